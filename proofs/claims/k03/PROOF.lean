import PyProof.Rows.All
import Wide.All
import OpenK.AllK
import Wide.FinOn
import PySem.Challenge.RW_whowinsforever_k03_plays_and_plans
import HandS.ForMost
import HandS.ForExc
import HandS.Walk
import HandS.Exc
import HandS.Lambda
import HandS.TupAny
import HandS.TupMul
import HandS.TupLe
import HandS.IsInst
import HandS.Wide
import KE.KExcIs
import HandS.Style
import HandS.Sort
import HandS.SetFor
import HandS.Conv
import HandS.Deep
import KE.GoesEnum
import HandS.Star
import HandS.TupSets
import HandS.SortInts
import HandS.Strs
import HandS.Ends
import HandS.EndTab
import HandS.ExcInit
import HandS.Codes
set_option Elab.async false
set_option linter.all false
set_option maxRecDepth 100000
set_option maxHeartbeats 4000000
/-! Mini, part A: values by value and cells, the relation to the abstract heap, outcomes. -/
namespace Mi
open PySem PySem.Spec PyProof.Rows L2

inductive MV where
  | non | bl (b : Bool) | int (i : Int) | str (x : Str) | tup (xs : List MV) | lst (xs : List MV) | scr (xs : List MV) | cell (i : Nat)
  /-- a caught error: its class's number, its value -/
  | err (c : Nat) (v : MV)
  /-- a lambda of the frame that is walked, by its number; a def, by its number -/
  | lam (k : Nat) | fn (k : Nat)

/-- what is written of a lambda without parameters -/
structure LamD where
  q : Str
  params : Arguments
  body : Expr
  scope : Scope

/-- what all worlds of a program share: the tables of lambdas' code objects, the errors' classes; the lambdas of a frame, its cells -/
class Gb where
  T : List (Addr × Str)
  n : Nat
  cls : Nat → Addr
  fn : Nat → Addr
  lam : Nat → LamD
  fr : List (Str × Addr)
/-- a caught error: an object of the class at C, its dict at d -/
def ErO (a C d : Addr) : HO := .ext fun h => ∃ (oe : Obj) (vs : Array Value), h.get? a = some oe ∧ L2.Zc (.ref C) (some d) oe ∧ oe.data = .fields vs
/-- a lambda's object at a, its code object at c -/
def LamO (a : Addr) (d : LamD) (fr : List (Str × Addr)) (c : Addr) (pm ctv : Value) : HO := .ext fun h => h.get? a = some (PySem.W.kla_obj "<lambda>" (d.q ++ "<lambda>") d.params d.body d.scope (cloFrom fr d.scope.names []) pm c ctv)
variable [Gb]

inductive MObj where
  | lst (xs : List MV) | dk (kvs : List (Key × MV)) | dt (kvs : List (List Key × MV))

abbrev MH := List (Option MObj)

inductive Out (A : Type) where
  | stuck | ok (a : A) (h : MH) | exn (c : Nat) (v : MV) (h : MH)

def M (A : Type) := MH → Out A
def M.pure {A : Type} (a : A) : M A := fun h => .ok a h
def M.bind {A B : Type} (m : M A) (f : A → M B) : M B := fun h => match m h with
  | .stuck => .stuck
  | .ok a h' => f a h'
  | .exn c v h' => .exn c v h'
def M.stuck {A : Type} : M A := fun _ => .stuck

/-- the world of a moment: the cells' addresses, the cells, the abstract heap -/
structure Wd where
  rho : List Addr
  h : MH
  H : Hp

def Wd.live (w : Wd) (a : Addr) : Prop := ∃ (i : Nat) (o : MObj), w.h[i]? = some (some o) ∧ w.rho[i]? = some a

mutual
def RV (w : Wd) : MV → V → Prop
  | .non, u => u = .non
  | .bl b, u => u = .bl b
  | .int i, u => u = .int i
  | .str x, u => u = .str x
  | .tup xs, u => ∃ a us, u = .ref a ∧ w.H a = some (.tup us) ∧ RVs w xs us
  | .lst xs, u => ∃ a us, u = .ref a ∧ w.H a = some (.lst us) ∧ ¬ w.live a ∧ RVs w xs us
  | .scr xs, u => ∃ a o us, u = .ref a ∧ w.H a = some (.frz o (.lst us)) ∧ RVs w xs us
  | .cell i, u => ∃ a, u = .ref a ∧ w.rho[i]? = some a
  | .err c v, u => c < Gb.n ∧ ∃ a d uv, u = .ref a ∧ w.H a = some (ErO a (Gb.cls c) d) ∧ w.H d = some (.xd [(("value" : Str), uv)]) ∧ RV w v uv
  | .lam k, u => ∃ a c pm ctv, u = .ref a ∧ w.H a = some (LamO a (Gb.lam k) Gb.fr c pm ctv) ∧ w.H c = some (LamX.CodeO c ((Gb.lam k).q ++ "<lambda>"))
  | .fn k, u => u = .ref (Gb.fn k)
def RVs (w : Wd) : List MV → List V → Prop
  | [], us => us = []
  | x :: xs, us => ∃ u r, us = u :: r ∧ RV w x u ∧ RVs w xs r
end

mutual
/-- no cell within -/
def MV.free : MV → Bool
  | .tup xs => MV.freeAll xs
  | .lst xs => MV.freeAll xs
  | .scr xs => MV.freeAll xs
  | .cell _ => false
  | .err _ _ => false
  | .lam _ => false
  | .fn _ => false
  | _ => true
def MV.freeAll : List MV → Bool
  | [] => true
  | x :: xs => MV.free x && MV.freeAll xs
end

mutual
/-- no cell within -/
def MV.cf : MV → Bool
  | .tup xs => MV.cfAll xs
  | .lst xs => MV.cfAll xs
  | .scr xs => MV.cfAll xs
  | .cell _ => false
  | .err _ v => MV.cf v
  | _ => true
def MV.cfAll : List MV → Bool
  | [] => true
  | x :: xs => MV.cf x && MV.cfAll xs
end
mutual
theorem MV.free_cf : ∀ v : MV, v.free = true → v.cf = true
  | .tup xs, f => by simp only [MV.cf]; exact MV.freeAll_cf xs (by simpa only [MV.free] using f)
  | .lst xs, f => by simp only [MV.cf]; exact MV.freeAll_cf xs (by simpa only [MV.free] using f)
  | .scr xs, f => by simp only [MV.cf]; exact MV.freeAll_cf xs (by simpa only [MV.free] using f)
  | .cell _, f => by simp [MV.free] at f
  | .err _ _, f => by simp [MV.free] at f
  | .lam _, _ => by simp only [MV.cf]
  | .fn _, _ => by simp only [MV.cf]
  | .non, _ => by simp only [MV.cf]
  | .bl _, _ => by simp only [MV.cf]
  | .int _, _ => by simp only [MV.cf]
  | .str _, _ => by simp only [MV.cf]
theorem MV.freeAll_cf : ∀ vs : List MV, MV.freeAll vs = true → MV.cfAll vs = true
  | [], _ => by simp only [MV.cfAll]
  | v :: vs, f => by
    simp only [MV.freeAll, Bool.and_eq_true] at f
    simp only [MV.cfAll, Bool.and_eq_true]
    exact ⟨MV.free_cf v f.1, MV.freeAll_cf vs f.2⟩
end

/-- keys alike, values told -/
def RK {A : Type} (w : Wd) (kvs : List (A × MV)) (us : List (A × V)) : Prop := kvs.map (·.1) = us.map (·.1) ∧ RVs w (kvs.map (·.2)) (us.map (·.2))
def MObj.vals : MObj → List MV
  | .lst xs => xs
  | .dk kvs => kvs.map (·.2)
  | .dt kvs => kvs.map (·.2)
def MObj.free (o : MObj) : Bool := MV.cfAll o.vals
def RO (w : Wd) (a : Addr) : MObj → Prop
  | .lst xs => ∃ us, w.H a = some (.lst us) ∧ RVs w xs us
  | .dk kvs => ∃ us, w.H a = some (.dK us) ∧ RK w kvs us
  | .dt kvs => ∃ us, w.H a = some (.dT us) ∧ RK w kvs us
theorem RO.to {w w' : Wd} {a : Addr} {o : MObj} (h : RO w a o) (e : ∀ u, w.H a = some u → w'.H a = some u) (m : ∀ us, RVs w o.vals us → RVs w' o.vals us) : RO w' a o := by
  cases o with
  | lst xs => obtain ⟨us, e1, r⟩ := h; exact ⟨us, e _ e1, m _ r⟩
  | dk xs => obtain ⟨us, e1, r⟩ := h; exact ⟨us, e _ e1, r.1, m _ r.2⟩
  | dt xs => obtain ⟨us, e1, r⟩ := h; exact ⟨us, e _ e1, r.1, m _ r.2⟩
theorem RO.vals {w : Wd} {a : Addr} {o : MObj} (h : RO w a o) : ∃ us, RVs w o.vals us := by
  cases o with
  | lst xs => obtain ⟨us, e1, r⟩ := h; exact ⟨us, r⟩
  | dk xs => obtain ⟨us, e1, r⟩ := h; exact ⟨_, r.2⟩
  | dt xs => obtain ⟨us, e1, r⟩ := h; exact ⟨_, r.2⟩

structure Wd.Ok (w : Wd) : Prop where
  len : w.rho.length = w.h.length
  obj : ∀ (i : Nat) (o : MObj) a, w.h[i]? = some (some o) → w.rho[i]? = some a → RO w a o
  inj : ∀ (i j : Nat) (oi oj : MObj) a, w.h[i]? = some (some oi) → w.h[j]? = some (some oj) → w.rho[i]? = some a → w.rho[j]? = some a → i = j
  tabs : LamX.Tabs Gb.T w.H

/-- behind some steps: the cells' addresses stay, what is no live cell stays, no live cell but old ones and new objects -/
structure Ext (w w' : Wd) : Prop where
  rho : ∀ (i : Nat) a, w.rho[i]? = some a → w'.rho[i]? = some a
  keep : ∀ a o, w.H a = some o → (∀ ps, o ≠ .tbl ps) → ¬ w.live a → w'.H a = some o
  liv : ∀ a, w'.live a → w.live a ∨ w.H a = none
  len : w.h.length ≤ w'.h.length
  cel : ∀ (i : Nat) (o : MObj), i < w.h.length → w'.h[i]? = some (some o) → w.h[i]? = some (some o) ∨ o.free = true
  tbl : ∀ a ps, w.H a = some (.tbl ps) → ¬ w.live a → ∃ ps', w'.H a = some (.tbl ps')

theorem Ext.refl (w : Wd) : Ext w w := ⟨fun _ _ h => h, fun _ _ h _ _ => h, fun _ h => .inl h, Nat.le_refl _, fun _ _ _ h => .inl h, fun _ ps h _ => ⟨ps, h⟩⟩
theorem tbl_or (o : HO) : (∃ ps, o = .tbl ps) ∨ ∀ ps, o ≠ .tbl ps := by
  by_cases c : ∃ ps, o = .tbl ps
  · exact .inl c
  · exact .inr fun ps e => c ⟨ps, e⟩
theorem Ext.there {a b : Wd} (x : Ext a b) {d : Addr} {o : HO} (e : a.H d = some o) (n : ¬ a.live d) : ∃ o', b.H d = some o' := by
  rcases tbl_or o with ⟨ps, rfl⟩ | c
  · obtain ⟨ps', e'⟩ := x.tbl d ps e n
    exact ⟨_, e'⟩
  · exact ⟨_, x.keep d o e c n⟩
theorem Ext.trans {a b c : Wd} (x : Ext a b) (y : Ext b c) : Ext a c where
  rho := fun i d h => y.rho i d (x.rho i d h)
  keep := fun d o h t n => y.keep d o (x.keep d o h t n) t fun l => (x.liv d l).elim n fun z => by rw [h] at z; cases z
  liv := fun d l => by
    rcases y.liv d l with z | z
    · exact x.liv d z
    · by_cases n : a.live d
      · exact .inl n
      · cases e : a.H d with
        | none => exact .inr rfl
        | some o =>
          obtain ⟨o', q⟩ := x.there e n
          rw [z] at q; cases q
  len := Nat.le_trans x.len y.len
  cel := fun i o hi h => by
    rcases y.cel i o (Nat.lt_of_lt_of_le hi x.len) h with z | z
    · exact x.cel i o hi z
    · exact .inr z
  tbl := fun d ps h n => by
    obtain ⟨ps1, e⟩ := x.tbl d ps h n
    exact y.tbl d ps1 e fun l => (x.liv d l).elim n fun z => by rw [h] at z; cases z

theorem live_kind {w : Wd} (k : w.Ok) {a : Addr} (l : w.live a) : ∃ o, w.H a = some o ∧ ((∃ xs, o = .lst xs) ∨ (∃ xs, o = .dK xs) ∨ ∃ xs, o = .dT xs) := by
  obtain ⟨i, o, h1, h2⟩ := l
  have q := k.obj i o a h1 h2
  cases o with
  | lst xs => obtain ⟨us, e, _⟩ := q; exact ⟨_, e, .inl ⟨_, rfl⟩⟩
  | dk xs => obtain ⟨us, e, _⟩ := q; exact ⟨_, e, .inr (.inl ⟨_, rfl⟩)⟩
  | dt xs => obtain ⟨us, e, _⟩ := q; exact ⟨_, e, .inr (.inr ⟨_, rfl⟩)⟩
theorem not_live_tup {w : Wd} (k : w.Ok) {a : Addr} {us : List V} (h : w.H a = some (.tup us)) : ¬ w.live a := fun l => by
  obtain ⟨o, e, q⟩ := live_kind k l
  rw [h] at e; cases e
  rcases q with ⟨_, q⟩ | ⟨_, q⟩ | ⟨_, q⟩ <;> cases q
theorem not_live_ext {w : Wd} (k : w.Ok) {a : Addr} {φ : Heap → Prop} (h : w.H a = some (.ext φ)) : ¬ w.live a := fun l => by
  obtain ⟨o, e, q⟩ := live_kind k l
  rw [h] at e; cases e
  rcases q with ⟨_, q⟩ | ⟨_, q⟩ | ⟨_, q⟩ <;> cases q
theorem not_live_xd {w : Wd} (k : w.Ok) {a : Addr} {fs : List (Str × V)} (h : w.H a = some (.xd fs)) : ¬ w.live a := fun l => by
  obtain ⟨o, e, q⟩ := live_kind k l
  rw [h] at e; cases e
  rcases q with ⟨_, q⟩ | ⟨_, q⟩ | ⟨_, q⟩ <;> cases q
theorem not_live_tbl {w : Wd} (k : w.Ok) {a : Addr} {ps : Array Value} (h : w.H a = some (.tbl ps)) : ¬ w.live a := fun l => by
  obtain ⟨o, e, q⟩ := live_kind k l
  rw [h] at e; cases e
  rcases q with ⟨_, q⟩ | ⟨_, q⟩ | ⟨_, q⟩ <;> cases q
theorem lamO_ne {a : Addr} {d : LamD} {fr : List (Str × Addr)} {c : Addr} {pm ctv : Value} (ps : Array Value) : LamO a d fr c pm ctv ≠ .tbl ps := fun z => by unfold LamO at z; cases z
theorem codO_ne {c : Addr} {q : Str} (ps : Array Value) : LamX.CodeO c q ≠ .tbl ps := fun z => by unfold LamX.CodeO at z; cases z
theorem erO_ne {a C d : Addr} (ps : Array Value) : ErO a C d ≠ .tbl ps := fun z => by unfold ErO at z; cases z
theorem not_live_frz {w : Wd} (k : w.Ok) {a : Addr} {o : Obj} {u : HO} (h : w.H a = some (.frz o u)) : ¬ w.live a := fun l => by
  obtain ⟨o, e, q⟩ := live_kind k l
  rw [h] at e; cases e
  rcases q with ⟨_, q⟩ | ⟨_, q⟩ | ⟨_, q⟩ <;> cases q

mutual
theorem RV.ext {w w' : Wd} (k : w.Ok) (E : Ext w w') : ∀ (v : MV) (u : V), RV w v u → RV w' v u
  | .non, _, h => by simpa only [RV] using h
  | .bl _, _, h => by simpa only [RV] using h
  | .int _, _, h => by simpa only [RV] using h
  | .str _, _, h => by simpa only [RV] using h
  | .tup xs, u, h => by
    simp only [RV] at h ⊢
    obtain ⟨a, us, e, h1, h2⟩ := h
    exact ⟨a, us, e, E.keep a _ h1 (fun _ z => by cases z) (not_live_tup k h1), RVs.ext k E xs us h2⟩
  | .lst xs, u, h => by
    simp only [RV] at h ⊢
    obtain ⟨a, us, e, h1, h0, h2⟩ := h
    exact ⟨a, us, e, E.keep a _ h1 (fun _ z => by cases z) h0, (fun l => (E.liv a l).elim h0 fun z => by (rw [h1] at z; cases z)), RVs.ext k E xs us h2⟩
  | .scr xs, u, h => by
    simp only [RV] at h ⊢
    obtain ⟨a, o, us, e, h1, h2⟩ := h
    exact ⟨a, o, us, e, E.keep a _ h1 (fun _ z => by cases z) (not_live_frz k h1), RVs.ext k E xs us h2⟩
  | .cell i, u, h => by
    simp only [RV] at h ⊢
    obtain ⟨a, e, h1⟩ := h
    exact ⟨a, e, E.rho i a h1⟩
  | .err c v, u, h => by
    simp only [RV] at h ⊢
    obtain ⟨hc, a, d, uv, e, h1, h2, h3⟩ := h
    exact ⟨hc, a, d, uv, e, E.keep a _ h1 erO_ne (not_live_ext k h1), E.keep d _ h2 (fun _ z => by cases z) (not_live_xd k h2), RV.ext k E v uv h3⟩
  | .lam _, u, h => by
    simp only [RV] at h ⊢
    obtain ⟨a, c, pm, ctv, e, h1, h2⟩ := h
    exact ⟨a, c, pm, ctv, e, E.keep a _ h1 lamO_ne (not_live_ext k h1), E.keep c _ h2 codO_ne (not_live_ext k h2)⟩
  | .fn _, u, h => by simpa only [RV] using h
theorem RVs.ext {w w' : Wd} (k : w.Ok) (E : Ext w w') : ∀ (vs : List MV) (us : List V), RVs w vs us → RVs w' vs us
  | [], _, h => by simpa only [RVs] using h
  | v :: vs, us, h => by
    simp only [RVs] at h ⊢
    obtain ⟨u, r, e, h1, h2⟩ := h
    exact ⟨u, r, e, RV.ext k E v u h1, RVs.ext k E vs r h2⟩
end

/-! ### facts on RVs -/
theorem RVs.length {w : Wd} : ∀ {xs : List MV} {us : List V}, RVs w xs us → xs.length = us.length
  | [], _, h => by simp only [RVs] at h; subst h; rfl
  | x :: xs, _, h => by
    simp only [RVs] at h
    obtain ⟨u, r, rfl, _, h2⟩ := h
    simp [RVs.length h2]
theorem RVs.get {w : Wd} : ∀ {xs : List MV} {us : List V} {i : Nat} {x : MV}, RVs w xs us → xs[i]? = some x → ∃ u, us[i]? = some u ∧ RV w x u
  | [], _, _, _, _, e => by simp at e
  | y :: xs, _, 0, x, h, e => by
    simp only [RVs] at h
    obtain ⟨u, r, rfl, h1, _⟩ := h
    simp at e; subst e
    exact ⟨u, rfl, h1⟩
  | y :: xs, _, i + 1, x, h, e => by
    simp only [RVs] at h
    obtain ⟨u, r, rfl, _, h2⟩ := h
    obtain ⟨v, e1, e2⟩ := RVs.get (i := i) (x := x) h2 (by simpa using e)
    exact ⟨v, by simpa using e1, e2⟩
theorem RVs.get' {w : Wd} {xs : List MV} {us : List V} {i : Nat} {u : V} (h : RVs w xs us) (e : us[i]? = some u) : ∃ x, xs[i]? = some x ∧ RV w x u := by
  have hl := h.length
  obtain ⟨hi, _⟩ := List.getElem?_eq_some_iff.mp e
  have hx : xs[i]? = some (xs[i]'(by omega)) := List.getElem?_eq_getElem _
  obtain ⟨v, e1, e2⟩ := h.get hx
  rw [e] at e1; cases e1
  exact ⟨_, hx, e2⟩
theorem RVs.nil {w : Wd} : RVs w [] [] := by simp only [RVs]
theorem RVs.cons {w : Wd} {x : MV} {xs : List MV} {u : V} {us : List V} (h : RV w x u) (t : RVs w xs us) : RVs w (x :: xs) (u :: us) := by
  simp only [RVs]; exact ⟨u, us, rfl, h, t⟩
theorem RVs.uncons {w : Wd} {x : MV} {xs : List MV} {us : List V} (h : RVs w (x :: xs) us) : ∃ u r, us = u :: r ∧ RV w x u ∧ RVs w xs r := by
  simpa only [RVs] using h
theorem RVs.append {w : Wd} : ∀ {xs ys : List MV} {us vs : List V}, RVs w xs us → RVs w ys vs → RVs w (xs ++ ys) (us ++ vs)
  | [], _, _, _, h, t => by simp only [RVs] at h; subst h; exact t
  | x :: xs, _, _, _, h, t => by
    obtain ⟨u, r, rfl, h1, h2⟩ := h.uncons
    exact RVs.cons h1 (RVs.append h2 t)
theorem RVs.take {w : Wd} : ∀ {xs : List MV} {us : List V} (n : Nat), RVs w xs us → RVs w (xs.take n) (us.take n)
  | _, _, 0, _ => by simp only [List.take_zero]; exact RVs.nil
  | [], _, n + 1, h => by simp only [RVs] at h; subst h; exact RVs.nil
  | x :: xs, _, n + 1, h => by
    obtain ⟨u, r, rfl, h1, h2⟩ := h.uncons
    exact RVs.cons h1 (RVs.take n h2)
theorem RVs.drop {w : Wd} : ∀ {xs : List MV} {us : List V} (n : Nat), RVs w xs us → RVs w (xs.drop n) (us.drop n)
  | _, _, 0, h => h
  | [], _, n + 1, h => by simp only [RVs] at h; subst h; exact RVs.nil
  | x :: xs, _, n + 1, h => by
    obtain ⟨u, r, rfl, h1, h2⟩ := h.uncons
    exact RVs.drop n h2
theorem RVs.set {w : Wd} {x : MV} {u : V} (hx : RV w x u) : ∀ {xs : List MV} {us : List V} (i : Nat), RVs w xs us → RVs w (xs.set i x) (us.set i u)
  | [], _, _, h => by simp only [RVs] at h; subst h; exact RVs.nil
  | y :: xs, _, 0, h => by
    obtain ⟨v, r, rfl, h1, h2⟩ := h.uncons
    exact RVs.cons hx h2
  | y :: xs, _, i + 1, h => by
    obtain ⟨v, r, rfl, h1, h2⟩ := h.uncons
    exact RVs.cons h1 (RVs.set hx i h2)
theorem RVs.one {w : Wd} {x : MV} {us : List V} (h : RVs w [x] us) : ∃ u, us = [u] ∧ RV w x u := by
  obtain ⟨u, r, rfl, h1, h2⟩ := h.uncons
  simp only [RVs] at h2; subst h2
  exact ⟨u, rfl, h1⟩
theorem RVs.two {w : Wd} {x y : MV} {us : List V} (h : RVs w [x, y] us) : ∃ u v, us = [u, v] ∧ RV w x u ∧ RV w y v := by
  obtain ⟨u, r, rfl, h1, h2⟩ := h.uncons
  obtain ⟨v, rfl, h3⟩ := h2.one
  exact ⟨u, v, rfl, h1, h3⟩
theorem RVs.zero {w : Wd} {us : List V} (h : RVs w [] us) : us = [] := by simpa only [RVs] using h

mutual
/-- all cells within stand below n -/
def MV.und (n : Nat) : MV → Prop
  | .tup xs => MV.undAll n xs
  | .lst xs => MV.undAll n xs
  | .scr xs => MV.undAll n xs
  | .cell i => i < n
  | .err _ v => MV.und n v
  | .lam _ => True
  | .fn _ => True
  | .non => True
  | .bl _ => True
  | .int _ => True
  | .str _ => True
def MV.undAll (n : Nat) : List MV → Prop
  | [] => True
  | x :: xs => MV.und n x ∧ MV.undAll n xs
end
mutual
theorem MV.und_free (n : Nat) : ∀ v : MV, v.free = true → v.und n
  | .non, _ => by simp only [MV.und]
  | .bl _, _ => by simp only [MV.und]
  | .int _, _ => by simp only [MV.und]
  | .str _, _ => by simp only [MV.und]
  | .tup xs, f => by simp only [MV.und]; exact MV.undAll_free n xs (by simpa only [MV.free] using f)
  | .lst xs, f => by simp only [MV.und]; exact MV.undAll_free n xs (by simpa only [MV.free] using f)
  | .scr xs, f => by simp only [MV.und]; exact MV.undAll_free n xs (by simpa only [MV.free] using f)
  | .cell _, f => by simp [MV.free] at f
  | .err _ v, f => by simp [MV.free] at f
  | .lam _, _ => by simp only [MV.und]
  | .fn _, _ => by simp only [MV.und]
theorem MV.undAll_free (n : Nat) : ∀ vs : List MV, MV.freeAll vs = true → MV.undAll n vs
  | [], _ => by simp only [MV.undAll]
  | v :: vs, f => by
    simp only [MV.freeAll, Bool.and_eq_true] at f
    simp only [MV.undAll]
    exact ⟨MV.und_free n v f.1, MV.undAll_free n vs f.2⟩
end
mutual
theorem MV.und_cf (n : Nat) : ∀ v : MV, v.cf = true → v.und n
  | .non, _ => by simp only [MV.und]
  | .bl _, _ => by simp only [MV.und]
  | .int _, _ => by simp only [MV.und]
  | .str _, _ => by simp only [MV.und]
  | .tup xs, f => by simp only [MV.und]; exact MV.undAll_cf n xs (by simpa only [MV.cf] using f)
  | .lst xs, f => by simp only [MV.und]; exact MV.undAll_cf n xs (by simpa only [MV.cf] using f)
  | .scr xs, f => by simp only [MV.und]; exact MV.undAll_cf n xs (by simpa only [MV.cf] using f)
  | .cell _, f => by simp [MV.cf] at f
  | .err _ v, f => by simp only [MV.und]; exact MV.und_cf n v (by simpa only [MV.cf] using f)
  | .lam _, _ => by simp only [MV.und]
  | .fn _, _ => by simp only [MV.und]
theorem MV.undAll_cf (n : Nat) : ∀ vs : List MV, MV.cfAll vs = true → MV.undAll n vs
  | [], _ => by simp only [MV.undAll]
  | v :: vs, f => by
    simp only [MV.cfAll, Bool.and_eq_true] at f
    simp only [MV.undAll]
    exact ⟨MV.und_cf n v f.1, MV.undAll_cf n vs f.2⟩
end
mutual
theorem RV.und {w : Wd} : ∀ (v : MV) (u : V), RV w v u → v.und w.rho.length
  | .non, _, _ => by simp only [MV.und]
  | .bl _, _, _ => by simp only [MV.und]
  | .int _, _, _ => by simp only [MV.und]
  | .str _, _, _ => by simp only [MV.und]
  | .tup xs, u, h => by
    simp only [RV] at h
    obtain ⟨a, us, e, h1, h2⟩ := h
    simp only [MV.und]; exact RVs.und xs us h2
  | .lst xs, u, h => by
    simp only [RV] at h
    obtain ⟨a, us, e, h1, h0, h2⟩ := h
    simp only [MV.und]; exact RVs.und xs us h2
  | .scr xs, u, h => by
    simp only [RV] at h
    obtain ⟨a, o, us, e, h1, h2⟩ := h
    simp only [MV.und]; exact RVs.und xs us h2
  | .cell i, u, h => by
    simp only [RV] at h
    obtain ⟨a, e, h1⟩ := h
    simp only [MV.und]; exact (List.getElem?_eq_some_iff.mp h1).1
  | .err c v, u, h => by
    simp only [RV] at h
    obtain ⟨hc, a, d, uv, e, h1, h2, h3⟩ := h
    simp only [MV.und]; exact RV.und v uv h3
  | .lam _, _, _ => by simp only [MV.und]
  | .fn _, _, _ => by simp only [MV.und]
theorem RVs.und {w : Wd} : ∀ (vs : List MV) (us : List V), RVs w vs us → MV.undAll w.rho.length vs
  | [], _, _ => by simp only [MV.undAll]
  | v :: vs, us, h => by
    obtain ⟨u, r, rfl, h1, h2⟩ := h.uncons
    simp only [MV.undAll]
    exact ⟨RV.und v u h1, RVs.und vs r h2⟩
end
mutual
/-- another world: the heap stays where v looks, no more live cells, the cells below n stand -/
theorem RV.move {w w' : Wd} {n : Nat} (eH : ∀ a o, w.H a = some o → (∀ ps, o ≠ .tbl ps) → ¬ w.live a → w'.H a = some o) (nl : ∀ a o, w.H a = some o → ¬ w.live a → ¬ w'.live a) (er : ∀ i a, i < n → w.rho[i]? = some a → w'.rho[i]? = some a) (k : w.Ok) : ∀ (v : MV) (u : V), v.und n → RV w v u → RV w' v u
  | .non, _, _, h => by simpa only [RV] using h
  | .bl _, _, _, h => by simpa only [RV] using h
  | .int _, _, _, h => by simpa only [RV] using h
  | .str _, _, _, h => by simpa only [RV] using h
  | .tup xs, u, f, h => by
    simp only [RV] at h ⊢
    simp only [MV.und] at f
    obtain ⟨a, us, e, h1, h2⟩ := h
    exact ⟨a, us, e, eH a _ h1 (fun _ z => by cases z) (not_live_tup k h1), RVs.move eH nl er k xs us f h2⟩
  | .lst xs, u, f, h => by
    simp only [RV] at h ⊢
    simp only [MV.und] at f
    obtain ⟨a, us, e, h1, h0, h2⟩ := h
    exact ⟨a, us, e, eH a _ h1 (fun _ z => by cases z) h0, nl a _ h1 h0, RVs.move eH nl er k xs us f h2⟩
  | .scr xs, u, f, h => by
    simp only [RV] at h ⊢
    simp only [MV.und] at f
    obtain ⟨a, o, us, e, h1, h2⟩ := h
    exact ⟨a, o, us, e, eH a _ h1 (fun _ z => by cases z) (not_live_frz k h1), RVs.move eH nl er k xs us f h2⟩
  | .cell i, u, f, h => by
    simp only [RV] at h ⊢
    simp only [MV.und] at f
    obtain ⟨a, e, h1⟩ := h
    exact ⟨a, e, er i a f h1⟩
  | .err c v, u, f, h => by
    simp only [RV] at h ⊢
    simp only [MV.und] at f
    obtain ⟨hc, a, d, uv, e, h1, h2, h3⟩ := h
    exact ⟨hc, a, d, uv, e, eH a _ h1 erO_ne (not_live_ext k h1), eH d _ h2 (fun _ z => by cases z) (not_live_xd k h2), RV.move eH nl er k v uv f h3⟩
  | .lam _, u, f, h => by
    simp only [RV] at h ⊢
    obtain ⟨a, c, pm, ctv, e, h1, h2⟩ := h
    exact ⟨a, c, pm, ctv, e, eH a _ h1 lamO_ne (not_live_ext k h1), eH c _ h2 codO_ne (not_live_ext k h2)⟩
  | .fn _, u, f, h => by simpa only [RV] using h
theorem RVs.move {w w' : Wd} {n : Nat} (eH : ∀ a o, w.H a = some o → (∀ ps, o ≠ .tbl ps) → ¬ w.live a → w'.H a = some o) (nl : ∀ a o, w.H a = some o → ¬ w.live a → ¬ w'.live a) (er : ∀ i a, i < n → w.rho[i]? = some a → w'.rho[i]? = some a) (k : w.Ok) : ∀ (vs : List MV) (us : List V), MV.undAll n vs → RVs w vs us → RVs w' vs us
  | [], _, _, h => by simpa only [RVs] using h
  | v :: vs, us, f, h => by
    obtain ⟨u, r, rfl, h1, h2⟩ := h.uncons
    simp only [MV.undAll] at f
    exact RVs.cons (RV.move eH nl er k v u f.1 h1) (RVs.move eH nl er k vs r f.2 h2)
end
end Mi

set_option Elab.async false
set_option linter.all false
set_option maxRecDepth 100000
set_option maxHeartbeats 4000000
/-! Mini, part B: what an outcome leads to; the judgements; names, constants, operators, tests, displays. -/
namespace Mi
open PySem PySem.Spec PyProof.Rows L2
variable [Gb]

abbrev EW := Nat → V → Hp → Prop
/-- the outcome o of steps from w leads to Q, an exception to E -/
def LeadG {A B : Type} (Rel : Wd → A → B → Prop) (w : Wd) (o : Out A) (Q : B → Hp → Prop) (E : EW) : Prop := match o with
  | .stuck => False
  | .ok a h => ∀ (w' : Wd) (b : B), w'.h = h → w'.Ok → Ext w w' → Rel w' a b → Q b w'.H
  | .exn c v h => ∀ (w' : Wd) (b : V), w'.h = h → w'.Ok → Ext w w' → RV w' v b → E c b w'.H
abbrev Lead := @LeadG _ MV V RV
abbrev LeadB := @LeadG _ Bool Bool (fun _ a b => a = b)
abbrev LeadA := @LeadG _ (List MV) (List V) RVs

section
variable {A B C D : Type} {R : Wd → A → B → Prop} {R' : Wd → C → D → Prop} {w w1 : Wd} {E : EW}
theorem LeadG.ext {o : Out A} {Q : B → Hp → Prop} (x : Ext w w1) (h : LeadG R w o Q E) : LeadG R w1 o Q E := by
  cases o with
  | stuck => exact h
  | ok a h0 => exact fun w' b e k y r => h w' b e k (x.trans y) r
  | exn c v h0 => exact fun w' b e k y r => h w' b e k (x.trans y) r
theorem lead_bind {m : M A} {f : A → M C} {Q : D → Hp → Prop} {P : B → Hp → Prop} (h : LeadG R' w (M.bind m f w.h) Q E)
    (k : ∀ (w1 : Wd) (a : A) (b : B), w1.Ok → Ext w w1 → R w1 a b → LeadG R' w1 (f a w1.h) Q E → P b w1.H) : LeadG R w (m w.h) P E := by
  unfold M.bind at h
  cases e : m w.h with
  | stuck => rw [e] at h; exact h
  | ok a h0 =>
    rw [e] at h
    intro w' b eh ok x r
    have h' : LeadG R' w (f a h0) Q E := h
    exact k w' a b ok x r (by rw [eh]; exact h'.ext x)
  | exn c v h0 => rw [e] at h; exact h
theorem lead_ok {a : A} {b : B} {Q : B → Hp → Prop} (h : LeadG R w (.ok a w.h) Q E) (k : w.Ok) (r : R w a b) : Q b w.H := h w b rfl k (.refl w) r
theorem lead_mono {o : Out A} {Q Q' : B → Hp → Prop} (h : LeadG R w o Q E) (q : ∀ b (w' : Wd), w'.Ok → Ext w w' → Q b w'.H → Q' b w'.H) : LeadG R w o Q' E := by
  cases o with
  | stuck => exact h
  | ok a h0 => exact fun w' b e k x r => q b w' k x (h w' b e k x r)
  | exn c v h0 => exact h
end

/-! ### slots -/
abbrev Ev := List (Option MV)
structure RE (w : Wd) (env : Ev) (sg : L2.St) : Prop where
  len : env.length = sg.length
  get : ∀ (i : Nat) v, env[i]? = some (some v) → ∃ u, sg[i]? = some (some u) ∧ RV w v u
theorem RE.ext {w w' : Wd} {env : Ev} {sg : L2.St} (k : w.Ok) (x : Ext w w') (r : RE w env sg) : RE w' env sg :=
  ⟨r.len, fun i v e => let ⟨u, e1, e2⟩ := r.get i v e; ⟨u, e1, RV.ext k x v u e2⟩⟩
theorem RE.set {w : Wd} {env : Ev} {sg : L2.St} {v : MV} {u : V} (r : RE w env sg) (i : Nat) (h : RV w v u) : RE w (env.set i (some v)) (sg.set i (some u)) := by
  refine ⟨by simp [r.len], fun j v' e => ?_⟩
  by_cases hj : i = j
  · subst hj
    by_cases hi : i < env.length
    · rw [List.getElem?_set_self hi] at e; cases e
      exact ⟨u, List.getElem?_set_self (by rw [← r.len]; exact hi), h⟩
    · rw [List.getElem?_eq_none (by simpa using hi)] at e; cases e
  · rw [List.getElem?_set_ne hj] at e
    obtain ⟨u', e1, e2⟩ := r.get j v' e
    exact ⟨u', by rw [List.getElem?_set_ne hj]; exact e1, e2⟩

abbrev EM := Ev → M MV
abbrev BM := Ev → M Bool
abbrev AM := Ev → M (List MV)
def tM (E : EW) (m : EM) : TE := fun sg H Q => ∃ w env, w.H = H ∧ w.Ok ∧ RE w env sg ∧ Lead w (m env w.h) Q E
def tMb (E : EW) (m : BM) : TT := fun sg H Q => ∃ w env, w.H = H ∧ w.Ok ∧ RE w env sg ∧ LeadB w (m env w.h) Q E
def tMa (E : EW) (m : AM) : TA := fun sg H Q => ∃ w env, w.H = H ∧ w.Ok ∧ RE w env sg ∧ LeadA w (m env w.h) Q E
def SE (X : Cx) (E : EW) (e : Expr) (m : EM) : Prop := PE X e (tM E m)
def ST (X : Cx) (E : EW) (e : Expr) (m : BM) : Prop := PT X e (tMb E m)
def SW (X : Cx) (E : EW) (e : Expr) (m : BM) : Prop := PW X e (tMb E m)
def SA (X : Cx) (E : EW) (es : List Expr) (m : AM) : Prop := PA X es (tMa E m)
/-- by values -/
def opR (E : EW) (f : MV → MV → M MV) : R2 := fun x y H Q => ∃ w a b, w.H = H ∧ w.Ok ∧ RV w a x ∧ RV w b y ∧ Lead w (f a b w.h) Q E
def unR (E : EW) (f : MV → M MV) : V → Hp → VK → Prop := fun x H Q => ∃ w a, w.H = H ∧ w.Ok ∧ RV w a x ∧ Lead w (f a w.h) Q E
def caR (E : EW) (f : List MV → M MV) : List V → Hp → VK → Prop := fun xs H Q => ∃ w as, w.H = H ∧ w.Ok ∧ RVs w as xs ∧ Lead w (f as w.h) Q E

/-! ### the words of the mini language -/
def var (i : Nat) : EM := fun env h => match env[i]? with
  | some (some v) => .ok v h
  | _ => .stuck
def con (v : MV) : EM := fun _ h => .ok v h
def bin (f : MV → MV → M MV) (a b : EM) : EM := fun env => (a env).bind fun x => (b env).bind fun y => f x y
def una (f : MV → M MV) (a : EM) : EM := fun env => (a env).bind f
def tst (a : EM) : BM := fun env => (a env).bind fun x => match x with
  | .bl c => M.pure c
  | _ => M.stuck
def bAnd (a b : BM) : BM := fun env => (a env).bind fun c => if c then b env else M.pure false
def bOr (a b : BM) : BM := fun env => (a env).bind fun c => if c then M.pure true else b env
def bNot (a : BM) : BM := fun env => (a env).bind fun c => M.pure (!c)
def vB (a : BM) : EM := fun env => (a env).bind fun c => M.pure (.bl c)
def iff (c : BM) (a b : EM) : EM := fun env => (c env).bind fun d => if d then a env else b env
def aNil : AM := fun _ => M.pure []
def aCons (a : EM) (r : AM) : AM := fun env => (a env).bind fun x => (r env).bind fun xs => M.pure (x :: xs)
/-- a new list: a cell, or by value -/
def newL (mt : Bool) (xs : List MV) : M MV := fun h =>
  if mt then .ok (.cell h.length) (h ++ [some (.lst xs)]) else .ok (.lst xs) h
def sized (xs : List MV) : Bool := decide (xs.length ≤ sizeLine)
def lstD (mt : Bool) (a : AM) : EM := fun env => (a env).bind fun xs => if sized xs then newL mt xs else M.stuck
def tupD (a : AM) : EM := fun env => (a env).bind fun xs => if sized xs then M.pure (.tup xs) else M.stuck

/-! ### new objects -/
section
variable {w : Wd} {p : Addr}
theorem live_old {w : Wd} {H : Hp} {a : Addr} : Wd.live { w with H := H } a ↔ w.live a := Iff.rfl
theorem Ext.new {o : HO} (hp : w.H p = none) : Ext w { w with H := upd w.H p o } :=
  ⟨fun _ _ h => h, fun a o' e _ _ => by
    show upd w.H p o a = some o'
    rw [upd_ne (ne_of_none e hp)]; exact e, fun _ l => .inl l, Nat.le_refl _, fun _ _ _ h => .inl h, fun a ps e _ => ⟨ps, by
    show upd w.H p o a = _
    rw [upd_ne (ne_of_none e hp)]; exact e⟩⟩
theorem tabs_new {H : Hp} {p : Addr} {o : HO} (t : LamX.Tabs Gb.T H) (hp : H p = none) : LamX.Tabs Gb.T (upd H p o) := t.ext fun b u e => by rw [upd_ne (ne_of_none e hp)]; exact e
theorem tabs_put {H : Hp} {p : Addr} {o u : HO} (t : LamX.Tabs Gb.T H) (hp : H p = some u) (n1 : ∀ ps, u ≠ .tbl ps) (n2 : ∀ φ, u ≠ .ext φ) : LamX.Tabs Gb.T (upd H p o) := fun q hq => by
  obtain ⟨ps, h1, h2, h3⟩ := t q hq
  have ne : ∀ {b : Addr} {v : HO}, H b = some v → v ≠ u → b ≠ p := fun {b v} e d z => by subst z; rw [hp] at e; exact d (Option.some.inj e).symm
  refine ⟨ps, by rw [upd_ne (ne h1 fun z => n1 ps z.symm)]; exact h1, h2, fun pos cv hc => ?_⟩
  obtain ⟨c, e1, e2⟩ := h3 pos cv hc
  exact ⟨c, e1, by rw [upd_ne (ne e2 fun z => n2 _ z.symm)]; exact e2⟩
theorem RO.ext {w w' : Wd} {a : Addr} {o : MObj} (k : w.Ok) (E : Ext w w') (h : RO w a o) (e : ∀ o, w.H a = some o → w'.H a = some o) : RO w' a o :=
  h.to e fun us r => RVs.ext k E _ _ r
theorem Wd.Ok.new {o : HO} (k : w.Ok) (hp : w.H p = none) : Wd.Ok { w with H := upd w.H p o } := by
  refine ⟨k.len, fun i ob a h1 h2 => ?_, k.inj, tabs_new k.tabs hp⟩
  refine (k.obj i ob a h1 h2).ext k (Ext.new hp) fun u e => ?_
  show upd w.H p o a = some u
  rw [upd_ne (ne_of_none e hp)]; exact e
theorem live_ne (k : w.Ok) (hp : w.H p = none) : ¬ w.live p := fun l => by
  obtain ⟨o, e, _⟩ := live_kind k l
  rw [hp] at e; cases e
theorem newT_ok {xs : List MV} {us : List V} {Q : VK} {E : EW} (h : Lead w (M.pure (MV.tup xs) w.h) Q E) (k : w.Ok) (r : RVs w xs us) (hp : w.H p = none) : Q (.ref p) (upd w.H p (.tup us)) := by
  refine h { w with H := upd w.H p (.tup us) } (.ref p) rfl (k.new hp) (Ext.new hp) ?_
  simp only [RV]
  exact ⟨p, us, rfl, upd_same, RVs.ext k (Ext.new hp) _ _ r⟩
/-- w with a new cell behind -/
def Wd.more (w : Wd) (p : Addr) (o : MObj) (u : HO) : Wd := ⟨w.rho ++ [p], w.h ++ [some o], upd w.H p u⟩
theorem live_more {o : MObj} {u : HO} (k : w.Ok) {a : Addr} (l : (w.more p o u).live a) : w.live a ∨ a = p := by
  obtain ⟨i, ob, h1, h2⟩ := l
  have h1 : (w.h ++ [some o])[i]? = some (some ob) := h1
  have h2 : (w.rho ++ [p])[i]? = some a := h2
  by_cases hi : i < w.h.length
  · rw [List.getElem?_append_left hi] at h1
    rw [List.getElem?_append_left (by rw [k.len]; exact hi)] at h2
    exact .inl ⟨i, ob, h1, h2⟩
  · rw [List.getElem?_append_right (by rw [k.len]; omega)] at h2
    have : (i - w.rho.length) = 0 := by
      rcases Nat.lt_or_ge (i - w.rho.length) 1 with q | q
      · omega
      · rw [List.getElem?_eq_none (by simpa using q)] at h2; cases h2
    rw [this] at h2
    simp at h2
    exact .inr h2.symm
theorem Ext.more {o : MObj} {u : HO} (k : w.Ok) (hp : w.H p = none) : Ext w (w.more p o u) := by
  refine ⟨fun i a h => ?_, fun a ob e _ _ => ?_, fun a l => ?_, by show w.h.length ≤ (w.h ++ [some o]).length; simp, fun i ob hi h => .inl (by
    have h : (w.h ++ [some o])[i]? = some (some ob) := h
    rwa [List.getElem?_append_left hi] at h), fun a ps e _ => ⟨ps, by
    show upd w.H p u a = _
    rw [upd_ne (ne_of_none e hp)]; exact e⟩⟩
  · show (w.rho ++ [p])[i]? = some a
    rw [List.getElem?_append_left (List.getElem?_eq_some_iff.mp h).1]; exact h
  · show upd w.H p u a = some ob
    rw [upd_ne (ne_of_none e hp)]; exact e
  · rcases live_more k l with z | z
    · exact .inl z
    · subst z; exact .inr hp
theorem Wd.Ok.more {o : MObj} {u : HO} (k : w.Ok) (hp : w.H p = none) (ro : RO (w.more p o u) p o) : (w.more p o u).Ok := by
  have ix : ∀ (i : Nat) (ob : MObj) (a : Addr), (w.h ++ [some o])[i]? = some (some ob) → (w.rho ++ [p])[i]? = some a → (i < w.h.length ∧ w.h[i]? = some (some ob) ∧ w.rho[i]? = some a) ∨ (i = w.h.length ∧ ob = o ∧ a = p) := by
    intro i ob a h1 h2
    by_cases hi : i < w.h.length
    · rw [List.getElem?_append_left hi] at h1
      rw [List.getElem?_append_left (by rw [k.len]; exact hi)] at h2
      exact .inl ⟨hi, h1, h2⟩
    · have hlt : i < (w.h ++ [some o]).length := (List.getElem?_eq_some_iff.mp h1).1
      have e : i = w.h.length := by simp at hlt; omega
      subst e
      rw [List.getElem?_append_right (Nat.le_refl _)] at h1
      rw [List.getElem?_append_right (by rw [k.len]; exact Nat.le_refl _)] at h2
      simp [k.len] at h1 h2
      exact .inr ⟨rfl, h1.symm, h2.symm⟩
  refine ⟨by show (w.rho ++ [p]).length = (w.h ++ [some o]).length; simp [k.len], fun i ob a h1 h2 => ?_, fun i j oi oj a h1 h2 h3 h4 => ?_, tabs_new k.tabs hp⟩
  · rcases ix i ob a h1 h2 with ⟨hi, e1, e2⟩ | ⟨hi, rfl, rfl⟩
    · refine (k.obj i ob a e1 e2).ext k (Ext.more k hp) fun u' e => ?_
      show upd w.H p u a = some u'
      rw [upd_ne (ne_of_none e hp)]; exact e
    · exact ro
  · rcases ix i oi a h1 h3 with ⟨hi, e1, e2⟩ | ⟨hi, _, rfl⟩
    · rcases ix j oj a h2 h4 with ⟨hj, e3, e4⟩ | ⟨hj, _, rfl⟩
      · exact k.inj i j oi oj a e1 e3 e2 e4
      · exact absurd ⟨i, oi, e1, e2⟩ (live_ne k hp)
    · rcases ix j oj a h2 h4 with ⟨hj, e3, e4⟩ | ⟨hj, _, _⟩
      · exact absurd ⟨j, oj, e3, e4⟩ (live_ne k hp)
      · omega
theorem newL_ok {mt : Bool} {xs : List MV} {us : List V} {Q : VK} {E : EW} (h : Lead w (newL mt xs w.h) Q E) (k : w.Ok) (r : RVs w xs us) (hp : w.H p = none) : Q (.ref p) (upd w.H p (.lst us)) := by
  unfold newL at h
  cases mt with
  | false =>
    rw [if_neg (by decide)] at h
    refine h { w with H := upd w.H p (.lst us) } (.ref p) rfl (k.new hp) (Ext.new hp) ?_
    simp only [RV]
    exact ⟨p, us, rfl, upd_same, (fun l => live_ne k hp l), RVs.ext k (Ext.new hp) _ _ r⟩
  | true =>
    rw [if_pos rfl] at h
    have X : Ext w (w.more p (.lst xs) (.lst us)) := Ext.more k hp
    refine h (w.more p (.lst xs) (.lst us)) (.ref p) rfl (k.more hp ⟨us, upd_same, RVs.ext k X _ _ r⟩) X ?_
    simp only [RV]
    refine ⟨p, rfl, ?_⟩
    show (w.rho ++ [p])[w.h.length]? = some p
    rw [← k.len]; simp
end

/-! ### the walk of the words -/
section
variable {X : Cx} {E : EW} {a b c e : Expr} {es rest : List Expr} {ma mb mc : EM} {ta tb : BM} {ms : AM} {pos : Pos}
theorem se_var {i : Nat} {x : Str} (hN : X.N[i]? = some x) (hv : Vis X.env.scope x) (hd : (x == ("__debug__" : Str)) = false := by decide) (hcd : (x == ("__classdict__" : Str)) = false := by decide) : SE X E (.Name x pos) (var i) := by
  refine ⟨fun pins s sg H Q I h => (pe_var hN hv hd hcd).run pins s sg H Q I ?_⟩
  obtain ⟨w, env, rfl, k, r, l⟩ := h
  unfold var at l
  cases q : env[i]? with
  | none => rw [q] at l; exact l.elim
  | some o =>
    rw [q] at l
    cases o with
    | none => exact l.elim
    | some v =>
      obtain ⟨u, e1, e2⟩ := r.get i v q
      exact ⟨u, e1, lead_ok l k e2⟩
/-- a constant -/
theorem se_con {v : MV} {u : V} (h : PE X e (tC u)) (r : ∀ w, RV w v u) : SE X E e (con v) := by
  refine ⟨fun pins s sg H Q I hw => h.run pins s sg H Q I ?_⟩
  obtain ⟨w, env, rfl, k, _, l⟩ := hw
  exact lead_ok l k (r w)
theorem se_int {i : Int} {j} : SE X E (.Constant (.int i) j pos) (con (.int i)) := se_con pe_int fun _ => by simp only [RV]
theorem se_bl {i : Bool} {j} : SE X E (.Constant (.bool i) j pos) (con (.bl i)) := se_con pe_bl fun _ => by simp only [RV]
theorem se_non {j} : SE X E (.Constant .none j pos) (con .non) := se_con pe_non fun _ => by simp only [RV]
theorem se_str {x : Str} {j} : SE X E (.Constant (.str x) j pos) (con (.str x)) := se_con pe_str fun _ => by simp only [RV]
theorem se_gint {x : Str} {i : Int} {t : Tok} (hg : Gl X x) (hm : X.mg x = some (.int i t)) (hd : (x == ("__debug__" : Str)) = false := by decide) : SE X E (.Name x pos) (con (.int i)) :=
  se_con (pe_glob hg hm (v := .int i) ⟨t, rfl⟩ hd) fun _ => by simp only [RV]
theorem se_gstr {x : Str} {i : Str} {t : Tok} (hg : Gl X x) (hm : X.mg x = some (.str i t)) (hd : (x == ("__debug__" : Str)) = false := by decide) : SE X E (.Name x pos) (con (.str i)) :=
  se_con (pe_glob hg hm (v := .str i) ⟨t, rfl⟩ hd) fun _ => by simp only [RV]

/-- two parts from the left, then an operation by values -/
theorem two_parts {f : MV → MV → M MV} {sg : L2.St} {H : Hp} {Q : VK} (h : tM E (bin f ma mb) sg H Q) : tOp (opR E f) (tM E ma) (tM E mb) sg H Q := by
  obtain ⟨w, env, rfl, k, r, l⟩ := h
  refine ⟨w, env, rfl, k, r, lead_bind l fun w1 x u k1 x1 r1 l1 => ?_⟩
  refine ⟨w1, env, rfl, k1, r.ext k x1, lead_bind l1 fun w2 y v k2 x2 r2 l2 => ?_⟩
  exact ⟨w2, x, y, rfl, k2, RV.ext k1 x2 _ _ r1, r2, l2⟩
theorem se_bin {op : Operator} {f : MV → MV → M MV} (ho : OpR X (binaryOp op) (opR E f)) (ha : SE X E a ma) (hb : SE X E b mb) : SE X E (.BinOp a op b pos) (bin f ma mb) :=
  ⟨fun pins s sg H Q I h => (pe_op ho ha hb).run pins s sg H Q I (two_parts h)⟩
theorem se_cmp {op : CmpOp} {f : MV → MV → M MV} (ho : OpR X (compareOp op) (opR E f)) (ha : SE X E a ma) (hb : SE X E b mb) (hm : behindInMarks op b = false) : SE X E (.Compare a [op] [b] pos) (bin f ma mb) :=
  ⟨fun pins s sg H Q I h => (pe_cmpR ho ha hb hm).run pins s sg H Q I (two_parts h)⟩
theorem one_part {f : MV → M MV} {sg : L2.St} {H : Hp} {Q : VK} (h : tM E (una f ma) sg H Q) : tUn (unR E f) (tM E ma) sg H Q := by
  obtain ⟨w, env, rfl, k, r, l⟩ := h
  exact ⟨w, env, rfl, k, r, lead_bind l fun w1 x u k1 x1 r1 l1 => ⟨w1, x, rfl, k1, r1, l1⟩⟩
theorem se_una {op : UnaryOp} {f : MV → M MV} (ho : UnR X (unaryOp op) (unR E f)) (ha : SE X E a ma) : SE X E (.UnaryOp op a pos) (una f ma) :=
  ⟨fun pins s sg H Q I h => (pe_un ho ha).run pins s sg H Q I (one_part h)⟩
theorem test_of {sg : L2.St} {H : Hp} {Q : Bool → Hp → Prop} (h : tMb E (tst ma) sg H Q) : tB (tM E ma) sg H Q := by
  obtain ⟨w, env, rfl, k, r, l⟩ := h
  refine ⟨w, env, rfl, k, r, lead_bind l fun w1 x u k1 x1 r1 l1 => ?_⟩
  cases x with
  | bl c =>
    simp only [RV] at r1
    exact ⟨c, r1, lead_ok (R := fun _ a b => a = b) l1 k1 rfl⟩
  | _ => exact l1.elim
theorem st_val (h : SE X E e ma) (he : ∀ whole, isTrue e X.env whole = (do let v ← whole; standAt e.pos; holding [v] (truthy v)) := by intro _; rfl) : ST X E e (tst ma) :=
  ⟨fun pins s sg H Q I hw => (pt_val h he).run pins s sg H Q I (test_of hw)⟩
theorem st_cmp {op : CmpOp} {f : MV → MV → M MV} (ho : OpR X (compareOp op) (opR E f)) (ha : SE X E a ma) (hb : SE X E b mb) (hm : behindInMarks op b = false) : ST X E (.Compare a [op] [b] pos) (tst (bin f ma mb)) := by
  refine ⟨fun pins s sg H Q I hw => (pt_cmpR ho ha hb hm).run pins s sg H Q I ?_⟩
  obtain ⟨w, env, rfl, k, r, l⟩ := hw
  refine two_parts ⟨w, env, rfl, k, r, lead_bind l fun w1 x u k1 x1 r1 l1 => ?_⟩
  cases x with
  | bl c =>
    simp only [RV] at r1
    exact ⟨c, r1, lead_ok (R := fun _ a b => a = b) l1 k1 rfl⟩
  | _ => exact l1.elim
/-- a < b < c -/
def chn (f g : MV → MV → M MV) (a b c : EM) : EM := fun env => (a env).bind fun x => (b env).bind fun y => (f x y).bind fun z => match z with
  | .bl true => (c env).bind fun u => g y u
  | .bl false => M.pure (.bl false)
  | _ => M.stuck
theorem se_chain {op op' : CmpOp} {f g : MV → MV → M MV} (ho : OpR X (compareOp op) (opR E f)) (ho' : OpR X (compareOp op') (opR E g)) (ha : SE X E a ma) (hb : SE X E b mb) (hc : SE X E c mc)
    (hm : lastMarks [op, op'] [b, c] = false := by with_unfolding_all rfl) : SE X E (.Compare a [op, op'] [b, c] pos) (chn f g ma mb mc) := by
  refine ⟨fun pins s sg H Q I h => (pe_chain ho ho' ha hb hc hm).run pins s sg H Q I ?_⟩
  obtain ⟨w, env, rfl, k, r, l⟩ := h
  refine ⟨w, env, rfl, k, r, lead_bind l fun w1 x u k1 x1 r1 l1 => ?_⟩
  refine ⟨w1, env, rfl, k1, r.ext k x1, lead_bind l1 fun w2 y v k2 x2 r2 l2 => ?_⟩
  refine ⟨w2, x, y, rfl, k2, RV.ext k1 x2 _ _ r1, r2, lead_bind l2 fun w3 z z' k3 x3 r3 l3 => ?_⟩
  cases z with
  | bl d =>
    simp only [RV] at r3
    refine ⟨d, r3, ?_⟩
    cases d with
    | true =>
      rw [if_pos rfl]
      refine ⟨w3, env, rfl, k3, ((r.ext k x1).ext k1 x2).ext k2 x3, lead_bind l3 fun w4 q q' k4 x4 r4 l4 => ?_⟩
      exact ⟨w4, y, q, rfl, k4, RV.ext k3 x4 _ _ (RV.ext k2 x3 _ _ r2), r4, l4⟩
    | false =>
      rw [if_neg (by decide)]
      exact lead_ok l3 k3 (by simp only [RV])
  | _ => exact l3.elim

/-! and, or, not -/
theorem sw_and1 (ha : ST X E a ta) : SW X E (.BoolOp .And [a] pos) ta := ⟨fun wh pins s sg H Q I h => (pw_and1 ha).run wh pins s sg H Q I h⟩
theorem sw_or1 (ha : ST X E a ta) : SW X E (.BoolOp .Or [a] pos) ta := ⟨fun wh pins s sg H Q I h => (pw_or1 ha).run wh pins s sg H Q I h⟩
theorem sw_and (ha : ST X E a ta) (hb : SW X E (.BoolOp .And (b :: rest) pos) tb) : SW X E (.BoolOp .And (a :: b :: rest) pos) (bAnd ta tb) := by
  refine ⟨fun wh pins s sg H Q I h => (pw_and ha hb).run wh pins s sg H Q I ?_⟩
  obtain ⟨w, env, rfl, k, r, l⟩ := h
  refine ⟨w, env, rfl, k, r, lead_bind l fun w1 x u k1 x1 r1 l1 => ?_⟩
  subst r1
  cases x with
  | true => rw [if_pos rfl] at l1 ⊢; exact ⟨w1, env, rfl, k1, r.ext k x1, l1⟩
  | false => rw [if_neg (by decide)] at l1 ⊢; exact lead_ok (R := fun _ a b => a = b) l1 k1 rfl
theorem sw_or (ha : ST X E a ta) (hb : SW X E (.BoolOp .Or (b :: rest) pos) tb) : SW X E (.BoolOp .Or (a :: b :: rest) pos) (bOr ta tb) := by
  refine ⟨fun wh pins s sg H Q I h => (pw_or ha hb).run wh pins s sg H Q I ?_⟩
  obtain ⟨w, env, rfl, k, r, l⟩ := h
  refine ⟨w, env, rfl, k, r, lead_bind l fun w1 x u k1 x1 r1 l1 => ?_⟩
  subst r1
  cases x with
  | true => rw [if_pos rfl] at l1 ⊢; exact lead_ok (R := fun _ a b => a = b) l1 k1 rfl
  | false => rw [if_neg (by decide)] at l1 ⊢; exact ⟨w1, env, rfl, k1, r.ext k x1, l1⟩
theorem st_w (h : SW X E e ta) : ST X E e ta := ⟨fun pins s sg H Q I hw => (PW.pt h).run pins s sg H Q I hw⟩
theorem st_not (ha : ST X E a ta) : ST X E (.UnaryOp .Not a pos) (bNot ta) := by
  refine ⟨fun pins s sg H Q I h => (pt_not ha).run pins s sg H Q I ?_⟩
  obtain ⟨w, env, rfl, k, r, l⟩ := h
  refine ⟨w, env, rfl, k, r, lead_bind l fun w1 x u k1 x1 r1 l1 => ?_⟩
  subst r1
  exact lead_ok (R := fun _ a b => a = b) l1 k1 rfl
/-- .. as values: the first parts are bools -/
def eAnd (a b : EM) : EM := fun env => (tst a env).bind fun c => if c then b env else M.pure (.bl false)
def eOr (a b : EM) : EM := fun env => (tst a env).bind fun c => if c then M.pure (.bl true) else b env
def eNot (a : EM) : EM := fun env => (tst a env).bind fun c => M.pure (.bl (!c))
theorem se_one {op} (ha : SE X E a ma) : SE X E (.BoolOp op [a] pos) ma := ⟨fun pins s sg H Q I h => (pe_one ha).run pins s sg H Q I h⟩
theorem part_b {f : Bool → M MV} {w : Wd} {env : Ev} {sg : L2.St} {Q : VK} {P : V → Hp → Prop} (k : w.Ok) (r : RE w env sg) (l : Lead w (((tst ma env).bind f) w.h) Q E)
    (q : ∀ (w1 : Wd) c, w1.Ok → Ext w w1 → Lead w1 (f c w1.h) Q E → P (.bl c) w1.H) : tM E ma sg w.H P := by
  refine ⟨w, env, rfl, k, r, ?_⟩
  have l' : LeadB w (tst ma env w.h) (fun c H1 => P (.bl c) H1) E := lead_bind l fun w1 c c' k1 x1 r1 l1 => by
    subst r1
    exact q w1 c k1 x1 l1
  refine lead_bind (R' := fun _ a b => a = b) l' fun w1 x u k1 x1 r1 l1 => ?_
  cases x with
  | bl c =>
    simp only [RV] at r1
    subst r1
    exact lead_ok (Q := fun c H1 => P (V.bl c) H1) (R := fun _ (a b : Bool) => a = b) l1 k1 rfl
  | _ => exact l1.elim
theorem se_and (ha : SE X E a ma) (hb : SE X E (.BoolOp .And (b :: rest) pos) mb) : SE X E (.BoolOp .And (a :: b :: rest) pos) (eAnd ma mb) := by
  refine ⟨fun pins s sg H Q I h => (pe_and ha hb).run pins s sg H Q I ?_⟩
  obtain ⟨w, env, rfl, k, r, l⟩ := h
  refine part_b k r l fun w1 c k1 x1 l1 => ⟨c, rfl, ?_⟩
  cases c with
  | true => rw [if_pos rfl] at l1 ⊢; exact ⟨w1, env, rfl, k1, r.ext k x1, l1⟩
  | false => rw [if_neg (by decide)] at l1 ⊢; exact lead_ok l1 k1 (by simp only [RV])
theorem se_or (ha : SE X E a ma) (hb : SE X E (.BoolOp .Or (b :: rest) pos) mb) : SE X E (.BoolOp .Or (a :: b :: rest) pos) (eOr ma mb) := by
  refine ⟨fun pins s sg H Q I h => (pe_or ha hb).run pins s sg H Q I ?_⟩
  obtain ⟨w, env, rfl, k, r, l⟩ := h
  refine part_b k r l fun w1 c k1 x1 l1 => ⟨c, rfl, ?_⟩
  cases c with
  | true => rw [if_pos rfl] at l1 ⊢; exact lead_ok l1 k1 (by simp only [RV])
  | false => rw [if_neg (by decide)] at l1 ⊢; exact ⟨w1, env, rfl, k1, r.ext k x1, l1⟩
theorem se_not (ha : SE X E a ma) : SE X E (.UnaryOp .Not a pos) (eNot ma) := by
  refine ⟨fun pins s sg H Q I h => (pe_not ha).run pins s sg H Q I ?_⟩
  obtain ⟨w, env, rfl, k, r, l⟩ := h
  exact part_b k r l fun w1 c k1 x1 l1 => ⟨c, rfl, lead_ok l1 k1 (by simp only [RV])⟩
theorem se_iff (hc : ST X E c ta) (ha : SE X E a ma) (hb : SE X E b mb) : SE X E (.IfExp c a b pos) (iff ta ma mb) := by
  refine ⟨fun pins s sg H Q I h => (pe_ifExp hc ha hb).run pins s sg H Q I ?_⟩
  obtain ⟨w, env, rfl, k, r, l⟩ := h
  refine ⟨w, env, rfl, k, r, lead_bind l fun w1 x u k1 x1 r1 l1 => ?_⟩
  subst r1
  cases x with
  | true => rw [if_pos rfl] at l1 ⊢; exact ⟨w1, env, rfl, k1, r.ext k x1, l1⟩
  | false => rw [if_neg (by decide)] at l1 ⊢; exact ⟨w1, env, rfl, k1, r.ext k x1, l1⟩

/-! argument lists, displays -/
theorem sa_nil : SA X E [] aNil := by
  refine ⟨fun pos pins s sg H Q I h => pa_nil.run pos pins s sg H Q I ?_⟩
  obtain ⟨w, env, rfl, k, r, l⟩ := h
  exact lead_ok l k RVs.nil
theorem sa_cons (ha : SE X E a ma) (hr : SA X E es ms) (hs : starEach (a :: es) X.env = (false, eval a X.env) :: starEach es X.env := by rfl) : SA X E (a :: es) (aCons ma ms) := by
  refine ⟨fun pos pins s sg H Q I h => (pa_cons ha hr hs).run pos pins s sg H Q I ?_⟩
  obtain ⟨w, env, rfl, k, r, l⟩ := h
  refine ⟨w, env, rfl, k, r, lead_bind l fun w1 x u k1 x1 r1 l1 => ?_⟩
  refine ⟨w1, env, rfl, k1, r.ext k x1, lead_bind l1 fun w2 xs us k2 x2 r2 l2 => ?_⟩
  exact lead_ok l2 k2 (RVs.cons (RV.ext k1 x2 _ _ r1) r2)
theorem se_lst {mt : Bool} (h : SA X E es ms) : SE X E (.List es pos) (lstD mt ms) := by
  refine ⟨fun pins s sg H Q I hw => (pe_lst h).run pins s sg H Q I ?_⟩
  obtain ⟨w, env, rfl, k, r, l⟩ := hw
  refine ⟨w, env, rfl, k, r, lead_bind l fun w1 xs us k1 x1 r1 l1 => ?_⟩
  cases z : sized xs with
  | false => rw [z, if_neg (by decide)] at l1; exact l1.elim
  | true =>
    rw [z, if_pos rfl] at l1
    exact ⟨by rw [← r1.length]; exact of_decide_eq_true z, fun p hp => newL_ok l1 k1 r1 hp⟩
theorem se_tup {x1} (h : SA X E es ms) : SE X E (.Tuple es x1 pos) (tupD ms) := by
  refine ⟨fun pins s sg H Q I hw => (pe_tup h).run pins s sg H Q I ?_⟩
  obtain ⟨w, env, rfl, k, r, l⟩ := hw
  refine ⟨w, env, rfl, k, r, lead_bind l fun w1 xs us k1 x1 r1 l1 => ?_⟩
  cases z : sized xs with
  | false => rw [z, if_neg (by decide)] at l1; exact l1.elim
  | true =>
    rw [z, if_pos rfl] at l1
    exact ⟨by rw [← r1.length]; exact of_decide_eq_true z, fun p hp => newT_ok l1 k1 r1 hp⟩
end
end Mi

set_option Elab.async false
set_option linter.all false
set_option maxRecDepth 100000
set_option maxHeartbeats 4000000
/-! Mini, part C: statements, targets, loops, comprehensions. -/
namespace Mi
open PySem PySem.Spec PyProof.Rows L2
variable [Gb]

inductive Fl where
  | nx (env : Ev) | rt (v : MV)
abbrev SM := Ev → M Fl
def RF (w : Wd) : Fl → Sum L2.St V → Prop
  | .nx env, .inl sg => RE w env sg
  | .rt v, .inr u => RV w v u
  | _, _ => False
def QF (D : Ends) : Sum L2.St V → Hp → Prop
  | .inl sg, H => D.nx sg H
  | .inr u, H => D.rt u H
abbrev LeadF (w : Wd) (o : Out Fl) (D : Ends) (E : EW) : Prop := LeadG RF w o (QF D) E
def tS (E : EW) (m : SM) : TS := fun D sg H => ∃ w env, w.H = H ∧ w.Ok ∧ RE w env sg ∧ LeadF w (m env w.h) D E
def SS (X : Cx) (E : EW) (st : Stmt) (m : SM) : Prop := PS X st (tS E m)
def SB (X : Cx) (E : EW) (sts : List Stmt) (m : SM) : Prop := PSs X sts (tS E m)
abbrev GM := MV → Ev → M Ev
abbrev GMs := List MV → Ev → M Ev
/-- a target that stores in the slots own alone -/
def tG (E : EW) (own : List Nat) (g : GM) : TG := fun u sg H Q => ∃ w env v, w.H = H ∧ w.Ok ∧ RE w env sg ∧ RV w v u ∧ LeadG RE w (g v env w.h) (fun sg' H' => wipe sg' own = wipe sg own → Q sg' H') E
def tGs (E : EW) (own : List Nat) (g : GMs) : TGs := fun us sg H Q => ∃ w env vs, w.H = H ∧ w.Ok ∧ RE w env sg ∧ RVs w vs us ∧ LeadG RE w (g vs env w.h) (fun sg' H' => wipe sg' own = wipe sg own → Q sg' H') E
def SG (X : Cx) (E : EW) (own : List Nat) (t : Expr) (g : GM) : Prop := PG X t (tG E own g)
def SGs (X : Cx) (E : EW) (own : List Nat) (ts : List Expr) (g : GMs) : Prop := PGs X ts (tGs E own g)
theorem wipe_at {A : Type} (sg : L2.St) : ∀ (vs : List Nat) (j : Nat), (wipe sg vs)[j]? = if j ∈ vs then (if j < sg.length then some none else none) else sg[j]?
  | [], j => by simp [wipe]
  | v :: vs, j => by
    have ih := wipe_at (A := A) sg vs j
    unfold wipe
    by_cases e : v = j
    · subst e
      by_cases hl : v < sg.length
      · rw [List.getElem?_set_self (by rw [wipe_length]; exact hl)]; simp [hl]
      · rw [List.getElem?_eq_none (by rw [List.length_set, wipe_length]; omega)]; simp [hl]
    · rw [List.getElem?_set_ne e, ih]
      have e' : ¬ j = v := fun z => e z.symm
      simp [e']
theorem wipe_set (sg : L2.St) (vs : List Nat) (i : Nat) (x : Option V) (h : i ∈ vs) : wipe (sg.set i x) vs = wipe sg vs := by
  apply List.ext_getElem?
  intro j
  rw [wipe_at (A := Nat), wipe_at (A := Nat), List.length_set]
  by_cases hj : j ∈ vs
  · simp [hj]
  · simp only [hj, if_false]
    rw [List.getElem?_set_ne (by intro z; subst z; exact hj h)]

/-! ### the words -/
def sNil : SM := fun env => M.pure (.nx env)
def sSeq (a b : SM) : SM := fun env => (a env).bind fun f => match f with
  | .nx env' => b env'
  | .rt v => M.pure (.rt v)
def sSet (i : Nat) (e : EM) : SM := fun env => (e env).bind fun v => M.pure (.nx (env.set i (some v)))
def sRet (e : EM) : SM := fun env => (e env).bind fun v => M.pure (.rt v)
def sRetN : SM := fun _ => M.pure (.rt .non)
def sExp (e : EM) : SM := fun env => (e env).bind fun _ => M.pure (.nx env)
def sIf (c : BM) (a b : SM) : SM := fun env => (c env).bind fun d => if d then a env else b env
def sNever : SM := fun _ => M.stuck
def sAsg (e : EM) (g : GM) : SM := fun env => (e env).bind fun v => (g v env).bind fun env' => M.pure (.nx env')
def gN (i : Nat) : GM := fun v env => M.pure (env.set i (some v))
def gsNil : GMs := fun vs env => match vs with
  | [] => M.pure env
  | _ => M.stuck
def gsCons (g : GM) (r : GMs) : GMs := fun vs env => match vs with
  | v :: vs => (g v env).bind fun env' => r vs env'
  | [] => M.stuck
def gT (n : Nat) (g : GMs) : GM := fun v env => match v with
  | .tup xs => if xs.length = n then g xs env else M.stuck
  | _ => M.stuck
def gSub (f : MV → MV → MV → M Unit) (o i : EM) : GM := fun v env => (o env).bind fun x => (i env).bind fun y => (f x y v).bind fun _ => M.pure env
/-- x, y = a, b at two plain names -/
def sPar (i j : Nat) (a : AM) : SM := fun env => (a env).bind fun vs => match vs with
  | [v, w] => M.pure (.nx ((env.set i (some v)).set j (some w)))
  | _ => M.stuck
/-- a loop over items -/
def loop (g : GM) (b : SM) : List MV → SM
  | [], env => M.pure (.nx env)
  | v :: vs, env => (g v env).bind fun env' => (b env').bind fun f => match f with
    | .nx env2 => loop g b vs env2
    | .rt u => M.pure (.rt u)
def sFor (it : AM) (g : GM) (b : SM) : SM := fun env => (it env).bind fun vs => loop g b vs env
/-- at most n turns -/
def whl (c : BM) (b : SM) : Nat → SM
  | 0, _ => M.stuck
  | n + 1, env => (c env).bind fun d => if d then (b env).bind fun f => match f with
      | .nx env2 => whl c b n env2
      | .rt u => M.pure (.rt u)
    else M.pure (.nx env)
def whlMost : Nat := 1000000
def sWhl (c : BM) (b : SM) : SM := whl c b whlMost

section
variable {X : Cx} {E : EW} {st : Stmt} {rest sts : List Stmt} {ma mb : SM} {e : Expr} {me : EM} {pos : Pos} {own : List Nat}
theorem sb_nil : SB X E [] sNil := by
  refine ⟨fun pins s sg H D I h => pss_nil.run pins s sg H D I ?_⟩
  obtain ⟨w, env, rfl, k, r, l⟩ := h
  exact lead_ok (b := Sum.inl sg) l k r
theorem seq_of {D : Ends} {w : Wd} {env : Ev} {sg : L2.St} (k : w.Ok) (r : RE w env sg) (l : LeadF w (sSeq ma mb env w.h) D E) : tS E ma { D with nx := tS E mb D } sg w.H := by
  refine ⟨w, env, rfl, k, r, lead_bind l fun w1 f b k1 x1 r1 l1 => ?_⟩
  cases f with
  | nx env' =>
    cases b with
    | inl sg' => exact ⟨w1, env', rfl, k1, r1, l1⟩
    | inr u => exact r1.elim
  | rt v =>
    cases b with
    | inl sg' => exact r1.elim
    | inr u => exact (show D.rt u w1.H from lead_ok (Q := QF D) (b := Sum.inr u) l1 k1 r1)
theorem sb_cons (h1 : SS X E st ma) (h2 : SB X E rest mb) : SB X E (st :: rest) (sSeq ma mb) := by
  refine ⟨fun pins s sg H D I h => (pss_cons h1 h2).run pins s sg H D I ?_⟩
  obtain ⟨w, env, rfl, k, r, l⟩ := h
  exact seq_of k r l
theorem sb_one (h1 : SS X E st ma) : SB X E [st] ma := ⟨fun pins s sg H D I h => (pss_one h1).run pins s sg H D I h⟩
theorem ss_pass : SS X E (.Pass pos) sNil := by
  refine ⟨fun pins s sg H D I h => ps_pass.run pins s sg H D I ?_⟩
  obtain ⟨w, env, rfl, k, r, l⟩ := h
  exact lead_ok (b := Sum.inl sg) l k r
theorem ss_never : SS X E st sNever := ⟨fun _ _ _ _ _ _ h => by obtain ⟨w, env, rfl, k, r, l⟩ := h; exact l.elim⟩
theorem ss_ret (he : SE X E e me) : SS X E (.Return (some e) pos) (sRet me) := by
  refine ⟨fun pins s sg H D I h => (ps_ret he).run pins s sg H D I ?_⟩
  obtain ⟨w, env, rfl, k, r, l⟩ := h
  exact ⟨w, env, rfl, k, r, lead_bind l fun w1 v u k1 x1 r1 l1 => lead_ok (b := Sum.inr u) l1 k1 r1⟩
theorem ss_retN : SS X E (.Return none pos) sRetN := by
  refine ⟨fun pins s sg H D I h => ps_retN.run pins s sg H D I ?_⟩
  obtain ⟨w, env, rfl, k, r, l⟩ := h
  exact lead_ok (b := Sum.inr V.non) l k (by simp only [RF, RV])
theorem ss_exp (he : SE X E e me) (hs : swapsWith e none pos.line X.env = pure false := by rfl) : SS X E (.Expr e pos) (sExp me) := by
  refine ⟨fun pins s sg H D I h => (ps_expr he hs).run pins s sg H D I ?_⟩
  obtain ⟨w, env, rfl, k, r, l⟩ := h
  exact ⟨w, env, rfl, k, r, lead_bind l fun w1 v u k1 x1 r1 l1 => lead_ok (b := Sum.inl sg) l1 k1 (r.ext k x1)⟩
theorem ss_if {c : Expr} {a b : List Stmt} {mc : BM} (hc : ST X E c mc) (ha : SB X E a ma) (hb : SB X E b mb) : SS X E (.If c a b pos) (sIf mc ma mb) := by
  refine ⟨fun pins s sg H D I h => (ps_if hc ha hb).run pins s sg H D I ?_⟩
  obtain ⟨w, env, rfl, k, r, l⟩ := h
  refine ⟨w, env, rfl, k, r, lead_bind l fun w1 d d' k1 x1 r1 l1 => ?_⟩
  subst r1
  cases d with
  | true => rw [if_pos rfl] at l1 ⊢; exact ⟨w1, env, rfl, k1, r.ext k x1, l1⟩
  | false => rw [if_neg (by decide)] at l1 ⊢; exact ⟨w1, env, rfl, k1, r.ext k x1, l1⟩
theorem ss_set {i : Nat} {x : Str} {pos' : Pos} (hN : X.N.Nodup) (hi : X.N[i]? = some x) (hx : Loc X.env.scope x) (he : SE X E e me) (hs : swapsWith e (some (.Name x pos')) pos.line X.env = pure false := by rfl)
    (hf : X.fn x = true ∨ X.env.scope.names.lookup x = some .local := by first | exact .inl rfl | exact .inr rfl | assumption) : SS X E (.Assign [.Name x pos'] e pos) (sSet i me) := by
  refine ⟨fun pins s sg H D I h => (ps_set hN hi hx he hs hf).run pins s sg H D I ?_⟩
  obtain ⟨w, env, rfl, k, r, l⟩ := h
  exact ⟨w, env, rfl, k, r, lead_bind l fun w1 v u k1 x1 r1 l1 => lead_ok (b := Sum.inl (sg.set i (some u))) l1 k1 ((r.ext k x1).set i r1)⟩
/-! targets -/
theorem sg_name {i : Nat} {x : Str} (ho : i ∈ own) (hN : X.N.Nodup) (hi : X.N[i]? = some x) (hx : Loc X.env.scope x) (hf : X.fn x = true ∨ X.env.scope.names.lookup x = some .local := by first | exact .inl rfl | exact .inr rfl | assumption) : SG X E own (.Name x pos) (gN i) := by
  refine ⟨fun pins s sg H v u Q I r h => (pg_name hN hi hx hf).run pins s sg H v u Q I r ?_⟩
  obtain ⟨w, env, v', rfl, k, re, rv, l⟩ := h
  exact lead_ok l k (re.set i rv) (wipe_set sg own i _ ho)
theorem sgs_nil : SGs X E own [] gsNil := by
  refine ⟨fun pins s sg H vs us Q I r h => pgs_nil.run pins s sg H vs us Q I r ?_⟩
  obtain ⟨w, env, ms, rfl, k, re, rv, l⟩ := h
  cases ms with
  | nil => exact ⟨rv.zero, lead_ok l k re rfl⟩
  | cons v vs => exact l.elim
theorem sgs_cons {t : Expr} {ts : List Expr} {g : GM} {gr : GMs} (h1 : SG X E own t g) (h2 : SGs X E own ts gr)
    (hs : (assignEach (t :: ts) X.env).map (·.2) = assign t X.env :: (assignEach ts X.env).map (·.2) := by rfl) : SGs X E own (t :: ts) (gsCons g gr) := by
  refine ⟨fun pins s sg H vs us Q I r h => (pgs_cons h1 h2 hs).run pins s sg H vs us Q I r ?_⟩
  obtain ⟨w, env, ms, rfl, k, re, rv, l⟩ := h
  cases ms with
  | nil => exact l.elim
  | cons v ms =>
    obtain ⟨u, rs, rfl, r1, r2⟩ := rv.uncons
    refine ⟨u, rs, rfl, w, env, v, rfl, k, re, r1, lead_bind l fun w1 env' sg' k1 x1 re1 l1 hw => ?_⟩
    exact ⟨w1, env', ms, rfl, k1, re1, RVs.ext k x1 _ _ r2, lead_mono l1 fun sg2 w2 _ _ q hw2 => q (hw2.trans hw)⟩
theorem sg_tup {es : List Expr} {kk : Nat} {g : GMs} {n : Nat} (hc : X.calm = true) (h : SGs X E own es g)
    (hn : (assignEach es X.env).length = n := by rfl) (hst : (assignEach es X.env).findIdx? (·.1) = none := by rfl) : SG X E own (.Tuple es kk pos) (gT n g) := by
  refine ⟨fun pins s sg H v u Q I r hw => (pg_tup hc h hn hst).run pins s sg H v u Q I r ?_⟩
  obtain ⟨w, env, v', rfl, k, re, rv, l⟩ := hw
  cases v' with
  | tup xs =>
    simp only [RV] at rv
    obtain ⟨a, us, e, h1, h2⟩ := rv
    have l : LeadG RE w ((if xs.length = n then g xs env else M.stuck) w.h) (fun sg' H' => wipe sg' own = wipe sg own → Q sg' H') E := l
    by_cases hl : xs.length = n
    · rw [if_pos hl] at l
      exact ⟨a, us, e, SqT.of h1, by rw [← h2.length]; exact hl, w, env, xs, rfl, k, re, h2, l⟩
    · rw [if_neg hl] at l; exact l.elim
  | _ => exact l.elim
theorem ss_asg {tg : Expr} {g : GM} (he : SE X E e me) (hg : SG X E own tg g) (hs : swapsWithSole [tg] e pos.line X.env = pure false := by rfl) (hw : swappedStores [tg] e X.env = pure none := by rfl)
    (h1 : (assignEach [tg] X.env).map (·.2) = [assign tg X.env] := by rfl) : SS X E (.Assign [tg] e pos) (sAsg me g) := by
  refine ⟨fun pins s sg H D I h => (ps_asg he hg hs hw h1).run pins s sg H D I ?_⟩
  obtain ⟨w, env, rfl, k, r, l⟩ := h
  refine ⟨w, env, rfl, k, r, lead_bind l fun w1 v u k1 x1 r1 l1 => ?_⟩
  refine ⟨w1, env, v, rfl, k1, r.ext k x1, r1, lead_bind l1 fun w2 env' sg' k2 x2 r2 l2 _ => ?_⟩
  exact lead_ok (Q := QF D) (b := Sum.inl sg') l2 k2 r2
theorem ss_par {i j : Nat} {x y : Str} {a b : Expr} {ma : AM} {px py pt : Pos} {kt k2 pt2} (hc : X.calm = true) (hN : X.N.Nodup) (hi : X.N[i]? = some x) (hj : X.N[j]? = some y) (hij : i ≠ j)
    (hx : X.env.scope.names.lookup x = some .local) (hy : X.env.scope.names.lookup y = some .local) (ha : SA X E [a, b] ma)
    (hw : swappedStores [.Tuple [.Name x px, .Name y py] kt pt] (.Tuple [a, b] k2 pt2) X.env = pure (some [x, y]))
    (hs : swapsWithSole [.Tuple [.Name x px, .Name y py] kt pt] (.Tuple [a, b] k2 pt2) pos.line X.env = pure false := by rfl) :
    SS X E (.Assign [.Tuple [.Name x px, .Name y py] kt pt] (.Tuple [a, b] k2 pt2) pos) (sPar i j ma) := by
  refine ⟨fun pins s sg H D I h => (ps_par hc hN hi hj hij hx hy ha hw hs).run pins s sg H D I ?_⟩
  obtain ⟨w, env, rfl, k, r, l⟩ := h
  refine ⟨w, env, rfl, k, r, lead_bind l fun w1 vs us k1 x1 r1 l1 => ?_⟩
  match vs, r1, l1 with
  | [v, v2], r1, l1 =>
    obtain ⟨u, u2, rfl, q1, q2⟩ := r1.two
    exact ⟨u, u2, rfl, lead_ok (Q := QF D) (b := Sum.inl ((sg.set i (some u)).set j (some u2))) l1 k1 (((r.ext k x1).set i q1).set j q2)⟩
  | [], _, l1 => exact l1.elim
  | [_], _, l1 => exact l1.elim
  | _ :: _ :: _ :: _, _, l1 => exact l1.elim

/-! ### loops -/
/-- J yields just these items, from worlds behind w -/
def ItOk (w : Wd) (xs : List MV) (J : It) : Prop := ∃ (G : Hp → Prop) (Y : Nat → Hp → V → Hp → Prop), Walk J xs.length G Y ∧
  (∀ w2 : Wd, w2.Ok → Ext w w2 → G w2.H) ∧
  ∀ (i : Nat) (u : V) (w2 : Wd) (H' : Hp), i < xs.length → w2.Ok → Ext w w2 → Y i w2.H u H' → ∃ w3 : Wd, w3.H = H' ∧ w3.h = w2.h ∧ w3.Ok ∧ Ext w2 w3 ∧ ∃ v, xs[i]? = some v ∧ RV w3 v u
def tI (E : EW) (m : AM) : TI := fun sg H R => ∃ w env, w.H = H ∧ w.Ok ∧ RE w env sg ∧ LeadG ItOk w (m env w.h) (fun J H => R J H) E
def SI (X : Cx) (E : EW) (tg iter : Expr) (m : AM) : Prop := PI X tg iter (tI E m)

theorem loop_cons {g : GM} {b : SM} {v : MV} {vs : List MV} {env : Ev} : loop g b (v :: vs) env = (g v env).bind fun env' => (b env').bind fun f => match f with
    | .nx env2 => loop g b vs env2
    | .rt u => M.pure (.rt u) := rfl
theorem ss_for {tg iter : Expr} {body : List Stmt} {it : AM} {g : GM} (hp : PassesOwn (model X.prog X.w) X.A X.env X.xe) (hc : X.calm = true) (hi : SI X E tg iter it) (hg : SG X E own tg g) (hb : SB X E body mb)
    (hs : ∀ x, foldedSetIterable iter X.env x = pure x := by intro _; rfl) : SS X E (.For tg iter body [] pos) (sFor it g mb) := by
  refine ⟨fun pins s sg H D I h => (ps_for hp hc hi hg hb hs).run pins s sg H D I ?_⟩
  obtain ⟨w, env, rfl, k, r, l⟩ := h
  refine ⟨w, env, rfl, k, r, lead_bind l fun w1 xs J k1 x1 r1 l1 => ?_⟩
  obtain ⟨G, Y, W, hG, hY⟩ := r1
  refine for_it W (fun i sg' H' => ∃ w2 env2, w2.H = H' ∧ w2.Ok ∧ Ext w1 w2 ∧ RE w2 env2 sg' ∧ LeadF w2 (loop g mb (xs.drop i) env2 w2.h) D E) ⟨w1, env, rfl, k1, .refl _, r.ext k x1, l1⟩ ?_ ?_ ?_
  · rintro i sg' H' hi ⟨w2, env2, rfl, k2, x2, _, _⟩
    exact hG w2 k2 x2
  · rintro i u sg' H' H'' hi ⟨w2, env2, rfl, k2, x2, r2, l2⟩ y
    obtain ⟨w3, rfl, eh, k3, x3, v, ev, rv⟩ := hY i u w2 H'' hi k2 x2 y
    have ed : xs.drop i = v :: xs.drop (i + 1) := by
      obtain ⟨h1, h2⟩ := List.getElem?_eq_some_iff.mp ev
      rw [List.drop_eq_getElem_cons h1, h2]
    rw [ed, loop_cons] at l2
    have l3 : LeadF w3 _ D E := l2.ext x3
    rw [← eh] at l3
    refine ⟨w3, env2, v, rfl, k3, r2.ext k2 x3, rv, lead_bind l3 fun w4 env4 sg4 k4 x4 r4 l4 _ => ?_⟩
    refine ⟨w4, env4, rfl, k4, r4, lead_bind l4 fun w5 f b5 k5 x5 r5 l5 => ?_⟩
    cases f with
    | nx env5 =>
      cases b5 with
      | inl sg5 => exact ⟨w5, env5, rfl, k5, ((x2.trans x3).trans x4).trans x5, r5, l5⟩
      | inr u => exact r5.elim
    | rt v =>
      cases b5 with
      | inl sg' => exact r5.elim
      | inr u => exact (show D.rt u w5.H from lead_ok (Q := QF D) (b := Sum.inr u) l5 k5 r5)
  · rintro sg' H' ⟨w2, env2, rfl, k2, x2, r2, l2⟩
    rw [List.drop_length] at l2
    exact lead_ok (Q := QF D) (b := Sum.inl sg') l2 k2 r2
theorem ss_whl {c : Expr} {body : List Stmt} {mc : BM} (hp : PassesOwn (model X.prog X.w) X.A X.env X.xe) (hc : ST X E c mc) (hb : SB X E body mb) : SS X E (.While c body [] pos) (sWhl mc mb) := by
  refine ⟨fun pins s sg H D I h => (ps_while hp hc hb).run pins s sg H D I ?_⟩
  obtain ⟨w, env, rfl, k, r, l⟩ := h
  refine ⟨fun n sg' H' => ∃ w2 env2, w2.H = H' ∧ w2.Ok ∧ RE w2 env2 sg' ∧ LeadF w2 (whl mc mb n env2 w2.h) D E, ⟨whlMost, w, env, rfl, k, r, l⟩, ?_⟩
  rintro m sg' H' ⟨w2, env2, rfl, k2, r2, l2⟩
  cases m with
  | zero => exact l2.elim
  | succ m =>
    refine ⟨w2, env2, rfl, k2, r2, lead_bind (f := fun d => if d then (mb env2).bind fun f => match f with
      | .nx env2 => whl mc mb m env2
      | .rt u => M.pure (.rt u)
    else M.pure (.nx env2)) l2 fun w3 d d' k3 x3 r3 l3 => ?_⟩
    subst r3
    cases d with
    | false =>
      rw [if_neg (by decide)] at l3 ⊢
      exact lead_ok (Q := QF D) (b := Sum.inl sg') l3 k3 (r2.ext k2 x3)
    | true =>
      rw [if_pos rfl] at l3 ⊢
      refine ⟨fun sg4 H4 => ∃ w2 env2, w2.H = H4 ∧ w2.Ok ∧ RE w2 env2 sg4 ∧ LeadF w2 (whl mc mb m env2 w2.h) D E, fun sg4 H4 q => ⟨m, Nat.lt_succ_self m, q⟩, ?_⟩
      refine ⟨w3, env2, rfl, k3, r2.ext k2 x3, lead_bind l3 fun w5 f b5 k5 x5 r5 l5 => ?_⟩
      cases f with
      | nx env5 =>
        cases b5 with
        | inl sg5 => exact ⟨w5, env5, rfl, k5, r5, l5⟩
        | inr u => exact r5.elim
      | rt v =>
        cases b5 with
        | inl sg' => exact r5.elim
        | inr u => exact (show D.rt u w5.H from lead_ok (Q := QF D) (b := Sum.inr u) l5 k5 r5)
end
end Mi

set_option Elab.async false
set_option linter.all false
set_option maxRecDepth 100000
set_option maxHeartbeats 4000000
/-! Mini, part D: cells written, comprehensions, calls. -/
namespace Mi
open PySem PySem.Spec PyProof.Rows L2
variable [Gb]

abbrev EF : EW := fun _ _ _ => False
def noX {A : Type} (m : M A) : M A := fun h => match m h with
  | .exn _ _ _ => .stuck
  | o => o
section
variable {A B C D : Type} {R : Wd → A → B → Prop} {R' : Wd → C → D → Prop} {wb w : Wd} {E : EW}
/-- the wished end reckoned from an elder world wb -/
theorem lead_bind0 {m : M A} {f : A → M C} {Q : D → Hp → Prop} {P : B → Hp → Prop} (h : LeadG R' wb (M.bind m f w.h) Q E) (xb : Ext wb w)
    (k : ∀ (w1 : Wd) (a : A) (b : B), w1.Ok → Ext w w1 → R w1 a b → LeadG R' wb (f a w1.h) Q E → P b w1.H) : LeadG R w (m w.h) P E := by
  unfold M.bind at h
  cases e : m w.h with
  | stuck => rw [e] at h; exact h
  | ok a h0 =>
    rw [e] at h
    intro w' b eh ok x r
    have h' : LeadG R' wb (f a h0) Q E := h
    exact k w' a b ok x r (by rw [eh]; exact h')
  | exn c v h0 =>
    rw [e] at h
    exact fun w' b eh ok x r => h w' b eh ok (xb.trans x) r
theorem lead_bindX {m : M A} {f : A → M C} {Q : D → Hp → Prop} {P : B → Hp → Prop} (h : LeadG R' wb (M.bind (noX m) f w.h) Q E)
    (k : ∀ (w1 : Wd) (a : A) (b : B), w1.Ok → Ext w w1 → R w1 a b → LeadG R' wb (f a w1.h) Q E → P b w1.H) : LeadG R w (m w.h) P EF := by
  unfold M.bind noX at h
  cases e : m w.h with
  | stuck => rw [e] at h; exact h
  | ok a h0 =>
    rw [e] at h
    intro w' b eh ok x r
    have h' : LeadG R' wb (f a h0) Q E := h
    exact k w' a b ok x r (by rw [eh]; exact h')
  | exn c v h0 => rw [e] at h; exact h.elim
end

/-! ### a cell written -/
def Wd.put (w : Wd) (i : Nat) (a : Addr) (o : MObj) (u : HO) : Wd := ⟨w.rho, w.h.set i (some o), upd w.H a u⟩
section
variable {w : Wd} {i : Nat} {a : Addr} {o o' : MObj} {u : HO}
theorem put_at (hi : w.h[i]? = some (some o)) {j : Nat} : (w.put i a o' u).h[j]? = if i = j then some (some o') else w.h[j]? := by
  show (w.h.set i (some o'))[j]? = _
  by_cases e : i = j
  · subst e
    rw [if_pos rfl, List.getElem?_set_self (List.getElem?_eq_some_iff.mp hi).1]
  · rw [if_neg e, List.getElem?_set_ne e]
theorem live_put (hi : w.h[i]? = some (some o)) (b : Addr) : (w.put i a o' u).live b ↔ w.live b := by
  constructor
  · rintro ⟨j, ob, h1, h2⟩
    rw [put_at hi] at h1
    by_cases e : i = j
    · subst e; exact ⟨i, o, hi, h2⟩
    · rw [if_neg e] at h1; exact ⟨j, ob, h1, h2⟩
  · rintro ⟨j, ob, h1, h2⟩
    by_cases e : i = j
    · subst e; exact ⟨i, o', by rw [put_at hi, if_pos rfl], h2⟩
    · exact ⟨j, ob, by rw [put_at hi, if_neg e]; exact h1, h2⟩
theorem RV.put (k : w.Ok) (hi : w.h[i]? = some (some o)) (ha : w.rho[i]? = some a) (v : MV) (x : V) (r : RV w v x) : RV (w.put i a o' u) v x := by
  refine RV.move (n := w.rho.length) (fun b ob e _ nl => ?_) (fun b ob _ nl l => nl ((live_put hi b).mp l)) (fun _ _ _ h => h) k v x (RV.und v x r) r
  show upd w.H a u b = some ob
  rw [upd_ne (by intro z; subst z; exact nl ⟨i, o, hi, ha⟩)]; exact e
theorem RVs.put (k : w.Ok) (hi : w.h[i]? = some (some o)) (ha : w.rho[i]? = some a) (v : List MV) (x : List V) (r : RVs w v x) : RVs (w.put i a o' u) v x := by
  refine RVs.move (n := w.rho.length) (fun b ob e _ nl => ?_) (fun b ob _ nl l => nl ((live_put hi b).mp l)) (fun _ _ _ h => h) k v x (RVs.und v x r) r
  show upd w.H a u b = some ob
  rw [upd_ne (by intro z; subst z; exact nl ⟨i, o, hi, ha⟩)]; exact e
theorem RE.put {env : Ev} {sg : L2.St} (k : w.Ok) (hi : w.h[i]? = some (some o)) (ha : w.rho[i]? = some a) (r : RE w env sg) : RE (w.put i a o' u) env sg :=
  ⟨r.len, fun j v e => let ⟨x, e1, e2⟩ := r.get j v e; ⟨x, e1, RV.put k hi ha v x e2⟩⟩
theorem Wd.Ok.put (k : w.Ok) (hi : w.h[i]? = some (some o)) (ha : w.rho[i]? = some a) (ro : RO (w.put i a o' u) a o') : (w.put i a o' u).Ok := by
  refine ⟨by show w.rho.length = (w.h.set i (some o')).length; rw [List.length_set]; exact k.len, fun j ob b h1 h2 => ?_, fun j j' oj oj' b h1 h2 h3 h4 => ?_, by
    obtain ⟨u0, e, q⟩ := live_kind k ⟨i, o, hi, ha⟩
    exact tabs_put k.tabs e (fun ps z => by rcases q with ⟨_, q⟩ | ⟨_, q⟩ | ⟨_, q⟩ <;> (rw [q] at z; cases z)) (fun φ z => by rcases q with ⟨_, q⟩ | ⟨_, q⟩ | ⟨_, q⟩ <;> (rw [q] at z; cases z))⟩
  · rw [put_at hi] at h1
    by_cases e : i = j
    · subst e
      rw [if_pos rfl] at h1
      have e2 : b = a := by have h2 : w.rho[i]? = some b := h2; rw [ha] at h2; cases h2; rfl
      cases h1; subst e2; exact ro
    · rw [if_neg e] at h1
      have nb : b ≠ a := fun z => e (k.inj i j o ob a hi h1 ha (by rw [← z]; exact h2))
      have q := k.obj j ob b h1 h2
      have un : (w.put i a o' u).H b = w.H b := by show upd w.H a u b = _; rw [upd_ne nb]
      exact q.to (fun u' z => un.trans z) fun us r => RVs.put k hi ha _ _ r
  · have at' : ∀ {j : Nat} {oj : MObj}, (w.put i a o' u).h[j]? = some (some oj) → ∃ oj, w.h[j]? = some (some oj) := fun {j oj} h => by
      rw [put_at hi] at h
      by_cases e : i = j
      · subst e; exact ⟨o, hi⟩
      · rw [if_neg e] at h; exact ⟨_, h⟩
    obtain ⟨_, q1⟩ := at' h1
    obtain ⟨_, q2⟩ := at' h2
    exact k.inj j j' _ _ b q1 q2 h3 h4
theorem Ext.put {wb : Wd} (k : w.Ok) (hi : w.h[i]? = some (some o)) (ha : w.rho[i]? = some a) (xb : Ext wb w) (na : wb.live a ∨ wb.H a = none) (f : wb.h.length ≤ i ∨ o'.free = true) : Ext wb (w.put i a o' u) := by
  have nba : ∀ (b : Addr) (ob : HO), wb.H b = some ob → ¬ wb.live b → b ≠ a := fun b ob e nl z => by
    subst z
    rcases na with q | q
    · exact nl q
    · rw [q] at e; cases e
  refine ⟨xb.rho, fun b ob e nt nl => ?_, fun b l => xb.liv b ((live_put hi b).mp l), by show wb.h.length ≤ (w.h.set i (some o')).length; rw [List.length_set]; exact xb.len, fun j ob hj h => ?_, fun b ps e nl => by
    obtain ⟨ps', e'⟩ := xb.tbl b ps e nl
    exact ⟨ps', by show upd w.H a u b = _; rw [upd_ne (nba b _ e nl)]; exact e'⟩⟩
  · have nb : b ≠ a := fun z => by
      subst z
      rcases na with q | q
      · exact nl q
      · rw [q] at e; cases e
    show upd w.H a u b = some ob
    rw [upd_ne nb]; exact xb.keep b ob e nt nl
  · rw [put_at hi] at h
    by_cases e : i = j
    · subst e
      rw [if_pos rfl] at h
      cases h
      rcases f with q | q
      · omega
      · exact .inr q
    · rw [if_neg e] at h
      exact xb.cel j ob hj h
theorem Ext.putL (k : w.Ok) (hi : w.h[i]? = some (some o)) (ha : w.rho[i]? = some a) (f : o'.free = true) : Ext w (w.put i a o' u) :=
  Ext.put k hi ha (.refl w) (.inl ⟨i, o, hi, ha⟩) (.inr f)
end

/-! ### comprehensions -/
def wipeE (env : Ev) : List Nat → Ev
  | [] => env
  | v :: vs => (wipeE env vs).set v none
theorem wipeE_len (env : Ev) : ∀ vs, (wipeE env vs).length = env.length
  | [] => rfl
  | v :: vs => by unfold wipeE; rw [List.length_set, wipeE_len env vs]
theorem wipeE_at {env : Ev} {j : Nat} {v : MV} : ∀ {vs : List Nat}, (wipeE env vs)[j]? = some (some v) → env[j]? = some (some v) ∧ j ∉ vs
  | [], h => ⟨h, by simp⟩
  | x :: vs, h => by
    unfold wipeE at h
    by_cases e : x = j
    · subst e
      by_cases hl : x < (wipeE env vs).length
      · rw [List.getElem?_set_self hl] at h; cases h
      · rw [List.getElem?_eq_none (by simpa using hl)] at h; cases h
    · rw [List.getElem?_set_ne e] at h
      obtain ⟨h1, h2⟩ := wipeE_at (vs := vs) h
      exact ⟨h1, by simp only [List.mem_cons, not_or]; exact ⟨fun z => e z.symm, h2⟩⟩
theorem RE.wipe {w : Wd} {env : Ev} {sg : L2.St} (r : RE w env sg) (vs : List Nat) : RE w (wipeE env vs) (L2.wipe sg vs) := by
  refine ⟨by rw [wipeE_len, wipe_length]; exact r.len, fun j v e => ?_⟩
  obtain ⟨e1, e2⟩ := wipeE_at e
  obtain ⟨u, e3, e4⟩ := r.get j v e1
  exact ⟨u, by rw [wipe_out e2]; exact e3, e4⟩

theorem wipe_wipe (sg : L2.St) (vs : List Nat) : L2.wipe (L2.wipe sg vs) vs = L2.wipe sg vs := by
  apply List.ext_getElem?
  intro j
  rw [wipe_at (A := Nat), wipe_at (A := Nat), wipe_length]
  by_cases hj : j ∈ vs
  · simp [hj]
  · simp [hj]
def push (D : Nat) (y : MV) : M Unit := fun h => match h[D]? with
  | some (some (.lst xs)) => if xs.length < sizeLine then .ok () (h.set D (some (.lst (xs ++ [y])))) else .stuck
  | _ => .stuck
def cturn (g : GM) (t : BM) (e : EM) (env : Ev) (D : Nat) (v : MV) : M Unit := (noX (g v env)).bind fun env2 => (noX (t env2)).bind fun b =>
  if b then (noX (e env2)).bind fun y => push D y else M.pure ()
def cloop (g : GM) (t : BM) (e : EM) (env : Ev) (D : Nat) : List MV → M Unit
  | [] => M.pure ()
  | v :: vs => (cturn g t e env D v).bind fun _ => cloop g t e env D vs
def cfin (mt : Bool) (D : Nat) : M MV := fun h => match h[D]? with
  | some (some (.lst xs)) => if mt then .ok (.cell D) h else if MV.freeAll xs && h.length == D + 1 then .ok (.lst xs) (h.take D) else .ok (.lst xs) (h.set D none)
  | _ => .stuck
def comp (mt : Bool) (it : AM) (g : GM) (t : BM) (e : EM) (own : List Nat) : EM := fun env => (it env).bind fun vs => fun h =>
  ((cloop g t e (wipeE env own) h.length vs).bind fun _ => cfin mt h.length) (h ++ [some (.lst [])])
def bYes : BM := fun _ => M.pure true

theorem M.bind_assoc {A B C : Type} (m : M A) (f : A → M B) (g : B → M C) : (m.bind f).bind g = m.bind fun a => (f a).bind g := by
  funext h
  unfold M.bind
  cases m h <;> rfl

/-! ### the cells of a while are dropped -/
def Wd.cut (w : Wd) (n : Nat) : Wd := ⟨w.rho.take n, w.h.take n, w.H⟩
section
variable {w1 w2 : Wd} {n : Nat}
theorem cut_h {i : Nat} (hi : i < n) : (w2.cut n).h[i]? = w2.h[i]? := List.getElem?_take_of_lt hi
theorem cut_rho {i : Nat} (hi : i < n) : (w2.cut n).rho[i]? = w2.rho[i]? := List.getElem?_take_of_lt hi
theorem cut_lt {i : Nat} {o : MObj} (h : (w2.cut n).h[i]? = some (some o)) : i < n := by
  have h : (w2.h.take n)[i]? = some (some o) := h
  have := (List.getElem?_eq_some_iff.mp h).1
  rw [List.length_take] at this; omega
theorem cut_live {b : Addr} (l : (w2.cut n).live b) : w2.live b := by
  obtain ⟨i, o, h1, h2⟩ := l
  have hi := cut_lt h1
  rw [cut_h hi] at h1
  rw [cut_rho hi] at h2
  exact ⟨i, o, h1, h2⟩
theorem RV.cut (k2 : w2.Ok) (v : MV) (u : V) (un : v.und n) (r : RV w2 v u) : RV (w2.cut n) v u :=
  RV.move (n := n) (w := w2) (w' := w2.cut n) (fun _ _ e _ _ => e) (fun _ _ _ nl l => nl (cut_live l)) (fun i a hi h => by rw [cut_rho hi]; exact h) k2 v u un r
theorem RVs.cut (k2 : w2.Ok) (v : List MV) (u : List V) (un : MV.undAll n v) (r : RVs w2 v u) : RVs (w2.cut n) v u :=
  RVs.move (n := n) (w := w2) (w' := w2.cut n) (fun _ _ e _ _ => e) (fun _ _ _ nl l => nl (cut_live l)) (fun i a hi h => by rw [cut_rho hi]; exact h) k2 v u un r
theorem Wd.Ok.cut (k1 : w1.Ok) (k2 : w2.Ok) (x : Ext w1 w2) : (w2.cut w1.h.length).Ok := by
  refine ⟨?_, fun i o a h1 h2 => ?_, fun i j oi oj a h1 h2 h3 h4 => ?_, k2.tabs⟩
  · show (w2.rho.take _).length = (w2.h.take _).length
    rw [List.length_take, List.length_take, k2.len]
  · have hi := cut_lt h1
    rw [cut_h hi] at h1
    rw [cut_rho hi] at h2
    have ro := k2.obj i o a h1 h2
    refine ro.to (fun _ z => z) fun us r => RVs.cut k2 _ _ ?_ r
    rcases x.cel i o hi h1 with z | z
    · have hlt : i < w1.rho.length := by rw [k1.len]; exact hi
      obtain ⟨us', r'⟩ := (k1.obj i o _ z (List.getElem?_eq_getElem hlt)).vals
      have := RVs.und _ _ r'; rwa [k1.len] at this
    · exact MV.undAll_cf _ _ z
  · have hi := cut_lt h1
    have hj := cut_lt h2
    rw [cut_h hi] at h1
    rw [cut_h hj] at h2
    rw [cut_rho hi] at h3
    rw [cut_rho hj] at h4
    exact k2.inj i j oi oj a h1 h2 h3 h4
theorem Ext.cut (k1 : w1.Ok) (x : Ext w1 w2) : Ext w1 (w2.cut w1.h.length) := by
  refine ⟨fun i a h => ?_, x.keep, fun a l => x.liv a (cut_live l), ?_, fun i o hi h => ?_, x.tbl⟩
  · rw [cut_rho (by rw [← k1.len]; exact (List.getElem?_eq_some_iff.mp h).1)]; exact x.rho i a h
  · show w1.h.length ≤ (w2.h.take w1.h.length).length
    rw [List.length_take]; have := x.len; omega
  · rw [cut_h hi] at h; exact x.cel i o hi h
/-- a cell is live no more -/
def Wd.drop (w : Wd) (i : Nat) : Wd := ⟨w.rho, w.h.set i none, w.H⟩
theorem drop_at {i j : Nat} {o : MObj} (h : (w2.drop i).h[j]? = some (some o)) : i ≠ j ∧ w2.h[j]? = some (some o) := by
  have h : (w2.h.set i none)[j]? = some (some o) := h
  by_cases e : i = j
  · subst e
    by_cases hl : i < w2.h.length
    · rw [List.getElem?_set_self hl] at h; cases h
    · rw [List.getElem?_eq_none (by rw [List.length_set]; omega)] at h; cases h
  · rw [List.getElem?_set_ne e] at h; exact ⟨e, h⟩
theorem drop_live {i : Nat} {b : Addr} (l : (w2.drop i).live b) : w2.live b := by
  obtain ⟨j, o, h1, h2⟩ := l
  exact ⟨j, o, (drop_at h1).2, h2⟩
theorem RVs.dropc (k2 : w2.Ok) {i : Nat} (v : List MV) (u : List V) (r : RVs w2 v u) : RVs (w2.drop i) v u :=
  RVs.move (n := w2.rho.length) (w := w2) (w' := w2.drop i) (fun _ _ e _ _ => e) (fun _ _ _ nl l => nl (drop_live l)) (fun _ _ _ h => h) k2 v u (RVs.und v u r) r
theorem RV.dropc (k2 : w2.Ok) {i : Nat} (v : MV) (u : V) (r : RV w2 v u) : RV (w2.drop i) v u :=
  RV.move (n := w2.rho.length) (w := w2) (w' := w2.drop i) (fun _ _ e _ _ => e) (fun _ _ _ nl l => nl (drop_live l)) (fun _ _ _ h => h) k2 v u (RV.und v u r) r
theorem Wd.Ok.drop (k2 : w2.Ok) {i : Nat} : (w2.drop i).Ok := by
  refine ⟨by show w2.rho.length = (w2.h.set i none).length; rw [List.length_set]; exact k2.len, fun j o a h1 h2 => ?_, fun j j' oi oj a h1 h2 h3 h4 => k2.inj j j' oi oj a (drop_at h1).2 (drop_at h2).2 h3 h4, k2.tabs⟩
  exact (k2.obj j o a (drop_at h1).2 h2).to (fun _ z => z) fun us r => RVs.dropc k2 _ _ r
theorem Ext.drop (x : Ext w1 w2) {i : Nat} : Ext w1 (w2.drop i) :=
  ⟨x.rho, x.keep, fun a l => x.liv a (drop_live l), by show w1.h.length ≤ (w2.h.set i none).length; rw [List.length_set]; exact x.len, fun j o hj h => x.cel j o hj (drop_at h).2, x.tbl⟩
end

section
variable {w1 : Wd} {D : Addr} {mt : Bool}
/-- the comprehension's end: its list is a cell, or by value -/
theorem cfin_ok {E : EW} {Q : VK} {w2 : Wd} (k1 : w1.Ok) (k2 : w2.Ok) (x2 : Ext w1 w2) (hr : w2.rho[w1.h.length]? = some D) (l : Lead w1 (cfin mt w1.h.length w2.h) Q E) : Q (.ref D) w2.H := by
  unfold cfin at l
  cases e : w2.h[w1.h.length]? with
  | none => rw [e] at l; exact l.elim
  | some c =>
    rw [e] at l
    cases c with
    | none => exact l.elim
    | some ob =>
      cases ob with
      | dk _ => exact l.elim
      | dt _ => exact l.elim
      | lst xs =>
        obtain ⟨us, e1, r⟩ := k2.obj _ _ _ e hr
        simp only at l
        cases mt with
        | true =>
          rw [if_pos rfl] at l
          exact l w2 (.ref D) rfl k2 x2 (by simp only [RV]; exact ⟨D, rfl, hr⟩)
        | false =>
          rw [if_neg (by decide)] at l
          by_cases c : (MV.freeAll xs && w2.h.length == w1.h.length + 1) = true
          · rw [if_pos c] at l
            simp only [Bool.and_eq_true, beq_iff_eq] at c
            refine l (w2.cut w1.h.length) (.ref D) rfl (Wd.Ok.cut k1 k2 x2) (Ext.cut k1 x2) ?_
            simp only [RV]
            refine ⟨D, us, rfl, e1, fun lv => ?_, RVs.cut k2 _ _ (MV.undAll_free _ _ c.1) r⟩
            obtain ⟨i, o, h1, h2⟩ := lv
            have hi := cut_lt h1
            rw [cut_h hi] at h1
            rw [cut_rho hi] at h2
            exact absurd (k2.inj _ _ _ _ _ h1 e h2 hr) (by omega)
          · rw [if_neg c] at l
            refine l (w2.drop w1.h.length) (.ref D) rfl (Wd.Ok.drop k2) (Ext.drop x2) ?_
            simp only [RV]
            refine ⟨D, us, rfl, e1, fun lv => ?_, RVs.dropc k2 _ _ r⟩
            obtain ⟨i, o, h1, h2⟩ := lv
            exact (drop_at h1).1 (k2.inj _ _ _ _ _ e (drop_at h1).2 hr h2)
variable {X : Cx} {E : EW} {own : List (Str × Nat)} {tg iter elt : Expr} {ifs : List Expr} {scope : Scope} {pos : Pos} {it : AM} {g : GM} {t : BM} {me : EM}
def STs (X : Cx) (E : EW) (ifs : List Expr) (m : BM) : Prop := PTs X ifs (tMb E m)
theorem sts_nil : STs X E [] bYes := by
  refine ⟨fun pins s sg H Q I h => pts_nil.run pins s sg H Q I ?_⟩
  obtain ⟨w, env, rfl, k, r, l⟩ := h
  exact lead_ok (R := fun _ (a b : Bool) => a = b) l k rfl
theorem sts_one {c : Expr} {m : BM} (h : ST X E c m) : STs X E [c] m := ⟨fun pins s sg H Q I hw => (pts_one h).run pins s sg H Q I hw⟩
theorem comp_of {sg : L2.St} {H : Hp} {Q : VK} (h : tM E (comp mt it g t me (own.map (·.2))) sg H Q) : tLc (tI E it) (tG EF (own.map (·.2)) g) (tMb EF t) (tM EF me) (own.map (·.2)) sg H Q := by
  obtain ⟨w, env, rfl, k, r, l⟩ := h
  refine ⟨w, env, rfl, k, r, lead_bind l fun w1 xs J k1 x1 r1 l1 => ?_⟩
  intro D hD
  obtain ⟨G, Y, W, hG, hY⟩ := r1
  have re1 := (r.ext k x1).wipe (own.map (·.2))
  generalize wipeE env (own.map (·.2)) = envW at re1 l1
  generalize hn : w1.h.length = n0 at l1
  have kM := Wd.Ok.more (o := .lst []) (u := .lst []) k1 hD ⟨[], upd_same, RVs.nil⟩
  have xM : Ext w1 (w1.more D (.lst []) (.lst [])) := Ext.more k1 hD
  refine lc_it W (fun i H' => ∃ w2, w2.H = H' ∧ w2.Ok ∧ Ext w1 w2 ∧ w2.rho[n0]? = some D ∧ Lead w1 (((cloop g t me envW n0 (xs.drop i)).bind fun _ => cfin mt n0) w2.h) Q E) ⟨w1.more D (.lst []) (.lst []), rfl, kM, xM, ?_, l1⟩ ?_ ?_ ?_
  · show (w1.rho ++ [D])[n0]? = some D
    rw [← hn, ← k1.len]; simp
  · rintro i H' hi ⟨w2, rfl, k2, x2, _⟩
    exact hG w2 k2 x2
  · rintro i u H' H'' hi ⟨w2, rfl, k2, x2, hr, l2⟩ y
    obtain ⟨w3, rfl, eh, k3, x3, v, ev, rv⟩ := hY i u w2 H'' hi k2 x2 y
    have ed : xs.drop i = v :: xs.drop (i + 1) := by
      obtain ⟨h1, h2⟩ := List.getElem?_eq_some_iff.mp ev
      rw [List.drop_eq_getElem_cons h1, h2]
    rw [ed, ← eh] at l2
    have e2 : ((cloop g t me envW n0 (v :: xs.drop (i + 1))).bind fun _ => cfin mt n0) = (noX (g v envW)).bind fun env2 => (noX (t env2)).bind fun b =>
        (if b then (noX (me env2)).bind fun y => push n0 y else M.pure ()).bind fun _ => (cloop g t me envW n0 (xs.drop (i + 1))).bind fun _ => cfin mt n0 := by
      show (M.bind (M.bind (cturn g t me envW n0 v) fun _ => cloop g t me envW n0 (xs.drop (i + 1))) fun _ => cfin mt n0) = _
      unfold cturn
      rw [M.bind_assoc, M.bind_assoc]
      congr 1
      funext env2
      rw [M.bind_assoc]
    rw [e2] at l2
    have hr3 := x3.rho _ _ hr
    refine ⟨w3, envW, v, rfl, k3, (re1.ext k1 x2).ext k2 x3, rv, lead_bindX l2 fun w4 env4 sg4 k4 x4 re4 l4 hw => ?_⟩
    refine ⟨hw.trans (wipe_wipe _ _), w4, env4, rfl, k4, re4, lead_bindX l4 fun w5 b b' k5 x5 r5 l5 => ?_⟩
    subst r5
    have x15 : Ext w1 w5 := ((x2.trans x3).trans x4).trans x5
    have hr5 := x5.rho _ _ (x4.rho _ _ hr3)
    cases b with
    | false =>
      rw [if_neg (by decide)] at l5 ⊢
      exact ⟨w5, rfl, k5, x15, hr5, l5⟩
    | true =>
      rw [if_pos rfl] at l5 ⊢
      rw [M.bind_assoc] at l5
      refine ⟨w5, env4, rfl, k5, re4.ext k4 x5, lead_bindX l5 fun w6 y' uy k6 x6 r6 l6 => ?_⟩
      have hr6 := x6.rho _ _ hr5
      have x16 := x15.trans x6
      have l6 : Lead w1 ((M.bind (push n0 y') fun _ => (cloop g t me envW n0 (xs.drop (i + 1))).bind fun _ => cfin mt n0) w6.h) Q E := l6
      unfold M.bind push at l6
      cases e : w6.h[n0]? with
      | none => simp only [e] at l6; exact l6.elim
      | some c =>
        cases c with
        | none => simp only [e] at l6; exact l6.elim
        | some ob =>
          cases ob with
          | dk _ => simp only [e] at l6; exact l6.elim
          | dt _ => simp only [e] at l6; exact l6.elim
          | lst acc =>
            simp only [e] at l6
            obtain ⟨us, e1, ra⟩ := k6.obj _ _ _ e hr6
            by_cases hs : acc.length < sizeLine
            · rw [if_pos hs] at l6
              refine ⟨us, e1, by rw [← ra.length]; exact hs, w6.put n0 D (.lst (acc ++ [y'])) (.lst (us ++ [uy])), rfl, ?_, ?_, hr6, l6⟩
              · refine Wd.Ok.put k6 e hr6 ⟨_, upd_same, ?_⟩
                exact RVs.append (RVs.put k6 e hr6 _ _ ra) (RVs.cons (RV.put k6 e hr6 _ _ r6) RVs.nil)
              · exact Ext.put k6 e hr6 x16 (.inr hD) (.inl (by omega))
            · rw [if_neg hs] at l6; exact l6.elim
  · rintro H' ⟨w2, rfl, k2, x2, hr, l2⟩
    rw [List.drop_length] at l2
    subst hn
    exact cfin_ok k1 k2 x2 hr l2
theorem se_comp (hc : X.calm = true) (hN : X.N.Nodup) (hi : SI X E tg iter it) (ok : BlkOk X.N X.env.scope scope own)
    (hg : ∀ (s : Shared) (H : Hp) (C : Addr) (cl : List (Str × Addr)) (fp : List Addr), SG (X.blk s H scope (compEnvC scope cl C X.env) fp) EF (own.map (·.2)) tg g)
    (ht : ∀ (s : Shared) (H : Hp) (C : Addr) (cl : List (Str × Addr)) (fp : List Addr), STs (X.blk s H scope (compEnvC scope cl C X.env) fp) EF ifs t)
    (he : ∀ (s : Shared) (H : Hp) (C : Addr) (cl : List (Str × Addr)) (fp : List Addr), SE (X.blk s H scope (compEnvC scope cl C X.env) fp) EF elt me)
    (hs : ∀ x, foldedSetIterable iter X.env x = pure x := by intro _; rfl) : SE X E (.ListComp elt [⟨tg, iter, ifs, 0⟩] scope pos) (comp mt it g t me (own.map (·.2))) :=
  ⟨fun pins s sg H Q I h => (pe_lc hc hN hi ok hg ht he hs).run pins s sg H Q I (comp_of h)⟩
theorem ss_setComp {i : Nat} {y : Str} {py spos : Pos} (hc : X.calm = true) (hN : X.N.Nodup) (hy : X.N[i]? = some y) (hyl : X.env.scope.names.lookup y = some .local)
    (hsw : swapsWith (.ListComp elt [⟨tg, iter, ifs, 0⟩] scope pos) (some (.Name y py)) spos.line X.env = pure true) (hi : SI X E tg iter it) (ok : BlkOk X.N X.env.scope scope own)
    (hg : ∀ (s : Shared) (H : Hp) (C : Addr) (cl : List (Str × Addr)) (fp : List Addr), SG (X.blk s H scope (compEnvC scope cl C X.env) fp) EF (own.map (·.2)) tg g)
    (ht : ∀ (s : Shared) (H : Hp) (C : Addr) (cl : List (Str × Addr)) (fp : List Addr), STs (X.blk s H scope (compEnvC scope cl C X.env) fp) EF ifs t)
    (he : ∀ (s : Shared) (H : Hp) (C : Addr) (cl : List (Str × Addr)) (fp : List Addr), SE (X.blk s H scope (compEnvC scope cl C X.env) fp) EF elt me)
    (hs : ∀ x, foldedSetIterable iter X.env x = pure x := by intro _; rfl) : SS X E (.Assign [.Name y py] (.ListComp elt [⟨tg, iter, ifs, 0⟩] scope pos) spos) (sSet i (comp mt it g t me (own.map (·.2)))) := by
  refine ⟨fun pins s sg H D I h => (ps_setLc hc hN hy hyl hsw hi ok hg ht he hs).run pins s sg H D I ?_⟩
  obtain ⟨w, env, rfl, k, r, l⟩ := h
  refine comp_of ⟨w, env, rfl, k, r, lead_bind l fun w1 v u k1 x1 r1 l1 => ?_⟩
  exact lead_ok (Q := QF D) (b := Sum.inl (sg.set i (some u))) l1 k1 ((r.ext k x1).set i r1)
end
end Mi

set_option Elab.async false
set_option linter.all false
set_option maxRecDepth 100000
set_option maxHeartbeats 4000000
/-! Mini, part E: defs and calls. -/
namespace Mi
open PySem PySem.Spec PyProof.Rows L2
variable [Gb]

/-- an exception of the class number c, as the hand layer's wishes have it -/
def ewOf (cv : Nat → Value) (E : XK) : EW := fun c u H => ∀ d : Addr, H d = none → E (cv c) (some d) (upd H d (.xd [(("value" : Str), u)]))
/-- a call's end: the cells of a while are dropped if none is told -/
def cutv (n : Nat) (v : MV) : M MV := fun h => if v.free then .ok v (h.take n) else .ok v h
def retOf : Fl → MV
  | .rt v => v
  | .nx _ => .non
def cutX (n : Nat) (m : M MV) : M MV := fun h => match m h with
  | .exn c v h' => if v.free then .exn c v (h'.take n) else .exn c v h'
  | o => o
/-- a def of ar parameters with sl slots -/
def defM (ar sl : Nat) (b : SM) (as : List MV) : M MV := fun h =>
  if as.length = ar then cutX h.length ((b (as.map some ++ List.replicate (sl - as.length) none)).bind fun f => cutv h.length (retOf f)) h else .stuck
def spM (cv : Nat → Value) (m : List MV → M MV) : Sp := fun vs H Q E => ∃ w as, w.H = H ∧ w.Ok ∧ RVs w as vs ∧ Lead w (m as w.h) Q (ewOf cv E)
structure FnS (P : Program) (w : World) (K : PySem.W.Frag) (mg : Str → Option Value) (base : Heap) (cv : Nat → Value) (k : Nat) (f : Addr) (m : List MV → M MV) : Prop where
  run : ∀ (A : Around) (outer : List Env) (s : Shared) (H : Hp) (us : List Value) (vs : List V) (Q : VK) (E : XK), Room k A → A.guards = some [] → Env0 P w K mg base A outer s H → Vals vs us → spM cv m vs H Q E →
    codeAny (model P w) A (.call (.ref f) ⟨us, []⟩) (CR (L2.CX P w) outer P w H s Q E) s
theorem FnS.mono {P : Program} {w : World} {K : PySem.W.Frag} {mg : Str → Option Value} {base : Heap} {cv : Nat → Value} {j k : Nat} {f : Addr} {m : List MV → M MV} (F : FnS P w K mg base cv j f m) (h : j ≤ k) : FnS P w K mg base cv k f m :=
  ⟨fun A outer s H us vs Q E hr => F.run A outer s H us vs Q E (hr.mono h)⟩

theorem RE.start {w : Wd} {as : List MV} {vs : List V} {N : List Str} (r : RVs w as vs) : RE w (as.map some ++ List.replicate (N.length - as.length) none) (L2.start N vs) := by
  have hl := r.length
  refine ⟨by simp [L2.start, hl], fun i v e => ?_⟩
  by_cases hi : i < as.length
  · rw [List.getElem?_append_left (by simpa using hi), List.getElem?_map] at e
    cases q : as[i]? with
    | none => rw [q] at e; cases e
    | some x =>
      rw [q] at e; cases e
      obtain ⟨u, e1, e2⟩ := r.get q
      refine ⟨u, ?_, e2⟩
      unfold L2.start
      rw [List.getElem?_append_left (by rw [List.length_map, ← hl]; exact hi), List.getElem?_map, e1]; rfl
  · rw [List.getElem?_append_right (by simpa using Nat.le_of_not_lt hi), List.getElem?_replicate] at e
    split at e <;> cases e
theorem free_und {v : MV} {n : Nat} (h : v.free = true) : v.und n := MV.und_free n v h
/-- the body's reading, at the parameters' values -/
theorem body_of {cv : Nat → Value} {ar : Nat} {N : List Str} {b : SM} {vs : List V} {H : Hp} {Q : VK} {E : XK} (h : spM cv (defM ar N.length b) vs H Q E) :
    vs.length = ar ∧ tS (ewOf cv E) b { nx := fun _ H' => Q .non H', rt := Q } (L2.start N vs) H := by
  obtain ⟨w, as, rfl, k, r, l⟩ := h
  unfold defM at l
  by_cases hl : as.length = ar
  · rw [if_pos hl] at l
    refine ⟨by rw [← r.length]; exact hl, w, _, rfl, k, RE.start r, ?_⟩
    unfold cutX M.bind at l
    generalize ho : b (as.map some ++ List.replicate (N.length - as.length) none) w.h = o at l ⊢
    cases o with
    | stuck => exact l
    | ok f h' =>
      intro w' bb eh k' x rf
      have fin : ∀ (v : MV) (u : V), retOf f = v → RV w' v u → Q u w'.H := fun v u e rv => by
        simp only [e, cutv] at l
        cases fr : v.free with
        | false => rw [fr] at l; exact l w' u eh k' x rv
        | true =>
          rw [fr] at l
          exact l (w'.cut w.h.length) u (by show w'.h.take _ = _; rw [eh]) (Wd.Ok.cut k k' x) (Ext.cut k x) (RV.cut k' v u (free_und fr) rv)
      cases f with
      | nx env =>
        cases bb with
        | inl sg => exact fin .non .non rfl (by simp only [RV])
        | inr u => exact rf.elim
      | rt v =>
        cases bb with
        | inl sg => exact rf.elim
        | inr u => exact fin v u rfl rf
    | exn c v h' =>
      intro w' u eh k' x rv
      cases fr : v.free with
      | false =>
        simp only [fr] at l
        exact l w' u eh k' x rv
      | true =>
        simp only [fr] at l
        exact l (w'.cut w.h.length) u (by show w'.h.take _ = _; rw [eh]) (Wd.Ok.cut k k' x) (Ext.cut k x) (RV.cut k' v u (free_und fr) rv)
  · rw [if_neg hl] at l; exact l.elim

/-- a def of the text keeps its mini meaning -/
theorem fnS_of {P : Program} {w : World} {K : PySem.W.Frag} {mg : Str → Option Value} {base : Heap} {cv : Nat → Value} {k : Nat} {x qual : Str} {st : Stmt} {f : Addr} {fd : FuncData} {N ps : List Str} {b : SM}
    (F : L2.Fun K x qual st f fd) (S : FnScope N ps (defScope st)) (hb : Binds K fd ps [])
    (hbody : ∀ (cdv : Value) (A : Around) (outer : List Env) (s : Shared) (H : Hp) (E : XK), Room k (A.deeper (envOfC qual (defScope st) s.heap.objs.size f cdv)) → A.guards = some [] →
      SB (cxOf (L2.CX P w) P w K mg base N qual (defScope st) f cdv A outer s H E) (ewOf cv E) (defBody st) b) : FnS P w K mg base cv (k + 1) f (defM ps.length N.length b) := by
  obtain ⟨oc, od, kV, doc, pm, an, cdv, ct, osl, rfl, lk, hcd⟩ := F.ex
  constructor
  intro A outer s H us vs Q E room grd en rv hsp
  obtain ⟨hvl, rd⟩ := body_of hsp
  have old : ∀ (b : Addr) (o : Obj), base.get? b = some o → s.heap.get? b = some o := fun b o e => (en.bs b o e).1
  have kin : K.In s.heap := en.mod.kin.keeps old
  have nolim := en.mod.nolimit.keeps old
  have params : ∀ p ∈ ps.zip us, (defScope st).names.lookup p.1 = some .local ∨ ((defScope st).names.lookup p.1 = some .cell ∧ ((cellsFrom (s.heap.objs.size + 1) (defScope st).names []).lookup p.1).isSome = true) := by
    rintro ⟨nm, val⟩ hp
    exact (S.par nm (List.of_mem_zip hp).1).imp id fun c => ⟨c, PySem.W.cellsFrom_some _ _ _ (.inl c)⟩
  have hbind := hb s us kin (by rw [List.append_nil, ← rv.length]; exact hvl)
  rw [List.append_nil] at hbind
  refine codeAny_call_function room.depth (kin _ _ lk) rfl S.co S.gen rfl (PySem.W.codeRec_of kin hcd) (hbind _ _ _ _ ?_)
  refine wpAny_newFunctionEnv_cells S.kind params fun env ee s1 entered => ?_
  subst ee
  refine ⟨nolim.keeps entered.toInCall.keep, codeAny_func ?_⟩
  have inv := inv_start (CX := L2.CX P w) (E := E) S room.hd en hvl rv entered
  refine wpAny_mono ((hbody cdv A outer s H E (room.deeper _) grd).run [] s1 _ H _ inv rd) (fun fl s' out => ?_) fun _ _ out => out
  cases fl with
  | brk => obtain ⟨_, _, _, z⟩ := out; exact z.elim
  | cont => obtain ⟨_, _, _, z⟩ := out; exact z.elim
  | next =>
    obtain ⟨_, H', J, z⟩ := out
    exact ⟨V.non, H', J.os, J.bare, J.base, J.hok, rfl, z⟩
  | ret u =>
    obtain ⟨v, _, H', J, rel, z⟩ := out
    exact ⟨v, H', J.os, J.bare, J.base, J.hok, rel, z⟩

/-! ### calls -/
/-- how an exception of a callee is taken in X -/
structure Lets (X : Cx) (cv : Nat → Value) (E : EW) : Prop where
  ex : ∃ E' : XK, (∀ c u H, E c u H → ewOf cv E' c u H) ∧ Passes (L2.CX X.prog X.w) X E'
theorem lets_none {X : Cx} {cv : Nat → Value} : Lets X cv EF := ⟨E0, fun _ _ _ h => h.elim, passL⟩
theorem lets_body {X : Cx} {cv : Nat → Value} {E : XK} (tk : Takes X (fun cls d _ H => E cls d H)) : Lets X cv (ewOf cv E) := ⟨E, fun _ _ _ h => h, passes_call tk fun _ _ _ _ h => h⟩
def callE (m : List MV → M MV) (a : AM) : EM := fun env => (a env).bind m
section
variable {X : Cx} {E : EW} {cv : Nat → Value} {k : Nat} {f : Addr} {m : List MV → M MV} {x : Str} {p pos : Pos} {e : Expr} {es : List Expr} {ms : AM}
theorem run_fnS {pins : List (Addr × Obj)} {sg : L2.St} {H : Hp} {s : Shared} {Q : VK} {us : List Value} {vs : List V} {E' : XK} (F : FnS X.prog X.w X.K X.mg X.base cv k f m) (hr : Room k X.A) (gd : X.A.guards = some []) (hx : Passes (L2.CX X.prog X.w) X E')
    (I : L2.Inv X pins sg H s) (r : Vals vs us) (h : spM cv m vs H Q E') : wpAny (model X.prog X.w) X.A (call (.ref f) us) (EP X pins sg Q) X.xe s := by
  refine wpAny_call (codeAny_mono (F.run X.A X.stack s H us vs Q E' hr gd I.env0 r h) fun res s' out => ?_)
  cases res with
  | error err => exact hx pins sg H s err s' I out
  | ok fl =>
    cases fl with
    | ret u => exact I.after out
    | next => exact out.elim
    | brk => exact out.elim
    | cont => exact out.elim
theorem se_call (F : FnS X.prog X.w X.K X.mg X.base cv k f m) (hr : Room k X.A) (gd : X.A.guards = some []) (hg : Gl X x) (hm : X.mg x = some (.ref f)) (hk : PySem.W.keepIn X.K (.ref f) = true) (le : Lets X cv E)
    (ha : SA X E (e :: es) ms) (hdb : (x == ("__debug__" : Str)) = false := by decide) (he : starEach (e :: es) X.env = (false, eval e X.env) :: starEach es X.env := by rfl) (hpl : (backTo pos (starEach es X.env)).any (·.1) = false := by rfl) :
    SE X E (.Call (.Name x p) (e :: es) [] pos) (callE m ms) := by
  obtain ⟨E', hE, hx⟩ := le.ex
  constructor
  intro pins s sg H Q I h
  obtain ⟨w, env, rfl, kk, r, l⟩ := h
  refine wpAny_Call_Name_kw (ld_glob I hg hm ?_ hdb)
  have args := ha.run pos pins s sg w.H (fun vs H1 => spM cv m vs H1 Q E') I ⟨w, env, rfl, kk, r, lead_bind l fun w1 as us k1 x1 r1 l1 => ⟨w1, as, rfl, k1, r1, ?_⟩⟩
  · exact PySem.W.callWith_K (h₀ := X.base) I.ok.mod.kin hk (thn args fun us s1 ⟨vs, H1, I1, rv, q⟩ => ⟨I1.kIn, run_fnS F hr gd hx I1 rv q⟩) he hpl
  · generalize m as w1.h = o at l1 ⊢
    cases o with
    | stuck => exact l1
    | ok a h => exact l1
    | exn c v h => exact fun w' b eh k' x' rv => hE _ _ _ (l1 w' b eh k' x' rv)
theorem se_call0 (F : FnS X.prog X.w X.K X.mg X.base cv k f m) (hr : Room k X.A) (gd : X.A.guards = some []) (hg : Gl X x) (hm : X.mg x = some (.ref f)) (hk : PySem.W.keepIn X.K (.ref f) = true) (le : Lets X cv E)
    (hdb : (x == ("__debug__" : Str)) = false := by decide) : SE X E (.Call (.Name x p) [] [] pos) (callE m aNil) := by
  obtain ⟨E', hE, hx⟩ := le.ex
  constructor
  intro pins s sg H Q I h
  obtain ⟨w, env, rfl, kk, r, l⟩ := h
  refine wpAny_Call_Name_kw (ld_glob I hg hm ?_ hdb)
  refine PySem.W.callWith_K0 I.kIn hk (run_fnS (us := []) (vs := []) F hr gd hx I .nil ⟨w, [], rfl, kk, RVs.nil, ?_⟩)
  have l1 : Lead w (m [] w.h) Q E := l
  generalize m [] w.h = o at l1 ⊢
  cases o with
  | stuck => exact l1
  | ok a h => exact l1
  | exn c v h => exact fun w' b eh k' x' rv => hE _ _ _ (l1 w' b eh k' x' rv)
end
end Mi

set_option Elab.async false
set_option linter.all false
set_option maxRecDepth 100000
set_option maxHeartbeats 4000000
/-! Mini, part F: operations by values. -/
namespace Mi
open PySem PySem.Spec PyProof.Rows L2
variable [Gb]

/-! ### lists read -/
def readC (i : Nat) : M (List MV) := fun h => match h[i]? with
  | some (some (.lst xs)) => .ok xs h
  | _ => .stuck
/-- a list's items -/
def itemsL : MV → M (List MV)
  | .lst xs => M.pure xs
  | .cell i => readC i
  | _ => M.stuck
/-- a list's or a tuple's -/
def itemsS : MV → M (List MV)
  | .lst xs => M.pure xs
  | .cell i => readC i
  | .tup xs => M.pure xs
  | .scr xs => M.pure xs
  | _ => M.stuck
section
variable {w : Wd} {v : MV} {u : V} {A B : Type} {R : Wd → A → B → Prop} {Q : B → Hp → Prop} {E : EW}
theorem lead_pure {x : B} {f : B → M A} {Q : B → Hp → Prop} (l : LeadG R w ((M.pure x : M B).bind f w.h) Q E) : LeadG R w (f x w.h) Q E := l
theorem readC_ok {i : Nat} {f : List MV → M A} (k : w.Ok) (r : RV w (.cell i) u) (l : LeadG R w ((readC i).bind f w.h) Q E) :
    ∃ a xs us, u = .ref a ∧ w.rho[i]? = some a ∧ w.h[i]? = some (some (.lst xs)) ∧ w.H a = some (.lst us) ∧ RVs w xs us ∧ LeadG R w (f xs w.h) Q E := by
  simp only [RV] at r
  obtain ⟨a, rfl, ha⟩ := r
  unfold M.bind readC at l
  cases e : w.h[i]? with
  | none => simp only [e] at l; exact l.elim
  | some c =>
    cases c with
    | none => simp only [e] at l; exact l.elim
    | some ob =>
      cases ob with
      | dk _ => simp only [e] at l; exact l.elim
      | dt _ => simp only [e] at l; exact l.elim
      | lst xs =>
        simp only [e] at l
        obtain ⟨us, e1, r⟩ := k.obj _ _ _ e ha
        exact ⟨a, xs, us, rfl, ha, rfl, e1, r, l⟩
theorem itemsL_ok {f : List MV → M A} (k : w.Ok) (r : RV w v u) (l : LeadG R w ((itemsL v).bind f w.h) Q E) :
    ∃ a xs us, u = .ref a ∧ w.H a = some (.lst us) ∧ RVs w xs us ∧ LeadG R w (f xs w.h) Q E := by
  cases v with
  | lst xs =>
    simp only [RV] at r
    obtain ⟨a, us, rfl, h1, _, h2⟩ := r
    exact ⟨a, xs, us, rfl, h1, h2, l⟩
  | cell i =>
    obtain ⟨a, xs, us, rfl, _, _, h1, h2, l⟩ := readC_ok k r l
    exact ⟨a, xs, us, rfl, h1, h2, l⟩
  | _ => exact l.elim
/-- a list (frozen or not) or a tuple -/
theorem itemsS_ok {K : PySem.W.Frag} {f : List MV → M A} (k : w.Ok) (r : RV w v u) (l : LeadG R w ((itemsS v).bind f w.h) Q E) :
    ∃ a xs us, u = .ref a ∧ (SqL K w.H a us ∨ SqT K w.H a us) ∧ RVs w xs us ∧ LeadG R w (f xs w.h) Q E := by
  cases v with
  | lst xs =>
    simp only [RV] at r
    obtain ⟨a, us, rfl, h1, _, h2⟩ := r
    exact ⟨a, xs, us, rfl, .inl (SqL.of h1), h2, l⟩
  | scr xs =>
    simp only [RV] at r
    obtain ⟨a, o, us, rfl, h1, h2⟩ := r
    exact ⟨a, xs, us, rfl, .inl (.inl (.inr ⟨o, h1⟩)), h2, l⟩
  | tup xs =>
    simp only [RV] at r
    obtain ⟨a, us, rfl, h1, h2⟩ := r
    exact ⟨a, xs, us, rfl, .inr (SqT.of h1), h2, l⟩
  | cell i =>
    obtain ⟨a, xs, us, rfl, _, _, h1, h2, l⟩ := readC_ok k r l
    exact ⟨a, xs, us, rfl, .inl (SqL.of h1), h2, l⟩
  | _ => exact l.elim
end

/-! ### data at a depth, for ==, repr -/
mutual
def MV.dat : MV → PyData
  | .non => .none
  | .bl b => .bool b
  | .int i => .int i
  | .str x => .str x
  | .tup xs => .tuple (MV.datAll xs)
  | .lst xs => .list (MV.datAll xs)
  | .scr xs => .list (MV.datAll xs)
  | .cell _ => .dict []
  | .err _ _ => .dict []
  | .lam _ => .dict []
  | .fn _ => .dict []
def MV.datAll : List MV → List PyData
  | [] => []
  | x :: xs => MV.dat x :: MV.datAll xs
end
mutual
theorem dp_of {w : Wd} {K : PySem.W.Frag} : ∀ (v : MV) (u : V), v.dat.canLay0 = true → RV w v u → Dp K w.H u v.dat
  | .non, u, _, r => by simp only [RV] at r; subst r; simp only [MV.dat]; exact .non
  | .bl b, u, _, r => by simp only [RV] at r; subst r; simp only [MV.dat]; exact .bl b
  | .int b, u, _, r => by simp only [RV] at r; subst r; simp only [MV.dat]; exact .int b
  | .str b, u, _, r => by simp only [RV] at r; subst r; simp only [MV.dat]; exact .str b
  | .tup xs, u, c, r => by
    simp only [RV] at r
    obtain ⟨a, us, rfl, h1, h2⟩ := r
    simp only [MV.dat] at c ⊢
    exact .tup (SqT.of h1) (dp_all xs us (by simpa only [PyData.canLay0] using c) h2)
  | .lst xs, u, c, r => by
    simp only [RV] at r
    obtain ⟨a, us, rfl, h1, _, h2⟩ := r
    simp only [MV.dat] at c ⊢
    exact .lst (SqL.of h1) (dp_all xs us (by simpa only [PyData.canLay0] using c) h2)
  | .scr xs, u, c, r => by
    simp only [RV] at r
    obtain ⟨a, o, us, rfl, h1, h2⟩ := r
    simp only [MV.dat] at c ⊢
    exact .lst (.inl (.inr ⟨o, h1⟩)) (dp_all xs us (by simpa only [PyData.canLay0] using c) h2)
  | .cell _, _, c, _ => by simp [MV.dat, PyData.canLay0] at c
  | .err _ _, _, c, _ => by simp [MV.dat, PyData.canLay0] at c
  | .lam _, _, c, _ => by simp [MV.dat, PyData.canLay0] at c
  | .fn _, _, c, _ => by simp [MV.dat, PyData.canLay0] at c
theorem dp_all {w : Wd} {K : PySem.W.Frag} : ∀ (vs : List MV) (us : List V), PyData.canLayAll0 (MV.datAll vs) = true → RVs w vs us → DpAll K w.H us (MV.datAll vs)
  | [], us, _, r => by rw [r.zero]; simp only [MV.datAll]; exact .nil
  | v :: vs, us, c, r => by
    obtain ⟨u, rs, rfl, h1, h2⟩ := r.uncons
    simp only [MV.datAll, PyData.canLayAll0, Bool.and_eq_true] at c ⊢
    exact .cons (dp_of v u c.1 h1) (dp_all vs rs c.2 h2)
end
/-- a cell read as a value -/
def pull : MV → M MV
  | .cell i => (readC i).bind fun xs => M.pure (.lst xs)
  | v => M.pure v
theorem pull_ok {w : Wd} {K : PySem.W.Frag} {v : MV} {u : V} {A B : Type} {R : Wd → A → B → Prop} {Q : B → Hp → Prop} {E : EW} {f : MV → M A} (k : w.Ok) (r : RV w v u) (l : LeadG R w ((pull v).bind f w.h) Q E) :
    ∃ v', LeadG R w (f v' w.h) Q E ∧ (v'.dat.canLay0 = true → Dp K w.H u v'.dat) := by
  cases v with
  | cell i =>
    have l : LeadG R w (((readC i).bind fun xs => f (.lst xs)) w.h) Q E := by
      have e : (pull (.cell i)).bind f = (readC i).bind fun xs => f (.lst xs) := by
        unfold pull; rw [M.bind_assoc]; rfl
      rw [e] at l; exact l
    obtain ⟨a, xs, us, rfl, _, _, h1, h2, l⟩ := readC_ok k r l
    refine ⟨.lst xs, l, fun c => ?_⟩
    simp only [MV.dat] at c ⊢
    exact .lst (SqL.of h1) (dp_all xs us (by simpa only [PyData.canLay0] using c) h2)
  | _ => exact ⟨_, l, fun c => dp_of _ _ c r⟩
def eqM (neg : Bool) (a b : MV) : M MV := (pull a).bind fun x => (pull b).bind fun y =>
  if SeqAt.shaped x.dat && SeqAt.shaped y.dat then M.pure (.bl (if neg then !PyData.eqv x.dat y.dat else PyData.eqv x.dat y.dat)) else M.stuck

section
variable {X : Cx} {E : EW}
theorem or_eq (hu : X.A.units + 64 < cLine) : OpR X (compareOp .Eq) (opR E (eqM false)) := by
  intro pins s sg H x y v u Q I rx ry h
  obtain ⟨w, a, b, rfl, k, ra, rb, l⟩ := h
  obtain ⟨a', l, ka⟩ := pull_ok (K := X.K) k ra l
  obtain ⟨b', l, kb⟩ := pull_ok (K := X.K) k rb l
  cases c : (SeqAt.shaped a'.dat && SeqAt.shaped b'.dat) with
  | false => rw [c, if_neg (by decide)] at l; exact l.elim
  | true =>
    rw [c, if_pos rfl] at l
    simp only [Bool.and_eq_true] at c
    exact op_eqD hu pins s sg w.H x y v u Q I rx ry ⟨_, _, ka (SeqAt.canLay_of_shaped c.1), kb (SeqAt.canLay_of_shaped c.2), c.1, c.2, lead_ok l k (by simp only [RV]; rfl)⟩
theorem or_ne (hu : X.A.units + 64 < cLine) : OpR X (compareOp .NotEq) (opR E (eqM true)) := by
  intro pins s sg H x y v u Q I rx ry h
  obtain ⟨w, a, b, rfl, k, ra, rb, l⟩ := h
  obtain ⟨a', l, ka⟩ := pull_ok (K := X.K) k ra l
  obtain ⟨b', l, kb⟩ := pull_ok (K := X.K) k rb l
  cases c : (SeqAt.shaped a'.dat && SeqAt.shaped b'.dat) with
  | false => rw [c, if_neg (by decide)] at l; exact l.elim
  | true =>
    rw [c, if_pos rfl] at l
    simp only [Bool.and_eq_true] at c
    exact op_neD hu pins s sg w.H x y v u Q I rx ry ⟨_, _, ka (SeqAt.canLay_of_shaped c.1), kb (SeqAt.canLay_of_shaped c.2), c.1, c.2, lead_ok l k (by simp only [RV]; rfl)⟩

/-! ### ints -/
def addM (mt : Bool) : MV → MV → M MV
  | .int i, .int j => M.pure (.int (i + j))
  | .str x, .str y => if x.length + y.length ≤ sizeLine then M.pure (.str (x ++ y)) else M.stuck
  | .tup xs, .tup ys => if xs.length + ys.length ≤ sizeLine then M.pure (.tup (xs ++ ys)) else M.stuck
  | a, b => (itemsL a).bind fun xs => (itemsL b).bind fun ys => if xs.length + ys.length ≤ sizeLine then newL mt (xs ++ ys) else M.stuck
theorem rv_int {w : Wd} {i : Int} {u : V} (r : RV w (.int i) u) : u = .int i := by simpa only [RV] using r
theorem or_add {mt : Bool} : OpR X (binaryOp .Add) (opR E (addM mt)) := by
  intro pins s sg H x y v u Q I rx ry h
  obtain ⟨w, a, b, rfl, k, ra, rb, l⟩ := h
  have gen : Lead w (((itemsL a).bind fun xs => (itemsL b).bind fun ys => if xs.length + ys.length ≤ sizeLine then newL mt (xs ++ ys) else M.stuck) w.h) Q E → wpAny (model X.prog X.w) X.A (binaryOp .Add v u) (EP X pins sg Q) X.xe s := fun l => by
    obtain ⟨p, xs, us, rfl, h1, r1, l⟩ := itemsL_ok k ra l
    obtain ⟨q, ys, vs, rfl, h2, r2, l⟩ := itemsL_ok k rb l
    by_cases z : xs.length + ys.length ≤ sizeLine
    · rw [if_pos z] at l
      exact op_cat pins s sg w.H _ _ v u Q I rx ry ⟨p, q, us, vs, rfl, rfl, h1, h2, by rw [← r1.length, ← r2.length]; exact z, fun t ht => newL_ok l k (r1.append r2) ht⟩
    · rw [if_neg z] at l; exact l.elim
  cases a with
  | int i =>
    cases b with
    | int j =>
      rw [rv_int ra] at rx
      rw [rv_int rb] at ry
      exact op_add pins s sg w.H _ _ v u Q I rx ry ⟨i, j, rfl, rfl, lead_ok l k (by simp only [RV])⟩
    | _ => exact gen l
  | str i =>
    cases b with
    | str j =>
      simp only [RV] at ra rb
      subst ra rb
      have l : Lead w ((if i.length + j.length ≤ sizeLine then M.pure (MV.str (i ++ j)) else M.stuck) w.h) Q E := l
      by_cases z : i.length + j.length ≤ sizeLine
      · rw [if_pos z] at l
        exact op_add_str pins s sg w.H _ _ v u Q I rx ry ⟨i, j, rfl, rfl, z, lead_ok l k (by simp only [RV])⟩
      · rw [if_neg z] at l; exact l.elim
    | _ => exact gen l
  | tup xs =>
    cases b with
    | tup ys =>
      simp only [RV] at ra rb
      obtain ⟨p, us, rfl, h1, r1⟩ := ra
      obtain ⟨q, vs, rfl, h2, r2⟩ := rb
      have l : Lead w ((if xs.length + ys.length ≤ sizeLine then M.pure (MV.tup (xs ++ ys)) else M.stuck) w.h) Q E := l
      by_cases z : xs.length + ys.length ≤ sizeLine
      · rw [if_pos z] at l
        refine op_catA pins s sg w.H _ _ v u Q I rx ry ⟨p, q, us, vs, rfl, rfl, SqT.of h1, SqT.of h2, by rw [← r1.length, ← r2.length]; exact z, fun e => ?_, fun _ e => ?_, fun _ _ t ht => newT_ok l k (r1.append r2) ht⟩
        · subst e
          have e0 : xs = [] := List.length_eq_zero_iff.mp r1.length
          subst e0
          exact lead_ok l k (by simp only [RV, List.nil_append]; exact ⟨q, vs, rfl, h2, r2⟩)
        · subst e
          have e0 : ys = [] := List.length_eq_zero_iff.mp r2.length
          subst e0
          exact lead_ok l k (by simp only [RV, List.append_nil]; exact ⟨p, us, rfl, h1, r1⟩)
      · rw [if_neg z] at l; exact l.elim
    | _ => exact gen l
  | _ => exact gen l
def subM : MV → MV → M MV
  | .int i, .int j => M.pure (.int (i - j))
  | _, _ => M.stuck
theorem or_sub : OpR X (binaryOp .Sub) (opR E subM) := by
  intro pins s sg H x y v u Q I rx ry h
  obtain ⟨w, a, b, rfl, k, ra, rb, l⟩ := h
  cases a with
  | int i =>
    cases b with
    | int j =>
      rw [rv_int ra] at rx
      rw [rv_int rb] at ry
      exact op_sub pins s sg w.H _ _ v u Q I rx ry ⟨i, j, rfl, rfl, lead_ok l k (by simp only [RV])⟩
    | _ => exact l.elim
  | _ => exact l.elim
def small64 (i : Int) : Bool := decide (-18446744073709551616 < i ∧ i < 18446744073709551616)
def repM (mt : Bool) (xs : List MV) (j : Int) : M MV := if -9223372036854775808 ≤ j ∧ j < 9223372036854775808 ∧ xs.length * j.toNat ≤ sizeLine then newL mt (List.replicate j.toNat xs).flatten else M.stuck
def mulM (mt : Bool) : MV → MV → M MV
  | .int i, .int j => if small64 i || small64 j then M.pure (.int (i * j)) else M.stuck
  | .tup xs, .int j => if !xs.isEmpty && decide (2 ≤ j ∧ j ≤ 1000 ∧ xs.length ≤ 1000) then M.pure (.tup (List.replicate j.toNat xs).flatten) else M.stuck
  | .lst xs, .int j => repM mt xs j
  | _, _ => M.stuck
theorem RVs.rep {w : Wd} {xs : List MV} {us : List V} (r : RVs w xs us) : ∀ n : Nat, RVs w (List.replicate n xs).flatten (List.replicate n us).flatten
  | 0 => RVs.nil
  | n + 1 => by
    rw [List.replicate_succ, List.replicate_succ, List.flatten_cons, List.flatten_cons]
    exact r.append (RVs.rep r n)
theorem or_mul {mt : Bool} : OpR X (binaryOp .Mult) (opR E (mulM mt)) := by
  intro pins s sg H x y v u Q I rx ry h
  obtain ⟨w, a, b, rfl, k, ra, rb, l⟩ := h
  cases a with
  | int i =>
    cases b with
    | int j =>
      rw [rv_int ra] at rx
      rw [rv_int rb] at ry
      have l : Lead w ((if (small64 i || small64 j) = true then M.pure (MV.int (i * j)) else M.stuck) w.h) Q E := l
      by_cases z : (small64 i || small64 j) = true
      · rw [if_pos z] at l
        refine op_mul pins s sg w.H _ _ v u Q I rx ry ⟨i, j, rfl, rfl, ?_, lead_ok l k (by simp only [RV])⟩
        simp only [small64, Bool.or_eq_true, decide_eq_true_eq] at z
        exact z.imp (fun z => ⟨by omega, by omega⟩) fun z => ⟨by omega, by omega⟩
      · rw [if_neg z] at l; exact l.elim
    | _ => exact l.elim
  | tup xs =>
    cases b with
    | int j =>
      rw [rv_int rb] at ry
      simp only [RV] at ra
      obtain ⟨p, us, rfl, h1, r1⟩ := ra
      have l : Lead w ((if (!xs.isEmpty && decide (2 ≤ j ∧ j ≤ 1000 ∧ xs.length ≤ 1000)) = true then M.pure (MV.tup (List.replicate j.toNat xs).flatten) else M.stuck) w.h) Q E := l
      by_cases z : (!xs.isEmpty && decide (2 ≤ j ∧ j ≤ 1000 ∧ xs.length ≤ 1000)) = true
      · rw [if_pos z] at l
        simp only [Bool.and_eq_true, decide_eq_true_eq, Bool.not_eq_true', List.isEmpty_eq_false_iff] at z
        refine op_repT pins s sg w.H _ _ v u Q I rx ry ⟨p, j, us, rfl, rfl, SqT.of h1, fun e => z.1 ?_, z.2.1, z.2.2.1, by rw [← r1.length]; exact z.2.2.2, fun t ht => newT_ok l k (r1.rep _) ht⟩
        subst e
        exact List.length_eq_zero_iff.mp r1.length
      · rw [if_neg z] at l; exact l.elim
    | _ => exact l.elim
  | lst xs =>
    cases b with
    | int j =>
      rw [rv_int rb] at ry
      simp only [RV] at ra
      obtain ⟨p, us, rfl, h1, _, r1⟩ := ra
      have l : Lead w (repM mt xs j w.h) Q E := l
      unfold repM at l
      by_cases z : -9223372036854775808 ≤ j ∧ j < 9223372036854775808 ∧ xs.length * j.toNat ≤ sizeLine
      · rw [if_pos z] at l
        exact op_rep pins s sg w.H _ _ v u Q I rx ry ⟨p, j, us, rfl, rfl, h1, by omega, by omega, by rw [← r1.length]; exact z.2.2, fun t ht => newL_ok l k (r1.rep _) ht⟩
      · rw [if_neg z] at l; exact l.elim
    | _ => exact l.elim
  | _ => exact l.elim
def modM : MV → MV → M MV
  | .int i, .int j => if j = 0 then M.stuck else M.pure (.int (i.fmod j))
  | _, _ => M.stuck
theorem or_mod : OpR X (binaryOp .Mod) (opR E modM) := by
  intro pins s sg H x y v u Q I rx ry h
  obtain ⟨w, a, b, rfl, k, ra, rb, l⟩ := h
  cases a with
  | int i =>
    cases b with
    | int j =>
      rw [rv_int ra] at rx
      rw [rv_int rb] at ry
      have l : Lead w ((if j = 0 then M.stuck else M.pure (MV.int (i.fmod j))) w.h) Q E := l
      by_cases z : j = 0
      · rw [if_pos z] at l; exact l.elim
      · rw [if_neg z] at l
        exact op_modN pins s sg w.H _ _ v u Q I rx ry ⟨i, j, rfl, rfl, z, lead_ok l k (by simp only [RV])⟩
    | _ => exact l.elim
  | _ => exact l.elim
def fdivM : MV → MV → M MV
  | .int i, .int j => if j ≠ 0 ∧ j.natAbs < 1073741824 then M.pure (.int (i.fdiv j)) else if 0 < j ∧ j.natAbs.log2 < 9000 then M.pure (.int (i / j)) else M.stuck
  | _, _ => M.stuck
theorem or_fdiv : OpR X (binaryOp .FloorDiv) (opR E fdivM) := by
  intro pins s sg H x y v u Q I rx ry h
  obtain ⟨w, a, b, rfl, k, ra, rb, l⟩ := h
  cases a with
  | int i =>
    cases b with
    | int j =>
      rw [rv_int ra] at rx
      rw [rv_int rb] at ry
      have l : Lead w ((if j ≠ 0 ∧ j.natAbs < 1073741824 then M.pure (MV.int (i.fdiv j)) else if 0 < j ∧ j.natAbs.log2 < 9000 then M.pure (.int (i / j)) else M.stuck) w.h) Q E := l
      by_cases z : j ≠ 0 ∧ j.natAbs < 1073741824
      · rw [if_pos z] at l
        exact op_fdivN pins s sg w.H _ _ v u Q I rx ry ⟨i, j, rfl, rfl, z, lead_ok l k (by simp only [RV])⟩
      · rw [if_neg z] at l
        by_cases z2 : 0 < j ∧ j.natAbs.log2 < 9000
        · rw [if_pos z2] at l
          exact op_fdivW pins s sg w.H _ _ v u Q I rx ry ⟨i, j, rfl, rfl, z2, lead_ok l k (by simp only [RV])⟩
        · rw [if_neg z2] at l; exact l.elim
    | _ => exact l.elim
  | _ => exact l.elim
/-- 2 ^ 256 -/
def big256 : Nat := 115792089237316195423570985008687907853269984665640564039457584007913129639936
def powM : MV → MV → M MV
  | .int i, .int j => if 0 ≤ j ∧ j ≤ 1000 ∧ i.natAbs < big256 then M.pure (.int (i ^ j.toNat)) else M.stuck
  | _, _ => M.stuck
theorem or_pow : OpR X (binaryOp .Pow) (opR E powM) := by
  intro pins s sg H x y v u Q I rx ry h
  obtain ⟨w, a, b, rfl, k, ra, rb, l⟩ := h
  cases a with
  | int i =>
    cases b with
    | int j =>
      rw [rv_int ra] at rx
      rw [rv_int rb] at ry
      have l : Lead w ((if 0 ≤ j ∧ j ≤ 1000 ∧ i.natAbs < big256 then M.pure (MV.int (i ^ j.toNat)) else M.stuck) w.h) Q E := l
      by_cases z : 0 ≤ j ∧ j ≤ 1000 ∧ i.natAbs < big256
      · rw [if_pos z] at l
        obtain ⟨t, rfl⟩ := rx
        obtain ⟨t', rfl⟩ := ry
        have hb : Builtin.Int.intBits i ≤ 256 := intBits_le (by rw [show (2 : Nat) ^ 256 = big256 by decide +kernel]; exact z.2.2)
        refine pow_int z.1 ?_ ⟨.int (i ^ j.toNat), w.H, I.tok _, ⟨_, rfl⟩, lead_ok l k (by simp only [RV])⟩
        have h1 : (Builtin.Int.intBits i : Int) * j ≤ 256 * 1000 := Int.mul_le_mul (by omega) z.2.1 z.1 (by decide)
        omega
      · rw [if_neg z] at l; exact l.elim
    | _ => exact l.elim
  | _ => exact l.elim
def negM : MV → M MV
  | .int i => M.pure (.int (-i))
  | _ => M.stuck
theorem ur_neg : UnR X (unaryOp .USub) (unR E negM) := by
  intro pins s sg H x v Q I rx h
  obtain ⟨w, a, rfl, k, ra, l⟩ := h
  cases a with
  | int i =>
    rw [rv_int ra] at rx
    exact un_neg pins s sg w.H _ v Q I rx ⟨i, rfl, lead_ok l k (by simp only [RV])⟩
  | _ => exact l.elim
/-- an int comparison -/
def cmpI (p : Int → Int → Bool) : MV → MV → M MV
  | .int i, .int j => M.pure (.bl (p i j))
  | _, _ => M.stuck
theorem or_cmpI {op : CmpOp} {p : Int → Int → Bool} (ho : OpR X (compareOp op) (rI0 fun i j => .bl (p i j))) : OpR X (compareOp op) (opR E (cmpI p)) := by
  intro pins s sg H x y v u Q I rx ry h
  obtain ⟨w, a, b, rfl, k, ra, rb, l⟩ := h
  cases a with
  | int i =>
    cases b with
    | int j =>
      rw [rv_int ra] at rx
      rw [rv_int rb] at ry
      exact ho pins s sg w.H _ _ v u Q I rx ry ⟨i, j, rfl, rfl, lead_ok l k (by simp only [RV])⟩
    | _ => exact l.elim
  | _ => exact l.elim
abbrev leM := cmpI fun i j => decide (i ≤ j)
abbrev gtM := cmpI fun i j => decide (j < i)
abbrev geM := cmpI fun i j => decide (j ≤ i)
theorem or_le : OpR X (compareOp .LtE) (opR E leM) := or_cmpI op_le
theorem or_gt : OpR X (compareOp .Gt) (opR E gtM) := or_cmpI op_gt
theorem or_ge : OpR X (compareOp .GtE) (opR E geM) := or_cmpI op_ge
def intsOf : List MV → Option (List Int)
  | [] => some []
  | .int i :: r => (intsOf r).map (i :: ·)
  | _ :: _ => none
theorem intsOf_ok {w : Wd} : ∀ {xs : List MV} {us : List V} {ns : List Int}, intsOf xs = some ns → RVs w xs us → us = ns.map V.int ∧ xs = ns.map MV.int
  | [], us, ns, e, r => by
    cases e
    exact ⟨r.zero, rfl⟩
  | x :: xs, us, ns, e, r => by
    obtain ⟨u, rs, rfl, h1, h2⟩ := r.uncons
    cases x with
    | int i =>
      unfold intsOf at e
      cases q : intsOf xs with
      | none => rw [q] at e; cases e
      | some ms =>
        rw [q] at e; cases e
        obtain ⟨e1, e2⟩ := intsOf_ok q h2
        rw [rv_int h1, e1, e2]
        exact ⟨rfl, rfl⟩
    | _ => unfold intsOf at e; cases e
def ltM : MV → MV → M MV
  | .int i, .int j => M.pure (.bl (decide (i < j)))
  | .tup xs, .tup ys => match intsOf xs, intsOf ys with
    | some ns, some ms => M.pure (.bl (HT.lexLt ns ms))
    | _, _ => M.stuck
  | _, _ => M.stuck
theorem or_lt (hu : X.A.units < cLine) : OpR X (compareOp .Lt) (opR E ltM) := by
  intro pins s sg H x y v u Q I rx ry h
  obtain ⟨w, a, b, rfl, k, ra, rb, l⟩ := h
  cases a with
  | int i =>
    cases b with
    | int j =>
      rw [rv_int ra] at rx
      rw [rv_int rb] at ry
      exact op_lt pins s sg w.H _ _ v u Q I rx ry ⟨i, j, rfl, rfl, lead_ok l k (by simp only [RV])⟩
    | _ => exact l.elim
  | tup xs =>
    cases b with
    | tup ys =>
      simp only [RV] at ra rb
      obtain ⟨p, us, rfl, h1, r1⟩ := ra
      obtain ⟨q, vs, rfl, h2, r2⟩ := rb
      unfold ltM at l
      cases e1 : intsOf xs with
      | none => simp only [e1] at l; exact l.elim
      | some ns =>
        cases e2 : intsOf ys with
        | none => simp only [e1, e2] at l; exact l.elim
        | some ms =>
          simp only [e1, e2] at l
          obtain ⟨rfl, _⟩ := intsOf_ok e1 r1
          obtain ⟨rfl, _⟩ := intsOf_ok e2 r2
          exact op_ltT hu pins s sg w.H _ _ v u Q I rx ry ⟨p, q, ns, ms, rfl, rfl, SqT.of h1, SqT.of h2, lead_ok l k (by simp only [RV])⟩
    | _ => exact l.elim
  | _ => exact l.elim
/-! ### is, in -/
def MV.isNon : MV → Bool
  | .non => true
  | _ => false
def isM (neg : Bool) : MV → MV → M MV
  | a, .non => M.pure (.bl (if neg then !a.isNon else a.isNon))
  | .bl a, .bl b => M.pure (.bl (if neg then !decide (a = b) else decide (a = b)))
  | _, _ => M.stuck
theorem rv_non {w : Wd} {a : MV} {x : V} (r : RV w a x) : decide (x = V.non) = a.isNon := by
  cases a with
  | non => simp only [RV] at r; subst r; rfl
  | bl b => simp only [RV] at r; subst r; rfl
  | int b => simp only [RV] at r; subst r; rfl
  | str b => simp only [RV] at r; subst r; rfl
  | tup b => simp only [RV] at r; obtain ⟨a, us, rfl, _⟩ := r; rfl
  | lst b => simp only [RV] at r; obtain ⟨a, us, rfl, _⟩ := r; rfl
  | scr b => simp only [RV] at r; obtain ⟨a, o, us, rfl, _⟩ := r; rfl
  | cell b => simp only [RV] at r; obtain ⟨a, rfl, _⟩ := r; rfl
  | err c b => simp only [RV] at r; obtain ⟨_, a, d, uv, rfl, _⟩ := r; rfl
  | lam b => simp only [RV] at r; obtain ⟨a, c, pm, ctv, rfl, _⟩ := r; rfl
  | fn b => simp only [RV] at r; subst r; rfl
theorem or_is : OpR X (compareOp .Is) (opR E (isM false)) := by
  intro pins s sg H x y v u Q I rx ry h
  obtain ⟨w, a, b, rfl, k, ra, rb, l⟩ := h
  cases b with
  | non =>
    simp only [RV] at rb
    have l : Lead w (M.pure (MV.bl a.isNon) w.h) Q E := by cases a <;> exact l
    exact op_isN pins s sg w.H x y v u Q I rx ry ⟨rb, lead_ok l k (by simp only [RV]; rw [rv_non ra])⟩
  | bl c =>
    cases a with
    | bl d =>
      simp only [RV] at ra rb
      exact op_is_bl pins s sg w.H x y v u Q I rx ry ⟨d, c, ra, rb, lead_ok l k (by simp only [RV]; rfl)⟩
    | _ => exact l.elim
  | _ => cases a <;> exact l.elim
theorem or_isnot : OpR X (compareOp .IsNot) (opR E (isM true)) := by
  intro pins s sg H x y v u Q I rx ry h
  obtain ⟨w, a, b, rfl, k, ra, rb, l⟩ := h
  cases b with
  | non =>
    simp only [RV] at rb
    have l : Lead w (M.pure (MV.bl (!a.isNon)) w.h) Q E := by cases a <;> exact l
    exact op_notN pins s sg w.H x y v u Q I rx ry ⟨rb, lead_ok l k (by simp only [RV]; rw [rv_non ra])⟩
  | bl c =>
    cases a with
    | bl d =>
      simp only [RV] at ra rb
      exact op_isnot_bl pins s sg w.H x y v u Q I rx ry ⟨d, c, ra, rb, lead_ok l k (by simp only [RV]; rfl)⟩
    | _ => exact l.elim
  | _ => cases a <;> exact l.elim
def flatM : MV → Bool
  | .non => true
  | .bl _ => true
  | .int _ => true
  | .str _ => true
  | _ => false
def eqF : MV → MV → Bool
  | .non, .non => true
  | .bl a, .bl b => a == b
  | .bl a, .int b => (if a then 1 else 0) == b
  | .int a, .bl b => a == (if b then 1 else 0)
  | .int a, .int b => a == b
  | .str a, .str b => a == b
  | _, _ => false
def memF (x : MV) (xs : List MV) : Bool := xs.any fun y => eqF y x
theorem flat_rv {w : Wd} {a : MV} {x : V} (f : flatM a = true) (r : RV w a x) : flatV x = true ∧ ∀ (b : MV) (y : V), flatM b = true → RV w b y → eqV y x = eqF b a := by
  cases a with
  | non => simp only [RV] at r; subst r; exact ⟨rfl, fun b y fb rb => by cases b <;> simp only [RV] at rb <;> first | (subst rb; rfl) | exact absurd fb Bool.false_ne_true⟩
  | bl c => simp only [RV] at r; subst r; exact ⟨rfl, fun b y fb rb => by cases b <;> simp only [RV] at rb <;> first | (subst rb; rfl) | exact absurd fb Bool.false_ne_true⟩
  | int c => simp only [RV] at r; subst r; exact ⟨rfl, fun b y fb rb => by cases b <;> simp only [RV] at rb <;> first | (subst rb; rfl) | exact absurd fb Bool.false_ne_true⟩
  | str c => simp only [RV] at r; subst r; exact ⟨rfl, fun b y fb rb => by cases b <;> simp only [RV] at rb <;> first | (subst rb; rfl) | exact absurd fb Bool.false_ne_true⟩
  | _ => exact absurd f Bool.false_ne_true
theorem flats_rv {w : Wd} {a : MV} {x : V} (fa : flatM a = true) (ra : RV w a x) : ∀ {xs : List MV} {us : List V}, xs.all flatM = true → RVs w xs us → us.all flatV = true ∧ inV x us = memF a xs
  | [], us, _, r => by rw [r.zero]; exact ⟨rfl, rfl⟩
  | y :: xs, us, f, r => by
    obtain ⟨u, rs, rfl, h1, h2⟩ := r.uncons
    rw [List.all_cons, Bool.and_eq_true] at f
    obtain ⟨e1, e2⟩ := flats_rv fa ra f.2 h2
    refine ⟨by rw [List.all_cons, (flat_rv f.1 h1).1, e1]; rfl, ?_⟩
    unfold inV memF at *
    rw [List.any_cons, List.any_cons, (flat_rv fa ra).2 y u f.1 h1, e2]
def inM (neg : Bool) : MV → MV → M MV
  | .str x, .str y => M.pure (.bl (if neg then !(!(Builtin.Str.occurrences y x 0 y.length 1).isEmpty) else !(Builtin.Str.occurrences y x 0 y.length 1).isEmpty))
  | a, b => (itemsS b).bind fun xs => if flatM a && xs.all flatM then M.pure (.bl (if neg then !memF a xs else memF a xs)) else M.stuck
theorem or_in : OpR X (compareOp .In) (opR E (inM false)) := by
  intro pins s sg H x y v u Q I rx ry h
  obtain ⟨w, a, b, rfl, k, ra, rb, l⟩ := h
  have gen : Lead w (((itemsS b).bind fun xs => if flatM a && xs.all flatM then M.pure (MV.bl (memF a xs)) else M.stuck) w.h) Q E → wpAny (model X.prog X.w) X.A (compareOp .In v u) (EP X pins sg Q) X.xe s := fun l => by
    obtain ⟨p, xs, us, rfl, hs, r1, l⟩ := itemsS_ok (K := X.K) k rb l
    cases c : (flatM a && xs.all flatM) with
    | false => rw [c, if_neg (by decide)] at l; exact l.elim
    | true =>
      rw [c, if_pos rfl] at l
      rw [Bool.and_eq_true] at c
      obtain ⟨e1, e2⟩ := flats_rv c.1 ra c.2 r1
      exact op_in_seq pins s sg w.H _ _ v u Q I rx ry ⟨p, us, rfl, hs, (flat_rv c.1 ra).1, e1, lead_ok l k (by simp only [RV]; rw [e2]; rfl)⟩
  cases a with
  | str i =>
    cases b with
    | str j =>
      simp only [RV] at ra rb
      exact op_in_str pins s sg w.H _ _ v u Q I rx ry ⟨i, j, ra, rb, lead_ok l k (by simp only [RV]; rfl)⟩
    | _ => exact gen l
  | _ => exact gen l
theorem or_notin : OpR X (compareOp .NotIn) (opR E (inM true)) := by
  intro pins s sg H x y v u Q I rx ry h
  obtain ⟨w, a, b, rfl, k, ra, rb, l⟩ := h
  have gen : Lead w (((itemsS b).bind fun xs => if flatM a && xs.all flatM then M.pure (MV.bl (!memF a xs)) else M.stuck) w.h) Q E → wpAny (model X.prog X.w) X.A (compareOp .NotIn v u) (EP X pins sg Q) X.xe s := fun l => by
    obtain ⟨p, xs, us, rfl, hs, r1, l⟩ := itemsS_ok (K := X.K) k rb l
    cases c : (flatM a && xs.all flatM) with
    | false => rw [c, if_neg (by decide)] at l; exact l.elim
    | true =>
      rw [c, if_pos rfl] at l
      rw [Bool.and_eq_true] at c
      obtain ⟨e1, e2⟩ := flats_rv c.1 ra c.2 r1
      exact op_notIn_seq pins s sg w.H _ _ v u Q I rx ry ⟨p, us, rfl, hs, (flat_rv c.1 ra).1, e1, lead_ok l k (by simp only [RV]; rw [e2]; rfl)⟩
  cases a with
  | str i =>
    cases b with
    | str j =>
      simp only [RV] at ra rb
      exact op_notin_str pins s sg w.H _ _ v u Q I rx ry ⟨i, j, ra, rb, lead_ok l k (by simp only [RV]; rfl)⟩
    | _ => exact gen l
  | _ => exact gen l
end
end Mi

set_option Elab.async false
set_option linter.all false
set_option maxRecDepth 100000
set_option maxHeartbeats 4000000
/-! Mini, part G: subscripts, slices, built-in functions, methods of lists, stores. -/
namespace Mi
open PySem PySem.Spec PyProof.Rows L2
variable [Gb]

/-! ### the built-in names at the start -/
theorem bt_isinstance : bootBuiltins "isinstance" = some (.builtin "isinstance") := by decide +kernel
theorem bt_len : bootBuiltins "len" = some (.builtin "len") := by decide +kernel
theorem bt_abs : bootBuiltins "abs" = some (.builtin "abs") := by decide +kernel
theorem bt_all : bootBuiltins "all" = some (.builtin "all") := by decide +kernel
theorem bt_any : bootBuiltins "any" = some (.builtin "any") := by decide +kernel
theorem bt_sum : bootBuiltins "sum" = some (.builtin "sum") := by decide +kernel
theorem bt_max : bootBuiltins "max" = some (.builtin "max") := by decide +kernel
theorem bt_min : bootBuiltins "min" = some (.builtin "min") := by decide +kernel
theorem bt_repr : bootBuiltins "repr" = some (.builtin "repr") := by decide +kernel
theorem bt_sorted : bootBuiltins "sorted" = some (.builtin "sorted") := by decide +kernel
theorem bt_int : bootBuiltins "int" = some (.type "int") := by decide +kernel
theorem bt_str : bootBuiltins "str" = some (.type "str") := by decide +kernel
theorem bt_bool : bootBuiltins "bool" = some (.type "bool") := by decide +kernel
theorem bt_list : bootBuiltins "list" = some (.type "list") := by decide +kernel
theorem bt_tuple : bootBuiltins "tuple" = some (.type "tuple") := by decide +kernel
theorem bt_dict : bootBuiltins "dict" = some (.type "dict") := by decide +kernel
theorem bt_set : bootBuiltins "set" = some (.type "set") := by decide +kernel

/-! ### subscripts -/
def ixM : MV → MV → M MV
  | a, .int i => (itemsS a).bind fun xs => match atI xs i with
    | some v => M.pure v
    | none => M.stuck
  | _, _ => M.stuck
theorem atI_rv {w : Wd} {xs : List MV} {us : List V} {i : Int} {v : MV} (r : RVs w xs us) (h : atI xs i = some v) : ∃ u, atI us i = some u ∧ RV w v u := by
  unfold atI at h ⊢
  rw [← r.length]
  cases e : ixN xs.length i with
  | none => rw [e] at h; cases h
  | some j =>
    rw [e] at h
    exact r.get h
section
variable {X : Cx} {E : EW}
theorem ir_seq : IxR X (opR E ixM) := by
  intro value slice pins s sg H x y v u Q I rx ry h hsub
  obtain ⟨w, a, b, rfl, k, ra, rb, l⟩ := h
  cases b with
  | int i =>
    have l : Lead w (((itemsS a).bind fun xs => match atI xs i with
      | some v => M.pure v
      | none => M.stuck) w.h) Q E := by cases a <;> exact l
    obtain ⟨p, xs, us, rfl, hs, r1, l⟩ := itemsS_ok (K := X.K) k ra l
    rw [rv_int rb] at ry
    cases e : atI xs i with
    | none => simp only [e] at l; exact l.elim
    | some v' =>
      simp only [e] at l
      obtain ⟨u', e1, rv⟩ := atI_rv r1 e
      rcases hs with hs | hs
      · exact ix_list value slice pins s sg w.H _ _ v u Q I rx ry ⟨p, us, i, u', rfl, rfl, hs, e1, lead_ok l k rv⟩ hsub
      · exact ix_tup value slice pins s sg w.H _ _ v u Q I rx ry ⟨p, us, i, u', rfl, rfl, hs, e1, lead_ok l k rv⟩ hsub
  | _ => cases a <;> exact l.elim
variable {a b e : Expr} {ma mb me : EM} {es : List Expr} {ms : AM} {pos : Pos}
theorem se_ix {f : MV → MV → M MV} (hr : IxR X (opR E f)) (ha : SE X E a ma) (hb : SE X E b mb) (hs : PlainIx b := by exact fun _ _ => rfl) : SE X E (.Subscript a b pos) (bin f ma mb) :=
  ⟨fun pins s sg H Q I h => (pe_ix hr ha hb hs).run pins s sg H Q I (two_parts h)⟩

/-! ### slices -/
def cutA (xs : List MV) (lo hi : Option Int) : List MV := (xs.drop (HT.sIx xs.length 0 lo)).take (HT.sIx xs.length xs.length hi - HT.sIx xs.length 0 lo)
theorem RVs.cutA {w : Wd} {xs : List MV} {us : List V} (r : RVs w xs us) (lo hi : Option Int) : RVs w (Mi.cutA xs lo hi) (cutV us lo hi) := by
  unfold Mi.cutA cutV
  rw [← r.length]
  exact (r.drop _).take _
def slM (mt : Bool) (x : MV) (lo hi : Option Int) : M MV := match x with
  | .tup xs => M.pure (.tup (cutA xs lo hi))
  | .scr xs => newL mt (cutA xs lo hi)
  | .str z => if z.length ≤ sizeLine then M.pure (.str (cutS z lo hi)) else M.stuck
  | x => (itemsL x).bind fun xs => newL mt (cutA xs lo hi)
abbrev OM := Ev → M (Option Int)
def oNone : OM := fun _ => M.pure none
def oSome (e : EM) : OM := fun env => (e env).bind fun v => match v with
  | .int i => M.pure (some i)
  | _ => M.stuck
def slE (mt : Bool) (e : EM) (lo hi : OM) : EM := fun env => (e env).bind fun x => (lo env).bind fun l => (hi env).bind fun h => slM mt x l h
def tMo (E : EW) (m : OM) : TO := fun sg H Q => ∃ w env, w.H = H ∧ w.Ok ∧ RE w env sg ∧ LeadG (fun _ a b => a = b) w (m env w.h) Q E
def SO (X : Cx) (E : EW) (e : Option Expr) (m : OM) : Prop := PO X e (tMo E m)
theorem so_none : SO X E none oNone := by
  refine ⟨fun pins s sg H Q I h => po_none.run pins s sg H Q I ?_⟩
  obtain ⟨w, env, rfl, k, r, l⟩ := h
  exact lead_ok (R := fun _ (a b : Option Int) => a = b) l k rfl
theorem so_some (he : SE X E e me) : SO X E (some e) (oSome me) := by
  refine ⟨fun pins s sg H Q I h => (po_some he).run pins s sg H Q I ?_⟩
  obtain ⟨w, env, rfl, k, r, l⟩ := h
  refine ⟨w, env, rfl, k, r, lead_bind l fun w1 v u k1 x1 r1 l1 => ?_⟩
  cases v with
  | int i => exact ⟨i, rv_int r1, lead_ok (R := fun _ (a b : Option Int) => a = b) l1 k1 rfl⟩
  | _ => exact l1.elim
def slR (E : EW) (f : MV → Option Int → Option Int → M MV) : V → Option Int → Option Int → Hp → VK → Prop := fun x lo hi H Q => ∃ w a, w.H = H ∧ w.Ok ∧ RV w a x ∧ Lead w (f a lo hi w.h) Q E
theorem sr_seq {mt : Bool} : SlR X (slR E (slM mt)) := by
  intro pins s sg H x v vl vu lo hi sl Q I rx hs pl pu h
  obtain ⟨w, a, rfl, k, ra, l⟩ := h
  cases a with
  | tup xs =>
    simp only [RV] at ra
    obtain ⟨p, us, rfl, h1, r1⟩ := ra
    have l : Lead w (M.pure (MV.tup (cutA xs lo hi)) w.h) Q E := l
    refine sl_tupA pins s sg w.H _ v vl vu lo hi sl Q I rx hs pl pu ⟨p, us, rfl, SqT.of h1, fun c => ?_, fun _ t ht => newT_ok l k (r1.cutA lo hi) ht⟩
    have e : cutA xs lo hi = xs := by
      unfold cutA
      rw [r1.length, c.1, c.2, List.drop_zero, Nat.sub_zero, ← r1.length, List.take_length]
    rw [e] at l
    exact lead_ok l k (by simp only [RV]; exact ⟨p, us, rfl, h1, r1⟩)
  | scr xs =>
    simp only [RV] at ra
    obtain ⟨p, o, us, rfl, h1, r1⟩ := ra
    have l : Lead w (newL mt (cutA xs lo hi) w.h) Q E := l
    exact sl_list pins s sg w.H _ v vl vu lo hi sl Q I rx hs pl pu ⟨p, us, rfl, .inl (.inr ⟨o, h1⟩), fun t ht => newL_ok l k (r1.cutA lo hi) ht⟩
  | str z =>
    simp only [RV] at ra
    have l : Lead w ((if z.length ≤ sizeLine then M.pure (MV.str (cutS z lo hi)) else M.stuck) w.h) Q E := l
    by_cases c : z.length ≤ sizeLine
    · rw [if_pos c] at l
      exact sl_str pins s sg w.H _ v vl vu lo hi sl Q I rx hs pl pu ⟨z, ra, c, lead_ok l k (by simp only [RV])⟩
    · rw [if_neg c] at l; exact l.elim
  | lst xs =>
    have l : Lead w (((itemsL (.lst xs)).bind fun xs => newL mt (cutA xs lo hi)) w.h) Q E := l
    obtain ⟨p, ys, us, rfl, h1, r1, l⟩ := itemsL_ok k ra l
    exact sl_list pins s sg w.H _ v vl vu lo hi sl Q I rx hs pl pu ⟨p, us, rfl, SqL.of h1, fun t ht => newL_ok l k (r1.cutA lo hi) ht⟩
  | cell i =>
    have l : Lead w (((itemsL (.cell i)).bind fun xs => newL mt (cutA xs lo hi)) w.h) Q E := l
    obtain ⟨p, ys, us, rfl, h1, r1, l⟩ := itemsL_ok k ra l
    exact sl_list pins s sg w.H _ v vl vu lo hi sl Q I rx hs pl pu ⟨p, us, rfl, SqL.of h1, fun t ht => newL_ok l k (r1.cutA lo hi) ht⟩
  | _ => exact l.elim
theorem se_sl {mt : Bool} {lo hi : Option Expr} {ml mh : OM} {p2 : Pos} (he : SE X E e me) (hl : SO X E lo ml) (hh : SO X E hi mh) : SE X E (.Subscript e (.Slice lo hi none p2) pos) (slE mt me ml mh) := by
  refine ⟨fun pins s sg H Q I h => (pe_slice (r := slR E (slM mt)) sr_seq he hl hh).run pins s sg H Q I ?_⟩
  obtain ⟨w, env, rfl, k, r, l⟩ := h
  refine ⟨w, env, rfl, k, r, lead_bind l fun w1 v u k1 x1 r1 l1 => ?_⟩
  refine ⟨w1, env, rfl, k1, r.ext k x1, lead_bind l1 fun w2 o o' k2 x2 r2 l2 => ?_⟩
  subst r2
  refine ⟨w2, env, rfl, k2, (r.ext k x1).ext k1 x2, lead_bind l2 fun w3 q q' k3 x3 r3 l3 => ?_⟩
  subst r3
  exact ⟨w3, v, rfl, k3, RV.ext k2 x3 _ _ (RV.ext k1 x2 _ _ r1), l3⟩
/-- xs[::-1] of a list -/
def revM (mt : Bool) (x : MV) : M MV := (itemsL x).bind fun xs => newL mt xs.reverse
theorem RVs.reverse {w : Wd} : ∀ {xs : List MV} {us : List V}, RVs w xs us → RVs w xs.reverse us.reverse
  | [], us, r => by rw [r.zero]; exact RVs.nil
  | x :: xs, us, r => by
    obtain ⟨u, rs, rfl, h1, h2⟩ := r.uncons
    rw [List.reverse_cons, List.reverse_cons]
    exact (RVs.reverse h2).append (RVs.cons h1 RVs.nil)
theorem se_rev {mt : Bool} {kk : Nat} {p1 p2 p3 : Pos} (he : SE X E e me) : SE X E (.Subscript e (.Slice none none (some (.UnaryOp .USub (.Constant (.int 1) kk p1) p2)) p3) pos) (una (revM mt) me) := by
  refine ⟨fun pins s sg H Q I h => (pe_revL he).run pins s sg H Q I ?_⟩
  obtain ⟨w, env, rfl, k, r, l⟩ := h
  refine ⟨w, env, rfl, k, r, lead_bind l fun w1 v u k1 x1 r1 l1 => ?_⟩
  obtain ⟨p, xs, us, rfl, h1, r2, l2⟩ := itemsL_ok k1 r1 l1
  exact ⟨p, us, rfl, SqL.of h1, fun t ht => newL_ok l2 k1 r2.reverse ht⟩

/-! ### built-in functions by values -/
variable {x : Str} {p : Pos} {bid T : String} {f : List MV → M MV}
theorem args_part {sg : L2.St} {H : Hp} {Q : VK} (h : tM E (callE f ms) sg H Q) : tCB (caR E f) (tMa E ms) sg H Q := by
  obtain ⟨w, env, rfl, k, r, l⟩ := h
  exact ⟨w, env, rfl, k, r, lead_bind l fun w1 as us k1 x1 r1 l1 => ⟨w1, as, rfl, k1, r1, l1⟩⟩
theorem se_callB (hc : CallR X (.builtin bid) (caR E f)) (hg : Gl X x) (hm : X.mg x = none) (hv : bootBuiltins x = some (.builtin bid)) (ha : SA X E (e :: es) ms) (hn : x ≠ "__name__" := by decide) (hdb : (x == ("__debug__" : Str)) = false := by decide)
    (he : starEach (e :: es) X.env = (false, eval e X.env) :: starEach es X.env := by rfl) (hpl : (backTo pos (starEach es X.env)).any (·.1) = false := by rfl) : SE X E (.Call (.Name x p) (e :: es) [] pos) (callE f ms) :=
  ⟨fun pins s sg H Q I h => (pe_callB hc hg hm hv ha hn hdb he hpl).run pins s sg H Q I (args_part h)⟩
theorem se_callTy (hc : CallR X (.type T) (caR E f)) (hg : Gl X x) (hm : X.mg x = none) (hv : bootBuiltins x = some (.type T)) (ha : SA X E (e :: es) ms) (hn : x ≠ "__name__" := by decide) (hdb : (x == ("__debug__" : Str)) = false := by decide)
    (he : starEach (e :: es) X.env = (false, eval e X.env) :: starEach es X.env := by rfl) (hpl : (backTo pos (starEach es X.env)).any (·.1) = false := by rfl) : SE X E (.Call (.Name x p) (e :: es) [] pos) (callE f ms) :=
  ⟨fun pins s sg H Q I h => (pe_callTy hc hg hm hv ha hn hdb he hpl).run pins s sg H Q I (args_part h)⟩
def lenM : List MV → M MV
  | [.str z] => if z.length ≤ sizeLine then M.pure (.int z.length) else M.stuck
  | [a] => (itemsS a).bind fun xs => M.pure (.int (xs.length : Nat))
  | _ => M.stuck
theorem cr_len : CallR X (.builtin "len") (caR E lenM) := by
  intro pins s sg H xs us Q I rr h
  obtain ⟨w, as, rfl, k, r, l⟩ := h
  match as, r, l with
  | [], _, l => exact l.elim
  | a :: _ :: _, _, l => cases a <;> exact l.elim
  | [a], r, l =>
    obtain ⟨u, rfl, ra⟩ := r.one
    have gen : Lead w (((itemsS a).bind fun xs => M.pure (MV.int (xs.length : Nat))) w.h) Q E → wpAny (model X.prog X.w) X.A (call (.builtin "len") us) (EP X pins sg Q) X.xe s := fun l => by
      obtain ⟨q, ys, vs, rfl, hs, r1, l⟩ := itemsS_ok (K := X.K) k ra l
      exact call_len_seq pins s sg w.H _ us Q I rr ⟨q, vs, rfl, hs, by rw [← r1.length]; exact lead_ok l k (by simp only [RV])⟩
    cases a with
    | str z =>
      simp only [RV] at ra
      subst ra
      have l : Lead w ((if z.length ≤ sizeLine then M.pure (MV.int z.length) else M.stuck) w.h) Q E := l
      by_cases c : z.length ≤ sizeLine
      · rw [if_pos c] at l
        exact call_len_str pins s sg w.H _ us Q I rr ⟨z, rfl, c, lead_ok l k (by simp only [RV])⟩
      · rw [if_neg c] at l; exact l.elim
    | _ => exact gen l
def absM : List MV → M MV
  | [.int i] => M.pure (.int (if i < 0 then -i else i))
  | _ => M.stuck
theorem cr_abs : CallR X (.builtin "abs") (caR E absM) := by
  intro pins s sg H xs us Q I rr h
  obtain ⟨w, as, rfl, k, r, l⟩ := h
  match as, r, l with
  | [], _, l => exact l.elim
  | a :: _ :: _, _, l => cases a <;> exact l.elim
  | [a], r, l =>
    obtain ⟨u, rfl, ra⟩ := r.one
    cases a with
    | int i =>
      rw [rv_int ra] at rr
      exact call_abs pins s sg w.H _ us Q I rr ⟨i, rfl, lead_ok l k (by simp only [RV])⟩
    | _ => exact l.elim
def intM : List MV → M MV
  | [.int i] => M.pure (.int i)
  | [.bl b] => M.pure (.int (if b then 1 else 0))
  | _ => M.stuck
theorem cr_int : CallR X (.type "int") (caR E intM) := by
  intro pins s sg H xs us Q I rr h
  obtain ⟨w, as, rfl, k, r, l⟩ := h
  match as, r, l with
  | [], _, l => exact l.elim
  | a :: _ :: _, _, l => cases a <;> exact l.elim
  | [a], r, l =>
    obtain ⟨u, rfl, ra⟩ := r.one
    cases a with
    | int i =>
      rw [rv_int ra] at rr
      exact call_int1 pins s sg w.H _ us Q I rr (.inl ⟨i, rfl, lead_ok l k (by simp only [RV])⟩)
    | bl b =>
      simp only [RV] at ra
      subst ra
      exact call_int1 pins s sg w.H _ us Q I rr (.inr ⟨b, rfl, lead_ok l k (by simp only [RV])⟩)
    | _ => exact l.elim
def strM : List MV → M MV
  | [.int i] => if i.natAbs.log2 < 1920 then M.pure (.str (toString i)) else M.stuck
  | _ => M.stuck
theorem cr_str : CallR X (.type "str") (caR E strM) := by
  intro pins s sg H xs us Q I rr h
  obtain ⟨w, as, rfl, k, r, l⟩ := h
  match as, r, l with
  | [], _, l => exact l.elim
  | a :: _ :: _, _, l => cases a <;> exact l.elim
  | [a], r, l =>
    obtain ⟨u, rfl, ra⟩ := r.one
    cases a with
    | int i =>
      rw [rv_int ra] at rr
      have l : Lead w ((if i.natAbs.log2 < 1920 then M.pure (MV.str (toString i)) else M.stuck) w.h) Q E := l
      by_cases c : i.natAbs.log2 < 1920
      · rw [if_pos c] at l
        exact call_str_int pins s sg w.H _ us Q I rr ⟨i, rfl, c, lead_ok l k (by simp only [RV])⟩
      · rw [if_neg c] at l; exact l.elim
    | _ => exact l.elim
def listM (mt : Bool) : List MV → M MV
  | [a] => (itemsS a).bind fun xs => newL mt xs
  | _ => M.stuck
theorem cr_list {mt : Bool} : CallR X (.type "list") (caR E (listM mt)) := by
  intro pins s sg H xs us Q I rr h
  obtain ⟨w, as, rfl, k, r, l⟩ := h
  match as, r, l with
  | [], _, l => exact l.elim
  | _ :: _ :: _, _, l => exact l.elim
  | [a], r, l =>
    obtain ⟨u, rfl, ra⟩ := r.one
    obtain ⟨q, ys, vs, rfl, hs, r1, l⟩ := itemsS_ok (K := X.K) k ra l
    exact call_list_of pins s sg w.H _ us Q I rr ⟨q, vs, rfl, hs, fun t ht => newL_ok l k r1 ht⟩
def tupleM : List MV → M MV
  | [a] => (itemsS a).bind fun xs => M.pure (.tup xs)
  | _ => M.stuck
theorem cr_tuple : CallR X (.type "tuple") (caR E tupleM) := by
  intro pins s sg H xs us Q I rr h
  obtain ⟨w, as, rfl, k, r, l⟩ := h
  match as, r, l with
  | [], _, l => exact l.elim
  | _ :: _ :: _, _, l => exact l.elim
  | [a], r, l =>
    obtain ⟨u, rfl, ra⟩ := r.one
    cases a with
    | tup ys =>
      simp only [RV] at ra
      obtain ⟨q, vs, rfl, h1, r1⟩ := ra
      have l : Lead w (M.pure (MV.tup ys) w.h) Q E := l
      exact call_tuple_of pins s sg w.H _ us Q I rr ⟨q, vs, rfl, .inr ⟨SqT.of h1, lead_ok l k (by simp only [RV]; exact ⟨q, vs, rfl, h1, r1⟩)⟩⟩
    | scr ys =>
      simp only [RV] at ra
      obtain ⟨q, o, vs, rfl, h1, r1⟩ := ra
      have l : Lead w (M.pure (MV.tup ys) w.h) Q E := l
      exact call_tuple_of pins s sg w.H _ us Q I rr ⟨q, vs, rfl, .inl ⟨.inl (.inr ⟨o, h1⟩), fun t ht => newT_ok l k r1 ht⟩⟩
    | lst ys =>
      have l : Lead w (((itemsL (.lst ys)).bind fun xs => M.pure (MV.tup xs)) w.h) Q E := l
      obtain ⟨q, zs, vs, rfl, h1, r1, l⟩ := itemsL_ok k ra l
      exact call_tuple_of pins s sg w.H _ us Q I rr ⟨q, vs, rfl, .inl ⟨SqL.of h1, fun t ht => newT_ok l k r1 ht⟩⟩
    | cell i =>
      have l : Lead w (((itemsL (.cell i)).bind fun xs => M.pure (MV.tup xs)) w.h) Q E := l
      obtain ⟨q, zs, vs, rfl, h1, r1, l⟩ := itemsL_ok k ra l
      exact call_tuple_of pins s sg w.H _ us Q I rr ⟨q, vs, rfl, .inl ⟨SqL.of h1, fun t ht => newT_ok l k r1 ht⟩⟩
    | _ => exact l.elim
/-- a list of bools -/
def blsOf : List MV → Option (List Bool)
  | [] => some []
  | .bl i :: r => (blsOf r).map (i :: ·)
  | _ :: _ => none
theorem blsOf_ok {w : Wd} : ∀ {xs : List MV} {us : List V} {ns : List Bool}, blsOf xs = some ns → RVs w xs us → us = ns.map V.bl
  | [], us, ns, e, r => by
    cases e
    exact r.zero
  | x :: xs, us, ns, e, r => by
    obtain ⟨u, rs, rfl, h1, h2⟩ := r.uncons
    cases x with
    | bl i =>
      unfold blsOf at e
      cases q : blsOf xs with
      | none => rw [q] at e; cases e
      | some ms =>
        rw [q] at e; cases e
        simp only [RV] at h1
        rw [h1, blsOf_ok q h2]
        rfl
    | _ => unfold blsOf at e; cases e
def boolsM (g : List Bool → Bool) : List MV → M MV
  | [a] => (itemsL a).bind fun xs => match blsOf xs with
    | some bs => M.pure (.bl (g bs))
    | none => M.stuck
  | _ => M.stuck
abbrev allM := boolsM fun bs => bs.all id
abbrev anyM := boolsM fun bs => bs.any id
theorem cr_bools {g : List Bool → Bool} (hr : ∀ (pins : List (Addr × Obj)) (s : Shared) (sg : L2.St) (H : Hp) (xs : List V) (us : List Value) (Q : VK), L2.Inv X pins sg H s → Vals xs us → (∃ (a : Addr) (bs : List Bool), xs = [V.ref a] ∧ SqL X.K H a (bs.map V.bl) ∧ Q (.bl (g bs)) H) →
    wpAny (model X.prog X.w) X.A (call (.builtin bid) us) (EP X pins sg Q) X.xe s) : CallR X (.builtin bid) (caR E (boolsM g)) := by
  intro pins s sg H xs us Q I rr h
  obtain ⟨w, as, rfl, k, r, l⟩ := h
  match as, r, l with
  | [], _, l => exact l.elim
  | _ :: _ :: _, _, l => exact l.elim
  | [a], r, l =>
    obtain ⟨u, rfl, ra⟩ := r.one
    obtain ⟨q, ys, vs, rfl, h1, r1, l⟩ := itemsL_ok k ra l
    cases e : blsOf ys with
    | none => simp only [e] at l; exact l.elim
    | some bs =>
      simp only [e] at l
      have := blsOf_ok e r1
      subst this
      exact hr pins s sg w.H _ us Q I rr ⟨q, bs, rfl, SqL.of h1, lead_ok l k (by simp only [RV])⟩
theorem cr_allM (hc : X.calm = true) : CallR X (.builtin "all") (caR E allM) := cr_bools (cr_all hc)
theorem cr_anyM (hc : X.calm = true) : CallR X (.builtin "any") (caR E anyM) := cr_bools (cr_any hc)
def sumM : List MV → M MV
  | [a] => (itemsL a).bind fun xs => match intsOf xs with
    | some ns => M.pure (.int ns.sum)
    | none => M.stuck
  | _ => M.stuck
theorem cr_sumM (hc : X.calm = true) : CallR X (.builtin "sum") (caR E sumM) := by
  intro pins s sg H xs us Q I rr h
  obtain ⟨w, as, rfl, k, r, l⟩ := h
  match as, r, l with
  | [], _, l => exact l.elim
  | _ :: _ :: _, _, l => exact l.elim
  | [a], r, l =>
    obtain ⟨u, rfl, ra⟩ := r.one
    obtain ⟨q, ys, vs, rfl, h1, r1, l⟩ := itemsL_ok k ra l
    cases e : intsOf ys with
    | none => simp only [e] at l; exact l.elim
    | some ns =>
      simp only [e] at l
      obtain ⟨rfl, _⟩ := intsOf_ok e r1
      exact cr_sum hc pins s sg w.H _ us Q I rr ⟨q, ns, rfl, SqL.of h1, lead_ok l k (by simp only [RV])⟩
/-- the greatest, the least of some ints -/
def maxL : Int → List Int → Int
  | m, [] => m
  | m, n :: r => maxL (if n > m then n else m) r
def minL : Int → List Int → Int
  | m, [] => m
  | m, n :: r => minL (if n < m then n else m) r
theorem maxL_spec : ∀ (r : List Int) (m : Int), (maxL m r = m ∨ maxL m r ∈ r) ∧ m ≤ maxL m r ∧ ∀ y ∈ r, y ≤ maxL m r
  | [], m => ⟨.inl rfl, Int.le_refl _, fun y h => absurd h (by simp)⟩
  | n :: r, m => by
    obtain ⟨h1, h2, h3⟩ := maxL_spec r (if n > m then n else m)
    unfold maxL
    by_cases c : n > m
    · rw [if_pos c] at h1 h2 h3 ⊢
      refine ⟨.inr ?_, by omega, fun y hy => ?_⟩
      · rcases h1 with h | h
        · rw [h]; exact List.mem_cons_self
        · exact List.mem_cons_of_mem _ h
      · rcases List.mem_cons.mp hy with h | h
        · rw [h]; exact h2
        · exact h3 y h
    · rw [if_neg c] at h1 h2 h3 ⊢
      refine ⟨?_, h2, fun y hy => ?_⟩
      · rcases h1 with h | h
        · exact .inl h
        · exact .inr (List.mem_cons_of_mem _ h)
      · rcases List.mem_cons.mp hy with h | h
        · rw [h]; omega
        · exact h3 y h
theorem minL_spec : ∀ (r : List Int) (m : Int), (minL m r = m ∨ minL m r ∈ r) ∧ minL m r ≤ m ∧ ∀ y ∈ r, minL m r ≤ y
  | [], m => ⟨.inl rfl, Int.le_refl _, fun y h => absurd h (by simp)⟩
  | n :: r, m => by
    obtain ⟨h1, h2, h3⟩ := minL_spec r (if n < m then n else m)
    unfold minL
    by_cases c : n < m
    · rw [if_pos c] at h1 h2 h3 ⊢
      refine ⟨.inr ?_, by omega, fun y hy => ?_⟩
      · rcases h1 with h | h
        · rw [h]; exact List.mem_cons_self
        · exact List.mem_cons_of_mem _ h
      · rcases List.mem_cons.mp hy with h | h
        · rw [h]; exact h2
        · exact h3 y h
    · rw [if_neg c] at h1 h2 h3 ⊢
      refine ⟨?_, h2, fun y hy => ?_⟩
      · rcases h1 with h | h
        · exact .inl h
        · exact .inr (List.mem_cons_of_mem _ h)
      · rcases List.mem_cons.mp hy with h | h
        · rw [h]; omega
        · exact h3 y h
def maxM : List MV → M MV
  | [.int i, .int j] => M.pure (.int (if j > i then j else i))
  | [a] => (itemsL a).bind fun xs => match intsOf xs with
    | some (n :: r) => M.pure (.int (maxL n r))
    | _ => M.stuck
  | _ => M.stuck
def minM : List MV → M MV
  | [.int i, .int j] => M.pure (.int (if j < i then j else i))
  | [a] => (itemsL a).bind fun xs => match intsOf xs with
    | some (n :: r) => M.pure (.int (minL n r))
    | _ => M.stuck
  | _ => M.stuck
theorem cr_maxM (hc : X.calm = true) : CallR X (.builtin "max") (caR E maxM) := by
  intro pins s sg H xs us Q I rr h
  obtain ⟨w, as, rfl, k, r, l⟩ := h
  match as, r, l with
  | [], _, l => exact l.elim
  | [a, b], r, l =>
    obtain ⟨u, v, rfl, ra, rb⟩ := r.two
    cases a with
    | int i =>
      cases b with
      | int j =>
        rw [rv_int ra, rv_int rb] at rr
        exact call_max2 hc pins s sg w.H _ us Q I rr ⟨i, j, rfl, lead_ok l k (by simp only [RV])⟩
      | _ => exact l.elim
    | _ => exact l.elim
  | a :: b :: c :: d, _, l => cases a <;> cases b <;> exact l.elim
  | [a], r, l =>
    obtain ⟨u, rfl, ra⟩ := r.one
    have l : Lead w (((itemsL a).bind fun xs => match intsOf xs with
      | some (n :: r) => M.pure (MV.int (maxL n r))
      | _ => M.stuck) w.h) Q E := by cases a <;> exact l
    obtain ⟨q, ys, vs, rfl, h1, r1, l⟩ := itemsL_ok k ra l
    cases e : intsOf ys with
    | none => simp only [e] at l; exact l.elim
    | some ns =>
      cases ns with
      | nil => simp only [e] at l; exact l.elim
      | cons n ns =>
        simp only [e] at l
        obtain ⟨rfl, _⟩ := intsOf_ok e r1
        refine cr_max hc pins s sg w.H _ us Q I rr ⟨q, n :: ns, rfl, SqL.of h1, by simp, fun m hm hy => lead_ok l k ?_⟩
        obtain ⟨p1, p2, p3⟩ := maxL_spec ns n
        have e1 : m ≤ maxL n ns := by
          rcases List.mem_cons.mp hm with z | z
          · rw [z]; exact p2
          · exact p3 m z
        have e2 : maxL n ns ≤ m := by
          rcases p1 with z | z
          · rw [z]; exact hy n List.mem_cons_self
          · exact hy _ (List.mem_cons_of_mem _ z)
        simp only [RV]
        rw [Int.le_antisymm e1 e2]
theorem cr_minM (hc : X.calm = true) : CallR X (.builtin "min") (caR E minM) := by
  intro pins s sg H xs us Q I rr h
  obtain ⟨w, as, rfl, k, r, l⟩ := h
  match as, r, l with
  | [], _, l => exact l.elim
  | [a, b], r, l =>
    obtain ⟨u, v, rfl, ra, rb⟩ := r.two
    cases a with
    | int i =>
      cases b with
      | int j =>
        rw [rv_int ra, rv_int rb] at rr
        exact call_min2 hc pins s sg w.H _ us Q I rr ⟨i, j, rfl, lead_ok l k (by simp only [RV])⟩
      | _ => exact l.elim
    | _ => exact l.elim
  | a :: b :: c :: d, _, l => cases a <;> cases b <;> exact l.elim
  | [a], r, l =>
    obtain ⟨u, rfl, ra⟩ := r.one
    have l : Lead w (((itemsL a).bind fun xs => match intsOf xs with
      | some (n :: r) => M.pure (MV.int (minL n r))
      | _ => M.stuck) w.h) Q E := by cases a <;> exact l
    obtain ⟨q, ys, vs, rfl, h1, r1, l⟩ := itemsL_ok k ra l
    cases e : intsOf ys with
    | none => simp only [e] at l; exact l.elim
    | some ns =>
      cases ns with
      | nil => simp only [e] at l; exact l.elim
      | cons n ns =>
        simp only [e] at l
        obtain ⟨rfl, _⟩ := intsOf_ok e r1
        refine cr_min hc pins s sg w.H _ us Q I rr ⟨q, n :: ns, rfl, SqL.of h1, by simp, fun m hm hy => lead_ok l k ?_⟩
        obtain ⟨p1, p2, p3⟩ := minL_spec ns n
        have e1 : minL n ns ≤ m := by
          rcases List.mem_cons.mp hm with z | z
          · rw [z]; exact p2
          · exact p3 m z
        have e2 : m ≤ minL n ns := by
          rcases p1 with z | z
          · rw [z]; exact hy n List.mem_cons_self
          · exact hy _ (List.mem_cons_of_mem _ z)
        simp only [RV]
        rw [Int.le_antisymm e2 e1]
/-! isinstance(x, T), T a built-in type -/
def MV.ty : MV → String
  | .non => "NoneType"
  | .bl _ => "bool"
  | .int _ => "int"
  | .str _ => "str"
  | .tup _ => "tuple"
  | .err _ _ => "object"
  | _ => "list"
def isSub (a b : String) : Bool := a == b || (a == "bool" && b == "int")
def isTM (T : String) (v : MV) : M MV := match v with
  | .cell i => (readC i).bind fun _ => M.pure (.bl (isSub "list" T))
  | .lam _ => M.stuck
  | .fn _ => M.stuck
  | v => M.pure (.bl (isSub v.ty T))
theorem kit_all : ∀ a ∈ ["NoneType", "bool", "int", "str", "tuple", "list"], ∀ b ∈ ["bool", "int", "str", "tuple", "list"], kitB a b = some (isSub a b) := by decide +kernel
theorem ty_mem (v : MV) (h : ∀ c x, v ≠ .err c x) : v.ty ∈ ["NoneType", "bool", "int", "str", "tuple", "list"] := by
  cases v with
  | err c x => exact absurd rfl (h c x)
  | _ => simp [MV.ty]
/-- what the written part says of an error class -/
structure ErC (K : PySem.W.Frag) (C : Addr) : Prop where
  hcl : (PySem.W.clsIn K C).isSome = true
  hga : PySem.W.findIn K (.ref C) "__getattribute__" = some (some (.builtin "BaseException.__getattribute__"))
  hgt : PySem.W.findIn K (.ref C) "__getattr__" = some none
  hsub : PySem.W.subIn K (.ref C) (.type "BaseException") = some true
  hty : PySem.W.typeIn K (.ref C) = some (.type "type")
  ha : PySem.W.findIn K (.ref C) "__class__" = some (some (.builtin "object.__class__"))
  hn : PySem.W.specialIn K (.builtin "object.__class__") "__get__" = some (some (.builtin "getset_descriptor.__get__"))
  htk : PySem.W.takesIn K (.builtin "object.__class__") = some true
  hm : PySem.W.mroIn K C (.type "object") = some true
  hdct : PySem.W.hasDictIn K C = true
  hno : PySem.W.findIn K (.ref C) "value" = some none
  bt : ∀ T ∈ ["bool", "int", "str", "tuple", "list"], PySem.W.kitOne K (.ref C) (.type T) = some false
structure ErK (K : PySem.W.Frag) : Prop where
  all : ∀ c, c < Gb.n → ErC K (Gb.cls c)
theorem erO_at {P : Program} {wd : World} {H : Hp} {h : Heap} {a C d : Addr} (hok : HOk P wd H h) (he : H a = some (ErO a C d)) : ∃ (oe : Obj) (vs : Array Value), h.get? a = some oe ∧ L2.Zc (.ref C) (some d) oe ∧ oe.data = .fields vs := by
  have x : ObjOk P wd H h a (.ext fun h => ∃ (oe : Obj) (vs : Array Value), h.get? a = some oe ∧ L2.Zc (.ref C) (some d) oe ∧ oe.data = .fields vs) := hok a _ he
  exact x.1
theorem xd_at {P : Program} {wd : World} {H : Hp} {h : Heap} {d : Addr} {fs : List (Str × V)} (hok : HOk P wd H h) (he : H d = some (.xd fs)) : ∃ mA, h.Ns1 d mA ∧ ∀ f, RelO (fs.lookup f) (mA f) := hok d _ he
/-- an error's object, as its class's instance -/
theorem er_inst {P : Program} {wd : World} {H : Hp} {h : Heap} {a C d : Addr} {fs : List (Str × V)} (hok : HOk P wd H h) (he : H a = some (ErO a C d)) (hd : H d = some (.xd fs)) : ∃ (oe od : Obj), PySem.W.InstAt h a oe C (some od) ∧ ∃ mA, h.Ns1 d mA ∧ h.get? d = some od ∧ ∀ f, RelO (fs.lookup f) (mA f) := by
  obtain ⟨oe, vs, e1, ⟨z1, z2⟩, e3⟩ := erO_at hok he
  obtain ⟨mA, hns, hr⟩ := xd_at hok hd
  obtain ⟨od, ho, hl⟩ := lookIn_ns hns
  refine ⟨oe, od, ⟨e1, z1, ?_, ?_⟩, mA, hns, ho, hr⟩
  · unfold PySem.W.notCls; rw [e3]
  · rw [z2]; exact ho
/-- isinstance(x, c), x an error or none -/
def rIsA (K : PySem.W.Frag) : List V → Hp → VK → Prop := fun xs H Q => rIsi K xs H Q ∨ ∃ (a C d : Addr) (fs : List (Str × V)) (c : V) (cv : Value) (b : Bool), xs = [.ref a, c] ∧ H a = some (ErO a C d) ∧ H d = some (.xd fs) ∧ ErC K C ∧ (∀ u, RelV c u → u = cv) ∧ PySem.W.kitOne K (.ref C) cv = some b ∧ Q (.bl b) H
theorem call_isA : CallR X (.builtin "isinstance") (rIsA X.K) := by
  intro pins s σ H xs us Q I r h
  rcases h with h | h
  · exact call_isi pins s σ H xs us Q I r h
  · obtain ⟨a, C, d, fs, c, cv, b, rfl, ha, hd, ec, hcv, e, q⟩ := h
    cases r with
    | cons rx rr =>
      cases rr with
      | cons rt rr =>
        cases rr
        cases rx
        have eu := hcv _ rt
        subst eu
        obtain ⟨oe, od, J, _⟩ := er_inst I.hok ha hd
        exact PySem.W.kia_one (PySem.W.kitx_exc ec.hcl ec.hga ec.hgt ec.hsub ec.ha ec.hn ec.htk ec.hm) I.kIn J e (fun z => nomatch z) fun tk => ⟨.bl b, H, I.kept (t' := tk) fun _ _ z => z, rfl, q⟩
/-- no cell, no function -/
structure noS (v : MV) : Prop where
  c : ∀ i, v ≠ .cell i
  l : ∀ i, v ≠ .lam i
  f : ∀ i, v ≠ .fn i
theorem tyx_of {w : Wd} {K : PySem.W.Frag} {v : MV} {u : V} (h : noS v) (h2 : ∀ c x, v ≠ .err c x) (r : RV w v u) : TyX K w.H u (.type v.ty) := by
  cases v with
  | non => simp only [RV] at r; subst r; exact .base .non
  | bl b => simp only [RV] at r; subst r; exact .base (.bl b)
  | int b => simp only [RV] at r; subst r; exact .base (.int b)
  | str b => simp only [RV] at r; subst r; exact .base (.str b)
  | tup b => simp only [RV] at r; obtain ⟨a, us, rfl, h1, _⟩ := r; exact .base (.tup h1)
  | lst b => simp only [RV] at r; obtain ⟨a, us, rfl, h1, _⟩ := r; exact .base (.lst h1)
  | scr b => simp only [RV] at r; obtain ⟨a, o, us, rfl, h1, _⟩ := r; exact .base (.frz h1)
  | cell i => exact absurd rfl (h.c i)
  | lam i => exact absurd rfl (h.l i)
  | fn i => exact absurd rfl (h.f i)
  | err c x => exact absurd rfl (h2 c x)
theorem se_isT {T : String} {tn : Str} {p1 p2 : Pos} (hx : ErK X.K) (hT : T ∈ ["bool", "int", "str", "tuple", "list"]) (hg : Gl X "isinstance") (hm : X.mg "isinstance" = none) (hgT : Gl X tn) (hmT : X.mg tn = none) (hvT : bootBuiltins tn = some (.type T)) (he : SE X E e me)
    (hnT : tn ≠ "__name__" := by decide) (hdT : (tn == ("__debug__" : Str)) = false := by decide)
    (h1 : starEach (e :: [.Name tn p2]) X.env = (false, eval e X.env) :: starEach [.Name tn p2] X.env := by rfl) (h2 : starEach [.Name tn p2] X.env = (false, eval (.Name tn p2) X.env) :: starEach [] X.env := by rfl)
    (hpl : (backTo pos (starEach [.Name tn p2] X.env)).any (·.1) = false := by rfl) : SE X E (.Call (.Name "isinstance" p1) [e, .Name tn p2] [] pos) (una (isTM T) me) := by
  refine ⟨fun pins s sg H Q I h => (pe_callB call_isA hg hm bt_isinstance (pa_cons he (pa_cons (pe_bltn hgT hmT hvT (v := .ty T) rfl hnT hdT) pa_nil h2) h1) (he := h1) (hpl := hpl)).run pins s sg H Q I ?_⟩
  obtain ⟨w, env, rfl, k, r, l⟩ := h
  refine ⟨w, env, rfl, k, r, lead_bind l fun w1 v u k1 x1 r1 l1 => ?_⟩
  have fin : ∀ a, a ∈ ["NoneType", "bool", "int", "str", "tuple", "list"] → TyX X.K w1.H u (.type a) → Lead w1 (M.pure (MV.bl (isSub a T)) w1.h) Q E → rIsA X.K [u, V.ty T] w1.H Q := fun a ha ty l =>
    .inl ⟨u, .ty T, .type a, .type T, isSub a T, rfl, .ty T, ty, kit_ty (kit_all a ha T hT), lead_ok l k1 (by simp only [RV])⟩
  cases v with
  | cell i =>
    obtain ⟨q, ys, vs, rfl, _, _, h1, r2, l2⟩ := readC_ok k1 r1 l1
    exact fin "list" (by simp) (.base (.lst h1)) l2
  | err c x =>
    simp only [RV] at r1
    obtain ⟨hc, a, d, uv, rfl, h1, h2, h3⟩ := r1
    have ec := hx.all c hc
    have l1 : Lead w1 (M.pure (MV.bl (isSub "object" T)) w1.h) Q E := l1
    have ef : isSub "object" T = false := by
      have : ∀ T ∈ ["bool", "int", "str", "tuple", "list"], isSub "object" T = false := by decide
      exact this T hT
    rw [ef] at l1
    exact .inr ⟨a, _, d, _, .ty T, .type T, false, rfl, h1, h2, ec, fun u r => r, ec.bt T hT, lead_ok l1 k1 (by simp only [RV])⟩
  | lam _ => exact l1.elim
  | fn _ => exact l1.elim
  | _ => exact fin _ (ty_mem _ fun c x => by intro z; cases z) (tyx_of ⟨fun i => (by intro z; cases z), fun i => (by intro z; cases z), fun i => (by intro z; cases z)⟩ (fun c x => by intro z; cases z) r1) l1
/-! range as a value -/
def rgA (a b : Int) : List MV := (List.range (b - a).toNat).map fun i => MV.int (a + (i : Nat))
theorem rgA_rv {w : Wd} (a b : Int) : RVs w (rgA a b) (rgV a b) := by
  unfold rgA rgV
  generalize List.range (b - a).toNat = l
  induction l with
  | nil => exact RVs.nil
  | cons x l ih => rw [List.map_cons, List.map_cons]; exact RVs.cons (by simp only [RV]) ih
def rgOk (a b : Int) : Bool := decide (-4611686018427387904 ≤ a ∧ a < 4611686018427387904 ∧ -4611686018427387904 ≤ b ∧ b < 4611686018427387904 ∧ (b - a).toNat ≤ 16777216)
def rgF (mt : Option Bool) (i j : Int) : M MV := if rgOk i j then (match mt with
    | some m => newL m (rgA i j)
    | none => M.pure (.tup (rgA i j))) else M.stuck
def rgE (mt : Option Bool) (a b : EM) : EM := fun env => (a env).bind fun x => (b env).bind fun y => match x, y with
  | .int i, .int j => rgF mt i j
  | _, _ => M.stuck
end
end Mi

set_option Elab.async false
set_option linter.all false
set_option maxRecDepth 100000
set_option maxHeartbeats 4000000
/-! Mini, part H: ranges as values, methods of lists, stores, cells frozen, repr. -/
namespace Mi
open PySem PySem.Spec PyProof.Rows L2
variable [Gb]
section
variable {X : Cx} {E : EW} {a b e o : Expr} {ma mb me mo : EM} {es : List Expr} {ms : AM} {pos : Pos}

theorem rgOk_of {i j : Int} (h : rgOk i j = true) : RgOk i j := by
  unfold rgOk at h
  have := of_decide_eq_true h
  unfold RgOk
  refine ⟨by omega, by omega, by omega, by omega, by omega⟩
/-- list(range(n)), list(range(a, b)) -/
theorem rg_of {mt : Option Bool} {sg : L2.St} {H : Hp} {Q : VK} (h : tM E (rgE mt ma mb) sg H Q) {P : Int → Int → Hp → Prop}
    (q : ∀ (w : Wd) i j, w.Ok → Lead w (rgF mt i j w.h) Q E → P i j w.H) : tRg2 (tM E ma) (tM E mb) sg H P := by
  obtain ⟨w, env, rfl, k, r, l⟩ := h
  refine ⟨w, env, rfl, k, r, lead_bind l fun w1 x u k1 x1 r1 l1 => ?_⟩
  refine ⟨w1, env, rfl, k1, r.ext k x1, lead_bind l1 fun w2 y v k2 x2 r2 l2 => ?_⟩
  cases x with
  | int i =>
    cases y with
    | int j => exact ⟨i, j, rv_int r1, rv_int r2, q w2 i j k2 l2⟩
    | _ => exact l2.elim
  | _ => exact l2.elim
theorem rg_of1 {mt : Option Bool} {sg : L2.St} {H : Hp} {Q : VK} (h : tM E (rgE mt (con (.int 0)) mb) sg H Q) {P : Int → Int → Hp → Prop}
    (q : ∀ (w : Wd) i j, w.Ok → Lead w (rgF mt i j w.h) Q E → P i j w.H) : tRg1 (tM E mb) sg H P := by
  obtain ⟨w, env, rfl, k, r, l⟩ := h
  have l : Lead w (((mb env).bind fun y => match (MV.int 0), y with
    | .int i, .int j => rgF mt i j
    | _, _ => M.stuck) w.h) Q E := l
  refine ⟨w, env, rfl, k, r, lead_bind l fun w2 y v k2 x2 r2 l2 => ?_⟩
  cases y with
  | int j => exact ⟨j, rv_int r2, q w2 0 j k2 l2⟩
  | _ => exact l2.elim
theorem rg_lst {m : Bool} {w : Wd} {i j : Int} {Q : VK} (k : w.Ok) (l : Lead w (rgF (some m) i j w.h) Q E) : RgOk i j ∧ ∀ q, w.H q = none → Q (.ref q) (upd w.H q (.lst (rgV i j))) := by
  unfold rgF at l
  cases c : rgOk i j with
  | false => rw [c, if_neg (by decide)] at l; exact l.elim
  | true => rw [c, if_pos rfl] at l; exact ⟨rgOk_of c, fun q hq => newL_ok l k (rgA_rv i j) hq⟩
theorem rg_tup {w : Wd} {i j : Int} {Q : VK} (k : w.Ok) (l : Lead w (rgF none i j w.h) Q E) : RgOk i j ∧ ∀ q, w.H q = none → Q (.ref q) (upd w.H q (.tup (rgV i j))) := by
  unfold rgF at l
  cases c : rgOk i j with
  | false => rw [c, if_neg (by decide)] at l; exact l.elim
  | true => rw [c, if_pos rfl] at l; exact ⟨rgOk_of c, fun q hq => newT_ok l k (rgA_rv i j) hq⟩
variable {p p2 pos2 : Pos}
theorem se_listRg1 {m : Bool} (hc : X.calm = true) (hg : Gl X "list") (hm : X.mg "list" = none) (hg2 : Gl X "range") (hm2 : X.mg "range" = none) (hb : SE X E b mb)
    (na : starEach [b] X.env = (false, eval b X.env) :: starEach [] X.env := by rfl) (nb : starEach [.Call (.Name "range" p2) [b] [] pos2] X.env = (false, eval (.Call (.Name "range" p2) [b] [] pos2) X.env) :: starEach [] X.env := by rfl) :
    SE X E (.Call (.Name "list" p) [.Call (.Name "range" p2) [b] [] pos2] [] pos) (rgE (some m) (con (.int 0)) mb) :=
  ⟨fun pins s sg H Q I h => (pe_listRg hc hg hm (prg_1 hg2 hm2 hb na) nb).run pins s sg H Q I (rg_of1 h fun w i j k l => rg_lst k l)⟩
theorem se_listRg2 {m : Bool} (hc : X.calm = true) (hg : Gl X "list") (hm : X.mg "list" = none) (hg2 : Gl X "range") (hm2 : X.mg "range" = none) (ha : SE X E a ma) (hb : SE X E b mb)
    (na : starEach [a, b] X.env = (false, eval a X.env) :: starEach [b] X.env := by rfl) (nc : starEach [b] X.env = (false, eval b X.env) :: starEach [] X.env := by rfl) (nb : starEach [.Call (.Name "range" p2) [a, b] [] pos2] X.env = (false, eval (.Call (.Name "range" p2) [a, b] [] pos2) X.env) :: starEach [] X.env := by rfl) (hpl : (backTo pos2 (starEach [b] X.env)).any (·.1) = false := by rfl) :
    SE X E (.Call (.Name "list" p) [.Call (.Name "range" p2) [a, b] [] pos2] [] pos) (rgE (some m) ma mb) :=
  ⟨fun pins s sg H Q I h => (pe_listRg hc hg hm (prg_2 hg2 hm2 ha hb na nc hpl) nb).run pins s sg H Q I (rg_of h fun w i j k l => rg_lst k l)⟩
theorem se_tupRg1 (hc : X.calm = true) (hg : Gl X "tuple") (hm : X.mg "tuple" = none) (hg2 : Gl X "range") (hm2 : X.mg "range" = none) (hb : SE X E b mb)
    (na : starEach [b] X.env = (false, eval b X.env) :: starEach [] X.env := by rfl) (nb : starEach [.Call (.Name "range" p2) [b] [] pos2] X.env = (false, eval (.Call (.Name "range" p2) [b] [] pos2) X.env) :: starEach [] X.env := by rfl) :
    SE X E (.Call (.Name "tuple" p) [.Call (.Name "range" p2) [b] [] pos2] [] pos) (rgE none (con (.int 0)) mb) :=
  ⟨fun pins s sg H Q I h => (pe_tupRg hc hg hm (prg_1 hg2 hm2 hb na) nb).run pins s sg H Q I (rg_of1 h fun w i j k l => rg_tup k l)⟩
theorem se_tupRg2 (hc : X.calm = true) (hg : Gl X "tuple") (hm : X.mg "tuple" = none) (hg2 : Gl X "range") (hm2 : X.mg "range" = none) (ha : SE X E a ma) (hb : SE X E b mb)
    (na : starEach [a, b] X.env = (false, eval a X.env) :: starEach [b] X.env := by rfl) (nc : starEach [b] X.env = (false, eval b X.env) :: starEach [] X.env := by rfl) (nb : starEach [.Call (.Name "range" p2) [a, b] [] pos2] X.env = (false, eval (.Call (.Name "range" p2) [a, b] [] pos2) X.env) :: starEach [] X.env := by rfl) (hpl : (backTo pos2 (starEach [b] X.env)).any (·.1) = false := by rfl) :
    SE X E (.Call (.Name "tuple" p) [.Call (.Name "range" p2) [a, b] [] pos2] [] pos) (rgE none ma mb) :=
  ⟨fun pins s sg H Q I h => (pe_tupRg hc hg hm (prg_2 hg2 hm2 ha hb na nc hpl) nb).run pins s sg H Q I (rg_of h fun w i j k l => rg_tup k l)⟩

/-! ### a cell written by a method or a store -/
def setC (i : Nat) (xs : List MV) : M Unit := fun h => match h[i]? with
  | some (some (.lst _)) => if MV.cfAll xs && decide (xs.length ≤ sizeLine) then .ok () (h.set i (some (.lst xs))) else .stuck
  | _ => .stuck
theorem setC_ok {w : Wd} {i : Nat} {p : Addr} {xs ys : List MV} {vs : List V} {A B : Type} {R : Wd → A → B → Prop} {Q : B → Hp → Prop} {f : Unit → M A} {b : B} (k : w.Ok) (ha : w.rho[i]? = some p) (e : w.h[i]? = some (some (.lst xs)))
    (r : RVs w ys vs) (l : LeadG R w ((M.bind (setC i ys) f) w.h) Q E) (q : ∀ w' : Wd, w'.Ok → Ext w w' → w'.H = upd w.H p (.lst vs) → LeadG R w' (f () w'.h) Q E → Q b w'.H) : Q b (upd w.H p (.lst vs)) := by
  unfold M.bind setC at l
  simp only [e] at l
  cases c : (MV.cfAll ys && decide (ys.length ≤ sizeLine)) with
  | false => simp only [c] at l; exact l.elim
  | true =>
    simp only [c, if_true] at l
    rw [Bool.and_eq_true] at c
    have x := Ext.putL (u := .lst vs) (o' := .lst ys) k e ha (by exact c.1)
    exact q (w.put i p (.lst ys) (.lst vs)) (Wd.Ok.put k e ha ⟨vs, upd_same, RVs.put k e ha _ _ r⟩) x rfl (LeadG.ext x l)
/-- a method's meaning by values -/
def mtR' (E : EW) (f : MV → List MV → M MV) : V → List V → Hp → VK → Prop := fun x xs H Q => ∃ w v as, w.H = H ∧ w.Ok ∧ RV w v x ∧ RVs w as xs ∧ Lead w (f v as w.h) Q E
/-- the receiver is a list -/
def isL : MV → M Unit
  | .lst _ => M.pure ()
  | .scr _ => M.pure ()
  | .cell i => (readC i).bind fun _ => M.pure ()
  | _ => M.stuck
def metL (f : MV → List MV → M MV) (o : EM) (a : AM) : EM := fun env => (o env).bind fun x => (isL x).bind fun _ => (a env).bind fun as => f x as
theorem isL_ok {K : PySem.W.Frag} {w : Wd} {v : MV} {u : V} {A B : Type} {R : Wd → A → B → Prop} {Q : B → Hp → Prop} {f : Unit → M A} (k : w.Ok) (r : RV w v u) (l : LeadG R w ((M.bind (isL v) f) w.h) Q E) :
    tyV K "list" u w.H ∧ LeadG R w (f () w.h) Q E := by
  cases v with
  | lst xs =>
    simp only [RV] at r
    obtain ⟨q, us, rfl, h1, _⟩ := r
    exact ⟨.inl ⟨rfl, us, SqL.of h1⟩, l⟩
  | scr xs =>
    simp only [RV] at r
    obtain ⟨q, ob, us, rfl, h1, _⟩ := r
    exact ⟨.inl ⟨rfl, us, .inl (.inr ⟨ob, h1⟩)⟩, l⟩
  | cell i =>
    unfold isL at l
    rw [M.bind_assoc] at l
    obtain ⟨q, xs, us, rfl, _, _, h1, _, l⟩ := readC_ok k r l
    exact ⟨.inl ⟨rfl, us, SqL.of h1⟩, l⟩
  | _ => exact l.elim
variable {name : Str} {apos cpos : Pos} {bid : String} {f : MV → List MV → M MV}
theorem met_parts {sg : L2.St} {H : Hp} {Q : VK} (h : tM E (metL f mo ms) sg H Q) : tBM X.K "list" (mtR' E f) (tM E mo) (tMa E ms) sg H Q := by
  obtain ⟨w, env, rfl, k, r, l⟩ := h
  refine ⟨w, env, rfl, k, r, lead_bind l fun w1 x u k1 x1 r1 l1 => ?_⟩
  obtain ⟨ty, l1⟩ := isL_ok (K := X.K) k1 r1 l1
  refine ⟨ty, w1, env, rfl, k1, r.ext k x1, lead_bind l1 fun w2 as us k2 x2 r2 l2 => ?_⟩
  exact ⟨w2, x, as, rfl, k2, RV.ext k1 x2 _ _ r1, r2, l2⟩
theorem se_met (slot : Slot "list" name bid) (hty : typeOf (.builtin bid) = pure (.type "method_descriptor")) (hm : MtR X bid (mtR' E f)) (ho : SE X E o mo) (ha : SA X E (e :: es) ms)
    (hbase : attributeBase o name X.env (eval o X.env) = eval o X.env := by rfl)
    (hfew : ((backTo cpos (starEach (e :: es) X.env)).all (fun x => !x.1) && (backToKw cpos (keywordEach [] X.env)).all (fun x => x.1.isSome)
      && decide ((e :: es).length + ([] : List Keyword).length + (if ([] : List Keyword).isEmpty then 0 else 1) < 30)) = true := by rfl)
    (hline : (apos.endLine == cpos.line) = true := by rfl) (hs : starEach (e :: es) X.env = (false, eval e X.env) :: starEach es X.env := by rfl) (hplain : (backTo cpos (starEach es X.env)).any (·.1) = false := by rfl) :
    SE X E (.Call (.Attribute o name apos) (e :: es) [] cpos) (metL f mo ms) :=
  ⟨fun pins s sg H Q I h => (pe_bm PySem.F.plainAttrs_list slot hty hm ho ha hbase hfew hline hs hplain).run pins s sg H Q I (met_parts h)⟩
theorem se_met0 (slot : Slot "list" name bid) (hty : typeOf (.builtin bid) = pure (.type "method_descriptor")) (hm : MtR X bid (mtR' E f)) (ho : SE X E o mo)
    (hbase : attributeBase o name X.env (eval o X.env) = eval o X.env := by rfl) (hline : (apos.endLine == cpos.line) = true := by rfl) : SE X E (.Call (.Attribute o name apos) [] [] cpos) (metL f mo aNil) := by
  refine ⟨fun pins s sg H Q I h => (pe_bm0 PySem.F.plainAttrs_list slot hty hm ho hbase hline).run pins s sg H Q I ?_⟩
  obtain ⟨w, env, rfl, k, r, l⟩ := h
  refine ⟨w, env, rfl, k, r, lead_bind l fun w1 x u k1 x1 r1 l1 => ?_⟩
  obtain ⟨ty, l1⟩ := isL_ok (K := X.K) k1 r1 l1
  exact ⟨ty, w1, x, [], rfl, k1, r1, RVs.nil, l1⟩
def appM : MV → List MV → M MV
  | .cell i, [y] => (readC i).bind fun xs => if xs.length < sizeLine then (setC i (xs ++ [y])).bind fun _ => M.pure .non else M.stuck
  | _, _ => M.stuck
theorem mr_append : MtR X "list.append" (mtR' E appM) := by
  intro pins s sg H x xs v us Q I rx rr h
  obtain ⟨w, a, as, rfl, k, ra, r, l⟩ := h
  match a, as, ra, r, l with
  | .cell i, [y], ra, r, l =>
    obtain ⟨u, rfl, ry⟩ := r.one
    obtain ⟨q, ys, vs, rfl, hr, he, h1, r1, l⟩ := readC_ok k ra l
    by_cases z : ys.length < sizeLine
    · rw [if_pos z] at l
      refine mt_append pins s sg w.H _ _ v us Q I rx rr ⟨q, vs, u, rfl, rfl, h1, by rw [← r1.length]; exact z, ?_⟩
      exact setC_ok k hr he (r1.append (RVs.cons ry RVs.nil)) l fun w' k' _ eH l' => lead_ok l' k' (by simp only [RV])
    · rw [if_neg z] at l; exact l.elim
  | .cell i, [], _, _, l => exact l.elim
  | .cell i, _ :: _ :: _, _, _, l => exact l.elim
  | .non, _, _, _, l => exact l.elim
  | .bl _, _, _, _, l => exact l.elim
  | .int _, _, _, _, l => exact l.elim
  | .str _, _, _, _, l => exact l.elim
  | .tup _, _, _, _, l => exact l.elim
  | .lst _, _, _, _, l => exact l.elim
  | .scr _, _, _, _, l => exact l.elim
def extM : MV → List MV → M MV
  | .cell i, [b] => (itemsL b).bind fun ys => (readC i).bind fun xs => if xs.length + ys.length ≤ sizeLine then (setC i (xs ++ ys)).bind fun _ => M.pure .non else M.stuck
  | _, _ => M.stuck
theorem mr_extend : MtR X "list.extend" (mtR' E extM) := by
  intro pins s sg H x xs v us Q I rx rr h
  obtain ⟨w, a, as, rfl, k, ra, r, l⟩ := h
  match a, as, ra, r, l with
  | .cell i, [y], ra, r, l =>
    obtain ⟨u, rfl, ry⟩ := r.one
    obtain ⟨q2, zs, ws, rfl, h2, r2, l⟩ := itemsL_ok k ry l
    obtain ⟨q, ys, vs, rfl, hr, he, h1, r1, l⟩ := readC_ok k ra l
    by_cases z : ys.length + zs.length ≤ sizeLine
    · rw [if_pos z] at l
      refine mt_extend pins s sg w.H _ _ v us Q I rx rr ⟨q, q2, vs, ws, rfl, rfl, h1, h2, by rw [← r1.length, ← r2.length]; exact z, ?_⟩
      exact setC_ok k hr he (r1.append r2) l fun w' k' _ eH l' => lead_ok l' k' (by simp only [RV])
    · rw [if_neg z] at l; exact l.elim
  | .cell i, [], _, _, l => exact l.elim
  | .cell i, _ :: _ :: _, _, _, l => exact l.elim
  | .non, _, _, _, l => exact l.elim
  | .bl _, _, _, _, l => exact l.elim
  | .int _, _, _, _, l => exact l.elim
  | .str _, _, _, _, l => exact l.elim
  | .tup _, _, _, _, l => exact l.elim
  | .lst _, _, _, _, l => exact l.elim
  | .scr _, _, _, _, l => exact l.elim
def popM : MV → List MV → M MV
  | .cell i, [] => (readC i).bind fun xs => match xs[xs.length - 1]? with
    | some y => (setC i xs.dropLast).bind fun _ => M.pure y
    | none => M.stuck
  | .cell i, [.int j] => (readC i).bind fun xs => match ixN xs.length j with
    | some n => match xs[n]? with
      | some y => (setC i (xs.eraseIdx n)).bind fun _ => M.pure y
      | none => M.stuck
    | none => M.stuck
  | _, _ => M.stuck
theorem RVs.dropLast {w : Wd} {xs : List MV} {us : List V} (r : RVs w xs us) : RVs w xs.dropLast us.dropLast := by
  rw [List.dropLast_eq_take, List.dropLast_eq_take, r.length]
  exact r.take _
theorem RVs.eraseIdx {w : Wd} : ∀ {xs : List MV} {us : List V} (n : Nat), RVs w xs us → RVs w (xs.eraseIdx n) (us.eraseIdx n)
  | [], us, _, r => by rw [r.zero]; exact RVs.nil
  | x :: xs, us, 0, r => by
    obtain ⟨u, rs, rfl, h1, h2⟩ := r.uncons
    exact h2
  | x :: xs, us, n + 1, r => by
    obtain ⟨u, rs, rfl, h1, h2⟩ := r.uncons
    exact RVs.cons h1 (RVs.eraseIdx n h2)
theorem mr_pop : MtR X "list.pop" (mtR' E popM) := by
  intro pins s sg H x xs v us Q I rx rr h
  obtain ⟨w, a, as, rfl, k, ra, r, l⟩ := h
  cases a with
  | cell i =>
    match as, r, l with
    | [], r, l =>
      have hxs := r.zero
      subst hxs
      obtain ⟨q, ys, vs, rfl, hr, he, h1, r1, l⟩ := readC_ok k ra l
      cases e : ys[ys.length - 1]? with
      | none => simp only [e] at l; exact l.elim
      | some y =>
        simp only [e] at l
        obtain ⟨u, e1, ru⟩ := r1.get e
        refine mt_pop pins s sg w.H _ _ v us Q I rx rr ⟨q, vs, u, rfl, rfl, h1, by rw [← r1.length]; exact e1, ?_⟩
        exact setC_ok k hr he r1.dropLast l fun w' k' x' eH l' => lead_ok l' k' (RV.ext k x' _ _ ru)
    | [z], r, l =>
      obtain ⟨u0, rfl, rz⟩ := r.one
      cases z with
      | int j =>
        rw [rv_int rz] at rr
        obtain ⟨q, ys, vs, rfl, hr, he, h1, r1, l⟩ := readC_ok k ra l
        cases e : ixN ys.length j with
        | none => simp only [e] at l; exact l.elim
        | some n =>
          simp only [e] at l
          cases e2 : ys[n]? with
          | none => simp only [e2] at l; exact l.elim
          | some y =>
            simp only [e2] at l
            obtain ⟨u, e1, ru⟩ := r1.get e2
            rw [r1.length] at e
            obtain ⟨q1, q2, q3, q4⟩ := ixN_seq e
            have sz : vs.length < 2 ^ 63 := Nat.lt_of_le_of_lt (I.lstM h1).1 line63
            refine mt_popAt pins s sg w.H _ _ v us Q I rx rr ⟨q, vs, j, n, u, rfl, rfl, h1, by omega, by omega, q1, e1, ?_⟩
            exact setC_ok k hr he (r1.eraseIdx n) l fun w' k' x' eH l' => lead_ok l' k' (RV.ext k x' _ _ ru)
      | _ => exact l.elim
    | a1 :: _ :: _, _, l => cases a1 <;> exact l.elim
  | _ => exact l.elim
def cntM : MV → List MV → M MV
  | x, [.int j] => (itemsL x).bind fun xs => match intsOf xs with
    | some ns => M.pure (.int (ns.count j : Nat))
    | none => M.stuck
  | _, _ => M.stuck
theorem mr_count : MtR X "list.count" (mtR' E cntM) := by
  intro pins s sg H x xs v us Q I rx rr h
  obtain ⟨w, a, as, rfl, k, ra, r, l⟩ := h
  match as, r, l with
  | [], r, l => cases a <;> exact l.elim
  | z :: _ :: _, r, l => cases a <;> cases z <;> exact l.elim
  | [z], r, l =>
    obtain ⟨u0, rfl, rz⟩ := r.one
    cases z with
    | int j =>
      rw [rv_int rz] at rr
      have l : Lead w (((itemsL a).bind fun xs => match intsOf xs with
        | some ns => M.pure (MV.int (ns.count j : Nat))
        | none => M.stuck) w.h) Q E := by cases a <;> exact l
      obtain ⟨q, ys, vs, rfl, h1, r1, l⟩ := itemsL_ok k ra l
      cases e : intsOf ys with
      | none => simp only [e] at l; exact l.elim
      | some ns =>
        simp only [e] at l
        obtain ⟨rfl, _⟩ := intsOf_ok e r1
        exact mt_lcount pins s sg w.H _ _ v us Q I rx rr ⟨q, ns, j, rfl, rfl, SqL.of h1, lead_ok l k (by simp only [RV])⟩
    | _ => cases a <;> exact l.elim
/-- the first place of an equal one -/
def findD (d : PyData) : List PyData → Nat → Option Nat
  | [], _ => none
  | z :: r, n => if PyData.eqv z d then some n else findD d r (n + 1)
theorem findD_spec {d : PyData} : ∀ {ds : List PyData} {n j : Nat}, findD d ds n = some j → n ≤ j ∧ (∃ z, ds[j - n]? = some z ∧ PyData.eqv z d = true) ∧ ∀ m z', m < j - n → ds[m]? = some z' → PyData.eqv z' d = false
  | [], _, _, h => by cases h
  | z :: r, n, j, h => by
    unfold findD at h
    cases c : PyData.eqv z d with
    | true =>
      rw [c, if_pos rfl] at h; cases h
      exact ⟨Nat.le_refl _, ⟨z, by simp, c⟩, fun m z' hm _ => by omega⟩
    | false =>
      rw [c, if_neg (by decide)] at h
      obtain ⟨h1, ⟨z2, h2, h3⟩, h4⟩ := findD_spec h
      refine ⟨by omega, ⟨z2, ?_, h3⟩, fun m z' hm hz => ?_⟩
      · have e : j - n = (j - (n + 1)) + 1 := by omega
        rw [e, List.getElem?_cons_succ]; exact h2
      · cases m with
        | zero => simp at hz; subst hz; exact c
        | succ m => exact h4 m z' (by omega) (by simpa using hz)
def idxM : MV → List MV → M MV
  | x, [y] => (itemsL x).bind fun xs => if SeqAt.shaped (.list (MV.datAll xs)) && SeqAt.shaped y.dat then (match findD y.dat (MV.datAll xs) 0 with
    | some j => M.pure (.int (j : Nat))
    | none => M.stuck) else M.stuck
  | _, _ => M.stuck
theorem mr_index (hu : X.A.units + 65 < cLine) : MtR X "list.index" (mtR' E idxM) := by
  intro pins s sg H x xs v us Q I rx rr h
  obtain ⟨w, a, as, rfl, k, ra, r, l⟩ := h
  match as, r, l with
  | [], r, l => exact l.elim
  | z :: _ :: _, r, l => exact l.elim
  | [y], r, l =>
    obtain ⟨u0, rfl, ry⟩ := r.one
    obtain ⟨q, ys, vs, rfl, h1, r1, l⟩ := itemsL_ok k ra l
    cases c : (SeqAt.shaped (.list (MV.datAll ys)) && SeqAt.shaped y.dat) with
    | false => rw [c, if_neg (by decide)] at l; exact l.elim
    | true =>
      rw [c, if_pos rfl] at l
      rw [Bool.and_eq_true] at c
      cases e : findD y.dat (MV.datAll ys) 0 with
      | none => simp only [e] at l; exact l.elim
      | some j =>
        simp only [e] at l
        obtain ⟨_, ⟨z, q2, q3⟩, q4⟩ := findD_spec e
        have c1 : PyData.canLayAll0 (MV.datAll ys) = true := by
          have := SeqAt.canLay_of_shaped c.1
          simpa only [PyData.canLay0] using this
        exact mt_indexD hu pins s sg w.H _ _ v us Q I rx rr ⟨q, u0, y.dat, MV.datAll ys, j, z, rfl, rfl, .lst (SqL.of h1) (dp_all ys vs c1 r1), dp_of y u0 (SeqAt.canLay_of_shaped c.2) ry, c.1, c.2, by simpa using q2, q3, fun m z' hm hz => q4 m z' (by simpa using hm) hz, lead_ok l k (by simp only [RV])⟩

/-! ### o[i] = v of a list -/
def setM : MV → MV → MV → M Unit
  | .cell i, .int j, v => (readC i).bind fun xs => match ixN xs.length j with
    | some n => setC i (xs.set n v)
    | none => M.stuck
  | _, _, _ => M.stuck
theorem sg_sub {own : List Nat} (ho : SE X E o mo) (hb : SE X E b mb) (ha : ∀ v, assign (.Subscript o b pos) X.env v = (do
      let ov ← holding [v] (eval o X.env)
      let iv ← holding [v, ov] (eval b X.env)
      standAt pos
      holding [v, ov, iv] (setItem ov iv v)
      release [v, ov, iv] []) := by intro _; rfl) : SG X E own (.Subscript o b pos) (gSub setM mo mb) := by
  refine ⟨fun pins s sg H v u Q I rv h => (pg_sub ho hb set_list ha).run pins s sg H v u Q I rv ?_⟩
  obtain ⟨w, env, v', rfl, k, r, rv, l⟩ := h
  refine ⟨w, env, rfl, k, r, lead_bind l fun w1 x ux k1 x1 r1 l1 => ?_⟩
  refine ⟨w1, env, rfl, k1, r.ext k x1, lead_bind l1 fun w2 y uy k2 x2 r2 l2 => ?_⟩
  have re2 := (r.ext k x1).ext k1 x2
  have rv2 := RV.ext k1 x2 _ _ (RV.ext k x1 _ _ rv)
  have rx2 := RV.ext k1 x2 _ _ r1
  cases x with
  | cell i =>
    cases y with
    | int j =>
      unfold setM at l2
      rw [M.bind_assoc] at l2
      obtain ⟨q, ys, vs, rfl, hr, he, h1, r3, l2⟩ := readC_ok k2 rx2 l2
      cases e : ixN ys.length j with
      | none => simp only [e] at l2; exact l2.elim
      | some n =>
        simp only [e] at l2
        refine ⟨q, vs, j, n, rfl, rv_int r2, h1, by rw [← r3.length]; exact e, ?_⟩
        exact (setC_ok (b := sg) k2 hr he (r3.set rv2 n) l2 fun w' k' x' eH l' => fun hw => lead_ok l' k' (re2.ext k2 x') hw) rfl
    | _ => exact l2.elim
  | _ => cases y <;> exact l2.elim
end
end Mi

set_option Elab.async false
set_option linter.all false
set_option maxRecDepth 100000
set_option maxHeartbeats 4000000
/-! Mini, part I: what is walked: lists, tuples, ranges, enumerate, zip of any mix. -/
namespace Mi
open PySem PySem.Spec PyProof.Rows L2
variable [Gb]

/-! ### a list or a tuple that is tracked -/
def SqH (kd : Bool) (H : Hp) (a : Addr) (xs : List V) : Prop := match kd with
  | true => H a = some (.tup xs)
  | false => Rd H a (.lst xs)
def SrcH (kd : Bool) (h : Heap) (a : Addr) (its : Array Value) : Prop := match kd with
  | true => h.IsTuple a its
  | false => h.IsList a its
def ItH (kd : Bool) (h : Heap) (it a : Addr) (i : Nat) : Prop := match kd with
  | true => h.IsTupleIter it a i
  | false => h.IsListIter it a i
def objH (kd : Bool) (a : Addr) : Obj := match kd with
  | true => { cls := .type "tuple_iterator", data := .fields #[.ref a, .int 0 0] }
  | false => { cls := .type "list_iterator", data := .fields #[.ref a, .int 0 0] }
section
variable {P : Program} {w : World} {X : Cx} {pins : List (Addr × Obj)} {sg : L2.St} {H : Hp} {s : Shared} {kd kd2 : Bool} {a b : Addr} {xs ys : List V} {its its2 : Array Value}
theorem SqH.ne (h : SqH kd H a xs) : H a ≠ none := by
  cases kd with
  | true => have h : H a = some (.tup xs) := h; rw [h]; exact fun z => nomatch z
  | false =>
    rcases (show Rd H a (.lst xs) from h) with e | ⟨o, e⟩
    · rw [e]; exact fun z => nomatch z
    · rw [e]; exact fun z => nomatch z
theorem SqH.raw (I : L2.Inv X pins sg H s) (h : SqH kd H a xs) : ∃ its : List Value, Vals xs its ∧ SrcH kd s.heap a its.toArray := by
  cases kd with
  | true =>
    obtain ⟨its, rv, p, _⟩ := I.tuple (SqT.of h)
    exact ⟨its, rv, p⟩
  | false =>
    obtain ⟨its, rv, p, _⟩ := I.list (.inl h)
    exact ⟨its, rv, p.isList⟩
theorem SqH.inj (I : L2.Inv X pins sg H s) (h : SqH kd H a xs) (h' : SqH kd H a ys) : xs = ys := by
  cases kd with
  | true => exact I.tuple_inj (SqT.of h) (SqT.of h')
  | false => exact I.list_inj (.inl h) (.inl h')
theorem draws_h {A : Around} (hh : A.handled = none) {it : Addr} (hne : a ≠ it) (its : Array Value) :
    Draws P w A it [it, a] its.size (fun i v => its[i]? = some v) (fun i h => ItH kd h it a i ∧ SrcH kd h a its) := by
  cases kd with
  | true => exact Draws.tuple hh it a hne its
  | false => exact Draws.list hh it a hne its
theorem begins_h (its : Array Value) : Begins (.ref a) (objH kd a) fun h => SrcH kd h a its := by
  cases kd with
  | true => exact begins_tuple a its
  | false => exact begins_list a its
theorem ItH.obj {h : Heap} {it : Addr} {i : Nat} (x : ItH kd h it a i) : ∃ o, h.get? it = some o ∧ ∀ v, o.data ≠ .cell v := by
  cases kd with
  | true => obtain ⟨o, e, _, d⟩ := x; exact ⟨o, e, fun v z => by rw [d] at z; cases z⟩
  | false => obtain ⟨o, e, _, d⟩ := x; exact ⟨o, e, fun v z => by rw [d] at z; cases z⟩
theorem ItH.kept {h h' : Heap} {it : Addr} {i : Nat} (x : ItH kd h it a i) (k : ∀ o, h.get? it = some o → h'.get? it = some o) : ItH kd h' it a i := by
  cases kd with
  | true => exact (show h.IsTupleIter it a i from x).at k
  | false => exact (show h.IsListIter it a i from x).at k
theorem objH_is {h : Heap} {it : Addr} (e : h.get? it = some (objH kd a)) : ItH kd h it a 0 := by
  cases kd with
  | true => exact ⟨_, e, rfl, rfl⟩
  | false => exact ⟨_, e, rfl, rfl⟩
end

/-! ### enumerate -/
def IteH (kd : Bool) (a : Addr) : It :=
  ⟨fun i H => ∃ (xs : List V) (x : V), SqH kd H a xs ∧ xs[i]? = some x, fun i H v H' => ∃ T x, v = .ref T ∧ H T = none ∧ H' = upd H T (.tup [.int (i : Nat), x]) ∧ ∀ xs, SqH kd H a xs → xs[i]? = some x, fun i H => ∃ xs : List V, SqH kd H a xs ∧ xs.length = i⟩
theorem turn_enumH {P : Program} {w : World} {K : PySem.W.Frag} {kd : Bool} {elts : List Expr} {kk : Nat} {tpos : Pos} (a e it : Addr) :
    Turn P w K (.Tuple elts kk tpos) (IteH kd a) [e, it] e (fun i h => (∃ old, IsEnum h e it ((i : Nat) : Int) old) ∧ ItH kd h it a i ∧ e ≠ it) where
  mem := by simp
  obj := fun i h st b hb => by
    obtain ⟨⟨old, he⟩, hi, _⟩ := st
    rcases List.mem_cons.mp hb with z | z
    · subst z; exact ⟨_, he, fun v q => nomatch q⟩
    · rw [List.mem_singleton.mp z]; exact hi.obj
  keep := fun i h h' st k => by
    obtain ⟨⟨old, he⟩, hi, hne⟩ := st
    exact ⟨⟨old, k e (by simp) _ he⟩, hi.kept fun o q => k it (by simp) o q, hne⟩
  item := by
    intro X hP hw hK hc i pins s sg H E I hf st hg
    subst hP hw hK
    obtain ⟨⟨old, he⟩, hit, hne⟩ := st
    obtain ⟨xs, x, hq, hx⟩ := hg
    obtain ⟨its, rv, src⟩ := hq.raw I
    have nae : a ≠ e := fun z => hq.ne (by rw [z]; exact (hf e (by simp)).1)
    have nai : a ≠ it := fun z => hq.ne (by rw [z]; exact (hf it (by simp)).1)
    have hlen : its.toArray.size = xs.length := by rw [List.size_toArray]; exact rv.length.symm
    have hlt : i < xs.length := (List.getElem?_eq_some_iff.mp hx).1
    have hel : e < s.heap.objs.size := Heap.lt_size he
    have hil : it < s.heap.objs.size := by obtain ⟨_, q, _⟩ := hit.obj; exact Heap.lt_size q
    have D := draws_h (P := X.prog) (w := X.w) (kd := kd) (A := X.A.in1) (I.ok.hd hc) nai its.toArray
    refine wpAny_pyNext_enum_itemC D he ⟨hit, src⟩ (by rw [hlen]; exact hlt) hne (by simp only [List.mem_cons, List.mem_nil_iff, or_false, not_or]; exact ⟨hne, nae.symm⟩) fun u h' tk hu ho st' hT hsz hk => ?_
    have ru : RelV x u := by
      obtain ⟨u', e1, r'⟩ := rv.get hx
      have hu : its.toArray[i]? = some u := hu
      rw [List.getElem?_toArray, e1] at hu
      cases hu; exact r'
    refine ⟨_, rfl, wpAny_letOwnedTupleGo_enum (s := { s with heap := h', toks := tk + 1 }) ho fun h'' he' sb => ?_⟩
    have hT2 : h''.get? s.heap.objs.size = some { cls := .type "tuple", data := .seq #[.int i tk, u] } := (sb.2 _ (Nat.ne_of_gt hel)).trans hT
    have new : ObjOk X.prog X.w (upd H s.heap.objs.size (.tup [.int (i : Nat), x])) h'' s.heap.objs.size (.tup [.int (i : Nat), x]) :=
      ⟨by show 2 ≤ sizeLine; decide, [.int i tk, u], .cons ⟨_, rfl⟩ (.cons ru .nil), ⟨_, hT2, rfl, _, rfl⟩⟩
    have I1 : L2.Inv X pins sg (upd H s.heap.objs.size (.tup [.int (i : Nat), x])) { s with heap := h'', toks := tk + 1 } :=
      I.turnedNew (ch := [e, it]) (fun b ob hb q => (sb.2 b (fun z => hb (by simp [z]))).trans (hk b ob (fun z => hb (by simp [z])) (fun z => hb (by simp [z])) q)) hf (Nat.le_refl _) new
    refine ⟨.ref s.heap.objs.size, _, I1, rfl, ⟨_, x, rfl, I.hok.fresh (Nat.le_refl _), rfl, fun zs hz => by rw [hz.inj I hq]; exact hx⟩, ⟨⟨u, ?_⟩, st'.1.kept fun o q => (sb.2 it (Ne.symm hne)).trans q, hne⟩, fun b hb => ?_⟩
    · have e1 : ((i + 1 : Nat) : Int) = (i : Int) + 1 := by omega
      rw [e1]; exact he'
    · have hb' : b < s.heap.objs.size := by
        rcases List.mem_cons.mp hb with z | z
        · rw [z]; exact hel
        · rw [List.mem_singleton.mp z]; exact hil
      rw [upd_ne (Nat.ne_of_lt hb')]
      exact (hf b hb).1
  done := by
    intro X hP hw hK hc i pins s sg H E I hf st hg
    subst hP hw hK
    obtain ⟨⟨old, he⟩, hit, hne⟩ := st
    obtain ⟨xs, hq, hx⟩ := hg
    obtain ⟨its, rv, src⟩ := hq.raw I
    obtain ⟨f0, f1, f2, f3, f4, f5⟩ := hf it (by simp)
    have nai : a ≠ it := fun z => hq.ne (by rw [z]; exact f0)
    have hlen : its.toArray.size = i := by rw [List.size_toArray, ← hx]; exact rv.length.symm
    have D := draws_h (P := X.prog) (w := X.w) (kd := kd) (A := X.A.in1) (I.ok.hd hc) nai its.toArray
    refine wpAny_pyNext_enum_endD D he (by rw [hlen]; exact ⟨hit, src⟩) fun h' eb => ⟨rfl, ?_⟩
    exact I.turnedL (t' := s.toks) (ch := [e, it]) (fun b o hb q => eb b o (fun z => hb (by simp [z])) q) hf
  self := fun A i s Q E st h => by obtain ⟨⟨_, he⟩, _⟩ := st; exact wpAny_pyIter_enum he h
theorem walk_enumH {kd : Bool} {a : Addr} {xs : List V} : Walk (IteH kd a) xs.length (fun H => SqH kd H a xs) (YPair (fun i => some (.int (i : Nat))) (fun i => xs[i]?)) where
  goes := fun i H hi h => ⟨xs, xs[i], h, List.getElem?_eq_getElem hi⟩
  stops := fun H h => ⟨xs, h, rfl⟩
  yields := fun i H v H' hi h y => by
    obtain ⟨T, x, e, n, eH, hx⟩ := y
    exact ⟨T, .int (i : Nat), x, e, n, eH, rfl, hx xs h⟩
/-- enumerate(v) of one argument -/
theorem meets_enum1 {v : Value} {o : Obj} {H : Heap → Prop} (B : Begins v o H) :
    Meets (Builtin.«enumerate.__new__» ⟨[.type "enumerate", v], []⟩) (fun _ R s => H s.heap ∧
      R (.ok (.ret (.ref (s.heap.push o).objs.size))) { s with heap := (s.heap.push o).push { cls := .type "enumerate", data := .fields #[.none, .bool false, .ref s.heap.objs.size, rawInt 0, .none, .none] } }) :=
  .of_wp fun prog w A R s h => by
    obtain ⟨hp, g, d, tk, os⟩ := s
    obtain ⟨hb, h⟩ := h
    have hsub := sub_enumerate
    have start : ∀ {A' : Around} {E : Value → Shared → Prop} {Q : Value → Shared → Prop}, Q (.ref hp.objs.size) ⟨hp.push o, g, d, tk, os⟩ → wpAny (model prog w) A' (pyIter v) Q E ⟨hp, g, d, tk, os⟩ :=
      fun q => B.iter prog w _ _ ⟨hp, g, d, tk, os⟩ _ hb q
    wp_walk using start
    refine wpAny_stack_any fun st => wpAny_pure ?_
    split
    · rename_i c _ _ _ _ _
      cases (c == Value.type "enumerate")
      · wp_walk using start
        exact ⟨_, rfl, h⟩
      · wp_walk using start
        exact ⟨_, rfl, h⟩
    · wp_walk using start
      exact ⟨_, rfl, h⟩
theorem enum_begins1 {prog : Program} {w : World} {A : Around} {E : Value → Shared → Prop} {s : Shared} {v : Value} {o : Obj} {H : Heap → Prop} {Q : Value → Shared → Prop} (B : Begins v o H) (h1 : H s.heap)
    (h : ∀ h', IsEnum h' (s.heap.objs.size + 1) s.heap.objs.size 0 .none → h'.get? s.heap.objs.size = some o → (∀ b o, s.heap.get? b = some o → h'.get? b = some o) → Q (.ref (s.heap.objs.size + 1)) { s with heap := h' }) :
    wpAny (model prog w) A (call (.type "enumerate") [v]) Q E s := by
  refine callType_new F.called_enumerate (by decide) (F.typeCall_enumerate_1 _) (F.newCall_enumerate_1 _) (fun obj => F.args_object_init_2 obj _) F.entry_enumerate_new (meets_enum1 B) ⟨h1, ?_⟩
  have hz : (s.heap.push o).objs.size = s.heap.objs.size + 1 := Heap.size_push ..
  show _ ∧ _
  rw [hz]
  have he : IsEnum ((s.heap.push o).push { cls := .type "enumerate", data := .fields #[.none, .bool false, .ref s.heap.objs.size, rawInt 0, .none, .none] }) (s.heap.objs.size + 1) s.heap.objs.size 0 .none := by
    have q := Heap.get?_push_size (s.heap.push o) (o := { cls := .type "enumerate", data := .fields #[.none, .bool false, .ref s.heap.objs.size, rawInt 0, .none, .none] }) rfl
    rw [hz] at q; exact q
  exact ⟨⟨_, he, rfl⟩, h _ he (Heap.get?_push_of_some _ (Heap.get?_push_size _ B.free)) fun b o x => Heap.get?_push_of_some _ (Heap.get?_push_of_some _ x)⟩
/-- enumerate(a list or a tuple) -/
def iEnumH (ta : TA) : TI := fun sg H R => ta sg H fun vs H1 => ∃ kd a xs, vs = [.ref a] ∧ SqH kd H1 a xs ∧ R (IteH kd a) H1
theorem pi_enumH {X : Cx} {e : Expr} {ta : TA} {p pos tpos : Pos} {elts : List Expr} {kk : Nat} (hg : Gl X "enumerate") (hm : X.mg "enumerate" = none) (ha : PA X [e] ta) (hs : starEach [e] X.env = [(false, eval e X.env)] := by rfl) :
    PI X (.Tuple elts kk tpos) (.Call (.Name "enumerate" p) [e] [] pos) (iEnumH ta) := by
  constructor
  intro pins s sg H R I h
  refine Call_ (ld_blt I hg hm boot_enumerate (PyProof.Rows.callWith_type1 (thn (ha.run pos pins s sg H _ I h) fun us s1 ⟨vs, H1, I1, r1, q1⟩ => ?_) hs rfl))
  obtain ⟨kd, a, xs, rfl, hq, q⟩ := q1
  obtain ⟨u, rfl, r⟩ := r1.one
  cases r
  obtain ⟨its, rv, src⟩ := hq.raw I1
  refine enum_begins1 (begins_h (kd := kd) its.toArray) src fun h' he hit hk => wpAny_pyIter_enum he ?_
  have I2 : L2.Inv X pins sg H1 { s1 with heap := h' } := I1.kept (t' := s1.toks) hk
  refine ⟨s1.heap.objs.size + 1, [s1.heap.objs.size + 1, s1.heap.objs.size], _, _, H1, rfl, I2, turn_enumH a (s1.heap.objs.size + 1) s1.heap.objs.size, ⟨⟨.none, he⟩, objH_is hit, Nat.succ_ne_self _⟩, fun b hb => ?_, q⟩
  have hle : s1.heap.objs.size ≤ b := by
    rcases List.mem_cons.mp hb with z | z
    · rw [z]; exact Nat.le_add_right _ _
    · rw [List.mem_singleton.mp z]; exact Nat.le_refl _
  exact I1.fpOk hle (I1.hok.fresh hle)

/-! ### zip of two -/
def ItzH (kd kd2 : Bool) (a b : Addr) : It :=
  ⟨fun i H => ∃ (xs ys : List V) (x y : V), SqH kd H a xs ∧ SqH kd2 H b ys ∧ xs[i]? = some x ∧ ys[i]? = some y,
    fun i H v H' => ∃ T x y, v = .ref T ∧ H T = none ∧ H' = upd H T (.tup [x, y]) ∧ (∀ xs, SqH kd H a xs → xs[i]? = some x) ∧ ∀ ys, SqH kd2 H b ys → ys[i]? = some y,
    fun i H => ∃ xs ys : List V, SqH kd H a xs ∧ SqH kd2 H b ys ∧ i ≤ xs.length ∧ i ≤ ys.length ∧ (i = xs.length ∨ i = ys.length)⟩
theorem turn_zipH {P : Program} {w : World} {K : PySem.W.Frag} {kd kd2 : Bool} {elts : List Expr} {kk : Nat} {tpos : Pos} {a b z TI TO i1 i2 : Addr} (D : z ≠ TI ∧ z ≠ TO ∧ TI ≠ TO ∧ TI ≠ i1 ∧ TI ≠ i2 ∧ z ≠ i1 ∧ z ≠ i2 ∧ TO ≠ i1 ∧ TO ≠ i2 ∧ i1 ≠ i2) :
    Turn P w K (.Tuple elts kk tpos) (ItzH kd kd2 a b) [z, TI, TO, i1, i2] z (fun i h => IsZip h z TI TO .none ∧ IsTupOf2 h TI (.ref i1) (.ref i2) ∧ (∃ x y, IsTupOf2 h TO x y) ∧ ItH kd h i1 a i ∧ ItH kd2 h i2 b i) where
  mem := by simp
  obj := fun i h st c hc => by
    obtain ⟨hz, hTI, ⟨x, y, hTO⟩, h1, h2⟩ := st
    simp only [List.mem_cons, List.mem_nil_iff, or_false] at hc
    rcases hc with q | q | q | q | q
    · rw [q]; exact ⟨_, hz, fun v q => nomatch q⟩
    · rw [q]; exact ⟨_, hTI, fun v q => nomatch q⟩
    · rw [q]; exact ⟨_, hTO, fun v q => nomatch q⟩
    · rw [q]; exact h1.obj
    · rw [q]; exact h2.obj
  keep := fun i h h' st k => by
    obtain ⟨hz, hTI, ⟨x, y, hTO⟩, h1, h2⟩ := st
    exact ⟨k z (by simp) _ hz, k TI (by simp) _ hTI, ⟨x, y, k TO (by simp) _ hTO⟩, h1.kept fun o q => k i1 (by simp) o q, h2.kept fun o q => k i2 (by simp) o q⟩
  item := by
    intro X hP hw hK hc i pins s sg H E I hf st hg
    subst hP hw hK
    obtain ⟨hz, hTI, ⟨x0, y0, hTO⟩, h1, h2⟩ := st
    obtain ⟨xs, ys, x, y, hqx, hqy, hx, hy⟩ := hg
    obtain ⟨its, rv, src⟩ := hqx.raw I
    obtain ⟨its2, rv2, src2⟩ := hqy.raw I
    obtain ⟨d1, d2, d3, d4, d5, d6, d7, d8, d9, d10⟩ := D
    have na : ∀ c ∈ [z, TI, TO, i1, i2], a ≠ c := fun c hcm e => hqx.ne (by rw [e]; exact (hf c hcm).1)
    have nb : ∀ c ∈ [z, TI, TO, i1, i2], b ≠ c := fun c hcm e => hqy.ne (by rw [e]; exact (hf c hcm).1)
    have S : ZipSep2 z TI TO i1 i2 [i1, a] [i2, b] :=
      { TIz := d1.symm, TOz := d2.symm, TITO := d3, TIi1 := d4, mem1 := by simp, zf1 := by simp [d6, (na z (by simp)).symm], Tf1 := by simp [d8, (na TO (by simp)).symm],
        TIi2 := d5, mem2 := by simp, zf2 := by simp [d7, (nb z (by simp)).symm], Tf2 := by simp [d9, (nb TO (by simp)).symm], sep1_2 := by simp [d10, (nb i1 (by simp)).symm], sep2_1 := by simp [d10.symm, (na i2 (by simp)).symm] }
    have l1 : its.toArray.size = xs.length := by rw [List.size_toArray]; exact rv.length.symm
    have l2 : its2.toArray.size = ys.length := by rw [List.size_toArray]; exact rv2.length.symm
    have D1 := draws_h (P := X.prog) (w := X.w) (kd := kd) (A := X.A.in1) (I.ok.hd hc) (na i1 (by simp)) its.toArray
    have D2 := draws_h (P := X.prog) (w := X.w) (kd := kd2) (A := X.A.in1) (I.ok.hd hc) (nb i2 (by simp)) its2.toArray
    have hzl : z < s.heap.objs.size := Heap.lt_size hz
    refine wpAny_pyNext_zipD2_item S D1 D2 hz hTI hTO ⟨h1, src⟩ ⟨h2, src2⟩ (by rw [l1]; exact (List.getElem?_eq_some_iff.mp hx).1) (by rw [l2]; exact (List.getElem?_eq_some_iff.mp hy).1) fun u u2 h' tk hu hu2 z' TO' h1' h2' hT hsz hk => ?_
    have ru : RelV x u := by
      obtain ⟨u', e1, r'⟩ := rv.get hx
      have hu : its.toArray[i]? = some u := hu
      rw [List.getElem?_toArray, e1] at hu
      cases hu; exact r'
    have ru2 : RelV y u2 := by
      obtain ⟨u', e1, r'⟩ := rv2.get hy
      have hu2 : its2.toArray[i]? = some u2 := hu2
      rw [List.getElem?_toArray, e1] at hu2
      cases hu2; exact r'
    refine ⟨_, rfl, wpAny_letOwnedTupleGo_zip (s := { s with heap := h', toks := tk }) z' fun h'' z'' sb => ?_⟩
    have hT2 : h''.get? s.heap.objs.size = some { cls := .type "tuple", data := .seq #[u, u2] } := (sb.2 _ (Nat.ne_of_gt hzl)).trans hT
    have new : ObjOk X.prog X.w (upd H s.heap.objs.size (.tup [x, y])) h'' s.heap.objs.size (.tup [x, y]) :=
      ⟨by show 2 ≤ sizeLine; decide, [u, u2], .cons ru (.cons ru2 .nil), ⟨_, hT2, rfl, _, rfl⟩⟩
    have I1 : L2.Inv X pins sg (upd H s.heap.objs.size (.tup [x, y])) { s with heap := h'', toks := tk } :=
      I.turnedNew (t' := tk) (ch := [z, TI, TO, i1, i2]) (fun c o hb q => (sb.2 c (fun q' => hb (by simp [q']))).trans (hk c o (fun q' => hb (by simp [q'])) (fun q' => hb (by simp [q'])) (fun q' => hb (by simp [q'])) (fun q' => hb (by simp [q'])) q)) hf (Nat.le_refl _) new
    refine ⟨.ref s.heap.objs.size, _, I1, rfl, ⟨_, x, y, rfl, I.hok.fresh (Nat.le_refl _), rfl, fun l hl => by rw [hl.inj I hqx]; exact hx, fun l hl => by rw [hl.inj I hqy]; exact hy⟩, ⟨z'', ?_, ⟨u, u2, ?_⟩, ?_, ?_⟩, fun c hcm => ?_⟩
    · exact (sb.2 _ d1.symm).trans (hk _ _ d1.symm d3 d4 d5 hTI)
    · exact (sb.2 _ d2.symm).trans TO'
    · exact h1'.1.kept fun o q => (sb.2 _ d6.symm).trans q
    · exact h2'.1.kept fun o q => (sb.2 _ d7.symm).trans q
    · have hlt : c < s.heap.objs.size := by
        have e' := hcm
        simp only [List.mem_cons, List.mem_nil_iff, or_false] at e'
        rcases e' with q | q | q | q | q
        · rw [q]; exact hzl
        · rw [q]; exact Heap.lt_size hTI
        · rw [q]; exact Heap.lt_size hTO
        · rw [q]; obtain ⟨_, e1, _⟩ := h1.obj; exact Heap.lt_size e1
        · rw [q]; obtain ⟨_, e2, _⟩ := h2.obj; exact Heap.lt_size e2
      rw [upd_ne (Nat.ne_of_lt hlt)]
      exact (hf c hcm).1
  done := by
    intro X hP hw hK hc i pins s sg H E I hf st hg
    subst hP hw hK
    obtain ⟨hz, hTI, ⟨x0, y0, hTO⟩, h1, h2⟩ := st
    obtain ⟨xs, ys, hqx, hqy, e1, e2, hend⟩ := hg
    obtain ⟨its, rv, src⟩ := hqx.raw I
    obtain ⟨its2, rv2, src2⟩ := hqy.raw I
    obtain ⟨d1, d2, d3, d4, d5, d6, d7, d8, d9, d10⟩ := D
    have na : ∀ c ∈ [z, TI, TO, i1, i2], a ≠ c := fun c hcm e => hqx.ne (by rw [e]; exact (hf c hcm).1)
    have nb : ∀ c ∈ [z, TI, TO, i1, i2], b ≠ c := fun c hcm e => hqy.ne (by rw [e]; exact (hf c hcm).1)
    have S : ZipSep2 z TI TO i1 i2 [i1, a] [i2, b] :=
      { TIz := d1.symm, TOz := d2.symm, TITO := d3, TIi1 := d4, mem1 := by simp, zf1 := by simp [d6, (na z (by simp)).symm], Tf1 := by simp [d8, (na TO (by simp)).symm],
        TIi2 := d5, mem2 := by simp, zf2 := by simp [d7, (nb z (by simp)).symm], Tf2 := by simp [d9, (nb TO (by simp)).symm], sep1_2 := by simp [d10, (nb i1 (by simp)).symm], sep2_1 := by simp [d10.symm, (na i2 (by simp)).symm] }
    have l1 : its.toArray.size = xs.length := by rw [List.size_toArray]; exact rv.length.symm
    have l2 : its2.toArray.size = ys.length := by rw [List.size_toArray]; exact rv2.length.symm
    have D1 := draws_h (P := X.prog) (w := X.w) (kd := kd) (A := X.A.in1) (I.ok.hd hc) (na i1 (by simp)) its.toArray
    have D2 := draws_h (P := X.prog) (w := X.w) (kd := kd2) (A := X.A.in1) (I.ok.hd hc) (nb i2 (by simp)) its2.toArray
    refine wpAny_pyNext_zipD2_end S D1 D2 hz hTI hTO ⟨h1, src⟩ ⟨h2, src2⟩ (by rw [l1]; exact e1) (by rw [l2]; exact e2) (by rw [l1, l2]; exact hend) fun h' tk hk => ⟨rfl, ?_⟩
    exact I.turnedL (t' := tk) (ch := [z, TI, TO, i1, i2]) (fun c o hb q => hk c o (fun q' => hb (by simp [q'])) (fun q' => hb (by simp [q'])) (fun q' => hb (by simp [q'])) (fun q' => hb (by simp [q'])) q) hf
  self := fun A i s Q E st h => wpAny_pyIter_zip st.1 h
theorem walk_zipH {kd kd2 : Bool} {a b : Addr} {xs ys : List V} {n : Nat} (hn : n = min xs.length ys.length) : Walk (ItzH kd kd2 a b) n (fun H => SqH kd H a xs ∧ SqH kd2 H b ys) (YPair (fun i => xs[i]?) (fun i => ys[i]?)) where
  goes := fun i H hi h => ⟨xs, ys, xs[i]'(by omega), ys[i]'(by omega), h.1, h.2, List.getElem?_eq_getElem _, List.getElem?_eq_getElem _⟩
  stops := fun H h => ⟨xs, ys, h.1, h.2, by omega, by omega, by omega⟩
  yields := fun i H v H' hi h y => by
    obtain ⟨T, x, y, e, n, eH, hx, hy⟩ := y
    exact ⟨T, x, y, e, n, eH, hx xs h.1, hy ys h.2⟩
def iZipH (ta : TA) : TI := fun sg H R => ta sg H fun vs H1 => ∃ kd kd2 a b xs ys, vs = [.ref a, .ref b] ∧ SqH kd H1 a xs ∧ SqH kd2 H1 b ys ∧ R (ItzH kd kd2 a b) H1
theorem pi_zipH {X : Cx} {e e2 : Expr} {ta : TA} {p pos tpos : Pos} {elts : List Expr} {kk : Nat} (hg : Gl X "zip") (hm : X.mg "zip" = none) (ha : PA X [e, e2] ta)
    (hs : starEach [e, e2] X.env = (false, eval e X.env) :: starEach [e2] X.env := by rfl) (hpl : (backTo pos (starEach [e2] X.env)).any (·.1) = false := by rfl) :
    PI X (.Tuple elts kk tpos) (.Call (.Name "zip" p) [e, e2] [] pos) (iZipH ta) := by
  constructor
  intro pins s sg H R I h
  refine Call_ (ld_blt I hg hm PyProof.Rows.boot_zip (PyProof.Rows.callWith_type1 (thn (ha.run pos pins s sg H _ I h) fun us s1 ⟨vs, H1, I1, r1, q1⟩ => ?_) hs hpl))
  obtain ⟨kd, kd2, a, b, xs, ys, rfl, hqx, hqy, q⟩ := q1
  obtain ⟨u, u2, rfl, ra, rb⟩ := r1.two
  cases ra
  cases rb
  obtain ⟨its, rv, src⟩ := hqx.raw I1
  obtain ⟨its2, rv2, src2⟩ := hqy.raw I1
  refine zip_begins2 (begins_h (kd := kd) its.toArray) (begins_h (kd := kd2) its2.toArray) src src2 fun h' hz hTI hTO h1 h2 hsz hk => wpAny_pyIter_zip hz ?_
  have I2 : L2.Inv X pins sg H1 { s1 with heap := h' } := I1.kept (t' := s1.toks) hk
  have nn : ∀ i j : Nat, i ≠ j → (s1.heap.objs.size + i : Nat) ≠ s1.heap.objs.size + j := fun i j h z => h (Nat.add_left_cancel z)
  refine ⟨s1.heap.objs.size + 4, [s1.heap.objs.size + 4, s1.heap.objs.size + 2, s1.heap.objs.size + 3, s1.heap.objs.size, s1.heap.objs.size + 1], _, _, H1, rfl, I2, turn_zipH ⟨nn 4 2 (by decide), nn 4 3 (by decide), nn 2 3 (by decide), nn 2 0 (by decide), nn 2 1 (by decide), nn 4 0 (by decide), nn 4 1 (by decide), nn 3 0 (by decide), nn 3 1 (by decide), nn 0 1 (by decide)⟩, ⟨hz, hTI, ⟨_, _, hTO⟩, objH_is h1, objH_is h2⟩, fun c hcm => ?_, q⟩
  have hle : s1.heap.objs.size ≤ c := by
    simp only [List.mem_cons, List.mem_nil_iff, or_false] at hcm
    rcases hcm with z | z | z | z | z
    · rw [z]; exact Nat.le_add_right _ _
    · rw [z]; exact Nat.le_add_right _ _
    · rw [z]; exact Nat.le_add_right _ _
    · rw [z]; exact Nat.le_refl _
    · rw [z]; exact Nat.le_add_right _ _
  exact I1.fpOk hle (I1.hok.fresh hle)

/-! ### the mini words -/
/-- what may be walked: by value -/
def itemsI : MV → M (List MV)
  | .lst xs => M.pure xs
  | .scr xs => M.pure xs
  | .tup xs => M.pure xs
  | _ => M.stuck
theorem itemsI_ok {w : Wd} {v : MV} {u : V} {A B : Type} {R : Wd → A → B → Prop} {Q : B → Hp → Prop} {E : EW} {f : List MV → M A} (k : w.Ok) (r : RV w v u) (l : LeadG R w ((itemsI v).bind f w.h) Q E) :
    ∃ kd a xs us, u = .ref a ∧ SqH kd w.H a us ∧ RVs w xs us ∧ (∀ w2 : Wd, Ext w w2 → SqH kd w2.H a us) ∧ LeadG R w (f xs w.h) Q E := by
  cases v with
  | lst xs =>
    simp only [RV] at r
    obtain ⟨a, us, rfl, h1, h0, h2⟩ := r
    exact ⟨false, a, xs, us, rfl, .inl h1, h2, fun w2 x => .inl (x.keep a _ h1 (fun _ z => by cases z) h0), l⟩
  | scr xs =>
    simp only [RV] at r
    obtain ⟨a, o, us, rfl, h1, h2⟩ := r
    exact ⟨false, a, xs, us, rfl, .inr ⟨o, h1⟩, h2, fun w2 x => .inr ⟨o, x.keep a _ h1 (fun _ z => by cases z) (not_live_frz k h1)⟩, l⟩
  | tup xs =>
    simp only [RV] at r
    obtain ⟨a, us, rfl, h1, h2⟩ := r
    exact ⟨true, a, xs, us, rfl, h1, h2, fun w2 x => x.keep a _ h1 (fun _ z => by cases z) (not_live_tup k h1), l⟩
  | _ => exact l.elim
def seqI (m : EM) : AM := fun env => (m env).bind itemsI
def enumV (xs : List MV) : List MV := xs.zipIdx.map fun p => .tup [.int (p.2 : Nat), p.1]
def enumI (m : EM) : AM := fun env => (m env).bind fun v => (itemsI v).bind fun xs => M.pure (enumV xs)
def zipV (xs ys : List MV) : List MV := (xs.zip ys).map fun p => .tup [p.1, p.2]
def zipI (m m2 : EM) : AM := fun env => (m env).bind fun v => (m2 env).bind fun v2 => (itemsI v).bind fun xs => (itemsI v2).bind fun ys => M.pure (zipV xs ys)
def rngI (a b c : EM) : AM := fun env => (a env).bind fun x => (b env).bind fun y => (c env).bind fun z => match x, y, z with
  | .int i, .int j, .int 1 => if decide (-4611686018427387904 ≤ i ∧ i < 4611686018427387904 ∧ -4611686018427387904 ≤ j ∧ j < 4611686018427387904) then M.pure (rgA i j) else M.stuck
  | .int i, .int j, .int (-1) => if decide (-4611686018427387904 ≤ i ∧ i < 4611686018427387904 ∧ -4611686018427387904 ≤ j ∧ j < 4611686018427387904) then M.pure ((List.range (i - j).toNat).map fun k => .int (i - (k : Nat))) else M.stuck
  | _, _, _ => M.stuck
section
variable {X : Cx} {E : EW} {tg a b c : Expr} {ma mb mc : EM} {pos p : Pos}
theorem rvs_get {w : Wd} {xs : List MV} {us : List V} {i : Nat} {u : V} (r : RVs w xs us) (e : us[i]? = some u) : ∃ v, xs[i]? = some v ∧ RV w v u := r.get' e
theorem itok_seq {w : Wd} {kd : Bool} {a : Addr} {xs : List MV} {us : List V} {J : It} (k : w.Ok) (r : RVs w xs us) (W : Walk J us.length (fun H => SqH kd H a us) (YAt us)) (hs : ∀ w2 : Wd, Ext w w2 → SqH kd w2.H a us) : ItOk w xs J := by
  refine ⟨_, _, by rw [r.length]; exact W, fun w2 _ x => hs w2 x, fun i u w2 H' hi k2 x y => ?_⟩
  obtain ⟨rfl, e⟩ := y
  obtain ⟨v, e1, rv⟩ := r.get' e
  exact ⟨w2, rfl, rfl, k2, .refl _, v, e1, RV.ext k x _ _ rv⟩
def kdP (X : Cx) (R : It → Hp → Prop) (a : Addr) (H : Hp) : Bool → Prop
  | true => (∃ xs, SqT X.K H a xs) ∧ R (Itt X.K a) H
  | false => (∃ xs, SqL X.K H a xs) ∧ R (Itl X.K a) H
theorem si_seq (ha : SE X E a ma) : SI X E tg a (seqI ma) := by
  constructor
  intro pins s sg H R I h
  obtain ⟨w, env, rfl, k, r, l⟩ := h
  -- which kind the value is of is known ahead of the walk
  have go : ∀ kd : Bool, (∀ (w1 : Wd) v u, ma env w.h = .ok v w1.h → w1.Ok → RV w1 v u → ∃ a xs us, u = .ref a ∧ SqH kd w1.H a us ∧ itemsI v = M.pure xs ∧ RVs w1 xs us ∧ ∀ w2 : Wd, Ext w1 w2 → SqH kd w2.H a us) →
      wpAny (model X.prog X.w) X.A (eval a X.env) (fun v s1 => wpAny (model X.prog X.w) X.A (pyIter v) (PIE X pins sg tg R) X.xe s1) X.xe s := by
    intro kd hk
    have step : tM E ma sg w.H (fun x H1 => ∃ a, x = .ref a ∧ kdP X R a H1 kd) := by
      refine ⟨w, env, rfl, k, r, ?_⟩
      have l' : LeadG ItOk w (M.bind (ma env) itemsI w.h) (fun J H => R J H) E := l
      unfold M.bind at l'
      generalize ho : ma env w.h = o at l' hk ⊢
      cases o with
      | stuck => exact l'
      | exn c v h0 => exact l'
      | ok v h0 =>
        intro w1 u eh k1 x1 rv
        obtain ⟨a0, xs, us, rfl, hq, ei, r1, hs⟩ := hk w1 v u (by rw [eh]) k1 rv
        simp only [ei] at l'
        refine ⟨a0, rfl, ?_⟩
        cases kd with
        | true => exact ⟨⟨us, SqT.of hq⟩, l' w1 _ eh k1 x1 (itok_seq (kd := true) k1 r1 (walk_tup.mono (fun H h => SqT.of h) fun _ _ _ _ _ _ y => y) hs)⟩
        | false => exact ⟨⟨us, .inl hq⟩, l' w1 _ eh k1 x1 (itok_seq (kd := false) k1 r1 (walk_list.mono (fun H h => .inl h) fun _ _ _ _ _ _ y => y) hs)⟩
    cases kd with
    | true => exact (pi_tup ha).run pins s sg w.H R I step
    | false => exact (pi_list ha).run pins s sg w.H R I step
  have l' : LeadG ItOk w (M.bind (ma env) itemsI w.h) (fun J H => R J H) E := l
  unfold M.bind at l'
  generalize ho : ma env w.h = o at l' go
  cases o with
  | stuck => exact l'.elim
  | exn c v h0 => exact go true fun w1 v u e => nomatch e
  | ok v h0 =>
    cases v with
    | lst xs =>
      refine go false fun w1 v u e k1 rv => ?_
      cases e
      simp only [RV] at rv
      obtain ⟨a0, us, rfl, h1, h0, h2⟩ := rv
      exact ⟨a0, xs, us, rfl, .inl h1, rfl, h2, fun w2 x => .inl (x.keep a0 _ h1 (fun _ z => by cases z) h0)⟩
    | scr xs =>
      refine go false fun w1 v u e k1 rv => ?_
      cases e
      simp only [RV] at rv
      obtain ⟨a0, ob, us, rfl, h1, h2⟩ := rv
      exact ⟨a0, xs, us, rfl, .inr ⟨ob, h1⟩, rfl, h2, fun w2 x => .inr ⟨ob, x.keep a0 _ h1 (fun _ z => by cases z) (not_live_frz k1 h1)⟩⟩
    | tup xs =>
      refine go true fun w1 v u e k1 rv => ?_
      cases e
      simp only [RV] at rv
      obtain ⟨a0, us, rfl, h1, h2⟩ := rv
      exact ⟨a0, xs, us, rfl, h1, rfl, h2, fun w2 x => x.keep a0 _ h1 (fun _ z => by cases z) (not_live_tup k1 h1)⟩
    | _ => exact l'.elim
theorem pair_world {w2 : Wd} {H' : Hp} {T : Addr} {v1 v2 : MV} {u1 u2 : V} (k2 : w2.Ok) (hT : w2.H T = none) (eH : H' = upd w2.H T (.tup [u1, u2])) (r1 : RV w2 v1 u1) (r2 : RV w2 v2 u2) :
    ∃ w3 : Wd, w3.H = H' ∧ w3.h = w2.h ∧ w3.Ok ∧ Ext w2 w3 ∧ RV w3 (.tup [v1, v2]) (.ref T) := by
  subst eH
  refine ⟨{ w2 with H := upd w2.H T (.tup [u1, u2]) }, rfl, rfl, k2.new hT, Ext.new hT, ?_⟩
  simp only [RV]
  exact ⟨T, _, rfl, upd_same, RVs.ext k2 (Ext.new hT) _ _ (RVs.cons r1 (RVs.cons r2 RVs.nil))⟩
theorem enumV_at {xs : List MV} {i : Nat} {v : MV} (h : xs[i]? = some v) : (enumV xs)[i]? = some (.tup [.int (i : Nat), v]) := by
  unfold enumV
  rw [List.getElem?_map, List.getElem?_zipIdx, h]
  simp
theorem si_enum {elts : List Expr} {kk : Nat} {tpos : Pos} (hg : Gl X "enumerate") (hm : X.mg "enumerate" = none) (ha : SE X E a ma) (hs : starEach [a] X.env = [(false, eval a X.env)] := by rfl) : SI X E (.Tuple elts kk tpos) (.Call (.Name "enumerate" p) [a] [] pos) (enumI ma) := by
  refine ⟨fun pins s sg H R I h => (pi_enumH hg hm (pa_cons ha pa_nil hs) hs).run pins s sg H R I ?_⟩
  obtain ⟨w, env, rfl, k, r, l⟩ := h
  refine ⟨w, env, rfl, k, r, lead_bind l fun w1 v u k1 x1 r1 l1 => ?_⟩
  obtain ⟨kd, a0, xs, us, rfl, hq, rv, hs2, l1⟩ := itemsI_ok k1 r1 l1
  refine ⟨kd, a0, us, rfl, hq, lead_ok (R := ItOk) l1 k1 ⟨fun H => SqH kd H a0 us, YPair (fun i => some (.int (i : Nat))) (fun i => us[i]?), ?_, fun w2 _ x => hs2 w2 x, fun i u w2 H' hi k2 x y => ?_⟩⟩
  · have e : (enumV xs).length = us.length := by unfold enumV; simp [rv.length]
    rw [e]; exact walk_enumH
  · obtain ⟨T, y1, y2, rfl, hT, eH, e1, e2⟩ := y
    cases e1
    obtain ⟨v2, e3, r3⟩ := rv.get' e2
    obtain ⟨w3, q1, q2, q3, q4, q5⟩ := pair_world k2 hT eH (v1 := .int (i : Nat)) (by simp only [RV]) (RV.ext k1 x _ _ r3)
    exact ⟨w3, q1, q2, q3, q4, _, enumV_at e3, q5⟩
theorem si_zip {elts : List Expr} {kk : Nat} {tpos : Pos} (hg : Gl X "zip") (hm : X.mg "zip" = none) (ha : SE X E a ma) (hb : SE X E b mb) (hs : starEach [a, b] X.env = (false, eval a X.env) :: starEach [b] X.env := by rfl)
    (hs2 : starEach [b] X.env = (false, eval b X.env) :: starEach [] X.env := by rfl) (hpl : (backTo pos (starEach [b] X.env)).any (·.1) = false := by rfl) : SI X E (.Tuple elts kk tpos) (.Call (.Name "zip" p) [a, b] [] pos) (zipI ma mb) := by
  refine ⟨fun pins s sg H R I h => (pi_zipH hg hm (pa_cons ha (pa_cons hb pa_nil hs2) hs) hs hpl).run pins s sg H R I ?_⟩
  obtain ⟨w, env, rfl, k, r, l⟩ := h
  refine ⟨w, env, rfl, k, r, lead_bind l fun w1 v u k1 x1 r1 l1 => ?_⟩
  refine ⟨w1, env, rfl, k1, r.ext k x1, lead_bind l1 fun w2 v2 u2 k2 x2 r2 l2 => ?_⟩
  obtain ⟨kd, a0, xs, us, rfl, hq, rv, hs3, l2⟩ := itemsI_ok k2 (RV.ext k1 x2 _ _ r1) l2
  obtain ⟨kd2, b0, ys, vs, rfl, hq2, rv2, hs4, l2⟩ := itemsI_ok k2 r2 l2
  refine ⟨kd, kd2, a0, b0, us, vs, rfl, hq, hq2, lead_ok (R := ItOk) l2 k2 ⟨fun H => SqH kd H a0 us ∧ SqH kd2 H b0 vs, YPair (fun i => us[i]?) (fun i => vs[i]?), walk_zipH (xs := us) (ys := vs) ?_, fun w3 _ x => ⟨hs3 w3 x, hs4 w3 x⟩, fun i u w3 H' hi k3 x y => ?_⟩⟩
  · unfold zipV; simp [rv.length, rv2.length]
  · obtain ⟨T, y1, y2, rfl, hT, eH, e1, e2⟩ := y
    obtain ⟨v3, e3, r3⟩ := rv.get' e1
    obtain ⟨v4, e4, r4⟩ := rv2.get' e2
    obtain ⟨w4, q1, q2, q3, q4, q5⟩ := pair_world k3 hT eH (RV.ext k2 x _ _ r3) (RV.ext k2 x _ _ r4)
    refine ⟨w4, q1, q2, q3, q4, _, ?_, q5⟩
    unfold zipV
    rw [List.getElem?_map, (List.getElem?_zip_eq_some (z := (v3, v4))).mpr ⟨e3, e4⟩]
    rfl
theorem rgA_at {i j : Int} {k : Nat} (h : k < (rgA i j).length) : (rgA i j)[k]? = some (.int (i + (k : Nat))) := by
  unfold rgA at h ⊢
  rw [List.length_map, List.length_range] at h
  rw [List.getElem?_map, List.getElem?_range h]
  rfl
theorem itok_rg {w : Wd} {i j : Int} : ItOk w (rgA i j) (Itr i (j - i).toNat) := by
  have e : (rgA i j).length = (j - i).toNat := by unfold rgA; simp
  refine ⟨_, _, by rw [e]; exact walk_range, fun _ _ _ => trivial, fun k u w2 H' hi k2 x y => ?_⟩
  obtain ⟨rfl, rfl⟩ := y
  exact ⟨w2, rfl, rfl, k2, .refl _, _, rgA_at hi, by simp only [RV]⟩
theorem si_range1 (hg : Gl X "range") (hm : X.mg "range" = none) (hb : SE X E b mb) (hs : starEach [b] X.env = [(false, eval b X.env)] := by rfl) : SI X E tg (.Call (.Name "range" p) [b] [] pos) (rngI (con (.int 0)) mb (con (.int 1))) := by
  refine ⟨fun pins s sg H R I h => (pi_range1 hg hm (pa_cons hb pa_nil hs) hs).run pins s sg H R I ?_⟩
  obtain ⟨w, env, rfl, k, r, l⟩ := h
  have l : LeadG ItOk w (M.bind (mb env) (fun y => match (MV.int 0), y, (MV.int 1) with
    | .int i, .int j, .int 1 => if decide (-4611686018427387904 ≤ i ∧ i < 4611686018427387904 ∧ -4611686018427387904 ≤ j ∧ j < 4611686018427387904) then M.pure (rgA i j) else M.stuck
    | .int i, .int j, .int (-1) => if decide (-4611686018427387904 ≤ i ∧ i < 4611686018427387904 ∧ -4611686018427387904 ≤ j ∧ j < 4611686018427387904) then M.pure ((List.range (i - j).toNat).map fun k => .int (i - (k : Nat))) else M.stuck
    | _, _, _ => M.stuck) w.h) (fun J H => R J H) E := l
  refine ⟨w, env, rfl, k, r, lead_bind l fun w1 v u k1 x1 r1 l1 => ?_⟩
  cases v with
  | int j =>
    have l1 : LeadG ItOk w1 ((if decide (-4611686018427387904 ≤ (0 : Int) ∧ (0 : Int) < 4611686018427387904 ∧ -4611686018427387904 ≤ j ∧ j < 4611686018427387904) = true then M.pure (rgA 0 j) else M.stuck) w1.h) (fun J H => R J H) E := l1
    by_cases c : decide (-4611686018427387904 ≤ (0 : Int) ∧ (0 : Int) < 4611686018427387904 ∧ -4611686018427387904 ≤ j ∧ j < 4611686018427387904) = true
    · rw [if_pos c] at l1
      have c := of_decide_eq_true c
      have hI : ItOk w1 (rgA 0 j) (Itr 0 j.toNat) := by have := itok_rg (w := w1) (i := 0) (j := j); rwa [Int.sub_zero] at this
      exact ⟨j, by rw [rv_int r1], by omega, by omega, lead_ok (R := ItOk) l1 k1 hI⟩
    · rw [if_neg c] at l1; exact l1.elim
  | _ => exact l1.elim
theorem si_range2 (hg : Gl X "range") (hm : X.mg "range" = none) (ha : SE X E a ma) (hb : SE X E b mb) (hs : starEach [a, b] X.env = [(false, eval a X.env), (false, eval b X.env)] := by rfl) (hs2 : starEach [b] X.env = [(false, eval b X.env)] := by rfl) :
    SI X E tg (.Call (.Name "range" p) [a, b] [] pos) (rngI ma mb (con (.int 1))) := by
  refine ⟨fun pins s sg H R I h => (pi_range2 hg hm (pa_cons ha (pa_cons hb pa_nil hs2) (by rw [hs, hs2])) hs hs2).run pins s sg H R I ?_⟩
  obtain ⟨w, env, rfl, k, r, l⟩ := h
  refine ⟨w, env, rfl, k, r, lead_bind l fun w1 v u k1 x1 r1 l1 => ?_⟩
  refine ⟨w1, env, rfl, k1, r.ext k x1, lead_bind l1 fun w2 v2 u2 k2 x2 r2 l2 => ?_⟩
  cases v with
  | int i =>
    cases v2 with
    | int j =>
      have l2 : LeadG ItOk w2 ((if decide (-4611686018427387904 ≤ i ∧ i < 4611686018427387904 ∧ -4611686018427387904 ≤ j ∧ j < 4611686018427387904) = true then M.pure (rgA i j) else M.stuck) w2.h) (fun J H => R J H) E := l2
      by_cases c : decide (-4611686018427387904 ≤ i ∧ i < 4611686018427387904 ∧ -4611686018427387904 ≤ j ∧ j < 4611686018427387904) = true
      · rw [if_pos c] at l2
        have c := of_decide_eq_true c
        exact ⟨i, j, by rw [rv_int r1, rv_int r2], ⟨by omega, by omega, by omega, by omega⟩, lead_ok (R := ItOk) l2 k2 itok_rg⟩
      · rw [if_neg c] at l2; exact l2.elim
    | _ => exact l2.elim
  | _ => exact l2.elim
end
end Mi

set_option Elab.async false
set_option linter.all false
set_option maxRecDepth 100000
set_option maxHeartbeats 4000000
/-! Mini, part J: cells made values, starred displays, membership of data, repr. -/
namespace Mi
open PySem PySem.Spec PyProof.Rows L2
variable [Gb]

/-! ### a cell, with all cells within, becomes a value -/
def mapF (f : MV → M MV) : List MV → M (List MV)
  | [] => M.pure []
  | x :: xs => (f x).bind fun y => (mapF f xs).bind fun ys => M.pure (y :: ys)
def dropC (i : Nat) (ys : List MV) : M MV := fun h => match h[i]? with
  | some (some (.lst _)) => .ok (.lst ys) (h.set i none)
  | _ => .stuck
def frz : Nat → MV → M MV
  | 0, v => if v.free then M.pure v else M.stuck
  | n + 1, .cell i => (readC i).bind fun xs => (mapF (frz n) xs).bind fun ys => dropC i ys
  | n + 1, .tup xs => (mapF (frz n) xs).bind fun ys => M.pure (.tup ys)
  | n + 1, .lst xs => (mapF (frz n) xs).bind fun ys => M.pure (.lst ys)
  | _ + 1, v => M.pure v
def SpF (f : MV → M MV) : Prop := ∀ (w : Wd) (v : MV) (u : V), w.Ok → RV w v u → f v w.h = .stuck ∨ ∃ (w' : Wd) (v' : MV), f v w.h = .ok v' w'.h ∧ w'.H = w.H ∧ w'.Ok ∧ Ext w w' ∧ RV w' v' u
theorem SpF.pure : SpF fun v => M.pure v := fun w v u k r => .inr ⟨w, v, rfl, rfl, k, .refl w, r⟩
theorem mapF_ok {f : MV → M MV} (hf : SpF f) : ∀ (xs : List MV) (w : Wd) (us : List V), w.Ok → RVs w xs us → mapF f xs w.h = .stuck ∨ ∃ (w' : Wd) (ys : List MV), mapF f xs w.h = .ok ys w'.h ∧ w'.H = w.H ∧ w'.Ok ∧ Ext w w' ∧ RVs w' ys us
  | [], w, us, k, r => .inr ⟨w, [], rfl, rfl, k, .refl w, r⟩
  | x :: xs, w, us, k, r => by
    obtain ⟨u, rs, rfl, r1, r2⟩ := r.uncons
    unfold mapF M.bind
    rcases hf w x u k r1 with e | ⟨w1, y, e, eH, k1, x1, r1'⟩
    · rw [e]; exact .inl rfl
    · rw [e]
      rcases mapF_ok hf xs w1 rs k1 (RVs.ext k x1 _ _ r2) with e2 | ⟨w2, ys, e2, eH2, k2, x2, r2'⟩
      · left; simp only [e2]
      · right
        refine ⟨w2, y :: ys, by simp only [e2]; rfl, eH2.trans eH, k2, x1.trans x2, RVs.cons (RV.ext k1 x2 _ _ r1') r2'⟩
theorem frz_sp : ∀ n, SpF (frz n)
  | 0 => fun w v u k r => by
    show (if v.free then M.pure v else M.stuck : M MV) w.h = _ ∨ _
    unfold frz
    by_cases f : v.free = true
    · rw [if_pos f]; exact .inr ⟨w, v, rfl, rfl, k, .refl w, r⟩
    · rw [if_neg f]; exact .inl rfl
  | n + 1 => fun w v u k r => by
    have ih := frz_sp n
    cases v with
    | cell i =>
      simp only [RV] at r
      obtain ⟨a, rfl, ha⟩ := r
      unfold frz M.bind readC
      cases e : w.h[i]? with
      | none => exact .inl rfl
      | some o =>
        cases o with
        | none => exact .inl rfl
        | some o =>
          cases o with
          | lst xs =>
            obtain ⟨us, e1, r1⟩ := k.obj i _ a e ha
            rcases mapF_ok ih xs w us k r1 with e2 | ⟨w1, ys, e2, eH, k1, x1, r2⟩
            · left; simp only [e2]
            · simp only [e2]
              unfold dropC
              cases e3 : w1.h[i]? with
              | none => exact .inl rfl
              | some o3 =>
                cases o3 with
                | none => exact .inl rfl
                | some o3 =>
                  cases o3 with
                  | lst zs =>
                    refine .inr ⟨w1.drop i, .lst ys, rfl, eH, k1.drop, x1.drop, ?_⟩
                    simp only [RV]
                    refine ⟨a, us, rfl, by show w1.H a = _; rw [eH]; exact e1, ?_, RVs.dropc k1 _ _ r2⟩
                    rintro ⟨j, oj, h1, h2⟩
                    obtain ⟨ne, h3⟩ := drop_at h1
                    exact ne (k1.inj i j _ oj a e3 h3 (x1.rho i a ha) h2)
                  | dk _ => exact .inl rfl
                  | dt _ => exact .inl rfl
          | dk _ => exact .inl rfl
          | dt _ => exact .inl rfl
    | tup xs =>
      simp only [RV] at r
      obtain ⟨a, us, rfl, h1, r1⟩ := r
      unfold frz M.bind
      rcases mapF_ok ih xs w us k r1 with e2 | ⟨w1, ys, e2, eH, k1, x1, r2⟩
      · left; simp only [e2]
      · simp only [e2]
        refine .inr ⟨w1, .tup ys, rfl, eH, k1, x1, ?_⟩
        simp only [RV]
        exact ⟨a, us, rfl, by rw [eH]; exact h1, r2⟩
    | lst xs =>
      simp only [RV] at r
      obtain ⟨a, us, rfl, h1, h0, r1⟩ := r
      unfold frz M.bind
      rcases mapF_ok ih xs w us k r1 with e2 | ⟨w1, ys, e2, eH, k1, x1, r2⟩
      · left; simp only [e2]
      · simp only [e2]
        refine .inr ⟨w1, .lst ys, rfl, eH, k1, x1, ?_⟩
        simp only [RV]
        exact ⟨a, us, rfl, by rw [eH]; exact h1, fun l => (x1.liv a l).elim h0 fun z => (by rw [h1] at z; cases z), r2⟩
    | non => exact SpF.pure w _ u k r
    | bl _ => exact SpF.pure w _ u k r
    | int _ => exact SpF.pure w _ u k r
    | str _ => exact SpF.pure w _ u k r
    | scr _ => exact SpF.pure w _ u k r
    | err _ _ => exact SpF.pure w _ u k r
    | lam _ => exact SpF.pure w _ u k r
    | fn _ => exact SpF.pure w _ u k r
def frzE (n : Nat) (e : EM) : EM := fun env => (e env).bind (frz n)
section
variable {X : Cx} {E : EW} {a b c : Expr} {e : Expr} {me ma mb : EM} {es : List Expr} {ms : AM} {pos p p2 q : Pos}
theorem se_frz {n : Nat} (he : SE X E e me) : SE X E e (frzE n me) := by
  refine ⟨fun pins s sg H Q I h => he.run pins s sg H Q I ?_⟩
  obtain ⟨w, env, rfl, k, r, l⟩ := h
  refine ⟨w, env, rfl, k, r, lead_bind l fun w1 v u k1 x1 r1 l1 => ?_⟩
  rcases frz_sp n w1 v u k1 r1 with e | ⟨w2, v2, e, eH, k2, x2, r2⟩
  · rw [e] at l1; exact l1.elim
  · rw [e] at l1
    have := l1 w2 u rfl k2 x2 r2
    rwa [eH] at this

/-! ### starred displays -/
def aStar (e : EM) (r : AM) : AM := fun env => (e env).bind fun v => (itemsS v).bind fun xs => (r env).bind fun ys => M.pure (xs ++ ys)
theorem sa_star (he : SE X E e me) (hr : SA X E es ms) (hs : starEach (.Starred e p :: es) X.env = (true, eval e X.env) :: starEach es X.env := by rfl) : SA X E (.Starred e p :: es) (aStar me ms) := by
  refine ⟨fun pos pins s sg H Q I h => (StX.pa_star he hr hs).run pos pins s sg H Q I ?_⟩
  obtain ⟨w, env, rfl, k, r, l⟩ := h
  refine ⟨w, env, rfl, k, r, lead_bind l fun w1 v u k1 x1 r1 l1 => ?_⟩
  obtain ⟨pp, xs, us, rfl, hq, r2, l2⟩ := itemsS_ok (K := X.K) k1 r1 l1
  refine ⟨pp, us, rfl, hq.symm, w1, env, rfl, k1, r.ext k x1, lead_bind l2 fun w2 ys vs k2 x2 r3 l3 => ?_⟩
  exact lead_ok (R := RVs) l3 k2 ((RVs.ext k1 x2 _ _ r2).append r3)

/-! ### membership of data -/
def inD (neg : Bool) (a b : MV) : M MV := (pull a).bind fun x => (pull b).bind fun y => match y.dat with
  | .list ds => if SeqAt.shaped x.dat && SeqAt.shaped (.list ds) then M.pure (.bl (if neg then !ds.any fun z => PyData.eqv z x.dat else ds.any fun z => PyData.eqv z x.dat)) else M.stuck
  | .tuple ds => if SeqAt.shaped x.dat && SeqAt.shaped (.tuple ds) then M.pure (.bl (if neg then !ds.any fun z => PyData.eqv z x.dat else ds.any fun z => PyData.eqv z x.dat)) else M.stuck
  | _ => M.stuck
theorem inD_run {neg : Bool} {w : Wd} {a b : MV} {pins : List (Addr × Obj)} {s : Shared} {sg : L2.St} {x y : V} {v u : Value} {Q : VK} (I : L2.Inv X pins sg w.H s) (rx : RelV x v) (ry : RelV y u) (k : w.Ok) (ra : RV w a x) (rb : RV w b y) (l : Lead w (inD neg a b w.h) Q E) :
    ∃ d as bs ds, Reads s.heap v d as ∧ SeqAt.shaped d = true ∧ ((Reads s.heap u (.list ds) bs ∧ SeqAt.shaped (.list ds) = true) ∨ (Reads s.heap u (.tuple ds) bs ∧ SeqAt.shaped (.tuple ds) = true)) ∧
      Q (.bl (if neg then !ds.any fun z => PyData.eqv z d else ds.any fun z => PyData.eqv z d)) w.H := by
  obtain ⟨a', l, ka⟩ := pull_ok (K := X.K) k ra l
  obtain ⟨b', l, kb⟩ := pull_ok (K := X.K) k rb l
  cases e : b'.dat with
  | list ds =>
    simp only [e] at l
    cases c : (SeqAt.shaped a'.dat && SeqAt.shaped (.list ds)) with
    | false => rw [c, if_neg (by decide)] at l; exact l.elim
    | true =>
      rw [c, if_pos rfl] at l
      rw [Bool.and_eq_true] at c
      obtain ⟨as, ra'⟩ := Dp.reads I _ x v (ka (SeqAt.canLay_of_shaped c.1)) rx
      obtain ⟨bs, rb'⟩ := Dp.reads I _ y u (kb (by rw [e]; exact SeqAt.canLay_of_shaped c.2)) ry
      rw [e] at rb'
      exact ⟨_, as, bs, ds, ra', c.1, .inl ⟨rb', c.2⟩, lead_ok l k (by simp only [RV])⟩
  | tuple ds =>
    simp only [e] at l
    cases c : (SeqAt.shaped a'.dat && SeqAt.shaped (.tuple ds)) with
    | false => rw [c, if_neg (by decide)] at l; exact l.elim
    | true =>
      rw [c, if_pos rfl] at l
      rw [Bool.and_eq_true] at c
      obtain ⟨as, ra'⟩ := Dp.reads I _ x v (ka (SeqAt.canLay_of_shaped c.1)) rx
      obtain ⟨bs, rb'⟩ := Dp.reads I _ y u (kb (by rw [e]; exact SeqAt.canLay_of_shaped c.2)) ry
      rw [e] at rb'
      exact ⟨_, as, bs, ds, ra', c.1, .inr ⟨rb', c.2⟩, lead_ok l k (by simp only [RV])⟩
  | none => simp only [e] at l; exact l.elim
  | bool _ => simp only [e] at l; exact l.elim
  | int _ => simp only [e] at l; exact l.elim
  | str _ => simp only [e] at l; exact l.elim
  | dict _ => simp only [e] at l; exact l.elim
theorem or_inD (hu : X.A.units + 65 < cLine) : OpR X (compareOp .In) (opR E (inD false)) := by
  intro pins s sg H x y v u Q I rx ry h
  obtain ⟨w, a, b, rfl, k, ra, rb, l⟩ := h
  obtain ⟨d, as, bs, ds, r1, s1, hr, q⟩ := inD_run I rx ry k ra rb l
  rcases hr with ⟨r2, s2⟩ | ⟨r2, s2⟩
  · exact SeqAt.in_list_reads r2 r1 (SeqAt.canLay_of_shaped s2) (SeqAt.canLay_of_shaped s1) (room_in_shaped s1 hu) ⟨.bl _, w.H, I, rfl, q⟩
  · exact SeqAt.in_tuple_reads r2 r1 (SeqAt.canLay_of_shaped s2) (SeqAt.canLay_of_shaped s1) (room_in_shaped s1 hu) ⟨.bl _, w.H, I, rfl, q⟩
theorem or_notinD (hu : X.A.units + 65 < cLine) : OpR X (compareOp .NotIn) (opR E (inD true)) := by
  intro pins s sg H x y v u Q I rx ry h
  obtain ⟨w, a, b, rfl, k, ra, rb, l⟩ := h
  obtain ⟨d, as, bs, ds, r1, s1, hr, q⟩ := inD_run I rx ry k ra rb l
  rcases hr with ⟨r2, s2⟩ | ⟨r2, s2⟩
  · exact SeqAt.notIn_list_reads r2 r1 (SeqAt.canLay_of_shaped s2) (SeqAt.canLay_of_shaped s1) (room_in_shaped s1 hu) ⟨.bl _, w.H, I, rfl, q⟩
  · exact SeqAt.notIn_tuple_reads r2 r1 (SeqAt.canLay_of_shaped s2) (SeqAt.canLay_of_shaped s1) (room_in_shaped s1 hu) ⟨.bl _, w.H, I, rfl, q⟩

/-! ### repr -/
def reprM : List MV → M MV
  | [v] => (pull v).bind fun x => if SeqAt.shaped x.dat && x.dat.showable && !x.dat.hasDict && decide (x.dat.depth ≤ 60) && decide (x.dat.shown.length ≤ sizeLine) then M.pure (.str x.dat.shown) else M.stuck
  | _ => M.stuck
theorem cr_repr (hg : X.A.guards = some []) (hu : X.A.units + 64 < cLine) : CallR X (.builtin "repr") (caR E reprM) := by
  intro pins s sg H xs us Q I rxs h
  obtain ⟨w, as, rfl, k, ra, l⟩ := h
  match as, ra, l with
  | [], _, l => exact l.elim
  | _ :: _ :: _, _, l => exact l.elim
  | [v], ra, l =>
    obtain ⟨x, rfl, r1⟩ := ra.one
    cases rxs with
    | cons rx rt =>
      cases rt
      rename_i u
      obtain ⟨x', l, kx⟩ := pull_ok (K := X.K) k r1 l
      generalize hd : x'.dat = d at l kx
      by_cases c : (SeqAt.shaped d && d.showable && !d.hasDict && decide (d.depth ≤ 60) && decide (d.shown.length ≤ sizeLine)) = true
      · rw [if_pos c] at l
        simp only [Bool.and_eq_true, decide_eq_true_eq, Bool.not_eq_true'] at c
        obtain ⟨⟨⟨⟨c1, c2⟩, c3⟩, c4⟩, c5⟩ := c
        have q : Q (.str d.shown) w.H := lead_ok l k (by simp only [RV])
        obtain ⟨ad, rd⟩ := Dp.reads I _ x u (kx (SeqAt.canLay_of_shaped c1)) rx
        cases u with
        | ref p => exact PySem.repr_of_reads' rd c2 (fun z => by rw [c3] at z; cases z) hg (by omega) (fun b o e => e) (fun h' u' tk hk => ⟨.str d.shown, w.H, I.kept (t' := tk) hk, ⟨_, rfl⟩, q⟩) c5
        | int i t => cases rd; exact PySem.P.repr_of_int (by simpa [PyData.showable] using c2) ⟨.str _, w.H, I.tok _, ⟨_, rfl⟩, q⟩
        | str y t => cases rd; exact PySem.P.repr_of_str ⟨.str _, w.H, I.tok _, ⟨_, rfl⟩, q⟩
        | bool b => cases rd; exact PySem.P.repr_of_bool ⟨.str _, w.H, I.tok _, ⟨_, rfl⟩, q⟩
        | none => cases rd; exact PySem.P.repr_of_none ⟨.str _, w.H, I.tok _, ⟨_, rfl⟩, q⟩
        | _ => cases rd
      · rw [if_neg c] at l; exact l.elim
end
end Mi

set_option Elab.async false
set_option linter.all false
set_option maxRecDepth 100000
set_option maxHeartbeats 4000000
/-! Mini, part K: sets of ints made of lists, sorted, len of a set, tuple * int. -/
namespace Mi
open PySem PySem.Spec PyProof.Rows L2
variable [Gb]

abbrev set0 (w : World) : Obj := { cls := .type "set", dict := none, data := .set #[] 0 (.fresh 0 0 (!w.params.followText "set-order")) }
section
variable {P : Program} {w : World} {A : Around} {E : Value → Shared → Prop} {s : Shared}
set_option maxHeartbeats 3200000 in
theorem call_set_lstI {l : Addr} {vs : Array Value} (ns : List Int) {Q : Value → Shared → Prop} (hand : A.handled = none) (isl : s.heap.IsList l vs) (are : IntsAre vs.toList ns) (few : ns.length + 1 < scanBound)
    (fin : ∀ (hp : Heap) (tk c : Nat), SetR w hp s.heap.objs.size (fun j => decide (j ∈ ns)) c → c ≤ ns.length → (∀ b o, s.heap.get? b = some o → hp.get? b = some o) → Q (.ref s.heap.objs.size) { s with heap := hp, toks := tk }) :
    wpAny (model P w) A (call (.type "set") [.ref l]) Q E s := by
  have size : vs.size = ns.length := by have q := IntsAre.length are; rwa [Array.length_toList] at q
  obtain ⟨c0, tl0, m0⟩ := F.called_set.mro
  have f1 := F.called_set.made
  have f2 := F.called_set.sub
  refine wpAny_call (codeAny_of_tree ?_)
  show wpAny _ _ (callAny (Value.type "set") ⟨[Value.ref l], []⟩) _ _ s
  refine wpAny_pure ⟨Code.quiet_builtin _ (by decide +kernel), codeAny_builtin F.entry_type_call ?_⟩
  rw [(Around.under_plain (weight_type_call_type "set" [.ref l] []) rfl)]
  have f3 := F.called_set.notType
  have f4 := F.called_set.canCreate
  have f5 := F.typeCall_set_1 (.ref l)
  repeat (any_goals (first | assumption | wp_step))
  refine codeAny_mono (code_set_led1 (.ref l) (E := E) (Q₁ := fun ob sh => ob = .ref s.heap.objs.size ∧ sh = { s with heap := s.heap.push (set0 w) }) ⟨rfl, rfl⟩) fun r sh hr => ?_
  cases r with
  | error e => exact hr
  | ok fl =>
    cases fl with
    | ret ob =>
      obtain ⟨rfl, rfl⟩ := hr
      have atS : (s.heap.push (set0 w)).get? s.heap.objs.size = some (set0 w) := Heap.get?_push_size _ rfl
      have tyS : Shared.TypeIs { s with heap := s.heap.push (set0 w) } (.ref s.heap.objs.size) "set" := ⟨_, atS, rfl⟩
      have f6 := F.called_set.init.lookup
      have f7 := F.called_set.init.bind (.ref s.heap.objs.size)
      repeat (any_goals (first | assumption | wp_step))
      refine codeAny_mono (codeAny_call_builtin (R := wants (fun r s2 => r = .none ∧ ∃ hp tk c, s2 = { s with heap := hp, toks := tk } ∧ SetR w hp s.heap.objs.size (fun j => decide (j ∈ ns)) c ∧ c ≤ ns.length ∧
          ∀ b o, s.heap.get? b = some o → hp.get? b = some o) E) F.called_set.init.plain F.entry_set_init (check_set_init_1 tyS ?_)) fun r2 s2 hr2 => ?_
      · obtain ⟨⟨ocl, odi, oda, osl⟩, hol, hcl, nl, hdl⟩ := isl
        simp only at hcl hdl
        subst hcl; subst hdl
        have hol1 : (s.heap.push (set0 w)).get? l = some { cls := .type "list", dict := odi, data := .seq vs nl, slots := osl } := Heap.get?_push_of_some _ hol
        have g1 := F.sub_list_set
        have g2 := F.sub_list_frozenset
        have g3 : (Value.type "list" == Value.type "dict") = false := by decide
        have isl1 : (s.heap.push (set0 w)).IsList l vs := ⟨_, hol1, rfl, nl, rfl⟩
        unfold Builtin.«set.__init__» noKeywords Builtin.Frozenset.updateFrom
        generalize hPI : pyIter = PI
        wp_walk
        subst hPI
        refine wpAny_pyIter_list isl1 ?_
        refine wpAny_bind (wpAny_runValue ?_)
        have lt : l < s.heap.objs.size := Heap.lt_size hol
        have hand3 : A.in1.in1.in1.handled = none := by simp [hand]
        have sz1 : (s.heap.push (set0 w)).objs.size = s.heap.objs.size + 1 := Heap.size_push ..
        have neI : l ≠ (s.heap.push (set0 w)).objs.size := by rw [sz1]; exact Nat.ne_of_lt (Nat.lt_succ_of_lt lt)
        have nin : s.heap.objs.size ∉ [(s.heap.push (set0 w)).objs.size, l] := by
          rw [sz1]; simp only [List.mem_cons, List.not_mem_nil, or_false, not_or]
          exact ⟨Nat.ne_of_lt (Nat.lt_succ_self _), Nat.ne_of_gt lt⟩
        have at_ : ∀ (i : Nat) (v : Value), vs[i]? = some v → ∃ k t, ns[i]? = some k ∧ v = .int k t := fun i v hv => by
          have hi : i < ns.length := by rw [← size]; exact (Array.getElem?_eq_some_iff.mp hv).1
          obtain ⟨t, e⟩ := PyProof.Rows.IntsAre.int_at are i v (by rw [Array.getElem?_toList]; exact hv)
          refine ⟨ns[i], t, List.getElem?_eq_getElem hi, e.trans ?_⟩
          rw [List.getD_eq_getElem?_getD, List.getElem?_eq_getElem hi] <;> rfl
        refine set_update_ints ((Walks.list hand3 _ l neI vs).toS) s.heap.objs.size nin ns size few at_ (vs.size - 0) 0 _ (by omega) (Nat.zero_le _) ⟨⟨_, Heap.get?_push_size _ rfl, rfl, rfl⟩, isl1.push _⟩ ?hZ ?hR
        case hZ =>
          exact ⟨0, Nat.le_refl 0, setR_new_at (Heap.get?_push_of_some _ atS)⟩
        case hR =>
          intro s3 c1 mv le1 sr
          obtain ⟨h3, g3', d3, tk3, os3⟩ := s3
          have eg : g3' = s.gens := mv.gens
          have ed : d3 = s.drawn := mv.drawn
          have eo : os3 = s.os := mv.os
          subst eg ed eo
          show wpAny _ _ _ _ _ _
          refine wpAny_pure ?_
          show wpAny _ _ (ret Value.none) _ _ _
          rw [size] at le1
          refine wpAny_pure ⟨rfl, h3, tk3, c1, rfl, sr, le1, fun b o e => ?_⟩
          have lb : b < s.heap.objs.size := Heap.lt_size e
          refine mv.heap b o ?_ (Heap.get?_push_of_some _ (Heap.get?_push_of_some _ e))
          simp only [List.mem_cons, List.not_mem_nil, or_false, not_or]
          exact ⟨Nat.ne_of_lt lb, by rw [sz1]; exact Nat.ne_of_lt (Nat.lt_succ_of_lt lb)⟩
      · cases r2 with
        | error e => exact hr2
        | ok fl2 =>
          cases fl2 with
          | ret r =>
            obtain ⟨rfl, hp, tk, c, rfl, sr, lec, kp⟩ := hr2
            repeat (any_goals (first | assumption | wp_step))
            exact fin _ _ _ sr lec kp
          | _ => exact hr2.elim
    | _ => exact hr.elim
end
end Mi

set_option Elab.async false
set_option linter.all false
set_option maxRecDepth 100000
set_option maxHeartbeats 4000000
/-! Mini, part L: sorted, sets within sorted and len. -/
namespace Mi
open PySem PySem.Spec PyProof.Rows L2
variable [Gb]

/-! ### by a number that tells the items apart -/
section
variable {A : Type} (f : A → Int)
def insB (x : A) : List A → List A
  | [] => [x]
  | y :: r => if f x ≤ f y then x :: y :: r else y :: insB x r
def srtB : List A → List A
  | [] => []
  | x :: r => insB f x (srtB r)
def insU (x : A) : List A → List A
  | [] => [x]
  | y :: r => if f x < f y then x :: y :: r else if f x = f y then y :: r else y :: insU x r
def srtU : List A → List A
  | [] => []
  | x :: r => insU f x (srtU r)
variable {f}
theorem insB_perm (x : A) : ∀ l : List A, (insB f x l).Perm (x :: l)
  | [] => .refl _
  | y :: r => by
    unfold insB
    split
    · exact .refl _
    · exact ((insB_perm x r).cons y).trans (.swap x y r)
theorem srtB_perm : ∀ l : List A, (srtB f l).Perm l
  | [] => .refl _
  | x :: r => (insB_perm x _).trans ((srtB_perm r).cons x)
theorem insB_pw (x : A) : ∀ l : List A, l.Pairwise (fun a b => f a ≤ f b) → (insB f x l).Pairwise (fun a b => f a ≤ f b)
  | [], _ => by simp [insB]
  | y :: r, h => by
    obtain ⟨h1, h2⟩ := List.pairwise_cons.mp h
    unfold insB
    by_cases c : f x ≤ f y
    · rw [if_pos c]
      refine List.pairwise_cons.mpr ⟨fun z hz => ?_, h⟩
      rcases List.mem_cons.mp hz with rfl | hz
      · exact c
      · exact Int.le_trans c (h1 z hz)
    · rw [if_neg c]
      refine List.pairwise_cons.mpr ⟨fun z hz => ?_, insB_pw x r h2⟩
      rcases List.mem_cons.mp ((insB_perm x r).mem_iff.mp hz) with rfl | hz
      · omega
      · exact h1 z hz
theorem srtB_pw : ∀ l : List A, (srtB f l).Pairwise (fun a b => f a ≤ f b)
  | [] => List.Pairwise.nil
  | x :: r => insB_pw x _ (srtB_pw r)
theorem srtB_unique {l l' : List A} (inj : ∀ a ∈ l, ∀ b ∈ l, f a = f b → a = b) (p : l'.Perm l) (s : l'.Pairwise (fun a b => f a ≤ f b)) : l' = srtB f l :=
  List.Perm.eq_of_pairwise (fun a b ha hb h1 h2 => inj a (p.mem_iff.mp ha) b ((srtB_perm l).mem_iff.mp hb) (Int.le_antisymm h1 h2)) s (srtB_pw l) (p.trans (srtB_perm l).symm)
theorem insU_mem (x : A) (inj : ∀ a b : A, f a = f b → a = b ∨ False) : ∀ l : List A, ∀ z, z ∈ insU f x l ↔ z = x ∨ z ∈ l
  | [], z => by simp [insU]
  | y :: r, z => by
    unfold insU
    by_cases c : f x < f y
    · rw [if_pos c]; simp
    · rw [if_neg c]
      by_cases d : f x = f y
      · rw [if_pos d]
        have e : x = y := (inj x y d).elim id False.elim
        subst e; simp
      · rw [if_neg d]; simp only [List.mem_cons, insU_mem x inj r z]
        constructor
        · rintro (h | h | h) <;> simp [h]
        · rintro (h | h | h) <;> simp [h]
theorem insU_sub (x : A) : ∀ l : List A, ∀ z, z ∈ insU f x l → z = x ∨ z ∈ l
  | [], z, h => by simpa [insU] using h
  | y :: r, z, h => by
    unfold insU at h
    by_cases c : f x < f y
    · rw [if_pos c] at h; simpa using h
    · rw [if_neg c] at h
      by_cases d : f x = f y
      · rw [if_pos d] at h; exact .inr h
      · rw [if_neg d] at h
        rcases List.mem_cons.mp h with h | h
        · exact .inr (by simp [h])
        · exact (insU_sub x r z h).imp id fun q => List.mem_cons_of_mem _ q
theorem insU_pw (x : A) : ∀ l : List A, l.Pairwise (fun a b => f a < f b) → (insU f x l).Pairwise (fun a b => f a < f b)
  | [], _ => by simp [insU]
  | y :: r, h => by
    obtain ⟨h1, h2⟩ := List.pairwise_cons.mp h
    unfold insU
    by_cases c : f x < f y
    · rw [if_pos c]
      refine List.pairwise_cons.mpr ⟨fun z hz => ?_, h⟩
      rcases List.mem_cons.mp hz with rfl | hz
      · exact c
      · exact Int.lt_trans c (h1 z hz)
    · rw [if_neg c]
      by_cases d : f x = f y
      · rw [if_pos d]; exact h
      · rw [if_neg d]
        refine List.pairwise_cons.mpr ⟨fun z hz => ?_, insU_pw x r h2⟩
        rcases insU_sub x r z hz with rfl | hz
        · omega
        · exact h1 z hz
theorem srtU_pw : ∀ l : List A, (srtU f l).Pairwise (fun a b => f a < f b)
  | [] => List.Pairwise.nil
  | x :: r => insU_pw x _ (srtU_pw r)
theorem srtU_sub : ∀ l : List A, ∀ z, z ∈ srtU f l → z ∈ l
  | [], _, h => h
  | x :: r, z, h => (insU_sub x _ z h).elim (fun e => by simp [e]) fun q => List.mem_cons_of_mem _ (srtU_sub r z q)
theorem insU_keeps (x : A) : ∀ l : List A, ∀ z, z ∈ l → z ∈ insU f x l
  | y :: r, z, h => by
    unfold insU
    by_cases c : f x < f y
    · rw [if_pos c]; exact List.mem_cons_of_mem _ h
    · rw [if_neg c]
      by_cases d : f x = f y
      · rw [if_pos d]; exact h
      · rw [if_neg d]
        rcases List.mem_cons.mp h with h | h
        · simp [h]
        · exact List.mem_cons_of_mem _ (insU_keeps x r z h)
theorem insU_has (x : A) : ∀ l : List A, (∀ z ∈ l, f x = f z → x = z) → x ∈ insU f x l
  | [], _ => by simp [insU]
  | y :: r, h => by
    unfold insU
    by_cases c : f x < f y
    · rw [if_pos c]; simp
    · rw [if_neg c]
      by_cases d : f x = f y
      · rw [if_pos d]; simp [h y (by simp) d]
      · rw [if_neg d]; exact List.mem_cons_of_mem _ (insU_has x r fun z hz => h z (List.mem_cons_of_mem _ hz))
theorem srtU_all : ∀ l : List A, (∀ a ∈ l, ∀ b ∈ l, f a = f b → a = b) → ∀ z, z ∈ l → z ∈ srtU f l
  | x :: r, inj, z, h => by
    rcases List.mem_cons.mp h with rfl | h
    · exact insU_has z _ fun y hy e => inj z (by simp) y (List.mem_cons_of_mem _ (srtU_sub r y hy)) e
    · exact insU_keeps x _ z (srtU_all r (fun a ha b hb => inj a (List.mem_cons_of_mem _ ha) b (List.mem_cons_of_mem _ hb)) z h)
theorem pw_nodup {l : List A} (h : l.Pairwise (fun a b => f a < f b)) : l.Nodup := h.imp fun {a b} q e => by rw [e] at q; omega
theorem perm_of_mem {l l' : List A} (h : l.Nodup) (h' : l'.Nodup) (e : ∀ a, a ∈ l ↔ a ∈ l') : l.Perm l' := (List.perm_ext_iff_of_nodup h h').mpr e
theorem srtU_unique {l l' : List A} (inj : ∀ a ∈ l, ∀ b ∈ l, f a = f b → a = b) (m : ∀ a, a ∈ l' ↔ a ∈ l) (s : l'.Pairwise (fun a b => f a < f b)) : l' = srtU f l := by
  have m2 : ∀ a, a ∈ l' ↔ a ∈ srtU f l := fun a => (m a).trans ⟨srtU_all l inj a, srtU_sub l a⟩
  exact List.Perm.eq_of_pairwise (le := fun a b => f a < f b) (fun a b _ _ h1 h2 => absurd h1 (by omega)) s (srtU_pw l) (perm_of_mem (pw_nodup s) (pw_nodup (srtU_pw l)) m2)
end
/-! ### tuples of ints by their code -/
abbrev kB : Int := 1024
abbrev kcode : List Int → Int := TS.code kB
def kV (k : List Int) : MV := .tup (k.map .int)
def keysOf : List MV → Option (List (List Int))
  | [] => some []
  | .tup xs :: r => match intsOf xs, keysOf r with
    | some k, some ks => some (k :: ks)
    | _, _ => none
  | _ :: _ => none
def okKeys (ks : List (List Int)) : Bool := decide (ks.length < 64) && ks.all fun k => decide (1 ≤ (ks.headD [0]).length) && k.length == (ks.headD [0]).length && k.all fun m => decide (0 ≤ m ∧ m < kB)
theorem code_eq {B : Int} : ∀ {x y : List Int}, x.length = y.length → TS.Bd B x → TS.Bd B y → TS.code B x = TS.code B y → x = y
  | [], [], _, _, _, _ => rfl
  | [], _ :: _, h, _, _, _ => by simp at h
  | _ :: _, [], h, _, _, _ => by simp at h
  | a :: x, b :: y, h, bx, by_, e => by
    have hl : x.length = y.length := by simpa using h
    rcases Int.lt_trichotomy a b with z | z | z
    · have := TS.code_lt hl bx.tail by_.tail z; omega
    · subst z
      have e2 : TS.code B x = TS.code B y := by
        have h1 : ¬ TS.code B x < TS.code B y := fun q => by have := (TS.code_same (d := a) hl).mpr q; omega
        have h2 : ¬ TS.code B y < TS.code B x := fun q => by have := (TS.code_same (d := a) hl.symm).mpr q; omega
        omega
      rw [code_eq hl bx.tail by_.tail e2]
    · have := TS.code_lt hl.symm by_.tail bx.tail z; omega
theorem okKeys_of {ks : List (List Int)} (h : okKeys ks = true) : ks.length < 64 ∧ ∃ d, 1 ≤ d ∧ ∀ k ∈ ks, k.length = d ∧ TS.Bd kB k := by
  unfold okKeys at h
  simp only [Bool.and_eq_true, decide_eq_true_eq, List.all_eq_true, beq_iff_eq] at h
  refine ⟨h.1, ?_⟩
  cases ks with
  | nil => exact ⟨1, Nat.le_refl _, fun k hk => by simp at hk⟩
  | cons k0 r =>
    refine ⟨k0.length, (h.2 k0 (by simp)).1.1, fun k hk => ⟨(h.2 k hk).1.2, fun m hm => ?_⟩⟩
    exact (h.2 k hk).2 m hm
theorem keys_inj {ks : List (List Int)} (h : okKeys ks = true) : ∀ a ∈ ks, ∀ b ∈ ks, kcode a = kcode b → a = b := fun a ha b hb e => by
  obtain ⟨_, d, _, q⟩ := okKeys_of h
  exact code_eq ((q a ha).1.trans (q b hb).1.symm) (q a ha).2 (q b hb).2 e
theorem keysOf_ok : ∀ {xs : List MV} {ks : List (List Int)}, keysOf xs = some ks → xs = ks.map kV
  | [], ks, e => by cases e; rfl
  | x :: xs, ks, e => by
    cases x with
    | tup ys =>
      unfold keysOf at e
      cases e1 : intsOf ys with
      | none => rw [e1] at e; cases e
      | some k =>
        cases e2 : keysOf xs with
        | none => rw [e1, e2] at e; cases e
        | some r =>
          rw [e1, e2] at e; cases e
          have h1 : ∀ {ys : List MV} {ns : List Int}, intsOf ys = some ns → ys = ns.map MV.int := by
            intro ys
            induction ys with
            | nil => intro ns e; cases e; rfl
            | cons y ys ih =>
              intro ns e
              cases y with
              | int i =>
                unfold intsOf at e
                cases e3 : intsOf ys with
                | none => rw [e3] at e; cases e
                | some n => rw [e3] at e; cases e; rw [ih e3]; rfl
              | _ => cases e
          rw [keysOf_ok e2, h1 e1]; rfl
    | _ => cases e
/-- the keys of abstract tuples -/
theorem key_rv {w : Wd} {k : List Int} {u : V} (r : RV w (kV k) u) : ∃ t, u = .ref t ∧ w.H t = some (.tup (k.map V.int)) := by
  unfold kV at r
  simp only [RV] at r
  obtain ⟨t, us, rfl, h1, h2⟩ := r
  refine ⟨t, rfl, ?_⟩
  have : intsOf (k.map MV.int) = some k := by
    clear h1 h2
    induction k with
    | nil => rfl
    | cons a k ih => simp [intsOf, ih]
  rw [(intsOf_ok this h2).1] at h1
  exact h1
theorem rv_key {w : Wd} {k : List Int} {t : Addr} (h : w.H t = some (.tup (k.map V.int))) : RV w (kV k) (.ref t) := by
  unfold kV
  simp only [RV]
  refine ⟨t, _, rfl, h, ?_⟩
  clear h
  induction k with
  | nil => exact RVs.nil
  | cons a k ih => exact RVs.cons (by simp only [RV]) ih
end Mi

set_option Elab.async false
set_option linter.all false
set_option maxRecDepth 100000
set_option maxHeartbeats 4000000
/-! Mini, part M: sorted(xs), sorted(set(xs)), len(set(xs)), tuple * int. -/
namespace Mi
open PySem PySem.Spec PyProof.Rows L2
variable [Gb]

section
variable {A B C D : Type} {R : Wd → A → B → Prop} {R' : Wd → C → D → Prop} {w w1 : Wd} {E : EW}
theorem lead_bindE {m : M A} {f : A → M C} {Q : D → Hp → Prop} {P : B → Hp → Prop} (h : LeadG R' w (M.bind m f w.h) Q E)
    (k : ∀ (w1 : Wd) (a : A) (b : B), m w.h = .ok a w1.h → w1.Ok → Ext w w1 → R w1 a b → LeadG R' w1 (f a w1.h) Q E → P b w1.H) : LeadG R w (m w.h) P E := by
  unfold M.bind at h
  cases e : m w.h with
  | stuck => rw [e] at h; exact h
  | ok a h0 =>
    rw [e] at h
    intro w' b eh ok x r
    have h' : LeadG R' w (f a h0) Q E := h
    exact k w' a b (by rw [e, eh]) ok x r (by rw [eh]; exact h'.ext x)
  | exn c v h0 => rw [e] at h; exact h
end
theorem rvs_perm {w : Wd} : ∀ {us vs : List V}, vs.Perm us → ∀ {ks : List (List Int)}, RVs w (ks.map kV) us → ∃ ks' : List (List Int), ks'.Perm ks ∧ RVs w (ks'.map kV) vs := by
  intro us vs p
  induction p with
  | nil => intro ks r; exact ⟨ks, .refl _, r⟩
  | cons x _ ih =>
    intro ks r
    cases ks with
    | nil => have := r.length; simp at this
    | cons k ks =>
      obtain ⟨u, rs, e, r1, r2⟩ := r.uncons
      cases e
      obtain ⟨ks', p', r'⟩ := ih r2
      exact ⟨k :: ks', p'.cons k, RVs.cons r1 r'⟩
  | swap x y l =>
    intro ks r
    match ks, r with
    | [], r => have := r.length; simp at this
    | [_], r => have := r.length; simp at this
    | k :: k' :: ks, r =>
      obtain ⟨u, rs, e, r1, r2⟩ := r.uncons
      cases e
      obtain ⟨u2, rs2, e2, r3, r4⟩ := r2.uncons
      cases e2
      exact ⟨k' :: k :: ks, .swap _ _ _, RVs.cons r3 (RVs.cons r1 r4)⟩
  | trans _ _ ih1 ih2 =>
    intro ks r
    obtain ⟨ks1, p1, r1⟩ := ih2 r
    obtain ⟨ks2, p2, r2⟩ := ih1 r1
    exact ⟨ks2, p2.trans p1, r2⟩
theorem pw_keys {w : Wd} {P : List Int → List Int → Prop} {G : V → V → Prop} (hG : ∀ k k' x y, RV w (kV k) x → RV w (kV k') y → G x y → P k k') : ∀ {ks : List (List Int)} {us : List V}, RVs w (ks.map kV) us → us.Pairwise G → ks.Pairwise P
  | [], _, _, _ => List.Pairwise.nil
  | k :: ks, us, r, h => by
    obtain ⟨u, rs, rfl, r1, r2⟩ := r.uncons
    obtain ⟨h1, h2⟩ := List.pairwise_cons.mp h
    refine List.pairwise_cons.mpr ⟨fun k' hk' => ?_, pw_keys hG r2 h2⟩
    obtain ⟨i, hi, e⟩ := List.getElem_of_mem hk'
    have e2 : (ks.map kV)[i]? = some (kV k') := by rw [List.getElem?_map, List.getElem?_eq_getElem hi, e]; rfl
    obtain ⟨x, ex, rx⟩ := r2.get e2
    exact hG _ _ _ _ r1 rx (h1 x (List.mem_of_getElem? ex))

/-- sorted -/
def srtM (mt : Bool) (xs : List MV) : M MV := match intsOf xs with
  | some ns => newL mt ((srtB id ns).map .int)
  | none => match keysOf xs with
    | some ks => if okKeys ks then newL mt ((srtB kcode ks).map kV) else M.stuck
    | none => M.stuck
def sortedM (mt : Bool) : List MV → M MV
  | [v] => (itemsL v).bind (srtM mt)
  | _ => M.stuck
theorem rvs_ints {w : Wd} : ∀ (ns : List Int), RVs w (ns.map MV.int) (ns.map V.int)
  | [] => RVs.nil
  | n :: ns => RVs.cons (by simp only [RV]) (rvs_ints ns)
section
variable {X : Cx} {E : EW} {a b e : Expr} {ma mb me : EM} {pos p p2 q : Pos}
theorem cr_sortedM {mt : Bool} : CallR X (.builtin "sorted") (caR E (sortedM mt)) := by
  intro pins s sg H xs us Q I rxs h
  obtain ⟨w, as, rfl, k, ra, l⟩ := h
  match as, ra, l with
  | [], _, l => exact l.elim
  | _ :: _ :: _, _, l => exact l.elim
  | [v], ra, l =>
    obtain ⟨x, rfl, r1⟩ := ra.one
    obtain ⟨pp, ys, vs, rfl, hq, r2, l2⟩ := itemsL_ok k r1 l
    unfold srtM at l2
    cases e1 : intsOf ys with
    | some ns =>
      simp only [e1] at l2
      obtain ⟨ev, _⟩ := intsOf_ok e1 r2
      refine cr_sortedI pins s sg w.H _ us Q I rxs ⟨pp, ns, rfl, by rw [← ev]; exact SqL.of hq, fun ns' t pm pw ht => ?_⟩
      have en : ns' = srtB id ns := srtB_unique (fun _ _ _ _ e => e) pm pw
      rw [en]
      exact newL_ok l2 k (rvs_ints _) ht
    | none =>
      simp only [e1] at l2
      cases e2 : keysOf ys with
      | none => simp only [e2] at l2; exact l2.elim
      | some ks =>
        simp only [e2] at l2
        by_cases c : okKeys ks = true
        · rw [if_pos c] at l2
          obtain ⟨c1, d, hd, c2⟩ := okKeys_of c
          have ey := keysOf_ok e2
          subst ey
          refine cr_sortT (d := d) (B := kB) hd pins s sg w.H _ us Q I rxs ⟨pp, vs, rfl, SqL.of hq, by rw [← r2.length, List.length_map]; exact c1, fun y hy => ?_, fun zs t pm pw ht => ?_⟩
          · obtain ⟨i, hi, e⟩ := List.getElem_of_mem hy
            obtain ⟨z, e3, r3⟩ := r2.get' (List.getElem?_eq_some_iff.mpr ⟨hi, e⟩)
            rw [List.getElem?_map] at e3
            cases e4 : ks[i]? with
            | none => rw [e4] at e3; cases e3
            | some kk =>
              rw [e4] at e3; cases e3
              obtain ⟨tt, rfl, h1⟩ := key_rv r3
              exact ⟨kk, ⟨tt, rfl, SqT.of h1⟩, c2 kk (List.mem_of_getElem? e4)⟩
          · obtain ⟨ks', p', r'⟩ := rvs_perm pm r2
            have pk : ks'.Pairwise fun x y => kcode x ≤ kcode y := pw_keys (G := fun x y => ∀ n m, TupI X.K w.H x n → TupI X.K w.H y m → TS.code kB n ≤ TS.code kB m) (fun k1 k2 x y q1 q2 g => by
              obtain ⟨t1, rfl, h1⟩ := key_rv q1
              obtain ⟨t2, rfl, h2⟩ := key_rv q2
              exact g _ _ ⟨t1, rfl, SqT.of h1⟩ ⟨t2, rfl, SqT.of h2⟩) r' pw
            have ek : ks' = srtB kcode ks := srtB_unique (keys_inj c) p' pk
            rw [ek] at r'
            exact newL_ok l2 k r' ht
        · rw [if_neg c] at l2; exact l2.elim

/-! ### sets of ints -/
def rSetI (K : PySem.W.Frag) (P : Program) (w : World) : List V → Hp → VK → Prop := fun xs H Q => ∃ (l : Addr) (ns : List Int), xs = [V.ref l] ∧ (SqL K H l (ns.map V.int) ∨ SqT K H l (ns.map V.int)) ∧ ns.length ≤ 1000 ∧
  ∀ (p : Addr), H p = none → Q (.ref p) (upd H p (SetO w p (fun j => decide (j ∈ ns)) (srtU id ns).length))
theorem setR_len {w : World} {h : Heap} {a : Addr} {ns : List Int} {c : Nat} (R : SetR w h a (fun j => decide (j ∈ ns)) c) : c = (srtU id ns).length := by
  obtain ⟨o, es, ep, t, _, _, _, _, nd, hm, _, _, hn, _⟩ := R
  have pm : (es.toList.map keyOf).Perm (srtU id ns) := perm_of_mem nd (pw_nodup (f := id) (srtU_pw ns)) fun j => by
    rw [← hm j, decide_eq_true_iff]
    exact ⟨srtU_all ns (fun _ _ _ _ e => e) j, srtU_sub ns j⟩
  rw [← pm.length_eq, List.length_map, Array.length_toList, hn]
theorem cr_setI (hc : X.calm = true) : CallR X (.type "set") (rSetI X.K X.prog X.w) := by
  intro pins s sg H xs us Q I r h
  obtain ⟨l, ns, rfl, hq, hl, q⟩ := h
  rw [Vals.ref1 r]
  have fin : ∀ (hp : Heap) (tk c : Nat), SetR X.w hp s.heap.objs.size (fun j => decide (j ∈ ns)) c → c ≤ ns.length → (∀ b o, s.heap.get? b = some o → hp.get? b = some o) → EP X pins sg Q (.ref s.heap.objs.size) { s with heap := hp, toks := tk } := fun hp tk c R _ kp => by
    have ec := setR_len R
    rw [ec] at R
    exact ⟨.ref s.heap.objs.size, _, I.laid (t' := tk) kp (Nat.le_refl _) (setO_new R), rfl, q _ (I.hok.fresh (Nat.le_refl _))⟩
  rcases hq with hq | hq
  · obtain ⟨its, rv, pl, hz⟩ := I.list hq
    exact call_set_lstI ns (I.ok.hd hc) pl.isList (by simpa using rv.ints) (by unfold scanBound; omega) fin
  · obtain ⟨its, rv, pl, hz⟩ := I.tuple hq
    exact call_set_tupI ns (I.ok.hd hc) pl (by simpa using rv.ints) (by unfold scanBound; omega) fin
/-- sorted(set(x)), ints of a list or tuple -/
def sSetI (mt : Bool) (v : MV) : M MV := (itemsS v).bind fun xs => match intsOf xs with
  | some ns => if ns.length < 64 then newL mt ((srtU id ns).map .int) else M.stuck
  | none => M.stuck
/-- sorted(set(x)), tuples of ints of a list -/
def sSetT (mt : Bool) (v : MV) : M MV := (itemsL v).bind fun xs => match keysOf xs with
  | some ks => if okKeys ks then newL mt ((srtU kcode ks).map kV) else M.stuck
  | none => M.stuck
def lSetI (v : MV) : M MV := (itemsS v).bind fun xs => match intsOf xs with
  | some ns => if ns.length ≤ 1000 then M.pure (.int (srtU id ns).length) else M.stuck
  | none => M.stuck
theorem mem_len {l l' : List Int} : l.Nodup → (∀ a ∈ l, a ∈ l') → l.length ≤ l'.length := by
  induction l generalizing l' with
  | nil => intro _ _; simp
  | cons a l ih =>
    intro nd sub
    obtain ⟨n1, n2⟩ := List.nodup_cons.mp nd
    have ha := sub a (by simp)
    have := ih (l' := l'.erase a) n2 fun b hb => (List.mem_erase_of_ne (fun e => n1 (by rw [← e]; exact hb))).mpr (sub b (List.mem_cons_of_mem _ hb))
    rw [List.length_erase_of_mem ha] at this
    have pos : 0 < l'.length := List.length_pos_of_mem ha
    simp only [List.length_cons]; omega
theorem srtU_len (ns : List Int) : (srtU id ns).length ≤ ns.length := mem_len (pw_nodup (f := id) (srtU_pw ns)) (srtU_sub ns)
theorem se_sSetI {mt : Bool} (hc : X.calm = true) (hg : Gl X "sorted") (hm : X.mg "sorted" = none) (hg2 : Gl X "set") (hm2 : X.mg "set" = none) (ha : SE X E a ma)
    (na : starEach [a] X.env = (false, eval a X.env) :: starEach [] X.env := by rfl) : SE X E (.Call (.Name "sorted" p) [.Call (.Name "set" p2) [a] [] q] [] pos) (una (sSetI mt) ma) := by
  refine ⟨fun pins s sg H Q I h => (pe_callB (cr_sortedSet hc) hg hm bt_sorted (pa_cons (pe_callTy (cr_setI hc) hg2 hm2 bt_set (pa_cons ha pa_nil na) (he := na)) pa_nil)).run pins s sg H Q I ?_⟩
  obtain ⟨w, env, rfl, k, r, l⟩ := h
  refine ⟨w, env, rfl, k, r, lead_bind l fun w1 v u k1 x1 r1 l1 => ?_⟩
  obtain ⟨pp, ys, us, rfl, hq, r2, l2⟩ := itemsS_ok (K := X.K) k1 r1 l1
  cases e1 : intsOf ys with
  | none => simp only [e1] at l2; exact l2.elim
  | some ns =>
    simp only [e1] at l2
    by_cases c : ns.length < 64
    · rw [if_pos c] at l2
      obtain ⟨ev, _⟩ := intsOf_ok e1 r2
      subst ev
      refine ⟨pp, ns, rfl, hq, by omega, fun t ht => ?_⟩
      have := srtU_len ns
      refine ⟨t, _, _, rfl, upd_same, by omega, fun ns' t2 pw hm' _ ht2 => ?_⟩
      have en : ns' = srtU id ns := srtU_unique (f := id) (fun _ _ _ _ e => e) (fun j => by rw [hm' j, decide_eq_true_iff]) pw
      rw [en]
      exact newL_ok (w := { w1 with H := upd w1.H t _ }) (l2.ext (Ext.new ht)) (k1.new ht) (rvs_ints _) ht2
    · rw [if_neg c] at l2; exact l2.elim
theorem refs_of {w : Wd} : ∀ {ks : List (List Int)} {us : List V}, RVs w (ks.map kV) us → ∃ ps : List (Addr × List Int), us = ps.map (fun p => V.ref p.1) ∧ ps.map (·.2) = ks ∧ ∀ p ∈ ps, w.H p.1 = some (.tup (p.2.map V.int))
  | [], us, r => ⟨[], r.zero, rfl, fun p hp => by simp at hp⟩
  | k :: ks, us, r => by
    obtain ⟨u, rs, rfl, r1, r2⟩ := r.uncons
    obtain ⟨t, rfl, h1⟩ := key_rv r1
    obtain ⟨ps, rfl, e2, h2⟩ := refs_of r2
    refine ⟨(t, k) :: ps, rfl, by simp [e2], fun p hp => ?_⟩
    rcases List.mem_cons.mp hp with rfl | hp
    · exact h1
    · exact h2 p hp
theorem of_refs {w : Wd} : ∀ {ps : List (Addr × List Int)}, (∀ p ∈ ps, w.H p.1 = some (.tup (p.2.map V.int))) → RVs w ((ps.map (·.2)).map kV) (ps.map (fun p => V.ref p.1))
  | [], _ => RVs.nil
  | p :: ps, h => RVs.cons (rv_key (h p (by simp))) (of_refs fun q hq => h q (List.mem_cons_of_mem _ hq))
theorem se_sSetT {mt : Bool} (hc : X.calm = true) (hu : X.A.units + 64 < cLine) (hg : Gl X "sorted") (hm : X.mg "sorted" = none) (hg2 : Gl X "set") (hm2 : X.mg "set" = none) (ha : SE X E a ma)
    (na : starEach [a] X.env = (false, eval a X.env) :: starEach [] X.env := by rfl) : SE X E (.Call (.Name "sorted" p) [.Call (.Name "set" p2) [a] [] q] [] pos) (una (sSetT mt) ma) := by
  refine ⟨fun pins s sg H Q I h => (pe_callB (cr_sortedT hc) hg hm bt_sorted (pa_cons (pe_callTy (cr_setOfT hc hu) hg2 hm2 bt_set (pa_cons ha pa_nil na) (he := na)) pa_nil)).run pins s sg H Q I ?_⟩
  obtain ⟨w, env, rfl, k, r, l⟩ := h
  refine ⟨w, env, rfl, k, r, lead_bind l fun w1 v u k1 x1 r1 l1 => ?_⟩
  obtain ⟨pp, ys, us, rfl, hq, r2, l2⟩ := itemsL_ok k1 r1 l1
  cases e1 : keysOf ys with
  | none => simp only [e1] at l2; exact l2.elim
  | some ks =>
    simp only [e1] at l2
    by_cases c : okKeys ks = true
    · rw [if_pos c] at l2
      obtain ⟨c1, d, hd, c2⟩ := okKeys_of c
      have ey := keysOf_ok e1
      subst ey
      obtain ⟨ps, rfl, rfl, hps⟩ := refs_of r2
      refine ⟨pp, ps, rfl, SqL.of hq, fun p hp => SqT.of (hps p hp), by simpa using c1, fun t L ht hs ha' => ?_⟩
      have hL : ∀ p ∈ L, (upd w1.H t (SetTO X.prog X.w t L)) p.1 = some (.tup (p.2.map V.int)) := fun p hp => by
        rw [upd_ne (ne_of_none (hps p (hs p hp)) ht)]; exact hps p (hs p hp)
      refine ⟨t, L, d, kB, rfl, upd_same, fun p hp => SqT.of (hL p hp), hd, fun p hp => c2 p.2 (List.mem_map.mpr ⟨p, hs p hp, rfl⟩), fun L' t2 pm nd few pw ht2 => ?_⟩
      have ek : L'.map (·.2) = srtU kcode (ps.map (·.2)) := srtU_unique (f := kcode) (keys_inj c) (fun j => ⟨fun hj => by
          obtain ⟨p, hp, e⟩ := List.mem_map.mp hj
          exact List.mem_map.mpr ⟨p, hs p (pm.mem_iff.mp hp), e⟩, fun hj => by
          obtain ⟨p, hp, e⟩ := List.mem_map.mp hj
          have := ha' p hp
          rw [← e]
          exact (pm.map (·.2)).mem_iff.mpr this⟩) (by
        have p1 : (L'.map (·.2)).Pairwise fun x y => kcode x ≤ kcode y := List.pairwise_map.mpr pw
        refine (p1.and nd).imp_of_mem fun {x y} hx hy h => ?_
        have mx : x ∈ ps.map (·.2) := by
          obtain ⟨p, hp, e⟩ := List.mem_map.mp hx
          exact List.mem_map.mpr ⟨p, hs p (pm.mem_iff.mp hp), e⟩
        have my : y ∈ ps.map (·.2) := by
          obtain ⟨p, hp, e⟩ := List.mem_map.mp hy
          exact List.mem_map.mpr ⟨p, hs p (pm.mem_iff.mp hp), e⟩
        have ne : kcode x ≠ kcode y := fun e => h.2 (keys_inj c x mx y my e)
        omega)
      have rr := of_refs (w := { w1 with H := upd w1.H t (SetTO X.prog X.w t L) }) (ps := L') fun p hp => hL p (pm.mem_iff.mp hp)
      rw [ek] at rr
      exact newL_ok (w := { w1 with H := upd w1.H t (SetTO X.prog X.w t L) }) (l2.ext (Ext.new ht)) (k1.new ht) rr ht2
    · rw [if_neg c] at l2; exact l2.elim
/-- len(set(x)), ints -/
theorem cr_lenSetO : CallR X (.builtin "len") (fun vs H Q => ∃ (a : Addr) (S : Int → Bool) (n : Nat), vs = [V.ref a] ∧ H a = some (SetO X.w a S n) ∧ Q (.int n) H) := by
  intro pins s sg H xs us Q I r h
  obtain ⟨a, S, n, rfl, ha, qq⟩ := h
  rw [Vals.ref1 r]
  obtain ⟨o, es, ep, t, ho, hex, hd, _, _, _, hb, hf, hn, _⟩ := setO_get I ha
  exact call_len_set ho hex hd hf (by unfold scanBound at hb; omega) ⟨.int n, H, I.tok _, ⟨_, by rw [hn]⟩, qq⟩
theorem se_lSetI (hc : X.calm = true) (hg : Gl X "len") (hm : X.mg "len" = none) (hg2 : Gl X "set") (hm2 : X.mg "set" = none) (ha : SE X E a ma)
    (na : starEach [a] X.env = (false, eval a X.env) :: starEach [] X.env := by rfl) : SE X E (.Call (.Name "len" p) [.Call (.Name "set" p2) [a] [] q] [] pos) (una lSetI ma) := by
  refine ⟨fun pins s sg H Q I h => (pe_callB cr_lenSetO hg hm bt_len (pa_cons (pe_callTy (cr_setI hc) hg2 hm2 bt_set (pa_cons ha pa_nil na) (he := na)) pa_nil)).run pins s sg H Q I ?_⟩
  obtain ⟨w, env, rfl, k, r, l⟩ := h
  refine ⟨w, env, rfl, k, r, lead_bind l fun w1 v u k1 x1 r1 l1 => ?_⟩
  obtain ⟨pp, ys, us, rfl, hq, r2, l2⟩ := itemsS_ok (K := X.K) k1 r1 l1
  cases e1 : intsOf ys with
  | none => simp only [e1] at l2; exact l2.elim
  | some ns =>
    simp only [e1] at l2
    by_cases c : ns.length ≤ 1000
    · rw [if_pos c] at l2
      obtain ⟨ev, _⟩ := intsOf_ok e1 r2
      subst ev
      refine ⟨pp, ns, rfl, hq, c, fun t ht => ?_⟩
      exact ⟨t, _, _, rfl, upd_same, lead_ok (w := { w1 with H := upd w1.H t _ }) (l2.ext (Ext.new ht)) (k1.new ht) (by simp only [RV])⟩
    · rw [if_neg c] at l2; exact l2.elim
end
end Mi

set_option Elab.async false
set_option linter.all false
set_option maxRecDepth 100000
set_option maxHeartbeats 4000000
/-! Mini, part N: the end, from the law's mini meaning at the script. -/
namespace Mi
open PySem PySem.Spec PyProof.Rows L2

def isList (o : Obj) : Bool := match o.cls with
  | .type t => t == "list"
  | _ => false
def noList (K : PySem.W.Frag) : Bool := K.all fun p => !isList p.2
theorem lookup_mem {K : PySem.W.Frag} {a : Addr} {o : Obj} (h : K.lookup a = some o) : ∃ p ∈ K, p.2 = o := by
  induction K with
  | nil => cases h
  | cons p r ih =>
    obtain ⟨b, x⟩ := p
    rw [List.lookup_cons] at h
    split at h
    · exact ⟨(b, x), List.mem_cons_self, Option.some.inj h⟩
    · obtain ⟨q, hq, e⟩ := ih h; exact ⟨q, by simp [hq], e⟩
theorem noList_at {K : PySem.W.Frag} (h : noList K = true) {a : Addr} {o : Obj} (e : o.cls = .type "list") : K.lookup a ≠ some o := fun z => by
  obtain ⟨p, hp, e2⟩ := lookup_mem z
  have := List.all_eq_true.mp h p hp
  rw [e2] at this
  unfold isList at this
  rw [e] at this
  simp at this
def Says (m : List MV → M MV) (n : Nat) : Prop := ∀ ns : List Int, ns.length ≤ n → ∃ h', m [.scr (ns.map .int)] [] = .ok (.bl true) h'
theorem says_run [Gb] {m : List MV → M MV} {n : Nat} {cv : Nat → Value} (L : Says m n) {H : Hp} {a : Addr} {o : Obj} {ns : List Int} (hl : ns.length ≤ n) (ha : H a = some (.frz o (.lst (ns.map V.int)))) (ht : LamX.Tabs Gb.T H) :
    spM cv m [.ref a] H (fun v _ => v = .bl true) fun _ _ _ => False := by
  obtain ⟨h', e⟩ := L ns hl
  refine ⟨⟨[], [], H⟩, [.scr (ns.map .int)], rfl, ⟨rfl, fun i o a h => by simp at h, fun i j _ _ _ h => by simp at h, ht⟩, RVs.cons ?_ RVs.nil, ?_⟩
  · simp only [RV]; exact ⟨a, o, _, rfl, ha, rvs_ints ns⟩
  · show Lead _ (m _ []) _ _
    rw [e]
    exact fun w' b _ _ _ r => by simpa only [RV] using r
/-- what the program's top says of the tables of code objects, and what is to be shown of the law -/
structure Last (P : Program) (w : World) (K : PySem.W.Frag) (mg : Str → Option Value) (k : Nat) (fa : Addr) (m : List MV → M MV) (h : Heap) where
  gb : Gb
  cv : Nat → Value
  cs : List (Addr × Addr)
  hT : ∀ p ∈ cs, h.get? p.2 = some { cls := .none, data := .fields #[] }
  nT : ∀ p ∈ cs, K.lookup p.2 = none
  C : ∀ p ∈ cs, PySem.W.CodeHd h p.1 p.2
  inT : ∀ q ∈ gb.T, q.1 ∈ cs.map (·.2)
  F : ∀ base : Heap, K.In base → base.Ns mainGlobals mg → (∀ p ∈ cs, LamX.TabB base mg p.1 p.2) → @FnS gb P w K mg base cv k fa m
theorem law_end {P : Program} {w : World} {K : PySem.W.Frag} {mg mb : Str → Option Value} {k n : Nat} {fa a : Addr} {m : List MV → M MV} {s₁ : Shared} {vs : List Value} {ns : List Int}
    (inK : K.In s₁.heap) (nsG : s₁.heap.Ns mainGlobals mg) (nsB : s₁.heap.Ns builtinsNs mb) (isB : ∀ x : Str, x ≠ "__name__" → mb x = bootBuiltins x) (lim : s₁.heap.NoLimit) (gens : s₁.gens = #[])
    (hbm : ∃ (bm : Addr) (ob : Obj), mg "__builtins__" = some (.ref bm) ∧ bm ≠ builtinsNs ∧ s₁.heap.get? bm = some ob ∧ ob.cls = .type "module" ∧ ob.dict = some builtinsNs ∧ ob.data = .plain)
    (atA : s₁.heap.get? a = some { cls := .type "list", data := .seq vs.toArray }) (isI : IntsAre vs ns) (hl : ns.length ≤ n) (hn : n ≤ sizeLine) (room : Room k callerA) (nl : noList K = true)
    (Z : Last P w K mg k fa m s₁.heap) (L : Says m n) :
    codeAny (model P w) callerA (.call (.ref fa) ⟨[.ref a], []⟩) (fun r s' => r = .ok (.ret (.bool true)) ∧ OldK s₁.heap s'.heap ∧ s'.os = s₁.os ∧ AllBare s'.gens) s₁ := by
  obtain ⟨gb, cv, cs, hT, nT, C, inT, F⟩ := Z
  have noA : K.lookup a = none := by
    cases q : K.lookup a with
    | none => rfl
    | some o =>
      have e := inK a o q
      rw [atA] at e; cases e
      exact absurd q (noList_at nl rfl)
  have isT : ∀ b : Addr, b ∈ cs.map (·.2) → s₁.heap.get? b = some { cls := .none, data := .fields #[] } := fun b hb => by
    obtain ⟨p, hp, e⟩ := List.mem_map.mp hb
    rw [← e]
    exact hT p hp
  have aT : a ∉ cs.map (·.2) := fun z => by
    have q := isT a z
    rw [atA] at q
    have z' : Data.seq vs.toArray _ = Data.fields #[] := congrArg Obj.data (Option.some.inj q)
    cases z'
  have memT : ∀ p ∈ cs, p.2 ∈ cs.map (·.2) := fun p hp => List.mem_map.mpr ⟨p, hp, rfl⟩
  -- the script and the tables alone are known
  generalize hH : (fun b => if b = a then some (.frz { cls := .type "list", data := .seq vs.toArray } (.lst (ns.map V.int))) else if b ∈ cs.map (·.2) then some (.tbl #[]) else none : Hp) = H
  have atH : H a = some (.frz { cls := .type "list", data := .seq vs.toArray } (.lst (ns.map V.int))) := by rw [← hH]; exact if_pos rfl
  have tbH : ∀ b, b ∈ cs.map (·.2) → H b = some (.tbl #[]) := fun b hb => by
    rw [← hH]
    exact (if_neg (fun z : b = a => aT (by rw [← z]; exact hb))).trans (if_pos hb)
  have offH : ∀ b, b ≠ a → b ∉ cs.map (·.2) → H b = none := fun b hb h2 => by rw [← hH]; exact (if_neg hb).trans (if_neg h2)
  have ok : HOk P w H s₁.heap := fun b u z => by
    by_cases hb : b = a
    · subst hb
      rw [atH] at z; cases z
      exact ⟨atA, by rw [List.length_map]; exact Nat.le_trans hl hn, vs, _, vals_ints isI, atA⟩
    · by_cases h2 : b ∈ cs.map (·.2)
      · rw [tbH b h2] at z; cases z
        exact isT b h2
      · rw [offH b hb h2] at z; cases z
  have away : ∀ {b : Addr} {o : Obj}, s₁.heap.get? b = some o → (∀ vs n, o.data ≠ .seq vs n) → o.data ≠ .fields #[] → H b = none := fun {b o} e h1 h2 => by
    refine offH b (fun hb => ?_) fun hb => ?_
    · subst hb
      rw [atA] at e; cases e
      exact h1 _ _ rfl
    · rw [isT b hb] at e; cases e
      exact h2 rfl
  have awayD : ∀ {b : Addr} {o : Obj} {es : Array DictEntry} {ep : Nat}, s₁.heap.get? b = some o → o.data = .dict es ep → H b = none := fun {b o es ep} e d => away e (fun vs n z => by rw [d] at z; cases z) fun z => by rw [d] at z; cases z
  have hid : ∀ {b : Addr} {x : Str → Option Value}, s₁.heap.Ns b x → (hidT s₁.heap H).Ns b x := fun {b x} ⟨o, es, ep, e, d, r⟩ => ⟨o, es, ep, hidT_get e (awayD e d), d, r⟩
  have inB : K.In (hidT s₁.heap H) := fun b o e => hidT_get (inK b o e) (offH b (fun hb => by subst hb; rw [noA] at e; cases e) fun hb => by
    obtain ⟨p, hp, ep⟩ := List.mem_map.mp hb
    rw [← ep, nT p hp] at e
    cases e)
  have md : Mod K mg (hidT s₁.heap H) := ⟨inB, hid nsG, ⟨mb, hid nsB, isB⟩, let ⟨x, h1, h2⟩ := lim; ⟨x, hid h1, h2⟩⟩
  have none0 : ∀ b, b ∉ frs [] := fun b z => absurd (show b ∈ ([] : List Addr) from z) (by simp)
  have TB : ∀ p ∈ cs, LamX.TabB (hidT s₁.heap H) mg p.1 p.2 := fun p hp => by
    have hTp := hT p hp
    refine ⟨?_, ?_, fun z => ?_⟩
    · obtain ⟨o, us, file, tf, flags, tg, inF, text, tt, e1, r1, r2, r3, r4, r5, r6, r7, r8, hne⟩ := C p hp
      refine ⟨o, us, file, tf, flags, tg, inF, text, tt, hidT_get e1 (away e1 (fun vs n z => ?_) fun z => ?_), r1, r2, r3, r4, r5, r6, r7, r8, hne⟩
      · rw [r2] at z
        cases z
      · rw [r2] at z
        cases z
        simp at r3
    · obtain ⟨bm, ob, b1, b2, b3, b4, b5, b6⟩ := hbm
      have nG : bm ≠ mainGlobals := fun q => by
        obtain ⟨o, es, ep, e, hd, _⟩ := nsG
        rw [q, e] at b3
        cases b3
        rw [hd] at b6
        cases b6
      have nP : bm ≠ p.2 := fun q => by
        rw [q, hTp] at b3
        cases b3
        cases b6
      refine ⟨bm, ob, b1, b2, nG, nP, hidT_get b3 (away b3 (fun vs n z => ?_) fun z => ?_), b4, b5, b6⟩
      · rw [b6] at z
        cases z
      · rw [b6] at z
        cases z
    · obtain ⟨o, es, ep, e, hd, _⟩ := nsG
      rw [z, hTp] at e
      cases e
      cases hd
  have e0 : Env0 P w K mg (hidT s₁.heap H) callerA [] s₁ H := ⟨rfl, md, fun b o e => of_hidT e, Nat.le_of_eq (hidT_size _ _), trivial, fun b hb => absurd hb (none0 b), ok, .of_eq gens⟩
  have tabs : @LamX.Tabs gb.T H := fun q hq => LamX.TabS.nil (tbH q.1 (inT q hq))
  refine codeAny_mono ((F _ inB (hid nsG) TB).run callerA [] s₁ H [.ref a] [.ref a] _ _ room rfl e0 (.cons rfl .nil) (@says_run gb m n cv L H a _ ns hl atH tabs)) fun r s' h => ?_
  cases r with
  | error e =>
    obtain ⟨_, _, _, _, _, _, _, _, _, _, _, _, z⟩ := h
    exact False.elim z
  | ok fl =>
    cases fl with
    | next => exact False.elim h
    | brk => exact False.elim h
    | cont => exact False.elim h
    | ret u =>
      obtain ⟨v, H', os, bare, un, ok', rv, q⟩ := h
      have q : v = .bl true := q
      subst q
      obtain rfl : u = Value.bool true := rv
      have key : ∀ b o, b ∉ cs.map (·.2) → s₁.heap.get? b = some o → s'.heap.get? b = some o := fun b o nb e => by
        by_cases hb : b = a
        · subst hb
          obtain ⟨e1, _⟩ := ok b _ atH
          obtain ⟨e2, _⟩ := ok' b _ (un.frzs b _ _ atH)
          rw [e] at e1; cases e1
          exact e2
        · exact un.keep b o e (offH b hb nb) (none0 b) (by simp)
      have grown : ∀ p ∈ cs, ∃ more : Array Value, s'.heap.get? p.2 = some { cls := .none, data := .fields more } := fun p hp => by
        obtain ⟨more, z⟩ := un.tbls p.2 #[] (tbH p.2 (memT p hp))
        exact ⟨_, ok' p.2 _ z⟩
      refine ⟨rfl, ⟨fun b o e => ?_, fun b o e => ?_⟩, os, bare⟩
      · by_cases hb : b ∈ cs.map (·.2)
        · obtain ⟨p, hp, ep⟩ := List.mem_map.mp hb
          obtain ⟨more, hm⟩ := grown p hp
          rw [← ep] at e ⊢
          rw [hT p hp] at e
          cases e
          exact .inr (.inl ⟨((C p hp).tab (hT p hp)).isCodeTable, rfl, #[], more, rfl, by rw [Array.empty_append]; exact hm⟩)
        · exact .inl (key b o hb e)
      · by_cases hb : b ∈ cs.map (·.2)
        · obtain ⟨p, hp, ep⟩ := List.mem_map.mp hb
          obtain ⟨more, hm⟩ := grown p hp
          rw [← ep]
          exact ⟨_, hm⟩
        · exact ⟨o, key b o hb e⟩
theorem walk_mi {l : PySem.W.OpenLaw} {n k : Nat} {q : Program} {loose : List Str} {XP : (Str → Option Value) → Heap → Prop} {YP : World → Heap → Prop} {d : DefRec} {K : Params → PySem.W.Frag} {m : List MV → M MV}
    (hn : l.most = some n) (hn2 : n ≤ sizeLine) (hdf : d.params.defaults = []) (room : Room k callerA) (hY : ∀ (w : World) (h : Heap), YP w h → (K w.params).In h) (nl : ∀ p, noList (K p) = true)
    (F : ∀ (w : World) (mg : Str → Option Value) (fa : Addr) (h : Heap), (K w.params).In h → h.Ns mainGlobals mg → mg d.name = some (.ref fa) →
      (∀ (x : Str) (d' : DefRec) (c P : Addr), (recsOf q).find? (fun e => e.name == x) = some d' → PySem.W.tabIn (K w.params) x = some (c, P) → PySem.W.CodeHd h c P ∧ h.get? P = some { cls := .none, data := .fields #[] }) →
      Nonempty (Last l.prog w (K w.params) mg k fa m h))
    (L : Says m n) : PySem.W.WalkO q loose XP YP l.row.toRowW d [] (fun f vs => PySem.call f vs) := by
  refine Att.attach_call hn hdf fun w s₀ s₁ mg mb fa o pm cd doc a vs ns G Y ho hd hcd hmg hobj hints hlen hg => ?_
  have inK := hY w _ Y
  obtain ⟨Z⟩ := F w mg fa _ inK G.T.g hmg fun x d' c P hr ht => PySem.W.tab_of G.T inK hr ht
  exact law_end inK G.T.g G.T.b G.T.builtins G.T.nolimit hg G.T.bmain hobj hints hlen hn2 room (nl _) Z L
end Mi

set_option Elab.async false
set_option linter.all false
set_option maxRecDepth 100000
set_option maxHeartbeats 4000000
/-! Mini, part O: what the printed derivations lean on besides. -/
namespace Mi
open PySem PySem.Spec PyProof.Rows L2
variable [Gb]
theorem u0 {A : Around} {k : Nat} (hr : Room k A) : A.units < cLine := by have := hr.un; omega
theorem u64 {A : Around} {k : Nat} (hr : Room k A) : A.units + 64 < cLine := by have := hr.un; omega
theorem u65 {A : Around} {k : Nat} (hr : Room k A) : A.units + 65 < cLine := by have := hr.un; omega

/-! ### a cell is made a value ahead of a row of statements -/
def sFrz (n i : Nat) : SM := fun env => match env[i]? with
  | some (some v) => (frz n v).bind fun v' => M.pure (.nx (env.set i (some v')))
  | _ => M.stuck
section
variable {X : Cx} {E : EW} {sts : List Stmt} {mb : SM} {a b c : Expr} {ma mb' mc : EM} {pos : Pos}
theorem sb_ghost {n i : Nat} (h : SB X E sts mb) : SB X E sts (sSeq (sFrz n i) mb) := by
  refine ⟨fun pins s sg H D I hh => h.run pins s sg H D I ?_⟩
  obtain ⟨w, env, rfl, k, r, l⟩ := hh
  unfold sSeq sFrz M.bind at l
  cases q : env[i]? with
  | none => simp only [q] at l; exact l.elim
  | some o =>
    cases o with
    | none => simp only [q] at l; exact l.elim
    | some v =>
      simp only [q] at l
      obtain ⟨u, e1, e2⟩ := r.get i v q
      rcases frz_sp n w v u k e2 with e | ⟨w2, v2, e, eH, k2, x2, r2⟩
      · simp only [e] at l; exact l.elim
      · simp only [e] at l
        have l2 : LeadF w (mb (env.set i (some v2)) w2.h) D E := l
        have es : sg.set i (some u) = sg := by
          apply List.ext_getElem?
          intro j
          by_cases hj : i = j
          · subst hj
            rw [List.getElem?_set_self (List.getElem?_eq_some_iff.mp e1).1, e1]
          · rw [List.getElem?_set_ne hj]
        have r3 := (r.ext k x2).set i r2
        rw [es] at r3
        exact ⟨w2, env.set i (some v2), eH, k2, r3, l2.ext x2⟩

/-! ### x in y -/
def inC (neg : Bool) (a b : MV) : M MV := match a, b with
  | .str x, .str y => M.pure (.bl (if neg then !(!(Builtin.Str.occurrences y x 0 y.length 1).isEmpty) else !(Builtin.Str.occurrences y x 0 y.length 1).isEmpty))
  | a, b => if flatM a then inM neg a b else inD neg a b
theorem inC_run {neg : Bool} {w : Wd} {a b : MV} {Q : VK} (l : Lead w (inC neg a b w.h) Q E) : Lead w (inM neg a b w.h) Q E ∨ Lead w (inD neg a b w.h) Q E := by
  unfold inC at l
  split at l
  · left; exact l
  · split at l
    · exact .inl l
    · exact .inr l
theorem or_inC (hu : X.A.units + 65 < cLine) : OpR X (compareOp .In) (opR E (inC false)) := by
  intro pins s sg H x y v u Q I rx ry h
  obtain ⟨w, a, b, rfl, k, ra, rb, l⟩ := h
  rcases inC_run l with l | l
  · exact or_in pins s sg w.H x y v u Q I rx ry ⟨w, a, b, rfl, k, ra, rb, l⟩
  · exact or_inD hu pins s sg w.H x y v u Q I rx ry ⟨w, a, b, rfl, k, ra, rb, l⟩
theorem or_notinC (hu : X.A.units + 65 < cLine) : OpR X (compareOp .NotIn) (opR E (inC true)) := by
  intro pins s sg H x y v u Q I rx ry h
  obtain ⟨w, a, b, rfl, k, ra, rb, l⟩ := h
  rcases inC_run l with l | l
  · exact or_notin pins s sg w.H x y v u Q I rx ry ⟨w, a, b, rfl, k, ra, rb, l⟩
  · exact or_notinD hu pins s sg w.H x y v u Q I rx ry ⟨w, a, b, rfl, k, ra, rb, l⟩
end
end Mi

set_option Elab.async false
set_option linter.all false
set_option maxRecDepth 100000
set_option maxHeartbeats 4000000
/-! Mini, part P: a chain as a test, a tuple times any int. -/
namespace Mi
open PySem PySem.Spec PyProof.Rows L2
variable [Gb]
section
variable {X : Cx} {E : EW} {a b c : Expr} {ma mb mc : EM} {pos : Pos}
theorem chain_of {f g : MV → MV → M MV} {sg : L2.St} {H : Hp} {Q : VK} (h : tM E (chn f g ma mb mc) sg H Q) : tChain (opR E f) (opR E g) (tM E ma) (tM E mb) (tM E mc) sg H Q := by
  obtain ⟨w, env, rfl, k, r, l⟩ := h
  refine ⟨w, env, rfl, k, r, lead_bind l fun w1 x u k1 x1 r1 l1 => ?_⟩
  refine ⟨w1, env, rfl, k1, r.ext k x1, lead_bind l1 fun w2 y v k2 x2 r2 l2 => ?_⟩
  refine ⟨w2, x, y, rfl, k2, RV.ext k1 x2 _ _ r1, r2, lead_bind l2 fun w3 z z' k3 x3 r3 l3 => ?_⟩
  cases z with
  | bl d =>
    simp only [RV] at r3
    refine ⟨d, r3, ?_⟩
    cases d with
    | true =>
      rw [if_pos rfl]
      refine ⟨w3, env, rfl, k3, ((r.ext k x1).ext k1 x2).ext k2 x3, lead_bind l3 fun w4 q q' k4 x4 r4 l4 => ?_⟩
      exact ⟨w4, y, q, rfl, k4, RV.ext k3 x4 _ _ (RV.ext k2 x3 _ _ r2), r4, l4⟩
    | false =>
      rw [if_neg (by decide)]
      exact lead_ok l3 k3 (by simp only [RV])
  | _ => exact l3.elim
theorem st_chain {op op' : CmpOp} {f g : MV → MV → M MV} (ho : OpR X (compareOp op) (opR E f)) (ho' : OpR X (compareOp op') (opR E g)) (ha : SE X E a ma) (hb : SE X E b mb) (hc : SE X E c mc)
    (hm : lastMarks [op, op'] [b, c] = false := by with_unfolding_all rfl) : ST X E (.Compare a [op, op'] [b, c] pos) (tst (chn f g ma mb mc)) := by
  refine ⟨fun pins s sg H Q I h => (pt_chain ho ho' ha hb hc hm).run pins s sg H Q I ?_⟩
  exact chain_of (test_of h)
end
/-! ### tuple * int -/
theorem tmul_same (l : Addr) (vs : Array Value) (n : Nat) (dd : Option Addr) (sl : Array (Option Value)) (x : Int) (u : Tok) (c0 : (decide (x < -(2 ^ 63)) || decide (x ≥ 2 ^ 63)) = false) (c1 : (vs.isEmpty || x == 1) = true) :
    Meets (Builtin.«tuple.__mul__» ⟨[.ref l, .int x u], []⟩) (fun _ R s => s.heap.get? l = some { cls := .type "tuple", dict := dd, data := .seq vs n, slots := sl } ∧ R (.ok (.ret (Value.ref l))) s) :=
  .of_wp fun prog w A R s h => by
    obtain ⟨hp, g, d, tk, os⟩ := s
    obtain ⟨hl, h⟩ := h
    have f1 := AutoSeq1.idx_int
    wp_walk using wpAny_loadPart' hl
    repeat (first
      | (refine wpAny_ite_false (decide_eq_false (by rw [c0]; decide)) ?_; wp_walk using wpAny_loadPart' hl)
      | (refine wpAny_ite_true (decide_eq_true c1) ?_; wp_walk using wpAny_loadPart' hl))
    exact ⟨_, rfl, h⟩
theorem tmul_none (l : Addr) (vs : Array Value) (n : Nat) (dd : Option Addr) (sl : Array (Option Value)) (x : Int) (u : Tok) (c0 : (decide (x < -(2 ^ 63)) || decide (x ≥ 2 ^ 63)) = false) (c1 : (vs.isEmpty || x == 1) = false) (c2 : (decide (x ≤ 0) || vs.isEmpty) = true) :
    Meets (Builtin.«tuple.__mul__» ⟨[.ref l, .int x u], []⟩) (fun _ R s => s.heap.get? l = some { cls := .type "tuple", dict := dd, data := .seq vs n, slots := sl } ∧
      R (.ok (.ret (Value.ref s.heap.objs.size))) { s with heap := s.heap.push { cls := Value.type "tuple", data := Data.seq #[] } }) :=
  .of_wp fun prog w A R s h => by
    obtain ⟨hp, g, d, tk, os⟩ := s
    obtain ⟨hl, h⟩ := h
    have f1 := AutoSeq1.idx_int
    wp_walk using wpAny_loadPart' hl
    repeat (first
      | (refine wpAny_ite_false (decide_eq_false (by rw [c0]; decide)) ?_; wp_walk using wpAny_loadPart' hl)
      | (refine wpAny_ite_false (decide_eq_false (by rw [c1]; decide)) ?_; wp_walk using wpAny_loadPart' hl)
      | (refine wpAny_ite_true (decide_eq_true c2) ?_; wp_walk using wpAny_loadPart' hl))
    exact ⟨_, rfl, h⟩
/-- a tuple times an int -/
def mulT : MV → MV → M MV
  | .tup xs, .int j => if decide (j ≤ 1000 ∧ -1000 ≤ j ∧ xs.length ≤ 1000) then M.pure (.tup (List.replicate j.toNat xs).flatten) else M.stuck
  | _, _ => M.stuck
section
variable {X : Cx} {E : EW}
theorem or_mulT : OpR X (binaryOp .Mult) (opR E mulT) := by
  intro pins s sg H x y v u Q I rx ry h
  obtain ⟨w, a, b, rfl, k, ra, rb, l⟩ := h
  cases a with
  | tup xs =>
    cases b with
    | int j =>
      have l : Lead w ((if decide (j ≤ 1000 ∧ -1000 ≤ j ∧ xs.length ≤ 1000) = true then M.pure (MV.tup (List.replicate j.toNat xs).flatten) else M.stuck) w.h) Q E := l
      by_cases z : decide (j ≤ 1000 ∧ -1000 ≤ j ∧ xs.length ≤ 1000) = true
      · rw [if_pos z] at l
        have z := of_decide_eq_true z
        by_cases two : xs ≠ [] ∧ 2 ≤ j
        · refine or_mul (E := E) (mt := false) pins s sg w.H x y v u Q I rx ry ⟨w, .tup xs, .int j, rfl, k, ra, rb, ?_⟩
          show Lead w ((if (!xs.isEmpty && decide (2 ≤ j ∧ j ≤ 1000 ∧ xs.length ≤ 1000)) = true then M.pure (MV.tup (List.replicate j.toNat xs).flatten) else M.stuck) w.h) Q E
          have q : (!xs.isEmpty && decide (2 ≤ j ∧ j ≤ 1000 ∧ xs.length ≤ 1000)) = true := by
            rw [Bool.and_eq_true, Bool.not_eq_true', List.isEmpty_eq_false_iff, decide_eq_true_iff]
            exact ⟨two.1, two.2, z.1, z.2.2⟩
          rw [if_pos q]; exact l
        · rw [rv_int rb] at ry
          obtain ⟨t, rfl⟩ := ry
          have ra0 := ra
          simp only [RV] at ra
          obtain ⟨p, us, rfl, h1, r1⟩ := ra
          cases rx
          obtain ⟨its, r, ⟨⟨cls, dd, data, sl⟩, ho, hc, n, hd⟩, hs⟩ := I.tuple (SqT.of h1)
          simp only at hc hd
          subst hc hd
          have hle : its.length = xs.length := by rw [← r.length, r1.length]
          have c0 : (decide (j < -(2 ^ 63)) || decide (j ≥ 2 ^ 63)) = false := by
            rw [decide_eq_false (by omega), decide_eq_false (by omega)] <;> rfl
          have ret0 : its.toArray.isEmpty = xs.isEmpty := by
            cases its with
            | nil => cases xs with
              | nil => rfl
              | cons _ _ => simp at hle
            | cons _ _ => cases xs with
              | nil => simp at hle
              | cons _ _ => rfl
          cases c1 : (its.toArray.isEmpty || j == 1) with
          | true =>
            have same : (List.replicate j.toNat xs).flatten = xs := by
              rw [ret0, Bool.or_eq_true] at c1
              rcases c1 with c1 | c1
              · rw [List.isEmpty_iff] at c1; subst c1
                simp
              · rw [beq_iff_eq] at c1; subst c1; simp
            rw [same] at l
            refine wpAny_binaryOp_repeat_ref (T := "tuple") (U := "int") (by decide) ⟨_, ho, rfl⟩ (fun s' => typeIs_int s' j t) noFill_tuple_mul F.fills_int_mul F.slot_int_rmul repeat_tuple F.slot_int_index.lookup
              (call_meets F.slot_int_rmul (typeIs_int s j t) F.entry_int_rmul (F.args_int_rmul_2 _ _) (int_rmul_tuple j t p its.toArray n dd sl) ⟨ho, rfl, ⟨_, ho, rfl⟩,
                call_meets F.slot_tuple_mul ⟨_, ho, rfl⟩ F.entry_tuple_mul (F.args_tuple_mul_2 _ _) (tmul_same p its.toArray n dd sl j t c0 c1) ⟨ho, ?_⟩⟩)
            exact ⟨.ref p, w.H, I, rfl, lead_ok l k ra0⟩
          | false =>
            have ne : xs ≠ [] := fun e => by rw [ret0, e] at c1; simp at c1
            have j1 : j ≠ 1 := fun e => by rw [e] at c1; simp at c1
            have c2 : (decide (j ≤ 0) || its.toArray.isEmpty) = true := by
              have : j ≤ 0 := by
                by_cases q : 2 ≤ j
                · exact absurd ⟨ne, q⟩ two
                · omega
              simp [this]
            have zero : (List.replicate j.toNat xs).flatten = [] := by
              have : j.toNat = 0 := by
                by_cases q : 2 ≤ j
                · exact absurd ⟨ne, q⟩ two
                · omega
              rw [this]; rfl
            rw [zero] at l
            refine wpAny_binaryOp_repeat_ref (T := "tuple") (U := "int") (by decide) ⟨_, ho, rfl⟩ (fun s' => typeIs_int s' j t) noFill_tuple_mul F.fills_int_mul F.slot_int_rmul repeat_tuple F.slot_int_index.lookup
              (call_meets F.slot_int_rmul (typeIs_int s j t) F.entry_int_rmul (F.args_int_rmul_2 _ _) (int_rmul_tuple j t p its.toArray n dd sl) ⟨ho, rfl, ⟨_, ho, rfl⟩,
                call_meets F.slot_tuple_mul ⟨_, ho, rfl⟩ F.entry_tuple_mul (F.args_tuple_mul_2 _ _) (tmul_none p its.toArray n dd sl j t c0 c1 c2) ⟨ho, ?_⟩⟩)
            have hn : w.H s.heap.objs.size = none := I.hok.fresh (Nat.le_refl _)
            refine ⟨.ref s.heap.objs.size, _, I.laid (t' := s.toks) (o := .tup []) (fun b ob q => Heap.get?_push_of_some _ q) (Nat.le_refl _) ⟨by simp, _, .nil, IsTup.new _ _⟩, rfl, newT_ok l k RVs.nil hn⟩
      · rw [if_neg z] at l; exact l.elim
    | _ => exact l.elim
  | _ => exact l.elim
end
end Mi

set_option Elab.async false
set_option linter.all false
set_option maxRecDepth 100000
set_option maxHeartbeats 4000000
/-! Mini, part Q: zip of three, comprehension blocks. -/
namespace Mi
open PySem PySem.Spec PyProof.Rows L2
variable [Gb]
theorem blk_by {N N' : List Str} {sc sc' scope : Scope} {own : List (Str × Nat)} (e1 : N = N') (e2 : sc = sc') (h : blkC N' sc' scope own = true) : BlkOk N sc scope own := by
  subst e1 e2
  exact blkOk_by h

def It3 (k1 k2 k3 : Bool) (a b c : Addr) : It :=
  ⟨fun i H => ∃ (xs ys zs : List V) (x y z : V), SqH k1 H a xs ∧ SqH k2 H b ys ∧ SqH k3 H c zs ∧ xs[i]? = some x ∧ ys[i]? = some y ∧ zs[i]? = some z,
    fun i H v H' => ∃ T x y z, v = .ref T ∧ H T = none ∧ H' = upd H T (.tup [x, y, z]) ∧ (∀ xs, SqH k1 H a xs → xs[i]? = some x) ∧ (∀ ys, SqH k2 H b ys → ys[i]? = some y) ∧ ∀ zs, SqH k3 H c zs → zs[i]? = some z,
    fun i H => ∃ xs ys zs : List V, SqH k1 H a xs ∧ SqH k2 H b ys ∧ SqH k3 H c zs ∧ i ≤ xs.length ∧ i ≤ ys.length ∧ i ≤ zs.length ∧ (i = xs.length ∨ i = ys.length ∨ i = zs.length)⟩
abbrev fp3 (z TI TO i1 i2 i3 : Addr) : List Addr := [z, TI, TO, i1, i2, i3]
theorem sep3 {z TI TO i1 i2 i3 a b c : Addr} (D : (fp3 z TI TO i1 i2 i3).Nodup) (na : a ∉ fp3 z TI TO i1 i2 i3) (nb : b ∉ fp3 z TI TO i1 i2 i3) (nc : c ∉ fp3 z TI TO i1 i2 i3) : ZipSep3 z TI TO i1 i2 i3 [i1, a] [i2, b] [i3, c] := by
  simp only [fp3, List.nodup_cons, List.mem_cons, List.not_mem_nil, or_false, not_or, List.nodup_nil, and_true, not_false_eq_true] at D na nb nc
  obtain ⟨⟨d1, d2, d3, d4, d5⟩, ⟨d6, d7, d8, d9⟩, ⟨d10, d11, d12⟩, ⟨d13, d14⟩, d15⟩ := D
  obtain ⟨a1, a2, a3, a4, a5, a6⟩ := na
  obtain ⟨b1, b2, b3, b4, b5, b6⟩ := nb
  obtain ⟨c1, c2, c3, c4, c5, c6⟩ := nc
  have e1 : ¬ z = a := fun q => a1 q.symm
  have e2 : ¬ z = b := fun q => b1 q.symm
  have e3 : ¬ z = c := fun q => c1 q.symm
  have f1 : ¬ TO = a := fun q => a3 q.symm
  have f2 : ¬ TO = b := fun q => b3 q.symm
  have f3 : ¬ TO = c := fun q => c3 q.symm
  have g1 : ¬ i1 = b := fun q => b4 q.symm
  have g2 : ¬ i1 = c := fun q => c4 q.symm
  have g3 : ¬ i2 = a := fun q => a5 q.symm
  have g4 : ¬ i2 = c := fun q => c5 q.symm
  have g5 : ¬ i3 = a := fun q => a6 q.symm
  have g6 : ¬ i3 = b := fun q => b6 q.symm
  have h1 : ¬ i2 = i1 := fun q => d13 q.symm
  have h2 : ¬ i3 = i1 := fun q => d14 q.symm
  have h3 : ¬ i3 = i2 := fun q => d15 q.symm
  exact
    { TIz := fun q => d1 q.symm, TOz := fun q => d2 q.symm, TITO := d6, TIi1 := d7, mem1 := by simp, zf1 := by simp [d3, e1], Tf1 := by simp [d10, f1],
      TIi2 := d8, mem2 := by simp, zf2 := by simp [d4, e2], Tf2 := by simp [d11, f2],
      TIi3 := d9, mem3 := by simp, zf3 := by simp [d5, e3], Tf3 := by simp [d12, f3],
      sep1_2 := by simp [d13, g1], sep1_3 := by simp [d14, g2], sep2_1 := by simp [h1, g3], sep2_3 := by simp [d15, g4], sep3_1 := by simp [h2, g5], sep3_2 := by simp [h3, g6] }
theorem turn3 {P : Program} {w : World} {K : PySem.W.Frag} {k1 k2 k3 : Bool} {elts : List Expr} {kk : Nat} {tpos : Pos} {a b c z TI TO i1 i2 i3 : Addr} (D : (fp3 z TI TO i1 i2 i3).Nodup) :
    Turn P w K (.Tuple elts kk tpos) (It3 k1 k2 k3 a b c) (fp3 z TI TO i1 i2 i3) z (fun i h => IsZip h z TI TO .none ∧ IsTupOf3 h TI (.ref i1) (.ref i2) (.ref i3) ∧ (∃ x y u, IsTupOf3 h TO x y u) ∧ ItH k1 h i1 a i ∧ ItH k2 h i2 b i ∧ ItH k3 h i3 c i) where
  mem := by simp
  obj := fun i h st q hq => by
    obtain ⟨hz, hTI, ⟨x, y, u, hTO⟩, h1, h2, h3⟩ := st
    simp only [fp3, List.mem_cons, List.mem_nil_iff, or_false] at hq
    rcases hq with q | q | q | q | q | q
    · rw [q]; exact ⟨_, hz, fun v q => nomatch q⟩
    · rw [q]; exact ⟨_, hTI, fun v q => nomatch q⟩
    · rw [q]; exact ⟨_, hTO, fun v q => nomatch q⟩
    · rw [q]; exact h1.obj
    · rw [q]; exact h2.obj
    · rw [q]; exact h3.obj
  keep := fun i h h' st k => by
    obtain ⟨hz, hTI, ⟨x, y, u, hTO⟩, h1, h2, h3⟩ := st
    exact ⟨k z (by simp) _ hz, k TI (by simp) _ hTI, ⟨x, y, u, k TO (by simp) _ hTO⟩, h1.kept fun o q => k i1 (by simp) o q, h2.kept fun o q => k i2 (by simp) o q, h3.kept fun o q => k i3 (by simp) o q⟩
  item := by
    intro X hP hw hK hc i pins s sg H E I hf st hg
    subst hP hw hK
    obtain ⟨hz, hTI, ⟨x0, y0, u0, hTO⟩, h1, h2, h3⟩ := st
    obtain ⟨xs, ys, zs, x, y, t, hqx, hqy, hqz, hx, hy, ht⟩ := hg
    obtain ⟨its, rv, src⟩ := hqx.raw I
    obtain ⟨its2, rv2, src2⟩ := hqy.raw I
    obtain ⟨its3, rv3, src3⟩ := hqz.raw I
    have na : a ∉ fp3 z TI TO i1 i2 i3 := fun m => hqx.ne (hf a m).1
    have nb : b ∉ fp3 z TI TO i1 i2 i3 := fun m => hqy.ne (hf b m).1
    have nc : c ∉ fp3 z TI TO i1 i2 i3 := fun m => hqz.ne (hf c m).1
    have S := sep3 D na nb nc
    have l1 : its.toArray.size = xs.length := by rw [List.size_toArray]; exact rv.length.symm
    have l2 : its2.toArray.size = ys.length := by rw [List.size_toArray]; exact rv2.length.symm
    have l3 : its3.toArray.size = zs.length := by rw [List.size_toArray]; exact rv3.length.symm
    have D1 := draws_h (P := X.prog) (w := X.w) (kd := k1) (A := X.A.in1) (I.ok.hd hc) (fun e => na (by rw [e]; simp) : a ≠ i1) its.toArray
    have D2 := draws_h (P := X.prog) (w := X.w) (kd := k2) (A := X.A.in1) (I.ok.hd hc) (fun e => nb (by rw [e]; simp) : b ≠ i2) its2.toArray
    have D3 := draws_h (P := X.prog) (w := X.w) (kd := k3) (A := X.A.in1) (I.ok.hd hc) (fun e => nc (by rw [e]; simp) : c ≠ i3) its3.toArray
    have hzl : z < s.heap.objs.size := Heap.lt_size hz
    refine wpAny_pyNext_zipD3_item S D1 D2 D3 hz hTI hTO ⟨h1, src⟩ ⟨h2, src2⟩ ⟨h3, src3⟩ (by rw [l1]; exact (List.getElem?_eq_some_iff.mp hx).1) (by rw [l2]; exact (List.getElem?_eq_some_iff.mp hy).1) (by rw [l3]; exact (List.getElem?_eq_some_iff.mp ht).1)
      fun u u2 u3 h' tk hu hu2 hu3 z' TO' h1' h2' h3' hT hsz hk => ?_
    have rel : ∀ {us : List V} {vs : List Value} {e : V} {v : Value}, Vals us vs → us[i]? = some e → vs.toArray[i]? = some v → RelV e v := fun {us vs e v} rr he hv => by
      obtain ⟨v', e1, r'⟩ := rr.get he
      rw [List.getElem?_toArray, e1] at hv
      cases hv; exact r'
    have ru : RelV x u := rel rv hx hu
    have ru2 : RelV y u2 := rel rv2 hy hu2
    have ru3 : RelV t u3 := rel rv3 ht hu3
    refine ⟨_, rfl, wpAny_letOwnedTupleGo_zip (s := { s with heap := h', toks := tk }) z' fun h'' z'' sb => ?_⟩
    have hT2 : h''.get? s.heap.objs.size = some { cls := .type "tuple", data := .seq #[u, u2, u3] } := (sb.2 _ (Nat.ne_of_gt hzl)).trans hT
    have new : ObjOk X.prog X.w (upd H s.heap.objs.size (.tup [x, y, t])) h'' s.heap.objs.size (.tup [x, y, t]) :=
      ⟨by show 3 ≤ sizeLine; decide, [u, u2, u3], .cons ru (.cons ru2 (.cons ru3 .nil)), ⟨_, hT2, rfl, _, rfl⟩⟩
    have off : ∀ q, q ∉ fp3 z TI TO i1 i2 i3 → q ≠ z ∧ q ≠ TO ∧ q ≠ i1 ∧ q ≠ i2 ∧ q ≠ i3 := fun q hq => by
      simp only [fp3, List.mem_cons, List.not_mem_nil, or_false, not_or] at hq
      exact ⟨hq.1, hq.2.2.1, hq.2.2.2.1, hq.2.2.2.2.1, hq.2.2.2.2.2⟩
    have I1 : L2.Inv X pins sg (upd H s.heap.objs.size (.tup [x, y, t])) { s with heap := h'', toks := tk } :=
      I.turnedNew (t' := tk) (ch := fp3 z TI TO i1 i2 i3) (fun q o hq e => by
        obtain ⟨o1, o2, o3, o4, o5⟩ := off q hq
        exact (sb.2 q o1).trans (hk q o o1 o2 o3 o4 o5 e)) hf (Nat.le_refl _) new
    have S' := S
    have D' := D
    simp only [fp3, List.nodup_cons, List.mem_cons, List.not_mem_nil, or_false, not_or, List.nodup_nil, and_true, not_false_eq_true] at D'
    obtain ⟨⟨d1, d2, d3, d4, d5⟩, ⟨d6, d7, d8, d9⟩, ⟨d10, d11, d12⟩, ⟨d13, d14⟩, d15⟩ := D'
    refine ⟨.ref s.heap.objs.size, _, I1, rfl, ⟨_, x, y, t, rfl, I.hok.fresh (Nat.le_refl _), rfl, fun l hl => by rw [hl.inj I hqx]; exact hx, fun l hl => by rw [hl.inj I hqy]; exact hy, fun l hl => by rw [hl.inj I hqz]; exact ht⟩, ⟨z'', ?_, ⟨u, u2, u3, ?_⟩, ?_, ?_, ?_⟩, fun q hq => ?_⟩
    · exact (sb.2 _ fun q => d1 q.symm).trans (hk _ _ (fun q => d1 q.symm) d6 d7 d8 d9 hTI)
    · exact (sb.2 _ fun q => d2 q.symm).trans TO'
    · exact h1'.1.kept fun o q => (sb.2 _ fun q => d3 q.symm).trans q
    · exact h2'.1.kept fun o q => (sb.2 _ fun q => d4 q.symm).trans q
    · exact h3'.1.kept fun o q => (sb.2 _ fun q => d5 q.symm).trans q
    · have hlt : q < s.heap.objs.size := by
        have e' := hq
        simp only [fp3, List.mem_cons, List.mem_nil_iff, or_false] at e'
        rcases e' with q | q | q | q | q | q
        · rw [q]; exact hzl
        · rw [q]; exact Heap.lt_size hTI
        · rw [q]; exact Heap.lt_size hTO
        · rw [q]; obtain ⟨_, e1, _⟩ := h1.obj; exact Heap.lt_size e1
        · rw [q]; obtain ⟨_, e2, _⟩ := h2.obj; exact Heap.lt_size e2
        · rw [q]; obtain ⟨_, e3, _⟩ := h3.obj; exact Heap.lt_size e3
      rw [upd_ne (Nat.ne_of_lt hlt)]
      exact (hf q hq).1
  done := by
    intro X hP hw hK hc i pins s sg H E I hf st hg
    subst hP hw hK
    obtain ⟨hz, hTI, ⟨x0, y0, u0, hTO⟩, h1, h2, h3⟩ := st
    obtain ⟨xs, ys, zs, hqx, hqy, hqz, e1, e2, e3, hend⟩ := hg
    obtain ⟨its, rv, src⟩ := hqx.raw I
    obtain ⟨its2, rv2, src2⟩ := hqy.raw I
    obtain ⟨its3, rv3, src3⟩ := hqz.raw I
    have na : a ∉ fp3 z TI TO i1 i2 i3 := fun m => hqx.ne (hf a m).1
    have nb : b ∉ fp3 z TI TO i1 i2 i3 := fun m => hqy.ne (hf b m).1
    have nc : c ∉ fp3 z TI TO i1 i2 i3 := fun m => hqz.ne (hf c m).1
    have S := sep3 D na nb nc
    have l1 : its.toArray.size = xs.length := by rw [List.size_toArray]; exact rv.length.symm
    have l2 : its2.toArray.size = ys.length := by rw [List.size_toArray]; exact rv2.length.symm
    have l3 : its3.toArray.size = zs.length := by rw [List.size_toArray]; exact rv3.length.symm
    have D1 := draws_h (P := X.prog) (w := X.w) (kd := k1) (A := X.A.in1) (I.ok.hd hc) (fun e => na (by rw [e]; simp) : a ≠ i1) its.toArray
    have D2 := draws_h (P := X.prog) (w := X.w) (kd := k2) (A := X.A.in1) (I.ok.hd hc) (fun e => nb (by rw [e]; simp) : b ≠ i2) its2.toArray
    have D3 := draws_h (P := X.prog) (w := X.w) (kd := k3) (A := X.A.in1) (I.ok.hd hc) (fun e => nc (by rw [e]; simp) : c ≠ i3) its3.toArray
    have off : ∀ q, q ∉ fp3 z TI TO i1 i2 i3 → q ≠ z ∧ q ≠ TO ∧ q ≠ i1 ∧ q ≠ i2 ∧ q ≠ i3 := fun q hq => by
      simp only [fp3, List.mem_cons, List.not_mem_nil, or_false, not_or] at hq
      exact ⟨hq.1, hq.2.2.1, hq.2.2.2.1, hq.2.2.2.2.1, hq.2.2.2.2.2⟩
    refine wpAny_pyNext_zipD3_end S D1 D2 D3 hz hTI hTO ⟨h1, src⟩ ⟨h2, src2⟩ ⟨h3, src3⟩ (by rw [l1]; exact e1) (by rw [l2]; exact e2) (by rw [l3]; exact e3) (by rw [l1, l2, l3]; exact hend) fun h' tk hk => ⟨rfl, ?_⟩
    exact I.turnedL (t' := tk) (ch := fp3 z TI TO i1 i2 i3) (fun q o hq e => by
      obtain ⟨o1, o2, o3, o4, o5⟩ := off q hq
      exact hk q o o1 o2 o3 o4 o5 e) hf
  self := fun A i s Q E st h => wpAny_pyIter_zip st.1 h
def Y3 (f g h : Nat → Option V) (i : Nat) (H : Hp) (v : V) (H' : Hp) : Prop := ∃ T x y z, v = .ref T ∧ H T = none ∧ H' = upd H T (.tup [x, y, z]) ∧ f i = some x ∧ g i = some y ∧ h i = some z
theorem walk3 {k1 k2 k3 : Bool} {a b c : Addr} {xs ys zs : List V} {n : Nat} (hn : n = min xs.length (min ys.length zs.length)) :
    Walk (It3 k1 k2 k3 a b c) n (fun H => SqH k1 H a xs ∧ SqH k2 H b ys ∧ SqH k3 H c zs) (Y3 (fun i => xs[i]?) (fun i => ys[i]?) (fun i => zs[i]?)) where
  goes := fun i H hi h => ⟨xs, ys, zs, xs[i]'(by omega), ys[i]'(by omega), zs[i]'(by omega), h.1, h.2.1, h.2.2, List.getElem?_eq_getElem _, List.getElem?_eq_getElem _, List.getElem?_eq_getElem _⟩
  stops := fun H h => ⟨xs, ys, zs, h.1, h.2.1, h.2.2, by omega, by omega, by omega, by omega⟩
  yields := fun i H v H' hi h y => by
    obtain ⟨T, x, y, z, e, n, eH, hx, hy, hz⟩ := y
    exact ⟨T, x, y, z, e, n, eH, hx xs h.1, hy ys h.2.1, hz zs h.2.2⟩
def iZip3 (ta : TA) : TI := fun sg H R => ta sg H fun vs H1 => ∃ k1 k2 k3 a b c xs ys zs, vs = [.ref a, .ref b, .ref c] ∧ SqH k1 H1 a xs ∧ SqH k2 H1 b ys ∧ SqH k3 H1 c zs ∧ R (It3 k1 k2 k3 a b c) H1
theorem nodup3 (N : Nat) : (fp3 (N + 5) (N + 3) (N + 4) N (N + 1) (N + 2)).Nodup := by
  have nn : ∀ i j : Nat, i ≠ j → N + i ≠ N + j := fun i j h z => h (Nat.add_left_cancel z)
  have n0 : ∀ i : Nat, i ≠ 0 → N + i ≠ N := fun i h z => by omega
  have n1 : ∀ i : Nat, i ≠ 0 → N ≠ N + i := fun i h z => by omega
  simp only [fp3, List.nodup_cons, List.mem_cons, List.not_mem_nil, or_false, not_or, List.nodup_nil, and_true, not_false_eq_true]
  exact ⟨⟨nn 5 3 (by decide), nn 5 4 (by decide), n0 5 (by decide), nn 5 1 (by decide), nn 5 2 (by decide)⟩, ⟨nn 3 4 (by decide), n0 3 (by decide), nn 3 1 (by decide), nn 3 2 (by decide)⟩, ⟨n0 4 (by decide), nn 4 1 (by decide), nn 4 2 (by decide)⟩, ⟨n1 1 (by decide), n1 2 (by decide)⟩, nn 1 2 (by decide)⟩
theorem vals3 {x y z : V} {us : List Value} (r : Vals [x, y, z] us) : ∃ u v t, us = [u, v, t] ∧ RelV x u ∧ RelV y v ∧ RelV z t := by
  cases r with
  | cons a r =>
    cases r with
    | cons b r =>
      cases r with
      | cons c r =>
        cases r
        exact ⟨_, _, _, rfl, a, b, c⟩
theorem pi_zip3 {X : Cx} {e e2 e3 : Expr} {ta : TA} {p pos tpos : Pos} {elts : List Expr} {kk : Nat} (hg : Gl X "zip") (hm : X.mg "zip" = none) (ha : PA X [e, e2, e3] ta)
    (hs : starEach [e, e2, e3] X.env = (false, eval e X.env) :: starEach [e2, e3] X.env := by rfl) (hpl : (backTo pos (starEach [e2, e3] X.env)).any (·.1) = false := by rfl) :
    PI X (.Tuple elts kk tpos) (.Call (.Name "zip" p) [e, e2, e3] [] pos) (iZip3 ta) := by
  constructor
  intro pins s sg H R I h
  refine Call_ (ld_blt I hg hm PyProof.Rows.boot_zip (PyProof.Rows.callWith_type1 (thn (ha.run pos pins s sg H _ I h) fun us s1 ⟨vs, H1, I1, r1, q1⟩ => ?_) hs hpl))
  obtain ⟨k1, k2, k3, a, b, c, xs, ys, zs, rfl, hqx, hqy, hqz, q⟩ := q1
  obtain ⟨u, u2, u3, rfl, ra, rb, rc⟩ := vals3 r1
  cases ra
  cases rb
  cases rc
  obtain ⟨its, rv, src⟩ := hqx.raw I1
  obtain ⟨its2, rv2, src2⟩ := hqy.raw I1
  obtain ⟨its3, rv3, src3⟩ := hqz.raw I1
  refine zip_begins3 (begins_h (kd := k1) its.toArray) (begins_h (kd := k2) its2.toArray) (begins_h (kd := k3) its3.toArray) src src2 src3 fun h' hz hTI hTO h1 h2 h3 hsz hk => wpAny_pyIter_zip hz ?_
  have I2 : L2.Inv X pins sg H1 { s1 with heap := h' } := I1.kept (t' := s1.toks) hk
  have nd := nodup3 s1.heap.objs.size
  refine ⟨s1.heap.objs.size + 5, fp3 (s1.heap.objs.size + 5) (s1.heap.objs.size + 3) (s1.heap.objs.size + 4) s1.heap.objs.size (s1.heap.objs.size + 1) (s1.heap.objs.size + 2), _, _, H1, rfl, I2, turn3 nd, ⟨hz, hTI, ⟨_, _, _, hTO⟩, objH_is h1, objH_is h2, objH_is h3⟩, fun q hq => ?_, q⟩
  have hle : s1.heap.objs.size ≤ q := by
    simp only [fp3, List.mem_cons, List.mem_nil_iff, or_false] at hq
    rcases hq with z | z | z | z | z | z
    · rw [z]; exact Nat.le_add_right _ _
    · rw [z]; exact Nat.le_add_right _ _
    · rw [z]; exact Nat.le_add_right _ _
    · rw [z]; exact Nat.le_refl _
    · rw [z]; exact Nat.le_add_right _ _
    · rw [z]; exact Nat.le_add_right _ _
  exact I1.fpOk hle (I1.hok.fresh hle)
def zip3V (xs ys zs : List MV) : List MV := (xs.zip (ys.zip zs)).map fun p => .tup [p.1, p.2.1, p.2.2]
def zip3I (m m2 m3 : EM) : AM := fun env => (m env).bind fun v => (m2 env).bind fun v2 => (m3 env).bind fun v3 => (itemsI v).bind fun xs => (itemsI v2).bind fun ys => (itemsI v3).bind fun zs => M.pure (zip3V xs ys zs)
section
variable {X : Cx} {E : EW} {tg a b c : Expr} {ma mb mc : EM} {pos p : Pos}
theorem si_zip3 {elts : List Expr} {kk : Nat} {tpos : Pos} (hg : Gl X "zip") (hm : X.mg "zip" = none) (ha : SE X E a ma) (hb : SE X E b mb) (hc : SE X E c mc) (hs : starEach [a, b, c] X.env = (false, eval a X.env) :: starEach [b, c] X.env := by rfl)
    (hs2 : starEach [b, c] X.env = (false, eval b X.env) :: starEach [c] X.env := by rfl) (hs3 : starEach [c] X.env = (false, eval c X.env) :: starEach [] X.env := by rfl) (hpl : (backTo pos (starEach [b, c] X.env)).any (·.1) = false := by rfl) :
    SI X E (.Tuple elts kk tpos) (.Call (.Name "zip" p) [a, b, c] [] pos) (zip3I ma mb mc) := by
  refine ⟨fun pins s sg H R I h => (pi_zip3 hg hm (pa_cons ha (pa_cons hb (pa_cons hc pa_nil hs3) hs2) hs) hs hpl).run pins s sg H R I ?_⟩
  obtain ⟨w, env, rfl, k, r, l⟩ := h
  refine ⟨w, env, rfl, k, r, lead_bind l fun w1 v u k1 x1 r1 l1 => ?_⟩
  refine ⟨w1, env, rfl, k1, r.ext k x1, lead_bind l1 fun w2 v2 u2 k2 x2 r2 l2 => ?_⟩
  refine ⟨w2, env, rfl, k2, (r.ext k x1).ext k1 x2, lead_bind l2 fun w3 v3 u3 k3 x3 r3 l3 => ?_⟩
  obtain ⟨d1, a0, xs, us, rfl, hq, rv, ks, l3⟩ := itemsI_ok k3 (RV.ext k2 x3 _ _ (RV.ext k1 x2 _ _ r1)) l3
  obtain ⟨d2, b0, ys, vs, rfl, hq2, rv2, ks2, l3⟩ := itemsI_ok k3 (RV.ext k2 x3 _ _ r2) l3
  obtain ⟨d3, c0, zs, ws, rfl, hq3, rv3, ks3, l3⟩ := itemsI_ok k3 r3 l3
  refine ⟨d1, d2, d3, a0, b0, c0, us, vs, ws, rfl, hq, hq2, hq3, lead_ok (R := ItOk) l3 k3 ⟨fun H => SqH d1 H a0 us ∧ SqH d2 H b0 vs ∧ SqH d3 H c0 ws, Y3 (fun i => us[i]?) (fun i => vs[i]?) (fun i => ws[i]?), walk3 (xs := us) (ys := vs) (zs := ws) ?_, fun w4 _ x => ⟨ks w4 x, ks2 w4 x, ks3 w4 x⟩, fun i u w4 H' hi k4 x y => ?_⟩⟩
  · unfold zip3V; simp [rv.length, rv2.length, rv3.length]
  · obtain ⟨T, y1, y2, y3, rfl, hT, eH, e1, e2, e3⟩ := y
    obtain ⟨m1, f1, g1⟩ := rv.get' e1
    obtain ⟨m2, f2, g2⟩ := rv2.get' e2
    obtain ⟨m3, f3, g3⟩ := rv3.get' e3
    subst eH
    refine ⟨{ w4 with H := upd w4.H T (.tup [y1, y2, y3]) }, rfl, rfl, k4.new hT, Ext.new hT, .tup [m1, m2, m3], ?_, ?_⟩
    · unfold zip3V
      rw [List.getElem?_map, (List.getElem?_zip_eq_some (z := (m1, (m2, m3)))).mpr ⟨f1, (List.getElem?_zip_eq_some (z := (m2, m3))).mpr ⟨f2, f3⟩⟩]
      rfl
    · simp only [RV]
      exact ⟨T, _, rfl, upd_same, RVs.ext k4 (Ext.new hT) _ _ (RVs.cons (RV.ext k3 x _ _ g1) (RVs.cons (RV.ext k3 x _ _ g2) (RVs.cons (RV.ext k3 x _ _ g3) RVs.nil)))⟩
end
/-! texts compared as texts -/
def eqS (neg : Bool) : MV → MV → M MV
  | .str x, .str y => M.pure (.bl (if neg then !decide (x = y) else decide (x = y)))
  | a, b => eqM neg a b
theorem eqS_run {neg : Bool} {w : Wd} {a b : MV} {Q : VK} {E : EW} (l : Lead w (eqS neg a b w.h) Q E) : (∃ x y, a = .str x ∧ b = .str y ∧ Lead w (M.pure (.bl (if neg then !decide (x = y) else decide (x = y))) w.h) Q E) ∨ Lead w (eqM neg a b w.h) Q E := by
  unfold eqS at l
  split at l
  · exact .inl ⟨_, _, rfl, rfl, l⟩
  · exact .inr l
theorem dec_str {x y : Str} : decide (V.str x = V.str y) = decide (x = y) := by
  by_cases c : x = y
  · rw [c, decide_eq_true rfl, decide_eq_true rfl]
  · rw [decide_eq_false c, decide_eq_false fun z => c (V.str.inj z)]
theorem or_eqS {X : Cx} {E : EW} (hu : X.A.units + 64 < cLine) : OpR X (compareOp .Eq) (opR E (eqS false)) := by
  intro pins s sg H x y v u Q I rx ry h
  obtain ⟨w, a, b, rfl, k, ra, rb, l⟩ := h
  rcases eqS_run l with ⟨p, q, rfl, rfl, l⟩ | l
  · simp only [RV] at ra rb
    subst ra rb
    exact op_eq pins s sg w.H _ _ v u Q I rx ry ⟨rfl, lead_ok l k (by simp only [RV]; rw [dec_str]; rfl)⟩
  · exact or_eq hu pins s sg w.H x y v u Q I rx ry ⟨w, a, b, rfl, k, ra, rb, l⟩
theorem or_neS {X : Cx} {E : EW} (hu : X.A.units + 64 < cLine) : OpR X (compareOp .NotEq) (opR E (eqS true)) := by
  intro pins s sg H x y v u Q I rx ry h
  obtain ⟨w, a, b, rfl, k, ra, rb, l⟩ := h
  rcases eqS_run l with ⟨p, q, rfl, rfl, l⟩ | l
  · simp only [RV] at ra rb
    subst ra rb
    exact op_ne pins s sg w.H _ _ v u Q I rx ry ⟨rfl, lead_ok l k (by simp only [RV]; rw [dec_str]; rfl)⟩
  · exact or_ne hu pins s sg w.H x y v u Q I rx ry ⟨w, a, b, rfl, k, ra, rb, l⟩
end Mi

set_option Elab.async false
set_option linter.all false
set_option maxRecDepth 100000
set_option maxHeartbeats 4000000
/-! Mini, part S: what has no meaning here; calls of oneself; tuples turned about. -/
namespace Mi
open PySem PySem.Spec PyProof.Rows L2
variable [Gb]
theorem fnS_stuck {P : Program} {w : World} {K : PySem.W.Frag} {mg : Str → Option Value} {base : Heap} {cv : Nat → Value} {k : Nat} {f : Addr} : FnS P w K mg base cv k f (fun _ => M.stuck) :=
  ⟨fun A outer s H us vs Q E hr gd en rv h => by obtain ⟨w, as, _, _, _, l⟩ := h; exact l.elim⟩
def eStk : EM := fun _ => M.stuck
theorem se_stk {X : Cx} {E : EW} {e : Expr} : SE X E e eStk :=
  ⟨fun pins s sg H Q I h => by obtain ⟨w, env, _, _, _, l⟩ := h; exact l.elim⟩
section
variable {prog : Program} {w : World} {A : Around} {E : Value → Shared → Prop} {s : Shared}
theorem sliceApplied_rev {sl : Addr} {vl vu vs : Value} {n : Nat} {Q : Int × Int × Nat → Shared → Prop} (hs : s.heap.IsSliceOf sl vl vu vs) (pl : IsPart vl none) (pu : IsPart vu none) (ps : IsPart vs (some (-1)))
    (h : Q ((n : Int) - 1, -1, n) s) : wpAny (model prog w) A (Builtin.Slice.sliceApplied (.ref sl) (pure (n : Int))) Q E s := by
  obtain ⟨os, hos, hcs, hds⟩ := id hs
  unfold Builtin.Slice.sliceApplied Builtin.Slice.sliceFields
  refine wpAny_bind (wpAny_bind (wpAny_field hos hds (x := vl) rfl (wpAny_bind (wpAny_field hos hds (x := vu) rfl (wpAny_bind (wpAny_field hos hds (x := vs) rfl (wpAny_pure ?_)))))))
  refine wpAny_bind (HT.slicePart_ ps ?_)
  show wpAny _ _ (if ((-1 : Int) == 0) = true then _ else _) _ _ s
  rw [if_neg (by decide)]
  refine wpAny_bind (HT.slicePart_ pl (wpAny_bind (HT.slicePart_ pu (wpAny_bind (wpAny_pure ?_)))))
  show wpAny _ _ (pure ((n : Int) - 1, (-1 : Int), Builtin.Slice.slicePlaces ((n : Int) - 1) (-1) (-1))) _ _ s
  have e : Builtin.Slice.slicePlaces ((n : Int) - 1) (-1) (-1) = n := by
    unfold Builtin.Slice.slicePlaces
    have h1 : ¬ ((-1 : Int) > 0) := by omega
    simp only [h1, if_false]
    by_cases c : (n : Int) - 1 > -1
    · rw [if_pos c, show (- -1 : Int) = 1 by decide, Int.ediv_one]; omega
    · rw [if_neg c]; omega
  rw [e]
  exact wpAny_pure h
theorem pick_rev (xs : Array Value) : ((List.range xs.size).filterMap fun (m : Nat) => xs[(((xs.size : Int) - 1) + (m : Int) * (-1)).toNat]?).toArray = xs.toList.reverse.toArray := by
  have e : (List.range xs.size).filterMap (fun (m : Nat) => xs[(((xs.size : Int) - 1) + (m : Int) * (-1)).toNat]?) = ((List.range xs.size).map fun k => xs.size - 1 - k).filterMap (xs[·]?) := by
    rw [List.filterMap_map]
    congr 1
    funext m
    show xs[(((xs.size : Int) - 1) + (m : Int) * (-1)).toNat]? = xs[xs.size - 1 - m]?
    congr 1; omega
  rw [e, PySem.W.krv_range, List.filterMap_reverse, PySem.W.krv_all]
theorem getItem_tuple_rev {t sl : Addr} {items : Array Value} {vl vu vs : Value} {Q : Value → Shared → Prop} (ht : IsTup s.heap t items) (hs : s.heap.IsSliceOf sl vl vu vs) (pl : IsPart vl none) (pu : IsPart vu none) (ps : IsPart vs (some (-1)))
    (h : Q (.ref s.heap.objs.size) { s with heap := s.heap.push { cls := .type "tuple", data := .seq items.toList.reverse.toArray } })
    (hsz : items.size ≤ sizeLine) : wpAny (model prog w) A (getItem (.ref t) (.ref sl)) Q E s := by
  have htake : sizeOk (.seq items.toList.reverse.toArray) := by
    show items.toList.reverse.toArray.size ≤ sizeLine
    rw [List.size_toArray, List.length_reverse, Array.length_toList]
    exact hsz
  obtain ⟨os, hos, hcs, hds⟩ := id hs
  have hTs : s.TypeIs (.ref sl) "slice" := ⟨os, hos, hcs⟩
  unfold getItem
  try with_reducible refine wpAny_holding ?_
  first | refine wpAny_bind (wpAny_pure ?_) | skip
  refine wpAny_bind (wpAny_sequenceKey ht.typeIs (by decide) ?_)
  refine wpAny_bind (wpAny_callSpecial?_slot (name := Str.ofString "__getitem__") ht.typeIs PyProof.Rows.slot_tuple_getitem
    (wpAny_call_entry PyProof.Rows.slot_tuple_getitem ht.typeIs entry_tuple_getitem ?_ (args_tuple_getitem _ _)))
  show wpAny _ _ (Builtin.Tuple.tupleItemsOf (.ref t) >>= _) _ _ s
  refine wpAny_bind (tupleItemsOf_ ht ?_)
  refine wpAny_bind (wpAny_typeOf hTs ?_)
  rw [if_pos (by decide)]
  refine wpAny_bind (sliceApplied_rev hs pl pu ps ?_)
  have hno : ¬ ((((items.size : Int) - 1) == 0 && (-1 : Int) == 1 && items.size == items.size) = true) := by
    intro q
    rw [Bool.and_eq_true, Bool.and_eq_true] at q
    exact absurd q.1.2 (by decide)
  show wpAny _ _ (if (((items.size : Int) - 1) == 0 && (-1 : Int) == 1 && items.size == items.size) = true then _ else _) _ _ s
  rw [if_neg hno, pick_rev]
  first
    | exact wpAny_bind (m := Builtin.Tuple.tupleExact _) (wpAny_newObj_type (wpAny_pure ⟨_, rfl, wpAny_pure h⟩) htake)
    | exact wpAny_bind (m := Builtin.Tuple.tupleExact _) (wpAny_newObj_type (wpAny_bind (wpAny_pure (wpAny_pure ⟨_, rfl, wpAny_pure h⟩))) htake)
    | exact wpAny_bind (wpAny_bind (m := Builtin.Tuple.tupleExact _) (wpAny_newObj_type (wpAny_pure (wpAny_pure ⟨_, rfl, wpAny_pure h⟩)) htake))
    | exact wpAny_bind (wpAny_bind (m := Builtin.Tuple.tupleExact _) (wpAny_newObj_type (wpAny_pure ⟨_, rfl, wpAny_pure h⟩) htake))
end
section
variable {X : Cx}
def tRevX (K : PySem.W.Frag) (te : TE) : TE := fun σ H Q => te σ H fun x H1 => ∃ a xs, x = .ref a ∧ ((SqT K H1 a xs ∧ ∀ p, H1 p = none → Q (.ref p) (upd H1 p (.tup xs.reverse))) ∨ (SqL K H1 a xs ∧ ∀ p, H1 p = none → Q (.ref p) (upd H1 p (.lst xs.reverse))))
theorem pe_revX {e : Expr} {te : TE} {k : Nat} {p1 p2 p3 pos : Pos} (he : PE X e te) : PE X (.Subscript e (.Slice none none (some (.UnaryOp .USub (.Constant (.int 1) k p1) p2)) p3) pos) (tRevX X.K te) := by
  refine ⟨fun pins s σ H Q I h => ?_⟩
  refine Subscript_ (thn (he.run pins s σ H _ I h) fun v s1 ⟨x, H1, I1, r1, q1⟩ => ?_)
  obtain ⟨a, xs, ex, hx⟩ := q1
  subst ex
  cases r1
  have hst : PO X (some (.UnaryOp .USub (.Constant (.int 1) k p1) p2)) (tPart (tUn (rU fun i => .int (-i)) (tC (.int 1)))) := po_some (pe_un un_neg pe_int)
  refine wpAny_Slice (thn (po_none.run pins s1 σ H1 (fun o H2 => o = none ∧ H2 = H1) I1 ⟨rfl, rfl⟩) fun vl s2 ⟨l, H2, I2, pl, el, e2⟩ => ?_)
  subst el e2
  refine thn (po_none.run pins s2 σ H2 (fun o H3 => o = none ∧ H3 = H2) I2 ⟨rfl, rfl⟩) fun vu s3 ⟨u, H3, I3, pu, eu, e3⟩ => ?_
  subst eu e3
  refine thn (hst.run pins s3 σ H3 (fun o H4 => o = some (-1) ∧ H4 = H3) I3 ⟨1, rfl, -1, rfl, rfl, rfl⟩) fun vs s4 ⟨o, H4, I4, ps, eo, e4⟩ => ?_
  subst eo e4
  have I5 : Inv X pins σ H4 { s4 with heap := s4.heap.push { cls := .type "slice", data := .fields #[vl, vu, vs] } } := I4.kept (t' := s4.toks) fun b ob q => Heap.get?_push_of_some _ q
  rcases hx with ⟨hx, q⟩ | ⟨hx, q⟩
  · obtain ⟨its, r, ht, hz⟩ := I5.tuple hx
    have hlen := r.length
    show wpAny (model X.prog X.w) X.A (subscriptTail e (.Slice none none (some (.UnaryOp .USub (.Constant (.int 1) k p1) p2)) p3) (.ref a) (.ref s4.heap.objs.size)) (EP X pins σ Q) X.xe { s4 with heap := s4.heap.push { cls := .type "slice", data := .fields #[vl, vu, vs] } }
    refine tail_any (ops := [.ref a, .ref s4.heap.objs.size]) ht.typeIs PyProof.Rows.slot_tuple_getitem.lookup ?_ (by with_unfolding_all rfl)
    refine getItem_tuple_rev ht (Heap.IsSliceOf.new _ vl vu vs) pl pu ps ?_ (by rw [List.size_toArray]; omega)
    refine ⟨.ref _, _, I5.laid (t' := s4.toks) (o := .tup xs.reverse) (fun b ob q => Heap.get?_push_of_some _ q) (Nat.le_refl _) ?_, rfl, q _ (I5.hok.fresh (Nat.le_refl _))⟩
    exact ⟨by rw [List.length_reverse]; exact hz, _, r.reverse, IsTup.new _ _⟩
  · obtain ⟨its, r, ht, hz⟩ := I5.list hx
    have hlen := r.length
    show wpAny (model X.prog X.w) X.A (subscriptTail e (.Slice none none (some (.UnaryOp .USub (.Constant (.int 1) k p1) p2)) p3) (.ref a) (.ref s4.heap.objs.size)) (EP X pins σ Q) X.xe { s4 with heap := s4.heap.push { cls := .type "slice", data := .fields #[vl, vu, vs] } }
    refine tail_any (ops := [.ref a, .ref s4.heap.objs.size]) ht.isList.typeIs (PySem.slot_list_getitem.lookup) ?_ (by with_unfolding_all rfl)
    refine wpAny_getItem_list_slice ht.isList (Heap.IsSliceOf.new _ vl vu vs) pl pu ps (by decide) ?_ (by rw [List.size_toArray]; omega)
    rw [PySem.W.krv_pick]
    refine ⟨.ref _, _, I5.laid (t' := s4.toks) (o := .lst xs.reverse) (fun b ob q => Heap.get?_push_of_some _ q) (Nat.le_refl _) ?_, rfl, q _ (I5.hok.fresh (Nat.le_refl _))⟩
    exact ⟨by rw [List.length_reverse]; exact hz, _, 0, r.reverse, Heap.get?_push_size _ rfl⟩
end
section
variable {X : Cx} {E : EW} {e : Expr} {me : EM} {pos : Pos}
/-- x[::-1], of a tuple or a list -/
def revX (mt : Bool) (x : MV) : M MV := match x with
  | .tup xs => M.pure (.tup xs.reverse)
  | x => revM mt x
theorem se_revX {mt : Bool} {kk : Nat} {p1 p2 p3 : Pos} (he : SE X E e me) : SE X E (.Subscript e (.Slice none none (some (.UnaryOp .USub (.Constant (.int 1) kk p1) p2)) p3) pos) (una (revX mt) me) := by
  refine ⟨fun pins s sg H Q I h => (pe_revX he).run pins s sg H Q I ?_⟩
  obtain ⟨w, env, rfl, k, r, l⟩ := h
  refine ⟨w, env, rfl, k, r, lead_bind l fun w1 v u k1 x1 r1 l1 => ?_⟩
  have lists : ∀ v : MV, RV w1 v u → Lead w1 (revM mt v w1.h) Q E → ∃ a xs, u = .ref a ∧ ((SqT X.K w1.H a xs ∧ ∀ p, w1.H p = none → Q (.ref p) (upd w1.H p (.tup xs.reverse))) ∨ (SqL X.K w1.H a xs ∧ ∀ p, w1.H p = none → Q (.ref p) (upd w1.H p (.lst xs.reverse)))) := fun v r1 l1 => by
    obtain ⟨p, xs, us, rfl, h1, r2, l2⟩ := itemsL_ok k1 r1 l1
    exact ⟨p, us, rfl, .inr ⟨SqL.of h1, fun t ht => newL_ok l2 k1 r2.reverse ht⟩⟩
  cases v with
  | tup xs =>
    simp only [RV] at r1
    obtain ⟨a, us, rfl, h1, h2⟩ := r1
    exact ⟨a, us, rfl, .inl ⟨SqT.of h1, fun t ht => newT_ok l1 k1 h2.reverse ht⟩⟩
  | non => exact lists _ r1 l1
  | bl _ => exact lists _ r1 l1
  | int _ => exact lists _ r1 l1
  | str _ => exact lists _ r1 l1
  | lst _ => exact lists _ r1 l1
  | scr _ => exact lists _ r1 l1
  | cell _ => exact lists _ r1 l1
  | err _ _ => exact lists _ r1 l1
  | lam _ => exact lists _ r1 l1
  | fn _ => exact lists _ r1 l1
end
section
variable {X : Cx} {E : EW} {pos : Pos}
/-! a test that is chosen by a test; three stores at once -/
def tIfT (tc ta tb : TT) : TT := fun σ H Q => tc σ H fun c H1 => if c = true then ta σ H1 Q else tb σ H1 Q
theorem pt_iff {c a b : Expr} {tc ta tb : TT} (hc : PT X c tc) (ha : PT X a ta) (hb : PT X b tb) : PT X (.IfExp c a b pos) (tIfT tc ta tb) := by
  refine ⟨fun pins s σ H Q I h => ?_⟩
  show wpAny (model X.prog X.w) X.A (isTrue c X.env (eval c X.env) >>= fun r => if r = true then isTrue a X.env (eval a X.env) else isTrue b X.env (eval b X.env)) (TP X pins σ Q) X.xe s
  refine wpAny_bind (thn (hc.run pins s σ H _ I h) fun r s1 ⟨H1, I1, q1⟩ => ?_)
  cases r with
  | true => rw [if_pos rfl] at q1 ⊢; exact ha.run pins s1 σ H1 Q I1 q1
  | false => rw [if_neg (by decide)] at q1 ⊢; exact hb.run pins s1 σ H1 Q I1 q1
def bIff (c a b : BM) : BM := fun env => (c env).bind fun d => if d then a env else b env
theorem st_iff {c a b : Expr} {tc ta tb : BM} (hc : ST X E c tc) (ha : ST X E a ta) (hb : ST X E b tb) : ST X E (.IfExp c a b pos) (bIff tc ta tb) := by
  refine ⟨fun pins s sg H Q I h => (pt_iff hc ha hb).run pins s sg H Q I ?_⟩
  obtain ⟨w, env, rfl, k, r, l⟩ := h
  refine ⟨w, env, rfl, k, r, lead_bind l fun w1 x u k1 x1 r1 l1 => ?_⟩
  subst r1
  cases x with
  | true => rw [if_pos rfl] at l1 ⊢; exact ⟨w1, env, rfl, k1, r.ext k x1, l1⟩
  | false => rw [if_neg (by decide)] at l1 ⊢; exact ⟨w1, env, rfl, k1, r.ext k x1, l1⟩
def sPar3 (i j l : Nat) (a : AM) : SM := fun env => (a env).bind fun vs => match vs with
  | [u, v, w] => M.pure (.nx (((env.set i (some u)).set j (some v)).set l (some w)))
  | _ => M.stuck
theorem ss_par3 {i j l : Nat} {x y z : Str} {a b c : Expr} {ma : AM} {px py pz pt : Pos} {kt k2 pt2} (hc : X.calm = true) (hN : X.N.Nodup) (hi : X.N[i]? = some x) (hj : X.N[j]? = some y) (hl : X.N[l]? = some z) (hij : i ≠ j) (hil : i ≠ l) (hjl : j ≠ l)
    (hx : X.env.scope.names.lookup x = some .local) (hy : X.env.scope.names.lookup y = some .local) (hz : X.env.scope.names.lookup z = some .local) (ha : SA X E [a, b, c] ma)
    (hw : swappedStores [.Tuple [.Name x px, .Name y py, .Name z pz] kt pt] (.Tuple [a, b, c] k2 pt2) X.env = pure (some [x, y, z]))
    (hs : swapsWithSole [.Tuple [.Name x px, .Name y py, .Name z pz] kt pt] (.Tuple [a, b, c] k2 pt2) pos.line X.env = pure false := by rfl) :
    SS X E (.Assign [.Tuple [.Name x px, .Name y py, .Name z pz] kt pt] (.Tuple [a, b, c] k2 pt2) pos) (sPar3 i j l ma) := by
  refine ⟨fun pins s sg H D I h => (ps_par3 hc hN hi hj hl hij hil hjl hx hy hz ha hw hs).run pins s sg H D I ?_⟩
  obtain ⟨w, env, rfl, k, r, l0⟩ := h
  refine ⟨w, env, rfl, k, r, lead_bind l0 fun w1 vs us k1 x1 r1 l1 => ?_⟩
  match vs, r1, l1 with
  | [v, v2, v3], r1, l1 =>
    obtain ⟨u, rs, rfl, q1, r2⟩ := r1.uncons
    obtain ⟨u2, u3, rfl, q2, q3⟩ := r2.two
    exact ⟨u, u2, u3, rfl, lead_ok (Q := QF D) (b := Sum.inl (((sg.set i (some u)).set j (some u2)).set l (some u3))) l1 k1 ((((r.ext k x1).set i q1).set j q2).set l q3)⟩
  | [], _, l1 => exact l1.elim
  | [_], _, l1 => exact l1.elim
  | [_, _], _, l1 => exact l1.elim
  | _ :: _ :: _ :: _ :: _, _, l1 => exact l1.elim
end
end Mi

set_option Elab.async false
set_option linter.all false
set_option maxRecDepth 100000
set_option maxHeartbeats 4000000
/-! Mini, part X: what a mini meaning does, as rules for simp. -/
namespace Mi
open PySem PySem.Spec PyProof.Rows L2

/-- for texts that speak of no world -/
instance (priority := 10) gbNone : Gb := ⟨[], 0, fun _ => 0, fun _ => 0, fun _ => ⟨"", ⟨[], [], none, [], [], none, []⟩, .Name "" ⟨0, 0, 0, 0⟩, ⟨.function, [], false, false, []⟩⟩, []⟩
def WpR {A : Type} (m : M A) (h : MH) (Q : A → MH → Prop) : Prop := match m h with
  | .ok a h' => Q a h'
  | _ => False
structure Wp {A : Type} (m : M A) (h : MH) (Q : A → MH → Prop) : Prop where
  run : WpR m h Q
theorem wpR {A : Type} {m : M A} {h : MH} {Q : A → MH → Prop} : Wp m h Q ↔ WpR m h Q := ⟨fun w => w.run, .mk⟩
theorem Wp.ok {A : Type} {m : M A} {h : MH} {Q : A → MH → Prop} (w : Wp m h Q) : ∃ a h', m h = .ok a h' ∧ Q a h' := by
  have w := w.run
  unfold WpR at w
  cases e : m h with
  | ok a h' => rw [e] at w; exact ⟨a, h', rfl, w⟩
  | stuck => rw [e] at w; exact w.elim
  | exn c v h' => rw [e] at w; exact w.elim
theorem Wp.of {A : Type} {m : M A} {h h' : MH} {a : A} {Q : A → MH → Prop} (e : m h = .ok a h') (q : Q a h') : Wp m h Q := by
  simp only [wpR]; unfold WpR; rw [e]; exact q
theorem Wp.mono {A : Type} {m : M A} {h : MH} {Q Q' : A → MH → Prop} (w : Wp m h Q) (q : ∀ a h', Q a h' → Q' a h') : Wp m h Q' := by
  obtain ⟨a, h', e, r⟩ := w.ok
  exact .of e (q _ _ r)
section
variable {A B : Type} {h : MH} {env : Ev}
theorem wp_pure {a : A} {Q : A → MH → Prop} : Wp (M.pure a) h Q ↔ Q a h := by first | exact Iff.rfl | (simp only [wpR]; exact Iff.rfl)
theorem wp_stuck {Q : A → MH → Prop} : Wp (M.stuck : M A) h Q ↔ False := by first | exact Iff.rfl | (simp only [wpR]; exact Iff.rfl)
theorem wp_bind {m : M A} {f : A → M B} {Q : B → MH → Prop} : Wp (m.bind f) h Q ↔ Wp m h fun a h' => Wp (f a) h' Q := by
  simp only [wpR]; unfold WpR M.bind
  cases m h <;> (first | exact Iff.rfl | (simp only [wpR]; exact Iff.rfl) | (simp only [wpR] at *; exact Iff.rfl))
theorem wp_ite {c : Prop} [Decidable c] {m n : M A} {Q : A → MH → Prop} : Wp (if c then m else n) h Q ↔ if c then Wp m h Q else Wp n h Q := by
  split <;> (first | exact Iff.rfl | (simp only [wpR]; exact Iff.rfl) | (simp only [wpR] at *; exact Iff.rfl))
theorem wp_congr {m : M A} {F G : A → MH → Prop} (e : ∀ a h', F a h' ↔ G a h') : Wp m h F ↔ Wp m h G := by
  have : F = G := funext fun a => funext fun h' => propext (e a h')
  rw [this]
theorem wp_at {m m' : M A} {h h' : MH} {Q : A → MH → Prop} (e : m h = m' h') : Wp m h Q ↔ Wp m' h' Q := by
  simp only [wpR]; unfold WpR; rw [e]
theorem wp_from {m : M A} {h : MH} {Q : A → MH → Prop} (m' : M A) (h' : MH) (w : Wp m' h' Q) (e : m h = m' h') : Wp m h Q := (wp_at e).mpr w
theorem wp_val {m : M A} {h : MH} {a : A} (w : Wp m h fun v h' => v = a ∧ h' = h) {P : A → MH → Prop} : Wp m h P ↔ P a h := by
  obtain ⟨v, h', e, ev, eh⟩ := w.ok
  simp only [wpR]; unfold WpR; rw [e, ev, eh]
theorem wp_noX {m : M A} {Q : A → MH → Prop} : Wp (noX m) h Q ↔ Wp m h Q := by
  simp only [wpR]; unfold WpR noX
  cases m h <;> (first | exact Iff.rfl | (simp only [wpR]; exact Iff.rfl) | (simp only [wpR] at *; exact Iff.rfl))
variable {Q : MV → MH → Prop} {Qb : Bool → MH → Prop} {Qa : List MV → MH → Prop} {Qf : Fl → MH → Prop}
def atV (env : Ev) (i : Nat) (P : MV → Prop) : Prop := match env[i]? with
  | some (some v) => P v
  | _ => False
theorem wp_var {i : Nat} : Wp (var i env) h Q ↔ atV env i fun v => Q v h := by
  simp only [wpR]; unfold WpR var atV
  cases env[i]? with
  | none => (first | exact Iff.rfl | (simp only [wpR]; exact Iff.rfl) | (simp only [wpR] at *; exact Iff.rfl))
  | some o => cases o <;> (first | exact Iff.rfl | (simp only [wpR]; exact Iff.rfl) | (simp only [wpR] at *; exact Iff.rfl))
theorem atV_zero {v : MV} {r : Ev} {P : MV → Prop} : atV (some v :: r) 0 P ↔ P v := by first | exact Iff.rfl | (simp only [wpR]; exact Iff.rfl)
theorem atV_succ {o : Option MV} {r : Ev} {i : Nat} {P : MV → Prop} : atV (o :: r) (i + 1) P ↔ atV r i P := by first | exact Iff.rfl | (simp only [wpR]; exact Iff.rfl)
theorem wp_con {v : MV} : Wp (con v env) h Q ↔ Q v h := by first | exact Iff.rfl | (simp only [wpR]; exact Iff.rfl)
theorem wp_bin {f : MV → MV → M MV} {a b : EM} : Wp (bin f a b env) h Q ↔ Wp (a env) h fun x h1 => Wp (b env) h1 fun y h2 => Wp (f x y) h2 Q := by
  unfold bin; rw [wp_bind]; simp only [wp_bind]
theorem wp_una {f : MV → M MV} {a : EM} : Wp (una f a env) h Q ↔ Wp (a env) h fun x h1 => Wp (f x) h1 Q := wp_bind
def asB (x : MV) (P : Bool → Prop) : Prop := match x with
  | .bl c => P c
  | _ => False
theorem asB_bl {c : Bool} {P : Bool → Prop} : asB (.bl c) P ↔ P c := by first | exact Iff.rfl | (simp only [wpR]; exact Iff.rfl)
theorem wp_tst {a : EM} : Wp (tst a env) h Qb ↔ Wp (a env) h fun x h1 => asB x fun c => Qb c h1 := by
  unfold tst; rw [wp_bind]
  exact wp_congr fun x h1 => by cases x <;> (first | exact Iff.rfl | (simp only [wpR]; exact Iff.rfl) | (simp only [wpR] at *; exact Iff.rfl))
theorem wp_bAnd {a b : BM} : Wp (bAnd a b env) h Qb ↔ Wp (a env) h fun c h1 => if c then Wp (b env) h1 Qb else Qb false h1 := by
  unfold bAnd; rw [wp_bind]; simp only [wp_ite, wp_pure]
theorem wp_bOr {a b : BM} : Wp (bOr a b env) h Qb ↔ Wp (a env) h fun c h1 => if c then Qb true h1 else Wp (b env) h1 Qb := by
  unfold bOr; rw [wp_bind]; simp only [wp_ite, wp_pure]
theorem wp_bNot {a : BM} : Wp (bNot a env) h Qb ↔ Wp (a env) h fun c h1 => Qb (!c) h1 := by
  unfold bNot; rw [wp_bind]; simp only [wp_pure]
theorem wp_iff {c : BM} {a b : EM} : Wp (iff c a b env) h Q ↔ Wp (c env) h fun d h1 => if d then Wp (a env) h1 Q else Wp (b env) h1 Q := by
  unfold iff; rw [wp_bind]; simp only [wp_ite]
theorem wp_eAnd {a b : EM} : Wp (eAnd a b env) h Q ↔ Wp (a env) h fun x h1 => asB x fun c => if c then Wp (b env) h1 Q else Q (.bl false) h1 := by
  unfold eAnd; rw [wp_bind, wp_tst]; simp only [wp_ite, wp_pure]
theorem wp_eOr {a b : EM} : Wp (eOr a b env) h Q ↔ Wp (a env) h fun x h1 => asB x fun c => if c then Q (.bl true) h1 else Wp (b env) h1 Q := by
  unfold eOr; rw [wp_bind, wp_tst]; simp only [wp_ite, wp_pure]
theorem wp_eNot {a : EM} : Wp (eNot a env) h Q ↔ Wp (a env) h fun x h1 => asB x fun c => Q (.bl (!c)) h1 := by
  unfold eNot; rw [wp_bind, wp_tst]; simp only [wp_pure]
theorem wp_chn {f g : MV → MV → M MV} {a b c : EM} : Wp (chn f g a b c env) h Q ↔ Wp (a env) h fun x h1 => Wp (b env) h1 fun y h2 => Wp (f x y) h2 fun z h3 => asB z fun d => if d then Wp (c env) h3 fun u h4 => Wp (g y u) h4 Q else Q (.bl false) h3 := by
  unfold chn; rw [wp_bind]
  refine wp_congr fun x h1 => ?_
  rw [wp_bind]
  refine wp_congr fun y h2 => ?_
  rw [wp_bind]
  refine wp_congr fun z h3 => ?_
  cases z with
  | bl d =>
    cases d with
    | true => exact wp_bind
    | false => (first | exact Iff.rfl | (simp only [wpR]; exact Iff.rfl) | (simp only [wpR] at *; exact Iff.rfl))
  | _ => (first | exact Iff.rfl | (simp only [wpR]; exact Iff.rfl) | (simp only [wpR] at *; exact Iff.rfl))
theorem wp_aNil : Wp (aNil env) h Qa ↔ Qa [] h := by first | exact Iff.rfl | (simp only [wpR]; exact Iff.rfl)
theorem wp_aCons {a : EM} {r : AM} : Wp (aCons a r env) h Qa ↔ Wp (a env) h fun x h1 => Wp (r env) h1 fun xs h2 => Qa (x :: xs) h2 := by
  unfold aCons; rw [wp_bind]; simp only [wp_bind, wp_pure]
theorem wp_aStar {a : EM} {r : AM} : Wp (aStar a r env) h Qa ↔ Wp (a env) h fun v h1 => Wp (itemsS v) h1 fun xs h2 => Wp (r env) h2 fun ys h3 => Qa (xs ++ ys) h3 := by
  unfold aStar; rw [wp_bind]; simp only [wp_bind, wp_pure]
theorem wp_tupD {a : AM} : Wp (tupD a env) h Q ↔ Wp (a env) h fun xs h1 => sized xs = true ∧ Q (.tup xs) h1 := by
  unfold tupD; rw [wp_bind]
  refine wp_congr fun xs h1 => ?_
  rw [wp_ite]
  by_cases c : sized xs = true
  · simp only [c, if_true, true_and]; (first | exact Iff.rfl | (simp only [wpR]; exact Iff.rfl) | (simp only [wpR] at *; exact Iff.rfl))
  · rw [if_neg c]; exact ⟨fun z => (wp_stuck.mp z).elim, fun z => absurd z.1 c⟩
theorem wp_newF {xs : List MV} : Wp (newL false xs) h Q ↔ Q (.lst xs) h := by first | exact Iff.rfl | (simp only [wpR]; exact Iff.rfl)
theorem wp_newT {xs : List MV} : Wp (newL true xs) h Q ↔ Q (.cell h.length) (h ++ [some (.lst xs)]) := by first | exact Iff.rfl | (simp only [wpR]; exact Iff.rfl)
theorem wp_lstD {mt : Bool} {a : AM} : Wp (lstD mt a env) h Q ↔ Wp (a env) h fun xs h1 => sized xs = true ∧ Wp (newL mt xs) h1 Q := by
  unfold lstD; rw [wp_bind]
  refine wp_congr fun xs h1 => ?_
  rw [wp_ite]
  by_cases c : sized xs = true
  · simp only [c, if_true, true_and]
  · rw [if_neg c]; exact ⟨fun z => (wp_stuck.mp z).elim, fun z => absurd z.1 c⟩
theorem wp_callE {m : List MV → M MV} {a : AM} : Wp (callE m a env) h Q ↔ Wp (a env) h fun as h1 => Wp (m as) h1 Q := wp_bind
theorem wp_frzE {n : Nat} {e : EM} : Wp (frzE n e env) h Q ↔ Wp (e env) h fun v h1 => Wp (frz n v) h1 Q := wp_bind
theorem wp_metL {f : MV → List MV → M MV} {o : EM} {a : AM} : Wp (metL f o a env) h Q ↔ Wp (o env) h fun x h1 => Wp (isL x) h1 fun _ h2 => Wp (a env) h2 fun as h3 => Wp (f x as) h3 Q := by
  unfold metL; rw [wp_bind]; simp only [wp_bind]
theorem wp_slE {mt : Bool} {e : EM} {lo hi : OM} : Wp (slE mt e lo hi env) h Q ↔ Wp (e env) h fun x h1 => Wp (lo env) h1 fun l h2 => Wp (hi env) h2 fun u h3 => Wp (slM mt x l u) h3 Q := by
  unfold slE; rw [wp_bind]; simp only [wp_bind]
variable {Qo : Option Int → MH → Prop}
theorem wp_oNone : Wp (oNone env) h Qo ↔ Qo none h := by first | exact Iff.rfl | (simp only [wpR]; exact Iff.rfl)
def asI (x : MV) (P : Int → Prop) : Prop := match x with
  | .int c => P c
  | _ => False
theorem asI_int {c : Int} {P : Int → Prop} : asI (.int c) P ↔ P c := by first | exact Iff.rfl | (simp only [wpR]; exact Iff.rfl)
theorem wp_oSome {e : EM} : Wp (oSome e env) h Qo ↔ Wp (e env) h fun x h1 => asI x fun i => Qo (some i) h1 := by
  unfold oSome; rw [wp_bind]
  exact wp_congr fun x h1 => by cases x <;> (first | exact Iff.rfl | (simp only [wpR]; exact Iff.rfl) | (simp only [wpR] at *; exact Iff.rfl))
theorem wp_rgE {mt : Option Bool} {a b : EM} : Wp (rgE mt a b env) h Q ↔ Wp (a env) h fun x h1 => Wp (b env) h1 fun y h2 => asI x fun i => asI y fun j => Wp (rgF mt i j) h2 Q := by
  unfold rgE; rw [wp_bind]
  refine wp_congr fun x h1 => ?_
  rw [wp_bind]
  exact wp_congr fun y h2 => by cases x <;> cases y <;> (first | exact Iff.rfl | (simp only [wpR]; exact Iff.rfl) | (simp only [wpR] at *; exact Iff.rfl))
/-! statements -/
theorem wp_sNil : Wp (sNil env) h Qf ↔ Qf (.nx env) h := by first | exact Iff.rfl | (simp only [wpR]; exact Iff.rfl)
def asN (f : Fl) (P : Ev → Prop) (R : MV → Prop) : Prop := match f with
  | .nx env => P env
  | .rt v => R v
theorem asN_nx {e : Ev} {P : Ev → Prop} {R : MV → Prop} : asN (.nx e) P R ↔ P e := by first | exact Iff.rfl | (simp only [wpR]; exact Iff.rfl)
theorem asN_rt {v : MV} {P : Ev → Prop} {R : MV → Prop} : asN (.rt v) P R ↔ R v := by first | exact Iff.rfl | (simp only [wpR]; exact Iff.rfl)
theorem wp_sSeq {a b : SM} : Wp (sSeq a b env) h Qf ↔ Wp (a env) h fun f h1 => asN f (fun env' => Wp (b env') h1 Qf) fun v => Qf (.rt v) h1 := by
  unfold sSeq; rw [wp_bind]
  exact wp_congr fun f h1 => by cases f <;> (first | exact Iff.rfl | (simp only [wpR]; exact Iff.rfl) | (simp only [wpR] at *; exact Iff.rfl))
theorem wp_sSet {i : Nat} {e : EM} : Wp (sSet i e env) h Qf ↔ Wp (e env) h fun v h1 => Qf (.nx (env.set i (some v))) h1 := by
  unfold sSet; rw [wp_bind]; simp only [wp_pure]
theorem wp_sRet {e : EM} : Wp (sRet e env) h Qf ↔ Wp (e env) h fun v h1 => Qf (.rt v) h1 := by
  unfold sRet; rw [wp_bind]; simp only [wp_pure]
theorem wp_sRetN : Wp (sRetN env) h Qf ↔ Qf (.rt .non) h := by first | exact Iff.rfl | (simp only [wpR]; exact Iff.rfl)
theorem wp_sExp {e : EM} : Wp (sExp e env) h Qf ↔ Wp (e env) h fun _ h1 => Qf (.nx env) h1 := by
  unfold sExp; rw [wp_bind]; simp only [wp_pure]
theorem wp_sIf {c : BM} {a b : SM} : Wp (sIf c a b env) h Qf ↔ Wp (c env) h fun d h1 => if d then Wp (a env) h1 Qf else Wp (b env) h1 Qf := by
  unfold sIf; rw [wp_bind]; simp only [wp_ite]
theorem wp_sNever : Wp (sNever env) h Qf ↔ False := by first | exact Iff.rfl | (simp only [wpR]; exact Iff.rfl)
theorem wp_sAsg {e : EM} {g : GM} : Wp (sAsg e g env) h Qf ↔ Wp (e env) h fun v h1 => Wp (g v env) h1 fun env' h2 => Qf (.nx env') h2 := by
  unfold sAsg; rw [wp_bind]; simp only [wp_bind, wp_pure]
theorem wp_sPar {i j : Nat} {a : AM} : Wp (sPar i j a env) h Qf ↔ Wp (a env) h fun vs h1 => ∃ v w, vs = [v, w] ∧ Qf (.nx ((env.set i (some v)).set j (some w))) h1 := by
  unfold sPar; rw [wp_bind]
  refine wp_congr fun vs h1 => ?_
  match vs with
  | [v, w] => exact wp_pure.trans ⟨fun q => ⟨v, w, rfl, q⟩, fun ⟨_, _, e, q⟩ => by cases e; exact q⟩
  | [] => exact ⟨fun q => (wp_stuck.mp q).elim, fun ⟨_, _, e, _⟩ => by cases e⟩
  | [_] => exact ⟨fun q => (wp_stuck.mp q).elim, fun ⟨_, _, e, _⟩ => by cases e⟩
  | _ :: _ :: _ :: _ => exact ⟨fun q => (wp_stuck.mp q).elim, fun ⟨_, _, e, _⟩ => by cases e⟩
theorem wp_sFor {it : AM} {g : GM} {b : SM} : Wp (sFor it g b env) h Qf ↔ Wp (it env) h fun vs h1 => Wp (loop g b vs env) h1 Qf := wp_bind
theorem wp_sFrz {n i : Nat} : Wp (sFrz n i env) h Qf ↔ atV env i fun v => Wp (frz n v) h fun v' h1 => Qf (.nx (env.set i (some v'))) h1 := by
  unfold sFrz atV
  cases env[i]? with
  | none => (first | exact Iff.rfl | (simp only [wpR]; exact Iff.rfl) | (simp only [wpR] at *; exact Iff.rfl))
  | some o => cases o with
    | none => (first | exact Iff.rfl | (simp only [wpR]; exact Iff.rfl) | (simp only [wpR] at *; exact Iff.rfl))
    | some v => simp only [wp_bind, wp_pure]
variable {Qe : Ev → MH → Prop}
theorem wp_gN {i : Nat} {v : MV} : Wp (gN i v env) h Qe ↔ Qe (env.set i (some v)) h := by first | exact Iff.rfl | (simp only [wpR]; exact Iff.rfl)
theorem wp_gT {n : Nat} {g : GMs} {xs : List MV} : Wp (gT n g (.tup xs) env) h Qe ↔ xs.length = n ∧ Wp (g xs env) h Qe := by
  show Wp (if xs.length = n then g xs env else M.stuck) h Qe ↔ _
  rw [wp_ite]
  by_cases c : xs.length = n <;> simp [c, wp_stuck]
theorem wp_gsNil : Wp (gsNil [] env) h Qe ↔ Qe env h := by first | exact Iff.rfl | (simp only [wpR]; exact Iff.rfl)
theorem wp_gsCons {g : GM} {r : GMs} {v : MV} {vs : List MV} : Wp (gsCons g r (v :: vs) env) h Qe ↔ Wp (g v env) h fun env' h1 => Wp (r vs env') h1 Qe := wp_bind
theorem wp_gSub {f : MV → MV → MV → M Unit} {o i : EM} {v : MV} : Wp (gSub f o i v env) h Qe ↔ Wp (o env) h fun x h1 => Wp (i env) h1 fun y h2 => Wp (f x y v) h2 fun _ h3 => Qe env h3 := by
  unfold gSub; rw [wp_bind]; simp only [wp_bind, wp_pure]
/-! calls of defs -/
theorem wp_def {ar sl : Nat} {b : SM} {as : List MV} (hl : as.length = ar) : Wp (defM ar sl b as) h Q ↔ Wp (b (as.map some ++ List.replicate (sl - as.length) none)) h fun f h1 => Wp (cutv h.length (retOf f)) h1 Q := by
  have e : defM ar sl b as h = cutX h.length ((b (as.map some ++ List.replicate (sl - as.length) none)).bind fun f => cutv h.length (retOf f)) h := by
    unfold defM; rw [if_pos hl]
  have e2 : Wp (cutX h.length ((b (as.map some ++ List.replicate (sl - as.length) none)).bind fun f => cutv h.length (retOf f))) h Q ↔ Wp ((b (as.map some ++ List.replicate (sl - as.length) none)).bind fun f => cutv h.length (retOf f)) h Q := by
    simp only [wpR]; unfold WpR cutX
    cases ((b (as.map some ++ List.replicate (sl - as.length) none)).bind fun f => cutv h.length (retOf f)) h with
    | ok => (first | exact Iff.rfl | (simp only [wpR]; exact Iff.rfl) | (simp only [wpR] at *; exact Iff.rfl))
    | stuck => (first | exact Iff.rfl | (simp only [wpR]; exact Iff.rfl) | (simp only [wpR] at *; exact Iff.rfl))
    | exn c v h' => cases c1 : v.free <;> simp [c1]
  rw [← wp_bind, ← e2]
  simp only [wpR]; unfold WpR
  rw [e]
theorem wp_def0 {sl : Nat} {b : SM} : Wp (defM 0 sl b []) h Q ↔ Wp (b (List.replicate (sl - 0) none)) h fun f h1 => Wp (cutv h.length (retOf f)) h1 Q := wp_def (as := []) rfl
theorem wp_def1 {sl : Nat} {b : SM} {x0 : MV} : Wp (defM 1 sl b [x0]) h Q ↔ Wp (b (some x0 :: List.replicate (sl - 1) none)) h fun f h1 => Wp (cutv h.length (retOf f)) h1 Q := wp_def (as := [x0]) rfl
theorem wp_def2 {sl : Nat} {b : SM} {x0 x1 : MV} : Wp (defM 2 sl b [x0, x1]) h Q ↔ Wp (b (some x0 :: some x1 :: List.replicate (sl - 2) none)) h fun f h1 => Wp (cutv h.length (retOf f)) h1 Q := wp_def (as := [x0, x1]) rfl
theorem wp_def3 {sl : Nat} {b : SM} {x0 x1 x2 : MV} : Wp (defM 3 sl b [x0, x1, x2]) h Q ↔ Wp (b (some x0 :: some x1 :: some x2 :: List.replicate (sl - 3) none)) h fun f h1 => Wp (cutv h.length (retOf f)) h1 Q := wp_def (as := [x0, x1, x2]) rfl
theorem wp_def4 {sl : Nat} {b : SM} {x0 x1 x2 x3 : MV} : Wp (defM 4 sl b [x0, x1, x2, x3]) h Q ↔ Wp (b (some x0 :: some x1 :: some x2 :: some x3 :: List.replicate (sl - 4) none)) h fun f h1 => Wp (cutv h.length (retOf f)) h1 Q := wp_def (as := [x0, x1, x2, x3]) rfl
theorem wp_def5 {sl : Nat} {b : SM} {x0 x1 x2 x3 x4 : MV} : Wp (defM 5 sl b [x0, x1, x2, x3, x4]) h Q ↔ Wp (b (some x0 :: some x1 :: some x2 :: some x3 :: some x4 :: List.replicate (sl - 5) none)) h fun f h1 => Wp (cutv h.length (retOf f)) h1 Q := wp_def (as := [x0, x1, x2, x3, x4]) rfl
theorem wp_def6 {sl : Nat} {b : SM} {x0 x1 x2 x3 x4 x5 : MV} : Wp (defM 6 sl b [x0, x1, x2, x3, x4, x5]) h Q ↔ Wp (b (some x0 :: some x1 :: some x2 :: some x3 :: some x4 :: some x5 :: List.replicate (sl - 6) none)) h fun f h1 => Wp (cutv h.length (retOf f)) h1 Q := wp_def (as := [x0, x1, x2, x3, x4, x5]) rfl
theorem wp_def7 {sl : Nat} {b : SM} {x0 x1 x2 x3 x4 x5 x6 : MV} : Wp (defM 7 sl b [x0, x1, x2, x3, x4, x5, x6]) h Q ↔ Wp (b (some x0 :: some x1 :: some x2 :: some x3 :: some x4 :: some x5 :: some x6 :: List.replicate (sl - 7) none)) h fun f h1 => Wp (cutv h.length (retOf f)) h1 Q := wp_def (as := [x0, x1, x2, x3, x4, x5, x6]) rfl
theorem wp_cutv {n : Nat} {v : MV} (f : v.free = true) : Wp (cutv n v) h Q ↔ Q v (h.take n) := by
  simp only [wpR]; unfold WpR cutv; rw [f]; (first | exact Iff.rfl | (simp only [wpR]; exact Iff.rfl) | (simp only [wpR] at *; exact Iff.rfl))
theorem wp_cut0 {v : MV} (f : v.free = true) : Wp (cutv h.length v) h Q ↔ Q v h := by
  rw [wp_cutv f, List.take_length]
theorem wp_cut_bl {b : Bool} : Wp (cutv h.length (.bl b)) h Q ↔ Q (.bl b) h := wp_cut0 (by simp [MV.free])
theorem wp_cut_int {b : Int} : Wp (cutv h.length (.int b)) h Q ↔ Q (.int b) h := wp_cut0 (by simp [MV.free])
theorem wp_cut_non : Wp (cutv h.length .non) h Q ↔ Q .non h := wp_cut0 (by simp [MV.free])
theorem wp_cutv_raw {n : Nat} {v : MV} : Wp (cutv n v) h Q ↔ if v.free = true then Q v (h.take n) else Q v h := by
  simp only [wpR]; unfold WpR cutv; cases v.free <;> (first | exact Iff.rfl | (simp only [wpR]; exact Iff.rfl) | (simp only [wpR] at *; exact Iff.rfl))
end
end Mi

set_option Elab.async false
set_option linter.all false
set_option maxRecDepth 100000
set_option maxHeartbeats 4000000
/-! Mini, part Y: loops and comprehensions by invariants. -/
namespace Mi
open PySem PySem.Spec PyProof.Rows L2

section
variable {h : MH} {env : Ev}
theorem wp_loop {g : GM} {b : SM} {Q : Fl → MH → Prop} {vs : List MV} (P : Nat → Ev → MH → Prop) (h0 : P 0 env h)
    (step : ∀ i v env h, vs[i]? = some v → P i env h → Wp (g v env) h fun env' h1 => Wp (b env') h1 fun f h2 => asN f (fun env2 => P (i + 1) env2 h2) fun r => Q (.rt r) h2)
    (fin : ∀ env h, P vs.length env h → Q (.nx env) h) : Wp (loop g b vs env) h Q := by
  have go : ∀ (k i : Nat) (env : Ev) (h : MH), k + i = vs.length → P i env h → Wp (loop g b (vs.drop i) env) h Q := by
    intro k
    induction k with
    | zero =>
      intro i env h e p
      rw [List.drop_eq_nil_of_le (by omega)]
      have : i = vs.length := by omega
      subst this
      exact wp_pure.mpr (fin env h p)
    | succ k ih =>
      intro i env h e p
      have hi : i < vs.length := by omega
      rw [List.drop_eq_getElem_cons hi, loop_cons, wp_bind]
      refine (step i vs[i] env h (List.getElem?_eq_getElem hi) p).mono fun env' h1 w => ?_
      rw [wp_bind]
      refine w.mono fun f h2 q => ?_
      cases f with
      | nx env2 => exact ih (i + 1) env2 h2 (by omega) q
      | rt r => exact wp_pure.mpr q
  have := go vs.length 0 env h (by omega) h0
  rwa [List.drop_zero] at this
theorem wp_whl {c : BM} {b : SM} {Q : Fl → MH → Prop} (P : Nat → Ev → MH → Prop)
    (step : ∀ m env h, P m env h → Wp (c env) h fun d h1 => if d = true then Wp (b env) h1 fun f h2 => asN f (fun env2 => ∃ m', m' < m ∧ P m' env2 h2) fun r => Q (.rt r) h2 else Q (.nx env) h1) :
    ∀ (n m : Nat) (env : Ev) (h : MH), m < n → P m env h → Wp (whl c b n env) h Q := by
  intro n
  induction n with
  | zero => intro m env h hm; omega
  | succ n ih =>
    intro m env h hm p
    show Wp ((c env).bind fun d => if d then (b env).bind fun f => match f with
      | .nx env2 => whl c b n env2
      | .rt u => M.pure (.rt u)
    else M.pure (.nx env)) h Q
    rw [wp_bind]
    refine (step m env h p).mono fun d h1 w => ?_
    cases d with
    | true =>
      rw [if_pos rfl] at w ⊢
      rw [wp_bind]
      refine w.mono fun f h2 q => ?_
      cases f with
      | nx env2 =>
        obtain ⟨m', lt, p'⟩ := q
        exact ih m' env2 h2 (by omega) p'
      | rt r => exact wp_pure.mpr q
    | false => rw [if_neg (by decide)] at w ⊢; exact wp_pure.mpr w
theorem push_end {h : MH} {acc : List MV} {y : MV} {Q : Unit → MH → Prop} (hl : acc.length < sizeLine) (q : Q () (h ++ [some (.lst (acc ++ [y]))])) : Wp (push h.length y) (h ++ [some (.lst acc)]) Q := by
  have e : (h ++ [some (MObj.lst acc)])[h.length]? = some (some (.lst acc)) := by simp
  refine .of (a := ()) (h' := h ++ [some (.lst (acc ++ [y]))]) ?_ q
  unfold push
  simp [e, hl]
theorem wp_compI {it : AM} {g : GM} {tt : BM} {e : EM} {own : List Nat} {Q : MV → MH → Prop} {mt : Bool} {xs : List MV} {n : Nat} (P : Nat → MH → List MV → Prop) (hit : Wp (it env) h fun vs h1 => vs = xs ∧ h1.length = n ∧ P 0 h1 []) (few : xs.length ≤ sizeLine)
    (hb : ∀ i v h1 acc, xs[i]? = some v → h1.length = n → acc.length ≤ i → P i h1 acc → Wp (g v (wipeE env own)) (h1 ++ [some (.lst acc)]) fun env' h2 => Wp (tt env') h2 fun b h3 =>
      if b = true then Wp (e env') h3 fun y h4 => ∃ h5, h4 = h5 ++ [some (.lst acc)] ∧ h5.length = n ∧ P (i + 1) h5 (acc ++ [y]) else ∃ h5, h3 = h5 ++ [some (.lst acc)] ∧ h5.length = n ∧ P (i + 1) h5 acc)
    (fin : ∀ h1 acc, h1.length = n → P xs.length h1 acc → if mt = true then Q (.cell n) (h1 ++ [some (.lst acc)]) else MV.freeAll acc = true ∧ Q (.lst acc) h1) : Wp (comp mt it g tt e own env) h Q := by
  have go : ∀ (k i : Nat) (h1 : MH) (acc : List MV), k + i = xs.length → h1.length = n → acc.length ≤ i → P i h1 acc → Wp (cloop g tt e (wipeE env own) n (xs.drop i)) (h1 ++ [some (.lst acc)]) fun _ h2 => ∃ h3 acc', h2 = h3 ++ [some (.lst acc')] ∧ h3.length = n ∧ P xs.length h3 acc' := by
    intro k
    induction k with
    | zero =>
      intro i h1 acc ek hl _ p
      have : i = xs.length := by omega
      subst this
      rw [List.drop_length]
      exact wp_pure.mpr ⟨h1, acc, rfl, hl, p⟩
    | succ k ih =>
      intro i h1 acc ek hl ha p
      have hi : i < xs.length := by omega
      rw [List.drop_eq_getElem_cons hi]
      show Wp ((cturn g tt e (wipeE env own) n xs[i]).bind fun _ => cloop g tt e (wipeE env own) n (xs.drop (i + 1))) _ _
      rw [wp_bind]
      unfold cturn
      rw [wp_bind, wp_noX]
      refine (hb i xs[i] h1 acc (List.getElem?_eq_getElem hi) hl ha p).mono fun env' h2 w => ?_
      rw [wp_bind, wp_noX]
      refine w.mono fun b h3 w => ?_
      cases b with
      | true =>
        rw [if_pos rfl] at w ⊢
        rw [wp_bind, wp_noX]
        refine w.mono fun y h4 q => ?_
        obtain ⟨h5, rfl, hl5, p5⟩ := q
        rw [← hl5]
        refine push_end (by omega) ?_
        rw [hl5]
        exact ih (i + 1) h5 (acc ++ [y]) (by omega) hl5 (by simp; omega) p5
      | false =>
        rw [if_neg (by decide)] at w ⊢
        obtain ⟨h5, rfl, hl5, p5⟩ := w
        exact wp_pure.mpr (ih (i + 1) h5 acc (by omega) hl5 (by omega) p5)
  show Wp (M.bind (it env) (fun vs => (show M MV from fun h => ((cloop g tt e (wipeE env own) h.length vs).bind fun _ => cfin mt h.length) (h ++ [some (.lst [])])))) h Q
  refine wp_bind.mpr ?_
  refine hit.mono fun vs h1 q => ?_
  obtain ⟨rfl, hl, p⟩ := q
  have w := go vs.length 0 h1 [] (by omega) hl (by simp) p
  rw [List.drop_zero] at w
  refine wp_from ((cloop g tt e (wipeE env own) h1.length vs).bind fun _ => cfin mt h1.length) (h1 ++ [some (.lst [])]) ?_ rfl
  rw [hl]
  refine wp_bind.mpr ?_
  refine w.mono fun _ h2 q => ?_
  obtain ⟨h3, acc, rfl, hl3, p3⟩ := q
  have f := fin h3 acc hl3 p3
  have e3 : (h3 ++ [some (MObj.lst acc)])[n]? = some (some (.lst acc)) := by rw [← hl3]; simp
  cases mt with
  | true =>
    rw [if_pos rfl] at f
    exact .of (by unfold cfin; simp [e3]) f
  | false =>
    rw [if_neg (by decide)] at f
    refine .of (a := .lst acc) (h' := h3) ?_ f.2
    unfold cfin
    simp [e3, f.1, hl3]
/-- a comprehension that changes nothing -/
theorem wp_comp {it : AM} {g : GM} {tt : BM} {e : EM} {own : List Nat} {Q : MV → MH → Prop} (xs : List MV) (f : MV → Option MV) (hit : Wp (it env) h fun vs h1 => vs = xs ∧ h1 = h) (few : xs.length ≤ sizeLine)
    (hb : ∀ v ∈ xs, ∀ t, Wp (g v (wipeE env own)) (h ++ t) fun env' h2 => Wp (tt env') h2 fun b h3 => if b = true then Wp (e env') h3 fun y h4 => h4 = h ++ t ∧ f v = some y ∧ y.free = true else h3 = h ++ t ∧ f v = none)
    (q : Q (.lst (xs.filterMap f)) h) : Wp (comp false it g tt e own env) h Q := by
  refine wp_compI (xs := xs) (n := h.length) (fun i h1 acc => h1 = h ∧ acc = (xs.take i).filterMap f ∧ MV.freeAll acc = true) (hit.mono fun vs h1 z => ⟨z.1, by rw [z.2], z.2, by simp, rfl⟩) few ?_ ?_
  · rintro i v h1 acc hi hl _ ⟨rfl, ea, fa⟩
    have et : xs.take (i + 1) = xs.take i ++ [v] := by rw [List.take_add_one, hi]; rfl
    refine (hb v (List.mem_of_getElem? hi) [some (.lst acc)]).mono fun env' h2 w => w.mono fun b h3 w => ?_
    cases b with
    | true =>
      rw [if_pos rfl] at w ⊢
      refine w.mono fun y h4 z => ⟨h1, z.1, rfl, rfl, ?_, ?_⟩
      · rw [et, List.filterMap_append, ea]; simp [z.2.1]
      · have : ∀ (l : List MV), MV.freeAll l = true → MV.freeAll (l ++ [y]) = true := by
          intro l
          induction l with
          | nil => intro _; simp [MV.freeAll, z.2.2]
          | cons a l ih => intro q; simp only [MV.freeAll, Bool.and_eq_true] at q; simp only [List.cons_append, MV.freeAll, Bool.and_eq_true]; exact ⟨q.1, ih q.2⟩
        exact this acc fa
    | false =>
      rw [if_neg (by decide)] at w ⊢
      exact ⟨h1, w.1, rfl, rfl, by rw [et, List.filterMap_append, ea]; simp [w.2], fa⟩
  · rintro h1 acc hl ⟨rfl, ea, fa⟩
    rw [if_neg (by decide)]
    rw [List.take_length] at ea
    exact ⟨fa, by rw [ea]; exact q⟩
end
end Mi

set_option Elab.async false
set_option linter.all false
set_option maxRecDepth 100000
set_option maxHeartbeats 4000000
/-! Mini, part Z: the words on values, as rules for simp. -/
namespace Mi
open PySem PySem.Spec PyProof.Rows L2
section
variable {h : MH} {env : Ev} {Q : MV → MH → Prop} {Ql : List MV → MH → Prop} {Qu : Unit → MH → Prop}
theorem wp_le {i j : Int} : Wp (leM (.int i) (.int j)) h Q ↔ Q (.bl (decide (i ≤ j))) h := by first | exact Iff.rfl | (simp only [wpR]; exact Iff.rfl)
theorem wp_gt {i j : Int} : Wp (gtM (.int i) (.int j)) h Q ↔ Q (.bl (decide (j < i))) h := by first | exact Iff.rfl | (simp only [wpR]; exact Iff.rfl)
theorem wp_ge {i j : Int} : Wp (geM (.int i) (.int j)) h Q ↔ Q (.bl (decide (j ≤ i))) h := by first | exact Iff.rfl | (simp only [wpR]; exact Iff.rfl)
theorem wp_lt {i j : Int} : Wp (ltM (.int i) (.int j)) h Q ↔ Q (.bl (decide (i < j))) h := by first | exact Iff.rfl | (simp only [wpR]; exact Iff.rfl)
theorem wp_sub {i j : Int} : Wp (subM (.int i) (.int j)) h Q ↔ Q (.int (i - j)) h := by first | exact Iff.rfl | (simp only [wpR]; exact Iff.rfl)
theorem wp_add {mt : Bool} {i j : Int} : Wp (addM mt (.int i) (.int j)) h Q ↔ Q (.int (i + j)) h := by first | exact Iff.rfl | (simp only [wpR]; exact Iff.rfl)
theorem wp_neg {i : Int} : Wp (negM (.int i)) h Q ↔ Q (.int (-i)) h := by first | exact Iff.rfl | (simp only [wpR]; exact Iff.rfl)
theorem wp_mul {mt : Bool} {i j : Int} (c : (small64 i || small64 j) = true) : Wp (mulM mt (.int i) (.int j)) h Q ↔ Q (.int (i * j)) h := by
  show Wp (if (small64 i || small64 j) = true then M.pure (MV.int (i * j)) else M.stuck) h Q ↔ _
  rw [if_pos c]; (first | exact Iff.rfl | (simp only [wpR]; exact Iff.rfl) | (simp only [wpR] at *; exact Iff.rfl))
theorem wp_mod {i j : Int} (c : j ≠ 0) : Wp (modM (.int i) (.int j)) h Q ↔ Q (.int (i.fmod j)) h := by
  show Wp (if j = 0 then M.stuck else M.pure (MV.int (i.fmod j))) h Q ↔ _
  rw [if_neg c]; (first | exact Iff.rfl | (simp only [wpR]; exact Iff.rfl) | (simp only [wpR] at *; exact Iff.rfl))
theorem wp_isT {T : String} {v : MV} (c : noS v) : Wp (isTM T v) h Q ↔ Q (.bl (isSub v.ty T)) h := by
  cases v with
  | cell i => exact absurd rfl (c.c i)
  | lam i => exact absurd rfl (c.l i)
  | fn i => exact absurd rfl (c.f i)
  | _ => (first | exact Iff.rfl | (simp only [wpR]; exact Iff.rfl) | (simp only [wpR] at *; exact Iff.rfl))
theorem wp_is_non {neg : Bool} {a : MV} : Wp (isM neg a .non) h Q ↔ Q (.bl (if neg then !a.isNon else a.isNon)) h := by
  cases a <;> (first | exact Iff.rfl | (simp only [wpR]; exact Iff.rfl) | (simp only [wpR] at *; exact Iff.rfl))
/-! lists -/
def cellL (h : MH) (i : Nat) (xs : List MV) : Prop := h[i]? = some (some (.lst xs))
theorem wp_readC {i : Nat} {xs : List MV} (c : cellL h i xs) : Wp (readC i) h Ql ↔ Ql xs h := by
  simp only [wpR]; unfold WpR readC
  rw [show h[i]? = some (some (.lst xs)) from c]
theorem wp_itS_tup {xs : List MV} : Wp (itemsS (.tup xs)) h Ql ↔ Ql xs h := by first | exact Iff.rfl | (simp only [wpR]; exact Iff.rfl)
theorem wp_itS_lst {xs : List MV} : Wp (itemsS (.lst xs)) h Ql ↔ Ql xs h := by first | exact Iff.rfl | (simp only [wpR]; exact Iff.rfl)
theorem wp_itS_scr {xs : List MV} : Wp (itemsS (.scr xs)) h Ql ↔ Ql xs h := by first | exact Iff.rfl | (simp only [wpR]; exact Iff.rfl)
theorem wp_itS_cell {i : Nat} {xs : List MV} (c : cellL h i xs) : Wp (itemsS (.cell i)) h Ql ↔ Ql xs h := wp_readC c
theorem wp_itL_lst {xs : List MV} : Wp (itemsL (.lst xs)) h Ql ↔ Ql xs h := by first | exact Iff.rfl | (simp only [wpR]; exact Iff.rfl)
theorem wp_itL_cell {i : Nat} {xs : List MV} (c : cellL h i xs) : Wp (itemsL (.cell i)) h Ql ↔ Ql xs h := wp_readC c
theorem wp_itI_tup {xs : List MV} : Wp (itemsI (.tup xs)) h Ql ↔ Ql xs h := by first | exact Iff.rfl | (simp only [wpR]; exact Iff.rfl)
theorem wp_itI_lst {xs : List MV} : Wp (itemsI (.lst xs)) h Ql ↔ Ql xs h := by first | exact Iff.rfl | (simp only [wpR]; exact Iff.rfl)
theorem wp_itI_scr {xs : List MV} : Wp (itemsI (.scr xs)) h Ql ↔ Ql xs h := by first | exact Iff.rfl | (simp only [wpR]; exact Iff.rfl)
theorem wp_seqI {m : EM} : Wp (seqI m env) h Ql ↔ Wp (m env) h fun v h1 => Wp (itemsI v) h1 Ql := wp_bind
theorem wp_enumI {m : EM} : Wp (enumI m env) h Ql ↔ Wp (m env) h fun v h1 => Wp (itemsI v) h1 fun xs h2 => Ql (enumV xs) h2 := by
  unfold enumI; rw [wp_bind]; simp only [wp_bind, wp_pure]
theorem wp_zipI {m m2 : EM} : Wp (zipI m m2 env) h Ql ↔ Wp (m env) h fun v h1 => Wp (m2 env) h1 fun v2 h2 => Wp (itemsI v) h2 fun xs h3 => Wp (itemsI v2) h3 fun ys h4 => Ql (zipV xs ys) h4 := by
  unfold zipI; rw [wp_bind]; simp only [wp_bind, wp_pure]
theorem wp_len_tup {xs : List MV} : Wp (lenM [.tup xs]) h Q ↔ Q (.int (xs.length : Nat)) h := by first | exact Iff.rfl | (simp only [wpR]; exact Iff.rfl)
theorem wp_len_lst {xs : List MV} : Wp (lenM [.lst xs]) h Q ↔ Q (.int (xs.length : Nat)) h := by first | exact Iff.rfl | (simp only [wpR]; exact Iff.rfl)
theorem wp_len_scr {xs : List MV} : Wp (lenM [.scr xs]) h Q ↔ Q (.int (xs.length : Nat)) h := by first | exact Iff.rfl | (simp only [wpR]; exact Iff.rfl)
theorem wp_len_cell {i : Nat} {xs : List MV} (c : cellL h i xs) : Wp (lenM [.cell i]) h Q ↔ Q (.int (xs.length : Nat)) h := by
  show Wp ((itemsS (.cell i)).bind fun xs => M.pure (.int (xs.length : Nat))) h Q ↔ _
  rw [wp_bind, wp_itS_cell c, wp_pure]
theorem wp_ix_tup {xs : List MV} {i : Int} : Wp (ixM (.tup xs) (.int i)) h Q ↔ ∃ v, atI xs i = some v ∧ Q v h := by
  show Wp (match atI xs i with | some v => M.pure v | none => M.stuck) h Q ↔ _
  cases atI xs i with
  | none => exact ⟨fun z => (wp_stuck.mp z).elim, fun ⟨_, e, _⟩ => by cases e⟩
  | some v => exact wp_pure.trans ⟨fun z => ⟨v, rfl, z⟩, fun ⟨_, e, q⟩ => by cases e; exact q⟩
theorem wp_ix_lst {xs : List MV} {i : Int} : Wp (ixM (.lst xs) (.int i)) h Q ↔ ∃ v, atI xs i = some v ∧ Q v h := wp_ix_tup
theorem wp_ix_scr {xs : List MV} {i : Int} : Wp (ixM (.scr xs) (.int i)) h Q ↔ ∃ v, atI xs i = some v ∧ Q v h := wp_ix_tup
theorem wp_ix_cell {xs : List MV} {c : Nat} {i : Int} (e : cellL h c xs) : Wp (ixM (.cell c) (.int i)) h Q ↔ ∃ v, atI xs i = some v ∧ Q v h := by
  rw [← wp_ix_tup]
  show Wp ((itemsS (.cell c)).bind fun xs => match atI xs i with | some v => M.pure v | none => M.stuck) h Q ↔ _
  rw [wp_bind, wp_itS_cell e]; (first | exact Iff.rfl | (simp only [wpR]; exact Iff.rfl) | (simp only [wpR] at *; exact Iff.rfl))
theorem blsOf_map : ∀ bs : List Bool, blsOf (bs.map MV.bl) = some bs
  | [] => rfl
  | b :: bs => by simp [blsOf, blsOf_map bs]
theorem intsOf_map : ∀ ns : List Int, intsOf (ns.map MV.int) = some ns
  | [] => rfl
  | n :: ns => by simp [intsOf, intsOf_map ns]
theorem wp_bools {g : List Bool → Bool} {bs : List Bool} : Wp (boolsM g [.lst (bs.map .bl)]) h Q ↔ Q (.bl (g bs)) h := by
  show Wp (match blsOf (bs.map MV.bl) with | some bs => M.pure (.bl (g bs)) | none => M.stuck) h Q ↔ _
  rw [blsOf_map]; (first | exact Iff.rfl | (simp only [wpR]; exact Iff.rfl) | (simp only [wpR] at *; exact Iff.rfl))
theorem wp_tuple_lst {xs : List MV} : Wp (tupleM [.lst xs]) h Q ↔ Q (.tup xs) h := by first | exact Iff.rfl | (simp only [wpR]; exact Iff.rfl)
theorem wp_tuple_cell {i : Nat} {xs : List MV} (c : cellL h i xs) : Wp (tupleM [.cell i]) h Q ↔ Q (.tup xs) h := by
  show Wp ((itemsS (.cell i)).bind fun xs => M.pure (.tup xs)) h Q ↔ _
  rw [wp_bind, wp_itS_cell c, wp_pure]
theorem wp_setD {i : Nat} {xs ys : List MV} (c : cellL h i ys) (f : MV.cfAll xs = true) (l : xs.length ≤ sizeLine) : Wp (setC i xs) h Qu ↔ Qu () (h.set i (some (.lst xs))) := by
  simp only [wpR]; unfold WpR setC
  rw [show h[i]? = some (some (.lst ys)) from c]
  simp [f, l]
theorem wp_setC {i : Nat} {xs ys : List MV} (c : cellL h i ys) (f : MV.freeAll xs = true) (l : xs.length ≤ sizeLine) : Wp (setC i xs) h Qu ↔ Qu () (h.set i (some (.lst xs))) := wp_setD c (MV.freeAll_cf _ f) l
/-! comparing data -/
theorem sh_all {n : Nat} : ∀ {xs : List MV}, (∀ v ∈ xs, v.dat.canLay0 = true ∧ v.dat.depth ≤ n) → PyData.canLayAll0 (MV.datAll xs) = true ∧ PyData.depthAll (MV.datAll xs) ≤ n
  | [], _ => by simp [MV.datAll, PyData.canLayAll0, PyData.depthAll]
  | x :: xs, f => by
    have h1 := f x (by simp)
    have h2 := sh_all fun v hv => f v (List.mem_cons_of_mem _ hv)
    simp only [MV.datAll, PyData.canLayAll0, PyData.depthAll, Bool.and_eq_true]
    exact ⟨⟨h1.1, h2.1⟩, by omega⟩
def Sh (v : MV) (n : Nat) : Prop := v.dat.canLay0 = true ∧ v.dat.depth ≤ n
theorem sh_tup {n : Nat} {xs : List MV} (f : ∀ v ∈ xs, Sh v n) : Sh (.tup xs) (n + 1) := by
  have := sh_all f
  unfold Sh
  simp only [MV.dat, PyData.canLay0, PyData.depth]
  exact ⟨this.1, by omega⟩
theorem sh_lst {n : Nat} {xs : List MV} (f : ∀ v ∈ xs, Sh v n) : Sh (.lst xs) (n + 1) := by
  have := sh_all f
  unfold Sh
  simp only [MV.dat, PyData.canLay0, PyData.depth]
  exact ⟨this.1, by omega⟩
theorem sh_int {n : Nat} {i : Int} : Sh (.int i) n := by unfold Sh; simp [MV.dat, PyData.canLay0, PyData.depth]
theorem sh_bl {n : Nat} {i : Bool} : Sh (.bl i) n := by unfold Sh; simp [MV.dat, PyData.canLay0, PyData.depth]
theorem sh_non {n : Nat} : Sh .non n := by unfold Sh; simp [MV.dat, PyData.canLay0, PyData.depth]
theorem Sh.shaped {v : MV} {n : Nat} (s : Sh v n) (hn : n ≤ 64) : SeqAt.shaped v.dat = true := by
  unfold SeqAt.shaped
  simp only [Bool.and_eq_true, decide_eq_true_eq]
  exact ⟨s.1, Nat.le_trans s.2 hn⟩
theorem wp_eqD {neg : Bool} {a b : MV} {n k : Nat} (ca : ∀ i, a ≠ .cell i) (cb : ∀ i, b ≠ .cell i) (sa : Sh a n) (sb : Sh b k) (hn : n ≤ 64) (hk : k ≤ 64) : Wp (eqM neg a b) h Q ↔ Q (.bl (if neg then !PyData.eqv a.dat b.dat else PyData.eqv a.dat b.dat)) h := by
  have pa : pull a = M.pure a := by cases a with
    | cell i => exact absurd rfl (ca i)
    | _ => rfl
  have pb : pull b = M.pure b := by cases b with
    | cell i => exact absurd rfl (cb i)
    | _ => rfl
  unfold eqM
  rw [pa, pb, wp_bind, wp_pure, wp_bind, wp_pure, wp_ite, if_pos (by rw [sa.shaped hn, sb.shaped hk]; rfl), wp_pure]
theorem wp_eq_same {neg : Bool} {a : MV} {n : Nat} (ca : ∀ i, a ≠ .cell i) (sa : Sh a n) (hn : n ≤ 64) : Wp (eqM neg a a) h Q ↔ Q (.bl (!neg)) h := by
  rw [wp_eqD ca ca sa sa hn hn, SeqAt.eqv_refl _ sa.1]
  cases neg <;> (first | exact Iff.rfl | (simp only [wpR]; exact Iff.rfl) | (simp only [wpR] at *; exact Iff.rfl))
theorem wp_eq_int {neg : Bool} {i j : Int} : Wp (eqM neg (.int i) (.int j)) h Q ↔ Q (.bl (if neg then !(i == j) else i == j)) h := by
  rw [wp_eqD (fun _ e => by cases e) (fun _ e => by cases e) (sh_int (n := 0)) (sh_int (n := 0)) (by decide) (by decide)]
  simp only [MV.dat, PyData.eqv]
theorem bls_of (p : MV → Bool) : ∀ xs : List MV, xs.filterMap (fun v => some (MV.bl (p v))) = (xs.map p).map MV.bl
  | [] => rfl
  | x :: xs => by simp [bls_of p xs]
theorem wp_bComp {it : AM} {g : GM} {e : EM} {own : List Nat} {f : List Bool → Bool} (xs : List MV) (p : MV → Bool) (hit : Wp (it env) h fun vs h1 => vs = xs ∧ h1 = h) (few : xs.length ≤ sizeLine)
    (hb : ∀ v ∈ xs, ∀ t, Wp (g v (wipeE env own)) (h ++ t) fun env' h2 => Wp (e env') h2 fun y h4 => h4 = h ++ t ∧ y = .bl (p v))
    (q : Q (.bl (f (xs.map p))) h) : Wp (callE (boolsM f) (aCons (comp false it g bYes e own) aNil) env) h Q := by
  simp only [wp_callE, wp_aCons, wp_aNil]
  refine wp_comp xs (fun v => some (.bl (p v))) hit few (fun v hv t => (hb v hv t).mono fun env' h2 w => ?_) ?_
  · show Wp (M.pure true) h2 _
    rw [wp_pure, if_pos rfl]
    exact w.mono fun y h4 z => ⟨z.1, by rw [z.2], by rw [z.2]; simp [MV.free]⟩
  · rw [bls_of, wp_bools]; exact q
end
end Mi

set_option Elab.async false
set_option linter.all false
set_option maxRecDepth 100000
set_option maxHeartbeats 4000000
/-! Mini, part R: rows of new cells, changes in cells, cells made values. -/
namespace Mi
open PySem PySem.Spec PyProof.Rows L2
section
variable {h : MH} {env : Ev} {Q : MV → MH → Prop} {Qu : Unit → MH → Prop} {Ql : List MV → MH → Prop}
theorem cellL_at {h1 tl : MH} {xs : List MV} : cellL (h1 ++ some (.lst xs) :: tl) h1.length xs := by
  unfold cellL; simp
theorem set_mid {h1 tl : MH} {a b : Option MObj} : (h1 ++ a :: tl).set h1.length b = h1 ++ b :: tl := by
  simp
/-- [[] for .. in ..] -/
def cellsFrom' (n k : Nat) : List MV := (List.range k).map fun i => MV.cell (n + i)
theorem cells_succ (n k : Nat) : cellsFrom' n (k + 1) = cellsFrom' n k ++ [MV.cell (n + k)] := by
  unfold cellsFrom'; rw [List.range_succ, List.map_append]; rfl
theorem freeAll_app : ∀ (a b : List MV), MV.freeAll (a ++ b) = (MV.freeAll a && MV.freeAll b)
  | [], b => by simp [MV.freeAll]
  | x :: a, b => by simp [MV.freeAll, freeAll_app a b, Bool.and_assoc]
theorem wp_rows {it : AM} {i : Nat} {xs : List MV} (hit : Wp (it env) h fun vs h1 => vs = xs ∧ h1 = h) (few : xs.length ≤ sizeLine) (ne : xs ≠ [])
    (q : Q (.lst (cellsFrom' (h.length + 1) xs.length)) (h ++ none :: List.replicate xs.length (some (.lst [])))) : Wp (comp false it (gN i) bYes (lstD true aNil) [i] env) h Q := by
  have go : ∀ (k j : Nat), k + j = xs.length → Wp (cloop (gN i) bYes (lstD true aNil) (wipeE env [i]) h.length (xs.drop j)) (h ++ some (.lst (cellsFrom' (h.length + 1) j)) :: List.replicate j (some (.lst []))) fun _ h2 =>
      h2 = h ++ some (.lst (cellsFrom' (h.length + 1) xs.length)) :: List.replicate xs.length (some (.lst [])) := by
    intro k
    induction k with
    | zero =>
      intro j e
      have : j = xs.length := by omega
      subst this
      rw [List.drop_length]; exact wp_pure.mpr rfl
    | succ k ih =>
      intro j e
      have hj : j < xs.length := by omega
      rw [List.drop_eq_getElem_cons hj]
      show Wp ((cturn (gN i) bYes (lstD true aNil) (wipeE env [i]) h.length xs[j]).bind fun _ => cloop (gN i) bYes (lstD true aNil) (wipeE env [i]) h.length (xs.drop (j + 1))) _ _
      rw [wp_bind]
      unfold cturn
      rw [wp_bind, wp_noX, wp_gN, wp_bind, wp_noX]
      show Wp (M.pure true) _ _
      rw [wp_pure, if_pos rfl, wp_bind, wp_noX]
      simp only [wp_lstD, wp_aNil, wp_newT]
      refine ⟨rfl, ?_⟩
      have el : (h ++ some (MObj.lst (cellsFrom' (h.length + 1) j)) :: List.replicate j (some (MObj.lst []))).length = h.length + 1 + j := by simp; omega
      rw [el]
      have e2 : h ++ some (MObj.lst (cellsFrom' (h.length + 1) j)) :: List.replicate j (some (MObj.lst [])) ++ [some (.lst [])] = h ++ some (MObj.lst (cellsFrom' (h.length + 1) j)) :: List.replicate (j + 1) (some (MObj.lst [])) := by
        rw [List.replicate_succ']; simp
      rw [e2]
      have ih' := ih (j + 1) (by omega)
      refine .of (a := ()) (h' := h ++ some (.lst (cellsFrom' (h.length + 1) (j + 1))) :: List.replicate (j + 1) (some (.lst []))) ?_ ih'
      have small : (cellsFrom' (h.length + 1) j).length < sizeLine := by unfold cellsFrom'; simp; omega
      have e3 : (h ++ some (MObj.lst (cellsFrom' (h.length + 1) j)) :: List.replicate (j + 1) (some (MObj.lst [])))[h.length]? = some (some (.lst (cellsFrom' (h.length + 1) j))) := by simp
      unfold push
      simp only [e3, small, if_true, set_mid, cells_succ]
  show Wp (M.bind (it env) (fun vs => (show M MV from fun h => ((cloop (gN i) bYes (lstD true aNil) (wipeE env [i]) h.length vs).bind fun _ => cfin false h.length) (h ++ [some (.lst [])])))) h Q
  refine wp_bind.mpr (hit.mono fun vs h1 z => ?_)
  obtain ⟨rfl, rfl⟩ := z
  refine wp_from ((cloop (gN i) bYes (lstD true aNil) (wipeE env [i]) h1.length vs).bind fun _ => cfin false h1.length) (h1 ++ [some (.lst [])]) ?_ rfl
  refine wp_bind.mpr ?_
  have w := go vs.length 0 (by omega)
  rw [List.drop_zero] at w
  refine w.mono fun _ h2 z => ?_
  subst z
  have e3 : (h1 ++ some (MObj.lst (cellsFrom' (h1.length + 1) vs.length)) :: List.replicate vs.length (some (MObj.lst [])))[h1.length]? = some (some (.lst (cellsFrom' (h1.length + 1) vs.length))) := by simp
  have nf : MV.freeAll (cellsFrom' (h1.length + 1) vs.length) = false := by
    cases vs with
    | nil => exact absurd rfl ne
    | cons v r =>
      rw [List.length_cons, cells_succ, freeAll_app]
      simp [MV.freeAll, MV.free]
  refine .of (a := .lst (cellsFrom' (h1.length + 1) vs.length)) ?_ q
  unfold cfin
  simp only [e3, nf, Bool.false_and, set_mid]
  rfl
theorem atI_nat {A : Type} {xs : List A} {i : Int} (h0 : 0 ≤ i) (h1 : i < xs.length) : atI xs i = xs[i.toNat]? := by
  unfold atI ixN
  rw [if_pos h0, if_pos h1]; rfl
theorem at_cells {n k : Nat} {i : Int} (h0 : 0 ≤ i) (h1 : i < k) : atI (cellsFrom' n k) i = some (.cell (n + i.toNat)) := by
  rw [atI_nat h0 (by unfold cellsFrom'; simpa using h1)]
  unfold cellsFrom'
  rw [List.getElem?_map, List.getElem?_range (by omega)]
  rfl
theorem wp_app {i : Nat} {xs : List MV} {y : MV} (c : cellL h i xs) (fx : MV.freeAll xs = true) (fy : y.free = true) (l : xs.length < sizeLine) : Wp (appM (.cell i) [y]) h Q ↔ Q .non (h.set i (some (.lst (xs ++ [y])))) := by
  show Wp ((readC i).bind fun xs => if xs.length < sizeLine then (setC i (xs ++ [y])).bind fun _ => M.pure .non else M.stuck) h Q ↔ _
  rw [wp_bind, wp_readC c, wp_ite, if_pos l, wp_bind, wp_setC c (by rw [freeAll_app, fx]; simp [MV.freeAll, fy]) (by simp; omega), wp_pure]
theorem wp_isL_cell {i : Nat} {xs : List MV} (c : cellL h i xs) : Wp (isL (.cell i)) h Qu ↔ Qu () h := by
  show Wp ((readC i).bind fun _ => M.pure ()) h Qu ↔ _
  rw [wp_bind, wp_readC c, wp_pure]
theorem wp_isL_lst {xs : List MV} : Wp (isL (.lst xs)) h Qu ↔ Qu () h := by first | exact Iff.rfl | (simp only [wpR]; exact Iff.rfl)
theorem wp_isL_scr {xs : List MV} : Wp (isL (.scr xs)) h Qu ↔ Qu () h := by first | exact Iff.rfl | (simp only [wpR]; exact Iff.rfl)
theorem wp_ext {i : Nat} {xs ys : List MV} {v : MV} (w : itemsL v h = .ok ys h) (c : cellL h i xs) (fx : MV.freeAll xs = true) (fy : MV.freeAll ys = true) (l : xs.length + ys.length ≤ sizeLine) : Wp (extM (.cell i) [v]) h Q ↔ Q .non (h.set i (some (.lst (xs ++ ys)))) := by
  show Wp ((itemsL v).bind fun ys => (readC i).bind fun xs => if xs.length + ys.length ≤ sizeLine then (setC i (xs ++ ys)).bind fun _ => M.pure .non else M.stuck) h Q ↔ _
  rw [wp_bind]
  have e : ∀ {P : List MV → MH → Prop}, Wp (itemsL v) h P ↔ P ys h := fun {P} => by simp only [wpR]; unfold WpR; rw [w]
  rw [e, wp_bind, wp_readC c, wp_ite, if_pos l, wp_bind, wp_setC c (by rw [freeAll_app, fx, fy]; rfl) (by simpa using l), wp_pure]
theorem wp_set {i : Nat} {xs : List MV} {j : Int} {v : MV} (c : cellL h i xs) (fx : MV.freeAll xs = true) (fv : v.free = true) (l : xs.length ≤ sizeLine) (h0 : 0 ≤ j) (h1 : j < xs.length) : Wp (setM (.cell i) (.int j) v) h Qu ↔ Qu () (h.set i (some (.lst (xs.set j.toNat v)))) := by
  show Wp ((readC i).bind fun xs => match ixN xs.length j with | some n => setC i (xs.set n v) | none => M.stuck) h Qu ↔ _
  have e : ixN xs.length j = some j.toNat := by unfold ixN; rw [if_pos h0, if_pos h1]
  have fs : ∀ (xs : List MV) (n : Nat), MV.freeAll xs = true → MV.freeAll (xs.set n v) = true := by
    intro xs
    induction xs with
    | nil => intro n _; simp [MV.freeAll]
    | cons x xs ih =>
      intro n f
      simp only [MV.freeAll, Bool.and_eq_true] at f
      cases n with
      | zero => simp only [List.set_cons_zero, MV.freeAll, Bool.and_eq_true]; exact ⟨fv, f.2⟩
      | succ n => simp only [List.set_cons_succ, MV.freeAll, Bool.and_eq_true]; exact ⟨f.1, ih n f.2⟩
  rw [wp_bind, wp_readC c]
  simp only [e]
  rw [wp_setC c (fs _ _ fx) (by simpa using l)]
theorem wp_pop {i : Nat} {xs : List MV} {y : MV} (c : cellL h i (xs ++ [y])) (fx : MV.freeAll xs = true) (l : xs.length ≤ sizeLine) : Wp (popM (.cell i) []) h Q ↔ Q y (h.set i (some (.lst xs))) := by
  show Wp ((readC i).bind fun xs => match xs[xs.length - 1]? with | some y => (setC i xs.dropLast).bind fun _ => M.pure y | none => M.stuck) h Q ↔ _
  have e : (xs ++ [y])[(xs ++ [y]).length - 1]? = some y := by simp
  rw [wp_bind, wp_readC c]
  simp only [e]
  rw [List.dropLast_concat, wp_bind, wp_setC c fx l, wp_pure]
theorem frz_free : ∀ (n : Nat) (v : MV) (h : MH), v.free = true → frz n v h = .ok v h
  | 0, v, h, f => by unfold frz; rw [if_pos f]; rfl
  | n + 1, v, h, f => by
    have all : ∀ (xs : List MV), MV.freeAll xs = true → mapF (frz n) xs h = .ok xs h := by
      intro xs
      induction xs with
      | nil => intro _; rfl
      | cons x xs ih =>
        intro q
        simp only [MV.freeAll, Bool.and_eq_true] at q
        unfold mapF M.bind
        simp only [frz_free n x h q.1, ih q.2]
        rfl
    cases v with
    | cell i => simp [MV.free] at f
    | tup xs =>
      unfold frz M.bind
      simp only [all xs (by simpa only [MV.free] using f)]; rfl
    | lst xs =>
      unfold frz M.bind
      simp only [all xs (by simpa only [MV.free] using f)]; rfl
    | non => rfl
    | bl _ => rfl
    | int _ => rfl
    | str _ => rfl
    | scr _ => rfl
    | err _ _ => rfl
    | lam _ => rfl
    | fn _ => rfl
theorem wp_frz_free {n : Nat} {v : MV} (f : v.free = true) : Wp (frz n v) h Q ↔ Q v h := by
  simp only [wpR]; unfold WpR; rw [frz_free n v h f]
theorem mapF_free {n : Nat} : ∀ {xs : List MV} {h : MH}, MV.freeAll xs = true → mapF (frz n) xs h = .ok xs h
  | [], h, _ => rfl
  | x :: xs, h, f => by
    simp only [MV.freeAll, Bool.and_eq_true] at f
    unfold mapF M.bind
    simp only [frz_free n x h f.1, mapF_free f.2]
    rfl
theorem wp_frz_cell {n i : Nat} {xs : List MV} (c : cellL h i xs) (f : MV.freeAll xs = true) : Wp (frz (n + 1) (.cell i)) h Q ↔ Q (.lst xs) (h.set i none) := by
  show Wp ((readC i).bind fun xs => (mapF (frz n) xs).bind fun ys => dropC i ys) h Q ↔ _
  rw [wp_bind, wp_readC c, wp_bind]
  have e : ∀ {P : List MV → MH → Prop}, Wp (mapF (frz n) xs) h P ↔ P xs h := fun {P} => by simp only [wpR]; unfold WpR; rw [mapF_free f]
  rw [e]
  simp only [wpR]; unfold WpR dropC
  rw [show h[i]? = some (some (.lst xs)) from c]
theorem frz_rows {n : Nat} {tl : MH} : ∀ (rows : List (List MV)) (h1 : MH) (m : Nat), m = h1.length → (∀ r ∈ rows, MV.freeAll r = true) →
    mapF (frz (n + 1)) (cellsFrom' m rows.length) (h1 ++ (rows.map fun r => some (.lst r)) ++ tl) = .ok (rows.map .lst) (h1 ++ List.replicate rows.length none ++ tl)
  | [], h1, m, _, _ => by simp [cellsFrom', mapF]; rfl
  | r :: rows, h1, m, em, f => by
    subst em
    have ec : cellsFrom' h1.length (r :: rows).length = .cell h1.length :: cellsFrom' (h1.length + 1) rows.length := by
      unfold cellsFrom'
      rw [List.length_cons, List.range_succ_eq_map, List.map_cons, List.map_map]
      congr 1
      apply List.map_congr_left
      intro a _
      show MV.cell (h1.length + (a + 1)) = MV.cell (h1.length + 1 + a)
      congr 1; omega
    rw [ec]
    unfold mapF M.bind
    have w := (wp_frz_cell (n := n) (h := h1 ++ ((r :: rows).map fun r => some (MObj.lst r)) ++ tl) (i := h1.length) (xs := r) (Q := fun v h' => v = .lst r ∧ h' = h1 ++ none :: ((rows.map fun r => some (MObj.lst r)) ++ tl)) (by unfold cellL; simp) (f r (by simp))).mpr ⟨rfl, by simp⟩
    obtain ⟨v, h', e, rfl, rfl⟩ := w.ok
    simp only [e]
    have ih := frz_rows (n := n) (tl := tl) rows (h1 ++ [none]) (h1.length + 1) (by simp) fun q hq => f q (List.mem_cons_of_mem _ hq)
    have e2 : h1 ++ none :: ((rows.map fun r => some (MObj.lst r)) ++ tl) = (h1 ++ [none]) ++ (rows.map fun r => some (MObj.lst r)) ++ tl := by simp
    rw [e2, ih]
    simp [M.pure, List.replicate_succ]
theorem wp_frz_rows {n : Nat} {h1 tl : MH} {rows : List (List MV)} {m : Nat} (em : m = h1.length) (f : ∀ r ∈ rows, MV.freeAll r = true) :
    Wp (frz (n + 2) (.lst (cellsFrom' m rows.length))) (h1 ++ (rows.map fun r => some (.lst r)) ++ tl) Q ↔ Q (.lst (rows.map .lst)) (h1 ++ List.replicate rows.length none ++ tl) := by
  show Wp ((mapF (frz (n + 1)) (cellsFrom' m rows.length)).bind fun ys => M.pure (.lst ys)) _ Q ↔ _
  rw [wp_bind]
  simp only [wpR]; unfold WpR
  rw [frz_rows rows h1 m em f]
  (first | exact Iff.rfl | (simp only [wpR]; exact Iff.rfl) | (simp only [wpR] at *; exact Iff.rfl))
theorem ix2 {A : Type} {x y z : A} {l : List A} : atI (x :: y :: z :: l) 2 = some z := by
  rw [atI_nat (by decide) (by simp [List.length_cons] <;> omega)]; rfl
theorem wp_cut_len {n : Nat} {v : MV} (e : h.length = n) (f : v.free = true) : Wp (cutv n v) h Q ↔ Q v h := by
  subst e; exact wp_cut0 f
theorem cell_lt {i : Nat} {xs : List MV} (c : cellL h i xs) : i < h.length := (List.getElem?_eq_some_iff.mp c).1
theorem cell_set {i : Nat} {xs : List MV} (hi : i < h.length) : cellL (h.set i (some (.lst xs))) i xs := by
  unfold cellL; rw [List.getElem?_set_self hi]
theorem cell_set_ne {i j : Nat} {xs : List MV} {o : Option MObj} (ne : i ≠ j) (c : cellL h j xs) : cellL (h.set i o) j xs := by
  unfold cellL at *; rw [List.getElem?_set_ne ne]; exact c
theorem cell_app {i : Nat} {xs : List MV} (t : MH) (c : cellL h i xs) : cellL (h ++ t) i xs := by
  unfold cellL at *; rw [List.getElem?_append_left (List.getElem?_eq_some_iff.mp c).1]; exact c
theorem wp_int_int {i : Int} : Wp (intM [.int i]) h Q ↔ Q (.int i) h := by first | exact Iff.rfl | (simp only [wpR]; exact Iff.rfl)
theorem wp_int_bl {b : Bool} : Wp (intM [.bl b]) h Q ↔ Q (.int (if b then 1 else 0)) h := by first | exact Iff.rfl | (simp only [wpR]; exact Iff.rfl)
theorem wp_abs {i : Int} : Wp (absM [.int i]) h Q ↔ Q (.int (if i < 0 then -i else i)) h := by first | exact Iff.rfl | (simp only [wpR]; exact Iff.rfl)
theorem wp_pow {i j : Int} (c : 0 ≤ j ∧ j ≤ 1000 ∧ i.natAbs < big256) : Wp (powM (.int i) (.int j)) h Q ↔ Q (.int (i ^ j.toNat)) h := by
  show Wp (if 0 ≤ j ∧ j ≤ 1000 ∧ i.natAbs < big256 then M.pure (MV.int (i ^ j.toNat)) else M.stuck) h Q ↔ _
  rw [if_pos c, wp_pure]
theorem wp_fdiv {i j : Int} (c : j ≠ 0 ∧ j.natAbs < 1073741824) : Wp (fdivM (.int i) (.int j)) h Q ↔ Q (.int (i.fdiv j)) h := by
  show Wp (if j ≠ 0 ∧ j.natAbs < 1073741824 then M.pure (MV.int (i.fdiv j)) else if 0 < j ∧ j.natAbs.log2 < 9000 then M.pure (MV.int (i / j)) else M.stuck) h Q ↔ _
  rw [if_pos c, wp_pure]
theorem small64_of {i : Int} (a : -10000000000000000000 ≤ i) (b : i ≤ 10000000000000000000) : small64 i = true := by
  unfold small64; exact decide_eq_true (by omega)
theorem wp_sum {ns : List Int} : Wp (sumM [.lst (ns.map .int)]) h Q ↔ Q (.int ns.sum) h := by
  show Wp (match intsOf (ns.map MV.int) with | some ns => M.pure (.int ns.sum) | none => M.stuck) h Q ↔ _
  rw [intsOf_map, wp_pure]
theorem wp_sl_scr {mt : Bool} {xs : List MV} {lo hi : Option Int} : Wp (slM mt (.scr xs) lo hi) h Q ↔ Wp (newL mt (cutA xs lo hi)) h Q := Iff.rfl
theorem cut_map (ns : List Int) (lo hi : Option Int) : ∃ ms : List Int, cutA (ns.map .int) lo hi = ms.map .int := by
  unfold cutA
  exact ⟨(ns.drop (HT.sIx (ns.map MV.int).length 0 lo)).take (HT.sIx (ns.map MV.int).length (ns.map MV.int).length hi - HT.sIx (ns.map MV.int).length 0 lo), by rw [List.map_take, List.map_drop]⟩
theorem free_erase : ∀ (xs : List MV) (n : Nat), MV.freeAll xs = true → MV.freeAll (xs.eraseIdx n) = true
  | [], n, _ => by simp [MV.freeAll]
  | x :: xs, 0, f => by simp only [MV.freeAll, Bool.and_eq_true] at f; exact f.2
  | x :: xs, n + 1, f => by
    simp only [MV.freeAll, Bool.and_eq_true] at f
    simp only [List.eraseIdx_cons_succ, MV.freeAll, Bool.and_eq_true]
    exact ⟨f.1, free_erase xs n f.2⟩
theorem wp_popAt {i j : Nat} {xs : List MV} {y : MV} (c : cellL h i xs) (e : xs[j]? = some y) (fx : MV.freeAll xs = true) (l : xs.length ≤ sizeLine) : Wp (popM (.cell i) [.int j]) h Q ↔ Q y (h.set i (some (.lst (xs.eraseIdx j)))) := by
  show Wp ((readC i).bind fun xs => match ixN xs.length j with | some n => (match xs[n]? with | some y => (setC i (xs.eraseIdx n)).bind fun _ => M.pure y | none => M.stuck) | none => M.stuck) h Q ↔ _
  have hj := (List.getElem?_eq_some_iff.mp e).1
  have e1 : ixN xs.length (j : Int) = some j := by unfold ixN; rw [if_pos (by omega), if_pos (by omega)]; simp
  rw [wp_bind, wp_readC c]
  simp only [e1, e]
  rw [wp_bind, wp_setC c (free_erase xs j fx) (Nat.le_trans (List.length_eraseIdx_le _ _) l), wp_pure]
theorem srtB_map {A B : Type} {f : B → Int} {t : A → B} : ∀ l : List A, srtB f (l.map t) = (srtB (fun a => f (t a)) l).map t
  | [] => rfl
  | x :: l => by
    have ins : ∀ (y : A) (r : List A), insB f (t y) (r.map t) = (insB (fun a => f (t a)) y r).map t := by
      intro y r
      induction r with
      | nil => rfl
      | cons z r ih =>
        rw [List.map_cons]
        unfold insB
        by_cases c : f (t y) ≤ f (t z)
        · rw [if_pos c, if_pos c]; rfl
        · rw [if_neg c, if_neg c, List.map_cons, ih]
    rw [List.map_cons]
    show insB f (t x) (srtB f (l.map t)) = _
    rw [srtB_map l, ins]; rfl
theorem wp_list_lst {mt : Bool} {xs : List MV} : Wp (listM mt [.lst xs]) h Q ↔ Wp (newL mt xs) h Q := Iff.rfl
def rowsH (h1 : MH) (rows : List (List MV)) (tl : MH) : MH := h1 ++ (rows.map fun r => some (MObj.lst r)) ++ tl
theorem cell_row {h1 tl : MH} {rows : List (List MV)} {j : Nat} {r : List MV} (hj : rows[j]? = some r) : cellL (rowsH h1 rows tl) (h1.length + j) r := by
  have hlt := (List.getElem?_eq_some_iff.mp hj).1
  unfold cellL rowsH
  rw [List.append_assoc, List.getElem?_append_right (by omega), Nat.add_sub_cancel_left, List.getElem?_append_left (by simpa using hlt), List.getElem?_map, hj]
  rfl
theorem set_row {h1 tl : MH} {rows : List (List MV)} {j : Nat} {r : List MV} (hj : j < rows.length) : (rowsH h1 rows tl).set (h1.length + j) (some (.lst r)) = rowsH h1 (rows.set j r) tl := by
  unfold rowsH
  rw [List.append_assoc, List.set_append_right _ _ (by omega), Nat.add_sub_cancel_left, List.set_append_left _ _ (by simpa using hj), ← List.map_set, List.append_assoc]
theorem rows_new (h : MH) (k : Nat) : h ++ none :: List.replicate k (some (.lst [])) = rowsH (h ++ [none]) (List.replicate k []) [] := by
  unfold rowsH; simp
theorem rows_len {h1 tl : MH} {rows : List (List MV)} : (rowsH h1 rows tl).length = h1.length + rows.length + tl.length := by unfold rowsH; simp; omega
/-- a list to be read: by value, or a cell -/
def RdL (h : MH) (v : MV) (xs : List MV) : Prop := v = .lst xs ∨ ∃ i, v = .cell i ∧ cellL h i xs
theorem RdL.app {v : MV} {xs : List MV} (r : RdL h v xs) (t : MH) : RdL (h ++ t) v xs := by
  rcases r with e | ⟨i, e, c⟩
  · exact .inl e
  · refine .inr ⟨i, e, ?_⟩
    unfold cellL at c ⊢
    rw [List.getElem?_append_left (List.getElem?_eq_some_iff.mp c).1]; exact c
theorem wp_ix_rd {v : MV} {xs : List MV} {i : Int} (r : RdL h v xs) : Wp (ixM v (.int i)) h Q ↔ ∃ y, atI xs i = some y ∧ Q y h := by
  rcases r with rfl | ⟨c, rfl, e⟩
  · exact wp_ix_lst
  · exact wp_ix_cell e
theorem wp_len_rd {v : MV} {xs : List MV} (r : RdL h v xs) : Wp (lenM [v]) h Q ↔ Q (.int (xs.length : Nat)) h := by
  rcases r with rfl | ⟨c, rfl, e⟩
  · exact wp_len_lst
  · exact wp_len_cell e
/-- something to be walked: by value -/
def seqV (b : Bool) (xs : List MV) : MV := if b then .tup xs else .lst xs
theorem wp_itI_seq {b : Bool} {xs : List MV} : Wp (itemsI (seqV b xs)) h Ql ↔ Ql xs h := by cases b <;> (first | exact Iff.rfl | (simp only [wpR]; exact Iff.rfl) | (simp only [wpR] at *; exact Iff.rfl))
theorem wp_rng {i j : Int} (c : -1000000 ≤ i ∧ i ≤ 1000000 ∧ -1000000 ≤ j ∧ j ≤ 1000000) {a b : EM} {env : Ev} (ha : Wp (a env) h fun x h1 => x = .int i ∧ h1 = h) (hb : Wp (b env) h fun x h1 => x = .int j ∧ h1 = h) : Wp (rngI a b (con (.int 1)) env) h Ql ↔ Ql (rgA i j) h := by
  obtain ⟨x, h1, e1, ex, eh⟩ := ha.ok
  obtain ⟨y, h2, e2, ey, eh2⟩ := hb.ok
  rw [ex, eh] at e1
  rw [ey, eh2] at e2
  unfold rngI
  rw [wp_bind]
  have w1 : ∀ {P : MV → MH → Prop}, Wp (a env) h P ↔ P (.int i) h := fun {P} => by simp only [wpR]; unfold WpR; rw [e1]
  have w2 : ∀ {P : MV → MH → Prop}, Wp (b env) h P ↔ P (.int j) h := fun {P} => by simp only [wpR]; unfold WpR; rw [e2]
  rw [w1, wp_bind, w2, wp_bind, wp_con]
  show Wp (if decide (-4611686018427387904 ≤ i ∧ i < 4611686018427387904 ∧ -4611686018427387904 ≤ j ∧ j < 4611686018427387904) = true then M.pure (rgA i j) else M.stuck) h Ql ↔ _
  rw [if_pos (decide_eq_true (by omega)), wp_pure]
theorem wp_rng0 {n : Nat} (c : n ≤ 100000) {b : EM} {env : Ev} (hb : Wp (b env) h fun x h1 => x = .int n ∧ h1 = h) : Wp (rngI (con (.int 0)) b (con (.int 1)) env) h Ql ↔ Ql (rgA 0 n) h :=
  wp_rng (by omega) (wp_con.mpr ⟨rfl, rfl⟩) hb
theorem ix0 {A : Type} {x : A} {l : List A} : atI (x :: l) 0 = some x := by
  rw [atI_nat (by decide) (by simp [List.length_cons] <;> omega)]; rfl
theorem ix1 {A : Type} {x y : A} {l : List A} : atI (x :: y :: l) 1 = some y := by
  rw [atI_nat (by decide) (by simp [List.length_cons] <;> omega)]; rfl
theorem wp_max2 {i j : Int} : Wp (maxM [.int i, .int j]) h Q ↔ Q (.int (if j > i then j else i)) h := by first | exact Iff.rfl | (simp only [wpR]; exact Iff.rfl)
theorem wp_min2 {i j : Int} : Wp (minM [.int i, .int j]) h Q ↔ Q (.int (if j < i then j else i)) h := by first | exact Iff.rfl | (simp only [wpR]; exact Iff.rfl)
theorem wp_maxL {n : Int} {r : List Int} : Wp (maxM [.lst ((n :: r).map .int)]) h Q ↔ Q (.int (maxL n r)) h := by
  show Wp (match intsOf ((n :: r).map MV.int) with | some (n :: r) => M.pure (.int (maxL n r)) | _ => M.stuck) h Q ↔ _
  rw [intsOf_map]; (first | exact Iff.rfl | (simp only [wpR]; exact Iff.rfl) | (simp only [wpR] at *; exact Iff.rfl))
theorem wp_minL {n : Int} {r : List Int} : Wp (minM [.lst ((n :: r).map .int)]) h Q ↔ Q (.int (minL n r)) h := by
  show Wp (match intsOf ((n :: r).map MV.int) with | some (n :: r) => M.pure (.int (minL n r)) | _ => M.stuck) h Q ↔ _
  rw [intsOf_map]; (first | exact Iff.rfl | (simp only [wpR]; exact Iff.rfl) | (simp only [wpR] at *; exact Iff.rfl))
/-- xs == [], of ints by value -/
theorem wp_nil_ints {neg : Bool} {l : List Int} : Wp (eqM neg (.lst (l.map .int)) (.lst [])) h Q ↔ Q (.bl (if neg then !l.isEmpty else l.isEmpty)) h := by
  rw [wp_eqD (n := 1) (k := 1) (fun _ e => by cases e) (fun _ e => by cases e) (sh_lst fun v hv => by obtain ⟨x, _, rfl⟩ := List.mem_map.mp hv; exact sh_int) (sh_lst fun v hv => by simp at hv) (by decide) (by decide)]
  have e : PyData.eqv (MV.dat (.lst (l.map .int))) (MV.dat (.lst [])) = l.isEmpty := by
    cases l with
    | nil => rfl
    | cons a l => rfl
  rw [e]
end
end Mi

set_option Elab.async false
set_option linter.all false
set_option maxRecDepth 100000
set_option maxHeartbeats 4000000
/-! Mini, part T: lists that are images; comprehensions and loops over them. -/
namespace Mi
open PySem PySem.Spec PyProof.Rows L2
section
variable {h : MH} {env : Ev} {Q : MV → MH → Prop} {Qb : Bool → MH → Prop} {Ql : List MV → MH → Prop} {A B C : Type}
theorem sl_le {n : Nat} (h : n ≤ 100000) : n ≤ sizeLine := Nat.le_trans h (by decide)
theorem sl_lt {n : Nat} (h : n < 100000) : n < sizeLine := Nat.lt_of_lt_of_le h (by decide)
theorem wp_bYes : Wp (bYes env) h Qb ↔ Qb true h := wp_pure
theorem wp_bIff {c a b : BM} : Wp (bIff c a b env) h Qb ↔ Wp (c env) h fun d h1 => if d then Wp (a env) h1 Qb else Wp (b env) h1 Qb := by
  unfold bIff; rw [wp_bind]; simp only [wp_ite]
theorem wp_sPar3 {i j l : Nat} {a : AM} {Qf : Fl → MH → Prop} : Wp (sPar3 i j l a env) h Qf ↔ Wp (a env) h fun vs h1 => ∃ u v w, vs = [u, v, w] ∧ Qf (.nx (((env.set i (some u)).set j (some v)).set l (some w))) h1 := by
  unfold sPar3; rw [wp_bind]
  refine wp_congr fun vs h1 => ?_
  match vs with
  | [u, v, w] => exact wp_pure.trans ⟨fun q => ⟨u, v, w, rfl, q⟩, fun ⟨_, _, _, e, q⟩ => by cases e; exact q⟩
  | [] => exact ⟨fun q => (wp_stuck.mp q).elim, fun ⟨_, _, _, e, _⟩ => by cases e⟩
  | [_] => exact ⟨fun q => (wp_stuck.mp q).elim, fun ⟨_, _, _, e, _⟩ => by cases e⟩
  | [_, _] => exact ⟨fun q => (wp_stuck.mp q).elim, fun ⟨_, _, _, e, _⟩ => by cases e⟩
  | _ :: _ :: _ :: _ :: _ => exact ⟨fun q => (wp_stuck.mp q).elim, fun ⟨_, _, _, e, _⟩ => by cases e⟩
theorem freeAll_mem : ∀ {xs : List MV}, (∀ x ∈ xs, x.free = true) → MV.freeAll xs = true
  | [], _ => rfl
  | x :: xs, f => by simp only [MV.freeAll, Bool.and_eq_true]; exact ⟨f x (by simp), freeAll_mem fun y hy => f y (List.mem_cons_of_mem _ hy)⟩
theorem mem_freeAll : ∀ {xs : List MV}, MV.freeAll xs = true → ∀ x ∈ xs, x.free = true
  | x :: xs, f, y, hy => by
    simp only [MV.freeAll, Bool.and_eq_true] at f
    rcases List.mem_cons.mp hy with rfl | hy
    · exact f.1
    · exact mem_freeAll f.2 y hy
theorem freeAll_map {f : A → MV} {l : List A} (hf : ∀ a ∈ l, (f a).free = true) : MV.freeAll (l.map f) = true :=
  freeAll_mem fun x hx => by obtain ⟨a, ha, rfl⟩ := List.mem_map.mp hx; exact hf a ha
theorem free_of_tup {xs : List MV} (f : MV.freeAll xs = true) : (MV.tup xs).free = true := by simpa only [MV.free] using f
theorem free_of_lst {xs : List MV} (f : MV.freeAll xs = true) : (MV.lst xs).free = true := by simpa only [MV.free] using f
theorem fmap_some {f : A → B} : ∀ l : List A, l.filterMap (fun a => some (f a)) = l.map f
  | [] => rfl
  | a :: l => by simp
/-- [f a for a in l] -/
theorem wp_cmp {it : AM} {g : GM} {e : EM} {own : List Nat} (l : List A) (enc : A → MV) (f : A → MV) (hit : Wp (it env) h fun vs h1 => vs = l.map enc ∧ h1 = h) (few : l.length ≤ 100000)
    (hb : ∀ a ∈ l, ∀ t, Wp (g (enc a) (wipeE env own)) (h ++ t) fun env' h2 => Wp (e env') h2 fun y h4 => h4 = h ++ t ∧ y = f a ∧ y.free = true)
    (q : Q (.lst (l.map f)) h) : Wp (comp false it g bYes e own env) h Q := by
  refine wp_compI (xs := l.map enc) (n := h.length) (fun i h1 acc => h1 = h ∧ acc = (l.take i).map f ∧ MV.freeAll acc = true) (hit.mono fun vs h1 z => ⟨z.1, by rw [z.2], z.2, by simp, rfl⟩) (sl_le (by simpa using few)) ?_ ?_
  · rintro i v h1 acc hi hl _ ⟨rfl, ea, fa⟩
    rw [List.getElem?_map] at hi
    cases ei : l[i]? with
    | none => rw [ei] at hi; cases hi
    | some a =>
      rw [ei] at hi; cases hi
      refine (hb a (List.mem_of_getElem? ei) [some (.lst acc)]).mono fun env' h2 w => ?_
      rw [wp_bYes, if_pos rfl]
      refine w.mono fun y h4 z => ⟨h1, z.1, rfl, rfl, ?_, ?_⟩
      · rw [List.take_add_one, ei, List.map_append, ea, z.2.1]; rfl
      · rw [freeAll_app, fa]; simp [MV.freeAll, z.2.2]
  · rintro h1 acc hl ⟨rfl, ea, fa⟩
    rw [if_neg (by decide)]
    rw [List.length_map, List.take_length] at ea
    exact ⟨fa, by rw [ea]; exact q⟩
/-- [f a for a in l if p a] -/
theorem wp_cmpF {it : AM} {g : GM} {tt : BM} {e : EM} {own : List Nat} (l : List A) (enc : A → MV) (p : A → Bool) (f : A → MV) (hit : Wp (it env) h fun vs h1 => vs = l.map enc ∧ h1 = h) (few : l.length ≤ 100000)
    (hb : ∀ a ∈ l, ∀ t, Wp (g (enc a) (wipeE env own)) (h ++ t) fun env' h2 => Wp (tt env') h2 fun b h3 => b = p a ∧ h3 = h ++ t ∧ (p a = true → Wp (e env') (h ++ t) fun y h4 => h4 = h ++ t ∧ y = f a ∧ y.free = true))
    (q : Q (.lst ((l.filter p).map f)) h) : Wp (comp false it g tt e own env) h Q := by
  refine wp_compI (xs := l.map enc) (n := h.length) (fun i h1 acc => h1 = h ∧ acc = ((l.take i).filter p).map f ∧ MV.freeAll acc = true) (hit.mono fun vs h1 z => ⟨z.1, by rw [z.2], z.2, by simp, rfl⟩) (sl_le (by simpa using few)) ?_ ?_
  · rintro i v h1 acc hi hl _ ⟨rfl, ea, fa⟩
    rw [List.getElem?_map] at hi
    cases ei : l[i]? with
    | none => rw [ei] at hi; cases hi
    | some a =>
      rw [ei] at hi; cases hi
      refine (hb a (List.mem_of_getElem? ei) [some (.lst acc)]).mono fun env' h2 w => ?_
      refine w.mono fun b h3 z => ?_
      obtain ⟨rfl, rfl, w2⟩ := z
      cases c : p a with
      | true =>
        rw [if_pos rfl]
        refine (w2 c).mono fun y h4 z => ⟨h1, z.1, rfl, rfl, ?_, ?_⟩
        · rw [List.take_add_one, ei, List.filter_append, List.map_append, ea, z.2.1]
          simp [c]
        · rw [freeAll_app, fa]; simp [MV.freeAll, z.2.2]
      | false =>
        rw [if_neg (by decide)]
        exact ⟨h1, rfl, rfl, rfl, by rw [List.take_add_one, ei, List.filter_append, ea]; simp [c], fa⟩
  · rintro h1 acc hl ⟨rfl, ea, fa⟩
    rw [if_neg (by decide)]
    rw [List.length_map, List.take_length] at ea
    exact ⟨fa, by rw [ea]; exact q⟩
/-- the same, to be changed later -/
theorem wp_cmpT {it : AM} {g : GM} {e : EM} {own : List Nat} (l : List A) (enc : A → MV) (f : A → MV) (hit : Wp (it env) h fun vs h1 => vs = l.map enc ∧ h1 = h) (few : l.length ≤ 100000)
    (hb : ∀ a ∈ l, ∀ t, Wp (g (enc a) (wipeE env own)) (h ++ t) fun env' h2 => Wp (e env') h2 fun y h4 => h4 = h ++ t ∧ y = f a)
    (q : Q (.cell h.length) (h ++ [some (.lst (l.map f))])) : Wp (comp true it g bYes e own env) h Q := by
  refine wp_compI (xs := l.map enc) (n := h.length) (fun i h1 acc => h1 = h ∧ acc = (l.take i).map f) (hit.mono fun vs h1 z => ⟨z.1, by rw [z.2], z.2, by simp⟩) (sl_le (by simpa using few)) ?_ ?_
  · rintro i v h1 acc hi hl _ ⟨rfl, ea⟩
    rw [List.getElem?_map] at hi
    cases ei : l[i]? with
    | none => rw [ei] at hi; cases hi
    | some a =>
      rw [ei] at hi; cases hi
      refine (hb a (List.mem_of_getElem? ei) [some (.lst acc)]).mono fun env' h2 w => ?_
      rw [wp_bYes, if_pos rfl]
      exact w.mono fun y h4 z => ⟨h1, z.1, rfl, rfl, by rw [List.take_add_one, ei, List.map_append, ea, z.2]; rfl⟩
  · rintro h1 acc hl ⟨rfl, ea⟩
    rw [if_pos rfl]
    rw [List.length_map, List.take_length] at ea
    rw [ea]; exact q
theorem wp_cmpFT {it : AM} {g : GM} {tt : BM} {e : EM} {own : List Nat} (l : List A) (enc : A → MV) (p : A → Bool) (f : A → MV) (hit : Wp (it env) h fun vs h1 => vs = l.map enc ∧ h1 = h) (few : l.length ≤ 100000)
    (hb : ∀ a ∈ l, ∀ t, Wp (g (enc a) (wipeE env own)) (h ++ t) fun env' h2 => Wp (tt env') h2 fun b h3 => b = p a ∧ h3 = h ++ t ∧ (p a = true → Wp (e env') (h ++ t) fun y h4 => h4 = h ++ t ∧ y = f a))
    (q : Q (.cell h.length) (h ++ [some (.lst ((l.filter p).map f))])) : Wp (comp true it g tt e own env) h Q := by
  refine wp_compI (xs := l.map enc) (n := h.length) (fun i h1 acc => h1 = h ∧ acc = ((l.take i).filter p).map f) (hit.mono fun vs h1 z => ⟨z.1, by rw [z.2], z.2, by simp⟩) (sl_le (by simpa using few)) ?_ ?_
  · rintro i v h1 acc hi hl _ ⟨rfl, ea⟩
    rw [List.getElem?_map] at hi
    cases ei : l[i]? with
    | none => rw [ei] at hi; cases hi
    | some a =>
      rw [ei] at hi; cases hi
      refine (hb a (List.mem_of_getElem? ei) [some (.lst acc)]).mono fun env' h2 w => ?_
      refine w.mono fun b h3 z => ?_
      obtain ⟨rfl, rfl, w2⟩ := z
      cases c : p a with
      | true =>
        rw [if_pos rfl]
        refine (w2 c).mono fun y h4 z => ⟨h1, z.1, rfl, rfl, ?_⟩
        rw [List.take_add_one, ei, List.filter_append, List.map_append, ea, z.2]
        simp [c]
      | false =>
        rw [if_neg (by decide)]
        exact ⟨h1, rfl, rfl, rfl, by rw [List.take_add_one, ei, List.filter_append, ea]; simp [c]⟩
  · rintro h1 acc hl ⟨rfl, ea⟩
    rw [if_pos rfl]
    rw [List.length_map, List.take_length] at ea
    rw [ea]; exact q
/-- all([p a for a in l]) and its like, behind the call is taken apart -/
theorem wp_bCmp {it : AM} {g : GM} {e : EM} {own : List Nat} {F : List Bool → Bool} (l : List A) (enc : A → MV) (p : A → Bool) (hit : Wp (it env) h fun vs h1 => vs = l.map enc ∧ h1 = h) (few : l.length ≤ 100000)
    (hb : ∀ a ∈ l, ∀ t, Wp (g (enc a) (wipeE env own)) (h ++ t) fun env' h2 => Wp (e env') h2 fun y h4 => h4 = h ++ t ∧ y = .bl (p a))
    (q : Q (.bl (F (l.map p))) h) : Wp (comp false it g bYes e own env) h fun x h1 => Wp (boolsM F [x]) h1 Q := by
  refine wp_cmp l enc (fun a => .bl (p a)) hit few (fun a ha t => (hb a ha t).mono fun env' h2 w => w.mono fun y h4 z => ⟨z.1, z.2, by rw [z.2]; simp [MV.free]⟩) ?_
  rw [show (l.map fun a => MV.bl (p a)) = (l.map p).map MV.bl by rw [List.map_map]; rfl, wp_bools]
  exact q
theorem wp_bCmpC {it : AM} {g : GM} {e : EM} {own : List Nat} {F : List Bool → Bool} (l : List A) (enc : A → MV) (p : A → Bool) (hit : Wp (it env) h fun vs h1 => vs = l.map enc ∧ h1 = h) (few : l.length ≤ 100000)
    (hb : ∀ a ∈ l, ∀ t, Wp (g (enc a) (wipeE env own)) (h ++ t) fun env' h2 => Wp (e env') h2 fun y h4 => h4 = h ++ t ∧ y = .bl (p a))
    (q : Q (.bl (F (l.map p))) h) : Wp (callE (boolsM F) (aCons (comp false it g bYes e own) aNil) env) h Q := by
  simp only [wp_callE, wp_aCons, wp_aNil]
  exact wp_bCmp l enc p hit few hb q
/-- a loop over images -/
theorem wp_loopL {g : GM} {b : SM} {Q : Fl → MH → Prop} (l : List A) (enc : A → MV) (P : Nat → Ev → MH → Prop) (h0 : P 0 env h)
    (step : ∀ i a env h, l[i]? = some a → i < l.length → P i env h → Wp (g (enc a) env) h fun env' h1 => Wp (b env') h1 fun f h2 => asN f (fun env2 => P (i + 1) env2 h2) fun r => Q (.rt r) h2)
    (fin : ∀ env h, P l.length env h → Q (.nx env) h) : Wp (loop g b (l.map enc) env) h Q := by
  refine wp_loop P h0 (fun i v env h hi p => ?_) (by rw [List.length_map]; exact fin)
  rw [List.getElem?_map] at hi
  cases ei : l[i]? with
  | none => rw [ei] at hi; cases hi
  | some a =>
    rw [ei] at hi; cases hi
    exact step i a env h ei (List.getElem?_eq_some_iff.mp ei).1 p
/-! images -/
theorem rg_map (n : Nat) : rgA 0 n = (List.range n).map fun i : Nat => MV.int i := by
  unfold rgA
  rw [show ((n : Int) - 0).toNat = n by omega]
  apply List.map_congr_left
  intro i _
  show MV.int ((0 : Int) + (i : Nat)) = MV.int (i : Int)
  rw [Int.zero_add]
theorem enum_map (e : A → MV) (l : List A) : enumV (l.map e) = l.zipIdx.map fun p => .tup [.int (p.2 : Nat), e p.1] := by
  unfold enumV
  rw [List.zipIdx_map, List.map_map]
  rfl
theorem zip_map2 (e : A → MV) (f : B → MV) (l : List A) (k : List B) : zipV (l.map e) (k.map f) = (l.zip k).map fun p => .tup [e p.1, f p.2] := by
  unfold zipV
  rw [List.zip_map, List.map_map]
  rfl
theorem zipIdx_get {l : List A} {i : Nat} {p : A × Nat} (e : l.zipIdx[i]? = some p) : p.2 = i ∧ l[i]? = some p.1 := by
  rw [List.getElem?_zipIdx] at e
  cases k : l[i]? with
  | none => rw [k] at e; cases e
  | some a => rw [k] at e; cases e; exact ⟨by simp, rfl⟩
theorem zipIdx_mem {l : List A} {p : A × Nat} (e : p ∈ l.zipIdx) : l[p.2]? = some p.1 := by
  obtain ⟨i, hi⟩ := List.mem_iff_getElem?.mp e
  obtain ⟨e1, e2⟩ := zipIdx_get hi
  rw [e1]; exact e2
theorem range_get {n i a : Nat} (e : (List.range n)[i]? = some a) : a = i ∧ i < n := by
  have hi := (List.getElem?_eq_some_iff.mp e).1
  rw [List.length_range] at hi
  rw [List.getElem?_range hi] at e
  cases e; exact ⟨rfl, hi⟩
theorem at_map {e : A → MV} {l : List A} {i : Nat} {a : A} (k : l[i]? = some a) : atI (l.map e) (i : Int) = some (e a) := by
  have hi := (List.getElem?_eq_some_iff.mp k).1
  rw [atI_nat (by omega) (by simp; omega), List.getElem?_map, show ((i : Int)).toNat = i by omega, k]; rfl
theorem at_nat' {l : List MV} {i : Nat} {a : MV} (k : l[i]? = some a) : atI l (i : Int) = some a := by
  have hi := (List.getElem?_eq_some_iff.mp k).1
  rw [atI_nat (by omega) (by omega), show ((i : Int)).toNat = i by omega, k]
theorem wp_rngN {n : Nat} (c : n ≤ 100000) {b : EM} (hb : Wp (b env) h fun x h1 => x = .int n ∧ h1 = h) : Wp (rngI (con (.int 0)) b (con (.int 1)) env) h Ql ↔ Ql ((List.range n).map fun i : Nat => .int i) h := by
  rw [wp_rng0 c hb, rg_map]
theorem wp_rngL (n : Nat) {k : Int} (e : k = n) (c : n ≤ 100000) : Wp (rngI (con (.int 0)) (con (.int k)) (con (.int 1)) env) h Ql ↔ Ql ((List.range n).map fun i : Nat => .int i) h :=
  wp_rngN c (wp_con.mpr ⟨by rw [e], rfl⟩)
end
section
variable {h : MH} {env : Ev} {Q : MV → MH → Prop} {Ql : List MV → MH → Prop} {A B C : Type}
/-- [r for ..], each a new cell -/
theorem wp_rowsR {it : AM} {i : Nat} {e : EM} {xs r : List MV} (hit : Wp (it env) h fun vs h1 => vs = xs ∧ h1 = h) (few : xs.length ≤ sizeLine) (ne : xs ≠ [])
    (he : ∀ v ∈ xs, ∀ (h' : MH) (Q' : MV → MH → Prop), Q' (.cell h'.length) (h' ++ [some (.lst r)]) → Wp (e ((wipeE env [i]).set i (some v))) h' Q')
    (q : Q (.lst (cellsFrom' (h.length + 1) xs.length)) (h ++ none :: List.replicate xs.length (some (.lst r)))) : Wp (comp false it (gN i) bYes e [i] env) h Q := by
  have go : ∀ (k j : Nat), k + j = xs.length → Wp (cloop (gN i) bYes e (wipeE env [i]) h.length (xs.drop j)) (h ++ some (.lst (cellsFrom' (h.length + 1) j)) :: List.replicate j (some (.lst r))) fun _ h2 =>
      h2 = h ++ some (.lst (cellsFrom' (h.length + 1) xs.length)) :: List.replicate xs.length (some (.lst r)) := by
    intro k
    induction k with
    | zero =>
      intro j e
      have : j = xs.length := by omega
      subst this
      rw [List.drop_length]; exact wp_pure.mpr rfl
    | succ k ih =>
      intro j ej
      have hj : j < xs.length := by omega
      rw [List.drop_eq_getElem_cons hj]
      show Wp ((cturn (gN i) bYes e (wipeE env [i]) h.length xs[j]).bind fun _ => cloop (gN i) bYes e (wipeE env [i]) h.length (xs.drop (j + 1))) _ _
      rw [wp_bind]
      unfold cturn
      rw [wp_bind, wp_noX, wp_gN, wp_bind, wp_noX, wp_bYes, if_pos rfl, wp_bind, wp_noX]
      refine he xs[j] (List.getElem_mem hj) _ _ ?_
      have el : (h ++ some (MObj.lst (cellsFrom' (h.length + 1) j)) :: List.replicate j (some (MObj.lst r))).length = h.length + 1 + j := by simp; omega
      rw [el]
      have e2 : h ++ some (MObj.lst (cellsFrom' (h.length + 1) j)) :: List.replicate j (some (MObj.lst r)) ++ [some (.lst r)] = h ++ some (MObj.lst (cellsFrom' (h.length + 1) j)) :: List.replicate (j + 1) (some (MObj.lst r)) := by
        rw [List.replicate_succ']; simp
      rw [e2]
      have ih' := ih (j + 1) (by omega)
      refine .of (a := ()) (h' := h ++ some (.lst (cellsFrom' (h.length + 1) (j + 1))) :: List.replicate (j + 1) (some (.lst r))) ?_ ih'
      have small : (cellsFrom' (h.length + 1) j).length < sizeLine := by unfold cellsFrom'; simp; omega
      have e3 : (h ++ some (MObj.lst (cellsFrom' (h.length + 1) j)) :: List.replicate (j + 1) (some (MObj.lst r)))[h.length]? = some (some (.lst (cellsFrom' (h.length + 1) j))) := by simp
      unfold push
      simp only [e3, small, if_true, set_mid, cells_succ]
  show Wp (M.bind (it env) (fun vs => (show M MV from fun h => ((cloop (gN i) bYes e (wipeE env [i]) h.length vs).bind fun _ => cfin false h.length) (h ++ [some (.lst [])])))) h Q
  refine wp_bind.mpr (hit.mono fun vs h1 z => ?_)
  obtain ⟨rfl, rfl⟩ := z
  refine wp_from ((cloop (gN i) bYes e (wipeE env [i]) h1.length vs).bind fun _ => cfin false h1.length) (h1 ++ [some (.lst [])]) ?_ rfl
  refine wp_bind.mpr ?_
  have w := go vs.length 0 (by omega)
  rw [List.drop_zero] at w
  refine w.mono fun _ h2 z => ?_
  subst z
  have e3 : (h1 ++ some (MObj.lst (cellsFrom' (h1.length + 1) vs.length)) :: List.replicate vs.length (some (MObj.lst r)))[h1.length]? = some (some (.lst (cellsFrom' (h1.length + 1) vs.length))) := by simp
  have nf : MV.freeAll (cellsFrom' (h1.length + 1) vs.length) = false := by
    cases vs with
    | nil => exact absurd rfl ne
    | cons v r =>
      rw [List.length_cons, cells_succ, freeAll_app]
      simp [MV.freeAll, MV.free]
  refine .of (a := .lst (cellsFrom' (h1.length + 1) vs.length)) ?_ q
  unfold cfin
  simp only [e3, nf, Bool.false_and, set_mid]
  rfl
theorem wp_rngA {i j : Int} (c : -1000000 ≤ i ∧ i ≤ 1000000 ∧ -1000000 ≤ j ∧ j ≤ 1000000) : Wp (rngI (con (.int i)) (con (.int j)) (con (.int 1)) env) h Ql ↔ Ql (rgA i j) h :=
  wp_rng c (wp_con.mpr ⟨rfl, rfl⟩) (wp_con.mpr ⟨rfl, rfl⟩)
theorem wp_rngW {b : EM} (hb : Wp (b env) h fun x h1 => ∃ n : Nat, x = .int n ∧ n ≤ 100000 ∧ Ql ((List.range n).map fun i : Nat => .int i) h1) : Wp (rngI (con (.int 0)) b (con (.int 1)) env) h Ql := by
  unfold rngI
  rw [wp_bind, wp_con, wp_bind]
  refine hb.mono fun x h1 z => ?_
  obtain ⟨n, rfl, hn, q⟩ := z
  have w : Wp (rngI (con (.int 0)) (con (.int n)) (con (.int 1)) env) h1 Ql := by
    rw [wp_rngA (by omega), rg_map]; exact q
  unfold rngI at w
  rw [wp_bind, wp_con, wp_bind, wp_con] at w
  exact w
/-- [f(..) for ..], each a new cell -/
theorem wp_rowsG {it : AM} {i : Nat} {e : EM} {xs : List MV} {R : Nat → List MV → Prop} (hit : Wp (it env) h fun vs h1 => vs = xs ∧ h1 = h) (few : xs.length ≤ sizeLine) (ne : xs ≠ [])
    (he : ∀ j v, xs[j]? = some v → ∀ (h' : MH) (Q' : MV → MH → Prop), (∀ r, R j r → Q' (.cell h'.length) (h' ++ [some (.lst r)])) → Wp (e ((wipeE env [i]).set i (some v))) h' Q')
    (q : ∀ rs : List (List MV), rs.length = xs.length → (∀ j r, rs[j]? = some r → R j r) → Q (.lst (cellsFrom' (h.length + 1) xs.length)) (h ++ none :: rs.map fun r => some (.lst r))) : Wp (comp false it (gN i) bYes e [i] env) h Q := by
  have go : ∀ (k j : Nat) (rs : List (List MV)), k + j = xs.length → rs.length = j → (∀ j r, rs[j]? = some r → R j r) → Wp (cloop (gN i) bYes e (wipeE env [i]) h.length (xs.drop j)) (h ++ some (.lst (cellsFrom' (h.length + 1) j)) :: rs.map fun r => some (.lst r)) fun _ h2 =>
      ∃ rs : List (List MV), rs.length = xs.length ∧ (∀ j r, rs[j]? = some r → R j r) ∧ h2 = h ++ some (.lst (cellsFrom' (h.length + 1) xs.length)) :: rs.map fun r => some (.lst r) := by
    intro k
    induction k with
    | zero =>
      intro j rs e rl rr
      have : j = xs.length := by omega
      subst this
      rw [List.drop_length]; exact wp_pure.mpr ⟨rs, rl, rr, rfl⟩
    | succ k ih =>
      intro j rs ej rl rr
      have hj : j < xs.length := by omega
      rw [List.drop_eq_getElem_cons hj]
      show Wp ((cturn (gN i) bYes e (wipeE env [i]) h.length xs[j]).bind fun _ => cloop (gN i) bYes e (wipeE env [i]) h.length (xs.drop (j + 1))) _ _
      rw [wp_bind]
      unfold cturn
      rw [wp_bind, wp_noX, wp_gN, wp_bind, wp_noX, wp_bYes, if_pos rfl, wp_bind, wp_noX]
      refine he j xs[j] (List.getElem?_eq_getElem hj) _ _ fun r hr => ?_
      have el : (h ++ some (MObj.lst (cellsFrom' (h.length + 1) j)) :: rs.map fun r => some (MObj.lst r)).length = h.length + 1 + j := by simp [rl]; omega
      rw [el]
      have e2 : h ++ some (MObj.lst (cellsFrom' (h.length + 1) j)) :: (rs.map fun r => some (MObj.lst r)) ++ [some (.lst r)] = h ++ some (MObj.lst (cellsFrom' (h.length + 1) j)) :: ((rs ++ [r]).map fun r => some (MObj.lst r)) := by
        simp
      rw [e2]
      have ih' := ih (j + 1) (rs ++ [r]) (by omega) (by simp [rl]) fun j2 r2 h2 => by
        by_cases c : j2 < rs.length
        · rw [List.getElem?_append_left c] at h2; exact rr j2 r2 h2
        · have : j2 = j := by
            have := (List.getElem?_eq_some_iff.mp h2).1
            simp at this; omega
          subst this
          rw [List.getElem?_append_right (by omega)] at h2
          simp [rl] at h2
          rw [← h2]; exact hr
      refine .of (a := ()) (h' := h ++ some (.lst (cellsFrom' (h.length + 1) (j + 1))) :: ((rs ++ [r]).map fun r => some (.lst r))) ?_ ih'
      have small : (cellsFrom' (h.length + 1) j).length < sizeLine := by unfold cellsFrom'; simp; omega
      have e3 : (h ++ some (MObj.lst (cellsFrom' (h.length + 1) j)) :: ((rs ++ [r]).map fun r => some (MObj.lst r)))[h.length]? = some (some (.lst (cellsFrom' (h.length + 1) j))) := by simp
      unfold push
      simp only [e3, small, if_true, set_mid, cells_succ]
  show Wp (M.bind (it env) (fun vs => (show M MV from fun h => ((cloop (gN i) bYes e (wipeE env [i]) h.length vs).bind fun _ => cfin false h.length) (h ++ [some (.lst [])])))) h Q
  refine wp_bind.mpr (hit.mono fun vs h1 z => ?_)
  obtain ⟨rfl, rfl⟩ := z
  refine wp_from ((cloop (gN i) bYes e (wipeE env [i]) h1.length vs).bind fun _ => cfin false h1.length) (h1 ++ [some (.lst [])]) ?_ rfl
  refine wp_bind.mpr ?_
  have w := go vs.length 0 [] (by omega) rfl (fun j r hr => by simp at hr)
  rw [List.drop_zero] at w
  refine w.mono fun _ h2 z => ?_
  obtain ⟨rs, rl, rr, rfl⟩ := z
  have e3 : (h1 ++ some (MObj.lst (cellsFrom' (h1.length + 1) vs.length)) :: (rs.map fun r => some (MObj.lst r)))[h1.length]? = some (some (.lst (cellsFrom' (h1.length + 1) vs.length))) := by simp
  have nf : MV.freeAll (cellsFrom' (h1.length + 1) vs.length) = false := by
    cases vs with
    | nil => exact absurd rfl ne
    | cons v r =>
      rw [List.length_cons, cells_succ, freeAll_app]
      simp [MV.freeAll, MV.free]
  refine .of (a := .lst (cellsFrom' (h1.length + 1) vs.length)) ?_ (q rs rl rr)
  unfold cfin
  simp only [e3, nf, Bool.false_and, set_mid]
  rfl
theorem rows_newR (h : MH) (k : Nat) (r : List MV) : h ++ none :: List.replicate k (some (.lst r)) = rowsH (h ++ [none]) (List.replicate k r) [] := by
  unfold rowsH; simp
theorem rows_app {h1 tl t : MH} {rows : List (List MV)} : rowsH h1 rows tl ++ t = rowsH h1 rows (tl ++ t) := by unfold rowsH; simp
end
section
variable {h : MH} {Q : MV → MH → Prop}
theorem wpT_non_tuple : Wp (isTM "tuple" .non) h Q ↔ Q (.bl false) h := by simp only [wpR]; exact Iff.rfl
theorem wpT_non_bool : Wp (isTM "bool" .non) h Q ↔ Q (.bl false) h := by simp only [wpR]; exact Iff.rfl
theorem wpT_non_int : Wp (isTM "int" .non) h Q ↔ Q (.bl false) h := by simp only [wpR]; exact Iff.rfl
theorem wpT_non_str : Wp (isTM "str" .non) h Q ↔ Q (.bl false) h := by simp only [wpR]; exact Iff.rfl
theorem wpT_non_list : Wp (isTM "list" .non) h Q ↔ Q (.bl false) h := by simp only [wpR]; exact Iff.rfl
theorem wpT_bl_tuple {x : Bool} : Wp (isTM "tuple" (.bl x)) h Q ↔ Q (.bl false) h := by simp only [wpR]; exact Iff.rfl
theorem wpT_bl_bool {x : Bool} : Wp (isTM "bool" (.bl x)) h Q ↔ Q (.bl true) h := by simp only [wpR]; exact Iff.rfl
theorem wpT_bl_int {x : Bool} : Wp (isTM "int" (.bl x)) h Q ↔ Q (.bl true) h := by simp only [wpR]; exact Iff.rfl
theorem wpT_bl_str {x : Bool} : Wp (isTM "str" (.bl x)) h Q ↔ Q (.bl false) h := by simp only [wpR]; exact Iff.rfl
theorem wpT_bl_list {x : Bool} : Wp (isTM "list" (.bl x)) h Q ↔ Q (.bl false) h := by simp only [wpR]; exact Iff.rfl
theorem wpT_int_tuple {x : Int} : Wp (isTM "tuple" (.int x)) h Q ↔ Q (.bl false) h := by simp only [wpR]; exact Iff.rfl
theorem wpT_int_bool {x : Int} : Wp (isTM "bool" (.int x)) h Q ↔ Q (.bl false) h := by simp only [wpR]; exact Iff.rfl
theorem wpT_int_int {x : Int} : Wp (isTM "int" (.int x)) h Q ↔ Q (.bl true) h := by simp only [wpR]; exact Iff.rfl
theorem wpT_int_str {x : Int} : Wp (isTM "str" (.int x)) h Q ↔ Q (.bl false) h := by simp only [wpR]; exact Iff.rfl
theorem wpT_int_list {x : Int} : Wp (isTM "list" (.int x)) h Q ↔ Q (.bl false) h := by simp only [wpR]; exact Iff.rfl
theorem wpT_str_tuple {x : Str} : Wp (isTM "tuple" (.str x)) h Q ↔ Q (.bl false) h := by simp only [wpR]; exact Iff.rfl
theorem wpT_str_bool {x : Str} : Wp (isTM "bool" (.str x)) h Q ↔ Q (.bl false) h := by simp only [wpR]; exact Iff.rfl
theorem wpT_str_int {x : Str} : Wp (isTM "int" (.str x)) h Q ↔ Q (.bl false) h := by simp only [wpR]; exact Iff.rfl
theorem wpT_str_str {x : Str} : Wp (isTM "str" (.str x)) h Q ↔ Q (.bl true) h := by simp only [wpR]; exact Iff.rfl
theorem wpT_str_list {x : Str} : Wp (isTM "list" (.str x)) h Q ↔ Q (.bl false) h := by simp only [wpR]; exact Iff.rfl
theorem wpT_tup_tuple {x : List MV} : Wp (isTM "tuple" (.tup x)) h Q ↔ Q (.bl true) h := by simp only [wpR]; exact Iff.rfl
theorem wpT_tup_bool {x : List MV} : Wp (isTM "bool" (.tup x)) h Q ↔ Q (.bl false) h := by simp only [wpR]; exact Iff.rfl
theorem wpT_tup_int {x : List MV} : Wp (isTM "int" (.tup x)) h Q ↔ Q (.bl false) h := by simp only [wpR]; exact Iff.rfl
theorem wpT_tup_str {x : List MV} : Wp (isTM "str" (.tup x)) h Q ↔ Q (.bl false) h := by simp only [wpR]; exact Iff.rfl
theorem wpT_tup_list {x : List MV} : Wp (isTM "list" (.tup x)) h Q ↔ Q (.bl false) h := by simp only [wpR]; exact Iff.rfl
theorem wpT_lst_tuple {x : List MV} : Wp (isTM "tuple" (.lst x)) h Q ↔ Q (.bl false) h := by simp only [wpR]; exact Iff.rfl
theorem wpT_lst_bool {x : List MV} : Wp (isTM "bool" (.lst x)) h Q ↔ Q (.bl false) h := by simp only [wpR]; exact Iff.rfl
theorem wpT_lst_int {x : List MV} : Wp (isTM "int" (.lst x)) h Q ↔ Q (.bl false) h := by simp only [wpR]; exact Iff.rfl
theorem wpT_lst_str {x : List MV} : Wp (isTM "str" (.lst x)) h Q ↔ Q (.bl false) h := by simp only [wpR]; exact Iff.rfl
theorem wpT_lst_list {x : List MV} : Wp (isTM "list" (.lst x)) h Q ↔ Q (.bl true) h := by simp only [wpR]; exact Iff.rfl
theorem wpT_scr_tuple {x : List MV} : Wp (isTM "tuple" (.scr x)) h Q ↔ Q (.bl false) h := by simp only [wpR]; exact Iff.rfl
theorem wpT_scr_bool {x : List MV} : Wp (isTM "bool" (.scr x)) h Q ↔ Q (.bl false) h := by simp only [wpR]; exact Iff.rfl
theorem wpT_scr_int {x : List MV} : Wp (isTM "int" (.scr x)) h Q ↔ Q (.bl false) h := by simp only [wpR]; exact Iff.rfl
theorem wpT_scr_str {x : List MV} : Wp (isTM "str" (.scr x)) h Q ↔ Q (.bl false) h := by simp only [wpR]; exact Iff.rfl
theorem wpT_scr_list {x : List MV} : Wp (isTM "list" (.scr x)) h Q ↔ Q (.bl true) h := by simp only [wpR]; exact Iff.rfl
end
end Mi

set_option Elab.async false
set_option linter.all false
set_option maxRecDepth 100000
set_option maxHeartbeats 4000000
/-! Mini, part U: a comprehension that walks over a list that is changed later (a cell of plain values): each turn checks that it is as it was. -/
namespace Mi
open PySem PySem.Spec PyProof.Rows L2
variable [Gb]
def plainV : MV → Bool
  | .non | .bl _ | .int _ | .str _ => true
  | _ => false
def sameV : MV → MV → Bool
  | .non, .non => true
  | .bl a, .bl b => a == b
  | .int a, .int b => a == b
  | .str a, .str b => decide (a = b)
  | _, _ => false
def sameVs : List MV → List MV → Bool
  | [], [] => true
  | a :: as, b :: bs => sameV a b && sameVs as bs
  | _, _ => false
theorem sameV_eq {a b : MV} (h : sameV a b = true) : a = b ∧ plainV b = true := by
  cases a <;> cases b <;> first | cases h | skip
  · exact ⟨rfl, rfl⟩
  · exact ⟨by rw [eq_of_beq h], rfl⟩
  · exact ⟨by rw [eq_of_beq h], rfl⟩
  · exact ⟨by rw [of_decide_eq_true h], rfl⟩
theorem sameVs_eq : ∀ {a b : List MV}, sameVs a b = true → a = b ∧ ∀ v ∈ b, plainV v = true
  | [], [], _ => ⟨rfl, fun v hv => by simp at hv⟩
  | x :: a, y :: b, h => by
    simp only [sameVs, Bool.and_eq_true] at h
    obtain ⟨e1, p1⟩ := sameV_eq h.1
    obtain ⟨e2, p2⟩ := sameVs_eq h.2
    refine ⟨by rw [e1, e2], fun v hv => ?_⟩
    rcases List.mem_cons.mp hv with rfl | hv
    · exact p1
    · exact p2 v hv
theorem rv_plain {w w2 : Wd} {v : MV} {u u2 : V} (p : plainV v = true) (r : RV w v u) (r2 : RV w2 v u2) : u = u2 := by
  cases v <;> first | (simp only [RV] at r r2; rw [r, r2]) | exact absurd p Bool.false_ne_true
theorem rvs_plain {w w2 : Wd} : ∀ {xs : List MV} {us us2 : List V}, (∀ v ∈ xs, plainV v = true) → RVs w xs us → RVs w2 xs us2 → us = us2
  | [], us, us2, _, r, r2 => by simp only [RVs] at r r2; rw [r, r2]
  | x :: xs, us, us2, p, r, r2 => by
    simp only [RVs] at r r2
    obtain ⟨u, t, rfl, h1, h2⟩ := r
    obtain ⟨u', t', rfl, h3, h4⟩ := r2
    rw [rv_plain (p x (by simp)) h1 h3, rvs_plain (fun v hv => p v (List.mem_cons_of_mem _ hv)) h2 h4]
/-- the cell holds just these plain values -/
def guardC (c : Nat) (xs : List MV) : M Unit := fun h => match h[c]? with
  | some (some (.lst ys)) => if sameVs ys xs then .ok () h else .stuck
  | _ => .stuck
def cellR (m : EM) : Ev → M (Nat × List MV) := fun env => (m env).bind fun v => match v with
  | .cell c => (itemsL (.cell c)).bind fun xs => M.pure (c, xs)
  | _ => M.stuck
def cloopC (g : GM) (t : BM) (e : EM) (env : Ev) (D c : Nat) (xs : List MV) : List MV → M Unit
  | [] => (guardC c xs).bind fun _ => M.pure ()
  | v :: vs => (guardC c xs).bind fun _ => (cturn g t e env D v).bind fun _ => cloopC g t e env D c xs vs
def itV (en : Bool) (xs : List MV) : List MV := if en then enumV xs else xs
def compC (mt en : Bool) (m : EM) (g : GM) (t : BM) (e : EM) (own : List Nat) : EM := fun env => (cellR m env).bind fun p => fun h =>
  ((cloopC g t e (wipeE env own) h.length p.1 p.2 (itV en p.2)).bind fun _ => cfin mt h.length) (h ++ [some (.lst [])])
def ItOkC (en : Bool) (w : Wd) (p : Nat × List MV) (J : It) : Prop := ∃ (G : Hp → Prop) (Y : Nat → Hp → V → Hp → Prop), Walk J (itV en p.2).length G Y ∧
  (∀ w2 : Wd, w2.Ok → Ext w w2 → guardC p.1 p.2 w2.h = .ok () w2.h → G w2.H) ∧
  ∀ (i : Nat) (u : V) (w2 : Wd) (H' : Hp), i < (itV en p.2).length → w2.Ok → Ext w w2 → Y i w2.H u H' → ∃ w3 : Wd, w3.H = H' ∧ w3.h = w2.h ∧ w3.Ok ∧ Ext w2 w3 ∧ ∃ v, (itV en p.2)[i]? = some v ∧ RV w3 v u
def tIC (E : EW) (en : Bool) (m : EM) : TI := fun sg H R => ∃ w env, w.H = H ∧ w.Ok ∧ RE w env sg ∧ LeadG (ItOkC en) w (cellR m env w.h) (fun J H => R J H) E
def SIC (X : Cx) (E : EW) (en : Bool) (tg iter : Expr) (m : EM) : Prop := PI X tg iter (tIC E en m)
theorem guard_ok {c : Nat} {xs : List MV} {h h' : MH} (e : guardC c xs h = .ok () h') : h' = h ∧ h[c]? = some (some (.lst xs)) ∧ ∀ v ∈ xs, plainV v = true := by
  unfold guardC at e
  split at e
  · next ys hc =>
    by_cases k : sameVs ys xs = true
    · rw [if_pos k] at e
      cases e
      obtain ⟨rfl, p⟩ := sameVs_eq k
      exact ⟨rfl, hc, p⟩
    · rw [if_neg k] at e; cases e
  · cases e
theorem guard_two (c : Nat) (xs : List MV) (h : MH) : guardC c xs h = .ok () h ∨ guardC c xs h = .stuck := by
  unfold guardC
  split
  · split
    · exact .inl rfl
    · exact .inr rfl
  · exact .inr rfl
theorem guard_of {g : GM} {t : BM} {e : EM} {env : Ev} {D c : Nat} {zs vs : List MV} {f : Unit → M MV} {h : MH} {w : Wd} {Q : VK} {E : EW} (l : Lead w (((cloopC g t e env D c zs vs).bind f) h) Q E) : guardC c zs h = .ok () h := by
  rcases guard_two c zs h with k | k
  · exact k
  · exfalso
    cases vs with
    | nil =>
      unfold cloopC M.bind at l
      simp only [k] at l
      exact l
    | cons v vs =>
      unfold cloopC M.bind at l
      simp only [k] at l
      exact l
theorem guard_nil {g : GM} {t : BM} {e : EM} {env : Ev} {D c : Nat} {zs : List MV} {f : Unit → M MV} {h : MH} (k : guardC c zs h = .ok () h) : ((cloopC g t e env D c zs []).bind f) h = f () h := by
  unfold cloopC M.bind
  simp only [k]
  rfl
theorem guard_cons {g : GM} {t : BM} {e : EM} {env : Ev} {D c : Nat} {zs : List MV} {v : MV} {vs : List MV} {f : Unit → M MV} {h : MH} (k : guardC c zs h = .ok () h) : ((cloopC g t e env D c zs (v :: vs)).bind f) h = (fun _ : Unit => ((cturn g t e env D v).bind fun _ => cloopC g t e env D c zs vs).bind f) () h := by
  show M.bind (M.bind (guardC c zs) fun _ => (cturn g t e env D v).bind fun _ => cloopC g t e env D c zs vs) f h = _
  rw [M.bind_assoc]
  generalize (fun _ : Unit => ((cturn g t e env D v).bind fun _ => cloopC g t e env D c zs vs).bind f) = F
  unfold M.bind
  simp only [k]
section
variable {X : Cx} {E : EW} {own : List (Str × Nat)} {tg iter elt a : Expr} {ifs : List Expr} {scope : Scope} {pos p : Pos} {m ma : EM} {g : GM} {t : BM} {me : EM} {mt en : Bool}
theorem si_enumC {elts : List Expr} {kk : Nat} {tpos : Pos} (hg : Gl X "enumerate") (hm : X.mg "enumerate" = none) (ha : SE X E a ma) (hs : starEach [a] X.env = [(false, eval a X.env)] := by rfl) : SIC X E true (.Tuple elts kk tpos) (.Call (.Name "enumerate" p) [a] [] pos) ma := by
  refine ⟨fun pins s sg H R I h => (pi_enumH hg hm (pa_cons ha pa_nil hs) hs).run pins s sg H R I ?_⟩
  obtain ⟨w, env, rfl, k, r, l⟩ := h
  refine ⟨w, env, rfl, k, r, lead_bind l fun w1 v u k1 x1 r1 l1 => ?_⟩
  cases v with
  | cell c =>
    simp only [RV] at r1
    obtain ⟨a0, rfl, hr⟩ := r1
    have l1 : LeadG (ItOkC true) w1 (M.bind (readC c) (fun xs => M.pure (c, xs)) w1.h) (fun J H => R J H) E := l1
    unfold M.bind readC at l1
    cases e : w1.h[c]? with
    | none => simp only [e] at l1; exact l1.elim
    | some ob =>
      cases ob with
      | none => simp only [e] at l1; exact l1.elim
      | some ob =>
        cases ob with
        | dk _ => simp only [e] at l1; exact l1.elim
        | dt _ => simp only [e] at l1; exact l1.elim
        | lst xs =>
          simp only [e] at l1
          obtain ⟨us, e1, rv⟩ := k1.obj _ _ _ e hr
          refine ⟨false, a0, us, rfl, .inl e1, lead_ok (R := ItOkC true) l1 k1 ⟨fun H => SqH false H a0 us, YPair (fun i => some (.int (i : Nat))) (fun i => us[i]?), ?_, fun w2 k2 x gd => ?_, fun i u w2 H' hi k2 x y => ?_⟩⟩
          · have e : (itV true xs).length = us.length := by unfold itV enumV; simp [rv.length]
            rw [e]; exact walk_enumH
          · obtain ⟨_, hc, pl⟩ := guard_ok gd
            obtain ⟨us2, e2, rv2⟩ := k2.obj _ _ _ hc (x.rho _ _ hr)
            rw [rvs_plain pl rv rv2]
            exact .inl e2
          · obtain ⟨T, y1, y2, rfl, hT, eH, e1, e2⟩ := y
            cases e1
            obtain ⟨v2, e3, r3⟩ := rv.get' e2
            obtain ⟨w3, q1, q2, q3, q4, q5⟩ := pair_world k2 hT eH (v1 := .int (i : Nat)) (by simp only [RV]) (RV.ext k1 x _ _ r3)
            exact ⟨w3, q1, q2, q3, q4, _, enumV_at e3, q5⟩
  | _ => exact l1.elim
theorem comp_ofC {sg : L2.St} {H : Hp} {Q : VK} (h : tM E (compC mt en m g t me (own.map (·.2))) sg H Q) : tLc (tIC E en m) (tG EF (own.map (·.2)) g) (tMb EF t) (tM EF me) (own.map (·.2)) sg H Q := by
  obtain ⟨w, env, rfl, k, r, l⟩ := h
  refine ⟨w, env, rfl, k, r, lead_bind l fun w1 cx J k1 x1 r1 l1 => ?_⟩
  intro D hD
  obtain ⟨c, zs⟩ := cx
  obtain ⟨G, Y, W, hG, hY⟩ := r1
  have l1 : Lead w1 (((cloopC g t me (wipeE env (own.map (·.2))) w1.h.length c zs (itV en zs)).bind fun _ => cfin mt w1.h.length) (w1.h ++ [some (.lst [])])) Q E := l1
  have W : Walk J (itV en zs).length G Y := W
  have hG : ∀ w2 : Wd, w2.Ok → Ext w1 w2 → guardC c zs w2.h = .ok () w2.h → G w2.H := hG
  have hY : ∀ (i : Nat) (u : V) (w2 : Wd) (H' : Hp), i < (itV en zs).length → w2.Ok → Ext w1 w2 → Y i w2.H u H' → ∃ w3 : Wd, w3.H = H' ∧ w3.h = w2.h ∧ w3.Ok ∧ Ext w2 w3 ∧ ∃ v, (itV en zs)[i]? = some v ∧ RV w3 v u := hY
  generalize itV en zs = xs at W hG hY l1
  have re1 := (r.ext k x1).wipe (own.map (·.2))
  generalize wipeE env (own.map (·.2)) = envW at re1 l1
  generalize hn : w1.h.length = n0 at l1
  have kM := Wd.Ok.more (o := .lst []) (u := .lst []) k1 hD ⟨[], upd_same, RVs.nil⟩
  have xM : Ext w1 (w1.more D (.lst []) (.lst [])) := Ext.more k1 hD
  refine lc_it W (fun i H' => ∃ w2, w2.H = H' ∧ w2.Ok ∧ Ext w1 w2 ∧ w2.rho[n0]? = some D ∧ Lead w1 (((cloopC g t me envW n0 c zs (xs.drop i)).bind fun _ => cfin mt n0) w2.h) Q E) ⟨w1.more D (.lst []) (.lst []), rfl, kM, xM, ?_, l1⟩ ?_ ?_ ?_
  · show (w1.rho ++ [D])[n0]? = some D
    rw [← hn, ← k1.len]; simp
  · rintro i H' hi ⟨w2, rfl, k2, x2, _, l2⟩
    exact hG w2 k2 x2 (guard_of l2)
  · rintro i u H' H'' hi ⟨w2, rfl, k2, x2, hr, l2⟩ y
    obtain ⟨w3, rfl, eh, k3, x3, v, ev, rv⟩ := hY i u w2 H'' hi k2 x2 y
    have ed : xs.drop i = v :: xs.drop (i + 1) := by
      obtain ⟨h1, h2⟩ := List.getElem?_eq_some_iff.mp ev
      rw [List.drop_eq_getElem_cons h1, h2]
    rw [ed, ← eh] at l2
    rw [guard_cons (guard_of l2)] at l2
    have e2 : (((cturn g t me envW n0 v).bind fun _ => cloopC g t me envW n0 c zs (xs.drop (i + 1))).bind fun _ => cfin mt n0) = (noX (g v envW)).bind fun env2 => (noX (t env2)).bind fun b =>
        (if b then (noX (me env2)).bind fun y => push n0 y else M.pure ()).bind fun _ => (cloopC g t me envW n0 c zs (xs.drop (i + 1))).bind fun _ => cfin mt n0 := by
      show (M.bind (M.bind (cturn g t me envW n0 v) fun _ => cloopC g t me envW n0 c zs (xs.drop (i + 1))) fun _ => cfin mt n0) = _
      unfold cturn
      rw [M.bind_assoc, M.bind_assoc]
      congr 1
      funext env2
      rw [M.bind_assoc]
    rw [e2] at l2
    have hr3 := x3.rho _ _ hr
    refine ⟨w3, envW, v, rfl, k3, (re1.ext k1 x2).ext k2 x3, rv, lead_bindX l2 fun w4 env4 sg4 k4 x4 re4 l4 hw => ?_⟩
    refine ⟨hw.trans (wipe_wipe _ _), w4, env4, rfl, k4, re4, lead_bindX l4 fun w5 b b' k5 x5 r5 l5 => ?_⟩
    subst r5
    have x15 : Ext w1 w5 := ((x2.trans x3).trans x4).trans x5
    have hr5 := x5.rho _ _ (x4.rho _ _ hr3)
    cases b with
    | false =>
      rw [if_neg (by decide)] at l5 ⊢
      exact ⟨w5, rfl, k5, x15, hr5, l5⟩
    | true =>
      rw [if_pos rfl] at l5 ⊢
      rw [M.bind_assoc] at l5
      refine ⟨w5, env4, rfl, k5, re4.ext k4 x5, lead_bindX l5 fun w6 y' uy k6 x6 r6 l6 => ?_⟩
      have hr6 := x6.rho _ _ hr5
      have x16 := x15.trans x6
      have l6 : Lead w1 ((M.bind (push n0 y') fun _ => (cloopC g t me envW n0 c zs (xs.drop (i + 1))).bind fun _ => cfin mt n0) w6.h) Q E := l6
      unfold M.bind push at l6
      cases e : w6.h[n0]? with
      | none => simp only [e] at l6; exact l6.elim
      | some c =>
        cases c with
        | none => simp only [e] at l6; exact l6.elim
        | some ob =>
          cases ob with
          | dk _ => simp only [e] at l6; exact l6.elim
          | dt _ => simp only [e] at l6; exact l6.elim
          | lst acc =>
            simp only [e] at l6
            obtain ⟨us, e1, ra⟩ := k6.obj _ _ _ e hr6
            by_cases hs : acc.length < sizeLine
            · rw [if_pos hs] at l6
              refine ⟨us, e1, by rw [← ra.length]; exact hs, w6.put n0 D (.lst (acc ++ [y'])) (.lst (us ++ [uy])), rfl, ?_, ?_, hr6, l6⟩
              · refine Wd.Ok.put k6 e hr6 ⟨_, upd_same, ?_⟩
                exact RVs.append (RVs.put k6 e hr6 _ _ ra) (RVs.cons (RV.put k6 e hr6 _ _ r6) RVs.nil)
              · exact Ext.put k6 e hr6 x16 (.inr hD) (.inl (by omega))
            · rw [if_neg hs] at l6; exact l6.elim
  · rintro H' ⟨w2, rfl, k2, x2, hr, l2⟩
    rw [List.drop_length] at l2
    rw [guard_nil (guard_of l2)] at l2
    subst hn
    exact cfin_ok k1 k2 x2 hr l2
theorem se_compC (hc : X.calm = true) (hN : X.N.Nodup) (hi : SIC X E en tg iter m) (ok : BlkOk X.N X.env.scope scope own)
    (hg : ∀ (s : Shared) (H : Hp) (C : Addr) (cl : List (Str × Addr)) (fp : List Addr), SG (X.blk s H scope (compEnvC scope cl C X.env) fp) EF (own.map (·.2)) tg g)
    (ht : ∀ (s : Shared) (H : Hp) (C : Addr) (cl : List (Str × Addr)) (fp : List Addr), STs (X.blk s H scope (compEnvC scope cl C X.env) fp) EF ifs t)
    (he : ∀ (s : Shared) (H : Hp) (C : Addr) (cl : List (Str × Addr)) (fp : List Addr), SE (X.blk s H scope (compEnvC scope cl C X.env) fp) EF elt me)
    (hs : ∀ x, foldedSetIterable iter X.env x = pure x := by intro _; rfl) : SE X E (.ListComp elt [⟨tg, iter, ifs, 0⟩] scope pos) (compC mt en m g t me (own.map (·.2))) :=
  ⟨fun pins s sg H Q I h => (pe_lc hc hN hi ok hg ht he hs).run pins s sg H Q I (comp_ofC h)⟩
theorem ss_setCompC {i : Nat} {y : Str} {py spos : Pos} (hc : X.calm = true) (hN : X.N.Nodup) (hy : X.N[i]? = some y) (hyl : X.env.scope.names.lookup y = some .local)
    (hsw : swapsWith (.ListComp elt [⟨tg, iter, ifs, 0⟩] scope pos) (some (.Name y py)) spos.line X.env = pure true) (hi : SIC X E en tg iter m) (ok : BlkOk X.N X.env.scope scope own)
    (hg : ∀ (s : Shared) (H : Hp) (C : Addr) (cl : List (Str × Addr)) (fp : List Addr), SG (X.blk s H scope (compEnvC scope cl C X.env) fp) EF (own.map (·.2)) tg g)
    (ht : ∀ (s : Shared) (H : Hp) (C : Addr) (cl : List (Str × Addr)) (fp : List Addr), STs (X.blk s H scope (compEnvC scope cl C X.env) fp) EF ifs t)
    (he : ∀ (s : Shared) (H : Hp) (C : Addr) (cl : List (Str × Addr)) (fp : List Addr), SE (X.blk s H scope (compEnvC scope cl C X.env) fp) EF elt me)
    (hs : ∀ x, foldedSetIterable iter X.env x = pure x := by intro _; rfl) : SS X E (.Assign [.Name y py] (.ListComp elt [⟨tg, iter, ifs, 0⟩] scope pos) spos) (sSet i (compC mt en m g t me (own.map (·.2)))) := by
  refine ⟨fun pins s sg H D I h => (ps_setLc hc hN hy hyl hsw hi ok hg ht he hs).run pins s sg H D I ?_⟩
  obtain ⟨w, env, rfl, k, r, l⟩ := h
  refine comp_ofC ⟨w, env, rfl, k, r, lead_bind l fun w1 v u k1 x1 r1 l1 => ?_⟩
  exact lead_ok (Q := QF D) (b := Sum.inl (sg.set i (some u))) l1 k1 ((r.ext k x1).set i r1)
end
end Mi

set_option Elab.async false
set_option linter.all false
set_option maxRecDepth 100000
set_option maxHeartbeats 4000000
/-! Mini, part V: rules for a comprehension over a list that is changed later. -/
namespace Mi
open PySem PySem.Spec PyProof.Rows L2
section
variable {h : MH} {env : Ev} {Q : MV → MH → Prop} {Qu : Unit → MH → Prop} {A : Type}
theorem sameV_refl {v : MV} (p : plainV v = true) : sameV v v = true := by
  cases v <;> first | exact absurd p Bool.false_ne_true | simp [sameV]
theorem sameVs_refl : ∀ {xs : List MV}, (∀ v ∈ xs, plainV v = true) → sameVs xs xs = true
  | [], _ => rfl
  | x :: xs, p => by
    simp only [sameVs, Bool.and_eq_true]
    exact ⟨sameV_refl (p x (by simp)), sameVs_refl fun v hv => p v (List.mem_cons_of_mem _ hv)⟩
theorem wp_guard {c : Nat} {xs : List MV} (hc : cellL h c xs) (pl : ∀ v ∈ xs, plainV v = true) : Wp (guardC c xs) h Qu ↔ Qu () h := by
  simp only [wpR]; unfold WpR guardC
  rw [show h[c]? = some (some (.lst xs)) from hc]
  simp [sameVs_refl pl]
theorem wp_cmpFC {en : Bool} {m : EM} {g : GM} {tt : BM} {e : EM} {own : List Nat} {c : Nat} {xs : List MV} (l : List A) (enc : A → MV) (p : A → Bool) (f : A → MV) (hm : Wp (m env) h fun v h1 => v = .cell c ∧ h1 = h) (hc : cellL h c xs) (pl : ∀ v ∈ xs, plainV v = true) (hl : itV en xs = l.map enc) (few : l.length ≤ 100000)
    (hb : ∀ a ∈ l, ∀ t, Wp (g (enc a) (wipeE env own)) (h ++ t) fun env' h2 => Wp (tt env') h2 fun b h3 => b = p a ∧ h3 = h ++ t ∧ (p a = true → Wp (e env') (h ++ t) fun y h4 => h4 = h ++ t ∧ y = f a ∧ y.free = true))
    (q : Q (.lst ((l.filter p).map f)) h) : Wp (compC false en m g tt e own env) h Q := by
  have go : ∀ (k i : Nat) (acc : List MV), k + i = l.length → acc = ((l.take i).filter p).map f → MV.freeAll acc = true → Wp (cloopC g tt e (wipeE env own) h.length c xs ((l.drop i).map enc)) (h ++ [some (.lst acc)]) fun _ h2 => h2 = h ++ [some (.lst ((l.filter p).map f))] ∧ MV.freeAll ((l.filter p).map f) = true := by
    intro k
    induction k with
    | zero =>
      intro i acc ei ea fa
      have : i = l.length := by omega
      subst this
      rw [List.drop_length]
      rw [List.take_length] at ea
      show Wp ((guardC c xs).bind fun _ => M.pure ()) _ _
      rw [wp_bind, wp_guard (cell_app _ hc) pl, wp_pure, ea]
      rw [ea] at fa
      exact ⟨rfl, fa⟩
    | succ k ih =>
      intro i acc ei ea fa
      have hi : i < l.length := by omega
      rw [List.drop_eq_getElem_cons hi, List.map_cons]
      show Wp ((guardC c xs).bind fun _ => (cturn g tt e (wipeE env own) h.length (enc l[i])).bind fun _ => cloopC g tt e (wipeE env own) h.length c xs ((l.drop (i + 1)).map enc)) _ _
      rw [wp_bind, wp_guard (cell_app _ hc) pl, wp_bind]
      unfold cturn
      rw [wp_bind, wp_noX]
      have et : l.take (i + 1) = l.take i ++ [l[i]] := by rw [List.take_add_one, List.getElem?_eq_getElem hi]; rfl
      have al : acc.length ≤ i := by
        rw [ea, List.length_map]
        have := List.length_filter_le p (l.take i)
        rw [List.length_take] at this
        omega
      refine (hb l[i] (List.getElem_mem hi) [some (.lst acc)]).mono fun env' h2 w => ?_
      rw [wp_bind, wp_noX]
      refine w.mono fun b h3 z => ?_
      obtain ⟨rfl, rfl, w2⟩ := z
      cases k2 : p l[i] with
      | true =>
        rw [if_pos rfl, wp_bind, wp_noX]
        refine (w2 k2).mono fun y h4 z => ?_
        obtain ⟨rfl, rfl, fy⟩ := z
        refine push_end (Nat.lt_of_lt_of_le (by omega : acc.length < 100000) (by decide)) ?_
        refine ih (i + 1) (acc ++ [f l[i]]) (by omega) ?_ ?_
        · rw [et, List.filter_append, List.map_append, ea]; simp [k2]
        · rw [freeAll_app, fa]; simp [MV.freeAll, fy]
      | false =>
        rw [if_neg (by decide), wp_pure]
        refine ih (i + 1) acc (by omega) ?_ fa
        rw [et, List.filter_append, ea]; simp [k2]
  show Wp (M.bind (cellR m env) (fun p => (show M MV from fun h => ((cloopC g tt e (wipeE env own) h.length p.1 p.2 (itV en p.2)).bind fun _ => cfin false h.length) (h ++ [some (.lst [])])))) h Q
  refine wp_bind.mpr ?_
  unfold cellR
  rw [wp_bind]
  refine hm.mono fun v h1 z => ?_
  obtain ⟨rfl, rfl⟩ := z
  refine wp_bind.mpr ?_
  rw [wp_itL_cell hc, wp_pure]
  refine wp_from ((cloopC g tt e (wipeE env own) h1.length c xs (itV en xs)).bind fun _ => cfin false h1.length) (h1 ++ [some (.lst [])]) ?_ rfl
  rw [wp_bind, hl]
  have w := go l.length 0 [] (by omega) (by simp) rfl
  rw [List.drop_zero] at w
  refine w.mono fun _ h2 z => ?_
  obtain ⟨rfl, fr⟩ := z
  refine .of (a := .lst ((l.filter p).map f)) (h' := h1) ?_ q
  unfold cfin
  simp [fr]
end
end Mi

set_option Elab.async false
set_option linter.all false
set_option maxRecDepth 100000
set_option maxHeartbeats 400000
/-! Mini, part W: raising an own error. -/
namespace Mi
open PySem PySem.Spec PyProof.Rows L2
variable [Gb]
/-- what is asked of the errors' __init__ at a new error -/
def spI (K : PySem.W.Frag) : Sp := fun vs H Q _ => ∃ (a C : Addr) (v : V), vs = [.ref a, v] ∧ OexC K C ∧ PySem.W.findIn K (.ref C) "value" = some none ∧ H a = some (exo a C none) ∧
  ∀ dx, H dx = none → dx ≠ a → Q .non (upd (upd H dx (exd dx [(("value" : Str), v)])) a (exo a C (some dx)))
theorem init_ok {P : Program} {w : World} {K : PySem.W.Frag} {mg : Str → Option Value} {base : Heap} {qu : Str} {st : Stmt} {f : Addr} {fd : FuncData} {ce : Expr} {p6 p7 p8 p9 q1 : Pos}
    (F : C8.Fun K "__init__" qu st f fd) (S : FnScope ["self", "value"] ["self", "value"] (C8.fnScope st))
    (hb : C8.fnBody st = [.Expr ce p6, .Assign [.Attribute (.Name "self" p7) "value" p8] (.Name "value" p9) q1])
    (v1 : Vis (C8.fnScope st) "self") (v2 : Vis (C8.fnScope st) "value")
    (hce : ∀ X : Cx, X.N = (["self", "value"] : List Str) → X.env.scope = C8.fnScope st → X.K = K → X.mg = mg → PE X ce (tVeI X.K fun σ H Q => ∃ x y, σ[0]? = some (some x) ∧ σ[1]? = some (some y) ∧ Q [x, y] H))
    (hs1 : ∀ X : Cx, swapsWith ce none p6.line X.env = pure false) :
    FnOk P w K mg base C8.CX0 2 f fd ["self", "value"] (spI K) := by
  refine C8.fn0 F S (fun vs H Q E h => ?_) fun cdv A outer s H vs Q E room h => ?_
  · obtain ⟨a, C, v, rfl, _⟩ := h
    rfl
  · obtain ⟨a, C, v, rfl, T, no, ea, q⟩ := h
    rw [hb]
    generalize hX : (cxOf C8.CX0 P w K mg base ["self", "value"] qu (C8.fnScope st) f cdv A outer s H E).nox = X
    have eN : X.N = (["self", "value"] : List Str) := by rw [← hX]; rfl
    have eS : X.env.scope = C8.fnScope st := by rw [← hX]; rfl
    have eK : X.K = K := by rw [← hX]; rfl
    have eM : X.mg = mg := by rw [← hX]; rfl
    have self : PE X (.Name "self" p7) _ := pe_var (i := 0) (by rw [eN]; rfl) (by rw [eS]; exact v1)
    have value : PE X (.Name "value" p9) _ := pe_var (i := 1) (by rw [eN]; rfl) (by rw [eS]; exact v2)
    refine ⟨_, pss_cons (ps_expr (hce X eN eS eK eM) (hs1 X)) (pss_one (ps_ost self value)), ?_⟩
    refine ⟨.ref a, v, rfl, rfl, a, C, [v], rfl, by simp, by rw [eK]; exact T, ea, ?_⟩
    refine ⟨v, rfl, .ref a, rfl, a, C, rfl, by rw [eK]; exact T, by rw [eK]; exact no, .inl ⟨ea, q⟩⟩
/-- raise C(e) -/
def sRaise (c : Nat) (e : EM) : SM := fun env => (e env).bind fun v => fun h => .exn c v h
/-- an error class that is raised -/
structure RaC (P : Program) (w : World) (K : PySem.W.Frag) (mg : Str → Option Value) (base : Heap) (x : Str) (c : Nat) : Prop where
  g : mg x = some (.ref (Gb.cls c))
  ox : OexC K (Gb.cls c)
  no : PySem.W.findIn K (.ref (Gb.cls c)) "value" = some none
  ini : ∃ (f : Addr) (fd : FuncData), PySem.W.findIn K (.ref (Gb.cls c)) "__init__" = some (some (.ref f)) ∧ PySem.W.typeIn K (.ref f) = some (.type "function") ∧ Binds K fd ["self", "value"] [] ∧ FnOk P w K mg base C8.CX0 2 f fd ["self", "value"] (spI K)
section
variable {X : Cx} {e : Expr} {me : EM} {x : Str} {c : Nat} {E : XK} {cv : Nat → Value} {p pos pos' : Pos}
theorem del_up {H : Hp} {a dx : Addr} {o o1 o2 u : HO} (ha : H a = none) (ne : dx ≠ a) : upd (del (upd (upd (upd H a o) dx o1) a o2) a) dx u = upd H dx u := by
  funext b
  by_cases h1 : b = dx
  · rw [h1, upd_same, upd_same]
  · rw [upd_ne h1, upd_ne h1]
    by_cases h2 : b = a
    · rw [h2, del_same, ha]
    · rw [del_ne h2, upd_ne h2, upd_ne h1, upd_ne h2]
theorem ss_raise (Z : RaC X.prog X.w X.K X.mg X.base x c) (tk : Takes X fun cls d _ H => E cls d H) (hc : X.calm = true) (hr : Room 3 X.A) (hg : Gl X x) (hcv : cv c = .ref (Gb.cls c)) (he : SE X (ewOf cv E) e me)
    (hdb : (x == ("__debug__" : Str)) = false := by decide) (h1 : starEach [e] X.env = (false, eval e X.env) :: starEach [] X.env := by rfl) (hpl : (backTo pos (starEach [] X.env)).any (·.1) = false := by rfl) :
    SS X (ewOf cv E) (.Raise (some (.Call (.Name x p) [e] [] pos)) none pos') (sRaise c me) := by
  obtain ⟨f, fd, i1, i2, i3, i4⟩ := Z.ini
  refine ⟨fun pins s sg H D I h => (ps_raise hc tk (pmk_oex Z.ox i1 i2 i4 hr i3 .nil C8.pass0 hg Z.g (sa_cons he sa_nil h1) hdb h1 hpl)).run pins s sg H D I ?_⟩
  obtain ⟨w, env, rfl, k, r, l⟩ := h
  refine ⟨w, env, rfl, k, r, ?_⟩
  have l : LeadF w (((me env).bind fun v => fun h => .exn c v h) w.h) D (ewOf cv E) := l
  show LeadA w (((me env).bind fun x => (aNil env).bind fun xs => M.pure (x :: xs)) w.h) _ _
  generalize hm : me env w.h = o at l
  unfold M.bind at l ⊢
  rw [hm] at l ⊢
  cases o with
  | stuck => exact l
  | exn c' v h' => exact l
  | ok v h' =>
    have l : LeadF w (.exn c v h') D (ewOf cv E) := l
    show LeadA w (.ok [v] h') _ _
    intro w' us eh k' x' rs
    obtain ⟨u, rfl, ru⟩ := rs.one
    have q := l w' u eh k' x' ru
    refine ⟨by simp, fun a ha => ⟨a, _, u, rfl, Z.ox, Z.no, upd_same, fun dx hdx ne => ⟨rfl, dx, [(("value" : Str), u)], upd_same, ?_, ?_, ?_⟩⟩⟩
    · rw [upd_ne ne, upd_same]
    · rw [upd_ne ne] at hdx; exact hdx
    · rw [upd_ne ne] at hdx
      rw [del_up ha ne, ← hcv]
      exact q dx hdx
end
end Mi

set_option Elab.async false
set_option linter.all false
set_option maxRecDepth 100000
set_option maxHeartbeats 1000000
/-! Mini, part Wa: an object of ours that is told from now on; lambdas as values. -/
namespace Mi
open PySem PySem.Spec PyProof.Rows L2
variable [Gb]
section
variable {X : Cx} {pins : List (Addr × Obj)} {σ : L2.St} {H : Hp} {s : Shared}
/-- an object that was not there at the frame's entry is told from now on -/
theorem inv_track {a : Addr} {o : HO} (I : L2.Inv X pins σ H s) (n0 : X.s_0.heap.get? a = none) (hn : H a = none) (hp : ∀ p ∈ X.pn ++ pins, p.1 ≠ a) (hl : X.env.locals ≠ a) (hc : ∀ x c, X.env.cells.lookup x = some c → c ≠ a)
    (new : ObjOk X.prog X.w (upd H a o) s.heap a o) : L2.Inv X pins σ (upd H a o) s := by
  have old : ∀ b u, X.s_0.heap.get? b = some u → b ≠ a := fun b u e z => by
    rw [z, n0] at e; cases e
  have told : ∀ b u, H b = some u → b ≠ a := fun b u e => ne_of_none e hn
  have B := I.base
  constructor
  · exact I.ok
  · exact I.os
  · exact I.bare
  · constructor
    · exact B.keep
    · exact B.slot
    · intro b u e1 e2 e3
      rw [upd_ne (old b u e1)]
      exact B.free b u e1 e2 e3
    · exact B.there
    · intro b xs e1
      have e2 := B.tups b xs e1
      rw [upd_ne (told b _ e2)]; exact e2
    · intro b u v e1
      have e2 := B.frzs b u v e1
      rw [upd_ne (told b _ e2)]; exact e2
    · intro b ps e1
      obtain ⟨more, e2⟩ := B.tbls b ps e1
      exact ⟨more, by rw [upd_ne (told b _ e2)]; exact e2⟩
  · exact I.loc
  · exact I.cell
  · rw [upd_ne hl]; exact I.free
  · intro x c e1
    rw [upd_ne (hc x c e1)]; exact I.freeC x c e1
  · intro p h1
    obtain ⟨q1, q2, q3, q4, q5⟩ := I.pin p h1
    exact ⟨q1, by rw [upd_ne (hp p h1)]; exact q2, q3, q4, q5⟩
  · intro b u e1
    by_cases hb : b = a
    · subst hb
      rw [upd_same] at e1
      cases e1
      exact new
    · rw [upd_ne hb] at e1
      exact (I.hok b u e1).stay (fun _ _ _ z => z) (fun c z => by rw [upd_ne (told c _ z)]; exact z) (fun c xs z => by rw [upd_ne (told c _ z)]; exact z)
  · exact I.len
theorem lamO_ok {P : Program} {wd : World} {H : Hp} {h : Heap} {a c : Addr} {d : LamD} {fr : List (Str × Addr)} {pm ctv : Value} (e : h.get? a = some (PySem.W.kla_obj "<lambda>" (d.q ++ "<lambda>") d.params d.body d.scope (cloFrom fr d.scope.names []) pm c ctv)) : ObjOk P wd H h a (LamO a d fr c pm ctv) :=
  ⟨e, ⟨_, e⟩, fun _ _ z k => k _ z⟩
theorem lamO_at {P : Program} {wd : World} {H : Hp} {h : Heap} {a c : Addr} {d : LamD} {fr : List (Str × Addr)} {pm ctv : Value} (hok : HOk P wd H h) (he : H a = some (LamO a d fr c pm ctv)) : h.get? a = some (PySem.W.kla_obj "<lambda>" (d.q ++ "<lambda>") d.params d.body d.scope (cloFrom fr d.scope.names []) pm c ctv) := by
  have x : ObjOk P wd H h a (.ext fun h => h.get? a = some (PySem.W.kla_obj "<lambda>" (d.q ++ "<lambda>") d.params d.body d.scope (cloFrom fr d.scope.names []) pm c ctv)) := hok a _ he
  exact x.1
/-- what stays while a lambda is made -/
structure LamX1 (H H1 : Hp) : Prop where
  ext : LamX.ExtN H H1
  tbl : ∀ b ps, H b = some (.tbl ps) → ∃ ps', H1 b = some (.tbl ps')
/-- a lambda is made -/
theorem lam_made {c P : Addr} {d : LamD} {pos : Pos} {E : Value → Shared → Prop} {Q : Value → Shared → Prop} (I : L2.Inv X pins σ H s) (TB : LamX.TabB X.base X.mg c P) (hcode : X.env.code = .ref c) (hq : X.env.qual = d.q)
    (hm : (P, d.q ++ "<lambda>") ∈ Gb.T) (hu : ∀ p ∈ Gb.T, p.1 = P → p.2 = d.q ++ "<lambda>") (hT : LamX.Tabs Gb.T H) (hdef : defaultsOf d.params X.env = ([], [])) (hfree : ∀ y ∈ d.scope.names, y.2 = .free → ∃ c, X.env.cells.lookup y.1 = some c)
    (h : ∀ (f c' : Addr) (pm ctv : Value) (H1 : Hp) (s' : Shared), LamX1 H H1 → LamX.Tabs Gb.T H1 → H1 f = none → H1 c' = some (LamX.CodeO c' (d.q ++ "<lambda>")) → L2.Inv X pins σ (upd H1 f (LamO f d X.env.cells c' pm ctv)) s' → Q (.ref f) s') :
    wpAny (model X.prog X.w) X.A (eval (.Lambda d.params d.body d.scope pos) X.env) Q E s := by
  obtain ⟨qs, hP, ht, ha⟩ := hT _ hm
  refine PySem.W.kla_eval hdef ?_
  rw [hq]
  have bP : s.heap.BuiltinsAt X.mg P := TB.bm.keeps I.bk
  have hP1 : s.heap.get? P = some { cls := .none, data := .fields qs } := I.hok P _ hP
  cases hc : codeAmong pos qs.toList with
  | none =>
    refine PySem.W.kla_makeFunction (mg := X.mg) (c := c) (P := P) (ps := qs) (closure_ok hfree) I.ok.glob (I.mod.glob.keeps I.bk) hcode (TB.code.keeps I.bk) hP1 ht hc TB.gP bP fun c1 ct1 h1 tk1 k1 ge1 lt1 rec1 tb1 => ?_
    obtain ⟨c2, oc, vs, t, e2, hoc, hd, hv⟩ := rec1
    cases e2
    have nC : H c1 = none := I.hok.fresh ge1
    have sz : s.heap.objs.size ≤ h1.objs.size := Nat.le_trans ge1 (Nat.le_of_lt lt1)
    generalize hmr : #[rawInt pos.line, rawInt pos.col, Value.ref c1] = mr at tb1
    have I1 := LamX.inv_table (t' := tk1) (q := d.q ++ "<lambda>") (more := mr) (h' := h1) I hP k1 tb1 ge1 ⟨oc, vs, t, hoc, hd, hv⟩
    generalize hH1 : upd (upd H P (.tbl (qs ++ mr))) c1 (LamX.CodeO c1 (d.q ++ "<lambda>")) = H1 at I1
    have at1 : ∀ b, b ≠ P → b ≠ c1 → H1 b = H b := fun b n1 n2 => by rw [← hH1, upd_ne n2, upd_ne n1]
    have atP : H1 P = some (.tbl (qs ++ mr)) := by rw [← hH1, upd_ne (ne_of_none hP nC), upd_same]
    have atC : H1 c1 = some (LamX.CodeO c1 (d.q ++ "<lambda>")) := by rw [← hH1, upd_same]
    have X1 : LamX1 H H1 := by
      refine ⟨fun b o e n => ?_, fun b ps e => ?_⟩
      · rw [at1 b (fun z => n qs (Option.some.inj (e.symm.trans (by rw [z]; exact hP)))) (ne_of_none e nC)]; exact e
      · by_cases hb : b = P
        · exact ⟨_, by rw [hb]; exact atP⟩
        · exact ⟨ps, by rw [at1 b hb (ne_of_none e nC)]; exact e⟩
    have nF : H1 h1.objs.size = none := by
      rw [at1 _ (Nat.ne_of_gt (Nat.lt_of_lt_of_le (Heap.lt_size hP1) sz)) (Nat.ne_of_gt lt1)]
      exact I.hok.fresh sz
    have T1 : LamX.Tabs Gb.T H1 := fun p hp => by
      by_cases hb : p.1 = P
      · have e1 := hu p hp hb
        refine ⟨qs ++ mr, by rw [hb]; exact atP, ?_, fun ps' cv hcv => ?_⟩
        · rw [← hmr, Array.toList_append]
          exact PySem.TriplesOk_snoc _ _ _ _ ht
        · rw [← hmr, Array.toList_append] at hcv
          rw [e1]
          rcases LamX.among_app _ ht hcv with z | z
          · obtain ⟨c0, z1, z2⟩ := ha ps' cv z
            exact ⟨c0, z1, X1.ext _ _ z2 codO_ne⟩
          · exact ⟨c1, z, atC⟩
      · obtain ⟨ps1, a1, a2, a3⟩ := hT p hp
        refine ⟨ps1, by rw [at1 _ hb (ne_of_none a1 nC)]; exact a1, a2, fun ps' cv hcv => ?_⟩
        obtain ⟨c0, z1, z2⟩ := a3 ps' cv hcv
        exact ⟨c0, z1, X1.ext _ _ z2 codO_ne⟩
    refine h h1.objs.size c1 ((X.mg "__name__").getD .none) ct1 H1 _ X1 T1 nF atC ?_
    exact I1.laid (t' := tk1) (fun b o e => Heap.get?_push_of_some _ e) (Nat.le_refl _) (lamO_ok (Heap.get?_push_size _ rfl))
  | some cv =>
    obtain ⟨c1, e, hco⟩ := ha pos cv hc
    subst e
    refine PySem.W.kla_makeFunctionHit (mg := X.mg) (c := c) (P := P) (ps := qs) (closure_ok hfree) I.ok.glob (I.mod.glob.keeps I.bk) hcode (TB.code.keeps I.bk) hP1 ht hc bP fun ct1 h1 tk1 k1 sz => ?_
    have nF : H h1.objs.size = none := I.hok.fresh sz
    refine h h1.objs.size c1 ((X.mg "__name__").getD .none) ct1 H _ ⟨LamX.ExtN.refl H, fun b ps e => ⟨ps, e⟩⟩ hT nF hco ?_
    have I1 : L2.Inv X pins σ H { s with heap := h1, toks := tk1 } := I.kept fun b o e => k1 b o e
    exact I1.laid (t' := tk1) (fun b o e => Heap.get?_push_of_some _ e) (Nat.le_refl _) (lamO_ok (Heap.get?_push_size _ rfl))
end
end Mi

set_option Elab.async false
set_option linter.all false
set_option maxRecDepth 100000
set_option maxHeartbeats 1000000
/-! Mini, part Wb: lambdas as values, called by a def that catches what they raise. -/
namespace Mi
open PySem PySem.Spec PyProof.Rows L2
variable [Gb]
section
variable {X : Cx} {E : EW} {pins : List (Addr × Obj)} {σ : L2.St} {H : Hp} {s : Shared}
def lamE (k : Nat) : EM := fun _ h => .ok (.lam k) h
theorem Wd.lamW {w : Wd} {H1 : Hp} {f : Addr} {o : HO} (k : w.Ok) (x1 : LamX1 w.H H1) (t1 : LamX.Tabs Gb.T H1) (nf : H1 f = none) :
    Wd.Ok { w with H := upd H1 f o } ∧ Ext w { w with H := upd H1 f o } := by
  have keep : ∀ a u, w.H a = some u → (∀ ps, u ≠ .tbl ps) → upd H1 f o a = some u := fun a u e n => by
    have := x1.ext a u e n
    rw [upd_ne (ne_of_none this nf)]; exact this
  have X1 : Ext w { w with H := upd H1 f o } := by
    refine ⟨fun _ _ h => h, fun a u e n _ => keep a u e n, fun _ l => .inl l, Nat.le_refl _, fun _ _ _ h => .inl h, fun a ps e _ => ?_⟩
    obtain ⟨ps', e'⟩ := x1.tbl a ps e
    exact ⟨ps', by show upd H1 f o a = _; rw [upd_ne (ne_of_none e' nf)]; exact e'⟩
  refine ⟨⟨k.len, fun i ob a h1 h2 => ?_, k.inj, tabs_new t1 nf⟩, X1⟩
  refine (k.obj i ob a h1 h2).ext k X1 fun u e => keep a u e fun ps z => ?_
  subst z
  exact not_live_tbl k e ⟨i, ob, h1, h2⟩
theorem se_lam {k : Nat} {q : Str} {params : Arguments} {body : Expr} {scope : Scope} {c P : Addr} {pos : Pos} (hk : Gb.lam k = ⟨q, params, body, scope⟩) (hfr : Gb.fr = X.env.cells) (TB : LamX.TabB X.base X.mg c P) (hcode : X.env.code = .ref c) (hq : X.env.qual = q)
    (hm : (P, q ++ "<lambda>") ∈ Gb.T) (hu : ∀ p ∈ Gb.T, p.1 = P → p.2 = q ++ "<lambda>") (hdef : defaultsOf params X.env = ([], [])) (hL : LamX.LamS X.env.scope scope) :
    SE X E (.Lambda params body scope pos) (lamE k) := by
  refine ⟨fun pins s sg H Q I h => ?_⟩
  obtain ⟨w, env, rfl, kk, r, l⟩ := h
  refine lam_made (d := ⟨q, params, body, scope⟩) I TB hcode hq hm hu kk.tabs hdef (hL.has I.ok) fun f c' pm ctv H1 s' x1 t1 nf hc' I1 => ?_
  obtain ⟨k1, X1⟩ := Wd.lamW (o := LamO f ⟨q, params, body, scope⟩ X.env.cells c' pm ctv) kk x1 t1 nf
  refine ⟨.ref f, _, I1, rfl, ?_⟩
  refine l { w with H := upd H1 f (LamO f ⟨q, params, body, scope⟩ X.env.cells c' pm ctv) } (.ref f) rfl k1 X1 ?_
  simp only [RV]
  refine ⟨f, c', pm, ctv, rfl, ?_, ?_⟩
  · show upd H1 f _ f = _
    rw [upd_same, hk, hfr]
  · show upd H1 f _ c' = _
    rw [upd_ne (ne_of_none hc' nf), hk]; exact hc'
end
end Mi

set_option Elab.async false
set_option linter.all false
set_option maxRecDepth 100000
set_option maxHeartbeats 1000000
/-! Mini, part Wc: a lambda is called by the def that got it. -/
namespace Mi
open PySem PySem.Spec PyProof.Rows L2
variable [Gb]
section
variable {X : Cx} {pins : List (Addr × Obj)} {σ : L2.St} {H : Hp} {s : Shared}
/-- the frame of the def that got the lambda -/
abbrev hrdCx (X : Cx) (Ng : List Str) (x : Str) (sg : Scope) (g : Addr) (cdg : Value) (s : Shared) (H : Hp) : Cx := cxOf C8.CX0 X.prog X.w X.K X.mg X.base Ng x sg g cdg X.A X.stack s H C8.E0
theorem pe_lact {d : LamD} {Ng : List Str} {x : Str} {sg : Scope} {g : Addr} {cdg : Value} {k : Nat} {a : Str} {pn : List (Addr × Obj)} {xe : Value → Shared → Prop} {W : WX} {tb : XK → TE} {p1 p2 : Pos}
    (I : L2.Inv X pins σ H s) (L : LamX.LamS X.env.scope d.scope) (hq : X.env.qual = d.q)
    (hbind : ∀ (q : Str) (cl : List (Str × Addr)) (pm cv ctv : Value), bindArgs (PySem.W.kla_fn "<lambda>" q d.params d.body d.scope cl pm cv ctv) ⟨[], []⟩ = pure [])
    (tk : Takes ((hrdCx X Ng x sg g cdg s H).tr pn xe) W) (hr : Room (k + 1) (X.A.deeper (envOfC x sg s.heap.objs.size g cdg)))
    (hbody : ∀ (s1 : Shared) (H1 : Hp) (E : XK) (f c' : Addr), Room k ((X.A.deeper (envOfC x sg s.heap.objs.size g cdg)).deeper (LamX.lamEnv X d.scope s1.heap.objs.size f c')) → PE (LamX.lamCx X (X.A.deeper (envOfC x sg s.heap.objs.size g cdg)) (envOfC x sg s.heap.objs.size g cdg :: X.stack) s1 H1 E d.scope f c') d.body (tb E))
    (hN : Ng[0]? = some a) (hv : Vis sg a) (hd : (a == ("__debug__" : Str)) = false) (hcd : (a == ("__classdict__" : Str)) = false) :
    PE ((hrdCx X Ng x sg g cdg s H).tr pn xe) (.Call (.Name a p1) [] [] p2)
      (fun σZ HZ Q => ∃ (f c' : Addr) (pm ctv : Value) (E : XK), σZ[0]? = some (some (.ref f)) ∧ HZ f = some (LamO f d X.env.cells c' pm ctv) ∧ HZ c' = some (LamX.CodeO c' (d.q ++ "<lambda>")) ∧ (∀ cls dd H1, E cls dd H1 → W cls dd σZ H1) ∧ tb E σ HZ Q) := by
  refine ⟨fun pinsZ sZ σZ HZ Q IZ h => ?_⟩
  obtain ⟨f, c', pm, ctv, E, h0, hf, hc, hW, ht⟩ := h
  have callee := (pe_var (pos := p1) (i := 0) hN hv hd hcd).run pinsZ sZ σZ HZ (fun v H1 => v = .ref f ∧ H1 = HZ) IZ ⟨.ref f, h0, rfl, rfl⟩
  refine wpAny_Call_Name_kw (thn callee fun u s1 ⟨v, H1, I1, r1, ev, eH⟩ => ?_)
  subst ev
  rw [eH] at I1
  obtain rfl : u = Value.ref f := r1
  have obj := lamO_at I1.hok hf
  rw [← hq] at obj hc
  refine PySem.W.callWith_F0 ⟨_, _, _, _, obj⟩ ?_
  have un1 : Un (frs X.stack) [] H HZ s.heap s1.heap := I1.base
  obtain ⟨⟨oc, vs, t, hoc, hdc, hvc⟩, _, _⟩ := I1.hok c' _ hc
  have run : codeAny (model X.prog X.w) (X.A.deeper (envOfC x sg s.heap.objs.size g cdg)) (.call (.ref f) ⟨[], []⟩) (CR (L2.CX X.prog X.w) (envOfC x sg s.heap.objs.size g cdg :: X.stack) X.prog X.w HZ s1 Q E) s1 := by
    refine PySem.W.kla_callFunE hr.depth obj rfl L.co L.gen rfl ⟨c', oc, vs, t, rfl, hoc, hdc, hvc⟩ ?_
    rw [hbind]
    refine wpAny_pure (wpAny_newFunctionEnv (fun y hy => (L.own y hy).2) (fun y hy => absurd hy (by simp)) (fun hp1 ns1 sb1 => ⟨I1.nolimit.fresh _ sb1, ?_⟩) L.kind)
    show codeAny _ _ (.expr d.body (LamX.lamEnv X d.scope s1.heap.objs.size f c')) _ _
    have kp : ∀ b o, s1.heap.get? b = some o → hp1.get? b = some o := fun b o e => sb1.extBut b o (Nat.ne_of_lt (Heap.lt_size e)) (Heap.get?_push_of_some _ e)
    have J := LamX.lam_start2 (A := X.A.deeper (envOfC x sg s.heap.objs.size g cdg)) (outer := envOfC x sg s.heap.objs.size g cdg :: X.stack) (E := E) (f := f) (c' := c') (tk := s1.toks + ([] : List (Str × Value)).length) I L I1.env0 hr.hd un1 ns1 kp
    refine PySem.W.kla_codeExpr (wpAny_mono ((hbody s1 HZ E f c' (hr.deeper _)).run [] _ _ HZ Q J ht) (fun v s2 hq => ?_) fun e s2 hq => hq)
    obtain ⟨v2, H2, J2, rv, q⟩ := hq
    exact ⟨v2, H2, J2.os, J2.bare, J2.base, J2.hok, rv, q⟩
  refine wpAny_call (codeAny_mono run fun r s2 hq => ?_)
  cases r with
  | error e => exact tk e s2 (XE.of_call I1 hW hq)
  | ok fl =>
    cases fl with
    | ret u => exact I1.after hq
    | next => exact hq.elim
    | brk => exact hq.elim
    | cont => exact hq.elim
end
end Mi

set_option Elab.async false
set_option linter.all false
set_option maxRecDepth 100000
set_option maxHeartbeats 1000000
/-! Mini, part Wd: a try whose caught error is told from then on. -/
namespace Mi
open PySem PySem.Spec PyProof.Rows L2
variable [Gb]
/-- what the clause wishes of an error of the body: it is caught, and told behind the suite -/
def wKeep (K : PySem.W.Frag) (c : Value) (i : Nat) (ts : Addr → Value → Option Addr → TS) (D : Ends) : WX := fun cls d σ H =>
  ∃ C dd : Addr, cls = .ref C ∧ d = some dd ∧ PySem.W.exmOne K cls c = some true ∧
    ∀ a, H a = none → ts a cls d { nx := fun σ1 H1 => D.nx (σ1.set i none) (upd H1 a (ErO a C dd)), rt := fun _ _ => False, bk := fun _ _ => False, ct := fun _ _ => False } (σ.set i (some (.ref a))) H
theorem erO_ok {P : Program} {wd : World} {H : Hp} {h : Heap} {a C d : Addr} {oe : Obj} {vs : Array Value} (e : h.get? a = some oe) (z : L2.Zc (.ref C) (some d) oe) (hd : oe.data = .fields vs) : ObjOk P wd H h a (ErO a C d) :=
  ⟨⟨oe, vs, e, z, hd⟩, ⟨oe, e⟩, fun _ _ ⟨o, v, q1, q2, q3⟩ k => ⟨o, v, k _ q1, q2, q3⟩⟩
section
variable {X : Cx} {x n : Str} {c : Value} {i : Nat} {body suite : List Stmt} {st0 : Stmt} {np pos pos' : Pos} {tb : WX → TS} {ts : Addr → Value → Option Addr → TS}
theorem ps_try_keep (hs : X.stack = X.env :: X.outer) (hf : X.env.frame = some X.env.locals) (hex : X.ex = []) (hN : X.N.Nodup) (hi : X.N[i]? = some n) (hln : X.env.kindOf n = some .local) (hc : Names X x c)
    (hb : ∀ (W : WX) (pn : List (Addr × Obj)) (xe : Value → Shared → Prop), Takes (X.tr pn xe) W → PSs (X.tr pn xe) body (tb W))
    (hsu : ∀ (a : Addr) (oe : Obj) (cls : Value) (d : Option Addr) (pn : List (Addr × Obj)), L2.Zc cls d oe → (∃ vs, oe.data = .fields vs) → PSs (X.suite a ((a, oe) :: pn)) (st0 :: suite) (ts a cls d)) :
    PS X (.Try body [.ExceptHandler (some (.Name x np)) (some n) (st0 :: suite) pos'] [] [] pos) (fun D σ H => tb (wKeep X.K c i ts D) D σ H) := by
  refine ⟨fun pins s σ H D I h => ?_⟩
  have ok := I.ok
  have fr0 : X.A.frames = some (X.env :: X.outer) := by rw [ok.frames, hs]
  have lc : Loc X.env.scope n := .inl hln
  refine wpAny_Try_except ?_
  let xe1 : Value → Shared → Prop := fun e s1 => wpAny (model X.prog X.w) X.A (noteFrame e X.env) (fun _ s2 => wpAny (model X.prog X.w) X.A (setFlight e none) (fun _ s3 =>
    wpAny (model X.prog X.w) X.A (handleBy e X.env [.ExceptHandler (some (.Name x np)) (some n) (st0 :: suite) pos']) (SP X pins D) X.xe s3) X.xe s2) X.xe s1
  have takes : Takes (X.tr (X.pn ++ pins) xe1) (wKeep X.K c i ts D) := by
    rintro u s1 ⟨a, B, sI, pins1, σ1, H1, cls, d, rfl, J1, nb, up, sky, na, os, ag, C, dd, rfl, rfl, hyes, q⟩
    have J : L2.Inv X pins σ1 H1 sI := J1.ofTry ok
    have sky1 : Sky B (X.env :: X.outer) a (L2.Zc (.ref C) (some dd)) X.env.locals s1.heap := by rw [← hs]; exact sky
    show wpAny (model X.prog X.w) X.A (noteFrame (.ref a) X.env) _ _ _
    refine Sky.land Zc.steady fr0 hf sky1 fun h3 fl3 up3 => ?_
    have J3 : L2.Inv X pins σ1 H1 { s1 with heap := h3 } := J.landed nb fl3.1 (up.trans up3) os ag
    obtain ⟨o3, v3, he3, hz3, hd3⟩ := fl3.there
    have gone : B.get? a = none := fl3.2.1
    have away : ∀ {hp : Heap} {o : Obj} {vs : Array Value}, hp.FunFrames B (X.env :: X.outer) → hp.get? a = some o → o.data = .fields vs → a ∉ frs (X.env :: X.outer) := fun {hp o vs} ff e dd hm => by
      obtain ⟨_, o2, e2, hnf⟩ := ff.mem hm
      rw [e] at e2; cases e2
      exact hnf _ dd
    have nfr := away fl3.2.2.1 he3 hd3
    have nL : a ≠ X.env.locals := fun z => nfr (List.mem_filterMap.mpr ⟨X.env, List.mem_cons_self, by rw [hf, z]⟩)
    have nF : a ∉ X.fs := fun hm => by
      obtain ⟨e, he, hq⟩ := List.mem_filterMap.mp hm
      exact nfr (List.mem_filterMap.mpr ⟨e, List.mem_cons_of_mem _ he, hq⟩)
    have inB : ∀ b o, sI.heap.get? b = some o → b ≠ X.env.locals → b ∉ X.fs → b ≠ a := fun b o e n1 n2 z => by
      have : b ∉ frs X.stack := fun hm => by
        rw [hs] at hm
        obtain ⟨e, he, hq⟩ := List.mem_filterMap.mp hm
        rcases List.mem_cons.mp he with z | z
        · subst z
          rw [hf] at hq
          exact n1 (Option.some.inj hq).symm
        · exact n2 (List.mem_filterMap.mpr ⟨e, z, hq⟩)
      have := nb b o e this
      rw [z, gone] at this
      cases this
    have n0 : X.s_0.heap.get? a = none := by
      cases e : X.s_0.heap.get? a with
      | none => rfl
      | some o =>
        obtain ⟨o1, e1⟩ := J.base.there a o e (by rw [hex]; simp)
        exact absurd rfl (inB a o1 e1 nL nF)
    have nP : ∀ p ∈ X.pn ++ pins, p.1 ≠ a := fun p hp => by
      obtain ⟨q1, q2, q3, q4, q5⟩ := J.pin p hp
      exact inB p.1 _ q1 q3 q4
    have S3 := J3.suite he3 hd3 na nL nF
    refine wpAny_handleBy_cons (codeAny_handlers_test ?_) (by intro z; cases z)
    have LT : PySem.W.Looks (model X.prog X.w) h3 (typeOf (.ref a)) (.ref C) := fun A Q E s k z => wpAny_typeOf_ref (k _ _ he3) (by rw [hz3.1]; exact z)
    have LM := PySem.W.exm_one (M := model X.prog X.w) (J3.kIn) LT hyes
    have look : ∀ {Q : Value → Shared → Prop} {E : Value → Shared → Prop}, Q c { s1 with heap := h3 } → wpAny (model X.prog X.w) (X.A.mark (some (.ref a))) (eval (.Name x np) X.env) Q E { s1 with heap := h3 } := fun {Q E} z => by
      obtain ⟨hg, hdb, hm | ⟨hm, hv, hnn⟩⟩ := hc
      · exact ld_glob (X := X.suite a ((a, o3) :: (X.pn ++ pins))) S3 hg hm z hdb
      · exact ld_blt (X := X.suite a ((a, o3) :: (X.pn ++ pins))) S3 hg hm hv z hnn hdb
    refine look (LM.here ?_)
    refine codeAny_handlers_suite_as ?_
    refine HandSPX.lands_againZ fl3 fun h4 fl4 up4 => ?_
    have J4 : L2.Inv X pins σ1 H1 { s1 with heap := h4 } := J.landed nb fl4.1 ((up.trans up3).trans up4) os ag
    obtain ⟨o4, v4, he4, hz4, hd4⟩ := fl4.there
    have S4 := J4.suite he4 hd4 na nL nF
    refine store_ok (X := X.suite a ((a, o4) :: (X.pn ++ pins))) (v := .ref a) S4 hN hi lc rfl (fun s5 S5 => ?_) (.inr hln)
    refine wpAny_mono ((hsu a o4 (.ref C) (some dd) (X.pn ++ pins) hz4 ⟨_, hd4⟩).run [] s5 _ H1 _ S5 (q a na)) (fun f s6 hsp => ?_) (fun _ _ z => False.elim z)
    cases f with
    | next =>
      obtain ⟨σ6, H6, S6, q6⟩ := hsp
      refine gone_ok (X := X.suite a ((a, o4) :: (X.pn ++ pins))) S6 hN hi hln fun s7 S7 => ?_
      obtain ⟨p1, p2, p3, p4, p5⟩ := S7.pin (a, o4) (List.mem_append_left _ List.mem_cons_self)
      have I7 : L2.Inv X pins (σ6.set i none) H6 s7 := S7.unsuite ok
      have hcell : ∀ y c1, X.env.cells.lookup y = some c1 → c1 ≠ a := fun y c1 e z => by
        obtain ⟨v, o, e1, e2⟩ := I7.cell y c1 e
        rw [z, p1] at e1
        cases e1
        exact p5 v e2
      exact ⟨_, _, inv_track I7 n0 p2 nP (fun z => nL z.symm) hcell (erO_ok p1 hz4 hd4), q6⟩
    | brk => obtain ⟨_, _, _, z⟩ := hsp; exact z.elim
    | cont => obtain ⟨_, _, _, z⟩ := hsp; exact z.elim
    | ret u => obtain ⟨_, _, _, _, _, z⟩ := hsp; exact z.elim
  refine wpAny_mono ((hb (wKeep X.K c i ts D) (X.pn ++ pins) xe1 takes).run [] s σ H D (I.toTry _) h) (fun f s1 hsp => ?_) (fun e s1 he => he)
  cases f with
  | next =>
    obtain ⟨σ1, H1, J1, q⟩ := hsp
    exact wpAny_execs_nil ⟨σ1, H1, J1.ofTry ok, q⟩
  | brk =>
    obtain ⟨σ1, H1, J1, q⟩ := hsp
    exact ⟨σ1, H1, J1.ofTry ok, q⟩
  | cont =>
    obtain ⟨σ1, H1, J1, q⟩ := hsp
    exact ⟨σ1, H1, J1.ofTry ok, q⟩
  | ret u =>
    obtain ⟨v, σ1, H1, J1, r, q⟩ := hsp
    exact ⟨v, σ1, H1, J1.ofTry ok, r, q⟩
end
end Mi

set_option Elab.async false
set_option linter.all false
set_option maxRecDepth 100000
set_option maxHeartbeats 1000000
/-! Mini, part We: what a lambda raises is heard. -/
namespace Mi
open PySem PySem.Spec PyProof.Rows L2
variable [Gb]
/-- (the error, the answer) of a call: none for what is not there; n: so many classes of errors -/
def hear (n : Nat) (m : M MV) : M MV := fun h => match m h with
  | .stuck => .stuck
  | .ok v h' => .ok (.tup [.non, v]) h'
  | .exn c v h' => if c < n then .ok (.tup [.err c v, .non]) h' else .stuck
def heardE (n : Nat) (ms : List EM) (me : EM) : EM := fun env => (me env).bind fun v => match v with
  | .lam k => (match ms[k]? with
    | some m => hear n (m env)
    | none => M.stuck)
  | _ => M.stuck
/-- a lambda of the frame X -/
structure LamB (X : Cx) (cv : Nat → Value) (kk : Nat) (k : Nat) (m : EM) : Prop where
  L : LamX.LamS X.env.scope (Gb.lam k).scope
  q : X.env.qual = (Gb.lam k).q
  bind : ∀ (q : Str) (cl : List (Str × Addr)) (pm cv ctv : Value), bindArgs (PySem.W.kla_fn "<lambda>" q (Gb.lam k).params (Gb.lam k).body (Gb.lam k).scope cl pm cv ctv) ⟨[], []⟩ = pure []
  body : ∀ (A : Around) (outer : List Env) (s : Shared) (H : Hp) (E : XK) (f c' : Addr), A.guards = some [] → Room kk (A.deeper (LamX.lamEnv X (Gb.lam k).scope s.heap.objs.size f c')) → SE (LamX.lamCx X A outer s H E (Gb.lam k).scope f c') (ewOf cv E) (Gb.lam k).body m
abbrev hrdN : List Str := ["call", "caught", "back", "error"]
/-- the def that hears -/
structure HrdF (K : PySem.W.Frag) (mg : Str → Option Value) (x : Str) (st : Stmt) (g : Addr) : Prop where
  mgg : mg x = some (.ref g)
  fn : ∃ fd, L2.Fun K x x st g fd
  S : FnScope hrdN ["call"] (defScope st)
  bnd : ∀ fd, L2.Fun K x x st g fd → Binds K fd ["call"] []
  l0 : (defScope st).names.lookup (("call" : Str)) = some .local
  l1 : (defScope st).names.lookup (("caught" : Str)) = some .local
  l2 : (defScope st).names.lookup (("back" : Str)) = some .local
  l3 : (defScope st).names.lookup (("error" : Str)) = some .local
  ge : (defScope st).names.lookup (("GameError" : Str)) = some .globalImplicit
  CS : ∃ C : Addr, mg "GameError" = some (.ref C) ∧ ∀ c, c < Gb.n → PySem.W.exmOne K (.ref (Gb.cls c)) (.ref C) = some true
  body : ∃ (p1 p2 p3 p4 p5 p6 p7 p8 p9 p10 p11 p12 p13 p14 p15 p16 p17 p18 p19 p20 p21 : Pos) (j1 j2 k1 k2 k3 : Nat), defBody st = [.Assign [.Tuple [.Name "caught" p1, .Name "back" p2] k1 p3] (.Tuple [.Constant .none j1 p4, .Constant .none j2 p5] k2 p6) p7,
    .Try [.Assign [.Name "back" p8] (.Call (.Name "call" p9) [] [] p10) p11] [.ExceptHandler (some (.Name "GameError" p12)) (some "error") [.Assign [.Name "caught" p13] (.Name "error" p14) p15] p16] [] [] p17,
    .Return (some (.Tuple [.Name "caught" p18, .Name "back" p19] k3 p20)) p21] ∧
    ∀ V : Env, V.scope = defScope st → swapsWithSole [.Tuple [.Name "caught" p1, .Name "back" p2] k1 p3] (.Tuple [.Constant .none j1 p4, .Constant .none j2 p5] k2 p6) p7.line V = pure false ∧ swappedStores [.Tuple [.Name "caught" p1, .Name "back" p2] k1 p3] (.Tuple [.Constant .none j1 p4, .Constant .none j2 p5] k2 p6) V = pure none
section
variable {X : Cx} {E : EW} {cv : Nat → Value} {kk : Nat} {n : Nat} {ms : List EM} {me : EM} {e : Expr} {x : Str} {st : Stmt} {g : Addr} {p pos : Pos}
theorem se_heard (F : HrdF X.K X.mg x st g) (hkp : PySem.W.keepIn X.K (.ref g) = true) (hcv : ∀ c, cv c = .ref (Gb.cls c)) (hn : n ≤ Gb.n) (hfr : Gb.fr = X.env.cells) (hl : ∀ k m, ms[k]? = some m → LamB X cv kk k m) (hr : Room (kk + 2) X.A) (gd : X.A.guards = some []) (hg : Gl X x) (he : SE X E e me)
    (hdb : (x == ("__debug__" : Str)) = false := by decide) (h1 : starEach [e] X.env = (false, eval e X.env) :: starEach [] X.env := by rfl) (hpl : (backTo pos (starEach [] X.env)).any (·.1) = false := by rfl) :
    SE X E (.Call (.Name x p) [e] [] pos) (heardE n ms me) := by
  refine ⟨fun pins s sg H Q I h => ?_⟩
  obtain ⟨w, env, rfl, k0, r, l⟩ := h
  refine wpAny_Call_Name_kw (ld_glob I hg F.mgg ?_ hdb)
  have args := (sa_cons he sa_nil h1).run pos pins s sg w.H (fun vs H1 => ∃ (w1 : Wd) (v : MV) (u : V), vs = [u] ∧ w1.H = H1 ∧ w1.Ok ∧ Ext w w1 ∧ RV w1 v u ∧ Lead w1 ((match v with
    | .lam k => (match ms[k]? with
      | some m => hear n (m env)
      | none => M.stuck)
    | _ => M.stuck : M MV) w1.h) Q E) I ⟨w, env, rfl, k0, r, ?_⟩
  · refine PySem.W.callWith_K (h₀ := X.base) I.ok.mod.kin hkp (thn args fun us s1 ⟨vs, H1, I1, rv, q⟩ => ⟨I1.kIn, ?_⟩) h1 hpl
    obtain ⟨w1, v, u, rfl, rfl, k1, x1, r1, l1⟩ := q
    cases v with
    | lam k =>
      simp only at l1
      cases hm : ms[k]? with
      | none => rw [hm] at l1; exact l1.elim
      | some m =>
        rw [hm] at l1
        simp only at l1
        have B := hl k m hm
        obtain ⟨fd, fn⟩ := F.fn
        have bnd := F.bnd fd fn
        obtain ⟨oc, od, kV, doc, pm, an, cdv, ct, osl, rfl, lk, hcd⟩ := fn.ex
        obtain ⟨C, hC, exm⟩ := F.CS
        obtain ⟨p1, p2, p3, p4, p5, p6, p7, p8, p9, p10, p11, p12, p13, p14, p15, p16, p17, p18, p19, p20, p21, j1, j2, kk1, kk2, kk3, eB, hsw⟩ := F.body
        have ret : codeAny (model X.prog X.w) X.A (.call (.ref g) ⟨us, []⟩) (CR C8.CX0 X.stack X.prog X.w w1.H s1 Q C8.E0) s1 := by
          refine LamX.run_ofS (k := kk + 1) (N := hrdN) (ps := ["call"]) (us := us) (vs := [u]) lk hcd F.S hr I1.env0 (by have := bnd s1 us I1.kIn (by rw [List.append_nil, ← rv.length]; rfl); rwa [List.append_nil] at this) rv rfl fun hr2 => ?_
          rw [eB]
          have v0 : Vis (defScope st) "call" := .inl F.l0
          have v1 : Vis (defScope st) "caught" := .inl F.l1
          have v2 : Vis (defScope st) "back" := .inl F.l2
          have v3 : Vis (defScope st) "error" := .inl F.l3
          have s1' := hsw (hrdCx X hrdN x (defScope st) g cdv s1 w1.H).env rfl
          have t1 : SS (hrdCx X hrdN x (defScope st) g cdv s1 w1.H) EF _ _ := ss_asg (pos := p7) (own := [1, 2]) (se_tup (x1 := kk2) (pos := p6) (sa_cons (se_non (j := j1) (pos := p4)) (sa_cons (se_non (j := j2) (pos := p5)) sa_nil))) (sg_tup (kk := kk1) (n := 2) rfl (sgs_cons (sg_name (i := 1) (pos := p1) (by decide) F.S.nd rfl (.inl F.l1)) (sgs_cons (sg_name (i := 2) (pos := p2) (by decide) F.S.nd rfl (.inl F.l2)) sgs_nil))) s1'.1 s1'.2
          have t3 : SS (hrdCx X hrdN x (defScope st) g cdv s1 w1.H) EF _ _ := ss_ret (pos := p21) (se_tup (x1 := kk3) (pos := p20) (sa_cons (se_var (i := 1) (pos := p18) rfl v1) (sa_cons (se_var (i := 2) (pos := p19) rfl v2) sa_nil)))
          have t2 : PS (hrdCx X hrdN x (defScope st) g cdv s1 w1.H) _ _ := ps_try_keep (i := 3) (np := p12) (pos := p17) (pos' := p16) rfl rfl rfl F.S.nd rfl F.l3 ⟨F.ge, by decide, .inl hC⟩
            (fun W pn xe tk => pss_one (ps_set (i := 2) (pos := p11) (pos' := p8) F.S.nd rfl (.inl F.l2) (pe_lact (d := Gb.lam k) (tb := fun E2 => tM (ewOf cv E2) m) (p1 := p9) (p2 := p10) I1 B.L B.q B.bind tk hr2 (fun s2 H2 E2 f c' rm => B.body _ _ s2 H2 E2 f c' gd rm) rfl v0 (by decide) (by decide))))
            (fun a oe cls d pn hz hf => pss_one (ps_set (i := 1) (pos := p15) (pos' := p13) F.S.nd rfl (.inl F.l1) (pe_var (i := 3) (pos := p14) rfl v3)))
          refine ⟨_, pss_cons t1 (pss_cons t2 (pss_one t3)), ?_⟩
          refine ⟨w1, [some (.lam k), none, none, none], rfl, k1, RE.start (N := hrdN) (RVs.cons r1 RVs.nil), ?_⟩
          show LeadF w1 (.ok (.nx [some (.lam k), some .non, some .non, none]) w1.h) _ _
          intro w2 b eh2 k2 x2 rf
          cases b with
          | inr u => exact rf.elim
          | inl σ1 =>
            have rf : RE w2 [some (.lam k), some .non, some .non, none] σ1 := rf
            obtain ⟨u0, e0, ru0⟩ := rf.get 0 (.lam k) rfl
            have len := rf.len
            simp only [RV] at ru0
            obtain ⟨f, c', pm, ctv, rfl, a1, a2⟩ := ru0
            refine ⟨f, c', pm, ctv, fun cls dd H1 => wKeep X.K (.ref C) 3 _ _ cls dd σ1 H1, e0, by rw [← hfr]; exact a1, a2, fun _ _ _ z => z, ?_⟩
            refine ⟨w2, env, rfl, k2, (r.ext k0 x1).ext k1 x2, ?_⟩
            unfold hear at l1
            rw [eh2]
            generalize m env w1.h = o at l1
            cases o with
            | stuck => exact l1
            | ok v h1 =>
              intro w3 b eh3 k3 x3 rv3
              refine ⟨w3, [some (.lam k), some .non, some v, none], rfl, k3, (rf.ext k2 x3).set 2 rv3, ?_⟩
              show LeadF w3 (.ok (.rt (.tup [.non, v])) w3.h) _ _
              intro w4 b4 eh4 k4 x4 rf4
              cases b4 with
              | inl z => exact rf4.elim
              | inr u4 => exact l1 w4 u4 (eh4.trans eh3) k4 (x2.trans (x3.trans x4)) rf4
            | exn c v h1 =>
              by_cases hlt : c < n
              · simp only [hlt, if_true] at l1
                intro w3 b eh3 k3 x3 rv3 d hd
                refine ⟨Gb.cls c, d, hcv c, rfl, by rw [hcv]; exact exm c (Nat.lt_of_lt_of_le hlt hn), fun a ha => ?_⟩
                refine ⟨.ref a, by rw [List.getElem?_set_self (by rw [← len]; exact Nat.lt_succ_self 3)], ?_⟩
                have k4 := (k3.new (o := .xd [(("value" : Str), b)]) hd)
                have k5 := Wd.Ok.new (w := { w3 with H := upd w3.H d (.xd [(("value" : Str), b)]) }) (o := ErO a (Gb.cls c) d) k4 ha
                have y4 := Ext.new (w := w3) (o := .xd [(("value" : Str), b)]) hd
                have y5 := Ext.new (w := { w3 with H := upd w3.H d (.xd [(("value" : Str), b)]) }) (o := ErO a (Gb.cls c) d) ha
                have da : d ≠ a := fun z => by
                  rw [← z] at ha
                  have : upd w3.H d (.xd [(("value" : Str), b)]) d = none := ha
                  rw [upd_same] at this; cases this
                have re : RV { w3 with H := upd (upd w3.H d (.xd [(("value" : Str), b)])) a (ErO a (Gb.cls c) d) } (.err c v) (.ref a) := by
                  simp only [RV]
                  refine ⟨Nat.lt_of_lt_of_le hlt hn, a, d, b, rfl, upd_same, ?_, RV.ext k4 y5 _ _ (RV.ext k3 y4 _ _ rv3)⟩
                  rw [upd_ne da, upd_same]
                have r5 := ((((rf.ext k2 x3).ext k3 y4).ext k4 y5).set 3 re).set 1 re
                refine ⟨{ w3 with H := upd (upd w3.H d (.xd [(("value" : Str), b)])) a (ErO a (Gb.cls c) d) }, [some (.lam k), some (.err c v), some .non, none], rfl, k5, ?_, ?_⟩
                · refine ⟨by rw [List.length_set]; exact r5.len, fun j y ej => ?_⟩
                  have hj : j ≠ 3 := fun z => by subst z; cases ej
                  rw [List.getElem?_set_ne (Ne.symm hj)]
                  refine r5.get j y ?_
                  match j, ej, hj with
                  | 0, ej, _ => exact ej
                  | 1, ej, _ => exact ej
                  | 2, ej, _ => exact ej
                  | 3, _, h => exact absurd rfl h
                  | j + 4, ej, _ => exact ej
                · show LeadF _ (.ok (.rt (.tup [.err c v, .non])) w3.h) _ _
                  intro w6 b6 eh6 k6 x6 rf6
                  cases b6 with
                  | inl z => exact rf6.elim
                  | inr u6 => exact l1 w6 u6 (eh6.trans eh3) k6 (x2.trans (x3.trans (y4.trans (y5.trans x6)))) rf6
              · simp only [hlt, if_false] at l1
                exact l1.elim
        refine wpAny_call (codeAny_mono ret fun res s2 out => ?_)
        cases res with
        | error er => exact out.elim
        | ok fl =>
          cases fl with
          | ret u => exact I1.after out
          | next => exact out.elim
          | brk => exact out.elim
          | cont => exact out.elim
    | _ => exact l1.elim
  · have l : Lead w (((me env).bind fun v => (match v with
      | .lam k => (match ms[k]? with
        | some m => hear n (m env)
        | none => M.stuck)
      | _ => M.stuck : M MV)) w.h) Q E := l
    show LeadA w (((me env).bind fun x => (aNil env).bind fun xs => M.pure (x :: xs)) w.h) _ _
    unfold M.bind at l ⊢
    generalize me env w.h = o at l ⊢
    cases o with
    | stuck => exact l
    | exn c v h' => exact l
    | ok v h' =>
      show LeadA w (.ok [v] h') _ _
      intro w' us eh k' x' rs
      obtain ⟨u, rfl, ru⟩ := rs.one
      refine ⟨w', v, u, rfl, rfl, k', x', ru, ?_⟩
      rw [eh]
      exact LeadG.ext x' l
end
end Mi

set_option Elab.async false
set_option linter.all false
set_option maxRecDepth 100000
set_option maxHeartbeats 1000000
/-! Mini, part Wf: an error's class and value; defs as values; defs with lambdas. -/
namespace Mi
open PySem PySem.Spec PyProof.Rows L2
section
variable [Gb]
variable {X : Cx} {E : EW} {e : Expr} {me : EM} {pos : Pos}
/-- isinstance(x, C), x an error, C an own class: whether so, by the number of x's class -/
def isEM (subs : List Bool) (v : MV) : M MV := match v with
  | .err c _ => (match subs[c]? with
    | some b => M.pure (.bl b)
    | none => M.stuck)
  | _ => M.stuck
theorem se_isE {subs : List Bool} {cn : Str} {C : Addr} {p1 p2 : Pos} (hx : ErK X.K) (hs : ∀ c b, c < Gb.n → subs[c]? = some b → PySem.W.kitOne X.K (.ref (Gb.cls c)) (.ref C) = some b) (hg : Gl X "isinstance") (hm : X.mg "isinstance" = none) (hgC : Gl X cn) (hmC : X.mg cn = some (.ref C)) (he : SE X E e me)
    (hdC : (cn == ("__debug__" : Str)) = false := by decide)
    (h1 : starEach (e :: [.Name cn p2]) X.env = (false, eval e X.env) :: starEach [.Name cn p2] X.env := by rfl) (h2 : starEach [.Name cn p2] X.env = (false, eval (.Name cn p2) X.env) :: starEach [] X.env := by rfl)
    (hpl : (backTo pos (starEach [.Name cn p2] X.env)).any (·.1) = false := by rfl) : SE X E (.Call (.Name "isinstance" p1) [e, .Name cn p2] [] pos) (una (isEM subs) me) := by
  refine ⟨fun pins s sg H Q I h => (pe_callB call_isA hg hm bt_isinstance (pa_cons he (pa_cons (pe_glob hgC hmC (v := .ref C) rfl hdC) pa_nil h2) h1) (he := h1) (hpl := hpl)).run pins s sg H Q I ?_⟩
  obtain ⟨w, env, rfl, k, r, l⟩ := h
  refine ⟨w, env, rfl, k, r, lead_bind l fun w1 v u k1 x1 r1 l1 => ?_⟩
  cases v with
  | err c x =>
    simp only [RV] at r1
    obtain ⟨hc, a, d, uv, rfl, q1, q2, q3⟩ := r1
    unfold isEM at l1
    cases hb : subs[c]? with
    | none => simp only [hb] at l1; exact l1.elim
    | some b =>
      simp only [hb] at l1
      exact .inr ⟨a, _, d, _, .ref C, .ref C, b, rfl, q1, q2, hx.all c hc, fun u r => r, hs c b hc hb, lead_ok l1 k1 (by simp only [RV])⟩
  | _ => exact l1.elim
/-- x.value, x an error -/
def errV (v : MV) : M MV := match v with
  | .err _ x => M.pure x
  | _ => M.stuck
theorem se_errV (hx : ErK X.K) (he : SE X E e me) (hb : attributeBase e "value" X.env (eval e X.env) = eval e X.env := by rfl) : SE X E (.Attribute e "value" pos) (una errV me) := by
  refine ⟨fun pins s sg H Q I h => ?_⟩
  obtain ⟨w, env, rfl, k, r, l⟩ := h
  have val := he.run pins s sg w.H (fun x H1 => ∃ (a C d : Addr) (uv : V), x = .ref a ∧ H1 a = some (ErO a C d) ∧ H1 d = some (.xd [(("value" : Str), uv)]) ∧ ErC X.K C ∧ Q uv H1) I ⟨w, env, rfl, k, r, lead_bind l fun w1 v u k1 x1 r1 l1 => ?_⟩
  · refine attr_of hb (thn val fun u s1 hh => ?_)
    obtain ⟨x, H1, I1, rx, a, C, d, uv, rfl, q1, q2, ec, q⟩ := hh
    obtain rfl : u = Value.ref a := rx
    obtain ⟨oe, od, J, mA, hns, ho, hr⟩ := er_inst I1.hok q1 q2
    obtain ⟨od2, ho2, hl⟩ := lookIn_ns hns
    rw [ho] at ho2
    cases ho2
    have hv := hr "value"
    have el : List.lookup ("value" : Str) [(("value" : Str), uv)] = some uv := by simp [List.lookup]
    rw [el] at hv
    obtain ⟨z, hz, rz⟩ := RelO.some_of (v := uv) (o := mA "value") hv
    exact HandSPX.exc_get I1.kIn J ec.hga ec.hgt ec.hsub (PySem.W.findObj_own ec.hdct ec.hno rfl (by rw [hl, hz])) (handed_of rz) ⟨uv, H1, I1.tok _, rz, q⟩
  · cases v with
    | err c x =>
      simp only [RV] at r1
      obtain ⟨hc, a, d, uv, rfl, q1, q2, q3⟩ := r1
      exact ⟨a, _, d, uv, rfl, q1, q2, hx.all c hc, lead_ok l1 k1 q3⟩
    | _ => exact l1.elim
/-! defs as values -/
theorem se_fn {x : Str} {f : Addr} {k : Nat} (hg : Gl X x) (hm : X.mg x = some (.ref f)) (hk : Gb.fn k = f) (hd : (x == ("__debug__" : Str)) = false := by decide) : SE X E (.Name x pos) (con (.fn k)) :=
  se_con (pe_glob hg hm (v := .ref f) rfl hd) fun _ => by simp only [RV]; rw [hk]
def callV (i : Nat) (ms : List (List MV → M MV)) (a : AM) : EM := fun env => (var i env).bind fun v => match v with
  | .fn k => (match ms[k]? with
    | some m => (a env).bind m
    | none => M.stuck)
  | _ => M.stuck
theorem se_callV {cv : Nat → Value} {kk i : Nat} {ms : List (List MV → M MV)} {x : Str} {p : Pos} {es : List Expr} {as : AM} (hN : X.N[i]? = some x) (hv : Vis X.env.scope x) (F : ∀ k m, ms[k]? = some m → FnS X.prog X.w X.K X.mg X.base cv kk (Gb.fn k) m ∧ PySem.W.keepIn X.K (.ref (Gb.fn k)) = true) (hr : Room kk X.A) (gd : X.A.guards = some []) (le : Lets X cv E)
    (ha : SA X E (e :: es) as) (hd : (x == ("__debug__" : Str)) = false := by decide) (hcd : (x == ("__classdict__" : Str)) = false := by decide) (he : starEach (e :: es) X.env = (false, eval e X.env) :: starEach es X.env := by rfl) (hpl : (backTo pos (starEach es X.env)).any (·.1) = false := by rfl) :
    SE X E (.Call (.Name x p) (e :: es) [] pos) (callV i ms as) := by
  obtain ⟨E', hE, hx⟩ := le.ex
  constructor
  intro pins s sg H Q I h
  obtain ⟨w, env, rfl, k0, r, l⟩ := h
  unfold callV at l
  have callee := (se_var (E := E) hN hv hd hcd (pos := p)).run pins s sg w.H (fun u H1 => ∃ (w1 : Wd) (k : Nat) (m : List MV → M MV), u = .ref (Gb.fn k) ∧ ms[k]? = some m ∧ w1.H = H1 ∧ w1.Ok ∧ RE w1 env sg ∧ Lead w1 ((as env).bind m w1.h) Q E) I ⟨w, env, rfl, k0, r, lead_bind l fun w1 v u k1 x1 r1 l1 => ?_⟩
  · refine wpAny_Call_Name_kw (thn callee fun u s1 ⟨y, H1, I1, ry, w1, k, m, ey, hm, eH, k1, r1, l1⟩ => ?_)
    subst ey
    obtain rfl : u = Value.ref (Gb.fn k) := ry
    subst eH
    obtain ⟨Fk, hk⟩ := F k m hm
    have args := ha.run pos pins s1 sg w1.H (fun vs H1 => spM cv m vs H1 Q E') I1 ⟨w1, env, rfl, k1, r1, lead_bind l1 fun w2 as us k2 x2 r2 l2 => ⟨w2, as, rfl, k2, r2, ?_⟩⟩
    · exact PySem.W.callWith_K (h₀ := X.base) I1.ok.mod.kin hk (thn args fun us s2 ⟨vs, H2, I2, rv, q⟩ => ⟨I2.kIn, run_fnS Fk hr gd hx I2 rv q⟩) he hpl
    · generalize m as w2.h = o at l2 ⊢
      cases o with
      | stuck => exact l2
      | ok a h => exact l2
      | exn c v h => exact fun w' b eh k' x' rv => hE _ _ _ (l2 w' b eh k' x' rv)
  · cases v with
    | fn k =>
      simp only at l1
      cases hm : ms[k]? with
      | none => rw [hm] at l1; exact l1.elim
      | some m =>
        rw [hm] at l1
        simp only [RV] at r1
        exact ⟨w1, k, m, r1, hm, rfl, k1, r.ext k0 x1, l1⟩
    | _ => exact l1.elim
end
/-! ### the frame's lambdas -/
mutual
/-- no lambda within -/
def MV.noL : MV → Bool
  | .tup xs => MV.noLs xs
  | .lst xs => MV.noLs xs
  | .scr xs => MV.noLs xs
  | .err _ v => MV.noL v
  | .lam _ => false
  | _ => true
def MV.noLs : List MV → Bool
  | [] => true
  | x :: xs => MV.noL x && MV.noLs xs
end
mutual
theorem MV.free_noL : ∀ v : MV, v.free = true → v.noL = true
  | .tup xs, f => by simp only [MV.noL]; exact MV.freeAll_noL xs (by simpa only [MV.free] using f)
  | .lst xs, f => by simp only [MV.noL]; exact MV.freeAll_noL xs (by simpa only [MV.free] using f)
  | .scr xs, f => by simp only [MV.noL]; exact MV.freeAll_noL xs (by simpa only [MV.free] using f)
  | .cell _, f => by simp [MV.free] at f
  | .err _ _, f => by simp [MV.free] at f
  | .lam _, f => by simp [MV.free] at f
  | .fn _, _ => by simp only [MV.noL]
  | .non, _ => by simp only [MV.noL]
  | .bl _, _ => by simp only [MV.noL]
  | .int _, _ => by simp only [MV.noL]
  | .str _, _ => by simp only [MV.noL]
theorem MV.freeAll_noL : ∀ vs : List MV, MV.freeAll vs = true → MV.noLs vs = true
  | [], _ => by simp only [MV.noLs]
  | v :: vs, f => by
    simp only [MV.freeAll, Bool.and_eq_true] at f
    simp only [MV.noLs, Bool.and_eq_true]
    exact ⟨MV.free_noL v f.1, MV.freeAll_noL vs f.2⟩
end
def noLO : Option MObj → Bool
  | none => true
  | some o => MV.noLs o.vals
def noLH (h : MH) : Bool := h.all noLO
@[reducible] def withFr (gb : Gb) (fr : List (Str × Addr)) (lam : Nat → LamD) : Gb := { gb with fr := fr, lam := lam }
section
variable {g1 g2 : Gb}
/-- alike but for the frame's cells -/
structure AlikeG (g1 g2 : Gb) : Prop where
  T : g1.T = g2.T
  n : g1.n = g2.n
  cls : g1.cls = g2.cls
  fn : g1.fn = g2.fn
mutual
theorem RV.tr (z : AlikeG g1 g2) {w : Wd} : ∀ (v : MV) (u : V), v.noL = true → @RV g1 w v u → @RV g2 w v u
  | .non, _, _, h => by simpa only [RV] using h
  | .bl _, _, _, h => by simpa only [RV] using h
  | .int _, _, _, h => by simpa only [RV] using h
  | .str _, _, _, h => by simpa only [RV] using h
  | .tup xs, u, f, h => by
    simp only [RV] at h ⊢
    obtain ⟨a, us, e, h1, h2⟩ := h
    exact ⟨a, us, e, h1, RVs.tr z xs us (by simpa only [MV.noL] using f) h2⟩
  | .lst xs, u, f, h => by
    simp only [RV] at h ⊢
    obtain ⟨a, us, e, h1, h0, h2⟩ := h
    exact ⟨a, us, e, h1, h0, RVs.tr z xs us (by simpa only [MV.noL] using f) h2⟩
  | .scr xs, u, f, h => by
    simp only [RV] at h ⊢
    obtain ⟨a, o, us, e, h1, h2⟩ := h
    exact ⟨a, o, us, e, h1, RVs.tr z xs us (by simpa only [MV.noL] using f) h2⟩
  | .cell i, u, _, h => by simpa only [RV] using h
  | .err c v, u, f, h => by
    simp only [RV] at h ⊢
    obtain ⟨hc, a, d, uv, e, h1, h2, h3⟩ := h
    exact ⟨by rw [← z.n]; exact hc, a, d, uv, e, by rw [← z.cls]; exact h1, h2, RV.tr z v uv (by simpa only [MV.noL] using f) h3⟩
  | .lam _, _, f, _ => by simp [MV.noL] at f
  | .fn k, u, _, h => by
    simp only [RV] at h ⊢
    rw [← z.fn]; exact h
theorem RVs.tr (z : AlikeG g1 g2) {w : Wd} : ∀ (vs : List MV) (us : List V), MV.noLs vs = true → @RVs g1 w vs us → @RVs g2 w vs us
  | [], _, _, h => by simpa only [RVs] using h
  | v :: vs, us, f, h => by
    simp only [RVs] at h ⊢
    simp only [MV.noLs, Bool.and_eq_true] at f
    obtain ⟨u, r, e, h1, h2⟩ := h
    exact ⟨u, r, e, RV.tr z v u f.1 h1, RVs.tr z vs r f.2 h2⟩
end
theorem Wd.Ok.tr (z : AlikeG g1 g2) {w : Wd} (k : @Wd.Ok g1 w) (f : noLH w.h = true) : @Wd.Ok g2 w := by
  refine @Wd.Ok.mk g2 w (@Wd.Ok.len g1 w k) (fun i o a h1 h2 => ?_) (@Wd.Ok.inj g1 w k) (by rw [← z.T]; exact @Wd.Ok.tabs g1 w k)
  have hm : noLO (some o) = true := by
    have := List.all_eq_true.mp f (some o) (List.mem_of_getElem? h1)
    exact this
  have ro := @Wd.Ok.obj g1 w k i o a h1 h2
  cases o with
  | lst xs =>
    obtain ⟨us, e1, r⟩ := ro
    exact ⟨us, e1, RVs.tr z xs us hm r⟩
  | dk xs =>
    obtain ⟨us, e1, r⟩ := ro
    exact ⟨us, e1, r.1, RVs.tr z _ _ hm r.2⟩
  | dt xs =>
    obtain ⟨us, e1, r⟩ := ro
    exact ⟨us, e1, r.1, RVs.tr z _ _ hm r.2⟩
end
theorem alike_fr (gb : Gb) (fr : List (Str × Addr)) (lam : Nat → LamD) : AlikeG gb (withFr gb fr lam) := ⟨rfl, rfl, rfl, rfl⟩
theorem alike_rf (gb : Gb) (fr : List (Str × Addr)) (lam : Nat → LamD) : AlikeG (withFr gb fr lam) gb := ⟨rfl, rfl, rfl, rfl⟩
/-- a def with lambdas -/
def defL (ar sl : Nat) (b : SM) (as : List MV) : M MV := fun h =>
  if as.length = ar ∧ MV.noLs as = true ∧ noLH h = true then (match b (as.map some ++ List.replicate (sl - as.length) none) h with
    | .ok f h' => if (retOf f).free = true ∧ noLH (h'.take h.length) = true then .ok (retOf f) (h'.take h.length) else .stuck
    | _ => .stuck) else .stuck
theorem body_ofL {gb : Gb} {cv : Nat → Value} {ar : Nat} {N : List Str} {b : SM} {vs : List V} {H : Hp} {Q : VK} {E : XK} (fr : List (Str × Addr)) (lam : Nat → LamD) (h : @spM gb cv (defL ar N.length b) vs H Q E) :
    vs.length = ar ∧ @tS (withFr gb fr lam) (ewOf cv E) b { nx := fun _ H' => Q .non H', rt := Q } (L2.start N vs) H := by
  obtain ⟨w, as, rfl, k, r, l⟩ := h
  unfold defL at l
  by_cases hl : as.length = ar ∧ MV.noLs as = true ∧ noLH w.h = true
  · rw [if_pos hl] at l
    obtain ⟨h1, h2, h3⟩ := hl
    have k2 := k.tr (alike_fr gb fr lam) h3
    have r2 := RVs.tr (alike_fr gb fr lam) as vs h2 r
    have rl : as.length = vs.length := by have := r.length; exact this
    refine ⟨by rw [← rl]; exact h1, w, _, rfl, k2, @RE.start (withFr gb fr lam) _ _ _ _ r2, ?_⟩
    generalize ho : b (as.map some ++ List.replicate (N.length - as.length) none) w.h = o at l ⊢
    cases o with
    | stuck => exact l
    | exn c v h' => exact l.elim
    | ok f h' =>
      simp only at l
      by_cases c : (retOf f).free = true ∧ noLH (h'.take w.h.length) = true
      · rw [if_pos c] at l
        intro w' bb eh k' x rf
        have fin : ∀ (v : MV) (u : V), retOf f = v → @RV (withFr gb fr lam) w' v u → Q u w'.H := fun v u e rv => by
          rw [e] at l c
          have kc := @Wd.Ok.cut (withFr gb fr lam) _ _ k2 k' x
          have kd := kc.tr (alike_rf gb fr lam) (by show noLH (w'.h.take w.h.length) = true; rw [eh]; exact c.2)
          have rc := @RV.cut (withFr gb fr lam) _ w.h.length k' v u (free_und c.1) rv
          exact l (w'.cut w.h.length) u (by show w'.h.take _ = _; rw [eh]) kd (@Ext.cut (withFr gb fr lam) _ _ k2 x) (RV.tr (alike_rf gb fr lam) v u (MV.free_noL v c.1) rc)
        cases f with
        | nx env =>
          cases bb with
          | inl sg => exact fin .non .non rfl (by simp only [RV])
          | inr u => exact rf.elim
        | rt v =>
          cases bb with
          | inl sg => exact rf.elim
          | inr u => exact fin v u rfl rf
      · rw [if_neg c] at l; exact l.elim
  · rw [if_neg hl] at l; exact l.elim
theorem fnS_ofL {gb : Gb} {P : Program} {w : World} {K : PySem.W.Frag} {mg : Str → Option Value} {base : Heap} {cv : Nat → Value} {k : Nat} {x qual : Str} {st : Stmt} {f c : Addr} {fd : FuncData} {N ps : List Str} {b : SM} (lam : Nat → LamD)
    (F : ∃ (oc : Value) (od : Option Addr) (kV doc pm : Value) (an : Option Addr) (ct : Value) (osl : Array (Option Value)), fd = PySem.W.fnOf x qual (defArgs st) (defBody st) (defScope st) .none kV doc pm an (.ref c) ct ∧ K.lookup f = some ⟨oc, od, .func fd, osl⟩ ∧ PySem.W.codeIn K (.ref c) qual = true)
    (S : FnScope N ps (defScope st)) (hb : Binds K fd ps [])
    (hbody : ∀ (A : Around) (outer : List Env) (s : Shared) (H : Hp) (E : XK), Room k (A.deeper (envOfC qual (defScope st) s.heap.objs.size f (.ref c))) → A.guards = some [] →
      @SB (withFr gb (envOfC qual (defScope st) s.heap.objs.size f (.ref c)).cells lam) (cxOf (L2.CX P w) P w K mg base N qual (defScope st) f (.ref c) A outer s H E) (ewOf cv E) (defBody st) b) : @FnS gb P w K mg base cv (k + 1) f (defL ps.length N.length b) := by
  obtain ⟨oc, od, kV, doc, pm, an, ct, osl, rfl, lk, hcd⟩ := F
  constructor
  intro A outer s H us vs Q E room grd en rv hsp
  obtain ⟨hvl, rd⟩ := body_ofL (envOfC qual (defScope st) s.heap.objs.size f (.ref c)).cells lam hsp
  have old : ∀ (b : Addr) (o : Obj), base.get? b = some o → s.heap.get? b = some o := fun b o e => (en.bs b o e).1
  have kin : K.In s.heap := en.mod.kin.keeps old
  have nolim := en.mod.nolimit.keeps old
  have params : ∀ p ∈ ps.zip us, (defScope st).names.lookup p.1 = some .local ∨ ((defScope st).names.lookup p.1 = some .cell ∧ ((cellsFrom (s.heap.objs.size + 1) (defScope st).names []).lookup p.1).isSome = true) := by
    rintro ⟨nm, val⟩ hp
    exact (S.par nm (List.of_mem_zip hp).1).imp id fun c => ⟨c, PySem.W.cellsFrom_some _ _ _ (.inl c)⟩
  have hbind := hb s us kin (by rw [List.append_nil, ← rv.length]; exact hvl)
  rw [List.append_nil] at hbind
  refine codeAny_call_function room.depth (kin _ _ lk) rfl S.co S.gen rfl (PySem.W.codeRec_of kin hcd) (hbind _ _ _ _ ?_)
  refine wpAny_newFunctionEnv_cells S.kind params fun env ee s1 entered => ?_
  subst ee
  refine ⟨nolim.keeps entered.toInCall.keep, codeAny_func ?_⟩
  have inv := inv_start (CX := L2.CX P w) (E := E) S room.hd en hvl rv entered
  refine wpAny_mono ((hbody A outer s H E (room.deeper _) grd).run [] s1 _ H _ inv rd) (fun fl s' out => ?_) fun _ _ out => out
  cases fl with
  | brk => obtain ⟨_, _, _, z⟩ := out; exact z.elim
  | cont => obtain ⟨_, _, _, z⟩ := out; exact z.elim
  | next =>
    obtain ⟨_, H', J, z⟩ := out
    exact ⟨V.non, H', J.os, J.bare, J.base, J.hok, rfl, z⟩
  | ret u =>
    obtain ⟨v, _, H', J, rel, z⟩ := out
    exact ⟨v, H', J.os, J.bare, J.base, J.hok, rel, z⟩
/-- a def of the text, its code object told -/
structure FunC (K : PySem.W.Frag) (x : Str) (st : Stmt) (f c : Addr) : Prop where
  ex : ∃ fd, L2.Fun K x x st f fd ∧ ∃ (oc : Value) (od : Option Addr) (kV doc pm : Value) (an : Option Addr) (ct : Value) (osl : Array (Option Value)), fd = PySem.W.fnOf x x (defArgs st) (defBody st) (defScope st) .none kV doc pm an (.ref c) ct ∧ K.lookup f = some ⟨oc, od, .func fd, osl⟩ ∧ PySem.W.codeIn K (.ref c) x = true
end Mi

set_option Elab.async false
set_option linter.all false
set_option maxRecDepth 100000
set_option maxHeartbeats 1000000
/-! Mini, part Wg: where a lambda stands in a def; the numbers of classes. -/
namespace Mi
open PySem PySem.Spec PyProof.Rows L2
def kidsE : Expr → List Expr
  | .BoolOp _ vs _ => vs
  | .BinOp a _ b _ => [a, b]
  | .UnaryOp _ e _ => [e]
  | .IfExp c a b _ => [c, a, b]
  | .Compare a _ bs _ => a :: bs
  | .Call f as _ _ => f :: as
  | .Attribute e _ _ => [e]
  | .Subscript e s _ => [e, s]
  | .Starred e _ => [e]
  | .List es _ => es
  | .Tuple es _ _ => es
  | _ => []
def kidsS : Stmt → List Expr
  | .Return (some e) _ => [e]
  | .Assign ts v _ => v :: ts
  | .Expr e _ => [e]
  | .If c _ _ _ => [c]
  | .For t i _ _ _ => [i, t]
  | .While c _ _ _ => [c]
  | _ => []
def subsS : Stmt → List Stmt
  | .If _ a b _ => a ++ b
  | .For _ _ b o _ => b ++ o
  | .While _ b o _ => b ++ o
  | _ => []
def noSt : Stmt := .Pass ⟨0, 0, 0, 0⟩
def noEx : Expr := .Name "" ⟨0, 0, 0, 0⟩
def stAt : List Stmt → List Nat → Stmt
  | _, [] => noSt
  | b, [i] => b.getD i noSt
  | b, i :: r => stAt (subsS (b.getD i noSt)) r
def exAt (e : Expr) : List Nat → Expr
  | [] => e
  | i :: r => exAt ((kidsE e).getD i noEx) r
def lamD (q : Str) : Expr → LamD
  | .Lambda a b s _ => ⟨q, a, b, s⟩
  | e => ⟨q, ⟨[], [], none, [], [], none, []⟩, e, ⟨.function, [], false, false, []⟩⟩
def lamOf (q : Str) (st : Stmt) (sp : List Nat) (k : Nat) (ep : List Nat) : LamD := lamD q (exAt ((kidsS (stAt (defBody st) sp)).getD k noEx) ep)
abbrev cvG [Gb] : Nat → Value := fun c => .ref (Gb.cls c)
theorem veI_conv {X : Cx} {ce : Expr} (h : PE X ce (tVeI X.K (tCons (tVar 0) (tCons (tVar 1) tNil)))) : PE X ce (tVeI X.K fun σ H Q => ∃ x y, σ[0]? = some (some x) ∧ σ[1]? = some (some y) ∧ Q [x, y] H) :=
  ⟨fun pins s σ H Q I hq => h.run pins s σ H Q I (by
    obtain ⟨x, y, h0, h1, q⟩ := hq
    exact ⟨x, h0, y, h1, q⟩)⟩
/-! facts of a row of classes -/
def allA (p : Addr → Prop) : List Addr → Prop
  | [] => True
  | c :: cs => p c ∧ allA p cs
def allB (p : Addr → Bool → Prop) : List Addr → List Bool → Prop
  | c :: cs, b :: bs => p c b ∧ allB p cs bs
  | _, _ => True
theorem allA_at {p : Addr → Prop} : ∀ {cs : List Addr}, allA p cs → ∀ c, c < cs.length → p (cs.getD c 0)
  | [], _, c, h => absurd h (Nat.not_lt_zero _)
  | a :: cs, h, 0, _ => h.1
  | a :: cs, h, c + 1, hc => by
    have := allA_at h.2 c (Nat.lt_of_succ_lt_succ hc)
    simpa using this
theorem allB_at {p : Addr → Bool → Prop} : ∀ {cs : List Addr} {bs : List Bool}, allB p cs bs → ∀ c b, c < cs.length → bs[c]? = some b → p (cs.getD c 0) b
  | [], _, _, c, _, h, _ => absurd h (Nat.not_lt_zero _)
  | _ :: _, [], _, _, _, _, e => by simp at e
  | a :: cs, b :: bs, h, 0, b', _, e => by
    have e : b = b' := by simpa using e
    subst e
    exact h.1
  | a :: cs, b :: bs, h, c + 1, b', hc, e => by
    have := allB_at h.2 c b' (Nat.lt_of_succ_lt_succ hc) (by simpa using e)
    simpa using this
@[reducible] def gbOf (T : List (Addr × Str)) (cs fs : List Addr) : Gb := ⟨T, cs.length, fun c => cs.getD c 0, fun k => fs.getD k 0, fun _ => lamD "" noEx, []⟩
theorem LamB.of [Gb] {X : Cx} {cv : Nat → Value} {kk k : Nat} {m : EM} {d : LamD} (hd : Gb.lam k = d) (L : LamX.LamS X.env.scope d.scope) (q : X.env.qual = d.q)
    (bd : ∀ (q : Str) (cl : List (Str × Addr)) (pm cv ctv : Value), bindArgs (PySem.W.kla_fn "<lambda>" q d.params d.body d.scope cl pm cv ctv) ⟨[], []⟩ = pure [])
    (body : ∀ (A : Around) (outer : List Env) (s : Shared) (H : Hp) (E : XK) (f c' : Addr), A.guards = some [] → Room kk (A.deeper (LamX.lamEnv X d.scope s.heap.objs.size f c')) → SE (LamX.lamCx X A outer s H E d.scope f c') (ewOf cv E) d.body m) : LamB X cv kk k m := by
  subst hd
  exact ⟨L, q, bd, body⟩
end Mi

set_option Elab.async false
set_option linter.all false
set_option maxRecDepth 100000
set_option maxHeartbeats 4000000
namespace Lw
open PySem PySem.Spec PyProof.Rows L2 Mi
def topS (i : Nat) : Stmt := PySem.Challenge.pw_whowinsforever_k03_plays_and_plans.main.body.getD i (.Pass ⟨0, 0, 0, 0⟩)
section
variable [gb : Gb]
structure Mg (P : Program) (w : World) (K : PySem.W.Frag) (mg : Str → Option Value) (base : Heap) where
  er : ErK K
  f_is_tuple : Addr
  g_is_tuple : mg "is_tuple" = some (.ref f_is_tuple)
  k_is_tuple : PySem.W.keepIn K (.ref f_is_tuple) = true
  e_is_tuple : ∃ fd, Fun K "is_tuple" "is_tuple" (topS 1) f_is_tuple fd
  f_is_whole : Addr
  g_is_whole : mg "is_whole" = some (.ref f_is_whole)
  k_is_whole : PySem.W.keepIn K (.ref f_is_whole) = true
  e_is_whole : ∃ fd, Fun K "is_whole" "is_whole" (topS 2) f_is_whole fd
  f_is_integer : Addr
  g_is_integer : mg "is_integer" = some (.ref f_is_integer)
  k_is_integer : PySem.W.keepIn K (.ref f_is_integer) = true
  e_is_integer : ∃ fd, Fun K "is_integer" "is_integer" (topS 3) f_is_integer fd
  f_is_rising : Addr
  g_is_rising : mg "is_rising" = some (.ref f_is_rising)
  k_is_rising : PySem.W.keepIn K (.ref f_is_rising) = true
  e_is_rising : ∃ fd, Fun K "is_rising" "is_rising" (topS 4) f_is_rising fd
  f_is_move : Addr
  g_is_move : mg "is_move" = some (.ref f_is_move)
  k_is_move : PySem.W.keepIn K (.ref f_is_move) = true
  e_is_move : ∃ fd, Fun K "is_move" "is_move" (topS 15) f_is_move fd
  f_is_map : Addr
  g_is_map : mg "is_map" = some (.ref f_is_map)
  k_is_map : PySem.W.keepIn K (.ref f_is_map) = true
  e_is_map : ∃ fd, Fun K "is_map" "is_map" (topS 16) f_is_map fd
  f_check_map : Addr
  g_check_map : mg "check_map" = some (.ref f_check_map)
  k_check_map : PySem.W.keepIn K (.ref f_check_map) = true
  e_check_map : ∃ fd, Fun K "check_map" "check_map" (topS 17) f_check_map fd
  f_check_player : Addr
  g_check_player : mg "check_player" = some (.ref f_check_player)
  k_check_player : PySem.W.keepIn K (.ref f_check_player) = true
  e_check_player : ∃ fd, Fun K "check_player" "check_player" (topS 18) f_check_player fd
  f_check_place : Addr
  g_check_place : mg "check_place" = some (.ref f_check_place)
  k_check_place : PySem.W.keepIn K (.ref f_check_place) = true
  e_check_place : ∃ fd, Fun K "check_place" "check_place" (topS 19) f_check_place fd
  f_ways : Addr
  g_ways : mg "ways" = some (.ref f_ways)
  k_ways : PySem.W.keepIn K (.ref f_ways) = true
  e_ways : ∃ fd, Fun K "ways" "ways" (topS 20) f_ways fd
  f_is_play : Addr
  g_is_play : mg "is_play" = some (.ref f_is_play)
  k_is_play : PySem.W.keepIn K (.ref f_is_play) = true
  e_is_play : ∃ fd, Fun K "is_play" "is_play" (topS 23) f_is_play fd
  f_is_plan_of : Addr
  g_is_plan_of : mg "is_plan_of" = some (.ref f_is_plan_of)
  k_is_plan_of : PySem.W.keepIn K (.ref f_is_plan_of) = true
  e_is_plan_of : ∃ fd, Fun K "is_plan_of" "is_plan_of" (topS 24) f_is_plan_of fd
  f_is_plan : Addr
  g_is_plan : mg "is_plan" = some (.ref f_is_plan)
  k_is_plan : PySem.W.keepIn K (.ref f_is_plan) = true
  e_is_plan : ∃ fd, Fun K "is_plan" "is_plan" (topS 25) f_is_plan fd
  f_check_plan : Addr
  g_check_plan : mg "check_plan" = some (.ref f_check_plan)
  k_check_plan : PySem.W.keepIn K (.ref f_check_plan) = true
  e_check_plan : ∃ fd, Fun K "check_plan" "check_plan" (topS 26) f_check_plan fd
  f_next_of : Addr
  g_next_of : mg "next_of" = some (.ref f_next_of)
  k_next_of : PySem.W.keepIn K (.ref f_next_of) = true
  e_next_of : ∃ fd, Fun K "next_of" "next_of" (topS 27) f_next_of fd
  f_together : Addr
  g_together : mg "together" = some (.ref f_together)
  k_together : PySem.W.keepIn K (.ref f_together) = true
  e_together : ∃ fd, Fun K "together" "together" (topS 28) f_together fd
  f__law_pot : Addr
  g__law_pot : mg "_law_pot" = some (.ref f__law_pot)
  k__law_pot : PySem.W.keepIn K (.ref f__law_pot) = true
  e__law_pot : ∃ fd, Fun K "_law_pot" "_law_pot" (topS 30) f__law_pot fd
  f__law_take : Addr
  g__law_take : mg "_law_take" = some (.ref f__law_take)
  k__law_take : PySem.W.keepIn K (.ref f__law_take) = true
  e__law_take : ∃ fd, Fun K "_law_take" "_law_take" (topS 31) f__law_take fd
  f__law_of : Addr
  g__law_of : mg "_law_of" = some (.ref f__law_of)
  k__law_of : PySem.W.keepIn K (.ref f__law_of) = true
  e__law_of : ∃ fd, Fun K "_law_of" "_law_of" (topS 32) f__law_of fd
  f__law_cells : Addr
  g__law_cells : mg "_law_cells" = some (.ref f__law_cells)
  k__law_cells : PySem.W.keepIn K (.ref f__law_cells) = true
  e__law_cells : ∃ fd, Fun K "_law_cells" "_law_cells" (topS 33) f__law_cells fd
  f__law_odd : Addr
  g__law_odd : mg "_law_odd" = some (.ref f__law_odd)
  k__law_odd : PySem.W.keepIn K (.ref f__law_odd) = true
  e__law_odd : ∃ fd, Fun K "_law_odd" "_law_odd" (topS 35) f__law_odd fd
  f__law_is_int : Addr
  g__law_is_int : mg "_law_is_int" = some (.ref f__law_is_int)
  k__law_is_int : PySem.W.keepIn K (.ref f__law_is_int) = true
  e__law_is_int : ∃ fd, Fun K "_law_is_int" "_law_is_int" (topS 36) f__law_is_int fd
  f__law_bent : Addr
  g__law_bent : mg "_law_bent" = some (.ref f__law_bent)
  k__law_bent : PySem.W.keepIn K (.ref f__law_bent) = true
  e__law_bent : ∃ fd, Fun K "_law_bent" "_law_bent" (topS 37) f__law_bent fd
  f__law_game : Addr
  g__law_game : mg "_law_game" = some (.ref f__law_game)
  k__law_game : PySem.W.keepIn K (.ref f__law_game) = true
  e__law_game : ∃ fd, Fun K "_law_game" "_law_game" (topS 38) f__law_game fd
  f__law_ways : Addr
  g__law_ways : mg "_law_ways" = some (.ref f__law_ways)
  k__law_ways : PySem.W.keepIn K (.ref f__law_ways) = true
  e__law_ways : ∃ fd, Fun K "_law_ways" "_law_ways" (topS 39) f__law_ways fd
  f__law_together : Addr
  g__law_together : mg "_law_together" = some (.ref f__law_together)
  k__law_together : PySem.W.keepIn K (.ref f__law_together) = true
  e__law_together : ∃ fd, Fun K "_law_together" "_law_together" (topS 40) f__law_together fd
  f__law_is_plan : Addr
  g__law_is_plan : mg "_law_is_plan" = some (.ref f__law_is_plan)
  k__law_is_plan : PySem.W.keepIn K (.ref f__law_is_plan) = true
  e__law_is_plan : ∃ fd, Fun K "_law_is_plan" "_law_is_plan" (topS 41) f__law_is_plan fd
  f__law_is_play : Addr
  g__law_is_play : mg "_law_is_play" = some (.ref f__law_is_play)
  k__law_is_play : PySem.W.keepIn K (.ref f__law_is_play) = true
  e__law_is_play : ∃ fd, Fun K "_law_is_play" "_law_is_play" (topS 42) f__law_is_play fd
  f__law_plan : Addr
  g__law_plan : mg "_law_plan" = some (.ref f__law_plan)
  k__law_plan : PySem.W.keepIn K (.ref f__law_plan) = true
  e__law_plan : ∃ fd, Fun K "_law_plan" "_law_plan" (topS 43) f__law_plan fd
  f__law_play : Addr
  g__law_play : mg "_law_play" = some (.ref f__law_play)
  k__law_play : PySem.W.keepIn K (.ref f__law_play) = true
  e__law_play : ∃ fd, Fun K "_law_play" "_law_play" (topS 44) f__law_play fd
  f__law_word_of : Addr
  g__law_word_of : mg "_law_word_of" = some (.ref f__law_word_of)
  k__law_word_of : PySem.W.keepIn K (.ref f__law_word_of) = true
  e__law_word_of : ∃ fd, Fun K "_law_word_of" "_law_word_of" (topS 45) f__law_word_of fd
  f__law_are_refused : Addr
  g__law_are_refused : mg "_law_are_refused" = some (.ref f__law_are_refused)
  k__law_are_refused : PySem.W.keepIn K (.ref f__law_are_refused) = true
  c__law_are_refused : Addr
  P__law_are_refused : Addr
  e__law_are_refused : FunC K "_law_are_refused" (topS 46) f__law_are_refused c__law_are_refused
  tb__law_are_refused : LamX.TabB base mg c__law_are_refused P__law_are_refused
  in__law_are_refused : (P__law_are_refused, (("_law_are_refused" ++ ".<locals>.") ++ "<lambda>" : Str)) ∈ Gb.T
  un__law_are_refused : ∀ p ∈ Gb.T, p.1 = P__law_are_refused → p.2 = (("_law_are_refused" ++ ".<locals>.") ++ "<lambda>" : Str)
  f__law_right : Addr
  g__law_right : mg "_law_right" = some (.ref f__law_right)
  k__law_right : PySem.W.keepIn K (.ref f__law_right) = true
  e__law_right : ∃ fd, Fun K "_law_right" "_law_right" (topS 47) f__law_right fd
  f_law : Addr
  g_law : mg "law" = some (.ref f_law)
  k_law : PySem.W.keepIn K (.ref f_law) = true
  e_law : ∃ fd, Fun K "law" "law" (topS 48) f_law fd
  z_abs : mg "abs" = none
  z_all : mg "all" = none
  z_bool : mg "bool" = none
  z_enumerate : mg "enumerate" = none
  z_int : mg "int" = none
  z_isinstance : mg "isinstance" = none
  z_len : mg "len" = none
  z_list : mg "list" = none
  z_max : mg "max" = none
  z_min : mg "min" = none
  z_range : mg "range" = none
  z_repr : mg "repr" = none
  z_set : mg "set" = none
  z_sorted : mg "sorted" = none
  z_str : mg "str" = none
  z_sum : mg "sum" = none
  z_tuple : mg "tuple" = none
  z_zip : mg "zip" = none
  t_MOST_PLACES : Tok
  i_MOST_PLACES : mg "MOST_PLACES" = some (.int 12 t_MOST_PLACES)
  t_MOST_MOVES : Tok
  i_MOST_MOVES : mg "MOST_MOVES" = some (.int 60 t_MOST_MOVES)
  t_PAIR : Tok
  i_PAIR : mg "PAIR" = some (.int 2 t_PAIR)
  t_MOST_PLAY : Tok
  i_MOST_PLAY : mg "MOST_PLAY" = some (.int 1000 t_MOST_PLAY)
  ne : Gb.n = 5
  f_hrd : Addr
  hrd : HrdF K mg "_law_heard" (topS 34) f_hrd
  kp_hrd : PySem.W.keepIn K (.ref f_hrd) = true
  ra_BadMap : RaC P w K mg base "BadMap" 1
  ra_BadPlace : RaC P w K mg base "BadPlace" 2
  ra_BadPlan : RaC P w K mg base "BadPlan" 4
  ra_BadPlayer : RaC P w K mg base "BadPlayer" 3
  C_BadMap : Addr
  gc_BadMap : mg "BadMap" = some (.ref C_BadMap)
  is_BadMap : ∀ c b, c < Gb.n → ([false, true, false, false, false] : List Bool)[c]? = some b → PySem.W.kitOne K (.ref (Gb.cls c)) (.ref C_BadMap) = some b
  C_BadPlace : Addr
  gc_BadPlace : mg "BadPlace" = some (.ref C_BadPlace)
  is_BadPlace : ∀ c b, c < Gb.n → ([false, false, true, false, false] : List Bool)[c]? = some b → PySem.W.kitOne K (.ref (Gb.cls c)) (.ref C_BadPlace) = some b
  C_BadPlan : Addr
  gc_BadPlan : mg "BadPlan" = some (.ref C_BadPlan)
  is_BadPlan : ∀ c b, c < Gb.n → ([false, false, false, false, true] : List Bool)[c]? = some b → PySem.W.kitOne K (.ref (Gb.cls c)) (.ref C_BadPlan) = some b
  C_BadPlayer : Addr
  gc_BadPlayer : mg "BadPlayer" = some (.ref C_BadPlayer)
  is_BadPlayer : ∀ c b, c < Gb.n → ([false, false, false, true, false] : List Bool)[c]? = some b → PySem.W.kitOne K (.ref (Gb.cls c)) (.ref C_BadPlayer) = some b
end
section
variable [gb : Gb] {P : Program} {w : World} {K : PySem.W.Frag} {mg : Str → Option Value} {base : Heap}
@[reducible] def Mg.withF (g : Mg P w K mg base) (fr : List (Str × Addr)) (lam : Nat → LamD) : @Mg (withFr gb fr lam) P w K mg base := @Mg.mk (withFr gb fr lam) P w K mg base (@ErK.mk (withFr gb fr lam) K g.er.all) (g.f_is_tuple) (g.g_is_tuple) (g.k_is_tuple) (g.e_is_tuple) (g.f_is_whole) (g.g_is_whole) (g.k_is_whole) (g.e_is_whole) (g.f_is_integer) (g.g_is_integer) (g.k_is_integer) (g.e_is_integer) (g.f_is_rising) (g.g_is_rising) (g.k_is_rising) (g.e_is_rising) (g.f_is_move) (g.g_is_move) (g.k_is_move) (g.e_is_move) (g.f_is_map) (g.g_is_map) (g.k_is_map) (g.e_is_map) (g.f_check_map) (g.g_check_map) (g.k_check_map) (g.e_check_map) (g.f_check_player) (g.g_check_player) (g.k_check_player) (g.e_check_player) (g.f_check_place) (g.g_check_place) (g.k_check_place) (g.e_check_place) (g.f_ways) (g.g_ways) (g.k_ways) (g.e_ways) (g.f_is_play) (g.g_is_play) (g.k_is_play) (g.e_is_play) (g.f_is_plan_of) (g.g_is_plan_of) (g.k_is_plan_of) (g.e_is_plan_of) (g.f_is_plan) (g.g_is_plan) (g.k_is_plan) (g.e_is_plan) (g.f_check_plan) (g.g_check_plan) (g.k_check_plan) (g.e_check_plan) (g.f_next_of) (g.g_next_of) (g.k_next_of) (g.e_next_of) (g.f_together) (g.g_together) (g.k_together) (g.e_together) (g.f__law_pot) (g.g__law_pot) (g.k__law_pot) (g.e__law_pot) (g.f__law_take) (g.g__law_take) (g.k__law_take) (g.e__law_take) (g.f__law_of) (g.g__law_of) (g.k__law_of) (g.e__law_of) (g.f__law_cells) (g.g__law_cells) (g.k__law_cells) (g.e__law_cells) (g.f__law_odd) (g.g__law_odd) (g.k__law_odd) (g.e__law_odd) (g.f__law_is_int) (g.g__law_is_int) (g.k__law_is_int) (g.e__law_is_int) (g.f__law_bent) (g.g__law_bent) (g.k__law_bent) (g.e__law_bent) (g.f__law_game) (g.g__law_game) (g.k__law_game) (g.e__law_game) (g.f__law_ways) (g.g__law_ways) (g.k__law_ways) (g.e__law_ways) (g.f__law_together) (g.g__law_together) (g.k__law_together) (g.e__law_together) (g.f__law_is_plan) (g.g__law_is_plan) (g.k__law_is_plan) (g.e__law_is_plan) (g.f__law_is_play) (g.g__law_is_play) (g.k__law_is_play) (g.e__law_is_play) (g.f__law_plan) (g.g__law_plan) (g.k__law_plan) (g.e__law_plan) (g.f__law_play) (g.g__law_play) (g.k__law_play) (g.e__law_play) (g.f__law_word_of) (g.g__law_word_of) (g.k__law_word_of) (g.e__law_word_of) (g.f__law_are_refused) (g.g__law_are_refused) (g.k__law_are_refused) (g.c__law_are_refused) (g.P__law_are_refused) (g.e__law_are_refused) (g.tb__law_are_refused) (g.in__law_are_refused) (g.un__law_are_refused) (g.f__law_right) (g.g__law_right) (g.k__law_right) (g.e__law_right) (g.f_law) (g.g_law) (g.k_law) (g.e_law) (g.z_abs) (g.z_all) (g.z_bool) (g.z_enumerate) (g.z_int) (g.z_isinstance) (g.z_len) (g.z_list) (g.z_max) (g.z_min) (g.z_range) (g.z_repr) (g.z_set) (g.z_sorted) (g.z_str) (g.z_sum) (g.z_tuple) (g.z_zip) (g.t_MOST_PLACES) (g.i_MOST_PLACES) (g.t_MOST_MOVES) (g.i_MOST_MOVES) (g.t_PAIR) (g.i_PAIR) (g.t_MOST_PLAY) (g.i_MOST_PLAY) (g.ne) (g.f_hrd) (@HrdF.mk (withFr gb fr lam) K mg "_law_heard" (topS 34) g.f_hrd g.hrd.mgg g.hrd.fn g.hrd.S g.hrd.bnd g.hrd.l0 g.hrd.l1 g.hrd.l2 g.hrd.l3 g.hrd.ge g.hrd.CS g.hrd.body) (g.kp_hrd) (@RaC.mk (withFr gb fr lam) P w K mg base "BadMap" 1 g.ra_BadMap.g g.ra_BadMap.ox g.ra_BadMap.no g.ra_BadMap.ini) (@RaC.mk (withFr gb fr lam) P w K mg base "BadPlace" 2 g.ra_BadPlace.g g.ra_BadPlace.ox g.ra_BadPlace.no g.ra_BadPlace.ini) (@RaC.mk (withFr gb fr lam) P w K mg base "BadPlan" 4 g.ra_BadPlan.g g.ra_BadPlan.ox g.ra_BadPlan.no g.ra_BadPlan.ini) (@RaC.mk (withFr gb fr lam) P w K mg base "BadPlayer" 3 g.ra_BadPlayer.g g.ra_BadPlayer.ox g.ra_BadPlayer.no g.ra_BadPlayer.ini) (g.C_BadMap) (g.gc_BadMap) (g.is_BadMap) (g.C_BadPlace) (g.gc_BadPlace) (g.is_BadPlace) (g.C_BadPlan) (g.gc_BadPlan) (g.is_BadPlan) (g.C_BadPlayer) (g.gc_BadPlayer) (g.is_BadPlayer)
def iniS : Stmt := (C8.clsBody (topS 6)).getD 0 (.Pass ⟨0, 0, 0, 0⟩)
theorem ini_ok {P : Program} {w : World} {K : PySem.W.Frag} {mg : Str → Option Value} {base : Heap} {f : Addr} {fd : FuncData} (F : C8.Fun K "__init__" "GameError.__init__" iniS f fd) (hz : mg "ValueError" = none)
    (vV : PySem.W.findCls K (.type "ValueError") (.type "type") "__init__" = some (.val (.builtin "ValueError.__init__"))) : FnOk P w K mg base C8.CX0 2 f fd ["self", "value"] (spI K) :=
  init_ok (hb := rfl) F (C8.fnScope_by (by decide +kernel)) (.inl rfl) (.inl rfl) (fun X e1 e2 e3 e4 => veI_conv (pe_veinit (by show X.env.scope.names.lookup _ = _; rw [e2]; rfl) (by rw [e4]; exact hz) (by rw [e3]; exact vV)
    (pa_cons (pe_var (i := 0) (by rw [e1]; rfl) (by rw [e2]; exact .inl rfl)) (pa_cons (pe_var (i := 1) (by rw [e1]; rfl) (by rw [e2]; exact .inl rfl)) pa_nil)))) (fun _ => rfl)
theorem sc_is_tuple : FnScope ["value", "least", "most"] ["value", "least", "most"] (defScope (topS 1)) := ⟨rfl, rfl, rfl, by decide +kernel, rfl, by decide +kernel, by decide +kernel⟩
def m_is_tuple : List MV → M MV := defM 3 3 (sRet (eAnd (una (isTM "tuple") (var 0)) (chn leM leM (var 1) (callE lenM (aCons (var 0) aNil)) (var 2))))
theorem ok_is_tuple (g : Mg P w K mg base) : FnS P w K mg base cvG 1 g.f_is_tuple m_is_tuple := by
  obtain ⟨fd, F⟩ := g.e_is_tuple
  exact fnS_of (k := 0) (ps := ["value", "least", "most"]) F sc_is_tuple (F.binds fun _ _ _ _ _ _ us hl => match us, hl with | [_, _, _], _ => rfl) fun cdv A outer s H E hr gd =>
    (sb_one (ss_ret (se_and (se_isT (T := "tuple") g.er (by decide) rfl g.z_isinstance rfl g.z_tuple bt_tuple (se_var (i := 0) rfl (.inl rfl))) (se_one (se_chain or_le or_le (se_var (i := 1) rfl (.inl rfl)) (se_callB cr_len rfl g.z_len bt_len (sa_cons (se_var (i := 0) rfl (.inl rfl)) sa_nil)) (se_var (i := 2) rfl (.inl rfl)))))))
theorem sc_is_whole : FnScope ["value"] ["value"] (defScope (topS 2)) := ⟨rfl, rfl, rfl, by decide +kernel, rfl, by decide +kernel, by decide +kernel⟩
def m_is_whole : List MV → M MV := defM 1 1 (sRet (eAnd (una (isTM "int") (var 0)) (eNot (una (isTM "bool") (var 0)))))
theorem ok_is_whole (g : Mg P w K mg base) : FnS P w K mg base cvG 1 g.f_is_whole m_is_whole := by
  obtain ⟨fd, F⟩ := g.e_is_whole
  exact fnS_of (k := 0) (ps := ["value"]) F sc_is_whole (F.binds fun _ _ _ _ _ _ us hl => match us, hl with | [_], _ => rfl) fun cdv A outer s H E hr gd =>
    (sb_one (ss_ret (se_and (se_isT (T := "int") g.er (by decide) rfl g.z_isinstance rfl g.z_int bt_int (se_var (i := 0) rfl (.inl rfl))) (se_one (se_not (se_isT (T := "bool") g.er (by decide) rfl g.z_isinstance rfl g.z_bool bt_bool (se_var (i := 0) rfl (.inl rfl))))))))
theorem sc_is_integer : FnScope ["value", "low", "high"] ["value", "low", "high"] (defScope (topS 3)) := ⟨rfl, rfl, rfl, by decide +kernel, rfl, by decide +kernel, by decide +kernel⟩
def m_is_integer : List MV → M MV := defM 3 3 (sRet (eAnd (callE m_is_whole (aCons (var 0) aNil)) (chn leM leM (var 1) (var 0) (var 2))))
theorem ok_is_integer (g : Mg P w K mg base) : FnS P w K mg base cvG 2 g.f_is_integer m_is_integer := by
  obtain ⟨fd, F⟩ := g.e_is_integer
  exact fnS_of (k := 1) (ps := ["value", "low", "high"]) F sc_is_integer (F.binds fun _ _ _ _ _ _ us hl => match us, hl with | [_, _, _], _ => rfl) fun cdv A outer s H E hr gd =>
    (sb_one (ss_ret (se_and (se_call ((ok_is_whole g).mono (by decide)) hr gd rfl g.g_is_whole g.k_is_whole (lets_body (takes_of rfl rfl rfl rfl)) (sa_cons (se_var (i := 0) rfl (.inl rfl)) sa_nil)) (se_one (se_chain or_le or_le (se_var (i := 1) rfl (.inl rfl)) (se_var (i := 0) rfl (.inl rfl)) (se_var (i := 2) rfl (.inl rfl)))))))
theorem sc_is_rising : FnScope ["values", "one", "other"] ["values"] (defScope (topS 4)) := ⟨rfl, rfl, rfl, by decide +kernel, rfl, by decide +kernel, by decide +kernel⟩
def m_is_rising : List MV → M MV := defM 1 3 (sRet (callE allM (aCons (comp false (zipI (var 0) (slE false (var 0) (oSome (con (.int 1))) oNone)) (gT 2 (gsCons (gN 1) (gsCons (gN 2) gsNil))) bYes (bin ltM (var 1) (var 2)) [1, 2]) aNil)))
theorem ok_is_rising (g : Mg P w K mg base) : FnS P w K mg base cvG 1 g.f_is_rising m_is_rising := by
  obtain ⟨fd, F⟩ := g.e_is_rising
  exact fnS_of (k := 0) (ps := ["values"]) F sc_is_rising (F.binds fun _ _ _ _ _ _ us hl => match us, hl with | [_], _ => rfl) fun cdv A outer s H E hr gd =>
    (sb_one (ss_ret (se_callB (cr_allM rfl) rfl g.z_all bt_all (sa_cons (se_comp (own := [("one", 1), ("other", 2)]) rfl sc_is_rising.nd (si_zip rfl g.z_zip (se_var (i := 0) rfl (.inl rfl)) (se_sl (se_var (i := 0) rfl (.inl rfl)) (so_some se_int) so_none)) (blk_by (N' := ["values", "one", "other"]) (sc' := defScope (topS 4)) rfl rfl (by decide +kernel)) (fun _ _ _ _ _ => (sg_tup rfl (sgs_cons (sg_name (i := 1) (by decide) sc_is_rising.nd rfl (.inl rfl)) (sgs_cons (sg_name (i := 2) (by decide) sc_is_rising.nd rfl (.inl rfl)) sgs_nil)))) (fun _ _ _ _ _ => sts_nil) (fun _ _ _ _ _ => (se_cmp (or_lt (u0 hr)) (se_var (i := 1) rfl (.inl rfl)) (se_var (i := 2) rfl (.inl rfl)) (nomark _)))) sa_nil))))
theorem sc_is_move : FnScope ["value", "many", "place"] ["value", "many"] (defScope (topS 15)) := ⟨rfl, rfl, rfl, by decide +kernel, rfl, by decide +kernel, by decide +kernel⟩
def m_is_move : List MV → M MV := defM 2 3 (sRet (eAnd (callE m_is_tuple (aCons (var 0) (aCons (con (.int 2)) (aCons (con (.int 2)) aNil)))) (callE allM (aCons (comp false (seqI (var 0)) (gN 2) bYes (callE m_is_integer (aCons (var 2) (aCons (con (.int 0)) (aCons (bin subM (var 1) (con (.int 1))) aNil)))) [2]) aNil))))
theorem ok_is_move (g : Mg P w K mg base) : FnS P w K mg base cvG 3 g.f_is_move m_is_move := by
  obtain ⟨fd, F⟩ := g.e_is_move
  exact fnS_of (k := 2) (ps := ["value", "many"]) F sc_is_move (F.binds fun _ _ _ _ _ _ us hl => match us, hl with | [_, _], _ => rfl) fun cdv A outer s H E hr gd =>
    (sb_one (ss_ret (se_and (se_call ((ok_is_tuple g).mono (by decide)) hr gd rfl g.g_is_tuple g.k_is_tuple (lets_body (takes_of rfl rfl rfl rfl)) (sa_cons (se_var (i := 0) rfl (.inl rfl)) (sa_cons (se_gint rfl g.i_PAIR) (sa_cons (se_gint rfl g.i_PAIR) sa_nil)))) (se_one (se_callB (cr_allM rfl) rfl g.z_all bt_all (sa_cons (se_comp (own := [("place", 2)]) rfl sc_is_move.nd (si_seq (se_var (i := 0) rfl (.inl rfl))) (blk_by (N' := ["value", "many", "place"]) (sc' := defScope (topS 15)) rfl rfl (by decide +kernel)) (fun _ _ _ _ _ => (sg_name (i := 2) (by decide) sc_is_move.nd rfl (.inl rfl))) (fun _ _ _ _ _ => sts_nil) (fun _ _ _ _ _ => (se_call ((ok_is_integer g).mono (by decide)) hr gd rfl g.g_is_integer g.k_is_integer lets_none (sa_cons (se_var (i := 2) rfl (.inl rfl)) (sa_cons se_int (sa_cons (se_bin or_sub (se_var (i := 1) rfl (.inr (.inl rfl))) se_int) sa_nil)))))) sa_nil))))))
theorem sc_is_map : FnScope ["value", "owners", "moves", "owner", "move"] ["value"] (defScope (topS 16)) := ⟨rfl, rfl, rfl, by decide +kernel, rfl, by decide +kernel, by decide +kernel⟩
def m_is_map : List MV → M MV := defM 1 5 (sSeq (sIf (bOr (bNot (tst (callE m_is_tuple (aCons (var 0) (aCons (con (.int 2)) (aCons (con (.int 2)) aNil)))))) (bNot (tst (callE m_is_tuple (aCons (bin ixM (var 0) (con (.int 0))) (aCons (con (.int 1)) (aCons (con (.int 12)) aNil))))))) (sRet (con (.bl false))) sNil) (sSeq (sAsg (var 0) (gT 2 (gsCons (gN 1) (gsCons (gN 2) gsNil)))) (sSeq (sIf (bOr (bNot (tst (callE allM (aCons (comp false (seqI (var 1)) (gN 3) bYes (callE m_is_integer (aCons (var 3) (aCons (con (.int 0)) (aCons (con (.int 1)) aNil)))) [3]) aNil)))) (bNot (tst (callE m_is_tuple (aCons (var 2) (aCons (con (.int 1)) (aCons (con (.int 60)) aNil))))))) (sRet (con (.bl false))) sNil) (sSeq (sIf (bOr (bNot (tst (callE allM (aCons (comp false (seqI (var 2)) (gN 4) bYes (callE m_is_move (aCons (var 4) (aCons (callE lenM (aCons (var 1) aNil)) aNil))) [4]) aNil)))) (bNot (tst (callE m_is_rising (aCons (var 2) aNil))))) (sRet (con (.bl false))) sNil) (sRet (bin (eqM false) (una (sSetI false) (comp false (seqI (var 2)) (gN 4) bYes (bin ixM (var 4) (con (.int 0))) [4])) (rgE (some false) (con (.int 0)) (callE lenM (aCons (var 1) aNil)))))))))
theorem ok_is_map (g : Mg P w K mg base) : FnS P w K mg base cvG 4 g.f_is_map m_is_map := by
  obtain ⟨fd, F⟩ := g.e_is_map
  exact fnS_of (k := 3) (ps := ["value"]) F sc_is_map (F.binds fun _ _ _ _ _ _ us hl => match us, hl with | [_], _ => rfl) fun cdv A outer s H E hr gd =>
    (sb_cons (ss_if (st_w (sw_or (st_not (st_val (se_call ((ok_is_tuple g).mono (by decide)) hr gd rfl g.g_is_tuple g.k_is_tuple (lets_body (takes_of rfl rfl rfl rfl)) (sa_cons (se_var (i := 0) rfl (.inl rfl)) (sa_cons (se_gint rfl g.i_PAIR) (sa_cons (se_gint rfl g.i_PAIR) sa_nil)))))) (sw_or1 (st_not (st_val (se_call ((ok_is_tuple g).mono (by decide)) hr gd rfl g.g_is_tuple g.k_is_tuple (lets_body (takes_of rfl rfl rfl rfl)) (sa_cons (se_ix ir_seq (se_var (i := 0) rfl (.inl rfl)) se_int) (sa_cons se_int (sa_cons (se_gint rfl g.i_MOST_PLACES) sa_nil))))))))) (sb_one (ss_ret se_bl)) sb_nil) (sb_cons (ss_asg (own := [1, 2]) (se_var (i := 0) rfl (.inl rfl)) (sg_tup rfl (sgs_cons (sg_name (i := 1) (by decide) sc_is_map.nd rfl (.inr rfl)) (sgs_cons (sg_name (i := 2) (by decide) sc_is_map.nd rfl (.inl rfl)) sgs_nil)))) (sb_cons (ss_if (st_w (sw_or (st_not (st_val (se_callB (cr_allM rfl) rfl g.z_all bt_all (sa_cons (se_comp (own := [("owner", 3)]) rfl sc_is_map.nd (si_seq (se_var (i := 1) rfl (.inr (.inl rfl)))) (blk_by (N' := ["value", "owners", "moves", "owner", "move"]) (sc' := defScope (topS 16)) rfl rfl (by decide +kernel)) (fun _ _ _ _ _ => (sg_name (i := 3) (by decide) sc_is_map.nd rfl (.inl rfl))) (fun _ _ _ _ _ => sts_nil) (fun _ _ _ _ _ => (se_call ((ok_is_integer g).mono (by decide)) hr gd rfl g.g_is_integer g.k_is_integer lets_none (sa_cons (se_var (i := 3) rfl (.inl rfl)) (sa_cons se_int (sa_cons se_int sa_nil)))))) sa_nil)))) (sw_or1 (st_not (st_val (se_call ((ok_is_tuple g).mono (by decide)) hr gd rfl g.g_is_tuple g.k_is_tuple (lets_body (takes_of rfl rfl rfl rfl)) (sa_cons (se_var (i := 2) rfl (.inl rfl)) (sa_cons se_int (sa_cons (se_gint rfl g.i_MOST_MOVES) sa_nil))))))))) (sb_one (ss_ret se_bl)) sb_nil) (sb_cons (ss_if (st_w (sw_or (st_not (st_val (se_callB (cr_allM rfl) rfl g.z_all bt_all (sa_cons (se_comp (own := [("move", 4)]) rfl sc_is_map.nd (si_seq (se_var (i := 2) rfl (.inl rfl))) (blk_by (N' := ["value", "owners", "moves", "owner", "move"]) (sc' := defScope (topS 16)) rfl rfl (by decide +kernel)) (fun _ _ _ _ _ => (sg_name (i := 4) (by decide) sc_is_map.nd rfl (.inl rfl))) (fun _ _ _ _ _ => sts_nil) (fun _ _ _ _ _ => (se_call ((ok_is_move g).mono (by decide)) hr gd rfl g.g_is_move g.k_is_move lets_none (sa_cons (se_var (i := 4) rfl (.inl rfl)) (sa_cons (se_callB cr_len rfl g.z_len bt_len (sa_cons (se_var (i := 1) rfl (.inr (.inl rfl))) sa_nil)) sa_nil))))) sa_nil)))) (sw_or1 (st_not (st_val (se_call ((ok_is_rising g).mono (by decide)) hr gd rfl g.g_is_rising g.k_is_rising (lets_body (takes_of rfl rfl rfl rfl)) (sa_cons (se_var (i := 2) rfl (.inl rfl)) sa_nil))))))) (sb_one (ss_ret se_bl)) sb_nil) (sb_one (ss_ret (se_cmp (or_eq (u64 hr)) (se_sSetI rfl rfl g.z_sorted rfl g.z_set (se_comp (own := [("move", 4)]) rfl sc_is_map.nd (si_seq (se_var (i := 2) rfl (.inl rfl))) (blk_by (N' := ["value", "owners", "moves", "owner", "move"]) (sc' := defScope (topS 16)) rfl rfl (by decide +kernel)) (fun _ _ _ _ _ => (sg_name (i := 4) (by decide) sc_is_map.nd rfl (.inl rfl))) (fun _ _ _ _ _ => sts_nil) (fun _ _ _ _ _ => (se_ix ir_seq (se_var (i := 4) rfl (.inl rfl)) se_int)))) (se_listRg1 rfl rfl g.z_list rfl g.z_range (se_callB cr_len rfl g.z_len bt_len (sa_cons (se_var (i := 1) rfl (.inr (.inl rfl))) sa_nil))) (nomark _))))))))
theorem sc_check_map : FnScope ["value"] ["value"] (defScope (topS 17)) := ⟨rfl, rfl, rfl, by decide +kernel, rfl, by decide +kernel, by decide +kernel⟩
def m_check_map : List MV → M MV := defM 1 1 (sIf (bNot (tst (callE m_is_map (aCons (var 0) aNil)))) (sRaise 1 (var 0)) sNil)
theorem ok_check_map (g : Mg P w K mg base) : FnS P w K mg base cvG 5 g.f_check_map m_check_map := by
  obtain ⟨fd, F⟩ := g.e_check_map
  exact fnS_of (k := 4) (ps := ["value"]) F sc_check_map (F.binds fun _ _ _ _ _ _ us hl => match us, hl with | [_], _ => rfl) fun cdv A outer s H E hr gd =>
    (sb_one (ss_if (st_not (st_val (se_call ((ok_is_map g).mono (by decide)) hr gd rfl g.g_is_map g.k_is_map (lets_body (takes_of rfl rfl rfl rfl)) (sa_cons (se_var (i := 0) rfl (.inl rfl)) sa_nil)))) (sb_one (ss_raise g.ra_BadMap (takes_of rfl rfl rfl rfl) rfl (hr.mono (by decide)) rfl rfl (se_var (i := 0) rfl (.inl rfl)))) sb_nil))
theorem sc_check_player : FnScope ["value"] ["value"] (defScope (topS 18)) := ⟨rfl, rfl, rfl, by decide +kernel, rfl, by decide +kernel, by decide +kernel⟩
def m_check_player : List MV → M MV := defM 1 1 (sIf (bNot (tst (callE m_is_integer (aCons (var 0) (aCons (con (.int 0)) (aCons (con (.int 1)) aNil)))))) (sRaise 3 (var 0)) sNil)
theorem ok_check_player (g : Mg P w K mg base) : FnS P w K mg base cvG 4 g.f_check_player m_check_player := by
  obtain ⟨fd, F⟩ := g.e_check_player
  exact fnS_of (k := 3) (ps := ["value"]) F sc_check_player (F.binds fun _ _ _ _ _ _ us hl => match us, hl with | [_], _ => rfl) fun cdv A outer s H E hr gd =>
    (sb_one (ss_if (st_not (st_val (se_call ((ok_is_integer g).mono (by decide)) hr gd rfl g.g_is_integer g.k_is_integer (lets_body (takes_of rfl rfl rfl rfl)) (sa_cons (se_var (i := 0) rfl (.inl rfl)) (sa_cons se_int (sa_cons se_int sa_nil)))))) (sb_one (ss_raise g.ra_BadPlayer (takes_of rfl rfl rfl rfl) rfl (hr.mono (by decide)) rfl rfl (se_var (i := 0) rfl (.inl rfl)))) sb_nil))
theorem sc_check_place : FnScope ["game", "value"] ["game", "value"] (defScope (topS 19)) := ⟨rfl, rfl, rfl, by decide +kernel, rfl, by decide +kernel, by decide +kernel⟩
def m_check_place : List MV → M MV := defM 2 2 (sIf (bNot (tst (callE m_is_integer (aCons (var 1) (aCons (con (.int 0)) (aCons (bin subM (callE lenM (aCons (bin ixM (var 0) (con (.int 0))) aNil)) (con (.int 1))) aNil)))))) (sRaise 2 (var 1)) sNil)
theorem ok_check_place (g : Mg P w K mg base) : FnS P w K mg base cvG 4 g.f_check_place m_check_place := by
  obtain ⟨fd, F⟩ := g.e_check_place
  exact fnS_of (k := 3) (ps := ["game", "value"]) F sc_check_place (F.binds fun _ _ _ _ _ _ us hl => match us, hl with | [_, _], _ => rfl) fun cdv A outer s H E hr gd =>
    (sb_one (ss_if (st_not (st_val (se_call ((ok_is_integer g).mono (by decide)) hr gd rfl g.g_is_integer g.k_is_integer (lets_body (takes_of rfl rfl rfl rfl)) (sa_cons (se_var (i := 1) rfl (.inl rfl)) (sa_cons se_int (sa_cons (se_bin or_sub (se_callB cr_len rfl g.z_len bt_len (sa_cons (se_ix ir_seq (se_var (i := 0) rfl (.inl rfl)) se_int) sa_nil)) se_int) sa_nil)))))) (sb_one (ss_raise g.ra_BadPlace (takes_of rfl rfl rfl rfl) rfl (hr.mono (by decide)) rfl rfl (se_var (i := 1) rfl (.inl rfl)))) sb_nil))
theorem sc_ways : FnScope ["game", "found", "one", "other", "owner"] ["game"] (defScope (topS 20)) := ⟨rfl, rfl, rfl, by decide +kernel, rfl, by decide +kernel, by decide +kernel⟩
def m_ways : List MV → M MV := defM 1 5 (sSeq (sSet 1 (comp false (seqI (bin ixM (var 0) (con (.int 0)))) (gN 4) bYes (lstD true aNil) [4])) (sSeq (sFor (seqI (bin ixM (var 0) (con (.int 1)))) (gT 2 (gsCons (gN 2) (gsCons (gN 3) gsNil))) (sExp (metL appM (bin ixM (var 1) (var 2)) (aCons (var 3) aNil)))) (sRet (frzE 3 (var 1)))))
theorem ok_ways (g : Mg P w K mg base) : FnS P w K mg base cvG 1 g.f_ways m_ways := by
  obtain ⟨fd, F⟩ := g.e_ways
  exact fnS_of (k := 0) (ps := ["game"]) F sc_ways (F.binds fun _ _ _ _ _ _ us hl => match us, hl with | [_], _ => rfl) fun cdv A outer s H E hr gd =>
    (sb_cons (ss_setComp (own := [("owner", 4)]) rfl sc_ways.nd (i := 1) rfl rfl (sw_true rfl rfl rfl (by decide +kernel)) (si_seq (se_ix ir_seq (se_var (i := 0) rfl (.inl rfl)) se_int)) (blk_by (N' := ["game", "found", "one", "other", "owner"]) (sc' := defScope (topS 20)) rfl rfl (by decide +kernel)) (fun _ _ _ _ _ => (sg_name (i := 4) (by decide) sc_ways.nd rfl (.inl rfl))) (fun _ _ _ _ _ => sts_nil) (fun _ _ _ _ _ => (se_lst sa_nil))) (sb_cons (ss_for (own := [2, 3]) (passes_of rfl) rfl (si_seq (se_ix ir_seq (se_var (i := 0) rfl (.inl rfl)) se_int)) (sg_tup rfl (sgs_cons (sg_name (i := 2) (by decide) sc_ways.nd rfl (.inl rfl)) (sgs_cons (sg_name (i := 3) (by decide) sc_ways.nd rfl (.inl rfl)) sgs_nil))) (sb_one (ss_exp (se_met PySem.F.slot_list_append PySem.F.type_list_append mr_append (se_ix ir_seq (se_var (i := 1) rfl (.inl rfl)) (se_var (i := 2) rfl (.inl rfl))) (sa_cons (se_var (i := 3) rfl (.inl rfl)) sa_nil))))) (sb_one (ss_ret (se_frz (se_var (i := 1) rfl (.inl rfl)))))))
theorem sc_is_play : FnScope ["game", "value", "some", "place", "one", "other"] ["game", "value"] (defScope (topS 23)) := ⟨rfl, rfl, rfl, by decide +kernel, rfl, by decide +kernel, by decide +kernel⟩
def m_is_play : List MV → M MV := defM 2 6 (sSeq (sExp (callE m_check_map (aCons (var 0) aNil))) (sSeq (sIf (bOr (bNot (tst (callE m_is_tuple (aCons (var 1) (aCons (con (.int 1)) (aCons (con (.int 1000)) aNil)))))) (bNot (tst (callE allM (aCons (comp false (seqI (var 1)) (gN 3) bYes (callE m_is_integer (aCons (var 3) (aCons (con (.int 0)) (aCons (bin subM (callE lenM (aCons (bin ixM (var 0) (con (.int 0))) aNil)) (con (.int 1))) aNil)))) [3]) aNil))))) (sRet (con (.bl false))) sNil) (sSeq (sSet 2 (callE m_ways (aCons (var 0) aNil))) (sRet (callE allM (aCons (comp false (zipI (var 1) (slE false (var 1) (oSome (con (.int 1))) oNone)) (gT 2 (gsCons (gN 4) (gsCons (gN 5) gsNil))) bYes (bin (inC false) (var 5) (bin ixM (var 2) (var 4))) [4, 5]) aNil))))))
theorem ok_is_play (g : Mg P w K mg base) : FnS P w K mg base cvG 6 g.f_is_play m_is_play := by
  obtain ⟨fd, F⟩ := g.e_is_play
  exact fnS_of (k := 5) (ps := ["game", "value"]) F sc_is_play (F.binds fun _ _ _ _ _ _ us hl => match us, hl with | [_, _], _ => rfl) fun cdv A outer s H E hr gd =>
    (sb_cons (ss_exp (se_call ((ok_check_map g).mono (by decide)) hr gd rfl g.g_check_map g.k_check_map (lets_body (takes_of rfl rfl rfl rfl)) (sa_cons (se_var (i := 0) rfl (.inr (.inl rfl))) sa_nil))) (sb_cons (ss_if (st_w (sw_or (st_not (st_val (se_call ((ok_is_tuple g).mono (by decide)) hr gd rfl g.g_is_tuple g.k_is_tuple (lets_body (takes_of rfl rfl rfl rfl)) (sa_cons (se_var (i := 1) rfl (.inl rfl)) (sa_cons se_int (sa_cons (se_gint rfl g.i_MOST_PLAY) sa_nil)))))) (sw_or1 (st_not (st_val (se_callB (cr_allM rfl) rfl g.z_all bt_all (sa_cons (se_comp (own := [("place", 3)]) rfl sc_is_play.nd (si_seq (se_var (i := 1) rfl (.inl rfl))) (blk_by (N' := ["game", "value", "some", "place", "one", "other"]) (sc' := defScope (topS 23)) rfl rfl (by decide +kernel)) (fun _ _ _ _ _ => (sg_name (i := 3) (by decide) sc_is_play.nd rfl (.inl rfl))) (fun _ _ _ _ _ => sts_nil) (fun _ _ _ _ _ => (se_call ((ok_is_integer g).mono (by decide)) hr gd rfl g.g_is_integer g.k_is_integer lets_none (sa_cons (se_var (i := 3) rfl (.inl rfl)) (sa_cons se_int (sa_cons (se_bin or_sub (se_callB cr_len rfl g.z_len bt_len (sa_cons (se_ix ir_seq (se_var (i := 0) rfl (.inr (.inl rfl))) se_int) sa_nil)) se_int) sa_nil)))))) sa_nil))))))) (sb_one (ss_ret se_bl)) sb_nil) (sb_cons (ss_set (i := 2) sc_is_play.nd rfl (.inr rfl) (se_call ((ok_ways g).mono (by decide)) hr gd rfl g.g_ways g.k_ways (lets_body (takes_of rfl rfl rfl rfl)) (sa_cons (se_var (i := 0) rfl (.inr (.inl rfl))) sa_nil))) (sb_one (ss_ret (se_callB (cr_allM rfl) rfl g.z_all bt_all (sa_cons (se_comp (own := [("one", 4), ("other", 5)]) rfl sc_is_play.nd (si_zip rfl g.z_zip (se_var (i := 1) rfl (.inl rfl)) (se_sl (se_var (i := 1) rfl (.inl rfl)) (so_some se_int) so_none)) (blk_by (N' := ["game", "value", "some", "place", "one", "other"]) (sc' := defScope (topS 23)) rfl rfl (by decide +kernel)) (fun _ _ _ _ _ => (sg_tup rfl (sgs_cons (sg_name (i := 4) (by decide) sc_is_play.nd rfl (.inl rfl)) (sgs_cons (sg_name (i := 5) (by decide) sc_is_play.nd rfl (.inl rfl)) sgs_nil)))) (fun _ _ _ _ _ => sts_nil) (fun _ _ _ _ _ => (se_cmp (or_inC (u65 hr)) (se_var (i := 5) rfl (.inl rfl)) (se_ix ir_seq (se_var (i := 2) rfl (.inr (.inl rfl))) (se_var (i := 4) rfl (.inl rfl))) (by with_unfolding_all rfl)))) sa_nil)))))))
theorem sc_is_plan_of : FnScope ["game", "who", "value", "some", "place", "owner"] ["game", "who", "value"] (defScope (topS 24)) := ⟨rfl, rfl, rfl, by decide +kernel, rfl, by decide +kernel, by decide +kernel⟩
def m_is_plan_of : List MV → M MV := defM 3 6 (sSeq (sIf (bNot (tst (callE m_is_tuple (aCons (var 2) (aCons (callE lenM (aCons (bin ixM (var 0) (con (.int 0))) aNil)) (aCons (callE lenM (aCons (bin ixM (var 0) (con (.int 0))) aNil)) aNil)))))) (sRet (con (.bl false))) sNil) (sSeq (sSet 3 (callE m_ways (aCons (var 0) aNil))) (sSeq (sFor (enumI (bin ixM (var 0) (con (.int 0)))) (gT 2 (gsCons (gN 4) (gsCons (gN 5) gsNil))) (sSeq (sIf (bAnd (tst (bin (eqM true) (var 5) (var 1))) (tst (bin (isM true) (bin ixM (var 2) (var 4)) (con .non)))) (sRet (con (.bl false))) sNil) (sIf (bAnd (tst (bin (eqM false) (var 5) (var 1))) (bNot (bAnd (tst (callE m_is_integer (aCons (bin ixM (var 2) (var 4)) (aCons (con (.int 0)) (aCons (bin subM (callE lenM (aCons (var 3) aNil)) (con (.int 1))) aNil))))) (tst (bin (inC false) (bin ixM (var 2) (var 4)) (bin ixM (var 3) (var 4))))))) (sRet (con (.bl false))) sNil))) (sRet (con (.bl true))))))
theorem ok_is_plan_of (g : Mg P w K mg base) : FnS P w K mg base cvG 3 g.f_is_plan_of m_is_plan_of := by
  obtain ⟨fd, F⟩ := g.e_is_plan_of
  exact fnS_of (k := 2) (ps := ["game", "who", "value"]) F sc_is_plan_of (F.binds fun _ _ _ _ _ _ us hl => match us, hl with | [_, _, _], _ => rfl) fun cdv A outer s H E hr gd =>
    (sb_cons (ss_if (st_not (st_val (se_call ((ok_is_tuple g).mono (by decide)) hr gd rfl g.g_is_tuple g.k_is_tuple (lets_body (takes_of rfl rfl rfl rfl)) (sa_cons (se_var (i := 2) rfl (.inl rfl)) (sa_cons (se_callB cr_len rfl g.z_len bt_len (sa_cons (se_ix ir_seq (se_var (i := 0) rfl (.inl rfl)) se_int) sa_nil)) (sa_cons (se_callB cr_len rfl g.z_len bt_len (sa_cons (se_ix ir_seq (se_var (i := 0) rfl (.inl rfl)) se_int) sa_nil)) sa_nil)))))) (sb_one (ss_ret se_bl)) sb_nil) (sb_cons (ss_set (i := 3) sc_is_plan_of.nd rfl (.inl rfl) (se_call ((ok_ways g).mono (by decide)) hr gd rfl g.g_ways g.k_ways (lets_body (takes_of rfl rfl rfl rfl)) (sa_cons (se_var (i := 0) rfl (.inl rfl)) sa_nil))) (sb_cons (ss_for (own := [4, 5]) (passes_of rfl) rfl (si_enum rfl g.z_enumerate (se_ix ir_seq (se_var (i := 0) rfl (.inl rfl)) se_int)) (sg_tup rfl (sgs_cons (sg_name (i := 4) (by decide) sc_is_plan_of.nd rfl (.inl rfl)) (sgs_cons (sg_name (i := 5) (by decide) sc_is_plan_of.nd rfl (.inl rfl)) sgs_nil))) (sb_cons (ss_if (st_w (sw_and (st_cmp (or_ne (u64 hr)) (se_var (i := 5) rfl (.inl rfl)) (se_var (i := 1) rfl (.inl rfl)) (nomark _)) (sw_and1 (st_cmp or_isnot (se_ix ir_seq (se_var (i := 2) rfl (.inl rfl)) (se_var (i := 4) rfl (.inl rfl))) se_non (nomark _))))) (sb_one (ss_ret se_bl)) sb_nil) (sb_one (ss_if (st_w (sw_and (st_cmp (or_eq (u64 hr)) (se_var (i := 5) rfl (.inl rfl)) (se_var (i := 1) rfl (.inl rfl)) (nomark _)) (sw_and1 (st_not (st_w (sw_and (st_val (se_call ((ok_is_integer g).mono (by decide)) hr gd rfl g.g_is_integer g.k_is_integer (lets_body (takes_of rfl rfl rfl rfl)) (sa_cons (se_ix ir_seq (se_var (i := 2) rfl (.inl rfl)) (se_var (i := 4) rfl (.inl rfl))) (sa_cons se_int (sa_cons (se_bin or_sub (se_callB cr_len rfl g.z_len bt_len (sa_cons (se_var (i := 3) rfl (.inl rfl)) sa_nil)) se_int) sa_nil))))) (sw_and1 (st_cmp (or_inC (u65 hr)) (se_ix ir_seq (se_var (i := 2) rfl (.inl rfl)) (se_var (i := 4) rfl (.inl rfl))) (se_ix ir_seq (se_var (i := 3) rfl (.inl rfl)) (se_var (i := 4) rfl (.inl rfl))) (by with_unfolding_all rfl))))))))) (sb_one (ss_ret se_bl)) sb_nil)))) (sb_one (ss_ret se_bl)))))
theorem sc_is_plan : FnScope ["game", "who", "value"] ["game", "who", "value"] (defScope (topS 25)) := ⟨rfl, rfl, rfl, by decide +kernel, rfl, by decide +kernel, by decide +kernel⟩
def m_is_plan : List MV → M MV := defM 3 3 (sSeq (sExp (callE m_check_map (aCons (var 0) aNil))) (sSeq (sExp (callE m_check_player (aCons (var 1) aNil))) (sRet (callE m_is_plan_of (aCons (var 0) (aCons (var 1) (aCons (var 2) aNil)))))))
theorem ok_is_plan (g : Mg P w K mg base) : FnS P w K mg base cvG 6 g.f_is_plan m_is_plan := by
  obtain ⟨fd, F⟩ := g.e_is_plan
  exact fnS_of (k := 5) (ps := ["game", "who", "value"]) F sc_is_plan (F.binds fun _ _ _ _ _ _ us hl => match us, hl with | [_, _, _], _ => rfl) fun cdv A outer s H E hr gd =>
    (sb_cons (ss_exp (se_call ((ok_check_map g).mono (by decide)) hr gd rfl g.g_check_map g.k_check_map (lets_body (takes_of rfl rfl rfl rfl)) (sa_cons (se_var (i := 0) rfl (.inl rfl)) sa_nil))) (sb_cons (ss_exp (se_call ((ok_check_player g).mono (by decide)) hr gd rfl g.g_check_player g.k_check_player (lets_body (takes_of rfl rfl rfl rfl)) (sa_cons (se_var (i := 1) rfl (.inl rfl)) sa_nil))) (sb_one (ss_ret (se_call ((ok_is_plan_of g).mono (by decide)) hr gd rfl g.g_is_plan_of g.k_is_plan_of (lets_body (takes_of rfl rfl rfl rfl)) (sa_cons (se_var (i := 0) rfl (.inl rfl)) (sa_cons (se_var (i := 1) rfl (.inl rfl)) (sa_cons (se_var (i := 2) rfl (.inl rfl)) sa_nil))))))))
theorem sc_check_plan : FnScope ["game", "who", "value"] ["game", "who", "value"] (defScope (topS 26)) := ⟨rfl, rfl, rfl, by decide +kernel, rfl, by decide +kernel, by decide +kernel⟩
def m_check_plan : List MV → M MV := defM 3 3 (sIf (bNot (tst (callE m_is_plan_of (aCons (var 0) (aCons (var 1) (aCons (var 2) aNil)))))) (sRaise 4 (var 2)) sNil)
theorem ok_check_plan (g : Mg P w K mg base) : FnS P w K mg base cvG 4 g.f_check_plan m_check_plan := by
  obtain ⟨fd, F⟩ := g.e_check_plan
  exact fnS_of (k := 3) (ps := ["game", "who", "value"]) F sc_check_plan (F.binds fun _ _ _ _ _ _ us hl => match us, hl with | [_, _, _], _ => rfl) fun cdv A outer s H E hr gd =>
    (sb_one (ss_if (st_not (st_val (se_call ((ok_is_plan_of g).mono (by decide)) hr gd rfl g.g_is_plan_of g.k_is_plan_of (lets_body (takes_of rfl rfl rfl rfl)) (sa_cons (se_var (i := 0) rfl (.inl rfl)) (sa_cons (se_var (i := 1) rfl (.inl rfl)) (sa_cons (se_var (i := 2) rfl (.inl rfl)) sa_nil)))))) (sb_one (ss_raise g.ra_BadPlan (takes_of rfl rfl rfl rfl) rfl (hr.mono (by decide)) rfl rfl (se_var (i := 2) rfl (.inl rfl)))) sb_nil))
theorem sc_next_of : FnScope ["game", "one", "other", "place"] ["game", "one", "other", "place"] (defScope (topS 27)) := ⟨rfl, rfl, rfl, by decide +kernel, rfl, by decide +kernel, by decide +kernel⟩
def m_next_of : List MV → M MV := defM 4 4 (sRet (iff (tst (bin (eqM false) (bin ixM (bin ixM (var 0) (con (.int 0))) (var 3)) (con (.int 0)))) (bin ixM (var 1) (var 3)) (bin ixM (var 2) (var 3))))
theorem ok_next_of (g : Mg P w K mg base) : FnS P w K mg base cvG 1 g.f_next_of m_next_of := by
  obtain ⟨fd, F⟩ := g.e_next_of
  exact fnS_of (k := 0) (ps := ["game", "one", "other", "place"]) F sc_next_of (F.binds fun _ _ _ _ _ _ us hl => match us, hl with | [_, _, _, _], _ => rfl) fun cdv A outer s H E hr gd =>
    (sb_one (ss_ret (se_iff (st_cmp (or_eq (u64 hr)) (se_ix ir_seq (se_ix ir_seq (se_var (i := 0) rfl (.inl rfl)) se_int) (se_var (i := 3) rfl (.inl rfl))) se_int (nomark _)) (se_ix ir_seq (se_var (i := 1) rfl (.inl rfl)) (se_var (i := 3) rfl (.inl rfl))) (se_ix ir_seq (se_var (i := 2) rfl (.inl rfl)) (se_var (i := 3) rfl (.inl rfl))))))
theorem sc_together : FnScope ["game", "one", "other", "place", "found", "at"] ["game", "one", "other", "place"] (defScope (topS 28)) := ⟨rfl, rfl, rfl, by decide +kernel, rfl, by decide +kernel, by decide +kernel⟩
def m_together : List MV → M MV := defM 4 6 (sSeq (sExp (callE m_check_map (aCons (var 0) aNil))) (sSeq (sExp (callE m_check_plan (aCons (var 0) (aCons (con (.int 0)) (aCons (var 1) aNil))))) (sSeq (sExp (callE m_check_plan (aCons (var 0) (aCons (con (.int 1)) (aCons (var 2) aNil))))) (sSeq (sExp (callE m_check_place (aCons (var 0) (aCons (var 3) aNil)))) (sSeq (sSet 4 (lstD true (aCons (var 3) aNil))) (sSeq (sWhl (tst (bin (eqM false) (metL cntM (var 4) (aCons (bin ixM (var 4) (una negM (con (.int 1)))) aNil)) (con (.int 1)))) (sExp (metL appM (var 4) (aCons (callE m_next_of (aCons (var 0) (aCons (var 1) (aCons (var 2) (aCons (bin ixM (var 4) (una negM (con (.int 1)))) aNil))))) aNil)))) (sSeq (sSet 5 (metL idxM (var 4) (aCons (bin ixM (var 4) (una negM (con (.int 1)))) aNil))) (sRet (tupD (aCons (callE tupleM (aCons (slE false (var 4) oNone (oSome (var 5))) aNil)) (aCons (callE tupleM (aCons (slE false (var 4) (oSome (var 5)) (oSome (una negM (con (.int 1))))) aNil)) aNil)))))))))))
theorem ok_together (g : Mg P w K mg base) : FnS P w K mg base cvG 6 g.f_together m_together := by
  obtain ⟨fd, F⟩ := g.e_together
  exact fnS_of (k := 5) (ps := ["game", "one", "other", "place"]) F sc_together (F.binds fun _ _ _ _ _ _ us hl => match us, hl with | [_, _, _, _], _ => rfl) fun cdv A outer s H E hr gd =>
    (sb_cons (ss_exp (se_call ((ok_check_map g).mono (by decide)) hr gd rfl g.g_check_map g.k_check_map (lets_body (takes_of rfl rfl rfl rfl)) (sa_cons (se_var (i := 0) rfl (.inl rfl)) sa_nil))) (sb_cons (ss_exp (se_call ((ok_check_plan g).mono (by decide)) hr gd rfl g.g_check_plan g.k_check_plan (lets_body (takes_of rfl rfl rfl rfl)) (sa_cons (se_var (i := 0) rfl (.inl rfl)) (sa_cons se_int (sa_cons (se_var (i := 1) rfl (.inl rfl)) sa_nil))))) (sb_cons (ss_exp (se_call ((ok_check_plan g).mono (by decide)) hr gd rfl g.g_check_plan g.k_check_plan (lets_body (takes_of rfl rfl rfl rfl)) (sa_cons (se_var (i := 0) rfl (.inl rfl)) (sa_cons se_int (sa_cons (se_var (i := 2) rfl (.inl rfl)) sa_nil))))) (sb_cons (ss_exp (se_call ((ok_check_place g).mono (by decide)) hr gd rfl g.g_check_place g.k_check_place (lets_body (takes_of rfl rfl rfl rfl)) (sa_cons (se_var (i := 0) rfl (.inl rfl)) (sa_cons (se_var (i := 3) rfl (.inl rfl)) sa_nil)))) (sb_cons (ss_set (i := 4) sc_together.nd rfl (.inl rfl) (se_lst (sa_cons (se_var (i := 3) rfl (.inl rfl)) sa_nil))) (sb_cons (ss_whl (passes_of rfl) (st_cmp (or_eq (u64 hr)) (se_met PySem.F.slot_list_count PySem.F.type_list_count mr_count (se_var (i := 4) rfl (.inl rfl)) (sa_cons (se_ix ir_seq (se_var (i := 4) rfl (.inl rfl)) (se_una ur_neg se_int)) sa_nil)) se_int (nomark _)) (sb_one (ss_exp (se_met PySem.F.slot_list_append PySem.F.type_list_append mr_append (se_var (i := 4) rfl (.inl rfl)) (sa_cons (se_call ((ok_next_of g).mono (by decide)) hr gd rfl g.g_next_of g.k_next_of (lets_body (takes_of rfl rfl rfl rfl)) (sa_cons (se_var (i := 0) rfl (.inl rfl)) (sa_cons (se_var (i := 1) rfl (.inl rfl)) (sa_cons (se_var (i := 2) rfl (.inl rfl)) (sa_cons (se_ix ir_seq (se_var (i := 4) rfl (.inl rfl)) (se_una ur_neg se_int)) sa_nil))))) sa_nil))))) (sb_cons (ss_set (i := 5) sc_together.nd rfl (.inl rfl) (se_met PySem.F.slot_list_index PySem.F.type_list_index (mr_index (u65 hr)) (se_var (i := 4) rfl (.inl rfl)) (sa_cons (se_ix ir_seq (se_var (i := 4) rfl (.inl rfl)) (se_una ur_neg se_int)) sa_nil))) (sb_one (ss_ret (se_tup (sa_cons (se_callTy cr_tuple rfl g.z_tuple bt_tuple (sa_cons (se_sl (se_var (i := 4) rfl (.inl rfl)) so_none (so_some (se_var (i := 5) rfl (.inl rfl)))) sa_nil)) (sa_cons (se_callTy cr_tuple rfl g.z_tuple bt_tuple (sa_cons (se_sl (se_var (i := 4) rfl (.inl rfl)) (so_some (se_var (i := 5) rfl (.inl rfl))) (so_some (se_una ur_neg se_int))) sa_nil)) sa_nil))))))))))))
theorem sc__law_pot : FnScope ["script", "place", "cell", "own", "small"] ["script", "place"] (defScope (topS 30)) := ⟨rfl, rfl, rfl, by decide +kernel, rfl, by decide +kernel, by decide +kernel⟩
def m__law_pot : List MV → M MV := defM 2 5 (sSeq (sSet 2 (iff (tst (bin ltM (var 1) (callE lenM (aCons (var 0) aNil)))) (bin ixM (var 0) (var 1)) (bin (addM false) (bin (addM false) (bin modM (callE sumM (aCons (slE false (var 0) oNone (oSome (con (.int 1)))) aNil)) (con (.int 1000003))) (bin (mulM false) (con (.int 7112)) (var 1))) (con (.int 6471))))) (sSeq (sSet 3 (bin (mulM false) (bin modM (callE intM (aCons (callE absM (aCons (var 2) aNil)) aNil)) (bin powM (bin powM (con (.int 10)) (con (.int 60))) (con (.int 5)))) (callE intM (aCons (bin geM (callE absM (aCons (var 2) aNil)) (bin powM (con (.int 10)) (con (.int 18)))) aNil)))) (sSeq (sSet 4 (bin modM (callE intM (aCons (var 2) aNil)) (con (.int 2305843009213693951)))) (sRet (lstD true (aCons (var 3) (aCons (bin modM (callE intM (aCons (bin (addM false) (bin (addM false) (bin (mulM false) (var 4) (con (.int 105020))) (bin (mulM false) (bin (mulM false) (con (.int 8674)) (var 1)) (var 1))) (con (.int 122))) aNil)) (con (.int 2305843009213693921))) (aCons (con (.int 0)) aNil))))))))
theorem ok__law_pot (g : Mg P w K mg base) : FnS P w K mg base cvG 1 g.f__law_pot m__law_pot := by
  obtain ⟨fd, F⟩ := g.e__law_pot
  exact fnS_of (k := 0) (ps := ["script", "place"]) F sc__law_pot (F.binds fun _ _ _ _ _ _ us hl => match us, hl with | [_, _], _ => rfl) fun cdv A outer s H E hr gd =>
    (sb_cons (ss_set (i := 2) sc__law_pot.nd rfl (.inl rfl) (se_iff (st_cmp (or_lt (u0 hr)) (se_var (i := 1) rfl (.inl rfl)) (se_callB cr_len rfl g.z_len bt_len (sa_cons (se_var (i := 0) rfl (.inl rfl)) sa_nil)) (nomark _)) (se_ix ir_seq (se_var (i := 0) rfl (.inl rfl)) (se_var (i := 1) rfl (.inl rfl))) (se_bin or_add (se_bin or_add (se_bin or_mod (se_callB (cr_sumM rfl) rfl g.z_sum bt_sum (sa_cons (se_sl (se_var (i := 0) rfl (.inl rfl)) so_none (so_some se_int)) sa_nil)) se_int) (se_bin or_mul se_int (se_var (i := 1) rfl (.inl rfl)))) se_int))) (sb_cons (ss_set (i := 3) sc__law_pot.nd rfl (.inl rfl) (se_bin or_mul (se_bin or_mod (se_callTy cr_int rfl g.z_int bt_int (sa_cons (se_callB cr_abs rfl g.z_abs bt_abs (sa_cons (se_var (i := 2) rfl (.inl rfl)) sa_nil)) sa_nil)) (se_bin or_pow (se_bin or_pow se_int se_int) se_int)) (se_callTy cr_int rfl g.z_int bt_int (sa_cons (se_cmp or_ge (se_callB cr_abs rfl g.z_abs bt_abs (sa_cons (se_var (i := 2) rfl (.inl rfl)) sa_nil)) (se_bin or_pow se_int se_int) (nomark _)) sa_nil)))) (sb_cons (ss_set (i := 4) sc__law_pot.nd rfl (.inl rfl) (se_bin or_mod (se_callTy cr_int rfl g.z_int bt_int (sa_cons (se_var (i := 2) rfl (.inl rfl)) sa_nil)) se_int)) (sb_one (ss_ret (se_lst (sa_cons (se_var (i := 3) rfl (.inl rfl)) (sa_cons (se_bin or_mod (se_callTy cr_int rfl g.z_int bt_int (sa_cons (se_bin or_add (se_bin or_add (se_bin or_mul (se_var (i := 4) rfl (.inl rfl)) se_int) (se_bin or_mul (se_bin or_mul se_int (se_var (i := 1) rfl (.inl rfl))) (se_var (i := 1) rfl (.inl rfl)))) se_int) sa_nil)) se_int) (sa_cons se_int sa_nil)))))))))
theorem sc__law_take : FnScope ["pot", "upto", "digit", "prime", "blend"] ["pot", "upto"] (defScope (topS 31)) := ⟨rfl, rfl, rfl, by decide +kernel, rfl, by decide +kernel, by decide +kernel⟩
def m__law_take : List MV → M MV := defM 2 5 (sSeq (sIf (tst (bin gtM (bin ixM (var 0) (con (.int 0))) (con (.int 0)))) (sSeq (sSet 2 (bin modM (callE intM (aCons (bin ixM (var 0) (con (.int 0))) aNil)) (var 1))) (sSeq (sAsg (bin fdivM (bin ixM (var 0) (con (.int 0))) (var 1)) (gSub setM (var 0) (con (.int 0)))) (sRet (var 2)))) sNil) (sSeq (sAsg (bin (addM false) (bin ixM (var 0) (con (.int 2))) (con (.int 1))) (gSub setM (var 0) (con (.int 2)))) (sSeq (sSet 3 (bin ixM (lstD false (aCons (con (.int 2147483647)) (aCons (con (.int 2147483629)) (aCons (con (.int 2147483587)) (aCons (con (.int 2147483579)) (aCons (con (.int 2147483563)) aNil)))))) (bin modM (callE intM (aCons (bin ixM (var 0) (con (.int 2))) aNil)) (con (.int 5))))) (sSeq (sSet 4 (bin modM (callE intM (aCons (bin powM (callE intM (aCons (bin (addM false) (bin (addM false) (bin ixM (var 0) (con (.int 1))) (bin (mulM false) (bin (mulM false) (con (.int 98306)) (bin ixM (var 0) (con (.int 2)))) (bin ixM (var 0) (con (.int 2))))) (con (.int 56))) aNil)) (con (.int 3))) aNil)) (var 3))) (sSeq (sSet 4 (bin modM (callE intM (aCons (bin (mulM false) (var 4) (bin (addM false) (bin modM (callE intM (aCons (var 4) aNil)) (con (.int 10013))) (bin (mulM false) (con (.int 106)) (bin ixM (var 0) (con (.int 2)))))) aNil)) (con (.int 2305843009213693907)))) (sRet (bin modM (callE intM (aCons (bin fdivM (var 4) (con (.int 133))) aNil)) (var 1))))))))
theorem ok__law_take (g : Mg P w K mg base) : FnS P w K mg base cvG 1 g.f__law_take m__law_take := by
  obtain ⟨fd, F⟩ := g.e__law_take
  exact fnS_of (k := 0) (ps := ["pot", "upto"]) F sc__law_take (F.binds fun _ _ _ _ _ _ us hl => match us, hl with | [_, _], _ => rfl) fun cdv A outer s H E hr gd =>
    (sb_cons (ss_if (st_cmp or_gt (se_ix ir_seq (se_var (i := 0) rfl (.inl rfl)) se_int) se_int (nomark _)) (sb_cons (ss_set (i := 2) sc__law_take.nd rfl (.inl rfl) (se_bin or_mod (se_callTy cr_int rfl g.z_int bt_int (sa_cons (se_ix ir_seq (se_var (i := 0) rfl (.inl rfl)) se_int) sa_nil)) (se_var (i := 1) rfl (.inl rfl)))) (sb_cons (ss_asg (own := []) (se_bin or_fdiv (se_ix ir_seq (se_var (i := 0) rfl (.inl rfl)) se_int) (se_var (i := 1) rfl (.inl rfl))) (sg_sub (se_var (i := 0) rfl (.inl rfl)) se_int (fun _ => rfl))) (sb_one (ss_ret (se_var (i := 2) rfl (.inl rfl)))))) sb_nil) (sb_cons (ss_asg (own := []) (se_bin or_add (se_ix ir_seq (se_var (i := 0) rfl (.inl rfl)) se_int) se_int) (sg_sub (se_var (i := 0) rfl (.inl rfl)) se_int (fun _ => rfl))) (sb_cons (ss_set (i := 3) sc__law_take.nd rfl (.inl rfl) (se_ix ir_seq (se_lst (sa_cons se_int (sa_cons se_int (sa_cons se_int (sa_cons se_int (sa_cons se_int sa_nil)))))) (se_bin or_mod (se_callTy cr_int rfl g.z_int bt_int (sa_cons (se_ix ir_seq (se_var (i := 0) rfl (.inl rfl)) se_int) sa_nil)) se_int))) (sb_cons (ss_set (i := 4) sc__law_take.nd rfl (.inl rfl) (se_bin or_mod (se_callTy cr_int rfl g.z_int bt_int (sa_cons (se_bin or_pow (se_callTy cr_int rfl g.z_int bt_int (sa_cons (se_bin or_add (se_bin or_add (se_ix ir_seq (se_var (i := 0) rfl (.inl rfl)) se_int) (se_bin or_mul (se_bin or_mul se_int (se_ix ir_seq (se_var (i := 0) rfl (.inl rfl)) se_int)) (se_ix ir_seq (se_var (i := 0) rfl (.inl rfl)) se_int))) se_int) sa_nil)) se_int) sa_nil)) (se_var (i := 3) rfl (.inl rfl)))) (sb_cons (ss_set (i := 4) sc__law_take.nd rfl (.inl rfl) (se_bin or_mod (se_callTy cr_int rfl g.z_int bt_int (sa_cons (se_bin or_mul (se_var (i := 4) rfl (.inl rfl)) (se_bin or_add (se_bin or_mod (se_callTy cr_int rfl g.z_int bt_int (sa_cons (se_var (i := 4) rfl (.inl rfl)) sa_nil)) se_int) (se_bin or_mul se_int (se_ix ir_seq (se_var (i := 0) rfl (.inl rfl)) se_int)))) sa_nil)) se_int)) (sb_one (ss_ret (se_bin or_mod (se_callTy cr_int rfl g.z_int bt_int (sa_cons (se_bin or_fdiv (se_var (i := 4) rfl (.inl rfl)) se_int) sa_nil)) (se_var (i := 1) rfl (.inl rfl))))))))))
theorem sc__law_of : FnScope ["pot", "some"] ["pot", "some"] (defScope (topS 32)) := ⟨rfl, rfl, rfl, by decide +kernel, rfl, by decide +kernel, by decide +kernel⟩
def m__law_of : List MV → M MV := defM 2 2 (sRet (bin ixM (var 1) (callE m__law_take (aCons (var 0) (aCons (callE lenM (aCons (var 1) aNil)) aNil)))))
theorem ok__law_of (g : Mg P w K mg base) : FnS P w K mg base cvG 2 g.f__law_of m__law_of := by
  obtain ⟨fd, F⟩ := g.e__law_of
  exact fnS_of (k := 1) (ps := ["pot", "some"]) F sc__law_of (F.binds fun _ _ _ _ _ _ us hl => match us, hl with | [_, _], _ => rfl) fun cdv A outer s H E hr gd =>
    (sb_one (ss_ret (se_ix ir_seq (se_var (i := 1) rfl (.inl rfl)) (se_call ((ok__law_take g).mono (by decide)) hr gd rfl g.g__law_take g.k__law_take (lets_body (takes_of rfl rfl rfl rfl)) (sa_cons (se_var (i := 0) rfl (.inl rfl)) (sa_cons (se_callB cr_len rfl g.z_len bt_len (sa_cons (se_var (i := 1) rfl (.inl rfl)) sa_nil)) sa_nil))))))
theorem sc__law_cells : FnScope ["script", "limit"] ["script", "limit"] (defScope (topS 33)) := ⟨rfl, rfl, rfl, by decide +kernel, rfl, by decide +kernel, by decide +kernel⟩
def m__law_cells : List MV → M MV := defM 2 2 (sRet (rgE (some false) (con (.int 0)) (callE maxM (aCons (con (.int 1)) (aCons (callE minM (aCons (var 1) (aCons (callE lenM (aCons (var 0) aNil)) aNil))) aNil)))))
theorem ok__law_cells (g : Mg P w K mg base) : FnS P w K mg base cvG 1 g.f__law_cells m__law_cells := by
  obtain ⟨fd, F⟩ := g.e__law_cells
  exact fnS_of (k := 0) (ps := ["script", "limit"]) F sc__law_cells (F.binds fun _ _ _ _ _ _ us hl => match us, hl with | [_, _], _ => rfl) fun cdv A outer s H E hr gd =>
    (sb_one (ss_ret (se_listRg1 rfl rfl g.z_list rfl g.z_range (se_callB (cr_maxM rfl) rfl g.z_max bt_max (sa_cons se_int (sa_cons (se_callB (cr_minM rfl) rfl g.z_min bt_min (sa_cons (se_var (i := 1) rfl (.inl rfl)) (sa_cons (se_callB cr_len rfl g.z_len bt_len (sa_cons (se_var (i := 0) rfl (.inl rfl)) sa_nil)) sa_nil))) sa_nil))))))
theorem sc__law_odd : FnScope ["pot", "some"] ["pot"] (defScope (topS 35)) := ⟨rfl, rfl, rfl, by decide +kernel, rfl, by decide +kernel, by decide +kernel⟩
def m__law_odd : List MV → M MV := defM 1 2 (sSeq (sSet 1 (lstD false (aCons (con .non) (aCons (con (.bl true)) (aCons (con (.bl false)) (aCons (con (.int 0)) (aCons (con (.int 1)) (aCons (una negM (con (.int 1))) (aCons (con (.int 2)) (aCons (con (.int 1001)) (aCons (con (.str "")) (aCons (con (.str "a")) (aCons (con (.str "map")) (aCons (con (.str "to")) (aCons (tupD aNil) (aCons (lstD false aNil) (aCons (tupD (aCons (con (.int 0)) aNil)) (aCons (tupD (aCons (tupD aNil) aNil)) (aCons (lstD false (aCons (con (.int 1)) aNil)) (aCons (tupD (aCons (con (.bl true)) aNil)) (aCons (tupD (aCons (con .non) aNil)) aNil))))))))))))))))))))) (sSeq (sSet 1 (bin (addM false) (var 1) (lstD false (aCons (tupD (aCons (con (.str "a")) aNil)) (aCons (tupD (aCons (tupD (aCons (con (.int 0)) aNil)) (aCons (tupD aNil) aNil))) (aCons (tupD (aCons (con (.int 7)) aNil)) (aCons (tupD (aCons (con (.int 0)) (aCons (lstD false (aCons (con (.int 0)) aNil)) aNil))) (aCons (tupD (aCons (tupD (aCons (con (.int 0)) aNil)) (aCons (tupD (aCons (tupD (aCons (con (.int 0)) (aCons (con (.int 1)) aNil))) aNil)) aNil))) (aCons (lstD false (aCons (tupD (aCons (con (.int 0)) aNil)) (aCons (tupD (aCons (tupD (aCons (con (.int 0)) (aCons (con (.int 0)) aNil))) aNil)) aNil))) (aCons (con (.str "map 0")) (aCons (bin powM (con (.int 10)) (con (.int 20))) aNil))))))))))) (sRet (callE m__law_of (aCons (var 0) (aCons (var 1) aNil))))))
theorem ok__law_odd (g : Mg P w K mg base) : FnS P w K mg base cvG 3 g.f__law_odd m__law_odd := by
  obtain ⟨fd, F⟩ := g.e__law_odd
  exact fnS_of (k := 2) (ps := ["pot"]) F sc__law_odd (F.binds fun _ _ _ _ _ _ us hl => match us, hl with | [_], _ => rfl) fun cdv A outer s H E hr gd =>
    (sb_cons (ss_set (i := 1) sc__law_odd.nd rfl (.inl rfl) (se_lst (sa_cons se_non (sa_cons se_bl (sa_cons se_bl (sa_cons se_int (sa_cons se_int (sa_cons (se_una ur_neg se_int) (sa_cons se_int (sa_cons se_int (sa_cons se_str (sa_cons se_str (sa_cons se_str (sa_cons se_str (sa_cons (se_tup sa_nil) (sa_cons (se_lst sa_nil) (sa_cons (se_tup (sa_cons se_int sa_nil)) (sa_cons (se_tup (sa_cons (se_tup sa_nil) sa_nil)) (sa_cons (se_lst (sa_cons se_int sa_nil)) (sa_cons (se_tup (sa_cons se_bl sa_nil)) (sa_cons (se_tup (sa_cons se_non sa_nil)) sa_nil))))))))))))))))))))) (sb_cons (ss_set (i := 1) sc__law_odd.nd rfl (.inl rfl) (se_bin or_add (se_var (i := 1) rfl (.inl rfl)) (se_lst (sa_cons (se_tup (sa_cons se_str sa_nil)) (sa_cons (se_tup (sa_cons (se_tup (sa_cons se_int sa_nil)) (sa_cons (se_tup sa_nil) sa_nil))) (sa_cons (se_tup (sa_cons se_int sa_nil)) (sa_cons (se_tup (sa_cons se_int (sa_cons (se_lst (sa_cons se_int sa_nil)) sa_nil))) (sa_cons (se_tup (sa_cons (se_tup (sa_cons se_int sa_nil)) (sa_cons (se_tup (sa_cons (se_tup (sa_cons se_int (sa_cons se_int sa_nil))) sa_nil)) sa_nil))) (sa_cons (se_lst (sa_cons (se_tup (sa_cons se_int sa_nil)) (sa_cons (se_tup (sa_cons (se_tup (sa_cons se_int (sa_cons se_int sa_nil))) sa_nil)) sa_nil))) (sa_cons se_str (sa_cons (se_bin or_pow se_int se_int) sa_nil))))))))))) (sb_one (ss_ret (se_call ((ok__law_of g).mono (by decide)) hr gd rfl g.g__law_of g.k__law_of (lets_body (takes_of rfl rfl rfl rfl)) (sa_cons (se_var (i := 0) rfl (.inl rfl)) (sa_cons (se_var (i := 1) rfl (.inl rfl)) sa_nil)))))))
theorem sc__law_is_int : FnScope ["value", "low", "high"] ["value", "low", "high"] (defScope (topS 36)) := ⟨rfl, rfl, rfl, by decide +kernel, rfl, by decide +kernel, by decide +kernel⟩
def m__law_is_int : List MV → M MV := defM 3 3 (sRet (eAnd (una (isTM "int") (var 0)) (eAnd (eNot (una (isTM "bool") (var 0))) (chn leM leM (var 1) (var 0) (var 2)))))
theorem ok__law_is_int (g : Mg P w K mg base) : FnS P w K mg base cvG 1 g.f__law_is_int m__law_is_int := by
  obtain ⟨fd, F⟩ := g.e__law_is_int
  exact fnS_of (k := 0) (ps := ["value", "low", "high"]) F sc__law_is_int (F.binds fun _ _ _ _ _ _ us hl => match us, hl with | [_, _, _], _ => rfl) fun cdv A outer s H E hr gd =>
    (sb_one (ss_ret (se_and (se_isT (T := "int") g.er (by decide) rfl g.z_isinstance rfl g.z_int bt_int (se_var (i := 0) rfl (.inl rfl))) (se_and (se_not (se_isT (T := "bool") g.er (by decide) rfl g.z_isinstance rfl g.z_bool bt_bool (se_var (i := 0) rfl (.inl rfl)))) (se_one (se_chain or_le or_le (se_var (i := 1) rfl (.inl rfl)) (se_var (i := 0) rfl (.inl rfl)) (se_var (i := 2) rfl (.inl rfl))))))))
theorem sc__law_bent : FnScope ["pot", "value", "at", "some"] ["pot", "value"] (defScope (topS 37)) := ⟨rfl, rfl, rfl, by decide +kernel, rfl, by decide +kernel, by decide +kernel⟩
def m__law_bent : Nat → List MV → M MV
  | 0 => fun _ => M.stuck
  | n + 1 => defM 2 4 (sSeq (sIf (bAnd (tst (una (isTM "tuple") (var 1))) (bAnd (tst (bin (eqM true) (var 1) (tupD aNil))) (tst (bin gtM (callE m__law_take (aCons (var 0) (aCons (con (.int 5)) aNil))) (con (.int 0)))))) (sSeq (sSet 2 (callE m__law_take (aCons (var 0) (aCons (callE lenM (aCons (var 1) aNil)) aNil)))) (sRet (bin (addM false) (bin (addM false) (slE false (var 1) oNone (oSome (var 2))) (tupD (aCons (callE (m__law_bent n) (aCons (var 0) (aCons (bin ixM (var 1) (var 2)) aNil))) aNil))) (slE false (var 1) (oSome (bin (addM false) (var 2) (con (.int 1)))) oNone)))) sNil) (sSeq (sIf (tst (una (isTM "tuple") (var 1))) (sRet (callE m__law_of (aCons (var 0) (aCons (lstD false (aCons (callE (listM false) (aCons (var 1) aNil)) (aCons (slE false (var 1) (oSome (con (.int 1))) oNone) (aCons (slE false (var 1) oNone (oSome (una negM (con (.int 1))))) (aCons (bin (addM false) (var 1) (slE false (var 1) (oSome (una negM (con (.int 1)))) oNone)) (aCons (una (revX false) (var 1)) (aCons (tupD aNil) (aCons (con .non) aNil)))))))) aNil)))) sNil) (sSeq (sIf (tst (una (isTM "bool") (var 1))) (sRet (callE m__law_of (aCons (var 0) (aCons (lstD false (aCons (eNot (var 1)) (aCons (callE intM (aCons (var 1) aNil)) (aCons (con .non) aNil)))) aNil)))) sNil) (sSeq (sIf (tst (una (isTM "int") (var 1))) (sRet (callE m__law_of (aCons (var 0) (aCons (lstD false (aCons (bin (addM false) (var 1) (con (.int 1))) (aCons (bin subM (var 1) (con (.int 1))) (aCons (una negM (var 1)) (aCons (callE strM (aCons (var 1) aNil)) (aCons (con .non) (aCons (bin (eqM false) (var 1) (con (.int 1))) (aCons (tupD (aCons (var 1) aNil)) aNil)))))))) aNil)))) sNil) (sSeq (sIf (tst (una (isTM "str") (var 1))) (sSeq (sSet 3 (lstD false (aCons (bin (addM false) (var 1) (con (.str "a"))) (aCons (slE false (var 1) oNone (oSome (una negM (con (.int 1))))) (aCons eStk (aCons (lstD false (aCons (var 1) aNil)) (aCons (con (.str "a")) (aCons (con .non) (aCons (con (.int 0)) (aCons (con (.str "")) (aCons (bin (addM false) (con (.str "b")) (var 1)) (aCons (bin (addM false) (var 1) (con (.str "/"))) aNil)))))))))))) (sRet (callE m__law_of (aCons (var 0) (aCons (var 3) aNil))))) sNil) (sRet (callE m__law_odd (aCons (var 0) aNil))))))))
theorem ok__law_bent (g : Mg P w K mg base) : ∀ n : Nat, FnS P w K mg base cvG (4 + n) g.f__law_bent (m__law_bent n)
  | 0 => fnS_stuck
  | n + 1 => by
    have ih := ok__law_bent g n
    obtain ⟨fd, F⟩ := g.e__law_bent
    exact fnS_of (k := 4 + n) (ps := ["pot", "value"]) F sc__law_bent (F.binds fun _ _ _ _ _ _ us hl => match us, hl with | [_, _], _ => rfl) fun cdv A outer s H E hr gd =>
      (sb_cons (ss_if (st_w (sw_and (st_val (se_isT (T := "tuple") g.er (by decide) rfl g.z_isinstance rfl g.z_tuple bt_tuple (se_var (i := 1) rfl (.inl rfl)))) (sw_and (st_cmp (or_ne (u64 hr)) (se_var (i := 1) rfl (.inl rfl)) (se_tup sa_nil) (nomark _)) (sw_and1 (st_cmp or_gt (se_call ((ok__law_take g).mono (by omega)) hr gd rfl g.g__law_take g.k__law_take (lets_body (takes_of rfl rfl rfl rfl)) (sa_cons (se_var (i := 0) rfl (.inl rfl)) (sa_cons se_int sa_nil))) se_int (nomark _)))))) (sb_cons (ss_set (i := 2) sc__law_bent.nd rfl (.inl rfl) (se_call ((ok__law_take g).mono (by omega)) hr gd rfl g.g__law_take g.k__law_take (lets_body (takes_of rfl rfl rfl rfl)) (sa_cons (se_var (i := 0) rfl (.inl rfl)) (sa_cons (se_callB cr_len rfl g.z_len bt_len (sa_cons (se_var (i := 1) rfl (.inl rfl)) sa_nil)) sa_nil)))) (sb_one (ss_ret (se_bin or_add (se_bin or_add (se_sl (se_var (i := 1) rfl (.inl rfl)) so_none (so_some (se_var (i := 2) rfl (.inl rfl)))) (se_tup (sa_cons (se_call ih hr gd rfl g.g__law_bent g.k__law_bent (lets_body (takes_of rfl rfl rfl rfl)) (sa_cons (se_var (i := 0) rfl (.inl rfl)) (sa_cons (se_ix ir_seq (se_var (i := 1) rfl (.inl rfl)) (se_var (i := 2) rfl (.inl rfl))) sa_nil))) sa_nil))) (se_sl (se_var (i := 1) rfl (.inl rfl)) (so_some (se_bin or_add (se_var (i := 2) rfl (.inl rfl)) se_int)) so_none))))) sb_nil) (sb_cons (ss_if (st_val (se_isT (T := "tuple") g.er (by decide) rfl g.z_isinstance rfl g.z_tuple bt_tuple (se_var (i := 1) rfl (.inl rfl)))) (sb_one (ss_ret (se_call ((ok__law_of g).mono (by omega)) hr gd rfl g.g__law_of g.k__law_of (lets_body (takes_of rfl rfl rfl rfl)) (sa_cons (se_var (i := 0) rfl (.inl rfl)) (sa_cons (se_lst (sa_cons (se_callTy cr_list rfl g.z_list bt_list (sa_cons (se_var (i := 1) rfl (.inl rfl)) sa_nil)) (sa_cons (se_sl (se_var (i := 1) rfl (.inl rfl)) (so_some se_int) so_none) (sa_cons (se_sl (se_var (i := 1) rfl (.inl rfl)) so_none (so_some (se_una ur_neg se_int))) (sa_cons (se_bin or_add (se_var (i := 1) rfl (.inl rfl)) (se_sl (se_var (i := 1) rfl (.inl rfl)) (so_some (se_una ur_neg se_int)) so_none)) (sa_cons (se_revX (se_var (i := 1) rfl (.inl rfl))) (sa_cons (se_tup sa_nil) (sa_cons se_non sa_nil)))))))) sa_nil))))) sb_nil) (sb_cons (ss_if (st_val (se_isT (T := "bool") g.er (by decide) rfl g.z_isinstance rfl g.z_bool bt_bool (se_var (i := 1) rfl (.inl rfl)))) (sb_one (ss_ret (se_call ((ok__law_of g).mono (by omega)) hr gd rfl g.g__law_of g.k__law_of (lets_body (takes_of rfl rfl rfl rfl)) (sa_cons (se_var (i := 0) rfl (.inl rfl)) (sa_cons (se_lst (sa_cons (se_not (se_var (i := 1) rfl (.inl rfl))) (sa_cons (se_callTy cr_int rfl g.z_int bt_int (sa_cons (se_var (i := 1) rfl (.inl rfl)) sa_nil)) (sa_cons se_non sa_nil)))) sa_nil))))) sb_nil) (sb_cons (ss_if (st_val (se_isT (T := "int") g.er (by decide) rfl g.z_isinstance rfl g.z_int bt_int (se_var (i := 1) rfl (.inl rfl)))) (sb_one (ss_ret (se_call ((ok__law_of g).mono (by omega)) hr gd rfl g.g__law_of g.k__law_of (lets_body (takes_of rfl rfl rfl rfl)) (sa_cons (se_var (i := 0) rfl (.inl rfl)) (sa_cons (se_lst (sa_cons (se_bin or_add (se_var (i := 1) rfl (.inl rfl)) se_int) (sa_cons (se_bin or_sub (se_var (i := 1) rfl (.inl rfl)) se_int) (sa_cons (se_una ur_neg (se_var (i := 1) rfl (.inl rfl))) (sa_cons (se_callTy cr_str rfl g.z_str bt_str (sa_cons (se_var (i := 1) rfl (.inl rfl)) sa_nil)) (sa_cons se_non (sa_cons (se_cmp (or_eq (u64 hr)) (se_var (i := 1) rfl (.inl rfl)) se_int (nomark _)) (sa_cons (se_tup (sa_cons (se_var (i := 1) rfl (.inl rfl)) sa_nil)) sa_nil)))))))) sa_nil))))) sb_nil) (sb_cons (ss_if (st_val (se_isT (T := "str") g.er (by decide) rfl g.z_isinstance rfl g.z_str bt_str (se_var (i := 1) rfl (.inl rfl)))) (sb_cons (ss_set (i := 3) sc__law_bent.nd rfl (.inl rfl) (se_lst (sa_cons (se_bin or_add (se_var (i := 1) rfl (.inl rfl)) se_str) (sa_cons (se_sl (se_var (i := 1) rfl (.inl rfl)) so_none (so_some (se_una ur_neg se_int))) (sa_cons se_stk (sa_cons (se_lst (sa_cons (se_var (i := 1) rfl (.inl rfl)) sa_nil)) (sa_cons se_str (sa_cons se_non (sa_cons se_int (sa_cons se_str (sa_cons (se_bin or_add se_str (se_var (i := 1) rfl (.inl rfl))) (sa_cons (se_bin or_add (se_var (i := 1) rfl (.inl rfl)) se_str) sa_nil)))))))))))) (sb_one (ss_ret (se_call ((ok__law_of g).mono (by omega)) hr gd rfl g.g__law_of g.k__law_of (lets_body (takes_of rfl rfl rfl rfl)) (sa_cons (se_var (i := 0) rfl (.inl rfl)) (sa_cons (se_var (i := 3) rfl (.inl rfl)) sa_nil)))))) sb_nil) (sb_one (ss_ret (se_call ((ok__law_odd g).mono (by omega)) hr gd rfl g.g__law_odd g.k__law_odd (lets_body (takes_of rfl rfl rfl rfl)) (sa_cons (se_var (i := 0) rfl (.inl rfl)) sa_nil)))))))))
theorem sc__law_game : FnScope ["pot", "places", "wide", "many", "moves", "place", "some", "lap", "other"] ["pot", "places", "wide"] (defScope (topS 38)) := ⟨rfl, rfl, rfl, by decide +kernel, rfl, by decide +kernel, by decide +kernel⟩
def m__law_game : List MV → M MV := defM 3 9 (sSeq (sSet 3 (bin (addM false) (con (.int 1)) (callE m__law_take (aCons (var 0) (aCons (var 1) aNil))))) (sSeq (sSet 4 (lstD true aNil)) (sSeq (sFor (rngI (con (.int 0)) (var 3) (con (.int 1))) (gN 5) (sSeq (sSet 6 (comp false (rngI (con (.int 0)) (bin (addM false) (con (.int 1)) (callE m__law_take (aCons (var 0) (aCons (var 2) aNil)))) (con (.int 1))) (gN 7) bYes (callE m__law_take (aCons (var 0) (aCons (var 3) aNil))) [7])) (sExp (metL extM (var 4) (aCons (comp false (seqI (var 6)) (gN 8) bYes (tupD (aCons (var 5) (aCons (var 8) aNil))) [8]) aNil))))) (sRet (tupD (aCons (callE tupleM (aCons (comp false (rngI (con (.int 0)) (var 3) (con (.int 1))) (gN 7) bYes (callE m__law_take (aCons (var 0) (aCons (con (.int 2)) aNil))) [7]) aNil)) (aCons (callE tupleM (aCons (una (sSetT false) (var 4)) aNil)) aNil)))))))
theorem ok__law_game (g : Mg P w K mg base) : FnS P w K mg base cvG 2 g.f__law_game m__law_game := by
  obtain ⟨fd, F⟩ := g.e__law_game
  exact fnS_of (k := 1) (ps := ["pot", "places", "wide"]) F sc__law_game (F.binds fun _ _ _ _ _ _ us hl => match us, hl with | [_, _, _], _ => rfl) fun cdv A outer s H E hr gd =>
    (sb_cons (ss_set (i := 3) sc__law_game.nd rfl (.inr rfl) (se_bin or_add se_int (se_call ((ok__law_take g).mono (by decide)) hr gd rfl g.g__law_take g.k__law_take (lets_body (takes_of rfl rfl rfl rfl)) (sa_cons (se_var (i := 0) rfl (.inr (.inl rfl))) (sa_cons (se_var (i := 1) rfl (.inl rfl)) sa_nil))))) (sb_cons (ss_set (i := 4) sc__law_game.nd rfl (.inl rfl) (se_lst sa_nil)) (sb_cons (ss_for (own := [5]) (passes_of rfl) rfl (si_range1 rfl g.z_range (se_var (i := 3) rfl (.inr (.inl rfl)))) (sg_name (i := 5) (by decide) sc__law_game.nd rfl (.inr rfl)) (sb_cons (ss_setComp (own := [("lap", 7)]) rfl sc__law_game.nd (i := 6) rfl rfl (sw_true rfl rfl rfl (by decide +kernel)) (si_range1 rfl g.z_range (se_bin or_add se_int (se_call ((ok__law_take g).mono (by decide)) hr gd rfl g.g__law_take g.k__law_take (lets_body (takes_of rfl rfl rfl rfl)) (sa_cons (se_var (i := 0) rfl (.inr (.inl rfl))) (sa_cons (se_var (i := 2) rfl (.inl rfl)) sa_nil))))) (blk_by (N' := ["pot", "places", "wide", "many", "moves", "place", "some", "lap", "other"]) (sc' := defScope (topS 38)) rfl rfl (by decide +kernel)) (fun _ _ _ _ _ => (sg_name (i := 7) (by decide) sc__law_game.nd rfl (.inl rfl))) (fun _ _ _ _ _ => sts_nil) (fun _ _ _ _ _ => (se_call ((ok__law_take g).mono (by decide)) hr gd rfl g.g__law_take g.k__law_take lets_none (sa_cons (se_var (i := 0) rfl (.inr (.inl rfl))) (sa_cons (se_var (i := 3) rfl (.inr (.inl rfl))) sa_nil))))) (sb_one (ss_exp (se_met PySem.F.slot_list_extend PySem.F.type_list_extend mr_extend (se_var (i := 4) rfl (.inl rfl)) (sa_cons (se_comp (own := [("other", 8)]) rfl sc__law_game.nd (si_seq (se_var (i := 6) rfl (.inl rfl))) (blk_by (N' := ["pot", "places", "wide", "many", "moves", "place", "some", "lap", "other"]) (sc' := defScope (topS 38)) rfl rfl (by decide +kernel)) (fun _ _ _ _ _ => (sg_name (i := 8) (by decide) sc__law_game.nd rfl (.inl rfl))) (fun _ _ _ _ _ => sts_nil) (fun _ _ _ _ _ => (se_tup (sa_cons (se_var (i := 5) rfl (.inr (.inl rfl))) (sa_cons (se_var (i := 8) rfl (.inl rfl)) sa_nil))))) sa_nil)))))) (sb_one (ss_ret (se_tup (sa_cons (se_callTy cr_tuple rfl g.z_tuple bt_tuple (sa_cons (se_comp (own := [("lap", 7)]) rfl sc__law_game.nd (si_range1 rfl g.z_range (se_var (i := 3) rfl (.inr (.inl rfl)))) (blk_by (N' := ["pot", "places", "wide", "many", "moves", "place", "some", "lap", "other"]) (sc' := defScope (topS 38)) rfl rfl (by decide +kernel)) (fun _ _ _ _ _ => (sg_name (i := 7) (by decide) sc__law_game.nd rfl (.inl rfl))) (fun _ _ _ _ _ => sts_nil) (fun _ _ _ _ _ => (se_call ((ok__law_take g).mono (by decide)) hr gd rfl g.g__law_take g.k__law_take lets_none (sa_cons (se_var (i := 0) rfl (.inr (.inl rfl))) (sa_cons se_int sa_nil))))) sa_nil)) (sa_cons (se_callTy cr_tuple rfl g.z_tuple bt_tuple (sa_cons (se_sSetT rfl (u64 hr) rfl g.z_sorted rfl g.z_set (se_var (i := 4) rfl (.inl rfl))) sa_nil)) sa_nil))))))))
theorem sc__law_ways : FnScope ["game", "place", "one", "other"] ["game", "place"] (defScope (topS 39)) := ⟨rfl, rfl, rfl, by decide +kernel, rfl, by decide +kernel, by decide +kernel⟩
def m__law_ways : List MV → M MV := defM 2 4 (sRet (comp false (seqI (bin ixM (var 0) (con (.int 1)))) (gT 2 (gsCons (gN 2) (gsCons (gN 3) gsNil))) (tst (bin (eqM false) (var 2) (var 1))) (var 3) [2, 3]))
theorem ok__law_ways (g : Mg P w K mg base) : FnS P w K mg base cvG 1 g.f__law_ways m__law_ways := by
  obtain ⟨fd, F⟩ := g.e__law_ways
  exact fnS_of (k := 0) (ps := ["game", "place"]) F sc__law_ways (F.binds fun _ _ _ _ _ _ us hl => match us, hl with | [_, _], _ => rfl) fun cdv A outer s H E hr gd =>
    (sb_one (ss_ret (se_comp (own := [("one", 2), ("other", 3)]) rfl sc__law_ways.nd (si_seq (se_ix ir_seq (se_var (i := 0) rfl (.inl rfl)) se_int)) (blk_by (N' := ["game", "place", "one", "other"]) (sc' := defScope (topS 39)) rfl rfl (by decide +kernel)) (fun _ _ _ _ _ => (sg_tup rfl (sgs_cons (sg_name (i := 2) (by decide) sc__law_ways.nd rfl (.inl rfl)) (sgs_cons (sg_name (i := 3) (by decide) sc__law_ways.nd rfl (.inl rfl)) sgs_nil)))) (fun _ _ _ _ _ => (sts_one (st_cmp (or_eq (u64 hr)) (se_var (i := 2) rfl (.inl rfl)) (se_var (i := 1) rfl (.inr (.inl rfl))) (nomark _)))) (fun _ _ _ _ _ => (se_var (i := 3) rfl (.inl rfl))))))
theorem sc__law_together : FnScope ["game", "one", "other", "place", "row", "at"] ["game", "one", "other", "place"] (defScope (topS 40)) := ⟨rfl, rfl, rfl, by decide +kernel, rfl, by decide +kernel, by decide +kernel⟩
def m__law_together : List MV → M MV := defM 4 6 (sSeq (sSet 4 (lstD true (aCons (var 3) aNil))) (sSeq (sWhl (tst (bin (eqM false) (metL cntM (var 4) (aCons (bin ixM (var 4) (una negM (con (.int 1)))) aNil)) (con (.int 1)))) (sExp (metL appM (var 4) (aCons (iff (tst (bin (eqM false) (bin ixM (bin ixM (var 0) (con (.int 0))) (bin ixM (var 4) (una negM (con (.int 1))))) (con (.int 0)))) (bin ixM (var 1) (bin ixM (var 4) (una negM (con (.int 1))))) (bin ixM (var 2) (bin ixM (var 4) (una negM (con (.int 1)))))) aNil)))) (sSeq (sSet 5 (metL idxM (var 4) (aCons (bin ixM (var 4) (una negM (con (.int 1)))) aNil))) (sRet (tupD (aCons (callE tupleM (aCons (slE false (var 4) oNone (oSome (var 5))) aNil)) (aCons (callE tupleM (aCons (slE false (var 4) (oSome (var 5)) (oSome (una negM (con (.int 1))))) aNil)) aNil)))))))
theorem ok__law_together (g : Mg P w K mg base) : FnS P w K mg base cvG 1 g.f__law_together m__law_together := by
  obtain ⟨fd, F⟩ := g.e__law_together
  exact fnS_of (k := 0) (ps := ["game", "one", "other", "place"]) F sc__law_together (F.binds fun _ _ _ _ _ _ us hl => match us, hl with | [_, _, _, _], _ => rfl) fun cdv A outer s H E hr gd =>
    (sb_cons (ss_set (i := 4) sc__law_together.nd rfl (.inl rfl) (se_lst (sa_cons (se_var (i := 3) rfl (.inl rfl)) sa_nil))) (sb_cons (ss_whl (passes_of rfl) (st_cmp (or_eq (u64 hr)) (se_met PySem.F.slot_list_count PySem.F.type_list_count mr_count (se_var (i := 4) rfl (.inl rfl)) (sa_cons (se_ix ir_seq (se_var (i := 4) rfl (.inl rfl)) (se_una ur_neg se_int)) sa_nil)) se_int (nomark _)) (sb_one (ss_exp (se_met PySem.F.slot_list_append PySem.F.type_list_append mr_append (se_var (i := 4) rfl (.inl rfl)) (sa_cons (se_iff (st_cmp (or_eq (u64 hr)) (se_ix ir_seq (se_ix ir_seq (se_var (i := 0) rfl (.inl rfl)) se_int) (se_ix ir_seq (se_var (i := 4) rfl (.inl rfl)) (se_una ur_neg se_int))) se_int (nomark _)) (se_ix ir_seq (se_var (i := 1) rfl (.inl rfl)) (se_ix ir_seq (se_var (i := 4) rfl (.inl rfl)) (se_una ur_neg se_int))) (se_ix ir_seq (se_var (i := 2) rfl (.inl rfl)) (se_ix ir_seq (se_var (i := 4) rfl (.inl rfl)) (se_una ur_neg se_int)))) sa_nil))))) (sb_cons (ss_set (i := 5) sc__law_together.nd rfl (.inl rfl) (se_met PySem.F.slot_list_index PySem.F.type_list_index (mr_index (u65 hr)) (se_var (i := 4) rfl (.inl rfl)) (sa_cons (se_ix ir_seq (se_var (i := 4) rfl (.inl rfl)) (se_una ur_neg se_int)) sa_nil))) (sb_one (ss_ret (se_tup (sa_cons (se_callTy cr_tuple rfl g.z_tuple bt_tuple (sa_cons (se_sl (se_var (i := 4) rfl (.inl rfl)) so_none (so_some (se_var (i := 5) rfl (.inl rfl)))) sa_nil)) (sa_cons (se_callTy cr_tuple rfl g.z_tuple bt_tuple (sa_cons (se_sl (se_var (i := 4) rfl (.inl rfl)) (so_some (se_var (i := 5) rfl (.inl rfl))) (so_some (se_una ur_neg se_int))) sa_nil)) sa_nil))))))))
theorem sc__law_is_plan : FnScope ["game", "who", "value", "place", "owner"] ["game", "who", "value"] (defScope (topS 41)) := ⟨rfl, rfl, rfl, by decide +kernel, rfl, by decide +kernel, by decide +kernel⟩
def m__law_is_plan : List MV → M MV := defM 3 5 (sSeq (sIf (bOr (bNot (tst (una (isTM "tuple") (var 2)))) (tst (bin (eqM true) (callE lenM (aCons (var 2) aNil)) (callE lenM (aCons (bin ixM (var 0) (con (.int 0))) aNil))))) (sRet (con (.bl false))) sNil) (sSeq (sFor (enumI (bin ixM (var 0) (con (.int 0)))) (gT 2 (gsCons (gN 3) (gsCons (gN 4) gsNil))) (sSeq (sIf (bAnd (tst (bin (eqM true) (var 4) (var 1))) (tst (bin (isM true) (bin ixM (var 2) (var 3)) (con .non)))) (sRet (con (.bl false))) sNil) (sIf (bAnd (tst (bin (eqM false) (var 4) (var 1))) (bNot (bAnd (tst (callE m__law_is_int (aCons (bin ixM (var 2) (var 3)) (aCons (con (.int 0)) (aCons (con (.int 99)) aNil))))) (tst (bin (inC false) (bin ixM (var 2) (var 3)) (callE m__law_ways (aCons (var 0) (aCons (var 3) aNil)))))))) (sRet (con (.bl false))) sNil))) (sRet (con (.bl true)))))
theorem ok__law_is_plan (g : Mg P w K mg base) : FnS P w K mg base cvG 2 g.f__law_is_plan m__law_is_plan := by
  obtain ⟨fd, F⟩ := g.e__law_is_plan
  exact fnS_of (k := 1) (ps := ["game", "who", "value"]) F sc__law_is_plan (F.binds fun _ _ _ _ _ _ us hl => match us, hl with | [_, _, _], _ => rfl) fun cdv A outer s H E hr gd =>
    (sb_cons (ss_if (st_w (sw_or (st_not (st_val (se_isT (T := "tuple") g.er (by decide) rfl g.z_isinstance rfl g.z_tuple bt_tuple (se_var (i := 2) rfl (.inl rfl))))) (sw_or1 (st_cmp (or_ne (u64 hr)) (se_callB cr_len rfl g.z_len bt_len (sa_cons (se_var (i := 2) rfl (.inl rfl)) sa_nil)) (se_callB cr_len rfl g.z_len bt_len (sa_cons (se_ix ir_seq (se_var (i := 0) rfl (.inl rfl)) se_int) sa_nil)) (nomark _))))) (sb_one (ss_ret se_bl)) sb_nil) (sb_cons (ss_for (own := [3, 4]) (passes_of rfl) rfl (si_enum rfl g.z_enumerate (se_ix ir_seq (se_var (i := 0) rfl (.inl rfl)) se_int)) (sg_tup rfl (sgs_cons (sg_name (i := 3) (by decide) sc__law_is_plan.nd rfl (.inl rfl)) (sgs_cons (sg_name (i := 4) (by decide) sc__law_is_plan.nd rfl (.inl rfl)) sgs_nil))) (sb_cons (ss_if (st_w (sw_and (st_cmp (or_ne (u64 hr)) (se_var (i := 4) rfl (.inl rfl)) (se_var (i := 1) rfl (.inl rfl)) (nomark _)) (sw_and1 (st_cmp or_isnot (se_ix ir_seq (se_var (i := 2) rfl (.inl rfl)) (se_var (i := 3) rfl (.inl rfl))) se_non (nomark _))))) (sb_one (ss_ret se_bl)) sb_nil) (sb_one (ss_if (st_w (sw_and (st_cmp (or_eq (u64 hr)) (se_var (i := 4) rfl (.inl rfl)) (se_var (i := 1) rfl (.inl rfl)) (nomark _)) (sw_and1 (st_not (st_w (sw_and (st_val (se_call ((ok__law_is_int g).mono (by decide)) hr gd rfl g.g__law_is_int g.k__law_is_int (lets_body (takes_of rfl rfl rfl rfl)) (sa_cons (se_ix ir_seq (se_var (i := 2) rfl (.inl rfl)) (se_var (i := 3) rfl (.inl rfl))) (sa_cons se_int (sa_cons se_int sa_nil))))) (sw_and1 (st_cmp (or_inC (u65 hr)) (se_ix ir_seq (se_var (i := 2) rfl (.inl rfl)) (se_var (i := 3) rfl (.inl rfl))) (se_call ((ok__law_ways g).mono (by decide)) hr gd rfl g.g__law_ways g.k__law_ways (lets_body (takes_of rfl rfl rfl rfl)) (sa_cons (se_var (i := 0) rfl (.inl rfl)) (sa_cons (se_var (i := 3) rfl (.inl rfl)) sa_nil))) (by with_unfolding_all rfl))))))))) (sb_one (ss_ret se_bl)) sb_nil)))) (sb_one (ss_ret se_bl))))
theorem sc__law_is_play : FnScope ["game", "value", "place", "one", "other"] ["game", "value"] (defScope (topS 42)) := ⟨rfl, rfl, rfl, by decide +kernel, rfl, by decide +kernel, by decide +kernel⟩
def m__law_is_play : List MV → M MV := defM 2 5 (sSeq (sIf (bOr (bNot (tst (una (isTM "tuple") (var 1)))) (bNot (tst (chn leM leM (con (.int 1)) (callE lenM (aCons (var 1) aNil)) (con (.int 1000)))))) (sRet (con (.bl false))) sNil) (sSeq (sIf (bNot (tst (callE allM (aCons (comp false (seqI (var 1)) (gN 2) bYes (callE m__law_is_int (aCons (var 2) (aCons (con (.int 0)) (aCons (bin subM (callE lenM (aCons (bin ixM (var 0) (con (.int 0))) aNil)) (con (.int 1))) aNil)))) [2]) aNil)))) (sRet (con (.bl false))) sNil) (sRet (callE allM (aCons (comp false (zipI (var 1) (slE false (var 1) (oSome (con (.int 1))) oNone)) (gT 2 (gsCons (gN 3) (gsCons (gN 4) gsNil))) bYes (bin (inC false) (var 4) (callE m__law_ways (aCons (var 0) (aCons (var 3) aNil)))) [3, 4]) aNil)))))
theorem ok__law_is_play (g : Mg P w K mg base) : FnS P w K mg base cvG 2 g.f__law_is_play m__law_is_play := by
  obtain ⟨fd, F⟩ := g.e__law_is_play
  exact fnS_of (k := 1) (ps := ["game", "value"]) F sc__law_is_play (F.binds fun _ _ _ _ _ _ us hl => match us, hl with | [_, _], _ => rfl) fun cdv A outer s H E hr gd =>
    (sb_cons (ss_if (st_w (sw_or (st_not (st_val (se_isT (T := "tuple") g.er (by decide) rfl g.z_isinstance rfl g.z_tuple bt_tuple (se_var (i := 1) rfl (.inl rfl))))) (sw_or1 (st_not (st_chain or_le or_le se_int (se_callB cr_len rfl g.z_len bt_len (sa_cons (se_var (i := 1) rfl (.inl rfl)) sa_nil)) se_int))))) (sb_one (ss_ret se_bl)) sb_nil) (sb_cons (ss_if (st_not (st_val (se_callB (cr_allM rfl) rfl g.z_all bt_all (sa_cons (se_comp (own := [("place", 2)]) rfl sc__law_is_play.nd (si_seq (se_var (i := 1) rfl (.inl rfl))) (blk_by (N' := ["game", "value", "place", "one", "other"]) (sc' := defScope (topS 42)) rfl rfl (by decide +kernel)) (fun _ _ _ _ _ => (sg_name (i := 2) (by decide) sc__law_is_play.nd rfl (.inl rfl))) (fun _ _ _ _ _ => sts_nil) (fun _ _ _ _ _ => (se_call ((ok__law_is_int g).mono (by decide)) hr gd rfl g.g__law_is_int g.k__law_is_int lets_none (sa_cons (se_var (i := 2) rfl (.inl rfl)) (sa_cons se_int (sa_cons (se_bin or_sub (se_callB cr_len rfl g.z_len bt_len (sa_cons (se_ix ir_seq (se_var (i := 0) rfl (.inr (.inl rfl))) se_int) sa_nil)) se_int) sa_nil)))))) sa_nil)))) (sb_one (ss_ret se_bl)) sb_nil) (sb_one (ss_ret (se_callB (cr_allM rfl) rfl g.z_all bt_all (sa_cons (se_comp (own := [("one", 3), ("other", 4)]) rfl sc__law_is_play.nd (si_zip rfl g.z_zip (se_var (i := 1) rfl (.inl rfl)) (se_sl (se_var (i := 1) rfl (.inl rfl)) (so_some se_int) so_none)) (blk_by (N' := ["game", "value", "place", "one", "other"]) (sc' := defScope (topS 42)) rfl rfl (by decide +kernel)) (fun _ _ _ _ _ => (sg_tup rfl (sgs_cons (sg_name (i := 3) (by decide) sc__law_is_play.nd rfl (.inl rfl)) (sgs_cons (sg_name (i := 4) (by decide) sc__law_is_play.nd rfl (.inl rfl)) sgs_nil)))) (fun _ _ _ _ _ => sts_nil) (fun _ _ _ _ _ => (se_cmp (or_inC (u65 hr)) (se_var (i := 4) rfl (.inl rfl)) (se_call ((ok__law_ways g).mono (by decide)) hr gd rfl g.g__law_ways g.k__law_ways lets_none (sa_cons (se_var (i := 0) rfl (.inr (.inl rfl))) (sa_cons (se_var (i := 3) rfl (.inl rfl)) sa_nil))) (by with_unfolding_all rfl)))) sa_nil))))))
theorem sc__law_plan : FnScope ["pot", "game", "who", "found", "place", "owner"] ["pot", "game", "who"] (defScope (topS 43)) := ⟨rfl, rfl, rfl, by decide +kernel, rfl, by decide +kernel, by decide +kernel⟩
def m__law_plan : List MV → M MV := defM 3 6 (sSeq (sSet 3 (lstD true aNil)) (sSeq (sFor (enumI (bin ixM (var 1) (con (.int 0)))) (gT 2 (gsCons (gN 4) (gsCons (gN 5) gsNil))) (sExp (metL appM (var 3) (aCons (iff (tst (bin (eqM false) (var 5) (var 2))) (callE m__law_of (aCons (var 0) (aCons (callE m__law_ways (aCons (var 1) (aCons (var 4) aNil))) aNil))) (con .non)) aNil)))) (sRet (callE tupleM (aCons (var 3) aNil)))))
theorem ok__law_plan (g : Mg P w K mg base) : FnS P w K mg base cvG 3 g.f__law_plan m__law_plan := by
  obtain ⟨fd, F⟩ := g.e__law_plan
  exact fnS_of (k := 2) (ps := ["pot", "game", "who"]) F sc__law_plan (F.binds fun _ _ _ _ _ _ us hl => match us, hl with | [_, _, _], _ => rfl) fun cdv A outer s H E hr gd =>
    (sb_cons (ss_set (i := 3) sc__law_plan.nd rfl (.inl rfl) (se_lst sa_nil)) (sb_cons (ss_for (own := [4, 5]) (passes_of rfl) rfl (si_enum rfl g.z_enumerate (se_ix ir_seq (se_var (i := 1) rfl (.inl rfl)) se_int)) (sg_tup rfl (sgs_cons (sg_name (i := 4) (by decide) sc__law_plan.nd rfl (.inl rfl)) (sgs_cons (sg_name (i := 5) (by decide) sc__law_plan.nd rfl (.inl rfl)) sgs_nil))) (sb_one (ss_exp (se_met PySem.F.slot_list_append PySem.F.type_list_append mr_append (se_var (i := 3) rfl (.inl rfl)) (sa_cons (se_iff (st_cmp (or_eq (u64 hr)) (se_var (i := 5) rfl (.inl rfl)) (se_var (i := 2) rfl (.inl rfl)) (nomark _)) (se_call ((ok__law_of g).mono (by decide)) hr gd rfl g.g__law_of g.k__law_of (lets_body (takes_of rfl rfl rfl rfl)) (sa_cons (se_var (i := 0) rfl (.inl rfl)) (sa_cons (se_call ((ok__law_ways g).mono (by decide)) hr gd rfl g.g__law_ways g.k__law_ways (lets_body (takes_of rfl rfl rfl rfl)) (sa_cons (se_var (i := 1) rfl (.inl rfl)) (sa_cons (se_var (i := 4) rfl (.inl rfl)) sa_nil))) sa_nil))) se_non) sa_nil))))) (sb_one (ss_ret (se_callTy cr_tuple rfl g.z_tuple bt_tuple (sa_cons (se_var (i := 3) rfl (.inl rfl)) sa_nil))))))
theorem sc__law_play : FnScope ["pot", "game", "most", "found", "lap"] ["pot", "game", "most"] (defScope (topS 44)) := ⟨rfl, rfl, rfl, by decide +kernel, rfl, by decide +kernel, by decide +kernel⟩
def m__law_play : List MV → M MV := defM 3 5 (sSeq (sSet 3 (lstD true (aCons (callE m__law_take (aCons (var 0) (aCons (callE lenM (aCons (bin ixM (var 1) (con (.int 0))) aNil)) aNil))) aNil))) (sSeq (sFor (rngI (con (.int 0)) (callE m__law_take (aCons (var 0) (aCons (var 2) aNil))) (con (.int 1))) (gN 4) (sExp (metL appM (var 3) (aCons (callE m__law_of (aCons (var 0) (aCons (callE m__law_ways (aCons (var 1) (aCons (bin ixM (var 3) (una negM (con (.int 1)))) aNil))) aNil))) aNil)))) (sRet (callE tupleM (aCons (var 3) aNil)))))
theorem ok__law_play (g : Mg P w K mg base) : FnS P w K mg base cvG 3 g.f__law_play m__law_play := by
  obtain ⟨fd, F⟩ := g.e__law_play
  exact fnS_of (k := 2) (ps := ["pot", "game", "most"]) F sc__law_play (F.binds fun _ _ _ _ _ _ us hl => match us, hl with | [_, _, _], _ => rfl) fun cdv A outer s H E hr gd =>
    (sb_cons (ss_set (i := 3) sc__law_play.nd rfl (.inl rfl) (se_lst (sa_cons (se_call ((ok__law_take g).mono (by decide)) hr gd rfl g.g__law_take g.k__law_take (lets_body (takes_of rfl rfl rfl rfl)) (sa_cons (se_var (i := 0) rfl (.inl rfl)) (sa_cons (se_callB cr_len rfl g.z_len bt_len (sa_cons (se_ix ir_seq (se_var (i := 1) rfl (.inl rfl)) se_int) sa_nil)) sa_nil))) sa_nil))) (sb_cons (ss_for (own := [4]) (passes_of rfl) rfl (si_range1 rfl g.z_range (se_call ((ok__law_take g).mono (by decide)) hr gd rfl g.g__law_take g.k__law_take (lets_body (takes_of rfl rfl rfl rfl)) (sa_cons (se_var (i := 0) rfl (.inl rfl)) (sa_cons (se_var (i := 2) rfl (.inl rfl)) sa_nil)))) (sg_name (i := 4) (by decide) sc__law_play.nd rfl (.inl rfl)) (sb_one (ss_exp (se_met PySem.F.slot_list_append PySem.F.type_list_append mr_append (se_var (i := 3) rfl (.inl rfl)) (sa_cons (se_call ((ok__law_of g).mono (by decide)) hr gd rfl g.g__law_of g.k__law_of (lets_body (takes_of rfl rfl rfl rfl)) (sa_cons (se_var (i := 0) rfl (.inl rfl)) (sa_cons (se_call ((ok__law_ways g).mono (by decide)) hr gd rfl g.g__law_ways g.k__law_ways (lets_body (takes_of rfl rfl rfl rfl)) (sa_cons (se_var (i := 1) rfl (.inl rfl)) (sa_cons (se_ix ir_seq (se_var (i := 3) rfl (.inl rfl)) (se_una ur_neg se_int)) sa_nil))) sa_nil))) sa_nil))))) (sb_one (ss_ret (se_callTy cr_tuple rfl g.z_tuple bt_tuple (sa_cons (se_var (i := 3) rfl (.inl rfl)) sa_nil))))))
theorem sc__law_word_of : FnScope ["caught", "kinds", "is_kind", "word"] ["caught"] (defScope (topS 45)) := ⟨rfl, rfl, rfl, by decide +kernel, rfl, by decide +kernel, by decide +kernel⟩
def m__law_word_of : List MV → M MV := defM 1 4 (sSeq (sSet 1 (lstD true (aCons (tupD (aCons (una (isEM [false, true, false, false, false]) (var 0)) (aCons (con (.str "map")) aNil))) (aCons (tupD (aCons (una (isEM [false, false, false, true, false]) (var 0)) (aCons (con (.str "player")) aNil))) aNil)))) (sSeq (sExp (metL extM (var 1) (aCons (lstD false (aCons (tupD (aCons (una (isEM [false, false, false, false, true]) (var 0)) (aCons (con (.str "plan")) aNil))) (aCons (tupD (aCons (una (isEM [false, false, true, false, false]) (var 0)) (aCons (con (.str "place")) aNil))) aNil))) aNil))) (sSeq (sFrz 3 1) (sRet (comp false (seqI (var 1)) (gT 2 (gsCons (gN 2) (gsCons (gN 3) gsNil))) (tst (var 2)) (var 3) [2, 3])))))
theorem ok__law_word_of (g : Mg P w K mg base) : FnS P w K mg base cvG 1 g.f__law_word_of m__law_word_of := by
  obtain ⟨fd, F⟩ := g.e__law_word_of
  exact fnS_of (k := 0) (ps := ["caught"]) F sc__law_word_of (F.binds fun _ _ _ _ _ _ us hl => match us, hl with | [_], _ => rfl) fun cdv A outer s H E hr gd =>
    (sb_cons (ss_set (i := 1) sc__law_word_of.nd rfl (.inl rfl) (se_lst (sa_cons (se_tup (sa_cons (se_isE g.er g.is_BadMap rfl g.z_isinstance rfl g.gc_BadMap (se_var (i := 0) rfl (.inl rfl))) (sa_cons se_str sa_nil))) (sa_cons (se_tup (sa_cons (se_isE g.er g.is_BadPlayer rfl g.z_isinstance rfl g.gc_BadPlayer (se_var (i := 0) rfl (.inl rfl))) (sa_cons se_str sa_nil))) sa_nil)))) (sb_cons (ss_exp (se_met PySem.F.slot_list_extend PySem.F.type_list_extend mr_extend (se_var (i := 1) rfl (.inl rfl)) (sa_cons (se_lst (sa_cons (se_tup (sa_cons (se_isE g.er g.is_BadPlan rfl g.z_isinstance rfl g.gc_BadPlan (se_var (i := 0) rfl (.inl rfl))) (sa_cons se_str sa_nil))) (sa_cons (se_tup (sa_cons (se_isE g.er g.is_BadPlace rfl g.z_isinstance rfl g.gc_BadPlace (se_var (i := 0) rfl (.inl rfl))) (sa_cons se_str sa_nil))) sa_nil))) sa_nil))) (sb_ghost (sb_one (ss_ret (se_comp (own := [("is_kind", 2), ("word", 3)]) rfl sc__law_word_of.nd (si_seq (se_var (i := 1) rfl (.inl rfl))) (blk_by (N' := ["caught", "kinds", "is_kind", "word"]) (sc' := defScope (topS 45)) rfl rfl (by decide +kernel)) (fun _ _ _ _ _ => (sg_tup rfl (sgs_cons (sg_name (i := 2) (by decide) sc__law_word_of.nd rfl (.inl rfl)) (sgs_cons (sg_name (i := 3) (by decide) sc__law_word_of.nd rfl (.inl rfl)) sgs_nil)))) (fun _ _ _ _ _ => (sts_one (st_val (se_var (i := 2) rfl (.inl rfl))))) (fun _ _ _ _ _ => (se_var (i := 3) rfl (.inl rfl)))))))))
theorem sc__law_are_refused : FnScope ["pot", "game", "one", "other", "odd", "bad", "far", "calls", "call", "word", "value", "caught"] ["pot", "game", "one", "other"] (defScope (topS 46)) := ⟨rfl, rfl, rfl, by decide +kernel, rfl, by decide +kernel, by decide +kernel⟩
def lm__law_are_refused : List EM := [(callE m_is_play (aCons (var 4) (aCons (var 6) aNil))), (callE m_is_plan (aCons (var 4) (aCons (var 5) (aCons (var 6) aNil)))), (callE m_is_plan (aCons (var 1) (aCons (con (.int 2)) (aCons (var 6) aNil)))), (callE m_is_plan (aCons (var 1) (aCons (con (.bl true)) (aCons (var 6) aNil)))), (callE m_together (aCons (var 4) (aCons (var 6) (aCons (var 6) (aCons (var 5) aNil))))), (callE m_together (aCons (var 1) (aCons (var 6) (aCons (var 6) (aCons (var 5) aNil))))), (callE m_together (aCons (var 1) (aCons (var 2) (aCons (var 6) (aCons (var 5) aNil))))), (callE m_together (aCons (var 1) (aCons (var 2) (aCons (var 3) (aCons (var 5) aNil)))))]
def lf__law_are_refused (k : Nat) : LamD := match k with
  | 0 => lamOf ("_law_are_refused" ++ ".<locals>.") (topS 46) [2] 0 [0, 0]
  | 1 => lamOf ("_law_are_refused" ++ ".<locals>.") (topS 46) [3] 0 [1, 0]
  | 2 => lamOf ("_law_are_refused" ++ ".<locals>.") (topS 46) [4] 0 [1, 0]
  | 3 => lamOf ("_law_are_refused" ++ ".<locals>.") (topS 46) [5] 0 [1, 0]
  | 4 => lamOf ("_law_are_refused" ++ ".<locals>.") (topS 46) [6] 0 [1, 0]
  | 5 => lamOf ("_law_are_refused" ++ ".<locals>.") (topS 46) [7] 0 [1, 0]
  | 6 => lamOf ("_law_are_refused" ++ ".<locals>.") (topS 46) [8] 0 [1, 0]
  | 7 => lamOf ("_law_are_refused" ++ ".<locals>.") (topS 46) [9] 0 [1, 0]
  | _ => lamD "" noEx
theorem lb__law_are_refused (g : Mg P w K mg base) {cdv : Value} (hl : Gb.lam = lf__law_are_refused) (A : Around) (outer : List Env) (s : Shared) (H : Hp) (E : XK) : ∀ k m, lm__law_are_refused[k]? = some m → LamB (cxOf (L2.CX P w) P w K mg base ["pot", "game", "one", "other", "odd", "bad", "far", "calls", "call", "word", "value", "caught"] "_law_are_refused" (defScope (topS 46)) g.f__law_are_refused cdv A outer s H E) cvG 6 k m
  | 0, _, h => by
    cases h
    exact LamB.of (d := lf__law_are_refused 0) (by rw [hl]) (LamX.lamS_by (sc := defScope (topS 46)) (by decide +kernel)) rfl (fun _ _ _ _ _ => rfl) fun A outer s H E f c' gd hr =>
      (se_call ((ok_is_play g).mono (by decide)) hr gd rfl g.g_is_play g.k_is_play (lets_body (takes_of rfl rfl rfl rfl)) (sa_cons (se_var (i := 4) rfl (.inr (.inr rfl))) (sa_cons (se_var (i := 6) rfl (.inr (.inr rfl))) sa_nil)))
  | 1, _, h => by
    cases h
    exact LamB.of (d := lf__law_are_refused 1) (by rw [hl]) (LamX.lamS_by (sc := defScope (topS 46)) (by decide +kernel)) rfl (fun _ _ _ _ _ => rfl) fun A outer s H E f c' gd hr =>
      (se_call ((ok_is_plan g).mono (by decide)) hr gd rfl g.g_is_plan g.k_is_plan (lets_body (takes_of rfl rfl rfl rfl)) (sa_cons (se_var (i := 4) rfl (.inr (.inr rfl))) (sa_cons (se_var (i := 5) rfl (.inr (.inr rfl))) (sa_cons (se_var (i := 6) rfl (.inr (.inr rfl))) sa_nil))))
  | 2, _, h => by
    cases h
    exact LamB.of (d := lf__law_are_refused 2) (by rw [hl]) (LamX.lamS_by (sc := defScope (topS 46)) (by decide +kernel)) rfl (fun _ _ _ _ _ => rfl) fun A outer s H E f c' gd hr =>
      (se_call ((ok_is_plan g).mono (by decide)) hr gd rfl g.g_is_plan g.k_is_plan (lets_body (takes_of rfl rfl rfl rfl)) (sa_cons (se_var (i := 1) rfl (.inr (.inr rfl))) (sa_cons se_int (sa_cons (se_var (i := 6) rfl (.inr (.inr rfl))) sa_nil))))
  | 3, _, h => by
    cases h
    exact LamB.of (d := lf__law_are_refused 3) (by rw [hl]) (LamX.lamS_by (sc := defScope (topS 46)) (by decide +kernel)) rfl (fun _ _ _ _ _ => rfl) fun A outer s H E f c' gd hr =>
      (se_call ((ok_is_plan g).mono (by decide)) hr gd rfl g.g_is_plan g.k_is_plan (lets_body (takes_of rfl rfl rfl rfl)) (sa_cons (se_var (i := 1) rfl (.inr (.inr rfl))) (sa_cons se_bl (sa_cons (se_var (i := 6) rfl (.inr (.inr rfl))) sa_nil))))
  | 4, _, h => by
    cases h
    exact LamB.of (d := lf__law_are_refused 4) (by rw [hl]) (LamX.lamS_by (sc := defScope (topS 46)) (by decide +kernel)) rfl (fun _ _ _ _ _ => rfl) fun A outer s H E f c' gd hr =>
      (se_call ((ok_together g).mono (by decide)) hr gd rfl g.g_together g.k_together (lets_body (takes_of rfl rfl rfl rfl)) (sa_cons (se_var (i := 4) rfl (.inr (.inr rfl))) (sa_cons (se_var (i := 6) rfl (.inr (.inr rfl))) (sa_cons (se_var (i := 6) rfl (.inr (.inr rfl))) (sa_cons (se_var (i := 5) rfl (.inr (.inr rfl))) sa_nil)))))
  | 5, _, h => by
    cases h
    exact LamB.of (d := lf__law_are_refused 5) (by rw [hl]) (LamX.lamS_by (sc := defScope (topS 46)) (by decide +kernel)) rfl (fun _ _ _ _ _ => rfl) fun A outer s H E f c' gd hr =>
      (se_call ((ok_together g).mono (by decide)) hr gd rfl g.g_together g.k_together (lets_body (takes_of rfl rfl rfl rfl)) (sa_cons (se_var (i := 1) rfl (.inr (.inr rfl))) (sa_cons (se_var (i := 6) rfl (.inr (.inr rfl))) (sa_cons (se_var (i := 6) rfl (.inr (.inr rfl))) (sa_cons (se_var (i := 5) rfl (.inr (.inr rfl))) sa_nil)))))
  | 6, _, h => by
    cases h
    exact LamB.of (d := lf__law_are_refused 6) (by rw [hl]) (LamX.lamS_by (sc := defScope (topS 46)) (by decide +kernel)) rfl (fun _ _ _ _ _ => rfl) fun A outer s H E f c' gd hr =>
      (se_call ((ok_together g).mono (by decide)) hr gd rfl g.g_together g.k_together (lets_body (takes_of rfl rfl rfl rfl)) (sa_cons (se_var (i := 1) rfl (.inr (.inr rfl))) (sa_cons (se_var (i := 2) rfl (.inr (.inr rfl))) (sa_cons (se_var (i := 6) rfl (.inr (.inr rfl))) (sa_cons (se_var (i := 5) rfl (.inr (.inr rfl))) sa_nil)))))
  | 7, _, h => by
    cases h
    exact LamB.of (d := lf__law_are_refused 7) (by rw [hl]) (LamX.lamS_by (sc := defScope (topS 46)) (by decide +kernel)) rfl (fun _ _ _ _ _ => rfl) fun A outer s H E f c' gd hr =>
      (se_call ((ok_together g).mono (by decide)) hr gd rfl g.g_together g.k_together (lets_body (takes_of rfl rfl rfl rfl)) (sa_cons (se_var (i := 1) rfl (.inr (.inr rfl))) (sa_cons (se_var (i := 2) rfl (.inr (.inr rfl))) (sa_cons (se_var (i := 3) rfl (.inr (.inr rfl))) (sa_cons (se_var (i := 5) rfl (.inr (.inr rfl))) sa_nil)))))
  | k + 8, _, h => by cases h
def m__law_are_refused : List MV → M MV := defL 4 12 (sSeq (sAsg (tupD (aCons (callE m__law_of (aCons (var 0) (aCons (lstD false (aCons (con .non) (aCons (con (.int 7)) (aCons (tupD (aCons (tupD (aCons (con (.int 0)) aNil)) (aCons (tupD aNil) aNil))) aNil)))) aNil))) (aCons (callE m__law_of (aCons (var 0) (aCons (lstD false (aCons (con .non) (aCons (una negM (con (.int 1))) (aCons (callE lenM (aCons (bin ixM (var 1) (con (.int 0))) aNil)) (aCons (con (.bl true)) (aCons (con (.str "0")) aNil)))))) aNil))) aNil))) (gT 2 (gsCons (gN 4) (gsCons (gN 5) gsNil)))) (sSeq (sSet 6 (callE m__law_of (aCons (var 0) (aCons (lstD false (aCons (con .non) (aCons (tupD aNil) (aCons (callE (listM false) (aCons (var 2) aNil)) (aCons (bin (addM false) (var 2) (tupD (aCons (con (.int 0)) aNil))) (aCons (bin (mulT) (tupD (aCons (con (.int 99)) aNil)) (callE lenM (aCons (bin ixM (var 1) (con (.int 0))) aNil))) (aCons (con (.str "0")) aNil))))))) aNil)))) (sSeq (sSet 7 (lstD true (aCons (tupD (aCons (lamE 0) (aCons (con (.str "map")) (aCons (var 4) aNil)))) aNil))) (sSeq (sExp (metL appM (var 7) (aCons (tupD (aCons (lamE 1) (aCons (con (.str "map")) (aCons (var 4) aNil)))) aNil))) (sSeq (sExp (metL appM (var 7) (aCons (tupD (aCons (lamE 2) (aCons (con (.str "player")) (aCons (con (.int 2)) aNil)))) aNil))) (sSeq (sExp (metL appM (var 7) (aCons (tupD (aCons (lamE 3) (aCons (con (.str "player")) (aCons (con (.bl true)) aNil)))) aNil))) (sSeq (sExp (metL appM (var 7) (aCons (tupD (aCons (lamE 4) (aCons (con (.str "map")) (aCons (var 4) aNil)))) aNil))) (sSeq (sExp (metL appM (var 7) (aCons (tupD (aCons (lamE 5) (aCons (con (.str "plan")) (aCons (var 6) aNil)))) aNil))) (sSeq (sExp (metL appM (var 7) (aCons (tupD (aCons (lamE 6) (aCons (con (.str "plan")) (aCons (var 6) aNil)))) aNil))) (sSeq (sExp (metL appM (var 7) (aCons (tupD (aCons (lamE 7) (aCons (con (.str "place")) (aCons (var 5) aNil)))) aNil))) (sSeq (sFrz 3 7) (sSeq (sFor (seqI (var 7)) (gT 3 (gsCons (gN 8) (gsCons (gN 9) (gsCons (gN 10) gsNil)))) (sSeq (sSet 11 (bin ixM (heardE 5 lm__law_are_refused (var 8)) (con (.int 0)))) (sIf (bOr (tst (bin (eqM true) (callE m__law_word_of (aCons (var 11) aNil)) (lstD false (aCons (var 9) aNil)))) (tst (bin (eqS true) (callE reprM (aCons (una errV (var 11)) aNil)) (callE reprM (aCons (var 10) aNil))))) (sRet (con (.bl false))) sNil))) (sRet (con (.bl true)))))))))))))))
theorem ok__law_are_refused (g : Mg P w K mg base) : FnS P w K mg base cvG 9 g.f__law_are_refused m__law_are_refused := by
  obtain ⟨fd, F, FC⟩ := g.e__law_are_refused.ex
  exact fnS_ofL (gb := gb) lf__law_are_refused (k := 8) (ps := ["pot", "game", "one", "other"]) FC sc__law_are_refused (F.binds fun _ _ _ _ _ _ us hl => match us, hl with | [_, _, _, _], _ => rfl) fun A outer s H E hr gd =>
    (let fr0 : List (Str × Addr) := (envOfC "_law_are_refused" (defScope (topS 46)) s.heap.objs.size g.f__law_are_refused (.ref g.c__law_are_refused)).cells
     let g1 := @Mg.withF gb P w K mg base g fr0 lf__law_are_refused
     letI gb2 : Gb := withFr gb fr0 lf__law_are_refused
     let g := g1
     (sb_cons (ss_asg (own := [4, 5]) (se_tup (sa_cons (se_call ((ok__law_of g).mono (by decide)) hr gd rfl g.g__law_of g.k__law_of (lets_body (takes_of rfl rfl rfl rfl)) (sa_cons (se_var (i := 0) rfl (.inl rfl)) (sa_cons (se_lst (sa_cons se_non (sa_cons se_int (sa_cons (se_tup (sa_cons (se_tup (sa_cons se_int sa_nil)) (sa_cons (se_tup sa_nil) sa_nil))) sa_nil)))) sa_nil))) (sa_cons (se_call ((ok__law_of g).mono (by decide)) hr gd rfl g.g__law_of g.k__law_of (lets_body (takes_of rfl rfl rfl rfl)) (sa_cons (se_var (i := 0) rfl (.inl rfl)) (sa_cons (se_lst (sa_cons se_non (sa_cons (se_una ur_neg se_int) (sa_cons (se_callB cr_len rfl g.z_len bt_len (sa_cons (se_ix ir_seq (se_var (i := 1) rfl (.inr (.inl rfl))) se_int) sa_nil)) (sa_cons se_bl (sa_cons se_str sa_nil)))))) sa_nil))) sa_nil))) (sg_tup rfl (sgs_cons (sg_name (i := 4) (by decide) sc__law_are_refused.nd rfl (.inr rfl)) (sgs_cons (sg_name (i := 5) (by decide) sc__law_are_refused.nd rfl (.inr rfl)) sgs_nil)))) (sb_cons (ss_set (i := 6) sc__law_are_refused.nd rfl (.inr rfl) (se_call ((ok__law_of g).mono (by decide)) hr gd rfl g.g__law_of g.k__law_of (lets_body (takes_of rfl rfl rfl rfl)) (sa_cons (se_var (i := 0) rfl (.inl rfl)) (sa_cons (se_lst (sa_cons se_non (sa_cons (se_tup sa_nil) (sa_cons (se_callTy cr_list rfl g.z_list bt_list (sa_cons (se_var (i := 2) rfl (.inr (.inl rfl))) sa_nil)) (sa_cons (se_bin or_add (se_var (i := 2) rfl (.inr (.inl rfl))) (se_tup (sa_cons se_int sa_nil))) (sa_cons (se_bin or_mulT (se_tup (sa_cons se_int sa_nil)) (se_callB cr_len rfl g.z_len bt_len (sa_cons (se_ix ir_seq (se_var (i := 1) rfl (.inr (.inl rfl))) se_int) sa_nil))) (sa_cons se_str sa_nil))))))) sa_nil)))) (sb_cons (ss_set (i := 7) sc__law_are_refused.nd rfl (.inl rfl) (se_lst (sa_cons (se_tup (sa_cons (se_lam (k := 0) rfl rfl g.tb__law_are_refused rfl rfl g.in__law_are_refused g.un__law_are_refused rfl (LamX.lamS_by (sc := defScope (topS 46)) (by decide +kernel))) (sa_cons se_str (sa_cons (se_var (i := 4) rfl (.inr (.inl rfl))) sa_nil)))) sa_nil))) (sb_cons (ss_exp (se_met PySem.F.slot_list_append PySem.F.type_list_append mr_append (se_var (i := 7) rfl (.inl rfl)) (sa_cons (se_tup (sa_cons (se_lam (k := 1) rfl rfl g.tb__law_are_refused rfl rfl g.in__law_are_refused g.un__law_are_refused rfl (LamX.lamS_by (sc := defScope (topS 46)) (by decide +kernel))) (sa_cons se_str (sa_cons (se_var (i := 4) rfl (.inr (.inl rfl))) sa_nil)))) sa_nil))) (sb_cons (ss_exp (se_met PySem.F.slot_list_append PySem.F.type_list_append mr_append (se_var (i := 7) rfl (.inl rfl)) (sa_cons (se_tup (sa_cons (se_lam (k := 2) rfl rfl g.tb__law_are_refused rfl rfl g.in__law_are_refused g.un__law_are_refused rfl (LamX.lamS_by (sc := defScope (topS 46)) (by decide +kernel))) (sa_cons se_str (sa_cons se_int sa_nil)))) sa_nil))) (sb_cons (ss_exp (se_met PySem.F.slot_list_append PySem.F.type_list_append mr_append (se_var (i := 7) rfl (.inl rfl)) (sa_cons (se_tup (sa_cons (se_lam (k := 3) rfl rfl g.tb__law_are_refused rfl rfl g.in__law_are_refused g.un__law_are_refused rfl (LamX.lamS_by (sc := defScope (topS 46)) (by decide +kernel))) (sa_cons se_str (sa_cons se_bl sa_nil)))) sa_nil))) (sb_cons (ss_exp (se_met PySem.F.slot_list_append PySem.F.type_list_append mr_append (se_var (i := 7) rfl (.inl rfl)) (sa_cons (se_tup (sa_cons (se_lam (k := 4) rfl rfl g.tb__law_are_refused rfl rfl g.in__law_are_refused g.un__law_are_refused rfl (LamX.lamS_by (sc := defScope (topS 46)) (by decide +kernel))) (sa_cons se_str (sa_cons (se_var (i := 4) rfl (.inr (.inl rfl))) sa_nil)))) sa_nil))) (sb_cons (ss_exp (se_met PySem.F.slot_list_append PySem.F.type_list_append mr_append (se_var (i := 7) rfl (.inl rfl)) (sa_cons (se_tup (sa_cons (se_lam (k := 5) rfl rfl g.tb__law_are_refused rfl rfl g.in__law_are_refused g.un__law_are_refused rfl (LamX.lamS_by (sc := defScope (topS 46)) (by decide +kernel))) (sa_cons se_str (sa_cons (se_var (i := 6) rfl (.inr (.inl rfl))) sa_nil)))) sa_nil))) (sb_cons (ss_exp (se_met PySem.F.slot_list_append PySem.F.type_list_append mr_append (se_var (i := 7) rfl (.inl rfl)) (sa_cons (se_tup (sa_cons (se_lam (k := 6) rfl rfl g.tb__law_are_refused rfl rfl g.in__law_are_refused g.un__law_are_refused rfl (LamX.lamS_by (sc := defScope (topS 46)) (by decide +kernel))) (sa_cons se_str (sa_cons (se_var (i := 6) rfl (.inr (.inl rfl))) sa_nil)))) sa_nil))) (sb_cons (ss_exp (se_met PySem.F.slot_list_append PySem.F.type_list_append mr_append (se_var (i := 7) rfl (.inl rfl)) (sa_cons (se_tup (sa_cons (se_lam (k := 7) rfl rfl g.tb__law_are_refused rfl rfl g.in__law_are_refused g.un__law_are_refused rfl (LamX.lamS_by (sc := defScope (topS 46)) (by decide +kernel))) (sa_cons se_str (sa_cons (se_var (i := 5) rfl (.inr (.inl rfl))) sa_nil)))) sa_nil))) (sb_ghost (sb_cons (ss_for (own := [8, 9, 10]) (passes_of rfl) rfl (si_seq (se_var (i := 7) rfl (.inl rfl))) (sg_tup rfl (sgs_cons (sg_name (i := 8) (by decide) sc__law_are_refused.nd rfl (.inl rfl)) (sgs_cons (sg_name (i := 9) (by decide) sc__law_are_refused.nd rfl (.inl rfl)) (sgs_cons (sg_name (i := 10) (by decide) sc__law_are_refused.nd rfl (.inl rfl)) sgs_nil)))) (sb_cons (ss_set (i := 11) sc__law_are_refused.nd rfl (.inl rfl) (se_ix ir_seq (se_heard (kk := 6) g.hrd g.kp_hrd (fun _ => rfl) (Nat.le_of_eq g.ne.symm) rfl (lb__law_are_refused (cdv := .ref g.c__law_are_refused) g rfl A outer s H E) hr gd rfl (se_var (i := 8) rfl (.inl rfl))) se_int)) (sb_one (ss_if (st_w (sw_or (st_cmp (or_ne (u64 hr)) (se_call ((ok__law_word_of g).mono (by decide)) hr gd rfl g.g__law_word_of g.k__law_word_of (lets_body (takes_of rfl rfl rfl rfl)) (sa_cons (se_var (i := 11) rfl (.inl rfl)) sa_nil)) (se_lst (sa_cons (se_var (i := 9) rfl (.inl rfl)) sa_nil)) (nomark _)) (sw_or1 (st_cmp (or_neS (u64 hr)) (se_callB (cr_repr gd (u64 hr)) rfl g.z_repr bt_repr (sa_cons (se_errV g.er (se_var (i := 11) rfl (.inl rfl))) sa_nil)) (se_callB (cr_repr gd (u64 hr)) rfl g.z_repr bt_repr (sa_cons (se_var (i := 10) rfl (.inl rfl)) sa_nil)) (nomark _))))) (sb_one (ss_ret se_bl)) sb_nil)))) (sb_one (ss_ret se_bl)))))))))))))))
theorem sc__law_right : FnScope ["pot", "game", "one", "other", "place", "play", "long", "values", "value", "told", "due", "lap"] ["pot"] (defScope (topS 47)) := ⟨rfl, rfl, rfl, by decide +kernel, rfl, by decide +kernel, by decide +kernel⟩
def m__law_right : List MV → M MV := defM 1 12 (sSeq (sSet 1 (callE m__law_game (aCons (var 0) (aCons (con (.int 8)) (aCons (con (.int 3)) aNil))))) (sSeq (sAsg (tupD (aCons (callE m__law_plan (aCons (var 0) (aCons (var 1) (aCons (con (.int 0)) aNil)))) (aCons (callE m__law_plan (aCons (var 0) (aCons (var 1) (aCons (con (.int 1)) aNil)))) aNil))) (gT 2 (gsCons (gN 2) (gsCons (gN 3) gsNil)))) (sSeq (sFor (rngI (con (.int 0)) (callE lenM (aCons (bin ixM (var 1) (con (.int 0))) aNil)) (con (.int 1))) (gN 4) (sIf (tst (bin (eqS true) (callE reprM (aCons (callE m_together (aCons (var 1) (aCons (var 2) (aCons (var 3) (aCons (var 4) aNil))))) aNil)) (callE reprM (aCons (callE m__law_together (aCons (var 1) (aCons (var 2) (aCons (var 3) (aCons (var 4) aNil))))) aNil)))) (sRet (con (.bl false))) sNil)) (sSeq (sSet 5 (callE m__law_play (aCons (var 0) (aCons (var 1) (aCons (con (.int 20)) aNil))))) (sSeq (sSet 6 (bin (addM false) (var 5) (bin (mulT) (tupD (aCons (bin ixM (var 5) (una negM (con (.int 1)))) aNil)) (con (.int 1000))))) (sSeq (sSet 7 (lstD false (aCons (var 5) (aCons (var 2) (aCons (var 3) (aCons (slE false (var 6) oNone (oSome (con (.int 1000)))) (aCons (slE false (var 6) oNone (oSome (con (.int 1001)))) (aCons (tupD aNil) (aCons (callE (listM false) (aCons (var 5) aNil)) (aCons (bin (addM false) (var 5) (tupD (aCons (callE lenM (aCons (bin ixM (var 1) (con (.int 0))) aNil)) aNil))) (aCons (callE m__law_odd (aCons (var 0) aNil)) aNil))))))))))) (sSeq (sSet 7 (bin (addM false) (var 7) (comp false (rngI (con (.int 0)) (con (.int 12)) (con (.int 1))) (gN 11) bYes (callE (m__law_bent 12) (aCons (var 0) (aCons (callE m__law_of (aCons (var 0) (aCons (lstD false (aCons (var 5) (aCons (var 2) (aCons (var 3) aNil)))) aNil))) aNil))) [11]))) (sSeq (sFor (seqI (var 7)) (gN 8) (sSeq (sSet 9 (tupD (aCons (callE m_is_play (aCons (var 1) (aCons (var 8) aNil))) (aCons (callE m_is_plan (aCons (var 1) (aCons (con (.int 0)) (aCons (var 8) aNil)))) (aCons (callE m_is_plan (aCons (var 1) (aCons (con (.int 1)) (aCons (var 8) aNil)))) aNil))))) (sSeq (sSet 10 (tupD (aCons (callE m__law_is_play (aCons (var 1) (aCons (var 8) aNil))) (aCons (callE m__law_is_plan (aCons (var 1) (aCons (con (.int 0)) (aCons (var 8) aNil)))) (aCons (callE m__law_is_plan (aCons (var 1) (aCons (con (.int 1)) (aCons (var 8) aNil)))) aNil))))) (sIf (tst (bin (eqS true) (callE reprM (aCons (var 9) aNil)) (callE reprM (aCons (var 10) aNil)))) (sRet (con (.bl false))) sNil)))) (sRet (callE m__law_are_refused (aCons (var 0) (aCons (var 1) (aCons (var 2) (aCons (var 3) aNil))))))))))))))
theorem ok__law_right (g : Mg P w K mg base) : FnS P w K mg base cvG 17 g.f__law_right m__law_right := by
  obtain ⟨fd, F⟩ := g.e__law_right
  exact fnS_of (k := 16) (ps := ["pot"]) F sc__law_right (F.binds fun _ _ _ _ _ _ us hl => match us, hl with | [_], _ => rfl) fun cdv A outer s H E hr gd =>
    (sb_cons (ss_set (i := 1) sc__law_right.nd rfl (.inl rfl) (se_call ((ok__law_game g).mono (by decide)) hr gd rfl g.g__law_game g.k__law_game (lets_body (takes_of rfl rfl rfl rfl)) (sa_cons (se_var (i := 0) rfl (.inr (.inl rfl))) (sa_cons se_int (sa_cons se_int sa_nil))))) (sb_cons (ss_asg (own := [2, 3]) (se_tup (sa_cons (se_call ((ok__law_plan g).mono (by decide)) hr gd rfl g.g__law_plan g.k__law_plan (lets_body (takes_of rfl rfl rfl rfl)) (sa_cons (se_var (i := 0) rfl (.inr (.inl rfl))) (sa_cons (se_var (i := 1) rfl (.inl rfl)) (sa_cons se_int sa_nil)))) (sa_cons (se_call ((ok__law_plan g).mono (by decide)) hr gd rfl g.g__law_plan g.k__law_plan (lets_body (takes_of rfl rfl rfl rfl)) (sa_cons (se_var (i := 0) rfl (.inr (.inl rfl))) (sa_cons (se_var (i := 1) rfl (.inl rfl)) (sa_cons se_int sa_nil)))) sa_nil))) (sg_tup rfl (sgs_cons (sg_name (i := 2) (by decide) sc__law_right.nd rfl (.inr rfl)) (sgs_cons (sg_name (i := 3) (by decide) sc__law_right.nd rfl (.inr rfl)) sgs_nil)))) (sb_cons (ss_for (own := [4]) (passes_of rfl) rfl (si_range1 rfl g.z_range (se_callB cr_len rfl g.z_len bt_len (sa_cons (se_ix ir_seq (se_var (i := 1) rfl (.inl rfl)) se_int) sa_nil))) (sg_name (i := 4) (by decide) sc__law_right.nd rfl (.inl rfl)) (sb_one (ss_if (st_cmp (or_neS (u64 hr)) (se_callB (cr_repr gd (u64 hr)) rfl g.z_repr bt_repr (sa_cons (se_call ((ok_together g).mono (by decide)) hr gd rfl g.g_together g.k_together (lets_body (takes_of rfl rfl rfl rfl)) (sa_cons (se_var (i := 1) rfl (.inl rfl)) (sa_cons (se_var (i := 2) rfl (.inr (.inl rfl))) (sa_cons (se_var (i := 3) rfl (.inr (.inl rfl))) (sa_cons (se_var (i := 4) rfl (.inl rfl)) sa_nil))))) sa_nil)) (se_callB (cr_repr gd (u64 hr)) rfl g.z_repr bt_repr (sa_cons (se_call ((ok__law_together g).mono (by decide)) hr gd rfl g.g__law_together g.k__law_together (lets_body (takes_of rfl rfl rfl rfl)) (sa_cons (se_var (i := 1) rfl (.inl rfl)) (sa_cons (se_var (i := 2) rfl (.inr (.inl rfl))) (sa_cons (se_var (i := 3) rfl (.inr (.inl rfl))) (sa_cons (se_var (i := 4) rfl (.inl rfl)) sa_nil))))) sa_nil)) (nomark _)) (sb_one (ss_ret se_bl)) sb_nil))) (sb_cons (ss_set (i := 5) sc__law_right.nd rfl (.inr rfl) (se_call ((ok__law_play g).mono (by decide)) hr gd rfl g.g__law_play g.k__law_play (lets_body (takes_of rfl rfl rfl rfl)) (sa_cons (se_var (i := 0) rfl (.inr (.inl rfl))) (sa_cons (se_var (i := 1) rfl (.inl rfl)) (sa_cons se_int sa_nil))))) (sb_cons (ss_set (i := 6) sc__law_right.nd rfl (.inl rfl) (se_bin or_add (se_var (i := 5) rfl (.inr (.inl rfl))) (se_bin or_mulT (se_tup (sa_cons (se_ix ir_seq (se_var (i := 5) rfl (.inr (.inl rfl))) (se_una ur_neg se_int)) sa_nil)) se_int))) (sb_cons (ss_set (i := 7) sc__law_right.nd rfl (.inl rfl) (se_lst (sa_cons (se_var (i := 5) rfl (.inr (.inl rfl))) (sa_cons (se_var (i := 2) rfl (.inr (.inl rfl))) (sa_cons (se_var (i := 3) rfl (.inr (.inl rfl))) (sa_cons (se_sl (se_var (i := 6) rfl (.inl rfl)) so_none (so_some se_int)) (sa_cons (se_sl (se_var (i := 6) rfl (.inl rfl)) so_none (so_some se_int)) (sa_cons (se_tup sa_nil) (sa_cons (se_callTy cr_list rfl g.z_list bt_list (sa_cons (se_var (i := 5) rfl (.inr (.inl rfl))) sa_nil)) (sa_cons (se_bin or_add (se_var (i := 5) rfl (.inr (.inl rfl))) (se_tup (sa_cons (se_callB cr_len rfl g.z_len bt_len (sa_cons (se_ix ir_seq (se_var (i := 1) rfl (.inl rfl)) se_int) sa_nil)) sa_nil))) (sa_cons (se_call ((ok__law_odd g).mono (by decide)) hr gd rfl g.g__law_odd g.k__law_odd (lets_body (takes_of rfl rfl rfl rfl)) (sa_cons (se_var (i := 0) rfl (.inr (.inl rfl))) sa_nil)) sa_nil))))))))))) (sb_cons (ss_set (i := 7) sc__law_right.nd rfl (.inl rfl) (se_bin or_add (se_var (i := 7) rfl (.inl rfl)) (se_comp (own := [("lap", 11)]) rfl sc__law_right.nd (si_range1 rfl g.z_range se_int) (blk_by (N' := ["pot", "game", "one", "other", "place", "play", "long", "values", "value", "told", "due", "lap"]) (sc' := defScope (topS 47)) rfl rfl (by decide +kernel)) (fun _ _ _ _ _ => (sg_name (i := 11) (by decide) sc__law_right.nd rfl (.inl rfl))) (fun _ _ _ _ _ => sts_nil) (fun _ _ _ _ _ => (se_call ((ok__law_bent g 12).mono (by decide)) hr gd rfl g.g__law_bent g.k__law_bent lets_none (sa_cons (se_var (i := 0) rfl (.inr (.inl rfl))) (sa_cons (se_call ((ok__law_of g).mono (by decide)) hr gd rfl g.g__law_of g.k__law_of lets_none (sa_cons (se_var (i := 0) rfl (.inr (.inl rfl))) (sa_cons (se_lst (sa_cons (se_var (i := 5) rfl (.inr (.inl rfl))) (sa_cons (se_var (i := 2) rfl (.inr (.inl rfl))) (sa_cons (se_var (i := 3) rfl (.inr (.inl rfl))) sa_nil)))) sa_nil))) sa_nil))))))) (sb_cons (ss_for (own := [8]) (passes_of rfl) rfl (si_seq (se_var (i := 7) rfl (.inl rfl))) (sg_name (i := 8) (by decide) sc__law_right.nd rfl (.inl rfl)) (sb_cons (ss_set (i := 9) sc__law_right.nd rfl (.inl rfl) (se_tup (sa_cons (se_call ((ok_is_play g).mono (by decide)) hr gd rfl g.g_is_play g.k_is_play (lets_body (takes_of rfl rfl rfl rfl)) (sa_cons (se_var (i := 1) rfl (.inl rfl)) (sa_cons (se_var (i := 8) rfl (.inl rfl)) sa_nil))) (sa_cons (se_call ((ok_is_plan g).mono (by decide)) hr gd rfl g.g_is_plan g.k_is_plan (lets_body (takes_of rfl rfl rfl rfl)) (sa_cons (se_var (i := 1) rfl (.inl rfl)) (sa_cons se_int (sa_cons (se_var (i := 8) rfl (.inl rfl)) sa_nil)))) (sa_cons (se_call ((ok_is_plan g).mono (by decide)) hr gd rfl g.g_is_plan g.k_is_plan (lets_body (takes_of rfl rfl rfl rfl)) (sa_cons (se_var (i := 1) rfl (.inl rfl)) (sa_cons se_int (sa_cons (se_var (i := 8) rfl (.inl rfl)) sa_nil)))) sa_nil))))) (sb_cons (ss_set (i := 10) sc__law_right.nd rfl (.inl rfl) (se_tup (sa_cons (se_call ((ok__law_is_play g).mono (by decide)) hr gd rfl g.g__law_is_play g.k__law_is_play (lets_body (takes_of rfl rfl rfl rfl)) (sa_cons (se_var (i := 1) rfl (.inl rfl)) (sa_cons (se_var (i := 8) rfl (.inl rfl)) sa_nil))) (sa_cons (se_call ((ok__law_is_plan g).mono (by decide)) hr gd rfl g.g__law_is_plan g.k__law_is_plan (lets_body (takes_of rfl rfl rfl rfl)) (sa_cons (se_var (i := 1) rfl (.inl rfl)) (sa_cons se_int (sa_cons (se_var (i := 8) rfl (.inl rfl)) sa_nil)))) (sa_cons (se_call ((ok__law_is_plan g).mono (by decide)) hr gd rfl g.g__law_is_plan g.k__law_is_plan (lets_body (takes_of rfl rfl rfl rfl)) (sa_cons (se_var (i := 1) rfl (.inl rfl)) (sa_cons se_int (sa_cons (se_var (i := 8) rfl (.inl rfl)) sa_nil)))) sa_nil))))) (sb_one (ss_if (st_cmp (or_neS (u64 hr)) (se_callB (cr_repr gd (u64 hr)) rfl g.z_repr bt_repr (sa_cons (se_var (i := 9) rfl (.inl rfl)) sa_nil)) (se_callB (cr_repr gd (u64 hr)) rfl g.z_repr bt_repr (sa_cons (se_var (i := 10) rfl (.inl rfl)) sa_nil)) (nomark _)) (sb_one (ss_ret se_bl)) sb_nil))))) (sb_one (ss_ret (se_call ((ok__law_are_refused g).mono (by decide)) hr gd rfl g.g__law_are_refused g.k__law_are_refused (lets_body (takes_of rfl rfl rfl rfl)) (sa_cons (se_var (i := 0) rfl (.inr (.inl rfl))) (sa_cons (se_var (i := 1) rfl (.inl rfl)) (sa_cons (se_var (i := 2) rfl (.inr (.inl rfl))) (sa_cons (se_var (i := 3) rfl (.inr (.inl rfl))) sa_nil)))))))))))))))
theorem sc_law : FnScope ["script", "ring", "place", "pot", "lap"] ["script"] (defScope (topS 48)) := ⟨rfl, rfl, rfl, by decide +kernel, rfl, by decide +kernel, by decide +kernel⟩
def m_law : List MV → M MV := defM 1 5 (sSeq (sSet 1 (tupD (aCons (tupD (aCons (con (.int 0)) (aCons (con (.int 1)) aNil))) (aCons (tupD (aCons (tupD (aCons (con (.int 0)) (aCons (con (.int 1)) aNil))) (aCons (tupD (aCons (con (.int 1)) (aCons (con (.int 0)) aNil))) aNil))) aNil)))) (sSeq (sIf (bOr (tst (bin (isM true) (callE m_is_play (aCons (var 1) (aCons (bin (mulT) (tupD (aCons (con (.int 0)) (aCons (con (.int 1)) aNil))) (con (.int 500))) aNil))) (con (.bl true)))) (tst (bin (isM true) (callE m_is_play (aCons (var 1) (aCons (bin (addM false) (bin (mulT) (tupD (aCons (con (.int 0)) (aCons (con (.int 1)) aNil))) (con (.int 500))) (tupD (aCons (con (.int 0)) aNil))) aNil))) (con (.bl false))))) (sRet (con (.bl false))) sNil) (sSeq (sFor (seqI (callE m__law_cells (aCons (var 0) (aCons (con (.int 3)) aNil)))) (gN 2) (sSeq (sSet 3 (callE m__law_pot (aCons (var 0) (aCons (var 2) aNil)))) (sIf (bNot (tst (callE allM (aCons (comp false (rngI (con (.int 0)) (con (.int 2)) (con (.int 1))) (gN 4) bYes (callE m__law_right (aCons (var 3) aNil)) [4]) aNil)))) (sRet (con (.bl false))) sNil))) (sRet (con (.bl true))))))
theorem ok_law (g : Mg P w K mg base) : FnS P w K mg base cvG 18 g.f_law m_law := by
  obtain ⟨fd, F⟩ := g.e_law
  exact fnS_of (k := 17) (ps := ["script"]) F sc_law (F.binds fun _ _ _ _ _ _ us hl => match us, hl with | [_], _ => rfl) fun cdv A outer s H E hr gd =>
    (sb_cons (ss_set (i := 1) sc_law.nd rfl (.inl rfl) (se_tup (sa_cons (se_tup (sa_cons se_int (sa_cons se_int sa_nil))) (sa_cons (se_tup (sa_cons (se_tup (sa_cons se_int (sa_cons se_int sa_nil))) (sa_cons (se_tup (sa_cons se_int (sa_cons se_int sa_nil))) sa_nil))) sa_nil)))) (sb_cons (ss_if (st_w (sw_or (st_cmp or_isnot (se_call ((ok_is_play g).mono (by decide)) hr gd rfl g.g_is_play g.k_is_play (lets_body (takes_of rfl rfl rfl rfl)) (sa_cons (se_var (i := 1) rfl (.inl rfl)) (sa_cons (se_bin or_mulT (se_tup (sa_cons se_int (sa_cons se_int sa_nil))) se_int) sa_nil))) se_bl (nomark _)) (sw_or1 (st_cmp or_isnot (se_call ((ok_is_play g).mono (by decide)) hr gd rfl g.g_is_play g.k_is_play (lets_body (takes_of rfl rfl rfl rfl)) (sa_cons (se_var (i := 1) rfl (.inl rfl)) (sa_cons (se_bin or_add (se_bin or_mulT (se_tup (sa_cons se_int (sa_cons se_int sa_nil))) se_int) (se_tup (sa_cons se_int sa_nil))) sa_nil))) se_bl (nomark _))))) (sb_one (ss_ret se_bl)) sb_nil) (sb_cons (ss_for (own := [2]) (passes_of rfl) rfl (si_seq (se_call ((ok__law_cells g).mono (by decide)) hr gd rfl g.g__law_cells g.k__law_cells (lets_body (takes_of rfl rfl rfl rfl)) (sa_cons (se_var (i := 0) rfl (.inl rfl)) (sa_cons se_int sa_nil)))) (sg_name (i := 2) (by decide) sc_law.nd rfl (.inl rfl)) (sb_cons (ss_set (i := 3) sc_law.nd rfl (.inr rfl) (se_call ((ok__law_pot g).mono (by decide)) hr gd rfl g.g__law_pot g.k__law_pot (lets_body (takes_of rfl rfl rfl rfl)) (sa_cons (se_var (i := 0) rfl (.inl rfl)) (sa_cons (se_var (i := 2) rfl (.inl rfl)) sa_nil)))) (sb_one (ss_if (st_not (st_val (se_callB (cr_allM rfl) rfl g.z_all bt_all (sa_cons (se_comp (own := [("lap", 4)]) rfl sc_law.nd (si_range1 rfl g.z_range se_int) (blk_by (N' := ["script", "ring", "place", "pot", "lap"]) (sc' := defScope (topS 48)) rfl rfl (by decide +kernel)) (fun _ _ _ _ _ => (sg_name (i := 4) (by decide) sc_law.nd rfl (.inl rfl))) (fun _ _ _ _ _ => sts_nil) (fun _ _ _ _ _ => (se_call ((ok__law_right g).mono (by decide)) hr gd rfl g.g__law_right g.k__law_right lets_none (sa_cons (se_var (i := 3) rfl (.inr (.inl rfl))) sa_nil)))) sa_nil)))) (sb_one (ss_ret se_bl)) sb_nil)))) (sb_one (ss_ret se_bl)))))
end
end Lw

set_option Elab.async false
set_option linter.all false
set_option maxRecDepth 100000
set_option maxHeartbeats 4000000
namespace Lw
open PySem PySem.Spec PyProof.Rows L2 Mi
section
end
section
variable {h : MH} {Q : MV → MH → Prop}
def noC (v : MV) : Prop := noS v
def isTup (v : MV) (a b : Int) : Bool := match v with
  | .tup xs => decide (a ≤ xs.length) && decide ((xs.length : Int) ≤ b)
  | _ => false
def isInt (v : MV) (a b : Int) : Bool := match v with
  | .int i => decide (a ≤ i) && decide (i ≤ b)
  | _ => false
theorem wp_is_tuple {v : MV} {a b : Int} (c : noC v) : Wp (m_is_tuple [v, .int a, .int b]) h Q ↔ Q (.bl (isTup v a b)) h := by
  unfold m_is_tuple
  rw [wp_def3]
  simp only [List.replicate, Nat.sub_self, wp_sRet, wp_eAnd, wp_una, wp_var, atV_zero, atV_succ, wp_isT c, asB_bl, retOf]
  cases v with
  | tup xs =>
    simp only [show isSub (MV.ty (.tup xs)) "tuple" = true from rfl, if_true, wp_chn, wp_var, atV_zero, atV_succ, wp_callE, wp_aCons, wp_aNil, wp_len_tup, wp_le, asB_bl, isTup]
    by_cases c1 : a ≤ xs.length
    · simp [c1, wp_cut_bl]
    · simp [c1, wp_cut_bl]
  | cell i => exact absurd rfl (c.c i)
  | lam i => exact absurd rfl (c.l i)
  | fn i => exact absurd rfl (c.f i)
  | _ => simp [isTup, wp_cut_bl, MV.ty, isSub]
theorem wp_is_whole {v : MV} (c : noC v) : Wp (m_is_whole [v]) h Q ↔ Q (.bl (match v with | .int _ => true | _ => false)) h := by
  unfold m_is_whole
  rw [wp_def1]
  simp only [List.replicate, Nat.sub_self, wp_sRet, wp_eAnd, wp_eNot, wp_una, wp_var, atV_zero, atV_succ, wp_isT c, asB_bl, retOf]
  cases v with
  | cell i => exact absurd rfl (c.c i)
  | lam i => exact absurd rfl (c.l i)
  | fn i => exact absurd rfl (c.f i)
  | _ => simp [wp_cut_bl, MV.ty, isSub]
theorem wp_is_integer {v : MV} {a b : Int} (c : noC v) : Wp (m_is_integer [v, .int a, .int b]) h Q ↔ Q (.bl (isInt v a b)) h := by
  unfold m_is_integer
  rw [wp_def3]
  simp only [List.replicate, Nat.sub_self, wp_sRet, wp_eAnd, wp_callE, wp_aCons, wp_aNil, wp_var, atV_zero, atV_succ, wp_is_whole c, asB_bl, retOf]
  cases v with
  | int i =>
    simp only [if_true, wp_chn, wp_var, atV_zero, atV_succ, wp_le, asB_bl, isInt]
    by_cases c1 : a ≤ i
    · simp [c1, wp_cut_bl]
    · simp [c1, wp_cut_bl]
  | cell i => exact absurd rfl (c.c i)
  | lam i => exact absurd rfl (c.l i)
  | fn i => exact absurd rfl (c.f i)
  | _ => simp [isInt, wp_cut_bl]
def mvV (p : Int × Int) : MV := .tup [.int p.1, .int p.2]
def intsV (o : List Int) : MV := .tup (o.map .int)
def movesV (m : List (Int × Int)) : MV := .tup (m.map mvV)
def gameV (o : List Int) (m : List (Int × Int)) : MV := .tup [intsV o, movesV m]
def lexP (p q : Int × Int) : Bool := decide (p.1 < q.1) || (decide (p.1 = q.1) && decide (p.2 < q.2))
theorem noC_mv {p : Int × Int} : noC (mvV p) := ⟨fun i e => (by cases e), fun i e => (by cases e), fun i e => (by cases e)⟩
theorem noC_int {p : Int} : noC (.int p) := ⟨fun i e => (by cases e), fun i e => (by cases e), fun i e => (by cases e)⟩
theorem noC_tup {p : List MV} : noC (.tup p) := ⟨fun i e => (by cases e), fun i e => (by cases e), fun i e => (by cases e)⟩
theorem small3 {n : Nat} (h : n ≤ 100000) : n ≤ sizeLine := Nat.le_trans h (by decide)
theorem wp_is_move {p : Int × Int} {n : Int} (hp : 0 ≤ p.1 ∧ p.1 ≤ n - 1 ∧ 0 ≤ p.2 ∧ p.2 ≤ n - 1) (q : Q (.bl true) h) : Wp (m_is_move [mvV p, .int n]) h Q := by
  unfold m_is_move
  rw [wp_def2]
  simp only [List.replicate, wp_sRet, wp_eAnd, wp_callE (m := m_is_tuple), wp_aCons, wp_aNil, wp_var, wp_con, atV_zero, atV_succ, wp_is_tuple noC_mv, asB_bl, retOf]
  rw [show isTup (mvV p) 2 2 = true by simp [isTup, mvV], if_pos rfl]
  refine wp_bComp [.int p.1, .int p.2] (fun v => isInt v 0 (n - 1)) (by simp [wp_seqI, wp_var, atV_zero, mvV, wp_itI_tup]) (small3 (by simp)) (fun v hv t => ?_) ?_
  · have hc : noC v := by
      rcases List.mem_cons.mp hv with rfl | hv
      · exact noC_int
      · rw [List.mem_singleton.mp hv]; exact noC_int
    simp only [wp_gN, wipeE, List.set, wp_callE, wp_aCons, wp_aNil, wp_var, atV_zero, atV_succ, wp_con, wp_bin, wp_sub, wp_is_integer hc, and_self]
  · simp [isInt, hp, wp_cut_bl, q]
theorem cut_one (xs : List MV) : cutA xs (some 1) none = xs.drop 1 := by
  unfold cutA
  rw [show HT.sIx xs.length 0 (some 1) = min 1 xs.length from HT.sIx_nat xs.length 0 1, HT.sIx_none]
  cases xs with
  | nil => rfl
  | cons x r =>
    rw [show min 1 (x :: r).length = 1 by simp]
    simp
theorem zip_pair {m : List (Int × Int)} {R : Int × Int → Int × Int → Prop} (hm : m.Pairwise R) {p q : Int × Int} (h : (p, q) ∈ m.zip (m.drop 1)) : R p q := by
  obtain ⟨i, hi, e⟩ := List.getElem_of_mem h
  have h1 : i < m.length := by simp at hi; omega
  have h2 : i + 1 < m.length := by simp at hi; omega
  simp only [List.getElem_zip, List.getElem_drop] at e
  cases e
  exact List.pairwise_iff_getElem.mp hm i (1 + i) h1 (by omega) (by omega)
theorem lex_of (p q : Int × Int) : HT.lexLt [p.1, p.2] [q.1, q.2] = lexP p q := by
  unfold lexP
  show (if p.1 = q.1 then (if p.2 = q.2 then false else decide (p.2 < q.2)) else decide (p.1 < q.1)) = _
  by_cases d : p.1 = q.1
  · rw [if_pos d]
    by_cases e : p.2 = q.2
    · rw [if_pos e]; simp [d, e]
    · rw [if_neg e]; simp [d]
  · rw [if_neg d]; simp [d]
theorem wp_is_rising {m : List (Int × Int)} (hm : m.Pairwise fun p q => lexP p q = true) (few : m.length ≤ 1000) (q : Q (.bl true) h) : Wp (m_is_rising [movesV m]) h Q := by
  unfold m_is_rising
  rw [wp_def1]
  simp only [List.replicate, wp_sRet, retOf]
  refine wp_bComp (zipV (m.map mvV) ((m.drop 1).map mvV)) (fun v => true) ?_ ?_ (fun v hv t => ?_) ?_
  · simp only [wp_zipI, wp_var, atV_zero, wp_slE, wp_oSome, wp_con, asI_int, wp_oNone, movesV]
    show Wp (M.pure (MV.tup (cutA (m.map mvV) (some 1) none))) h _
    rw [wp_pure]
    simp only [wp_itI_tup]
    exact ⟨by rw [cut_one, List.map_drop], trivial⟩
  · refine small3 ?_
    simp [zipV]; omega
  · unfold zipV at hv
    rw [List.zip_map, List.map_map] at hv
    obtain ⟨⟨p, q⟩, hpq, rfl⟩ := List.mem_map.mp hv
    have e := zip_pair hm hpq
    simp only [Function.comp, Prod.map]
    simp only [wp_gT, List.length_cons, List.length_nil, true_and, wp_gsCons, wp_gN, wp_gsNil, wipeE, List.set, wp_bin, wp_var, atV_zero, atV_succ]
    show Wp (match intsOf [MV.int p.1, MV.int p.2], intsOf [MV.int q.1, MV.int q.2] with | some ns, some ms => M.pure (MV.bl (HT.lexLt ns ms)) | _, _ => M.stuck) _ _
    simp only [intsOf, Option.map_some, wp_pure, lex_of, e, and_self]
  · have e : ∀ l : List MV, (l.map fun _ => true).all id = true := fun l => by simp
    rw [e, wp_cut_bl]; exact q
structure Game (o : List Int) (m : List (Int × Int)) : Prop where
  o1 : 1 ≤ o.length
  o12 : o.length ≤ 12
  own : ∀ x ∈ o, x = 0 ∨ x = 1
  m1 : 1 ≤ m.length
  m60 : m.length ≤ 60
  rng : ∀ p ∈ m, 0 ≤ p.1 ∧ p.1 ≤ (o.length : Int) - 1 ∧ 0 ≤ p.2 ∧ p.2 ≤ (o.length : Int) - 1
  ris : m.Pairwise fun p q => lexP p q = true
  all : ∀ i : Nat, i < o.length → (i : Int) ∈ m.map (·.1)
theorem srt_range {l : List Int} {n : Nat} (h1 : ∀ x ∈ l, 0 ≤ x ∧ x ≤ (n : Int) - 1) (h2 : ∀ i : Nat, i < n → (i : Int) ∈ l) : (srtU id l).map MV.int = rgA 0 n := by
  have e : (List.range n).map (fun i : Nat => (i : Int)) = srtU id l := by
    refine srtU_unique (f := id) (fun _ _ _ _ e => e) (fun a => ⟨fun ha => ?_, fun ha => ?_⟩) ?_
    · obtain ⟨i, hi, rfl⟩ := List.mem_map.mp ha
      exact h2 i (List.mem_range.mp hi)
    · obtain ⟨c1, c2⟩ := h1 a ha
      exact List.mem_map.mpr ⟨a.toNat, List.mem_range.mpr (by omega), by omega⟩
    · refine List.pairwise_map.mpr (List.pairwise_lt_range.imp fun {a b} h => ?_)
      show (a : Int) < b
      omega
  rw [← e]
  unfold rgA
  simp
def fstV : MV → Option MV
  | .tup (x :: _) => some x
  | _ => none
theorem firsts_of : ∀ m : List (Int × Int), (m.map mvV).filterMap fstV = (m.map (·.1)).map MV.int
  | [] => rfl
  | p :: m => by rw [List.map_cons, List.filterMap_cons_some (show fstV (mvV p) = some (.int p.1) from rfl), firsts_of m]; rfl
theorem wp_is_map {o : List Int} {m : List (Int × Int)} (G : Game o m) (q : Q (.bl true) h) : Wp (m_is_map [gameV o m]) h Q := by
  unfold m_is_map
  rw [wp_def1]
  simp only [List.replicate, wp_sSeq, wp_sIf, wp_bOr, wp_bNot, wp_tst, wp_callE (m := m_is_tuple), wp_aCons, wp_aNil, wp_var, wp_con, atV_zero, atV_succ, asB_bl, wp_is_tuple (show noC (gameV o m) from noC_tup), wp_bin, retOf]
  have e1 : isTup (gameV o m) 2 2 = true := by simp [isTup, gameV]
  have e2 : isTup (intsV o) 1 12 = true := by have := G.o1; have := G.o12; simp [isTup, intsV]; omega
  have e3 : isTup (movesV m) 1 60 = true := by have := G.m1; have := G.m60; simp [isTup, movesV]; omega
  simp only [e1, Bool.not_true, if_false, Bool.false_eq_true]
  show Wp (ixM (.tup [intsV o, movesV m]) (.int 0)) h _
  rw [wp_ix_tup]
  refine ⟨intsV o, rfl, ?_⟩
  simp only [wp_is_tuple (show noC (intsV o) from noC_tup), asB_bl, e2, Bool.not_true, if_false, Bool.false_eq_true, wp_sNil, asN_nx, wp_sAsg, wp_var, atV_zero, gameV, wp_gT, List.length_cons, List.length_nil, true_and, wp_gsCons, wp_gN, wp_gsNil, List.set]
  refine wp_bComp (o.map .int) (fun v => true) (by simp [wp_seqI, wp_var, atV_zero, atV_succ, intsV, wp_itI_tup]) (small3 (by have := G.o12; simp; omega)) (fun v hv t => ?_) ?_
  · obtain ⟨x, hx, rfl⟩ := List.mem_map.mp hv
    have e : isInt (.int x) 0 1 = true := by rcases G.own x hx with rfl | rfl <;> rfl
    simp only [wp_gN, wipeE, List.set, wp_callE, wp_aCons, wp_aNil, wp_var, atV_zero, atV_succ, wp_con, wp_is_integer noC_int, e, and_self]
  have all1 : ∀ l : List MV, (l.map fun _ => true).all id = true := fun l => by simp
  simp only [all1, asB_bl, Bool.not_true, if_false, Bool.false_eq_true, atV_zero, atV_succ, wp_is_tuple (show noC (movesV m) from noC_tup), e3, wp_sNil, asN_nx]
  refine wp_bComp (m.map mvV) (fun v => true) (by simp [wp_seqI, wp_var, atV_zero, atV_succ, movesV, wp_itI_tup]) (small3 (by have := G.m60; simp; omega)) (fun v hv t => ?_) ?_
  · obtain ⟨p, hp, rfl⟩ := List.mem_map.mp hv
    simp only [wp_gN, wipeE, List.set, wp_callE, wp_aCons, wp_aNil, wp_var, atV_zero, atV_succ, wp_con, intsV, wp_len_tup, List.length_map]
    exact wp_is_move (G.rng p hp) ⟨rfl, rfl⟩
  simp only [all1, asB_bl, Bool.not_true, if_false, Bool.false_eq_true, wp_callE, wp_aCons, wp_aNil, wp_var, atV_zero, atV_succ]
  refine wp_is_rising G.ris (by have := G.m60; omega) ?_
  simp only [asB_bl, Bool.not_true, if_false, Bool.false_eq_true, wp_sNil, asN_nx, wp_sRet, wp_bin, wp_una]
  refine wp_comp (m.map mvV) fstV (by simp [wp_seqI, wp_var, atV_zero, atV_succ, movesV, wp_itI_tup]) (small3 (by have := G.m60; simp; omega)) (fun v hv t => ?_) ?_
  · obtain ⟨p, hp, rfl⟩ := List.mem_map.mp hv
    simp only [wp_gN, wipeE, List.set]
    show Wp (M.pure true) _ _
    rw [wp_pure, if_pos rfl]
    simp only [wp_bin, wp_var, atV_zero, atV_succ, wp_con, mvV, wp_ix_tup]
    exact ⟨.int p.1, rfl, trivial, rfl, by simp [MV.free]⟩
  rw [firsts_of]
  show Wp (match intsOf ((m.map (·.1)).map MV.int) with | some ns => if ns.length < 64 then newL false ((srtU id ns).map .int) else M.stuck | none => M.stuck) h _
  rw [intsOf_map]
  have few : (m.map (·.1)).length < 64 := by have := G.m60; simp; omega
  simp only [if_pos few, wp_newF]
  simp only [wp_rgE, wp_con, wp_callE, wp_aCons, wp_aNil, wp_var, atV_zero, atV_succ, intsV, wp_len_tup, asI_int, List.length_map]
  have ok : rgOk 0 o.length = true := by have := G.o12; unfold rgOk; simp; omega
  unfold rgF
  rw [if_pos ok]
  simp only [wp_newF]
  rw [srt_range (n := o.length) (fun x hx => ?_) G.all]
  · refine (wp_eq_same (fun _ e => by cases e) (sh_lst (n := 0) fun v hv => ?_) (by decide)).mpr ?_
    · unfold rgA at hv
      obtain ⟨i, _, rfl⟩ := List.mem_map.mp hv
      exact sh_int
    · exact (wp_cut_bl).mpr q
  · obtain ⟨p, hp, rfl⟩ := List.mem_map.mp hx
    exact ⟨(G.rng p hp).1, (G.rng p hp).2.1⟩
theorem wp_check_map {o : List Int} {m : List (Int × Int)} (G : Game o m) (q : Q .non h) : Wp (m_check_map [gameV o m]) h Q := by
  unfold m_check_map
  rw [wp_def1]
  simp only [List.replicate, wp_sIf, wp_bNot, wp_tst, wp_callE, wp_aCons, wp_aNil, wp_var, atV_zero]
  refine wp_is_map G ?_
  simp only [asB_bl, Bool.not_true, if_false, Bool.false_eq_true, wp_sNil, retOf]
  exact wp_cut_non.mpr q
def waysOf (m : List (Int × Int)) (pz : List Int) (v : Int) : List (Int × Int) := (m.zip pz).filterMap fun e => if e.1.1 = v then some (e.1.2, e.2) else none
def wRows (m : List (Int × Int)) (pz : List Int) (n : Nat) : List (List MV) := (List.range n).map fun i : Nat => (waysOf m pz (i : Int)).map mvV
def wV (m : List (Int × Int)) (pz : List Int) (n : Nat) : MV := .lst ((wRows m pz n).map .lst)
theorem free_mvs : ∀ l : List (Int × Int), MV.freeAll (l.map mvV) = true
  | [] => rfl
  | p :: l => by simp [MV.freeAll, mvV, MV.free, free_mvs l]
theorem free_ints : ∀ l : List Int, MV.freeAll (l.map .int) = true
  | [] => rfl
  | p :: l => by simp [MV.freeAll, MV.free, free_ints l]
theorem free_lsts : ∀ l : List (List MV), (∀ r ∈ l, MV.freeAll r = true) → MV.freeAll (l.map .lst) = true
  | [], _ => rfl
  | p :: l, f => by simp only [List.map_cons, MV.freeAll, MV.free, Bool.and_eq_true]; exact ⟨f p (by simp), free_lsts l fun r hr => f r (List.mem_cons_of_mem _ hr)⟩
theorem wRows_free {m : List (Int × Int)} {pz : List Int} {n : Nat} : ∀ r ∈ wRows m pz n, MV.freeAll r = true := fun r hr => by
  obtain ⟨i, _, rfl⟩ := List.mem_map.mp hr
  exact free_mvs _
theorem ways_snoc (m : List (Int × Int)) (pz : List Int) (i : Nat) (p : Int × Int) (z : Int) (hm : m[i]? = some p) (hz : pz[i]? = some z) (v : Int) :
    waysOf (m.take (i + 1)) (pz.take (i + 1)) v = waysOf (m.take i) (pz.take i) v ++ if p.1 = v then [(p.2, z)] else [] := by
  unfold waysOf
  rw [List.take_add_one, hm, List.take_add_one, hz, List.zip_append (by
    have h1 := (List.getElem?_eq_some_iff.mp hm).1
    have h2 := (List.getElem?_eq_some_iff.mp hz).1
    simp; omega)]
  rw [List.filterMap_append]
  congr 1
  by_cases c : p.1 = v <;> simp [c]
theorem free_lst {xs : List MV} (f : MV.freeAll xs = true) : (MV.lst xs).free = true := by simpa only [MV.free] using f
theorem free_tup {xs : List MV} (f : MV.freeAll xs = true) : (MV.tup xs).free = true := by simpa only [MV.free] using f
theorem ways_len (m : List (Int × Int)) (pz : List Int) (v : Int) : (waysOf m pz v).length ≤ m.length := by
  unfold waysOf
  refine Nat.le_trans (List.length_filterMap_le _ _) ?_
  simp; omega
def oV : Option Int → MV
  | none => .non
  | some i => .int i
def want (p : Option Int) (z : Int) : Option Int := p.map fun x => max 0 (x - z)
def chosen (owner : Int) (l : List (Option Int)) : Option Int :=
  if owner = 0 then (match l.filterMap id with
    | [] => none
    | a :: r => some (minL a r))
  else if (l.filterMap id).length = l.length then (match l.filterMap id with
    | [] => none
    | a :: r => some (maxL a r)) else none
theorem noC_o (p : Option Int) : noC (oV p) := ⟨fun i e => (by cases p <;> cases e), fun i e => (by cases p <;> cases e), fun i e => (by cases p <;> cases e)⟩
theorem free_o (p : Option Int) : (oV p).free = true := by cases p <;> simp [oV, MV.free]
theorem free_os : ∀ l : List (Option Int), MV.freeAll (l.map oV) = true
  | [] => rfl
  | p :: l => by simp only [List.map_cons, MV.freeAll, free_o, free_os l]; rfl
theorem wp_cut_o {p : Option Int} : Wp (cutv h.length (oV p)) h Q ↔ Q (oV p) h := wp_cut0 (free_o p)
theorem known_of (l : List (Option Int)) : (l.map oV).filterMap (fun v => if v.isNon then none else some v) = (l.filterMap id).map MV.int := by
  induction l with
  | nil => rfl
  | cons a l ih =>
    cases a with
    | none => exact ih
    | some x => exact congrArg (MV.int x :: ·) ih
theorem sized_nil : sized [] = true := rfl
theorem at_ints {l : List Int} {i : Nat} {x : Int} (e : l[i]? = some x) : atI (l.map MV.int) (i : Int) = some (.int x) := by
  have hi := (List.getElem?_eq_some_iff.mp e).1
  rw [atI_nat (by omega) (by simp; omega), List.getElem?_map, show ((i : Int)).toNat = i by omega, e]; rfl
theorem at_os {l : List (Option Int)} {i : Int} (h0 : 0 ≤ i) (h1 : i < l.length) : atI (l.map oV) i = some (oV ((l[i.toNat]?).join)) := by
  rw [atI_nat h0 (by simpa using h1), List.getElem?_map, List.getElem?_eq_getElem (show i.toNat < l.length by omega)]; rfl
theorem at_rows {m : List (Int × Int)} {pz : List Int} {n i : Nat} (hi : i < n) : atI ((wRows m pz n).map MV.lst) (i : Int) = some (.lst ((waysOf m pz i).map mvV)) := by
  rw [atI_nat (by omega) (by unfold wRows; simp; omega), show ((i : Int)).toNat = i by omega]
  unfold wRows
  rw [List.getElem?_map, List.getElem?_map, List.getElem?_range hi]; rfl
def look (F : List (Option Int)) (i : Int) : Option Int := (F[i.toNat]?).join
def lift1 (o : List Int) (m : List (Int × Int)) (pz : List Int) (F : List (Option Int)) (v : Nat) : Option Int :=
  chosen (o.getD v 0) ((waysOf m pz v).map fun e => want (look F e.1) e.2)
theorem ways_rng {o : List Int} {m : List (Int × Int)} (G : Game o m) (pz : List Int) (v : Int) : ∀ e ∈ waysOf m pz v, 0 ≤ e.1 ∧ e.1 < o.length := by
  intro e he
  unfold waysOf at he
  obtain ⟨x, hx, hy⟩ := List.mem_filterMap.mp he
  by_cases c : x.1.1 = v
  · rw [if_pos c] at hy
    cases hy
    have := G.rng x.1 (List.of_mem_zip hx).1
    exact ⟨this.2.2.1, by have := this.2.2.2; show x.1.2 < _; omega⟩
  · rw [if_neg c] at hy; cases hy
theorem ways_ne {o : List Int} {m : List (Int × Int)} (G : Game o m) {pz : List Int} (hl : pz.length = m.length) {v : Nat} (hv : v < o.length) : waysOf m pz v ≠ [] := by
  obtain ⟨p, hp, e⟩ := List.mem_map.mp (G.all v hv)
  obtain ⟨i, hi, e2⟩ := List.getElem_of_mem hp
  have hm : (p, pz[i]'(by omega)) ∈ m.zip pz := by
    refine List.mem_iff_getElem?.mpr ⟨i, ?_⟩
    rw [List.getElem?_zip_eq_some]
    exact ⟨by rw [List.getElem?_eq_getElem hi, e2], List.getElem?_eq_getElem _⟩
  intro z
  unfold waysOf at z
  rw [List.filterMap_eq_nil_iff] at z
  have := z _ hm
  simp [e] at this
def stepF (o : List Int) (m : List (Int × Int)) (pz : List Int) (F : List (Option Int)) : List (Option Int) := (List.range o.length).map fun v => lift1 o m pz F v
def iterF (o : List Int) (m : List (Int × Int)) (pz : List Int) : Nat → List (Option Int)
  | 0 => List.replicate o.length (some 0)
  | k + 1 => stepF o m pz (iterF o m pz k)
theorem stepF_len {o : List Int} {m : List (Int × Int)} {pz : List Int} {F : List (Option Int)} : (stepF o m pz F).length = o.length := by unfold stepF; simp
theorem iterF_len {o : List Int} {m : List (Int × Int)} {pz : List Int} : ∀ k, (iterF o m pz k).length = o.length
  | 0 => by unfold iterF; simp
  | k + 1 => by unfold iterF; exact stepF_len
theorem rgA_len (n : Nat) : (rgA 0 n).length = n := by unfold rgA; simp
theorem rgA_get {n i : Nat} {v : MV} (e : (rgA 0 n)[i]? = some v) : v = .int (i : Nat) ∧ i < n := by
  have hi := (List.getElem?_eq_some_iff.mp e).1
  rw [rgA_len] at hi
  rw [rgA_at (by rw [rgA_len]; exact hi)] at e
  cases e
  exact ⟨by rw [Int.zero_add], hi⟩
theorem mem_rgA {n : Nat} {v : MV} (e : v ∈ rgA 0 n) : ∃ i : Nat, v = .int i ∧ i < n := by
  obtain ⟨i, hi, e2⟩ := List.getElem_of_mem e
  obtain ⟨e3, h3⟩ := rgA_get (n := n) (i := i) (v := v) (List.getElem?_eq_some_iff.mpr ⟨hi, e2⟩)
  exact ⟨i, e3, h3⟩
def liftV (o : List Int) (m : List (Int × Int)) (pz : List Int) (F : List (Option Int)) : MV → Option MV
  | .int a => some (oV (lift1 o m pz F a.toNat))
  | _ => none
theorem zeros (n : Nat) : (List.replicate n [MV.int 0]).flatten = (List.replicate n (some (0 : Int))).map oV := by
  induction n with
  | zero => rfl
  | succ n ih => rw [List.replicate_succ, List.flatten_cons, ih, List.replicate_succ, List.map_cons]; rfl
theorem wp_zeros {mt : Bool} {n : Nat} (hn : n ≤ 1000) : Wp (mulM mt (.lst [.int 0]) (.int n)) h Q ↔ Wp (newL mt ((List.replicate n (some (0 : Int))).map oV)) h Q := by
  show Wp (repM mt [.int 0] n) h Q ↔ _
  unfold repM
  rw [wp_ite, if_pos ⟨by omega, by omega, by
    rw [show ((n : Int)).toNat = n by omega]
    exact Nat.le_trans (by simp; omega) (show 1000 ≤ sizeLine by decide)⟩, show ((n : Int)).toNat = n by omega, zeros]
def PotC (N : Int) (p : List MV) : Prop := ∃ a b c : Int, p = [.int a, .int b, .int c] ∧ 0 ≤ a ∧ 0 ≤ b ∧ b < 2305843009213693921 ∧ 0 ≤ c ∧ c ≤ N
theorem PotC.mono {N N' : Int} {p : List MV} (h : PotC N p) (l : N ≤ N') : PotC N' p := by
  obtain ⟨a, b, c, e, h1, h2, h3, h4, h5⟩ := h
  exact ⟨a, b, c, e, h1, h2, h3, h4, by omega⟩
theorem fmod_bounds {a u : Int} (hu : 0 < u) : 0 ≤ a.fmod u ∧ a.fmod u < u := ⟨Int.fmod_nonneg_of_pos a hu, Int.fmod_lt_of_pos a hu⟩
theorem prime_at {k : Int} (h0 : 0 ≤ k) (h1 : k < 5) : ∃ p : Int, atI [MV.int 2147483647, .int 2147483629, .int 2147483587, .int 2147483579, .int 2147483563] k = some (.int p) ∧ 0 < p ∧ p < 2147483648 := by
  have : k = 0 ∨ k = 1 ∨ k = 2 ∨ k = 3 ∨ k = 4 := by omega
  rcases this with rfl | rfl | rfl | rfl | rfl
  · exact ⟨_, rfl, by decide, by decide⟩
  · exact ⟨_, rfl, by decide, by decide⟩
  · exact ⟨_, rfl, by decide, by decide⟩
  · exact ⟨_, rfl, by decide, by decide⟩
  · exact ⟨_, rfl, by decide, by decide⟩
theorem wp_take {i : Nat} {N u : Int} {p : List MV} (hc : cellL h i p) (hp : PotC N p) (hN : N ≤ 100000) (h1 : 1 ≤ u) (h2 : u ≤ 1000000)
    (q : ∀ r p', 0 ≤ r → r < u → PotC (N + 1) p' → Q (.int r) (h.set i (some (.lst p')))) : Wp (m__law_take [.cell i, .int u]) h Q := by
  obtain ⟨a, b, c, rfl, ha, hb, hb2, hc0, hcN⟩ := hp
  have hi := cell_lt hc
  have fr : ∀ x y z : Int, MV.freeAll [MV.int x, .int y, .int z] = true := fun x y z => by simp [MV.freeAll, MV.free]
  have fi : ∀ x : Int, (MV.int x).free = true := fun x => by simp [MV.free]
  have l3 : ∀ x y z : Int, [MV.int x, .int y, .int z].length ≤ sizeLine := fun x y z => small3 (by simp)
  have u0 : u ≠ 0 := by omega
  unfold m__law_take
  rw [wp_def2]
  simp only [wp_sSeq, wp_sExp, wp_sSet, wp_sRet, wp_sIf, wp_sAsg, wp_sFor, wp_sNil, wp_sRetN, wp_sPar, wp_bAnd, wp_bOr, wp_bNot, wp_tst, wp_iff, wp_eAnd, wp_eOr, wp_eNot, wp_chn, wp_bin, wp_una, wp_var, wp_con, wp_aCons, wp_aNil, wp_aStar, atV_zero, atV_succ, asN_nx, asN_rt, asB_bl, asI_int, List.set, List.replicate, retOf, if_true, if_false, Bool.false_eq_true, Bool.not_true, Bool.not_false, wp_gT, wp_gN, wp_gsCons, wp_gsNil, wp_gSub, List.length_cons, List.length_nil, true_and, wipeE, wp_le, wp_lt, wp_gt, wp_ge, wp_sub, wp_add, wp_neg, wp_ix_tup, wp_ix_lst, ix0, ix1, Option.some.injEq, exists_eq_left', wp_len_tup, wp_len_lst, wp_itI_tup, wp_itI_lst, wp_seqI, wp_enumI, wp_zipI, wp_cut_bl, wp_cut_int, wp_cut_non, wp_metL, wp_isL_lst, wp_slE, wp_oSome, wp_oNone, wp_tupD, wp_lstD, wp_newF, wp_is_non, wp_callE (m := lenM), List.length_map, MV.isNon, wp_eq_int, wp_ix_cell hc, ix2]
  by_cases pos : (0 : Int) < a
  · simp only [pos, decide_true, wp_sSeq, wp_sExp, wp_sSet, wp_sRet, wp_sIf, wp_sAsg, wp_sFor, wp_sNil, wp_sRetN, wp_sPar, wp_bAnd, wp_bOr, wp_bNot, wp_tst, wp_iff, wp_eAnd, wp_eOr, wp_eNot, wp_chn, wp_bin, wp_una, wp_var, wp_con, wp_aCons, wp_aNil, wp_aStar, atV_zero, atV_succ, asN_nx, asN_rt, asB_bl, asI_int, List.set, List.replicate, retOf, if_true, if_false, Bool.false_eq_true, Bool.not_true, Bool.not_false, wp_gT, wp_gN, wp_gsCons, wp_gsNil, wp_gSub, List.length_cons, List.length_nil, true_and, wipeE, wp_le, wp_lt, wp_gt, wp_ge, wp_sub, wp_add, wp_neg, wp_ix_tup, wp_ix_lst, ix0, ix1, Option.some.injEq, exists_eq_left', wp_len_tup, wp_len_lst, wp_itI_tup, wp_itI_lst, wp_seqI, wp_enumI, wp_zipI, wp_cut_bl, wp_cut_int, wp_cut_non, wp_metL, wp_isL_lst, wp_slE, wp_oSome, wp_oNone, wp_tupD, wp_lstD, wp_newF, wp_is_non, wp_callE (m := lenM), List.length_map, MV.isNon, wp_eq_int, wp_callE, wp_ix_cell hc, wp_int_int, wp_mod u0, wp_fdiv (show u ≠ 0 ∧ u.natAbs < 1073741824 by omega)]
    rw [wp_set hc (fr _ _ _) (fi _) (l3 _ _ _) (by decide) (by simp)]
    rw [wp_cut_len (by simp) (fi _)]
    have fm := fmod_bounds (a := a) (show 0 < u by omega)
    exact q _ _ fm.1 fm.2 ⟨a.fdiv u, b, c, rfl, Int.fdiv_nonneg (by omega) (by omega), hb, hb2, hc0, by omega⟩
  · simp only [pos, decide_false, wp_sSeq, wp_sExp, wp_sSet, wp_sRet, wp_sIf, wp_sAsg, wp_sFor, wp_sNil, wp_sRetN, wp_sPar, wp_bAnd, wp_bOr, wp_bNot, wp_tst, wp_iff, wp_eAnd, wp_eOr, wp_eNot, wp_chn, wp_bin, wp_una, wp_var, wp_con, wp_aCons, wp_aNil, wp_aStar, atV_zero, atV_succ, asN_nx, asN_rt, asB_bl, asI_int, List.set, List.replicate, retOf, if_true, if_false, Bool.false_eq_true, Bool.not_true, Bool.not_false, wp_gT, wp_gN, wp_gsCons, wp_gsNil, wp_gSub, List.length_cons, List.length_nil, true_and, wipeE, wp_le, wp_lt, wp_gt, wp_ge, wp_sub, wp_add, wp_neg, wp_ix_tup, wp_ix_lst, ix0, ix1, Option.some.injEq, exists_eq_left', wp_len_tup, wp_len_lst, wp_itI_tup, wp_itI_lst, wp_seqI, wp_enumI, wp_zipI, wp_cut_bl, wp_cut_int, wp_cut_non, wp_metL, wp_isL_lst, wp_slE, wp_oSome, wp_oNone, wp_tupD, wp_lstD, wp_newF, wp_is_non, wp_callE (m := lenM), List.length_map, MV.isNon, wp_eq_int, wp_callE, wp_ix_cell hc, ix2]
    rw [wp_set hc (fr _ _ _) (fi _) (l3 _ _ _) (by decide) (by simp)]
    have hc2 : cellL (h.set i (some (.lst [.int a, .int b, .int (c + 1)]))) i [.int a, .int b, .int (c + 1)] := cell_set hi
    obtain ⟨pr, ep, p0, p1⟩ := prime_at (fmod_bounds (a := c + 1) (show (0 : Int) < 5 by decide)).1 (fmod_bounds (a := c + 1) (show (0 : Int) < 5 by decide)).2
    have cc : (c + 1) * (c + 1) ≤ 100001 * 100001 := Int.mul_le_mul (by omega) (by omega) (by omega) (by omega)
    have cc0 : 0 ≤ (c + 1) * (c + 1) := Int.mul_nonneg (by omega) (by omega)
    rw [show [MV.int a, .int b, .int c].set (2 : Int).toNat (.int (c + 1)) = [.int a, .int b, .int (c + 1)] from rfl]
    generalize hh : h.set i (some (.lst [.int a, .int b, .int (c + 1)])) = h' at hc2 ⊢
    have m1 : (small64 98306 || small64 (c + 1)) = true := by rw [small64_of (by decide) (by decide)]; rfl
    have m2 : (small64 (98306 * (c + 1)) || small64 (c + 1)) = true := by rw [small64_of (by omega) (by omega)]; rfl
    have b1 : 98306 * (c + 1) * (c + 1) ≤ 98306 * (100001 * 100001) := by rw [Int.mul_assoc]; omega
    have b0 : 0 ≤ 98306 * (c + 1) * (c + 1) := by rw [Int.mul_assoc]; omega
    have pw : (0 : Int) ≤ 3 ∧ (3 : Int) ≤ 1000 ∧ (b + 98306 * (c + 1) * (c + 1) + 56).natAbs < big256 := by
      refine ⟨by decide, by decide, ?_⟩
      have : (b + 98306 * (c + 1) * (c + 1) + 56).natAbs < 4000000000000000000 := by omega
      exact Nat.lt_trans this (by decide)
    simp only [wp_sSeq, wp_sExp, wp_sSet, wp_sRet, wp_sIf, wp_sAsg, wp_sFor, wp_sNil, wp_sRetN, wp_sPar, wp_bAnd, wp_bOr, wp_bNot, wp_tst, wp_iff, wp_eAnd, wp_eOr, wp_eNot, wp_chn, wp_bin, wp_una, wp_var, wp_con, wp_aCons, wp_aNil, wp_aStar, atV_zero, atV_succ, asN_nx, asN_rt, asB_bl, asI_int, List.set, List.replicate, retOf, if_true, if_false, Bool.false_eq_true, Bool.not_true, Bool.not_false, wp_gT, wp_gN, wp_gsCons, wp_gsNil, wp_gSub, List.length_cons, List.length_nil, true_and, wipeE, wp_le, wp_lt, wp_gt, wp_ge, wp_sub, wp_add, wp_neg, wp_ix_tup, wp_ix_lst, ix0, ix1, Option.some.injEq, exists_eq_left', wp_len_tup, wp_len_lst, wp_itI_tup, wp_itI_lst, wp_seqI, wp_enumI, wp_zipI, wp_cut_bl, wp_cut_int, wp_cut_non, wp_metL, wp_isL_lst, wp_slE, wp_oSome, wp_oNone, wp_tupD, wp_lstD, wp_newF, wp_is_non, wp_callE (m := lenM), List.length_map, MV.isNon, wp_eq_int, wp_callE, wp_ix_cell hc2, ix2, wp_int_int, wp_mod (show (5 : Int) ≠ 0 by decide), ep, wp_mul m1, wp_mul m2, wp_pow pw]
    refine ⟨rfl, ?_⟩
    rw [wp_mod (show pr ≠ 0 by omega)]
    generalize hB : ((b + 98306 * (c + 1) * (c + 1) + 56) ^ (3 : Int).toNat).fmod pr = B
    have fB := fmod_bounds (a := (b + 98306 * (c + 1) * (c + 1) + 56) ^ (3 : Int).toNat) p0
    rw [hB] at fB
    have m3 : ∀ x : Int, (small64 B || small64 x) = true := fun x => by rw [small64_of (by omega) (by omega)]; rfl
    have m4 : (small64 106 || small64 (c + 1)) = true := by rw [small64_of (by decide) (by decide)]; rfl
    simp only [wp_sSeq, wp_sExp, wp_sSet, wp_sRet, wp_sIf, wp_sAsg, wp_sFor, wp_sNil, wp_sRetN, wp_sPar, wp_bAnd, wp_bOr, wp_bNot, wp_tst, wp_iff, wp_eAnd, wp_eOr, wp_eNot, wp_chn, wp_bin, wp_una, wp_var, wp_con, wp_aCons, wp_aNil, wp_aStar, atV_zero, atV_succ, asN_nx, asN_rt, asB_bl, asI_int, List.set, List.replicate, retOf, if_true, if_false, Bool.false_eq_true, Bool.not_true, Bool.not_false, wp_gT, wp_gN, wp_gsCons, wp_gsNil, wp_gSub, List.length_cons, List.length_nil, true_and, wipeE, wp_le, wp_lt, wp_gt, wp_ge, wp_sub, wp_add, wp_neg, wp_ix_tup, wp_ix_lst, ix0, ix1, Option.some.injEq, exists_eq_left', wp_len_tup, wp_len_lst, wp_itI_tup, wp_itI_lst, wp_seqI, wp_enumI, wp_zipI, wp_cut_bl, wp_cut_int, wp_cut_non, wp_metL, wp_isL_lst, wp_slE, wp_oSome, wp_oNone, wp_tupD, wp_lstD, wp_newF, wp_is_non, wp_callE (m := lenM), List.length_map, MV.isNon, wp_eq_int, wp_callE, wp_ix_cell hc2, ix2, wp_int_int, wp_mod (show (10013 : Int) ≠ 0 by decide), wp_mod (show (2305843009213693907 : Int) ≠ 0 by decide), wp_mul m4, wp_mul (m3 _), wp_fdiv (show (133 : Int) ≠ 0 ∧ (133 : Int).natAbs < 1073741824 by decide), wp_mod u0]
    rw [wp_cut_len (by rw [← hh]; simp) (fi _), ← hh]
    generalize ((B * (B.fmod 10013 + 106 * (c + 1))).fmod 2305843009213693907).fdiv 133 = Z
    have fZ := fmod_bounds (a := Z) (show 0 < u by omega)
    exact q _ _ fZ.1 fZ.2 ⟨a, b, c + 1, rfl, ha, hb, hb2, by omega, by omega⟩
theorem wp_pot {ns : List Int} {k : Nat} (hn : ns.length ≤ 63) (hk : k ≤ 63) (q : ∀ p, PotC 0 p → Q (.cell h.length) (h ++ [some (.lst p)])) : Wp (m__law_pot [.scr (ns.map .int), .int k]) h Q := by
  unfold m__law_pot
  rw [wp_def2, wp_sSeq, wp_sSet]
  have p1 : (0 : Int) ≤ 60 ∧ (60 : Int) ≤ 1000 ∧ (10 : Int).natAbs < big256 := by decide
  have p2 : (0 : Int) ≤ 5 ∧ (5 : Int) ≤ 1000 ∧ ((10 : Int) ^ (60 : Int).toNat).natAbs < big256 := by decide +kernel
  have p3 : (0 : Int) ≤ 18 ∧ (18 : Int) ≤ 1000 ∧ (10 : Int).natAbs < big256 := by decide
  have big : ((10 : Int) ^ (60 : Int).toNat) ^ (5 : Int).toNat > 0 := by decide +kernel
  have ms : ∀ (x : Int) (b : Bool), (small64 x || small64 (if b = true then 1 else 0)) = true := fun x b => by
    rw [small64_of (i := if b = true then 1 else 0) (by split <;> decide) (by split <;> decide), Bool.or_true]
  have mr : ∀ (x y : Int), -1000000000 ≤ y → y ≤ 1000000000 → (small64 x || small64 y) = true := fun x y a b => by rw [small64_of (i := y) (by omega) (by omega), Bool.or_true]
  have kk : (k : Int) ≤ 63 := by omega
  have k2 : 8674 * (k : Int) * k ≤ 8674 * 63 * 63 := Int.mul_le_mul (by omega) kk (by omega) (by omega)
  have k20 : 0 ≤ 8674 * (k : Int) * k := Int.mul_nonneg (by omega) (by omega)
  have tail : ∀ c : Int, Wp (sSeq (sSet 3 (bin (mulM false) (bin modM (callE intM (aCons (callE absM (aCons (var 2) aNil)) aNil)) (bin powM (bin powM (con (.int 10)) (con (.int 60))) (con (.int 5)))) (callE intM (aCons (bin geM (callE absM (aCons (var 2) aNil)) (bin powM (con (.int 10)) (con (.int 18)))) aNil)))) (sSeq (sSet 4 (bin modM (callE intM (aCons (var 2) aNil)) (con (.int 2305843009213693951)))) (sRet (lstD true (aCons (var 3) (aCons (bin modM (callE intM (aCons (bin (addM false) (bin (addM false) (bin (mulM false) (var 4) (con (.int 105020))) (bin (mulM false) (bin (mulM false) (con (.int 8674)) (var 1)) (var 1))) (con (.int 122))) aNil)) (con (.int 2305843009213693921))) (aCons (con (.int 0)) aNil)))))) [some (.scr (ns.map .int)), some (.int k), some (.int c), none, none]) h fun f h1 => Wp (cutv h.length (retOf f)) h1 Q := fun c => by
    simp only [wp_sSeq, wp_sExp, wp_sSet, wp_sRet, wp_sIf, wp_sAsg, wp_sFor, wp_sNil, wp_sRetN, wp_sPar, wp_bAnd, wp_bOr, wp_bNot, wp_tst, wp_iff, wp_eAnd, wp_eOr, wp_eNot, wp_chn, wp_bin, wp_una, wp_var, wp_con, wp_aCons, wp_aNil, wp_aStar, atV_zero, atV_succ, asN_nx, asN_rt, asB_bl, asI_int, List.set, List.replicate, retOf, if_true, if_false, Bool.false_eq_true, Bool.not_true, Bool.not_false, wp_gT, wp_gN, wp_gsCons, wp_gsNil, wp_gSub, List.length_cons, List.length_nil, true_and, wipeE, wp_le, wp_lt, wp_gt, wp_ge, wp_sub, wp_add, wp_neg, wp_ix_tup, wp_ix_lst, ix0, ix1, Option.some.injEq, exists_eq_left', wp_len_tup, wp_len_lst, wp_itI_tup, wp_itI_lst, wp_seqI, wp_enumI, wp_zipI, wp_cut_bl, wp_cut_int, wp_cut_non, wp_metL, wp_isL_lst, wp_slE, wp_oSome, wp_oNone, wp_tupD, wp_lstD, wp_newF, wp_is_non, wp_callE (m := lenM), List.length_map, MV.isNon, wp_eq_int, wp_callE, wp_abs, wp_int_int, wp_int_bl, wp_pow p1, wp_pow p2, wp_pow p3, wp_mod (show (2305843009213693951 : Int) ≠ 0 by decide), wp_mod (show (2305843009213693921 : Int) ≠ 0 by decide), wp_mul (mr _ 105020 (by decide) (by decide)), wp_mul (mr 8674 k (by omega) (by omega)), wp_mul (mr (8674 * k) k (by omega) (by omega)), wp_mod (show ((10 : Int) ^ (60 : Int).toNat) ^ (5 : Int).toNat ≠ 0 by omega), wp_mul (ms _ _)]
    refine ⟨rfl, ?_⟩
    rw [wp_newT, wp_cutv_raw, if_neg (by simp [MV.free])]
    generalize hP : ((10 : Int) ^ (60 : Int).toNat) ^ (5 : Int).toNat = P at big ⊢
    refine q _ ⟨_, _, 0, rfl, ?_, (fmod_bounds (by decide)).1, (fmod_bounds (by decide)).2, by decide, by decide⟩
    refine Int.mul_nonneg (fmod_bounds (by omega)).1 ?_
    split <;> omega
  have key : ∀ v h', (∃ c : Int, v = .int c) ∧ h' = h → asN (.nx ((some (MV.scr (ns.map .int)) :: some (MV.int k) :: List.replicate (5 - 2) none).set 2 (some v))) (fun env' => Wp (sSeq (sSet 3 (bin (mulM false) (bin modM (callE intM (aCons (callE absM (aCons (var 2) aNil)) aNil)) (bin powM (bin powM (con (.int 10)) (con (.int 60))) (con (.int 5)))) (callE intM (aCons (bin geM (callE absM (aCons (var 2) aNil)) (bin powM (con (.int 10)) (con (.int 18)))) aNil)))) (sSeq (sSet 4 (bin modM (callE intM (aCons (var 2) aNil)) (con (.int 2305843009213693951)))) (sRet (lstD true (aCons (var 3) (aCons (bin modM (callE intM (aCons (bin (addM false) (bin (addM false) (bin (mulM false) (var 4) (con (.int 105020))) (bin (mulM false) (bin (mulM false) (con (.int 8674)) (var 1)) (var 1))) (con (.int 122))) aNil)) (con (.int 2305843009213693921))) (aCons (con (.int 0)) aNil)))))) env') h' fun f h1 => Wp (cutv h.length (retOf f)) h1 Q) fun v => Wp (cutv h.length (retOf (.rt v))) h' Q := by
    rintro v h' ⟨⟨c, rfl⟩, rfl⟩
    exact tail c
  refine Wp.mono ?_ key
  by_cases c : (k : Int) < (ns.length : Nat)
  · have hk2 : k < ns.length := by omega
    have e : atI (ns.map MV.int) (k : Int) = some (.int ns[k]) := at_ints (List.getElem?_eq_getElem hk2)
    simp only [wp_sSeq, wp_sExp, wp_sSet, wp_sRet, wp_sIf, wp_sAsg, wp_sFor, wp_sNil, wp_sRetN, wp_sPar, wp_bAnd, wp_bOr, wp_bNot, wp_tst, wp_iff, wp_eAnd, wp_eOr, wp_eNot, wp_chn, wp_bin, wp_una, wp_var, wp_con, wp_aCons, wp_aNil, wp_aStar, atV_zero, atV_succ, asN_nx, asN_rt, asB_bl, asI_int, List.set, List.replicate, retOf, if_true, if_false, Bool.false_eq_true, Bool.not_true, Bool.not_false, wp_gT, wp_gN, wp_gsCons, wp_gsNil, wp_gSub, List.length_cons, List.length_nil, true_and, wipeE, wp_le, wp_lt, wp_gt, wp_ge, wp_sub, wp_add, wp_neg, wp_ix_tup, wp_ix_lst, ix0, ix1, Option.some.injEq, exists_eq_left', wp_len_tup, wp_len_lst, wp_itI_tup, wp_itI_lst, wp_seqI, wp_enumI, wp_zipI, wp_cut_bl, wp_cut_int, wp_cut_non, wp_metL, wp_isL_lst, wp_slE, wp_oSome, wp_oNone, wp_tupD, wp_lstD, wp_newF, wp_is_non, wp_callE (m := lenM), List.length_map, MV.isNon, wp_eq_int, wp_len_scr, c, decide_true, wp_ix_scr, e]
    exact ⟨⟨_, rfl⟩, trivial⟩
  · obtain ⟨xs, ex⟩ := cut_map ns none (some 1)
    simp only [wp_sSeq, wp_sExp, wp_sSet, wp_sRet, wp_sIf, wp_sAsg, wp_sFor, wp_sNil, wp_sRetN, wp_sPar, wp_bAnd, wp_bOr, wp_bNot, wp_tst, wp_iff, wp_eAnd, wp_eOr, wp_eNot, wp_chn, wp_bin, wp_una, wp_var, wp_con, wp_aCons, wp_aNil, wp_aStar, atV_zero, atV_succ, asN_nx, asN_rt, asB_bl, asI_int, List.set, List.replicate, retOf, if_true, if_false, Bool.false_eq_true, Bool.not_true, Bool.not_false, wp_gT, wp_gN, wp_gsCons, wp_gsNil, wp_gSub, List.length_cons, List.length_nil, true_and, wipeE, wp_le, wp_lt, wp_gt, wp_ge, wp_sub, wp_add, wp_neg, wp_ix_tup, wp_ix_lst, ix0, ix1, Option.some.injEq, exists_eq_left', wp_len_tup, wp_len_lst, wp_itI_tup, wp_itI_lst, wp_seqI, wp_enumI, wp_zipI, wp_cut_bl, wp_cut_int, wp_cut_non, wp_metL, wp_isL_lst, wp_slE, wp_oSome, wp_oNone, wp_tupD, wp_lstD, wp_newF, wp_is_non, wp_callE (m := lenM), List.length_map, MV.isNon, wp_eq_int, wp_len_scr, c, decide_false, wp_callE, wp_sl_scr, ex, wp_sum, wp_mod (show (1000003 : Int) ≠ 0 by decide), wp_mul (mr 7112 k (by omega) (by omega))]
    exact ⟨⟨_, rfl⟩, trivial⟩
theorem wp_of {i : Nat} {N : Int} {p xs : List MV} (hc : cellL h i p) (hp : PotC N p) (hN : N ≤ 100000) (h1 : 1 ≤ xs.length) (h2 : xs.length ≤ 1000000) (f : MV.freeAll xs = true)
    (q : ∀ y p', y ∈ xs → PotC (N + 1) p' → Q y (h.set i (some (.lst p')))) : Wp (m__law_of [.cell i, .lst xs]) h Q := by
  unfold m__law_of
  rw [wp_def2]
  simp only [wp_sSeq, wp_sExp, wp_sSet, wp_sRet, wp_sIf, wp_sAsg, wp_sFor, wp_sNil, wp_sRetN, wp_sPar, wp_bAnd, wp_bOr, wp_bNot, wp_tst, wp_iff, wp_eAnd, wp_eOr, wp_eNot, wp_chn, wp_bin, wp_una, wp_var, wp_con, wp_aCons, wp_aNil, wp_aStar, atV_zero, atV_succ, asN_nx, asN_rt, asB_bl, asI_int, List.set, List.replicate, retOf, if_true, if_false, Bool.false_eq_true, Bool.not_true, Bool.not_false, wp_gT, wp_gN, wp_gsCons, wp_gsNil, wp_gSub, List.length_cons, List.length_nil, true_and, wipeE, wp_le, wp_lt, wp_gt, wp_ge, wp_sub, wp_add, wp_neg, wp_ix_tup, wp_ix_lst, ix0, ix1, Option.some.injEq, exists_eq_left', wp_len_tup, wp_len_lst, wp_itI_tup, wp_itI_lst, wp_seqI, wp_enumI, wp_zipI, wp_cut_bl, wp_cut_int, wp_cut_non, wp_metL, wp_isL_lst, wp_slE, wp_oSome, wp_oNone, wp_tupD, wp_lstD, wp_newF, wp_is_non, wp_callE (m := lenM), List.length_map, MV.isNon, wp_eq_int, wp_callE]
  refine wp_take hc hp hN (by omega) (by omega) fun r p' r0 r1 pp => ?_
  have hr : r.toNat < xs.length := by omega
  simp only [wp_ix_lst]
  refine ⟨xs[r.toNat], by rw [atI_nat r0 r1, List.getElem?_eq_getElem hr], ?_⟩
  have mem : xs[r.toNat] ∈ xs := List.getElem_mem hr
  have fa : ∀ (l : List MV), MV.freeAll l = true → ∀ y ∈ l, y.free = true := by
    intro l
    induction l with
    | nil => intro _ y hy; simp at hy
    | cons a l ih =>
      intro q y hy
      simp only [MV.freeAll, Bool.and_eq_true] at q
      rcases List.mem_cons.mp hy with rfl | hy
      · exact q.1
      · exact ih q.2 y hy
  rw [wp_cut_len (by simp) (fa xs f _ mem)]
  exact q _ _ mem pp
theorem erase_map : ∀ (l : List Int) (j : Nat), (l.map MV.int).eraseIdx j = (l.eraseIdx j).map MV.int
  | [], _ => rfl
  | _ :: _, 0 => rfl
  | a :: l, j + 1 => by rw [List.map_cons, List.eraseIdx_cons_succ, List.eraseIdx_cons_succ, erase_map l j]; rfl
theorem erase_perm : ∀ (l : List Int) (j : Nat) (h : j < l.length), (l[j] :: l.eraseIdx j).Perm l
  | a :: l, 0, _ => .refl _
  | a :: l, j + 1, h => by
    rw [List.eraseIdx_cons_succ, List.getElem_cons_succ]
    exact (List.Perm.swap _ _ _).trans ((erase_perm l j (by simpa using h)).cons a)
def pcode (q : Int × Int) : Int := kcode [q.1, q.2]
theorem pcode_eq (q : Int × Int) : pcode q = q.1 * 1024 + q.2 := by
  unfold pcode
  show q.1 * (1024 : Int) ^ 1 + (q.2 * (1024 : Int) ^ 0 + 0) = _
  rw [Int.pow_succ, Int.pow_zero]; omega
theorem keys_of_mvs : ∀ l : List (Int × Int), keysOf (l.map mvV) = some (l.map fun q => [q.1, q.2])
  | [] => rfl
  | q :: l => by
    rw [List.map_cons]
    show (match intsOf [MV.int q.1, .int q.2], keysOf (l.map mvV) with | some k, some ks => some (k :: ks) | _, _ => none) = _
    rw [keys_of_mvs l]; rfl
theorem wp_sorted_mvs {l : List (Int × Int)} (few : l.length < 64) (b : ∀ q ∈ l, 0 ≤ q.1 ∧ q.1 < 1024 ∧ 0 ≤ q.2 ∧ q.2 < 1024) : Wp (srtM false (l.map mvV)) h Q ↔ Q (.lst ((srtB pcode l).map mvV)) h := by
  unfold srtM
  have ne : intsOf (l.map mvV) = none ∨ l = [] := by
    cases l with
    | nil => exact .inr rfl
    | cons q l => exact .inl rfl
  rcases ne with ne | rfl
  · rw [ne]
    simp only [keys_of_mvs]
    have ok : okKeys (l.map fun q => [q.1, q.2]) = true := by
      cases l with
      | nil => rfl
      | cons q0 l =>
        unfold okKeys
        simp only [List.length_map, Bool.and_eq_true, decide_eq_true_eq, List.all_eq_true, List.map_cons, List.headD_cons, beq_iff_eq]
        refine ⟨by simpa using few, fun k hk => ?_⟩
        have : ∃ q ∈ q0 :: l, k = [q.1, q.2] := by
          rcases List.mem_cons.mp hk with rfl | hk
          · exact ⟨q0, by simp, rfl⟩
          · obtain ⟨q, hq, rfl⟩ := List.mem_map.mp hk
            exact ⟨q, by simp [hq], rfl⟩
        obtain ⟨q, hq, rfl⟩ := this
        have := b q hq
        refine ⟨⟨by simp, rfl⟩, fun m hm => ?_⟩
        have hm : m = q.1 ∨ m = q.2 := by simpa using hm
        rcases hm with rfl | rfl <;> (show _ ∧ _ < (1024 : Int)) <;> omega
    rw [if_pos ok, srtB_map, List.map_map, wp_newF]
    exact Iff.rfl
  · exact wp_newF (xs := [])
theorem map_game {n : Nat} {o : List Int} {mv : List (Int × Int)} (ho : o.length = n) (n1 : 1 ≤ n) (n12 : n ≤ 12) (own : ∀ x ∈ o, x = 0 ∨ x = 1) (nd : mv.Nodup) (rg : ∀ q ∈ mv, 0 ≤ q.1 ∧ q.1 < n ∧ 0 ≤ q.2 ∧ q.2 < n) (all : ∀ i : Nat, i < n → (i : Int) ∈ mv.map (·.1)) (few : mv.length ≤ 60) :
    Game o (srtB pcode mv) := by
  have pm := srtB_perm (f := pcode) mv
  refine ⟨by omega, by omega, own, ?_, by rw [pm.length_eq]; exact few, fun q hq => ?_, ?_, fun i hi => ?_⟩
  · rw [pm.length_eq]
    obtain ⟨q, hq, _⟩ := List.mem_map.mp (all 0 (by omega))
    exact List.length_pos_of_mem hq
  · have := rg q (pm.mem_iff.mp hq); rw [ho]; omega
  · have nd2 : (srtB pcode mv).Nodup := pm.nodup_iff.mpr nd
    refine ((srtB_pw (f := pcode) mv).and nd2).imp_of_mem fun {a b} ha hb z => ?_
    have ra := rg a (pm.mem_iff.mp ha)
    have rb := rg b (pm.mem_iff.mp hb)
    have le := z.1
    rw [pcode_eq, pcode_eq] at le
    have ne : ¬ (a.1 = b.1 ∧ a.2 = b.2) := fun e => z.2 (Prod.ext e.1 e.2)
    unfold lexP
    simp only [Bool.or_eq_true, Bool.and_eq_true, decide_eq_true_eq]
    omega
  · rw [ho] at hi
    obtain ⟨q, hq, e⟩ := List.mem_map.mp (all i hi)
    exact List.mem_map.mpr ⟨q, pm.mem_iff.mpr hq, e⟩
def upTo (n : Nat) : List Int := (List.range n).map fun i : Nat => (i : Int)
theorem upTo_len (n : Nat) : (upTo n).length = n := by unfold upTo; simp
theorem upTo_nd (n : Nat) : (upTo n).Nodup := by
  unfold upTo
  refine List.pairwise_map.mpr (List.pairwise_lt_range.imp fun {a b} h e => ?_)
  omega
theorem mem_upTo {n : Nat} {x : Int} : x ∈ upTo n ↔ 0 ≤ x ∧ x < n := by
  unfold upTo
  constructor
  · intro hx; obtain ⟨i, hi, rfl⟩ := List.mem_map.mp hx; have := List.mem_range.mp hi; omega
  · intro hx; exact List.mem_map.mpr ⟨x.toNat, List.mem_range.mpr (by omega), by omega⟩
theorem rgA_upTo (n : Nat) : rgA 0 n = (upTo n).map .int := by
  unfold rgA upTo
  rw [List.map_map, show ((n : Int) - 0).toNat = n by omega]
  apply List.map_congr_left
  intro i _
  show MV.int ((0 : Int) + (i : Nat)) = MV.int (i : Int)
  rw [Int.zero_add]
theorem wp_pool {n : Nat} {env : Ev} {v1 v2 : Option MV} {e0 : MV} {k3 k4 k5 k7 : Option MV} (hn : n ≤ 1000) (q : Q (.lst ((upTo n).map .int)) h) : Wp (comp false (rngI (con (.int 0)) (var 2) (con (.int 1))) (gN 6) bYes (callE intM (aCons (var 6) aNil)) [6] [some e0, v1, some (.int n), k3, k4, k5, v2, k7]) h Q := by
  refine wp_comp (rgA 0 n) (fun v => some v) ?_ ?_ ?_ ?_
  · exact (wp_rng0 (n := n) (by omega) (by simp only [wp_sSeq, wp_sExp, wp_sSet, wp_sRet, wp_sIf, wp_sAsg, wp_sFor, wp_sNil, wp_sRetN, wp_sPar, wp_bAnd, wp_bOr, wp_bNot, wp_tst, wp_iff, wp_eAnd, wp_eOr, wp_eNot, wp_chn, wp_bin, wp_una, wp_var, wp_con, wp_aCons, wp_aNil, wp_aStar, atV_zero, atV_succ, asN_nx, asN_rt, asB_bl, asI_int, List.set, List.replicate, retOf, if_true, if_false, Bool.false_eq_true, Bool.not_true, Bool.not_false, wp_gT, wp_gN, wp_gsCons, wp_gsNil, wp_gSub, List.length_cons, List.length_nil, true_and, wipeE, wp_le, wp_lt, wp_gt, wp_ge, wp_sub, wp_add, wp_neg, wp_ix_tup, wp_ix_lst, ix0, ix1, Option.some.injEq, exists_eq_left', wp_len_tup, wp_len_lst, wp_itI_tup, wp_itI_lst, wp_seqI, wp_enumI, wp_zipI, wp_cut_bl, wp_cut_int, wp_cut_non, wp_metL, wp_isL_lst, wp_slE, wp_oSome, wp_oNone, wp_tupD, wp_lstD, wp_newF, wp_is_non, wp_callE (m := lenM), List.length_map, MV.isNon, wp_eq_int, and_self])).mpr ⟨rfl, rfl⟩
  · rw [rgA_len]; exact small3 (by omega)
  · intro v hv t
    obtain ⟨i, rfl, hi⟩ := mem_rgA hv
    simp only [wp_sSeq, wp_sExp, wp_sSet, wp_sRet, wp_sIf, wp_sAsg, wp_sFor, wp_sNil, wp_sRetN, wp_sPar, wp_bAnd, wp_bOr, wp_bNot, wp_tst, wp_iff, wp_eAnd, wp_eOr, wp_eNot, wp_chn, wp_bin, wp_una, wp_var, wp_con, wp_aCons, wp_aNil, wp_aStar, atV_zero, atV_succ, asN_nx, asN_rt, asB_bl, asI_int, List.set, List.replicate, retOf, if_true, if_false, Bool.false_eq_true, Bool.not_true, Bool.not_false, wp_gT, wp_gN, wp_gsCons, wp_gsNil, wp_gSub, List.length_cons, List.length_nil, true_and, wipeE, wp_le, wp_lt, wp_gt, wp_ge, wp_sub, wp_add, wp_neg, wp_ix_tup, wp_ix_lst, ix0, ix1, Option.some.injEq, exists_eq_left', wp_len_tup, wp_len_lst, wp_itI_tup, wp_itI_lst, wp_seqI, wp_enumI, wp_zipI, wp_cut_bl, wp_cut_int, wp_cut_non, wp_metL, wp_isL_lst, wp_slE, wp_oSome, wp_oNone, wp_tupD, wp_lstD, wp_newF, wp_is_non, wp_callE (m := lenM), List.length_map, MV.isNon, wp_eq_int]
    show Wp (M.pure true) _ _
    rw [wp_pure, if_pos rfl]
    simp only [wp_sSeq, wp_sExp, wp_sSet, wp_sRet, wp_sIf, wp_sAsg, wp_sFor, wp_sNil, wp_sRetN, wp_sPar, wp_bAnd, wp_bOr, wp_bNot, wp_tst, wp_iff, wp_eAnd, wp_eOr, wp_eNot, wp_chn, wp_bin, wp_una, wp_var, wp_con, wp_aCons, wp_aNil, wp_aStar, atV_zero, atV_succ, asN_nx, asN_rt, asB_bl, asI_int, List.set, List.replicate, retOf, if_true, if_false, Bool.false_eq_true, Bool.not_true, Bool.not_false, wp_gT, wp_gN, wp_gsCons, wp_gsNil, wp_gSub, List.length_cons, List.length_nil, true_and, wipeE, wp_le, wp_lt, wp_gt, wp_ge, wp_sub, wp_add, wp_neg, wp_ix_tup, wp_ix_lst, ix0, ix1, Option.some.injEq, exists_eq_left', wp_len_tup, wp_len_lst, wp_itI_tup, wp_itI_lst, wp_seqI, wp_enumI, wp_zipI, wp_cut_bl, wp_cut_int, wp_cut_non, wp_metL, wp_isL_lst, wp_slE, wp_oSome, wp_oNone, wp_tupD, wp_lstD, wp_newF, wp_is_non, wp_callE (m := lenM), List.length_map, MV.isNon, wp_eq_int, wp_callE, wp_int_int]
    simp [MV.free]
  · rw [show (rgA 0 n).filterMap (fun v => some v) = rgA 0 n by simp, rgA_upTo]; exact q
theorem pairs_comp {l : List Int} {v : Int} {e0 : MV} {v1 k2 k3 k6 k7 : Option MV} (hl : l.length ≤ 1000) (q : Q (.lst ((l.map fun x => (v, x)).map mvV)) h) : Wp (comp false (seqI (var 5)) (gN 7) bYes (tupD (aCons (var 4) (aCons (var 7) aNil))) [7] [some e0, v1, k2, k3, some (.int v), some (.lst (l.map .int)), k6, k7]) h Q := by
  refine wp_comp (l.map .int) (fun x => some (.tup [.int v, x])) ?_ ?_ ?_ ?_
  · simp only [wp_sSeq, wp_sExp, wp_sSet, wp_sRet, wp_sIf, wp_sAsg, wp_sFor, wp_sNil, wp_sRetN, wp_sPar, wp_bAnd, wp_bOr, wp_bNot, wp_tst, wp_iff, wp_eAnd, wp_eOr, wp_eNot, wp_chn, wp_bin, wp_una, wp_var, wp_con, wp_aCons, wp_aNil, wp_aStar, atV_zero, atV_succ, asN_nx, asN_rt, asB_bl, asI_int, List.set, List.replicate, retOf, if_true, if_false, Bool.false_eq_true, Bool.not_true, Bool.not_false, wp_gT, wp_gN, wp_gsCons, wp_gsNil, wp_gSub, List.length_cons, List.length_nil, true_and, wipeE, wp_le, wp_lt, wp_gt, wp_ge, wp_sub, wp_add, wp_neg, wp_ix_tup, wp_ix_lst, ix0, ix1, Option.some.injEq, exists_eq_left', wp_len_tup, wp_len_lst, wp_itI_tup, wp_itI_lst, wp_seqI, wp_enumI, wp_zipI, wp_cut_bl, wp_cut_int, wp_cut_non, wp_metL, wp_isL_lst, wp_slE, wp_oSome, wp_oNone, wp_tupD, wp_lstD, wp_newF, wp_is_non, wp_callE (m := lenM), List.length_map, MV.isNon, wp_eq_int, and_self]
  · exact small3 (by simp; omega)
  · intro x hx t
    obtain ⟨y, hy, rfl⟩ := List.mem_map.mp hx
    simp only [wp_sSeq, wp_sExp, wp_sSet, wp_sRet, wp_sIf, wp_sAsg, wp_sFor, wp_sNil, wp_sRetN, wp_sPar, wp_bAnd, wp_bOr, wp_bNot, wp_tst, wp_iff, wp_eAnd, wp_eOr, wp_eNot, wp_chn, wp_bin, wp_una, wp_var, wp_con, wp_aCons, wp_aNil, wp_aStar, atV_zero, atV_succ, asN_nx, asN_rt, asB_bl, asI_int, List.set, List.replicate, retOf, if_true, if_false, Bool.false_eq_true, Bool.not_true, Bool.not_false, wp_gT, wp_gN, wp_gsCons, wp_gsNil, wp_gSub, List.length_cons, List.length_nil, true_and, wipeE, wp_le, wp_lt, wp_gt, wp_ge, wp_sub, wp_add, wp_neg, wp_ix_tup, wp_ix_lst, ix0, ix1, Option.some.injEq, exists_eq_left', wp_len_tup, wp_len_lst, wp_itI_tup, wp_itI_lst, wp_seqI, wp_enumI, wp_zipI, wp_cut_bl, wp_cut_int, wp_cut_non, wp_metL, wp_isL_lst, wp_slE, wp_oSome, wp_oNone, wp_tupD, wp_lstD, wp_newF, wp_is_non, wp_callE (m := lenM), List.length_map, MV.isNon, wp_eq_int]
    show Wp (M.pure true) _ _
    rw [wp_pure, if_pos rfl]
    simp only [wp_sSeq, wp_sExp, wp_sSet, wp_sRet, wp_sIf, wp_sAsg, wp_sFor, wp_sNil, wp_sRetN, wp_sPar, wp_bAnd, wp_bOr, wp_bNot, wp_tst, wp_iff, wp_eAnd, wp_eOr, wp_eNot, wp_chn, wp_bin, wp_una, wp_var, wp_con, wp_aCons, wp_aNil, wp_aStar, atV_zero, atV_succ, asN_nx, asN_rt, asB_bl, asI_int, List.set, List.replicate, retOf, if_true, if_false, Bool.false_eq_true, Bool.not_true, Bool.not_false, wp_gT, wp_gN, wp_gsCons, wp_gsNil, wp_gSub, List.length_cons, List.length_nil, true_and, wipeE, wp_le, wp_lt, wp_gt, wp_ge, wp_sub, wp_add, wp_neg, wp_ix_tup, wp_ix_lst, ix0, ix1, Option.some.injEq, exists_eq_left', wp_len_tup, wp_len_lst, wp_itI_tup, wp_itI_lst, wp_seqI, wp_enumI, wp_zipI, wp_cut_bl, wp_cut_int, wp_cut_non, wp_metL, wp_isL_lst, wp_slE, wp_oSome, wp_oNone, wp_tupD, wp_lstD, wp_newF, wp_is_non, wp_callE (m := lenM), List.length_map, MV.isNon, wp_eq_int, and_self]
    exact ⟨rfl, by simp [MV.free, MV.freeAll]⟩
  · have e : (l.map MV.int).filterMap (fun x => some (MV.tup [.int v, x])) = (l.map fun x => (v, x)).map mvV := by
      clear hl q
      induction l with
      | nil => rfl
      | cons a l ih => exact congrArg (MV.tup [.int v, .int a] :: ·) ih
    rw [e]; exact q
theorem Game.other {o : List Int} {m : List (Int × Int)} (G : Game o m) : Game (o.map fun x => 1 - x) m := by
  refine ⟨by simpa using G.o1, by simpa using G.o12, fun x hx => ?_, G.m1, G.m60, by simpa using G.rng, G.ris, by simpa using G.all⟩
  obtain ⟨y, hy, rfl⟩ := List.mem_map.mp hx
  rcases G.own y hy with rfl | rfl
  · exact .inr rfl
  · exact .inl rfl
end
section
variable {h : MH} {Q : MV → MH → Prop}
def BdO (B : Nat) (l : List (Option Int)) : Prop := ∀ x, some x ∈ l → x.natAbs < B
theorem os_facts : ∀ {l : List (Option Int)}, BdO (10 ^ 12) l → PyData.canLayAll0 (MV.datAll (l.map oV)) = true ∧ PyData.depthAll (MV.datAll (l.map oV)) = 0 ∧ PyData.weightAll (MV.datAll (l.map oV)) ≤ 100 * l.length ∧
    PyData.intsShortAll 13 (MV.datAll (l.map oV)) = true ∧ PyData.showableAll (MV.datAll (l.map oV)) = true ∧ PyData.hasDictAll (MV.datAll (l.map oV)) = false
  | [], _ => ⟨rfl, rfl, Nat.le_refl _, rfl, rfl, rfl⟩
  | x :: l, b => by
    obtain ⟨h1, h2, h3, h4, h5, h6⟩ := os_facts (l := l) fun y hy => b y (List.mem_cons_of_mem _ hy)
    cases x with
    | none =>
      simp only [List.map_cons, oV, MV.datAll, MV.dat, PyData.canLayAll0, PyData.canLay0, PyData.depthAll, PyData.depth, PyData.weightAll, PyData.weight, PyData.intsShortAll, PyData.intsShort, PyData.showableAll, PyData.showable, PyData.hasDictAll, PyData.hasDict, h1, h2, h4, h5, h6, List.length_cons]
      exact ⟨rfl, rfl, by omega, rfl, rfl, rfl⟩
    | some i =>
      have bi := b i (by simp)
      have hs : (PyData.shown (.int i)).length ≤ 13 := PyData.shown_int_le bi
      have hl40 : i.natAbs.log2 < 40 := by
        by_cases z : i.natAbs = 0
        · rw [z]; decide
        · exact (Nat.log2_lt z).mpr (Nat.lt_trans bi (by decide +kernel))
      have hl : i.natAbs.log2 < 1920 := by omega
      have hw : (if (i == 0) = true then 0 else i.natAbs.log2 + 1) ≤ 41 := by split <;> omega
      simp only [List.map_cons, oV, MV.datAll, MV.dat, PyData.canLayAll0, PyData.canLay0, PyData.depthAll, PyData.depth, PyData.weightAll, PyData.weight, PyData.intsShortAll, PyData.intsShort, PyData.showableAll, PyData.showable, PyData.hasDictAll, PyData.hasDict, h1, h2, h4, h5, h6, List.length_cons, hs, hl, decide_true, Bool.true_and, Bool.or_self]
      exact ⟨trivial, rfl, by omega, trivial, trivial, trivial⟩
theorem wp_repr_os {l : List (Option Int)} (b : BdO (10 ^ 12) l) (few : l.length ≤ 1000) : Wp (reprM [.tup (l.map oV)]) h Q ↔ Q (.str (PyData.shown (MV.dat (.tup (l.map oV))))) h := by
  obtain ⟨h1, h2, h3, h4, h5, h6⟩ := os_facts b
  show Wp (if SeqAt.shaped (MV.dat (.tup (l.map oV))) && (MV.dat (.tup (l.map oV))).showable && !(MV.dat (.tup (l.map oV))).hasDict && decide ((MV.dat (.tup (l.map oV))).depth ≤ 60) && decide ((MV.dat (.tup (l.map oV))).shown.length ≤ sizeLine) then M.pure (.str (MV.dat (.tup (l.map oV))).shown) else M.stuck) h Q ↔ _
  have ld : PyData.layable0 (MV.dat (.tup (l.map oV))) = true := by
    unfold PyData.layable0
    simp only [MV.dat, PyData.canLay0, PyData.depth, PyData.weight, h1, h2, Bool.true_and, Bool.and_eq_true, decide_eq_true_eq]
    omega
  have fit : (MV.dat (.tup (l.map oV))).shown.length ≤ sizeLine := PyData.shown_fits_of_layable0 (B := 13) (by decide) (by decide) ld (by simp only [MV.dat, PyData.intsShort]; exact h4)
  have sh : SeqAt.shaped (MV.dat (.tup (l.map oV))) = true := SeqAt.shaped_of_layable ld
  have c : (SeqAt.shaped (MV.dat (.tup (l.map oV))) && (MV.dat (.tup (l.map oV))).showable && !(MV.dat (.tup (l.map oV))).hasDict && decide ((MV.dat (.tup (l.map oV))).depth ≤ 60) && decide ((MV.dat (.tup (l.map oV))).shown.length ≤ sizeLine)) = true := by
    rw [sh, decide_eq_true fit]
    simp only [MV.dat, PyData.showable, PyData.hasDict, PyData.depth, h5, h6, h2]; rfl
  rw [if_pos c, wp_pure]
theorem minL_le {n : Int} {r : List Int} : minL n r ≤ n := (minL_spec r n).2.1
theorem want_bd {p : Option Int} {z : Int} {B : Int} (hp : ∀ x, p = some x → 0 ≤ x ∧ x ≤ B) (hz : -4 ≤ z) (hB : 0 ≤ B) : ∀ x, want p z = some x → 0 ≤ x ∧ x ≤ B + 4 := by
  intro x e
  cases p with
  | none => cases e
  | some y =>
    have := hp y rfl
    cases e
    show 0 ≤ max 0 (y - z) ∧ max 0 (y - z) ≤ B + 4
    omega
theorem chosen_mem {w : Int} {l : List (Option Int)} {x : Int} (e : chosen w l = some x) : some x ∈ l := by
  have mem : ∀ y, y ∈ l.filterMap id → some y ∈ l := fun y hy => by
    obtain ⟨z, hz, ez⟩ := List.mem_filterMap.mp hy
    rw [← show z = some y from ez]; exact hz
  unfold chosen at e
  by_cases c : w = 0
  · rw [if_pos c] at e
    cases hk : l.filterMap id with
    | nil => rw [hk] at e; cases e
    | cons a r =>
      rw [hk] at e; cases e
      refine mem _ ?_
      rw [hk]
      rcases (minL_spec r a).1 with q | q
      · rw [q]; simp
      · exact List.mem_cons_of_mem _ q
  · rw [if_neg c] at e
    by_cases d : (l.filterMap id).length = l.length
    · rw [if_pos d] at e
      cases hk : l.filterMap id with
      | nil => rw [hk] at e; cases e
      | cons a r =>
        rw [hk] at e; cases e
        refine mem _ ?_
        rw [hk]
        rcases (maxL_spec r a).1 with q | q
        · rw [q]; simp
        · exact List.mem_cons_of_mem _ q
    · rw [if_neg d] at e; cases e
theorem wp_nil_cell {neg : Bool} {i : Nat} {l : List Int} (c : cellL h i (l.map .int)) : Wp (eqM neg (.cell i) (.lst [])) h Q ↔ Q (.bl (if neg then !l.isEmpty else l.isEmpty)) h := by
  refine Iff.trans ?_ (wp_nil_ints (l := l) (neg := neg))
  unfold eqM
  rw [wp_bind, wp_bind]
  have e1 : pull (.cell i) = (readC i).bind fun xs => M.pure (MV.lst xs) := rfl
  have e2 : pull (.lst (l.map .int)) = M.pure (MV.lst (l.map .int)) := rfl
  rw [e1, e2, wp_bind, wp_readC c, wp_pure]
theorem memF_ints {x : Int} : ∀ l : List Int, memF (.int x) (l.map .int) = l.contains x
  | [] => rfl
  | a :: l => by
    rw [List.map_cons, List.contains_cons, ← memF_ints l]
    show (eqF (.int a) (.int x) || memF (.int x) (l.map .int)) = _
    congr 1
    show (a == x) = (x == a)
    exact Bool.beq_comm
theorem flat_ints : ∀ l : List Int, (l.map MV.int).all flatM = true
  | [] => rfl
  | a :: l => by rw [List.map_cons, List.all_cons, flat_ints l]; rfl
theorem wp_in_cell {neg : Bool} {i : Nat} {x : Int} {l : List Int} (c : cellL h i (l.map .int)) : Wp (inC neg (.int x) (.cell i)) h Q ↔ Q (.bl (if neg then !l.contains x else l.contains x)) h := by
  show Wp ((itemsS (.cell i)).bind fun xs => if flatM (.int x) && xs.all flatM then M.pure (.bl (if neg then !memF (.int x) xs else memF (.int x) xs)) else M.stuck) h Q ↔ _
  rw [wp_bind, wp_itS_cell c, wp_ite, if_pos (by rw [flat_ints]; rfl), wp_pure, memF_ints]
def oLe (a b : Option Int) : Prop := match b with
  | none => True
  | some y => ∃ x, a = some x ∧ x ≤ y
theorem oLe.refl (a : Option Int) : oLe a a := by
  cases a with
  | none => trivial
  | some x => exact ⟨x, rfl, Int.le_refl _⟩
theorem oLe.trans {a b c : Option Int} (h1 : oLe a b) (h2 : oLe b c) : oLe a c := by
  cases c with
  | none => trivial
  | some z =>
    obtain ⟨y, rfl, h⟩ := h2
    obtain ⟨x, rfl, h'⟩ := h1
    exact ⟨x, rfl, by omega⟩
theorem want_mono {a b : Option Int} {z : Int} (l : oLe a b) : oLe (want a z) (want b z) := by
  cases b with
  | none => trivial
  | some y =>
    obtain ⟨x, rfl, h⟩ := l
    exact ⟨_, rfl, show max 0 (x - z) ≤ max 0 (y - z) by omega⟩
inductive AllLe : List (Option Int) → List (Option Int) → Prop
  | nil : AllLe [] []
  | cons {a b : Option Int} {l r : List (Option Int)} : oLe a b → AllLe l r → AllLe (a :: l) (b :: r)
theorem AllLe.length {l r : List (Option Int)} (a : AllLe l r) : l.length = r.length := by
  induction a with
  | nil => rfl
  | cons _ _ ih => simp [ih]
theorem AllLe.right {l r : List (Option Int)} (a : AllLe l r) : ∀ {y : Int}, some y ∈ r → ∃ x, some x ∈ l ∧ x ≤ y := by
  induction a with
  | nil => intro y h; simp at h
  | cons h1 _ ih =>
    intro y h
    rcases List.mem_cons.mp h with e | h
    · rw [← e] at h1
      obtain ⟨x, e2, hx⟩ := h1
      exact ⟨x, by rw [e2]; simp, hx⟩
    · obtain ⟨x, hx, hl⟩ := ih h
      exact ⟨x, List.mem_cons_of_mem _ hx, hl⟩
theorem AllLe.left {l r : List (Option Int)} (a : AllLe l r) (all : none ∉ r) : ∀ {x : Int}, some x ∈ l → ∃ y, some y ∈ r ∧ x ≤ y := by
  induction a with
  | nil => intro x h; simp at h
  | @cons a b l r h1 _ ih =>
    intro x h
    have nb : b ≠ none := fun e => all (by rw [e]; simp)
    rcases List.mem_cons.mp h with e | h
    · cases b with
      | none => exact absurd rfl nb
      | some y =>
        obtain ⟨x', e2, hx⟩ := h1
        rw [← e] at e2; cases e2
        exact ⟨y, by simp, hx⟩
    · obtain ⟨y, hy, hl⟩ := ih (fun e => all (List.mem_cons_of_mem _ e)) h
      exact ⟨y, List.mem_cons_of_mem _ hy, hl⟩
theorem mem_known {l : List (Option Int)} {x : Int} : x ∈ l.filterMap id ↔ some x ∈ l := by
  constructor
  · intro h; obtain ⟨z, hz, ez⟩ := List.mem_filterMap.mp h; rw [← show z = some x from ez]; exact hz
  · intro h; exact List.mem_filterMap.mpr ⟨some x, h, rfl⟩
theorem known_all {l : List (Option Int)} : (l.filterMap id).length = l.length ↔ none ∉ l := by
  induction l with
  | nil => simp
  | cons a l ih =>
    cases a with
    | none =>
      have := List.length_filterMap_le id l
      simp only [List.filterMap_cons_none (show id (none : Option Int) = none from rfl), List.length_cons, List.mem_cons, true_or, not_true, iff_false]
      omega
    | some x =>
      rw [List.filterMap_cons_some (show id (some x) = some x from rfl), List.length_cons, List.length_cons, Nat.add_right_cancel_iff, ih]
      simp
theorem AllLe.some_of {l r : List (Option Int)} (a : AllLe l r) (all : none ∉ r) : none ∉ l := by
  induction a with
  | nil => simp
  | @cons a b l r h1 _ ih =>
    have nb : b ≠ none := fun e => all (by rw [e]; simp)
    intro h
    rcases List.mem_cons.mp h with e | h
    · cases b with
      | none => exact nb rfl
      | some y =>
        obtain ⟨x, e2, _⟩ := h1
        rw [← e] at e2; cases e2
    · exact ih (fun e => all (List.mem_cons_of_mem _ e)) h
theorem chosen_mono {w : Int} {l r : List (Option Int)} (a : AllLe l r) : oLe (chosen w l) (chosen w r) := by
  unfold chosen
  by_cases c : w = 0
  · rw [if_pos c, if_pos c]
    cases hr : r.filterMap id with
    | nil => trivial
    | cons b r' =>
      have mb : minL b r' ∈ r.filterMap id := by
        rw [hr]
        rcases (minL_spec r' b).1 with q | q
        · rw [q]; simp
        · exact List.mem_cons_of_mem _ q
      obtain ⟨x, hx, hl⟩ := a.right (mem_known.mp mb)
      have kx := mem_known.mpr hx
      cases hk : l.filterMap id with
      | nil => rw [hk] at kx; simp at kx
      | cons d l' =>
        rw [hk] at kx
        refine ⟨_, rfl, ?_⟩
        have s := minL_spec l' d
        rcases List.mem_cons.mp kx with e | e
        · have := s.2.1; omega
        · have := s.2.2 x e; omega
  · rw [if_neg c, if_neg c]
    by_cases d : (r.filterMap id).length = r.length
    · have all := known_all.mp d
      have all2 := a.some_of all
      rw [if_pos d, if_pos (known_all.mpr all2)]
      cases hr : r.filterMap id with
      | nil => trivial
      | cons b r' =>
        cases hk : l.filterMap id with
        | nil =>
          have e1 := known_all.mpr all2
          rw [hk] at e1
          have e2 := d
          rw [hr, ← a.length, ← e1] at e2
          simp at e2
        | cons e l' =>
          refine ⟨_, rfl, ?_⟩
          have me : maxL e l' ∈ l.filterMap id := by
            rw [hk]
            rcases (maxL_spec l' e).1 with q | q
            · rw [q]; simp
            · exact List.mem_cons_of_mem _ q
          obtain ⟨y, hy, hl⟩ := a.left all (mem_known.mp me)
          have ky := mem_known.mpr hy
          rw [hr] at ky
          have s := maxL_spec r' b
          rcases List.mem_cons.mp ky with z | z
          · have := s.2.1; omega
          · have := s.2.2 y z; omega
    · rw [if_neg d]; trivial
def FLe (F G : List (Option Int)) (n : Nat) : Prop := ∀ v : Nat, v < n → oLe (look F v) (look G v)
theorem lift_mono {o : List Int} {m : List (Int × Int)} {pz : List Int} {F G : List (Option Int)} (g : Game o m) (l : FLe F G o.length) (v : Nat) : oLe (lift1 o m pz F v) (lift1 o m pz G v) := by
  unfold lift1
  refine chosen_mono ?_
  have rg := ways_rng g pz v
  revert rg
  induction waysOf m pz v with
  | nil => intro _; exact .nil
  | cons e r ih =>
    intro rg
    refine .cons (want_mono ?_) (ih fun e he => rg e (List.mem_cons_of_mem _ he))
    have := rg e (by simp)
    have k := l e.1.toNat (by omega)
    rwa [show ((e.1.toNat : Nat) : Int) = e.1 by omega] at k
end
section
variable {h : MH} {Q : MV → MH → Prop} {Qf : Fl → MH → Prop}
def cap (M : Int) (p : Option Int) : Option Int := match p with
  | none => none
  | some x => if x > M then none else some x
def preds (m : List (Int × Int)) (v : Int) : List Int := m.filterMap fun p => if p.2 = v then some p.1 else none
def isUp (a b : Option Int) : Bool := match a with
  | none => false
  | some x => (match b with
    | none => true
    | some y => decide (x < y))
structure Lstep (o : List Int) (m : List (Int × Int)) (pz : List Int) (M : Int) (F : List (Option Int)) (W : List Int) : Prop where
  len : F.length = o.length
  bd : ∀ x, some x ∈ F → 0 ≤ x ∧ x ≤ M
  wr : ∀ w ∈ W, 0 ≤ w ∧ w < o.length
  wn : W.Nodup
  post : ∀ v : Nat, v < o.length → (v : Int) ∉ W → isUp (look F v) (cap M (lift1 o m pz F v)) = false
  least : ∀ G : List (Option Int), G.length = o.length → (∀ v : Nat, v < o.length → oLe (cap M (lift1 o m pz G v)) (look G v)) → (∀ x, some x ∈ G → 0 ≤ x) → FLe F G o.length
def rank (M : Int) (p : Option Int) : Nat := match p with
  | none => 0
  | some x => (M + 1 - x).toNat
def ranks (M : Int) (F : List (Option Int)) : Nat := (F.map (rank M)).sum
theorem look_mem {F : List (Option Int)} {v : Nat} {x : Int} (e : look F v = some x) : some x ∈ F := by
  unfold look at e
  rw [show ((v : Int)).toNat = v by omega] at e
  cases k : F[v]? with
  | none => rw [k] at e; cases e
  | some y =>
    rw [k] at e
    have e : y = some x := e
    subst e
    exact List.mem_of_getElem? k
theorem look_set {F : List (Option Int)} {v u : Nat} {p : Option Int} (hv : v < F.length) : look (F.set v p) u = if v = u then p else look F u := by
  unfold look
  rw [show ((u : Int)).toNat = u by omega, List.getElem?_set]
  by_cases c : v = u
  · rw [if_pos c, if_pos hv, if_pos c]; rfl
  · rw [if_neg c, if_neg c]
theorem ranks_set {M : Int} : ∀ {F : List (Option Int)} {v : Nat} {p : Option Int}, v < F.length → rank M p < rank M (look F v) → ranks M (F.set v p) < ranks M F
  | a :: F, 0, p, _, l => by
    unfold ranks
    simp only [List.set_cons_zero, List.map_cons, List.sum_cons]
    have : look (a :: F) (0 : Nat) = a := rfl
    rw [this] at l
    omega
  | a :: F, v + 1, p, hv, l => by
    have e : look (a :: F) ((v + 1 : Nat) : Int) = look F (v : Int) := by
      unfold look
      rw [show (((v + 1 : Nat) : Int)).toNat = v + 1 by omega, show ((v : Int)).toNat = v by omega]; rfl
    rw [e] at l
    have := ranks_set (M := M) (F := F) (v := v) (p := p) (by simpa using hv) l
    unfold ranks at this ⊢
    simp only [List.set_cons_succ, List.map_cons, List.sum_cons]
    omega
theorem lift_other {o : List Int} {m : List (Int × Int)} {pz : List Int} (g : Game o m) (hl : pz.length = m.length) {F : List (Option Int)} (hF : F.length = o.length) {v u : Nat} (hv : v < o.length) {p : Option Int} (no : (u : Int) ∉ preds m v) : lift1 o m pz (F.set v p) u = lift1 o m pz F u := by
  unfold lift1
  congr 1
  apply List.map_congr_left
  intro e he
  congr 1
  have rg := ways_rng g pz u e he
  have ne : e.1 ≠ v := by
    intro z
    refine no ?_
    unfold waysOf at he
    obtain ⟨y, hy, hz⟩ := List.mem_filterMap.mp he
    by_cases c : y.1.1 = u
    · rw [if_pos c] at hz; cases hz
      exact List.mem_filterMap.mpr ⟨y.1, (List.of_mem_zip hy).1, by
        have : y.1.2 = v := z
        rw [if_pos this, c]⟩
    · rw [if_neg c] at hz; cases hz
  have := look_set (F := F) (v := v) (u := e.1.toNat) (p := p) (by omega)
  rw [show ((e.1.toNat : Nat) : Int) = e.1 by omega] at this
  rw [this, if_neg (by omega)]
theorem Lstep.stay {o : List Int} {m : List (Int × Int)} {pz : List Int} {M : Int} {F : List (Option Int)} {W : List Int} {v : Nat} (s : Lstep o m pz M F (W ++ [(v : Int)])) (no : isUp (look F v) (cap M (lift1 o m pz F v)) = false) : Lstep o m pz M F W := by
  refine ⟨s.len, s.bd, fun w hw => s.wr w (List.mem_append_left _ hw), (List.nodup_append.mp s.wn).1, fun u hu nu => ?_, s.least⟩
  by_cases c : u = v
  · rw [c]; exact no
  · exact s.post u hu fun z => by
      rcases List.mem_append.mp z with z | z
      · exact nu z
      · have : (u : Int) = v := by simpa using z
        omega
theorem cap_le {M : Int} {p : Option Int} {y : Int} (e : cap M p = some y) : y ≤ M ∧ p = some y := by
  cases p with
  | none => cases e
  | some x =>
    unfold cap at e
    by_cases c : x > M
    · simp only [c, if_true] at e; cases e
    · simp only [c, if_false] at e; cases e; exact ⟨by omega, rfl⟩
theorem cap_mono {M : Int} {a b : Option Int} (l : oLe a b) : oLe (cap M a) (cap M b) := by
  cases b with
  | none => trivial
  | some y =>
    obtain ⟨x, rfl, h⟩ := l
    unfold cap
    by_cases c : y > M
    · simp only [c, if_true]; trivial
    · simp only [c, if_false, show ¬ x > M by omega]; exact ⟨x, rfl, h⟩
theorem preds_nd {m : List (Int × Int)} (hm : m.Pairwise fun p q => lexP p q = true) (v : Int) : (preds m v).Nodup := by
  unfold preds
  induction hm with
  | nil => exact List.Pairwise.nil
  | @cons p l h1 _ ih =>
    by_cases c : p.2 = v
    · rw [List.filterMap_cons_some (f := fun (p : Int × Int) => if p.2 = v then some p.1 else none) (a := p) (b := p.1) (by simp only [c, if_true])]
      refine List.nodup_cons.mpr ⟨fun z => ?_, ih⟩
      obtain ⟨q, hq, e⟩ := List.mem_filterMap.mp z
      by_cases d : q.2 = v
      · rw [if_pos d] at e
        have e : q.1 = p.1 := Option.some.inj e
        have := h1 q hq
        unfold lexP at this
        simp only [Bool.or_eq_true, Bool.and_eq_true, decide_eq_true_eq] at this
        omega
      · rw [if_neg d] at e; cases e
    · rw [List.filterMap_cons_none (f := fun (p : Int × Int) => if p.2 = v then some p.1 else none) (a := p) (by simp only [c, if_false])]; exact ih
theorem preds_rng {o : List Int} {m : List (Int × Int)} (g : Game o m) {v : Int} : ∀ u ∈ preds m v, 0 ≤ u ∧ u < o.length := fun u hu => by
  unfold preds at hu
  obtain ⟨q, hq, e⟩ := List.mem_filterMap.mp hu
  by_cases d : q.2 = v
  · rw [if_pos d] at e
    have e : q.1 = u := Option.some.inj e
    have := g.rng q hq
    omega
  · rw [if_neg d] at e; cases e
theorem up_self (p : Option Int) : isUp p p = false := by
  cases p with
  | none => rfl
  | some x => unfold isUp; simp
theorem Lstep.up {o : List Int} {m : List (Int × Int)} {pz : List Int} {M : Int} {F : List (Option Int)} {W : List Int} {v : Nat} (g : Game o m) (hl : pz.length = m.length) (hM : 0 ≤ M) (s : Lstep o m pz M F (W ++ [(v : Int)])) (yes : isUp (look F v) (cap M (lift1 o m pz F v)) = true) :
    Lstep o m pz M (F.set v (cap M (lift1 o m pz F v))) (W ++ (preds m v).filter fun u => !W.contains u) ∧ ranks M (F.set v (cap M (lift1 o m pz F v))) < ranks M F := by
  have hv : v < o.length := by have := s.wr v (by simp); omega
  have hvF : v < F.length := by rw [s.len]; exact hv
  generalize hn : cap M (lift1 o m pz F v) = new at yes ⊢
  cases hx : look F v with
  | none => rw [hx] at yes; cases yes
  | some x =>
    have bx := s.bd x (look_mem hx)
    rw [hx] at yes
    refine ⟨⟨by rw [List.length_set]; exact s.len, fun z hz => ?_, fun w hw => ?_, ?_, fun u hu nu => ?_, fun G gl gp g0 u hu => ?_⟩, ?_⟩
    · rcases List.mem_or_eq_of_mem_set hz with hz | hz
      · exact s.bd z hz
      · rw [← hz] at yes hn
        have := (cap_le hn).1
        have : x < z := of_decide_eq_true yes
        omega
    · rcases List.mem_append.mp hw with hw | hw
      · exact s.wr w (List.mem_append_left _ hw)
      · exact preds_rng g w (List.mem_filter.mp hw).1
    · refine List.nodup_append.mpr ⟨(List.nodup_append.mp s.wn).1, (preds_nd g.ris v).filter _, fun a ha b hb e => ?_⟩
      have := (List.mem_filter.mp hb).2
      rw [← e] at this
      simp at this
      exact this ha
    · have n1 : (u : Int) ∉ W := fun z => nu (List.mem_append_left _ z)
      have n2 : (u : Int) ∉ preds m v := fun z => nu (List.mem_append_right _ (List.mem_filter.mpr ⟨z, by simpa using n1⟩))
      rw [lift_other g hl s.len hv n2, look_set hvF]
      by_cases c : v = u
      · subst c
        rw [if_pos rfl, hn]; exact up_self _
      · rw [if_neg c]
        exact s.post u hu fun z => by
          rcases List.mem_append.mp z with z | z
          · exact n1 z
          · have : (u : Int) = v := by simpa using z
            omega
    · have fl := s.least G gl gp g0
      rw [look_set hvF]
      by_cases c : v = u
      · subst c
        rw [if_pos rfl, ← hn]
        exact (cap_mono (lift_mono g fl v)).trans (gp v hu)
      · rw [if_neg c]; exact fl u hu
    · refine ranks_set hvF ?_
      rw [hx]
      cases new with
      | none => show 0 < (M + 1 - x).toNat; omega
      | some y =>
        have := (cap_le hn).1
        have : x < y := of_decide_eq_true yes
        show (M + 1 - y).toNat < (M + 1 - x).toNat
        omega
def aheadRows (m : List (Int × Int)) (n : Nat) : List (List MV) := (List.range n).map fun i : Nat => (preds m (i : Int)).map .int
def mostOf (n : Nat) (pz : List Int) : Int := (n : Int) * maxL 0 (pz.map fun z => -z)
end
section
variable {h : MH} {Q : MV → MH → Prop} {Qf : Fl → MH → Prop}
theorem wp_compT {env : Ev} {it : AM} {g : GM} {tt : BM} {e : EM} {own : List Nat} (xs : List MV) (f : MV → Option MV) (hit : Wp (it env) h fun vs h1 => vs = xs ∧ h1 = h) (few : xs.length ≤ sizeLine)
    (hb : ∀ v ∈ xs, ∀ t, Wp (g v (wipeE env own)) (h ++ t) fun env' h2 => Wp (tt env') h2 fun b h3 => if b = true then Wp (e env') h3 fun y h4 => h4 = h ++ t ∧ f v = some y ∧ y.free = true else h3 = h ++ t ∧ f v = none)
    (q : Q (.cell h.length) (h ++ [some (.lst (xs.filterMap f))])) : Wp (comp true it g tt e own env) h Q := by
  refine wp_compI (xs := xs) (n := h.length) (fun i h1 acc => h1 = h ∧ acc = (xs.take i).filterMap f) (hit.mono fun vs h1 z => ⟨z.1, by rw [z.2], z.2, by simp⟩) few ?_ ?_
  · rintro i v h1 acc hi hl _ ⟨rfl, ea⟩
    have et : xs.take (i + 1) = xs.take i ++ [v] := by rw [List.take_add_one, hi]; rfl
    refine (hb v (List.mem_of_getElem? hi) [some (.lst acc)]).mono fun env' h2 w => w.mono fun b h3 w => ?_
    cases b with
    | true =>
      rw [if_pos rfl] at w ⊢
      exact w.mono fun y h4 z => ⟨h1, z.1, rfl, rfl, by rw [et, List.filterMap_append, ea]; simp [z.2.1]⟩
    | false =>
      rw [if_neg (by decide)] at w ⊢
      exact ⟨h1, w.1, rfl, rfl, by rw [et, List.filterMap_append, ea]; simp [w.2]⟩
  · rintro h1 acc hl ⟨rfl, ea⟩
    rw [if_pos rfl]
    rw [List.take_length] at ea
    rw [ea]; exact q
theorem wp_minC {i : Nat} {n : Int} {r : List Int} (c : cellL h i ((n :: r).map .int)) : Wp (minM [.cell i]) h Q ↔ Q (.int (minL n r)) h := by
  show Wp ((itemsL (.cell i)).bind fun xs => match intsOf xs with | some (n :: r) => M.pure (.int (minL n r)) | _ => M.stuck) h Q ↔ _
  rw [wp_bind, wp_itL_cell c, intsOf_map]; exact wp_pure
theorem wp_maxC {i : Nat} {n : Int} {r : List Int} (c : cellL h i ((n :: r).map .int)) : Wp (maxM [.cell i]) h Q ↔ Q (.int (maxL n r)) h := by
  show Wp ((itemsL (.cell i)).bind fun xs => match intsOf xs with | some (n :: r) => M.pure (.int (maxL n r)) | _ => M.stuck) h Q ↔ _
  rw [wp_bind, wp_itL_cell c, intsOf_map]; exact wp_pure
theorem flat_os : ∀ l : List (Option Int), (l.map oV).all flatM = true
  | [] => rfl
  | a :: l => by rw [List.map_cons, List.all_cons, flat_os l]; cases a <;> rfl
theorem memF_non : ∀ l : List (Option Int), memF .non (l.map oV) = l.any Option.isNone
  | [] => rfl
  | a :: l => by
    rw [List.map_cons, List.any_cons, ← memF_non l]
    show (eqF (oV a) .non || memF .non (l.map oV)) = _
    cases a <;> rfl
theorem wp_in_non {i : Nat} {l : List (Option Int)} (c : cellL h i (l.map oV)) : Wp (inC false .non (.cell i)) h Q ↔ Q (.bl (l.any Option.isNone)) h := by
  show Wp ((itemsS (.cell i)).bind fun xs => if flatM .non && xs.all flatM then M.pure (.bl (if false then !memF .non xs else memF .non xs)) else M.stuck) h Q ↔ _
  rw [wp_bind, wp_itS_cell c, wp_ite, if_pos (by rw [flat_os]; rfl), wp_pure, memF_non]; exact Iff.rfl
theorem all_ints {l : List (Option Int)} (n : none ∉ l) : l.map oV = (l.filterMap id).map MV.int := by
  induction l with
  | nil => rfl
  | cons a l ih =>
    cases a with
    | none => exact absurd List.mem_cons_self n
    | some x => exact congrArg (MV.int x :: ·) (ih fun z => n (List.mem_cons_of_mem _ z))
end
section
variable {h : MH} {Q : MV → MH → Prop}
def opV : Option (Int × Int) → MV
  | none => .non
  | some q => mvV q
def behF (b p : Int) (W : List (Int × Int)) : List (Option (Int × Int)) := W.map fun e => if 0 ≤ p + e.2 then some (e.1, if p + e.2 < b then p + e.2 else b) else none
theorem free_op (o : Option (Int × Int)) : (opV o).free = true := by
  cases o with
  | none => rfl
  | some q => simp [opV, mvV, MV.free, MV.freeAll]
theorem noC_op (o : Option (Int × Int)) : noC (opV o) := ⟨fun i e => (by cases o <;> cases e), fun i e => (by cases o <;> cases e), fun i e => (by cases o <;> cases e)⟩
theorem free_ops (l : List (Option (Int × Int))) : MV.freeAll (l.map opV) = true := freeAll_map fun a _ => free_op a
theorem set_end {a b : Option MObj} : (h ++ [a]).set h.length b = h ++ [b] := set_mid
theorem take_end {a : MH} : (h ++ a).take h.length = h := by simp
def InT (n b : Nat) (one : Option (Int × Int)) : Prop := ∀ q, one = some q → 0 ≤ q.1 ∧ q.1 < n ∧ 0 ≤ q.2 ∧ q.2 < b
theorem beh_in {o : List Int} {m : List (Int × Int)} {pz : List Int} {v : Int} {b p : Nat} (g : Game o m) (hp : p ≤ b) : ∀ x ∈ behF b p (waysOf m pz v), InT o.length (b + 1) x := by
  intro x hx q eq
  unfold behF at hx
  obtain ⟨e, he, rfl⟩ := List.mem_map.mp hx
  have := ways_rng g pz v e he
  by_cases k : 0 ≤ (p : Int) + e.2
  · rw [if_pos k] at eq
    cases eq
    refine ⟨this.1, this.2, ?_, ?_⟩
    · show (0 : Int) ≤ if (p : Int) + e.2 < b then (p : Int) + e.2 else b
      split <;> omega
    · show (if (p : Int) + e.2 < b then (p : Int) + e.2 else b) < ((b + 1 : Nat) : Int)
      split <;> omega
  · rw [if_neg k] at eq; cases eq
theorem beh_len (b p : Int) (m : List (Int × Int)) (pz : List Int) (v : Int) : (behF b p (waysOf m pz v)).length ≤ m.length := by
  unfold behF; rw [List.length_map]; exact ways_len m pz v
end
section
variable {h : MH} {Q : MV → MH → Prop} {o : List Int} {m : List (Int × Int)} {pz : List Int} {b : Nat}
def optAll {A B : Type} (f : A → Option B) : List A → Option (List B)
  | [] => some []
  | x :: xs => match f x, optAll f xs with
    | some y, some ys => some (y :: ys)
    | _, _ => none
theorem optAll_some {A B : Type} {f : A → Option B} {enc : B → A} (he : ∀ x y, f x = some y → x = enc y) : ∀ {l : List A} {r : List B}, optAll f l = some r → l = r.map enc ∧ ∀ y ∈ r, f (enc y) = some y
  | [], r, e => by cases e; exact ⟨rfl, fun y hy => by simp at hy⟩
  | x :: xs, r, e => by
    unfold optAll at e
    cases h1 : f x with
    | none => rw [h1] at e; cases e
    | some y =>
      cases h2 : optAll f xs with
      | none => rw [h1, h2] at e; cases e
      | some ys =>
        rw [h1, h2] at e; cases e
        obtain ⟨k1, k2⟩ := optAll_some he h2
        have ex := he x y h1
        refine ⟨by rw [List.map_cons, ← k1, ← ex], fun z hz => ?_⟩
        rcases List.mem_cons.mp hz with rfl | hz
        · rw [← ex]; exact h1
        · exact k2 z hz
theorem optAll_is {A B : Type} {f : A → Option B} : ∀ {l : List A}, (optAll f l).isSome = l.all fun x => (f x).isSome
  | [] => rfl
  | x :: xs => by
    unfold optAll
    rw [List.all_cons, ← optAll_is (l := xs)]
    cases f x with
    | none => rfl
    | some y => cases optAll f xs <;> rfl
theorem optAll_none {A B : Type} {f : A → Option B} {l : List A} (e : (l.all fun x => (f x).isSome) = false) : optAll f l = none := by
  rw [← optAll_is] at e
  cases k : optAll f l with
  | none => rfl
  | some r => rw [k] at e; cases e
def unO : MV → Option (Option Int)
  | .non => some none
  | .int i => if 1 ≤ i then some (some i) else none
  | _ => none
def unRow (b : Nat) : MV → Option (List (Option Int))
  | .tup xs => if xs.length = b + 1 then optAll unO xs else none
  | _ => none
theorem unO_some {x : MV} {y : Option Int} (e : unO x = some y) : x = oV y := by
  unfold unO at e
  split at e
  · cases e; rfl
  · split at e
    · cases e; rfl
    · cases e
  · cases e
theorem unO_pos {y : Option Int} (e : unO (oV y) = some y) : ∀ i, y = some i → 1 ≤ i := by
  rintro i rfl
  have e : (if 1 ≤ i then some (some i) else none) = some (some i) := e
  by_cases c : 1 ≤ i
  · exact c
  · rw [if_neg c] at e; cases e
def lessO (k : Int) : Option Int → Bool
  | none => false
  | some y => decide (y < k)
def rightW (w : Int) (num : Option Int) (l : List (Option Int)) : Bool := match num with
  | none => if w = 0 then l.any Option.isNone else l.all Option.isNone
  | some k => if w = 0 then l.all (lessO k) else l.any (lessO k)
theorem eqv_nones : ∀ (l : List (Option Int)), PyData.eqvAll (MV.datAll (l.map oV)) (MV.datAll (List.replicate l.length MV.non)) = l.all Option.isNone
  | [] => rfl
  | x :: l => by
    rw [List.map_cons, List.length_cons, List.replicate_succ, List.all_cons, ← eqv_nones l]
    cases x <;> rfl
theorem sh_o (x : Option Int) (n : Nat) : Sh (oV x) n := by cases x with
  | none => exact sh_non
  | some i => exact sh_int
theorem rep_non (n : Nat) : (List.replicate n [MV.non]).flatten = List.replicate n MV.non := by
  induction n with
  | zero => rfl
  | succ n ih => rw [List.replicate_succ, List.flatten_cons, ih, List.replicate_succ]; rfl
theorem wp_in_nonL {l : List (Option Int)} : Wp (inC false .non (.lst (l.map oV))) h Q ↔ Q (.bl (l.any Option.isNone)) h := by
  have flat : ∀ l : List (Option Int), (l.map oV).all flatM = true := by
    intro l
    induction l with
    | nil => rfl
    | cons a l ih => rw [List.map_cons, List.all_cons, ih]; cases a <;> rfl
  have mem : ∀ l : List (Option Int), memF .non (l.map oV) = l.any Option.isNone := by
    intro l
    induction l with
    | nil => rfl
    | cons a l ih =>
      rw [List.map_cons, List.any_cons, ← ih]
      show (eqF (oV a) .non || memF .non (l.map oV)) = _
      cases a <;> rfl
  show Wp ((itemsS (.lst (l.map oV))).bind fun xs => if flatM .non && xs.all flatM then M.pure (.bl (if false then !memF .non xs else memF .non xs)) else M.stuck) h Q ↔ _
  rw [wp_bind, wp_itS_lst, wp_ite, if_pos (by rw [flat]; rfl), wp_pure, mem]; exact Iff.rfl
end
section
variable {h : MH} {Q : MV → MH → Prop} {o : List Int} {m : List (Int × Int)} {pz : List Int} {b : Nat}
def sEnv (o : List Int) (m : List (Int × Int)) (pz : List Int) (b : Nat) (tv : MV) (a6 a7 a8 a9 a10 : Option MV) : Ev :=
  [some (gameV o m), some (intsV pz), some (.int b), some tv, some (.int o.length), some (wV m pz o.length), a6, a7, a8, a9, a10, none, none]
theorem free_noC {v : MV} (f : v.free = true) : noC v := ⟨fun i e => (by subst e; simp [MV.free] at f), fun i e => (by subst e; simp [MV.free] at f), fun i e => (by subst e; simp [MV.free] at f)⟩
theorem isTup_of {v : MV} {n : Nat} (e : isTup v n n = true) : ∃ xs, v = .tup xs ∧ xs.length = n := by
  unfold isTup at e
  split at e
  · next xs =>
    rw [Bool.and_eq_true, decide_eq_true_eq, decide_eq_true_eq] at e
    exact ⟨xs, rfl, by omega⟩
  · cases e
theorem unRow_not {v : MV} (e : isTup v (b + 1) (b + 1) = false) : unRow b v = none := by
  unfold unRow
  split
  · next rows =>
    split
    · next c =>
      have e : (decide (((b : Int) + 1) ≤ (rows.length : Nat)) && decide (((rows.length : Nat) : Int) ≤ (b : Int) + 1)) = false := e
      rw [show decide (((b : Int) + 1) ≤ (rows.length : Nat)) = true from decide_eq_true (by omega), show decide (((rows.length : Nat) : Int) ≤ (b : Int) + 1) = true from decide_eq_true (by omega)] at e
      cases e
    · rfl
  · rfl
theorem unRow_yes {v : MV} (e : isTup v (b + 1) (b + 1) = true) : ∃ xs, v = .tup xs ∧ xs.length = b + 1 ∧ (unRow b v).isSome = xs.all fun x => (unO x).isSome := by
  obtain ⟨xs, rfl, l⟩ := isTup_of (n := b + 1) (by rw [Int.natCast_add]; exact e)
  exact ⟨xs, rfl, l, by unfold unRow; simp only [l, if_true]; exact optAll_is⟩
end
section
variable {h : MH} {Q : MV → MH → Prop} {o : List Int} {m : List (Int × Int)} {pz : List Int} {b : Nat}
theorem atI_int {xs : List MV} {i : Int} {v : MV} (h0 : 0 ≤ i) (e : xs[i.toNat]? = some v) : atI xs i = some v := by
  have := at_nat' e
  rwa [show ((i.toNat : Nat) : Int) = i by omega] at this
def isTupB : MV → Bool
  | .tup _ => true
  | _ => false
theorem tup_dat {v : MV} : isSub v.ty "tuple" = isTupB v := by
  cases v <;> rfl
theorem isTupB_of {v : MV} (e : isTupB v = true) : ∃ xs, v = .tup xs := by
  cases v with
  | tup xs => exact ⟨xs, rfl⟩
  | _ => cases e
end
section
variable {h : MH} {Q : MV → MH → Prop}
theorem free_take : ∀ (xs : List MV) (n : Nat), MV.freeAll xs = true → MV.freeAll (xs.take n) = true := fun xs n f => freeAll_mem fun x hx => mem_freeAll f x (List.mem_of_mem_take hx)
theorem free_drop : ∀ (xs : List MV) (n : Nat), MV.freeAll xs = true → MV.freeAll (xs.drop n) = true := fun xs n f => freeAll_mem fun x hx => mem_freeAll f x (List.mem_of_mem_drop hx)
theorem free_cutA (xs : List MV) (lo hi : Option Int) (f : MV.freeAll xs = true) : MV.freeAll (cutA xs lo hi) = true := by
  unfold cutA; exact free_take _ _ (free_drop _ _ f)
theorem cutA_len (xs : List MV) (lo hi : Option Int) : (cutA xs lo hi).length ≤ xs.length := by
  unfold cutA; rw [List.length_take, List.length_drop]; omega
theorem wp_sl_tup {mt : Bool} {xs : List MV} {lo hi : Option Int} : Wp (slM mt (.tup xs) lo hi) h Q ↔ Q (.tup (cutA xs lo hi)) h := wp_pure
theorem wp_cat_tup {mt : Bool} {xs ys : List MV} (l : xs.length + ys.length ≤ 100000) : Wp (addM mt (.tup xs) (.tup ys)) h Q ↔ Q (.tup (xs ++ ys)) h := by
  show Wp (if xs.length + ys.length ≤ sizeLine then M.pure (MV.tup (xs ++ ys)) else M.stuck) h Q ↔ _
  rw [wp_ite, if_pos (sl_le l), wp_pure]
theorem wp_cat_lst {mt : Bool} {xs ys : List MV} (l : xs.length + ys.length ≤ 100000) : Wp (addM mt (.lst xs) (.lst ys)) h Q ↔ Wp (newL mt (xs ++ ys)) h Q := by
  show Wp ((itemsL (.lst xs)).bind fun xs => (itemsL (.lst ys)).bind fun ys => if xs.length + ys.length ≤ sizeLine then newL mt (xs ++ ys) else M.stuck) h Q ↔ _
  rw [wp_bind, wp_itL_lst, wp_bind, wp_itL_lst, wp_ite, if_pos (sl_le l)]
theorem wp_list_tup {mt : Bool} {xs : List MV} : Wp (listM mt [.tup xs]) h Q ↔ Wp (newL mt xs) h Q := Iff.rfl
theorem wp_rev_tup {mt : Bool} {xs : List MV} : Wp (revX mt (.tup xs)) h Q ↔ Q (.tup xs.reverse) h := wp_pure
theorem wp_odd {i : Nat} {N : Int} {p : List MV} (hc : cellL h i p) (hp : PotC N p) (hN : N ≤ 100000)
    (q : ∀ y p', y.free = true → PotC (N + 1) p' → Q y (h.set i (some (.lst p')))) : Wp (m__law_odd [.cell i]) h Q := by
  unfold m__law_odd
  rw [wp_def1]
  have p9 : (0 : Int) ≤ 9 ∧ (9 : Int) ≤ 1000 ∧ (10 : Int).natAbs < big256 := by decide
  have p20 : (0 : Int) ≤ 20 ∧ (20 : Int) ≤ 1000 ∧ (10 : Int).natAbs < big256 := by decide
  simp only [wp_sSeq, wp_sExp, wp_sSet, wp_sRet, wp_sIf, wp_sAsg, wp_sFor, wp_sNil, wp_sRetN, wp_sPar, wp_bAnd, wp_bOr, wp_bNot, wp_tst, wp_iff, wp_eAnd, wp_eOr, wp_eNot, wp_chn, wp_bin, wp_una, wp_var, wp_con, wp_aCons, wp_aNil, wp_aStar, atV_zero, atV_succ, asN_nx, asN_rt, asB_bl, asI_int, List.set, List.replicate, retOf, if_true, if_false, Bool.false_eq_true, Bool.not_true, Bool.not_false, wp_gT, wp_gN, wp_gsCons, wp_gsNil, wp_gSub, List.length_cons, List.length_nil, true_and, wipeE, wp_le, wp_lt, wp_gt, wp_ge, wp_sub, wp_add, wp_neg, wp_ix_tup, wp_ix_lst, ix0, ix1, Option.some.injEq, exists_eq_left', wp_len_tup, wp_len_lst, wp_itI_tup, wp_itI_lst, wp_seqI, wp_enumI, wp_zipI, wp_cut_bl, wp_cut_int, wp_cut_non, wp_metL, wp_isL_lst, wp_slE, wp_oSome, wp_oNone, wp_tupD, wp_lstD, wp_newF, wp_is_non, wp_callE, List.length_map, MV.isNon, wp_eq_int, wp_bYes, wp_bIff, wp_sPar3, wp_rgE, wp_newT, wp_itS_lst, wp_itS_tup, and_self, exists_eq_left, sized_nil, wp_pow p9, wp_pow p20]
  repeat refine ⟨rfl, ?_⟩
  rw [wp_cat_lst (Nat.le_of_ble_eq_true rfl)]
  simp only [wp_sSeq, wp_sExp, wp_sSet, wp_sRet, wp_sIf, wp_sAsg, wp_sFor, wp_sNil, wp_sRetN, wp_sPar, wp_bAnd, wp_bOr, wp_bNot, wp_tst, wp_iff, wp_eAnd, wp_eOr, wp_eNot, wp_chn, wp_bin, wp_una, wp_var, wp_con, wp_aCons, wp_aNil, wp_aStar, atV_zero, atV_succ, asN_nx, asN_rt, asB_bl, asI_int, List.set, List.replicate, retOf, if_true, if_false, Bool.false_eq_true, Bool.not_true, Bool.not_false, wp_gT, wp_gN, wp_gsCons, wp_gsNil, wp_gSub, List.length_cons, List.length_nil, true_and, wipeE, wp_le, wp_lt, wp_gt, wp_ge, wp_sub, wp_add, wp_neg, wp_ix_tup, wp_ix_lst, ix0, ix1, Option.some.injEq, exists_eq_left', wp_len_tup, wp_len_lst, wp_itI_tup, wp_itI_lst, wp_seqI, wp_enumI, wp_zipI, wp_cut_bl, wp_cut_int, wp_cut_non, wp_metL, wp_isL_lst, wp_slE, wp_oSome, wp_oNone, wp_tupD, wp_lstD, wp_newF, wp_is_non, wp_callE, List.length_map, MV.isNon, wp_eq_int, wp_bYes, wp_bIff, wp_sPar3, wp_rgE, wp_newT, wp_itS_lst, wp_itS_tup, and_self, exists_eq_left, sized_nil]
  refine wp_of hc hp hN ?_ ?_ ?_ fun y p' hy hp' => ?_
  · exact Nat.le_of_ble_eq_true rfl
  · exact Nat.le_of_ble_eq_true rfl
  · rfl
  have fy : y.free = true := mem_freeAll (by rfl) y hy
  rw [wp_cut_len (by simp) fy]
  exact q y p' fy hp'
def Fl0 (v : MV) : Prop := v = .non ∨ ∃ i : Int, v = .int i ∧ -1000000 ≤ i ∧ i ≤ 1000000
def Bd : Nat → MV → Prop
  | 0, v => Fl0 v
  | n + 1, v => Fl0 v ∨ ∃ xs, v = .tup xs ∧ xs.length ≤ 1000 ∧ ∀ x ∈ xs, Bd n x
theorem bd_zero {v : MV} : Bd 0 v ↔ Fl0 v := Iff.rfl
theorem bd_succ {n : Nat} {v : MV} : Bd (n + 1) v ↔ Fl0 v ∨ ∃ xs, v = .tup xs ∧ xs.length ≤ 1000 ∧ ∀ x ∈ xs, Bd n x := Iff.rfl
theorem Bd.up : ∀ {n : Nat} {v : MV}, Fl0 v → Bd n v
  | 0, _, b => b
  | _ + 1, _, b => bd_succ.mpr (.inl b)
theorem Fl0.free {v : MV} (b : Fl0 v) : v.free = true := by rcases b with rfl | ⟨i, rfl, _⟩ <;> rfl
theorem Fl0.sh {v : MV} {n : Nat} (b : Fl0 v) : Sh v n := by
  rcases b with rfl | ⟨i, rfl, _⟩
  · exact sh_non
  · exact sh_int
theorem Bd.free : ∀ {n : Nat} {v : MV}, Bd n v → v.free = true
  | 0, v, b => (bd_zero.mp b).free
  | n + 1, v, b => by
    rcases bd_succ.mp b with b | ⟨xs, rfl, _, hx⟩
    · exact b.free
    · exact free_of_tup (freeAll_mem fun x h => (hx x h).free)
theorem Bd.sh : ∀ {n : Nat} {v : MV}, Bd n v → Sh v n
  | 0, v, b => (bd_zero.mp b).sh
  | n + 1, v, b => by
    rcases bd_succ.mp b with b | ⟨xs, rfl, _, hx⟩
    · exact b.sh
    · exact sh_tup fun x h => (hx x h).sh
theorem wp_ne_nil {xs : List MV} {n : Nat} (hn : n ≤ 64) (s : Sh (.tup xs) n) : Wp (eqM true (.tup xs) (.tup [])) h Q ↔ Q (.bl (!xs.isEmpty)) h := by
  rw [wp_eqD (n := n) (k := 1) (fun _ e => by cases e) (fun _ e => by cases e) s (sh_tup fun v hv => by simp at hv) hn (by decide)]
  have e : PyData.eqv (MV.dat (.tup xs)) (MV.dat (.tup [])) = xs.isEmpty := by
    cases xs with
    | nil => rfl
    | cons a l => rfl
  rw [e]; exact Iff.rfl
theorem wp_str {i : Int} (l : i.natAbs.log2 < 1920) : Wp (strM [.int i]) h Q ↔ Q (.str (toString i)) h := by
  show Wp (if i.natAbs.log2 < 1920 then M.pure (MV.str (toString i)) else M.stuck) h Q ↔ _
  rw [wp_ite, if_pos l, wp_pure]
theorem log_small {i : Int} (h1 : -1000000 ≤ i) (h2 : i ≤ 1000000) : i.natAbs.log2 < 1920 := by
  have h3 : i.natAbs < 2 ^ 20 := by
    have : (2 : Nat) ^ 20 = 1048576 := by decide
    omega
  by_cases c : i.natAbs = 0
  · rw [c]; decide
  · have := (Nat.log2_lt c).mpr h3
    omega
theorem wp_bent {i : Nat} : ∀ {n : Nat} {v : MV} {h : MH} {Q : MV → MH → Prop} {N : Int} {p : List MV}, n ≤ 60 → Bd n v → cellL h i p → PotC N p → N + 3 * n + 3 ≤ 100000 →
    (∀ y p', y.free = true → PotC (N + 3 * n + 3) p' → Q y (h.set i (some (.lst p')))) → Wp (m__law_bent (n + 1) [.cell i, v]) h Q := by
  -- what is neither a tuple nor to be gone into
  have flat : ∀ {k : Nat} {v : MV} {h : MH} {Q : MV → MH → Prop} {N : Int} {p : List MV}, Fl0 v → cellL h i p → PotC N p → N + 3 ≤ 100000 →
      (∀ y p', y.free = true → PotC (N + 1) p' → Q y (h.set i (some (.lst p')))) → Wp (m__law_bent (k + 1) [.cell i, v]) h Q := by
    intro k v h Q N p b hc hp hN q
    unfold m__law_bent
    rw [wp_def2]
    rcases b with rfl | ⟨x, rfl, x0, x1⟩
    · simp only [wp_sSeq, wp_sExp, wp_sSet, wp_sRet, wp_sIf, wp_sAsg, wp_sFor, wp_sNil, wp_sRetN, wp_sPar, wp_bAnd, wp_bOr, wp_bNot, wp_tst, wp_iff, wp_eAnd, wp_eOr, wp_eNot, wp_chn, wp_bin, wp_una, wp_var, wp_con, wp_aCons, wp_aNil, wp_aStar, atV_zero, atV_succ, asN_nx, asN_rt, asB_bl, asI_int, List.set, List.replicate, retOf, if_true, if_false, Bool.false_eq_true, Bool.not_true, Bool.not_false, wp_gT, wp_gN, wp_gsCons, wp_gsNil, wp_gSub, List.length_cons, List.length_nil, true_and, wipeE, wp_le, wp_lt, wp_gt, wp_ge, wp_sub, wp_add, wp_neg, wp_ix_tup, wp_ix_lst, ix0, ix1, Option.some.injEq, exists_eq_left', wp_len_tup, wp_len_lst, wp_itI_tup, wp_itI_lst, wp_seqI, wp_enumI, wp_zipI, wp_cut_bl, wp_cut_int, wp_cut_non, wp_metL, wp_isL_lst, wp_slE, wp_oSome, wp_oNone, wp_tupD, wp_lstD, wp_newF, wp_is_non, wp_callE, List.length_map, MV.isNon, wp_eq_int, wp_bYes, wp_bIff, wp_sPar3, wp_rgE, wp_newT, wp_itS_lst, wp_itS_tup, and_self, exists_eq_left, sized_nil, wpT_non_tuple, wpT_non_bool, wpT_non_int, wpT_non_str, wpT_non_list, wpT_bl_tuple, wpT_bl_bool, wpT_bl_int, wpT_bl_str, wpT_bl_list, wpT_int_tuple, wpT_int_bool, wpT_int_int, wpT_int_str, wpT_int_list, wpT_str_tuple, wpT_str_bool, wpT_str_int, wpT_str_str, wpT_str_list, wpT_tup_tuple, wpT_tup_bool, wpT_tup_int, wpT_tup_str, wpT_tup_list, wpT_lst_tuple, wpT_lst_bool, wpT_lst_int, wpT_lst_str, wpT_lst_list, wpT_scr_tuple, wpT_scr_bool, wpT_scr_int, wpT_scr_str, wpT_scr_list]
      refine wp_odd hc hp (by omega) fun y p' fy hp' => ?_
      rw [wp_cut_len (by simp) fy]
      exact q y p' fy hp'
    · simp only [wp_sSeq, wp_sExp, wp_sSet, wp_sRet, wp_sIf, wp_sAsg, wp_sFor, wp_sNil, wp_sRetN, wp_sPar, wp_bAnd, wp_bOr, wp_bNot, wp_tst, wp_iff, wp_eAnd, wp_eOr, wp_eNot, wp_chn, wp_bin, wp_una, wp_var, wp_con, wp_aCons, wp_aNil, wp_aStar, atV_zero, atV_succ, asN_nx, asN_rt, asB_bl, asI_int, List.set, List.replicate, retOf, if_true, if_false, Bool.false_eq_true, Bool.not_true, Bool.not_false, wp_gT, wp_gN, wp_gsCons, wp_gsNil, wp_gSub, List.length_cons, List.length_nil, true_and, wipeE, wp_le, wp_lt, wp_gt, wp_ge, wp_sub, wp_add, wp_neg, wp_ix_tup, wp_ix_lst, ix0, ix1, Option.some.injEq, exists_eq_left', wp_len_tup, wp_len_lst, wp_itI_tup, wp_itI_lst, wp_seqI, wp_enumI, wp_zipI, wp_cut_bl, wp_cut_int, wp_cut_non, wp_metL, wp_isL_lst, wp_slE, wp_oSome, wp_oNone, wp_tupD, wp_lstD, wp_newF, wp_is_non, wp_callE, List.length_map, MV.isNon, wp_eq_int, wp_bYes, wp_bIff, wp_sPar3, wp_rgE, wp_newT, wp_itS_lst, wp_itS_tup, and_self, exists_eq_left, sized_nil, wpT_non_tuple, wpT_non_bool, wpT_non_int, wpT_non_str, wpT_non_list, wpT_bl_tuple, wpT_bl_bool, wpT_bl_int, wpT_bl_str, wpT_bl_list, wpT_int_tuple, wpT_int_bool, wpT_int_int, wpT_int_str, wpT_int_list, wpT_str_tuple, wpT_str_bool, wpT_str_int, wpT_str_str, wpT_str_list, wpT_tup_tuple, wpT_tup_bool, wpT_tup_int, wpT_tup_str, wpT_tup_list, wpT_lst_tuple, wpT_lst_bool, wpT_lst_int, wpT_lst_str, wpT_lst_list, wpT_scr_tuple, wpT_scr_bool, wpT_scr_int, wpT_scr_str, wpT_scr_list, wp_str (log_small x0 x1)]
      refine ⟨rfl, rfl, ?_⟩
      refine wp_of hc hp (by omega) ?_ ?_ ?_ fun y p' hy hp' => ?_
      · exact Nat.le_add_left _ _
      · exact Nat.le_of_ble_eq_true rfl
      · rfl
      have fy : y.free = true := mem_freeAll (by rfl) y hy
      rw [wp_cut_len (by simp) fy]
      exact q y p' fy hp'
  intro n
  induction n with
  | zero => 
    intro v h Q N p hn b hc hp hN q
    exact flat (bd_zero.mp b) hc hp (by omega) fun y p' fy hp' => q y p' fy (hp'.mono (by omega))
  | succ n ih =>
    intro v h Q N p hn b hc hp hN q
    rcases bd_succ.mp b with b | ⟨xs, rfl, xl, hx⟩
    · exact flat b hc hp (by omega) fun y p' fy hp' => q y p' fy (hp'.mono (by omega))
    · have fx : MV.freeAll xs = true := freeAll_mem fun x hm => (hx x hm).free
      have sx : Sh (.tup xs) (n + 1) := sh_tup fun x hm => (hx x hm).sh
      have hi := cell_lt hc
      unfold m__law_bent
      rw [wp_def2]
      simp only [wp_sSeq, wp_sIf, wp_bAnd, wp_tst, wp_una, wp_bin, wp_var, List.replicate, atV_zero, atV_succ, wpT_non_tuple, wpT_non_bool, wpT_non_int, wpT_non_str, wpT_non_list, wpT_bl_tuple, wpT_bl_bool, wpT_bl_int, wpT_bl_str, wpT_bl_list, wpT_int_tuple, wpT_int_bool, wpT_int_int, wpT_int_str, wpT_int_list, wpT_str_tuple, wpT_str_bool, wpT_str_int, wpT_str_str, wpT_str_list, wpT_tup_tuple, wpT_tup_bool, wpT_tup_int, wpT_tup_str, wpT_tup_list, wpT_lst_tuple, wpT_lst_bool, wpT_lst_int, wpT_lst_str, wpT_lst_list, wpT_scr_tuple, wpT_scr_bool, wpT_scr_int, wpT_scr_str, wpT_scr_list, asB_bl, if_true, wp_tupD, wp_aNil, wp_ne_nil (show n + 1 ≤ 64 by omega) sx]
      refine ⟨rfl, ?_⟩
      cases c : xs.isEmpty with
      | true =>
        simp only [Bool.not_true, Bool.false_eq_true, if_false]
        simp only [wp_sSeq, wp_sExp, wp_sSet, wp_sRet, wp_sIf, wp_sAsg, wp_sFor, wp_sNil, wp_sRetN, wp_sPar, wp_bAnd, wp_bOr, wp_bNot, wp_tst, wp_iff, wp_eAnd, wp_eOr, wp_eNot, wp_chn, wp_bin, wp_una, wp_var, wp_con, wp_aCons, wp_aNil, wp_aStar, atV_zero, atV_succ, asN_nx, asN_rt, asB_bl, asI_int, List.set, List.replicate, retOf, if_true, if_false, Bool.false_eq_true, Bool.not_true, Bool.not_false, wp_gT, wp_gN, wp_gsCons, wp_gsNil, wp_gSub, List.length_cons, List.length_nil, true_and, wipeE, wp_le, wp_lt, wp_gt, wp_ge, wp_sub, wp_add, wp_neg, wp_ix_tup, wp_ix_lst, ix0, ix1, Option.some.injEq, exists_eq_left', wp_len_tup, wp_len_lst, wp_itI_tup, wp_itI_lst, wp_seqI, wp_enumI, wp_zipI, wp_cut_bl, wp_cut_int, wp_cut_non, wp_metL, wp_isL_lst, wp_slE, wp_oSome, wp_oNone, wp_tupD, wp_lstD, wp_newF, wp_is_non, wp_callE, List.length_map, MV.isNon, wp_eq_int, wp_bYes, wp_bIff, wp_sPar3, wp_rgE, wp_newT, wp_itS_lst, wp_itS_tup, and_self, exists_eq_left, sized_nil, wpT_non_tuple, wpT_non_bool, wpT_non_int, wpT_non_str, wpT_non_list, wpT_bl_tuple, wpT_bl_bool, wpT_bl_int, wpT_bl_str, wpT_bl_list, wpT_int_tuple, wpT_int_bool, wpT_int_int, wpT_int_str, wpT_int_list, wpT_str_tuple, wpT_str_bool, wpT_str_int, wpT_str_str, wpT_str_list, wpT_tup_tuple, wpT_tup_bool, wpT_tup_int, wpT_tup_str, wpT_tup_list, wpT_lst_tuple, wpT_lst_bool, wpT_lst_int, wpT_lst_str, wpT_lst_list, wpT_scr_tuple, wpT_scr_bool, wpT_scr_int, wpT_scr_str, wpT_scr_list, wp_list_tup, wp_sl_tup, wp_rev_tup, wp_cat_tup (show xs.length + (cutA xs (some (-1)) none).length ≤ 100000 by have := cutA_len xs (some (-1)) none; omega)]
        refine ⟨rfl, ?_⟩
        have fall : MV.freeAll [MV.lst xs, .tup (cutA xs (some 1) none), .tup (cutA xs none (some (-1))), .tup (xs ++ cutA xs (some (-1)) none), .tup xs.reverse, .tup [], .non] = true := by
          simp only [MV.freeAll, MV.free, fx, free_cutA _ _ _ fx, freeAll_app, freeAll_mem fun x hm => mem_freeAll fx x (List.mem_reverse.mp hm)]; rfl
        refine wp_of hc hp (by omega) ?_ ?_ fall fun y p' hy hp' => ?_
        · exact Nat.le_add_left _ _
        · exact Nat.le_of_ble_eq_true rfl
        have fy : y.free = true := mem_freeAll fall y hy
        rw [wp_cut_len (by simp) fy]
        exact q y p' fy (hp'.mono (by omega))
      | false =>
        simp only [Bool.not_false, if_true, wp_callE (m := m__law_take), wp_aCons, wp_aNil, wp_var, wp_con, atV_zero, atV_succ]
        refine wp_take hc hp (by omega) (by decide) (by decide) fun r p1 r0 r1 hp1 => ?_
        have hc1 : cellL (h.set i (some (.lst p1))) i p1 := cell_set hi
        rw [wp_gt, asB_bl]
        by_cases rp : (0 : Int) < r
        · rw [if_pos (by simp [rp])]
          have xl0 : 1 ≤ xs.length := by
            cases xs with
            | nil => cases c
            | cons a l => simp
          simp only [wp_sSet, wp_callE (m := m__law_take), wp_callE (m := lenM), wp_aCons, wp_aNil, wp_var, atV_zero, atV_succ, wp_len_tup]
          refine wp_take hc1 hp1 (by omega) (by omega) (by omega) fun r2 p2 r20 r21 hp2 => ?_
          rw [List.set_set]
          have hc2 : cellL (h.set i (some (.lst p2))) i p2 := cell_set hi
          have hr : r2.toNat < xs.length := by omega
          simp only [wp_sSeq, wp_sExp, wp_sSet, wp_sRet, wp_sIf, wp_sAsg, wp_sFor, wp_sNil, wp_sRetN, wp_sPar, wp_bAnd, wp_bOr, wp_bNot, wp_tst, wp_iff, wp_eAnd, wp_eOr, wp_eNot, wp_chn, wp_bin, wp_una, wp_var, wp_con, wp_aCons, wp_aNil, wp_aStar, atV_zero, atV_succ, asN_nx, asN_rt, asB_bl, asI_int, List.set, List.replicate, retOf, if_true, if_false, Bool.false_eq_true, Bool.not_true, Bool.not_false, wp_gT, wp_gN, wp_gsCons, wp_gsNil, wp_gSub, List.length_cons, List.length_nil, true_and, wipeE, wp_le, wp_lt, wp_gt, wp_ge, wp_sub, wp_add, wp_neg, wp_ix_tup, wp_ix_lst, ix0, ix1, Option.some.injEq, exists_eq_left', wp_len_tup, wp_len_lst, wp_itI_tup, wp_itI_lst, wp_seqI, wp_enumI, wp_zipI, wp_cut_bl, wp_cut_int, wp_cut_non, wp_metL, wp_isL_lst, wp_slE, wp_oSome, wp_oNone, wp_tupD, wp_lstD, wp_newF, wp_is_non, wp_callE, List.length_map, MV.isNon, wp_eq_int, wp_bYes, wp_bIff, wp_sPar3, wp_rgE, wp_newT, wp_itS_lst, wp_itS_tup, and_self, exists_eq_left, sized_nil, wp_sl_tup, atI_int r20 (List.getElem?_eq_getElem hr)]
          refine ih (by omega) (hx _ (List.getElem_mem hr)) hc2 hp2 (by omega) fun y p3 fy hp3 => ?_
          rw [List.set_set]
          have l1 := cutA_len xs none (some r2)
          have l2 := cutA_len xs (some (r2 + 1)) none
          refine ⟨rfl, ?_⟩
          rw [wp_cat_tup (by simp; omega), wp_cat_tup (by simp; omega)]
          have ff : (MV.tup (cutA xs none (some r2) ++ [y] ++ cutA xs (some (r2 + 1)) none)).free = true := free_of_tup (by
            simp only [freeAll_app, free_cutA _ _ _ fx, MV.freeAll, fy]; rfl)
          rw [wp_cut_len (by simp) ff]
          exact q _ p3 ff (hp3.mono (by omega))
        · rw [if_neg (by simp [rp])]
          simp only [wp_sSeq, wp_sExp, wp_sSet, wp_sRet, wp_sIf, wp_sAsg, wp_sFor, wp_sNil, wp_sRetN, wp_sPar, wp_bAnd, wp_bOr, wp_bNot, wp_tst, wp_iff, wp_eAnd, wp_eOr, wp_eNot, wp_chn, wp_bin, wp_una, wp_var, wp_con, wp_aCons, wp_aNil, wp_aStar, atV_zero, atV_succ, asN_nx, asN_rt, asB_bl, asI_int, List.set, List.replicate, retOf, if_true, if_false, Bool.false_eq_true, Bool.not_true, Bool.not_false, wp_gT, wp_gN, wp_gsCons, wp_gsNil, wp_gSub, List.length_cons, List.length_nil, true_and, wipeE, wp_le, wp_lt, wp_gt, wp_ge, wp_sub, wp_add, wp_neg, wp_ix_tup, wp_ix_lst, ix0, ix1, Option.some.injEq, exists_eq_left', wp_len_tup, wp_len_lst, wp_itI_tup, wp_itI_lst, wp_seqI, wp_enumI, wp_zipI, wp_cut_bl, wp_cut_int, wp_cut_non, wp_metL, wp_isL_lst, wp_slE, wp_oSome, wp_oNone, wp_tupD, wp_lstD, wp_newF, wp_is_non, wp_callE, List.length_map, MV.isNon, wp_eq_int, wp_bYes, wp_bIff, wp_sPar3, wp_rgE, wp_newT, wp_itS_lst, wp_itS_tup, and_self, exists_eq_left, sized_nil, wpT_non_tuple, wpT_non_bool, wpT_non_int, wpT_non_str, wpT_non_list, wpT_bl_tuple, wpT_bl_bool, wpT_bl_int, wpT_bl_str, wpT_bl_list, wpT_int_tuple, wpT_int_bool, wpT_int_int, wpT_int_str, wpT_int_list, wpT_str_tuple, wpT_str_bool, wpT_str_int, wpT_str_str, wpT_str_list, wpT_tup_tuple, wpT_tup_bool, wpT_tup_int, wpT_tup_str, wpT_tup_list, wpT_lst_tuple, wpT_lst_bool, wpT_lst_int, wpT_lst_str, wpT_lst_list, wpT_scr_tuple, wpT_scr_bool, wpT_scr_int, wpT_scr_str, wpT_scr_list, wp_list_tup, wp_sl_tup, wp_rev_tup, wp_cat_tup (show xs.length + (cutA xs (some (-1)) none).length ≤ 100000 by have := cutA_len xs (some (-1)) none; omega)]
          refine ⟨rfl, ?_⟩
          have fall : MV.freeAll [MV.lst xs, .tup (cutA xs (some 1) none), .tup (cutA xs none (some (-1))), .tup (xs ++ cutA xs (some (-1)) none), .tup xs.reverse, .tup [], .non] = true := by
            simp only [MV.freeAll, MV.free, fx, free_cutA _ _ _ fx, freeAll_app, freeAll_mem fun x hm => mem_freeAll fx x (List.mem_reverse.mp hm)]; rfl
          refine wp_of hc1 hp1 (by omega) ?_ ?_ fall fun y p' hy hp' => ?_
          · exact Nat.le_add_left _ _
          · exact Nat.le_of_ble_eq_true rfl
          have fy : y.free = true := mem_freeAll fall y hy
          rw [wp_cut_len (by simp) fy]
          rw [List.set_set]
          exact q y p' fy (hp'.mono (by omega))
end
section
variable {h : MH} {Q : MV → MH → Prop} {o : List Int} {m : List (Int × Int)} {pz : List Int} {b : Nat}
theorem wp_cat_cl {mt : Bool} {c : Nat} {xs ys : List MV} (e : cellL h c xs) (l : xs.length + ys.length ≤ 100000) : Wp (addM mt (.cell c) (.lst ys)) h Q ↔ Wp (newL mt (xs ++ ys)) h Q := by
  show Wp ((itemsL (.cell c)).bind fun xs => (itemsL (.lst ys)).bind fun ys => if xs.length + ys.length ≤ sizeLine then newL mt (xs ++ ys) else M.stuck) h Q ↔ _
  rw [wp_bind, wp_itL_cell e, wp_bind, wp_itL_lst, wp_ite, if_pos (sl_le l)]
theorem wp_mulT {xs : List MV} {n : Nat} (hx : xs.length ≤ 1000) (hn : n ≤ 1000) : Wp (mulT (.tup xs) (.int n)) h Q ↔ Q (.tup (List.replicate n xs).flatten) h := by
  show Wp (if decide ((n : Int) ≤ 1000 ∧ -1000 ≤ (n : Int) ∧ xs.length ≤ 1000) then M.pure (MV.tup (List.replicate ((n : Int)).toNat xs).flatten) else M.stuck) h Q ↔ _
  rw [wp_ite, if_pos (decide_eq_true ⟨by omega, by omega, hx⟩), wp_pure, show ((n : Int)).toNat = n by omega]
def addO (s : Int) : Option Int → MV
  | none => .non
  | some x => .int (x + s)
def mulO : Option Int → MV
  | none => .non
  | some x => .int (x * 3)
theorem free_addO (s : Int) (x : Option Int) : (addO s x).free = true := by cases x <;> rfl
theorem free_mulO (x : Option Int) : (mulO x).free = true := by cases x <;> rfl
end
section
variable {h : MH} {Q : MV → MH → Prop} {o : List Int} {m : List (Int × Int)} {pz : List Int} {b : Nat}
theorem wp_repr_bl {x : Bool} : Wp (reprM [.bl x]) h Q ↔ Q (.str (PyData.shown (.bool x))) h := by
  cases x
  · show Wp ((M.pure (MV.bl false)).bind fun x => if SeqAt.shaped x.dat && x.dat.showable && !x.dat.hasDict && decide (x.dat.depth ≤ 60) && decide (x.dat.shown.length ≤ sizeLine) then M.pure (.str x.dat.shown) else M.stuck) h Q ↔ _
    rw [wp_bind, wp_pure, wp_ite, if_pos (by decide +kernel), wp_pure]; exact Iff.rfl
  · show Wp ((M.pure (MV.bl true)).bind fun x => if SeqAt.shaped x.dat && x.dat.showable && !x.dat.hasDict && decide (x.dat.depth ≤ 60) && decide (x.dat.shown.length ≤ sizeLine) then M.pure (.str x.dat.shown) else M.stuck) h Q ↔ _
    rw [wp_bind, wp_pure, wp_ite, if_pos (by decide +kernel), wp_pure]; exact Iff.rfl
theorem wp_neS {x : Str} : Wp (eqS true (.str x) (.str x)) h Q ↔ Q (.bl false) h := by
  show Wp (M.pure (.bl (if true then !decide (x = x) else decide (x = x)))) h Q ↔ _
  rw [wp_pure, decide_eq_true rfl]; exact Iff.rfl
theorem set_self {A : Type} {l : List A} {i : Nat} {a : A} (e : l[i]? = some a) : l.set i a = l := by
  have hi := (List.getElem?_eq_some_iff.mp e).1
  apply List.ext_getElem?
  intro j
  by_cases c : i = j
  · subst c; rw [List.getElem?_set_self hi, e]
  · rw [List.getElem?_set_ne c]
end
section
variable {h : MH} {Q : MV → MH → Prop} {o : List Int} {m : List (Int × Int)}
theorem wp_in_ints {neg b : Bool} {x : Int} {l : List Int} : Wp (inC neg (.int x) (seqV b (l.map .int))) h Q ↔ Q (.bl (if neg then !l.contains x else l.contains x)) h := by
  show Wp ((itemsS (seqV b (l.map .int))).bind fun xs => if flatM (.int x) && xs.all flatM then M.pure (.bl (if neg then !memF (.int x) xs else memF (.int x) xs)) else M.stuck) h Q ↔ _
  have e : ∀ {P : List MV → MH → Prop}, Wp (itemsS (seqV b (l.map MV.int))) h P ↔ P (l.map .int) h := fun {P} => by
    cases b
    · exact wp_itS_lst
    · exact wp_itS_tup
  rw [wp_bind, e, wp_ite, if_pos (by rw [flat_ints]; rfl), wp_pure, memF_ints]
theorem wp_in_tup {neg : Bool} {x : Int} {l : List Int} : Wp (inC neg (.int x) (.tup (l.map .int))) h Q ↔ Q (.bl (if neg then !l.contains x else l.contains x)) h := wp_in_ints (b := true)
theorem wp_in_lst {neg : Bool} {x : Int} {l : List Int} : Wp (inC neg (.int x) (.lst (l.map .int))) h Q ↔ Q (.bl (if neg then !l.contains x else l.contains x)) h := wp_in_ints (b := false)
theorem wp_check_map' (G : Game o m) (q : Q .non h) : Wp (m_check_map [gameV o m]) h Q := wp_check_map G q
def Who (w : Int) : Prop := w = 0 ∨ w = 1
theorem Who.other {w : Int} (h : Who w) : Who (1 - w) := by rcases h with rfl | rfl <;> unfold Who <;> omega
theorem wp_check_player {w : Int} (hw : Who w) (q : Q .non h) : Wp (m_check_player [.int w]) h Q := by
  unfold m_check_player
  rw [wp_def1]
  have e : isInt (.int w) 0 1 = true := by rcases hw with rfl | rfl <;> rfl
  simp only [wp_sSeq, wp_sExp, wp_sSet, wp_sRet, wp_sIf, wp_sAsg, wp_sFor, wp_sNil, wp_sRetN, wp_sPar, wp_bAnd, wp_bOr, wp_bNot, wp_tst, wp_iff, wp_eAnd, wp_eOr, wp_eNot, wp_chn, wp_bin, wp_una, wp_var, wp_con, wp_aCons, wp_aNil, wp_aStar, atV_zero, atV_succ, asN_nx, asN_rt, asB_bl, asI_int, List.set, List.replicate, retOf, if_true, if_false, Bool.false_eq_true, Bool.not_true, Bool.not_false, wp_gT, wp_gN, wp_gsCons, wp_gsNil, wp_gSub, List.length_cons, List.length_nil, true_and, wipeE, wp_le, wp_lt, wp_gt, wp_ge, wp_sub, wp_add, wp_neg, wp_ix_tup, wp_ix_lst, ix0, ix1, Option.some.injEq, exists_eq_left', wp_len_tup, wp_len_lst, wp_itI_tup, wp_itI_lst, wp_seqI, wp_enumI, wp_zipI, wp_cut_bl, wp_cut_int, wp_cut_non, wp_metL, wp_isL_lst, wp_slE, wp_oSome, wp_oNone, wp_tupD, wp_lstD, wp_newF, wp_is_non, wp_callE, List.length_map, MV.isNon, wp_eq_int, wp_bYes, wp_bIff, wp_sPar3, wp_rgE, wp_newT, wp_itS_lst, wp_itS_tup, and_self, exists_eq_left, sized_nil, wp_is_integer noC_int, e]
  exact q
structure Plc (n : Nat) (S : List Int) : Prop where
  asc : S.Pairwise (· < ·)
  rng : ∀ x ∈ S, 0 ≤ x ∧ x < n
theorem asc_len : ∀ {S : List Int} {a b : Int}, S.Pairwise (· < ·) → (∀ x ∈ S, a ≤ x ∧ x < b) → (S.length : Int) ≤ max 0 (b - a)
  | [], a, b, _, _ => by simp; omega
  | x :: S, a, b, hp, hr => by
    have hx := hr x (by simp)
    have ih := asc_len (S := S) (a := x + 1) (b := b) (List.pairwise_cons.mp hp).2 fun y hy => by
      have h1 := (List.pairwise_cons.mp hp).1 y hy
      have h2 := hr y (List.mem_cons_of_mem _ hy)
      omega
    rw [List.length_cons]
    omega
theorem Plc.len {n : Nat} {S : List Int} (p : Plc n S) : S.length ≤ n := by
  have := asc_len p.asc p.rng
  omega
theorem zip_pairI {l : List Int} {R : Int → Int → Prop} (hm : l.Pairwise R) {p q : Int} (h : (p, q) ∈ l.zip (l.drop 1)) : R p q := by
  obtain ⟨i, hi, e⟩ := List.getElem_of_mem h
  have h1 : i < l.length := by simp at hi; omega
  have h2 : i + 1 < l.length := by simp at hi; omega
  simp only [List.getElem_zip, List.getElem_drop] at e
  cases e
  exact List.pairwise_iff_getElem.mp hm i (1 + i) h1 (by omega) (by omega)
theorem wp_is_rising_ints {S : List Int} (hm : S.Pairwise (· < ·)) (few : S.length ≤ 1000) (q : Q (.bl true) h) : Wp (m_is_rising [.tup (S.map .int)]) h Q := by
  unfold m_is_rising
  rw [wp_def1]
  simp only [List.replicate, wp_sRet, retOf]
  refine wp_bCmpC (F := fun bs => bs.all id) (S.zip (S.drop 1)) (fun p => .tup [.int p.1, .int p.2]) (fun _ => true) ?_ (by simp; omega) (fun p hp t => ?_) ?_
  · simp only [wp_sSeq, wp_sExp, wp_sSet, wp_sRet, wp_sIf, wp_sAsg, wp_sFor, wp_sNil, wp_sRetN, wp_sPar, wp_bAnd, wp_bOr, wp_bNot, wp_tst, wp_iff, wp_eAnd, wp_eOr, wp_eNot, wp_chn, wp_bin, wp_una, wp_var, wp_con, wp_aCons, wp_aNil, wp_aStar, atV_zero, atV_succ, asN_nx, asN_rt, asB_bl, asI_int, List.set, List.replicate, retOf, if_true, if_false, Bool.false_eq_true, Bool.not_true, Bool.not_false, wp_gT, wp_gN, wp_gsCons, wp_gsNil, wp_gSub, List.length_cons, List.length_nil, true_and, wipeE, wp_le, wp_lt, wp_gt, wp_ge, wp_sub, wp_add, wp_neg, wp_ix_tup, wp_ix_lst, ix0, ix1, Option.some.injEq, exists_eq_left', wp_len_tup, wp_len_lst, wp_itI_tup, wp_itI_lst, wp_seqI, wp_enumI, wp_zipI, wp_cut_bl, wp_cut_int, wp_cut_non, wp_metL, wp_isL_lst, wp_slE, wp_oSome, wp_oNone, wp_tupD, wp_lstD, wp_newF, wp_is_non, wp_callE, List.length_map, MV.isNon, wp_eq_int, wp_bYes, wp_bIff, wp_sPar3, wp_rgE, wp_newT, wp_itS_lst, wp_itS_tup, and_self, exists_eq_left, sized_nil, wp_sl_tup]
    rw [cut_one, ← List.map_drop, zip_map2]
    exact ⟨rfl, trivial⟩
  · have lt := zip_pairI hm (p := p.1) (q := p.2) hp
    simp only [wp_sSeq, wp_sExp, wp_sSet, wp_sRet, wp_sIf, wp_sAsg, wp_sFor, wp_sNil, wp_sRetN, wp_sPar, wp_bAnd, wp_bOr, wp_bNot, wp_tst, wp_iff, wp_eAnd, wp_eOr, wp_eNot, wp_chn, wp_bin, wp_una, wp_var, wp_con, wp_aCons, wp_aNil, wp_aStar, atV_zero, atV_succ, asN_nx, asN_rt, asB_bl, asI_int, List.set, List.replicate, retOf, if_true, if_false, Bool.false_eq_true, Bool.not_true, Bool.not_false, wp_gT, wp_gN, wp_gsCons, wp_gsNil, wp_gSub, List.length_cons, List.length_nil, true_and, wipeE, wp_le, wp_lt, wp_gt, wp_ge, wp_sub, wp_add, wp_neg, wp_ix_tup, wp_ix_lst, ix0, ix1, Option.some.injEq, exists_eq_left', wp_len_tup, wp_len_lst, wp_itI_tup, wp_itI_lst, wp_seqI, wp_enumI, wp_zipI, wp_cut_bl, wp_cut_int, wp_cut_non, wp_metL, wp_isL_lst, wp_slE, wp_oSome, wp_oNone, wp_tupD, wp_lstD, wp_newF, wp_is_non, wp_callE, List.length_map, MV.isNon, wp_eq_int, wp_bYes, wp_bIff, wp_sPar3, wp_rgE, wp_newT, wp_itS_lst, wp_itS_tup, and_self, exists_eq_left, sized_nil, decide_eq_true lt]
  · rw [List.all_map]
    have : ((S.zip (S.drop 1)).all (id ∘ fun _ => true)) = true := by simp
    rw [this, wp_cut_bl]; exact q
def waysU (m : List (Int × Int)) (v : Int) : List Int := (m.filter fun e => e.1 == v).map (·.2)
def uRows (m : List (Int × Int)) (n : Nat) : List (List MV) := (List.range n).map fun i : Nat => (waysU m (i : Int)).map .int
def uV (m : List (Int × Int)) (n : Nat) : MV := .lst ((uRows m n).map .lst)
theorem waysU_len (m : List (Int × Int)) (v : Int) : (waysU m v).length ≤ m.length := by
  unfold waysU
  rw [List.length_map]
  exact List.length_filter_le _ _
theorem waysU_snoc (m : List (Int × Int)) (i : Nat) (p : Int × Int) (hm : m[i]? = some p) (v : Int) :
    waysU (m.take (i + 1)) v = waysU (m.take i) v ++ if p.1 = v then [p.2] else [] := by
  unfold waysU
  rw [List.take_add_one, hm, List.filter_append, List.map_append]
  congr 1
  by_cases c : p.1 = v <;> simp [c]
theorem waysU_rng (G : Game o m) (v : Int) : ∀ x ∈ waysU m v, 0 ≤ x ∧ x < o.length := by
  intro x hx
  unfold waysU at hx
  obtain ⟨p, hp, rfl⟩ := List.mem_map.mp hx
  have := G.rng p (List.mem_filter.mp hp).1
  omega
theorem waysU_ne (G : Game o m) {v : Nat} (hv : v < o.length) : waysU m v ≠ [] := by
  obtain ⟨p, hp, e⟩ := List.mem_map.mp (G.all v hv)
  have : p.2 ∈ waysU m v := List.mem_map.mpr ⟨p, List.mem_filter.mpr ⟨hp, by simp [e]⟩, rfl⟩
  intro z
  rw [z] at this; simp at this
theorem uRows_free {n : Nat} : ∀ r ∈ uRows m n, MV.freeAll r = true := fun r hr => by
  obtain ⟨i, _, rfl⟩ := List.mem_map.mp hr
  exact free_ints _
theorem at_uRows {n v : Nat} (hv : v < n) : atI ((uRows m n).map MV.lst) (v : Int) = some (.lst ((waysU m v).map .int)) := by
  unfold uRows
  rw [List.map_map]
  exact at_map (e := MV.lst ∘ fun i : Nat => (waysU m (i : Int)).map MV.int) (List.getElem?_range hv)
theorem wp_ways (G : Game o m) (q : Q (uV m o.length) h) : Wp (m_ways [gameV o m]) h Q := by
  have o12 := G.o12
  have m60 := G.m60
  unfold m_ways
  rw [wp_def1]
  simp only [wp_sSeq, wp_sSet, List.replicate]
  refine wp_rowsR (xs := o.map .int) (r := []) ?_ (sl_le (by simp; omega)) (fun e => ?_) (fun v hv h' Q' q' => ?_) ?_
  · simp only [wp_sSeq, wp_sExp, wp_sSet, wp_sRet, wp_sIf, wp_sAsg, wp_sFor, wp_sNil, wp_sRetN, wp_sPar, wp_bAnd, wp_bOr, wp_bNot, wp_tst, wp_iff, wp_eAnd, wp_eOr, wp_eNot, wp_chn, wp_bin, wp_una, wp_var, wp_con, wp_aCons, wp_aNil, wp_aStar, atV_zero, atV_succ, asN_nx, asN_rt, asB_bl, asI_int, List.set, List.replicate, retOf, if_true, if_false, Bool.false_eq_true, Bool.not_true, Bool.not_false, wp_gT, wp_gN, wp_gsCons, wp_gsNil, wp_gSub, List.length_cons, List.length_nil, true_and, wipeE, wp_le, wp_lt, wp_gt, wp_ge, wp_sub, wp_add, wp_neg, wp_ix_tup, wp_ix_lst, ix0, ix1, Option.some.injEq, exists_eq_left', wp_len_tup, wp_len_lst, wp_itI_tup, wp_itI_lst, wp_seqI, wp_enumI, wp_zipI, wp_cut_bl, wp_cut_int, wp_cut_non, wp_metL, wp_isL_lst, wp_slE, wp_oSome, wp_oNone, wp_tupD, wp_lstD, wp_newF, wp_is_non, wp_callE, List.length_map, MV.isNon, wp_eq_int, wp_bYes, wp_bIff, wp_sPar3, wp_rgE, wp_newT, wp_itS_lst, wp_itS_tup, and_self, exists_eq_left, sized_nil, gameV, intsV]
  · have := G.o1
    rw [List.map_eq_nil_iff] at e
    rw [e] at this; simp at this
  · simp only [wp_lstD, wp_aNil, wp_newT]
    exact ⟨rfl, q'⟩
  rw [rows_newR, List.length_map]
  have el : (h ++ [none]).length = h.length + 1 := by simp
  simp only [asN_nx, List.set, wp_sFor, wp_seqI, wp_bin, wp_var, wp_con, atV_zero, gameV, wp_ix_tup, ix1, Option.some.injEq, exists_eq_left', movesV, wp_itI_tup]
  refine wp_loopL m mvV (fun i env h' => ∃ a2 a3 a4 : Option MV, env = [some (gameV o m), some (.lst (cellsFrom' (h.length + 1) o.length)), a2, a3, a4] ∧ h' = rowsH (h ++ [none]) (uRows (m.take i) o.length) []) ⟨_, _, _, rfl, ?_⟩ ?_ ?_
  · congr 1
    unfold uRows waysU
    apply List.ext_getElem <;> simp
  · rintro i p env h' em il ⟨a2, a3, a4, rfl, rfl⟩
    have hp := G.rng p (List.mem_of_getElem? em)
    have hlt : p.1.toNat < o.length := by omega
    have hr : (uRows (m.take i) o.length)[p.1.toNat]? = some ((waysU (m.take i) p.1).map .int) := by
      unfold uRows
      rw [List.getElem?_map, List.getElem?_range hlt]
      simp only [Option.map_some]
      rw [show ((p.1.toNat : Nat) : Int) = p.1 by omega]
    have hc := cell_row (h1 := h ++ [none]) (tl := []) hr
    rw [el] at hc
    have wl := waysU_len (m.take i) p.1
    rw [List.length_take] at wl
    simp only [wp_sSeq, wp_sExp, wp_sSet, wp_sRet, wp_sIf, wp_sAsg, wp_sFor, wp_sNil, wp_sRetN, wp_sPar, wp_bAnd, wp_bOr, wp_bNot, wp_tst, wp_iff, wp_eAnd, wp_eOr, wp_eNot, wp_chn, wp_bin, wp_una, wp_var, wp_con, wp_aCons, wp_aNil, wp_aStar, atV_zero, atV_succ, asN_nx, asN_rt, asB_bl, asI_int, List.set, List.replicate, retOf, if_true, if_false, Bool.false_eq_true, Bool.not_true, Bool.not_false, wp_gT, wp_gN, wp_gsCons, wp_gsNil, wp_gSub, List.length_cons, List.length_nil, true_and, wipeE, wp_le, wp_lt, wp_gt, wp_ge, wp_sub, wp_add, wp_neg, wp_ix_tup, wp_ix_lst, ix0, ix1, Option.some.injEq, exists_eq_left', wp_len_tup, wp_len_lst, wp_itI_tup, wp_itI_lst, wp_seqI, wp_enumI, wp_zipI, wp_cut_bl, wp_cut_int, wp_cut_non, wp_metL, wp_isL_lst, wp_slE, wp_oSome, wp_oNone, wp_tupD, wp_lstD, wp_newF, wp_is_non, wp_callE, List.length_map, MV.isNon, wp_eq_int, wp_bYes, wp_bIff, wp_sPar3, wp_rgE, wp_newT, wp_itS_lst, wp_itS_tup, and_self, exists_eq_left, sized_nil, mvV, at_cells hp.1 (show p.1 < (o.length : Nat) by omega), wp_isL_cell hc]
    rw [wp_app hc (free_ints _) (by simp [MV.free]) (sl_lt (by rw [List.length_map]; omega))]
    refine ⟨_, _, _, rfl, ?_⟩
    rw [← el, set_row (by unfold uRows; simpa using hlt)]
    congr 1
    apply List.ext_getElem?
    intro j
    rw [List.getElem?_set]
    unfold uRows
    by_cases hj : j < o.length
    · simp only [List.length_map, List.length_range, List.getElem?_map, List.getElem?_range hj, Option.map_some]
      rw [waysU_snoc m i p em]
      by_cases c2 : p.1.toNat = j
      · rw [if_pos c2, if_pos (by omega), if_pos (by omega), List.map_append]
        rw [show ((j : Nat) : Int) = p.1 by omega]; rfl
      · rw [if_neg c2, if_neg (by omega), List.append_nil]
    · have h1 : (List.range o.length)[j]? = none := List.getElem?_eq_none (by simp; omega)
      simp only [List.length_map, List.length_range, List.getElem?_map, h1, Option.map_none]
      by_cases c2 : p.1.toNat = j
      · omega
      · rw [if_neg c2]
  · rintro env h' ⟨a2, a3, a4, rfl, rfl⟩
    rw [List.take_length]
    simp only [wp_sSeq, wp_sExp, wp_sSet, wp_sRet, wp_sIf, wp_sAsg, wp_sFor, wp_sNil, wp_sRetN, wp_sPar, wp_bAnd, wp_bOr, wp_bNot, wp_tst, wp_iff, wp_eAnd, wp_eOr, wp_eNot, wp_chn, wp_bin, wp_una, wp_var, wp_con, wp_aCons, wp_aNil, wp_aStar, atV_zero, atV_succ, asN_nx, asN_rt, asB_bl, asI_int, List.set, List.replicate, retOf, if_true, if_false, Bool.false_eq_true, Bool.not_true, Bool.not_false, wp_gT, wp_gN, wp_gsCons, wp_gsNil, wp_gSub, List.length_cons, List.length_nil, true_and, wipeE, wp_le, wp_lt, wp_gt, wp_ge, wp_sub, wp_add, wp_neg, wp_ix_tup, wp_ix_lst, ix0, ix1, Option.some.injEq, exists_eq_left', wp_len_tup, wp_len_lst, wp_itI_tup, wp_itI_lst, wp_seqI, wp_enumI, wp_zipI, wp_cut_bl, wp_cut_int, wp_cut_non, wp_metL, wp_isL_lst, wp_slE, wp_oSome, wp_oNone, wp_tupD, wp_lstD, wp_newF, wp_is_non, wp_callE, List.length_map, MV.isNon, wp_eq_int, wp_bYes, wp_bIff, wp_sPar3, wp_rgE, wp_newT, wp_itS_lst, wp_itS_tup, and_self, exists_eq_left, sized_nil, wp_frzE]
    have wlen : (uRows m o.length).length = o.length := by unfold uRows; simp
    have w := (wp_frz_rows (n := 1) (Q := fun v h' => v = uV m o.length ∧ h' = (h ++ [none]) ++ List.replicate o.length none ++ []) (h1 := h ++ [none]) (tl := []) (rows := uRows m o.length) (m := h.length + 1) el.symm (uRows_free)).mpr ⟨rfl, by rw [wlen]⟩
    rw [wlen] at w
    refine w.mono fun v h2 z => ?_
    obtain ⟨rfl, rfl⟩ := z
    have fr : (uV m o.length).free = true := free_of_lst (free_lsts _ uRows_free)
    rw [wp_cutv fr]
    simpa using q
def bestO (own : Bool) (l : List (Option Int)) : Option Int := chosen (if own then 0 else 1) l
theorem bestO_true (l : List (Option Int)) : bestO true l = (match l.filterMap id with
    | [] => none
    | a :: r => some (minL a r)) := rfl
theorem bestO_false (l : List (Option Int)) : bestO false l = if (l.filterMap id).length = l.length then (match l.filterMap id with
    | [] => none
    | a :: r => some (maxL a r)) else none := rfl
end
section
variable {h : MH} {Q : MV → MH → Prop} {o : List Int} {m : List (Int × Int)}
def stepR (o : List Int) (m : List (Int × Int)) (w : Int) (S : List Int) (F : List (Option Int)) (v : Nat) : Option Int :=
  if S.contains (v : Int) then some 0 else (bestO (o.getD v 0 == w) ((waysU m v).map (look F))).map (· + 1)
theorem allLe_map {A : Type} {f g : A → Option Int} : ∀ {l : List A}, (∀ a ∈ l, oLe (f a) (g a)) → AllLe (l.map f) (l.map g)
  | [], _ => .nil
  | a :: l, h => .cons (h a (by simp)) (allLe_map fun b hb => h b (List.mem_cons_of_mem _ hb))
theorem stepR_mono {w : Int} {S : List Int} {F F' : List (Option Int)} (G : Game o m) (l : FLe F F' o.length) (v : Nat) : oLe (stepR o m w S F v) (stepR o m w S F' v) := by
  unfold stepR
  by_cases c : S.contains (v : Int) = true
  · rw [if_pos c, if_pos c]; exact oLe.refl _
  · rw [if_neg c, if_neg c]
    have := chosen_mono (w := if (o.getD v 0 == w) = true then 0 else 1) (allLe_map (l := waysU m v) (f := look F) (g := look F') fun a ha => by
      have r := waysU_rng G v a ha
      have := l a.toNat (by omega)
      rwa [show ((a.toNat : Nat) : Int) = a by omega] at this)
    unfold bestO
    generalize chosen (if (o.getD v 0 == w) = true then 0 else 1) ((waysU m v).map (look F)) = a at this
    generalize chosen (if (o.getD v 0 == w) = true then 0 else 1) ((waysU m v).map (look F')) = b at this
    cases b with
    | none => trivial
    | some y =>
      obtain ⟨x, rfl, l⟩ := this
      exact ⟨x + 1, rfl, show x + 1 ≤ y + 1 by omega⟩
def fins (F : List (Option Int)) : Nat := (F.map fun x => if x.isSome then 1 else 0).sum
def weigh (n : Nat) : Option Int → Nat
  | none => n + 2
  | some k => k.toNat
def weight (n : Nat) (F : List (Option Int)) : Nat := (F.map (weigh n)).sum
structure RInv (o : List Int) (m : List (Int × Int)) (w : Int) (S : List Int) (F : List (Option Int)) : Prop where
  len : F.length = o.length
  bd : ∀ x, some x ∈ F → 0 ≤ x ∧ x ≤ fins F
  post : ∀ v : Nat, v < o.length → oLe (stepR o m w S F v) (look F v)
theorem sum_set {f : Option Int → Nat} : ∀ {F : List (Option Int)} {v : Nat} {p : Option Int}, v < F.length → ((F.set v p).map f).sum + f (look F v) = (F.map f).sum + f p
  | x :: F, 0, p, _ => by
    have : look (x :: F) 0 = x := rfl
    rw [List.set_cons_zero, List.map_cons, List.map_cons, List.sum_cons, List.sum_cons]
    show f p + _ + f (look (x :: F) ((0 : Nat) : Int)) = _
    rw [show look (x :: F) ((0 : Nat) : Int) = x from rfl]; omega
  | x :: F, v + 1, p, hv => by
    have ih := sum_set (f := f) (F := F) (v := v) (p := p) (by simpa using hv)
    have e : look (x :: F) ((v + 1 : Nat) : Int) = look F v := by
      unfold look
      rw [show (((v + 1 : Nat) : Int)).toNat = v + 1 by omega, show ((v : Int)).toNat = v by omega, List.getElem?_cons_succ]
    rw [List.set_cons_succ, List.map_cons, List.map_cons, List.sum_cons, List.sum_cons, e]; omega
theorem fins_le (F : List (Option Int)) : fins F ≤ F.length := by
  unfold fins
  induction F with
  | nil => simp
  | cons x F ih => rw [List.map_cons, List.sum_cons, List.length_cons]; split <;> omega
theorem bestO_mem {own : Bool} {l : List (Option Int)} {x : Int} (e : bestO own l = some x) : some x ∈ l := chosen_mem e
theorem mem_set {F : List (Option Int)} {v : Nat} {p y : Option Int} (h : y ∈ F.set v p) : y = p ∨ y ∈ F := by
  rcases List.mem_or_eq_of_mem_set h with h | h
  · exact .inr h
  · exact .inl h
theorem RInv.set {w : Int} {S : List Int} {F : List (Option Int)} {v : Nat} (G : Game o m) (r : RInv o m w S F) (hv : v < o.length) : RInv o m w S (F.set v (stepR o m w S F v)) ∧ (stepR o m w S F v ≠ look F v → weight o.length (F.set v (stepR o m w S F v)) < weight o.length F) := by
  have hvF : v < F.length := by rw [r.len]; exact hv
  have pv := r.post v hv
  generalize hs : stepR o m w S F v = s at pv ⊢
  have less : FLe (F.set v s) F o.length := fun u hu => by
    rw [look_set hvF]
    by_cases c : v = u
    · subst c; rw [if_pos rfl]; exact pv
    · rw [if_neg c]; exact oLe.refl _
  have fs := sum_set (f := fun x => if x.isSome then 1 else 0) (F := F) (v := v) (p := s) hvF
  have fs : fins (F.set v s) + (if (look F v).isSome then 1 else 0) = fins F + (if s.isSome then 1 else 0) := fs
  have s_bd : ∀ x, s = some x → 0 ≤ x ∧ x ≤ (fins F : Int) + 1 := fun x ex => by
    rw [ex] at hs
    unfold stepR at hs
    by_cases c : S.contains (v : Int) = true
    · rw [if_pos c] at hs; cases hs; omega
    · rw [if_neg c] at hs
      cases hb : bestO (o.getD v 0 == w) ((waysU m v).map (look F)) with
      | none => rw [hb] at hs; cases hs
      | some y =>
        rw [hb] at hs
        have hs : y + 1 = x := Option.some.inj hs
        obtain ⟨a, ha, ea⟩ := List.mem_map.mp (bestO_mem hb)
        have ra := waysU_rng G v a ha
        have := r.bd y (look_mem (v := a.toNat) (by rw [show ((a.toNat : Nat) : Int) = a by omega]; exact ea))
        omega
  have fle := fins_le F
  have fle2 := fins_le (F.set v s)
  rw [List.length_set, r.len] at fle2
  rw [r.len] at fle
  have fmono : fins F ≤ fins (F.set v s) := by
    cases hl : look F v with
    | none => rw [hl] at fs; simp at fs; omega
    | some y =>
      rw [hl] at pv
      obtain ⟨x, rfl, _⟩ := pv
      rw [hl] at fs; simp at fs; omega
  refine ⟨⟨by rw [List.length_set]; exact r.len, fun x hx => ?_, fun u hu => ?_⟩, fun ne => ?_⟩
  · rcases mem_set hx with e | hx
    · subst e
      have b := s_bd x rfl
      refine ⟨b.1, ?_⟩
      cases hl : look F v with
      | none =>
        rw [hl] at fs
        have fs : fins (F.set v (some x)) + 0 = fins F + 1 := fs
        omega
      | some y =>
        rw [hl] at pv
        obtain ⟨x', e', l⟩ := pv
        cases e'
        have := (r.bd y (look_mem hl)).2
        omega
    · have := r.bd x hx; omega
  · refine (stepR_mono G less u).trans ?_
    rw [look_set hvF]
    by_cases c : v = u
    · subst c; rw [if_pos rfl, hs]; exact oLe.refl _
    · rw [if_neg c]; exact r.post u hu
  · have ws := sum_set (f := weigh o.length) (F := F) (v := v) (p := s) hvF
    have ws : weight o.length (F.set v s) + weigh o.length (look F v) = weight o.length F + weigh o.length s := ws
    have : weigh o.length s < weigh o.length (look F v) := by
      cases hl : look F v with
      | none =>
        cases s with
        | none => exact absurd hl.symm ne
        | some x =>
          have := s_bd x rfl
          show x.toNat < o.length + 2
          omega
      | some y =>
        rw [hl] at pv ne
        obtain ⟨x, rfl, l⟩ := pv
        have := s_bd x rfl
        have : x ≠ y := fun e => ne (by rw [e])
        show x.toNat < y.toNat
        omega
    omega
def start (S : List Int) (n : Nat) : List (Option Int) := (List.range n).map fun v : Nat => if S.contains (v : Int) then some 0 else none
theorem look_range {n v : Nat} {f : Nat → Option Int} (hv : v < n) : look ((List.range n).map f) v = f v := by
  unfold look
  rw [show ((v : Int)).toNat = v by omega, List.getElem?_map, List.getElem?_range hv]; rfl
theorem RInv.start {w : Int} {S : List Int} : RInv o m w S (start S o.length) := by
  refine ⟨by unfold Lw.start; simp, fun x hx => ?_, fun v hv => ?_⟩
  · unfold Lw.start at hx
    obtain ⟨v, _, e⟩ := List.mem_map.mp hx
    split at e
    · cases e; omega
    · cases e
  · unfold Lw.start
    rw [look_range hv]
    by_cases c : S.contains (v : Int) = true
    · rw [if_pos c]; unfold stepR; rw [if_pos c]; exact oLe.refl _
    · rw [if_neg c]; trivial
theorem weight_le {w : Int} {S : List Int} {F : List (Option Int)} (r : RInv o m w S F) : weight o.length F ≤ o.length * (o.length + 2) := by
  unfold weight
  have : ∀ l : List (Option Int), (∀ x, some x ∈ l → 0 ≤ x ∧ x ≤ (o.length : Int)) → (l.map (weigh o.length)).sum ≤ l.length * (o.length + 2) := by
    intro l
    induction l with
    | nil => intro _; simp
    | cons x l ih =>
      intro hl
      rw [List.map_cons, List.sum_cons, List.length_cons, Nat.succ_mul]
      have h1 := ih fun y hy => hl y (List.mem_cons_of_mem _ hy)
      have h2 : weigh o.length x ≤ o.length + 2 := by
        cases x with
        | none => exact Nat.le_refl _
        | some y =>
          have := hl y (by simp)
          show y.toNat ≤ _
          omega
      omega
  have fl := fins_le F
  rw [r.len] at fl
  have h := this F fun x hx => by have := r.bd x hx; omega
  rwa [r.len] at h
structure Fits (o : List Int) (m : List (Int × Int)) (w : Int) (S : List Int) (F : List (Option Int)) : Prop where
  len : F.length = o.length
  bd : ∀ x, some x ∈ F → 0 ≤ x ∧ x ≤ o.length
  fit : ∀ v : Nat, v < o.length → stepR o m w S F v = look F v
def fwEnv (o : List Int) (m : List (Int × Int)) (w : Int) (S : List Int) (c : Nat) (fl : Bool) (a6 a7 a8 a9 : Option MV) : Ev :=
  [some (gameV o m), some (.int w), some (.tup (S.map .int)), some (uV m o.length), some (.cell c), some (.bl fl), a6, a7, a8, a9, none]
theorem row_comp {P : MV → MH → Prop} {c : Nat} {F : List (Option Int)} {w : Int} {S : List Int} {fl : Bool} {v : Nat} {a7 a8 a9 : Option MV} (G : Game o m) (hF : F.length = o.length) (hc : cellL h c (F.map oV)) (hv : v < o.length) (p : P (.lst (((waysU m v).map (look F)).map oV)) h) :
    Wp (comp false (seqI (bin ixM (var 3) (var 6))) (gN 10) bYes (bin ixM (var 4) (var 10)) [10] (fwEnv o m w S c fl (some (.int v)) a7 a8 a9)) h P := by
  have m60 := G.m60
  have wl := waysU_len m v
  unfold fwEnv
  refine wp_cmp (waysU m v) .int (fun x => oV (look F x)) ?_ (by omega) (fun x hx t => ?_) ?_
  · simp only [wp_sSeq, wp_sExp, wp_sSet, wp_sRet, wp_sIf, wp_sAsg, wp_sFor, wp_sNil, wp_sRetN, wp_sPar, wp_bAnd, wp_bOr, wp_bNot, wp_tst, wp_iff, wp_eAnd, wp_eOr, wp_eNot, wp_chn, wp_bin, wp_una, wp_var, wp_con, wp_aCons, wp_aNil, wp_aStar, atV_zero, atV_succ, asN_nx, asN_rt, asB_bl, asI_int, List.set, List.replicate, retOf, if_true, if_false, Bool.false_eq_true, Bool.not_true, Bool.not_false, wp_gT, wp_gN, wp_gsCons, wp_gsNil, wp_gSub, List.length_cons, List.length_nil, true_and, wipeE, wp_le, wp_lt, wp_gt, wp_ge, wp_sub, wp_add, wp_neg, wp_ix_tup, wp_ix_lst, ix0, ix1, Option.some.injEq, exists_eq_left', wp_len_tup, wp_len_lst, wp_itI_tup, wp_itI_lst, wp_seqI, wp_enumI, wp_zipI, wp_cut_bl, wp_cut_int, wp_cut_non, wp_metL, wp_isL_lst, wp_slE, wp_oSome, wp_oNone, wp_tupD, wp_lstD, wp_newF, wp_is_non, wp_callE, List.length_map, MV.isNon, wp_eq_int, wp_bYes, wp_bIff, wp_sPar3, wp_rgE, wp_newT, wp_itS_lst, wp_itS_tup, and_self, exists_eq_left, sized_nil, uV, at_uRows hv]
  · have r := waysU_rng G v x hx
    simp only [wp_sSeq, wp_sExp, wp_sSet, wp_sRet, wp_sIf, wp_sAsg, wp_sFor, wp_sNil, wp_sRetN, wp_sPar, wp_bAnd, wp_bOr, wp_bNot, wp_tst, wp_iff, wp_eAnd, wp_eOr, wp_eNot, wp_chn, wp_bin, wp_una, wp_var, wp_con, wp_aCons, wp_aNil, wp_aStar, atV_zero, atV_succ, asN_nx, asN_rt, asB_bl, asI_int, List.set, List.replicate, retOf, if_true, if_false, Bool.false_eq_true, Bool.not_true, Bool.not_false, wp_gT, wp_gN, wp_gsCons, wp_gsNil, wp_gSub, List.length_cons, List.length_nil, true_and, wipeE, wp_le, wp_lt, wp_gt, wp_ge, wp_sub, wp_add, wp_neg, wp_ix_tup, wp_ix_lst, ix0, ix1, Option.some.injEq, exists_eq_left', wp_len_tup, wp_len_lst, wp_itI_tup, wp_itI_lst, wp_seqI, wp_enumI, wp_zipI, wp_cut_bl, wp_cut_int, wp_cut_non, wp_metL, wp_isL_lst, wp_slE, wp_oSome, wp_oNone, wp_tupD, wp_lstD, wp_newF, wp_is_non, wp_callE, List.length_map, MV.isNon, wp_eq_int, wp_bYes, wp_bIff, wp_sPar3, wp_rgE, wp_newT, wp_itS_lst, wp_itS_tup, and_self, exists_eq_left, sized_nil, wp_ix_cell (cell_app t hc), at_os r.1 (show x < (F.length : Nat) by omega)]
    exact ⟨rfl, free_o _⟩
  · rw [List.map_map] at p; exact p
theorem eqv_oo (a b : Option Int) : PyData.eqv (oV a).dat (oV b).dat = decide (a = b) := by
  cases a with
  | none => cases b <;> simp [oV, MV.dat, PyData.eqv]
  | some x =>
    cases b with
    | none => simp [oV, MV.dat, PyData.eqv]
    | some y => simp only [oV, MV.dat, PyData.eqv, Option.some.injEq]; rfl
theorem wp_eq_oo {neg : Bool} {a b : Option Int} : Wp (eqM neg (oV a) (oV b)) h Q ↔ Q (.bl (if neg then !decide (a = b) else decide (a = b))) h := by
  rw [wp_eqD (n := 0) (k := 0) (noC_o a).c (noC_o b).c (sh_o a 0) (sh_o b 0) (by decide) (by decide), eqv_oo]
end
section
variable {h : MH} {Q : MV → MH → Prop} {o : List Int} {m : List (Int × Int)}
theorem fw_new {P : MV → MH → Prop} {S : List Int} {v : Nat} {best : Option Int} {k0 k1 k3 k4 k5 k7 k9 k10 : Option MV} (p : P (oV (if S.contains (v : Int) then some 0 else best.map (· + 1))) h) :
    Wp (iff (tst (bin (inC false) (var 6) (var 2))) (con (.int 0)) (iff (tst (bin (isM false) (var 8) (con .non))) (con .non) (bin (addM false) (var 8) (con (.int 1)))) [k0, k1, some (.tup (S.map .int)), k3, k4, k5, some (.int v), k7, some (oV best), k9, k10]) h P := by
  simp only [wp_sSeq, wp_sExp, wp_sSet, wp_sRet, wp_sIf, wp_sAsg, wp_sFor, wp_sNil, wp_sRetN, wp_sPar, wp_bAnd, wp_bOr, wp_bNot, wp_tst, wp_iff, wp_eAnd, wp_eOr, wp_eNot, wp_chn, wp_bin, wp_una, wp_var, wp_con, wp_aCons, wp_aNil, wp_aStar, atV_zero, atV_succ, asN_nx, asN_rt, asB_bl, asI_int, List.set, List.replicate, retOf, if_true, if_false, Bool.false_eq_true, Bool.not_true, Bool.not_false, wp_gT, wp_gN, wp_gsCons, wp_gsNil, wp_gSub, List.length_cons, List.length_nil, true_and, wipeE, wp_le, wp_lt, wp_gt, wp_ge, wp_sub, wp_add, wp_neg, wp_ix_tup, wp_ix_lst, ix0, ix1, Option.some.injEq, exists_eq_left', wp_len_tup, wp_len_lst, wp_itI_tup, wp_itI_lst, wp_seqI, wp_enumI, wp_zipI, wp_cut_bl, wp_cut_int, wp_cut_non, wp_metL, wp_isL_lst, wp_slE, wp_oSome, wp_oNone, wp_tupD, wp_lstD, wp_newF, wp_is_non, wp_callE, List.length_map, MV.isNon, wp_eq_int, wp_bYes, wp_bIff, wp_sPar3, wp_rgE, wp_newT, wp_itS_lst, wp_itS_tup, and_self, exists_eq_left, sized_nil, wp_in_tup]
  by_cases k : S.contains (v : Int) = true
  · rw [if_pos k] at p ⊢; exact p
  · rw [if_neg k] at p ⊢
    cases best with
    | none => simp only [oV, wp_sSeq, wp_sExp, wp_sSet, wp_sRet, wp_sIf, wp_sAsg, wp_sFor, wp_sNil, wp_sRetN, wp_sPar, wp_bAnd, wp_bOr, wp_bNot, wp_tst, wp_iff, wp_eAnd, wp_eOr, wp_eNot, wp_chn, wp_bin, wp_una, wp_var, wp_con, wp_aCons, wp_aNil, wp_aStar, atV_zero, atV_succ, asN_nx, asN_rt, asB_bl, asI_int, List.set, List.replicate, retOf, if_true, if_false, Bool.false_eq_true, Bool.not_true, Bool.not_false, wp_gT, wp_gN, wp_gsCons, wp_gsNil, wp_gSub, List.length_cons, List.length_nil, true_and, wipeE, wp_le, wp_lt, wp_gt, wp_ge, wp_sub, wp_add, wp_neg, wp_ix_tup, wp_ix_lst, ix0, ix1, Option.some.injEq, exists_eq_left', wp_len_tup, wp_len_lst, wp_itI_tup, wp_itI_lst, wp_seqI, wp_enumI, wp_zipI, wp_cut_bl, wp_cut_int, wp_cut_non, wp_metL, wp_isL_lst, wp_slE, wp_oSome, wp_oNone, wp_tupD, wp_lstD, wp_newF, wp_is_non, wp_callE, List.length_map, MV.isNon, wp_eq_int, wp_bYes, wp_bIff, wp_sPar3, wp_rgE, wp_newT, wp_itS_lst, wp_itS_tup, and_self, exists_eq_left, sized_nil]; exact p
    | some x => simp only [oV, wp_sSeq, wp_sExp, wp_sSet, wp_sRet, wp_sIf, wp_sAsg, wp_sFor, wp_sNil, wp_sRetN, wp_sPar, wp_bAnd, wp_bOr, wp_bNot, wp_tst, wp_iff, wp_eAnd, wp_eOr, wp_eNot, wp_chn, wp_bin, wp_una, wp_var, wp_con, wp_aCons, wp_aNil, wp_aStar, atV_zero, atV_succ, asN_nx, asN_rt, asB_bl, asI_int, List.set, List.replicate, retOf, if_true, if_false, Bool.false_eq_true, Bool.not_true, Bool.not_false, wp_gT, wp_gN, wp_gsCons, wp_gsNil, wp_gSub, List.length_cons, List.length_nil, true_and, wipeE, wp_le, wp_lt, wp_gt, wp_ge, wp_sub, wp_add, wp_neg, wp_ix_tup, wp_ix_lst, ix0, ix1, Option.some.injEq, exists_eq_left', wp_len_tup, wp_len_lst, wp_itI_tup, wp_itI_lst, wp_seqI, wp_enumI, wp_zipI, wp_cut_bl, wp_cut_int, wp_cut_non, wp_metL, wp_isL_lst, wp_slE, wp_oSome, wp_oNone, wp_tupD, wp_lstD, wp_newF, wp_is_non, wp_callE, List.length_map, MV.isNon, wp_eq_int, wp_bYes, wp_bIff, wp_sPar3, wp_rgE, wp_newT, wp_itS_lst, wp_itS_tup, and_self, exists_eq_left, sized_nil]; exact p
theorem look_range' {F : List (Option Int)} {v : Nat} {x : Option Int} (e : F[v]? = some x) : look F v = x := by
  unfold look
  rw [show ((v : Int)).toNat = v by omega, e]; rfl
theorem get_look {F : List (Option Int)} {v : Nat} (hv : v < F.length) : F[v]? = some (look F v) := by
  have e : F[v]? = some F[v] := List.getElem?_eq_getElem hv
  rw [e, look_range' e]
theorem free_plcs (S : List Int) : (MV.tup (S.map .int)).free = true := free_of_tup (free_ints S)
end
section
variable {h : MH} {Q : MV → MH → Prop} {o : List Int} {m : List (Int × Int)}
def towV (o : List Int) (m : List (Int × Int)) (w : Int) (N : List (Option Int)) (v : Nat) : Option Int :=
  if o.getD v 0 = w then ((waysU m v).filter fun x => decide (look N x = bestO true ((waysU m v).map (look N)))).head? else none
def towP (o : List Int) (m : List (Int × Int)) (w : Int) (N : List (Option Int)) : List (Option Int) := (List.range o.length).map (towV o m w N)
def awayV (o : List Int) (m : List (Int × Int)) (w : Int) (N : List (Option Int)) (v : Nat) : Option Int :=
  if o.getD v 0 = w then (if ((waysU m v).filter fun x => (look N x).isNone) = [] then waysU m v else (waysU m v).filter fun x => (look N x).isNone).head? else none
def awayP (o : List Int) (m : List (Int × Int)) (w : Int) (N : List (Option Int)) : List (Option Int) := (List.range o.length).map (awayV o m w N)
theorem bestO_in {own : Bool} {l : List (Option Int)} (ne : l ≠ []) : bestO own l ∈ l := by
  cases e : bestO own l with
  | some x => exact bestO_mem e
  | none =>
    refine Classical.byContradiction fun hn => ?_
    have ka := known_all.mpr hn
    cases hk : l.filterMap id with
    | nil => rw [hk] at ka; exact ne (List.eq_nil_of_length_eq_zero ka.symm)
    | cons a r =>
      cases own with
      | true => rw [bestO_true, hk] at e; cases e
      | false => rw [bestO_false, if_pos ka, hk] at e; cases e
theorem uV_items (m : List (Int × Int)) (n : Nat) : (uRows m n).map MV.lst = (List.range n).map fun v : Nat => .lst ((waysU m v).map .int) := by
  unfold uRows; rw [List.map_map]; rfl
theorem ow_at {v : Nat} (hv : v < o.length) : o[v]? = some (o.getD v 0) := by rw [List.getD_eq_getElem?_getD, List.getElem?_eq_getElem hv]; rfl
theorem tow_head {N : List (Option Int)} {l : List Int} (ne : l ≠ []) : ∃ x, (l.filter fun x => decide (look N x = bestO true (l.map (look N)))).head? = some x ∧ x ∈ l := by
  have := bestO_in (own := true) (l := l.map (look N)) (by simpa using ne)
  obtain ⟨y, hy, e⟩ := List.mem_map.mp this
  cases hf : l.filter fun x => decide (look N x = bestO true (l.map (look N))) with
  | nil =>
    have := List.filter_eq_nil_iff.mp hf y hy
    rw [e] at this; simp at this
  | cons x r =>
    refine ⟨x, rfl, ?_⟩
    have : x ∈ l.filter fun x => decide (look N x = bestO true (l.map (look N))) := by rw [hf]; simp
    exact (List.mem_filter.mp this).1
structure PRow (n : Nat) (P : List (Option Int)) : Prop where
  len : P.length = n
  rng : ∀ x, some x ∈ P → 0 ≤ x ∧ x < n
theorem tow_row {w : Int} {N : List (Option Int)} (G : Game o m) : PRow o.length (towP o m w N) := by
  refine ⟨by unfold towP; simp, fun x hx => ?_⟩
  obtain ⟨v, hv, e⟩ := List.mem_map.mp hx
  unfold towV at e
  split at e
  · have : x ∈ (waysU m v).filter fun x => decide (look N x = bestO true ((waysU m v).map (look N))) := List.mem_of_head? e
    exact waysU_rng G v x (List.mem_filter.mp this).1
  · cases e
theorem away_row {w : Int} {N : List (Option Int)} (G : Game o m) : PRow o.length (awayP o m w N) := by
  refine ⟨by unfold awayP; simp, fun x hx => ?_⟩
  obtain ⟨v, hv, e⟩ := List.mem_map.mp hx
  unfold awayV at e
  split at e
  · split at e
    · exact waysU_rng G v x (List.mem_of_head? e)
    · have := List.mem_of_head? e
      exact waysU_rng G v x (List.mem_filter.mp this).1
  · cases e
end
section
variable {h : MH} {Q : MV → MH → Prop} {o : List Int} {m : List (Int × Int)}
def entOk (o : List Int) (m : List (Int × Int)) (w : Int) (i : Nat) (x : MV) : Bool :=
  if o.getD i 0 = w then (match x with | .int k => (waysU m i).contains k | _ => false) else x.isNon
def planB (o : List Int) (m : List (Int × Int)) (w : Int) : MV → Bool
  | .tup xs => decide (xs.length = o.length) && (xs.zipIdx.all fun p => entOk o m w p.2 p.1)
  | _ => false
def numOk (n : Nat) : MV → Bool
  | .non => true
  | .int k => decide (0 ≤ k) && decide (k ≤ (n : Int))
  | _ => false
def numB (n : Nat) : MV → Bool
  | .tup xs => decide (xs.length = n) && xs.all (numOk n)
  | _ => false
def toO : MV → Option Int
  | .int i => some i
  | _ => none
def toRow : MV → List (Option Int)
  | .tup xs => xs.map toO
  | _ => []
theorem numB_row {n : Nat} {v : MV} (e : numB n v = true) : v = .tup ((toRow v).map oV) ∧ (toRow v).length = n ∧ ∀ x, some x ∈ toRow v → 0 ≤ x ∧ x ≤ n := by
  unfold numB at e
  split at e
  · next xs =>
    rw [Bool.and_eq_true, decide_eq_true_eq] at e
    have al := List.all_eq_true.mp e.2
    refine ⟨?_, by unfold toRow; simpa using e.1, fun x hx => ?_⟩
    · unfold toRow
      rw [List.map_map]
      congr 1
      conv => lhs; rw [← List.map_id xs]
      apply List.map_congr_left
      intro x hx
      have := al x hx
      unfold numOk at this
      cases x <;> first | rfl | cases this
    · unfold toRow at hx
      obtain ⟨y, hy, e2⟩ := List.mem_map.mp hx
      have := al y hy
      unfold toO at e2
      split at e2
      · cases e2
        unfold numOk at this
        simp only [Bool.and_eq_true, decide_eq_true_eq] at this
        exact this
      · cases e2
  · cases e
theorem planB_row {w : Int} {v : MV} (G : Game o m) (e : planB o m w v = true) : v = .tup ((toRow v).map oV) ∧ PRow o.length (toRow v) ∧ ∀ i : Nat, i < o.length → if o.getD i 0 = w then ∃ k, look (toRow v) i = some k ∧ k ∈ waysU m i else look (toRow v) i = none := by
  unfold planB at e
  split at e
  · next xs =>
    rw [Bool.and_eq_true, decide_eq_true_eq] at e
    have al := List.all_eq_true.mp e.2
    have at_i : ∀ (i : Nat) (x : MV), xs[i]? = some x → entOk o m w i x = true := fun i x ex => by
      have : (x, i) ∈ xs.zipIdx := List.mem_iff_getElem?.mpr ⟨i, by rw [List.getElem?_zipIdx, ex]; simp⟩
      exact al (x, i) this
    refine ⟨?_, ⟨by unfold toRow; simpa using e.1, fun x hx => ?_⟩, fun i hi => ?_⟩
    · unfold toRow
      rw [List.map_map]
      congr 1
      conv => lhs; rw [← List.map_id xs]
      apply List.map_congr_left
      intro x hx
      obtain ⟨i, ei⟩ := List.mem_iff_getElem?.mp hx
      have := at_i i x ei
      unfold entOk at this
      split at this
      · cases x <;> first | rfl | cases this
      · cases x <;> first | rfl | cases this
    · unfold toRow at hx
      obtain ⟨y, hy, e2⟩ := List.mem_map.mp hx
      obtain ⟨i, ei⟩ := List.mem_iff_getElem?.mp hy
      have := at_i i y ei
      unfold toO at e2
      split at e2
      · cases e2
        unfold entOk at this
        split at this
        · exact waysU_rng G i x (by simpa using this)
        · cases this
      · cases e2
    · have ex : xs[i]? = some xs[i] := List.getElem?_eq_getElem (by omega)
      have := at_i i _ ex
      have el : look (toRow (.tup xs)) i = toO xs[i] := by
        refine look_range' ?_
        show (xs.map toO)[i]? = _
        rw [List.getElem?_map, ex]; rfl
      rw [el]
      unfold entOk at this
      split
      · next c =>
        rw [if_pos c] at this
        generalize xs[i] = x at this
        cases x with
        | int k => exact ⟨k, rfl, by simpa using this⟩
        | _ => cases this
      · next c =>
        rw [if_neg c] at this
        generalize xs[i] = x at this
        cases x with
        | non => rfl
        | _ => cases this
  · cases e
theorem ent_false {w : Int} {xs : List MV} {i : Nat} {x : MV} (ex : xs[i]? = some x) (e : entOk o m w i x = false) : planB o m w (.tup xs) = false := by
  refine Bool.eq_false_iff.mpr fun z => ?_
  unfold planB at z
  rw [Bool.and_eq_true] at z
  have := List.all_eq_true.mp z.2 (x, i) (List.mem_iff_getElem?.mpr ⟨i, by rw [List.getElem?_zipIdx, ex]; simp⟩)
  rw [e] at this; cases this
theorem ent_true {w : Int} {xs : List MV} (l : xs.length = o.length) (e : ∀ (i : Nat) x, xs[i]? = some x → entOk o m w i x = true) : planB o m w (.tup xs) = true := by
  unfold planB
  rw [Bool.and_eq_true, decide_eq_true_eq]
  refine ⟨l, List.all_eq_true.mpr fun p hp => e p.2 p.1 (zipIdx_mem hp)⟩
theorem mem_atI {l : List Int} {x : Int} : l.contains x = true ↔ x ∈ l := by simp
theorem wp_is_plan_of {w : Int} {v : MV} (G : Game o m) (f : v.free = true) (q : Q (.bl (planB o m w v)) h) : Wp (m_is_plan_of [gameV o m, .int w, v]) h Q := by
  have o12 := G.o12
  unfold m_is_plan_of
  rw [wp_def3]
  simp only [wp_sSeq, wp_sExp, wp_sSet, wp_sRet, wp_sIf, wp_sAsg, wp_sFor, wp_sNil, wp_sRetN, wp_sPar, wp_bAnd, wp_bOr, wp_bNot, wp_tst, wp_iff, wp_eAnd, wp_eOr, wp_eNot, wp_chn, wp_bin, wp_una, wp_var, wp_con, wp_aCons, wp_aNil, wp_aStar, atV_zero, atV_succ, asN_nx, asN_rt, asB_bl, asI_int, List.set, List.replicate, retOf, if_true, if_false, Bool.false_eq_true, Bool.not_true, Bool.not_false, wp_gT, wp_gN, wp_gsCons, wp_gsNil, wp_gSub, List.length_cons, List.length_nil, true_and, wipeE, wp_le, wp_lt, wp_gt, wp_ge, wp_sub, wp_add, wp_neg, wp_ix_tup, wp_ix_lst, ix0, ix1, Option.some.injEq, exists_eq_left', wp_len_tup, wp_len_lst, wp_itI_tup, wp_itI_lst, wp_seqI, wp_enumI, wp_zipI, wp_cut_bl, wp_cut_int, wp_cut_non, wp_metL, wp_isL_lst, wp_slE, wp_oSome, wp_oNone, wp_tupD, wp_lstD, wp_newF, wp_is_non, wp_callE, List.length_map, MV.isNon, wp_eq_int, wp_bYes, wp_bIff, wp_sPar3, wp_rgE, wp_newT, wp_itS_lst, wp_itS_tup, and_self, exists_eq_left, sized_nil, gameV, intsV, wp_is_tuple (free_noC f)]
  cases c1 : isTup v o.length o.length with
  | false =>
    have e : planB o m w v = false := by
      unfold planB
      split
      · next xs =>
        have c1 : (decide ((o.length : Int) ≤ (xs.length : Nat)) && decide (((xs.length : Nat) : Int) ≤ o.length)) = false := c1
        by_cases k : xs.length = o.length
        · rw [k] at c1; simp at c1
        · rw [decide_eq_false k]; rfl
      · rfl
    rw [e] at q
    simp only [Bool.not_false, if_true]
    exact q
  | true =>
    obtain ⟨xs, rfl, xl⟩ := isTup_of c1
    have fx := mem_freeAll (by simpa only [MV.free] using f)
    simp only [Bool.not_true, Bool.false_eq_true, if_false]
    refine wp_ways G ?_
    rw [enum_map]
    refine wp_loopL o.zipIdx (fun p => .tup [.int (p.2 : Nat), .int p.1]) (fun i env h' => ∃ a4 a5 : Option MV, env = [some (gameV o m), some (.int w), some (.tup xs), some (uV m o.length), a4, a5] ∧ h' = h ∧ ∀ (j : Nat) x, j < i → xs[j]? = some x → entOk o m w j x = true) ⟨_, _, rfl, rfl, fun j x hj => by omega⟩ ?_ ?_
    · rintro i e env h' ei il ⟨a4, a5, rfl, rfl, al⟩
      obtain ⟨e2, e1⟩ := Mi.zipIdx_get ei
      have hi : i < o.length := (List.getElem?_eq_some_iff.mp e1).1
      have ow : e.1 = o.getD i 0 := by rw [List.getD_eq_getElem?_getD, e1]; rfl
      have ex : xs[i]? = some xs[i] := List.getElem?_eq_getElem (by omega)
      have fi := fx _ (List.mem_of_getElem? ex)
      have ul : (uRows m o.length).length = o.length := by unfold uRows; simp
      rw [e2, ow]
      have next : entOk o m w i xs[i] = true → ∀ (j : Nat) x, j < i + 1 → xs[j]? = some x → entOk o m w j x = true := fun en j x hj ej => by
        by_cases k : j = i
        · subst k; rw [ex] at ej; cases ej; exact en
        · exact al j x (by omega) ej
      simp only [wp_sSeq, wp_sExp, wp_sSet, wp_sRet, wp_sIf, wp_sAsg, wp_sFor, wp_sNil, wp_sRetN, wp_sPar, wp_bAnd, wp_bOr, wp_bNot, wp_tst, wp_iff, wp_eAnd, wp_eOr, wp_eNot, wp_chn, wp_bin, wp_una, wp_var, wp_con, wp_aCons, wp_aNil, wp_aStar, atV_zero, atV_succ, asN_nx, asN_rt, asB_bl, asI_int, List.set, List.replicate, retOf, if_true, if_false, Bool.false_eq_true, Bool.not_true, Bool.not_false, wp_gT, wp_gN, wp_gsCons, wp_gsNil, wp_gSub, List.length_cons, List.length_nil, true_and, wipeE, wp_le, wp_lt, wp_gt, wp_ge, wp_sub, wp_add, wp_neg, wp_ix_tup, wp_ix_lst, ix0, ix1, Option.some.injEq, exists_eq_left', wp_len_tup, wp_len_lst, wp_itI_tup, wp_itI_lst, wp_seqI, wp_enumI, wp_zipI, wp_cut_bl, wp_cut_int, wp_cut_non, wp_metL, wp_isL_lst, wp_slE, wp_oSome, wp_oNone, wp_tupD, wp_lstD, wp_newF, wp_is_non, wp_callE, List.length_map, MV.isNon, wp_eq_int, wp_bYes, wp_bIff, wp_sPar3, wp_rgE, wp_newT, wp_itS_lst, wp_itS_tup, and_self, exists_eq_left, sized_nil, at_nat' ex]
      generalize xs[i] = x at ex fi next ⊢
      by_cases k : o.getD i 0 = w
      · have k' : (o.getD i 0 == w) = true := by rw [beq_iff_eq]; exact k
        simp only [k', wp_sSeq, wp_sExp, wp_sSet, wp_sRet, wp_sIf, wp_sAsg, wp_sFor, wp_sNil, wp_sRetN, wp_sPar, wp_bAnd, wp_bOr, wp_bNot, wp_tst, wp_iff, wp_eAnd, wp_eOr, wp_eNot, wp_chn, wp_bin, wp_una, wp_var, wp_con, wp_aCons, wp_aNil, wp_aStar, atV_zero, atV_succ, asN_nx, asN_rt, asB_bl, asI_int, List.set, List.replicate, retOf, if_true, if_false, Bool.false_eq_true, Bool.not_true, Bool.not_false, wp_gT, wp_gN, wp_gsCons, wp_gsNil, wp_gSub, List.length_cons, List.length_nil, true_and, wipeE, wp_le, wp_lt, wp_gt, wp_ge, wp_sub, wp_add, wp_neg, wp_ix_tup, wp_ix_lst, ix0, ix1, Option.some.injEq, exists_eq_left', wp_len_tup, wp_len_lst, wp_itI_tup, wp_itI_lst, wp_seqI, wp_enumI, wp_zipI, wp_cut_bl, wp_cut_int, wp_cut_non, wp_metL, wp_isL_lst, wp_slE, wp_oSome, wp_oNone, wp_tupD, wp_lstD, wp_newF, wp_is_non, wp_callE, List.length_map, MV.isNon, wp_eq_int, wp_bYes, wp_bIff, wp_sPar3, wp_rgE, wp_newT, wp_itS_lst, wp_itS_tup, and_self, exists_eq_left, sized_nil, uV, ul, wp_is_integer (free_noC fi)]
        cases x with
        | int c =>
          have en : entOk o m w i (.int c) = (waysU m i).contains c := by unfold entOk; rw [if_pos k]
          by_cases r : isInt (.int c) 0 ((o.length : Int) - 1) = true
          · simp only [r, wp_sSeq, wp_sExp, wp_sSet, wp_sRet, wp_sIf, wp_sAsg, wp_sFor, wp_sNil, wp_sRetN, wp_sPar, wp_bAnd, wp_bOr, wp_bNot, wp_tst, wp_iff, wp_eAnd, wp_eOr, wp_eNot, wp_chn, wp_bin, wp_una, wp_var, wp_con, wp_aCons, wp_aNil, wp_aStar, atV_zero, atV_succ, asN_nx, asN_rt, asB_bl, asI_int, List.set, List.replicate, retOf, if_true, if_false, Bool.false_eq_true, Bool.not_true, Bool.not_false, wp_gT, wp_gN, wp_gsCons, wp_gsNil, wp_gSub, List.length_cons, List.length_nil, true_and, wipeE, wp_le, wp_lt, wp_gt, wp_ge, wp_sub, wp_add, wp_neg, wp_ix_tup, wp_ix_lst, ix0, ix1, Option.some.injEq, exists_eq_left', wp_len_tup, wp_len_lst, wp_itI_tup, wp_itI_lst, wp_seqI, wp_enumI, wp_zipI, wp_cut_bl, wp_cut_int, wp_cut_non, wp_metL, wp_isL_lst, wp_slE, wp_oSome, wp_oNone, wp_tupD, wp_lstD, wp_newF, wp_is_non, wp_callE, List.length_map, MV.isNon, wp_eq_int, wp_bYes, wp_bIff, wp_sPar3, wp_rgE, wp_newT, wp_itS_lst, wp_itS_tup, and_self, exists_eq_left, sized_nil, at_uRows hi, wp_in_lst]
            cases hc : (waysU m i).contains c with
            | true =>
              simp only [wp_sSeq, wp_sExp, wp_sSet, wp_sRet, wp_sIf, wp_sAsg, wp_sFor, wp_sNil, wp_sRetN, wp_sPar, wp_bAnd, wp_bOr, wp_bNot, wp_tst, wp_iff, wp_eAnd, wp_eOr, wp_eNot, wp_chn, wp_bin, wp_una, wp_var, wp_con, wp_aCons, wp_aNil, wp_aStar, atV_zero, atV_succ, asN_nx, asN_rt, asB_bl, asI_int, List.set, List.replicate, retOf, if_true, if_false, Bool.false_eq_true, Bool.not_true, Bool.not_false, wp_gT, wp_gN, wp_gsCons, wp_gsNil, wp_gSub, List.length_cons, List.length_nil, true_and, wipeE, wp_le, wp_lt, wp_gt, wp_ge, wp_sub, wp_add, wp_neg, wp_ix_tup, wp_ix_lst, ix0, ix1, Option.some.injEq, exists_eq_left', wp_len_tup, wp_len_lst, wp_itI_tup, wp_itI_lst, wp_seqI, wp_enumI, wp_zipI, wp_cut_bl, wp_cut_int, wp_cut_non, wp_metL, wp_isL_lst, wp_slE, wp_oSome, wp_oNone, wp_tupD, wp_lstD, wp_newF, wp_is_non, wp_callE, List.length_map, MV.isNon, wp_eq_int, wp_bYes, wp_bIff, wp_sPar3, wp_rgE, wp_newT, wp_itS_lst, wp_itS_tup, and_self, exists_eq_left, sized_nil]
              exact ⟨_, _, rfl, next (by rw [en]; exact hc)⟩
            | false =>
              simp only [wp_sSeq, wp_sExp, wp_sSet, wp_sRet, wp_sIf, wp_sAsg, wp_sFor, wp_sNil, wp_sRetN, wp_sPar, wp_bAnd, wp_bOr, wp_bNot, wp_tst, wp_iff, wp_eAnd, wp_eOr, wp_eNot, wp_chn, wp_bin, wp_una, wp_var, wp_con, wp_aCons, wp_aNil, wp_aStar, atV_zero, atV_succ, asN_nx, asN_rt, asB_bl, asI_int, List.set, List.replicate, retOf, if_true, if_false, Bool.false_eq_true, Bool.not_true, Bool.not_false, wp_gT, wp_gN, wp_gsCons, wp_gsNil, wp_gSub, List.length_cons, List.length_nil, true_and, wipeE, wp_le, wp_lt, wp_gt, wp_ge, wp_sub, wp_add, wp_neg, wp_ix_tup, wp_ix_lst, ix0, ix1, Option.some.injEq, exists_eq_left', wp_len_tup, wp_len_lst, wp_itI_tup, wp_itI_lst, wp_seqI, wp_enumI, wp_zipI, wp_cut_bl, wp_cut_int, wp_cut_non, wp_metL, wp_isL_lst, wp_slE, wp_oSome, wp_oNone, wp_tupD, wp_lstD, wp_newF, wp_is_non, wp_callE, List.length_map, MV.isNon, wp_eq_int, wp_bYes, wp_bIff, wp_sPar3, wp_rgE, wp_newT, wp_itS_lst, wp_itS_tup, and_self, exists_eq_left, sized_nil]
              rw [ent_false ex (by rw [en]; exact hc)] at q; exact q
          · rw [Bool.not_eq_true] at r
            simp only [r, wp_sSeq, wp_sExp, wp_sSet, wp_sRet, wp_sIf, wp_sAsg, wp_sFor, wp_sNil, wp_sRetN, wp_sPar, wp_bAnd, wp_bOr, wp_bNot, wp_tst, wp_iff, wp_eAnd, wp_eOr, wp_eNot, wp_chn, wp_bin, wp_una, wp_var, wp_con, wp_aCons, wp_aNil, wp_aStar, atV_zero, atV_succ, asN_nx, asN_rt, asB_bl, asI_int, List.set, List.replicate, retOf, if_true, if_false, Bool.false_eq_true, Bool.not_true, Bool.not_false, wp_gT, wp_gN, wp_gsCons, wp_gsNil, wp_gSub, List.length_cons, List.length_nil, true_and, wipeE, wp_le, wp_lt, wp_gt, wp_ge, wp_sub, wp_add, wp_neg, wp_ix_tup, wp_ix_lst, ix0, ix1, Option.some.injEq, exists_eq_left', wp_len_tup, wp_len_lst, wp_itI_tup, wp_itI_lst, wp_seqI, wp_enumI, wp_zipI, wp_cut_bl, wp_cut_int, wp_cut_non, wp_metL, wp_isL_lst, wp_slE, wp_oSome, wp_oNone, wp_tupD, wp_lstD, wp_newF, wp_is_non, wp_callE, List.length_map, MV.isNon, wp_eq_int, wp_bYes, wp_bIff, wp_sPar3, wp_rgE, wp_newT, wp_itS_lst, wp_itS_tup, and_self, exists_eq_left, sized_nil]
            have hc : (waysU m i).contains c = false := by
              refine Bool.eq_false_iff.mpr fun z => ?_
              have := waysU_rng G i c (mem_atI.mp z)
              have : isInt (.int c) 0 ((o.length : Int) - 1) = true := by simp [isInt]; omega
              rw [r] at this; cases this
            rw [ent_false ex (by rw [en]; exact hc)] at q; exact q
        | cell c => exact absurd rfl ((free_noC fi).c c)
        | _ =>
          simp only [isInt, wp_sSeq, wp_sExp, wp_sSet, wp_sRet, wp_sIf, wp_sAsg, wp_sFor, wp_sNil, wp_sRetN, wp_sPar, wp_bAnd, wp_bOr, wp_bNot, wp_tst, wp_iff, wp_eAnd, wp_eOr, wp_eNot, wp_chn, wp_bin, wp_una, wp_var, wp_con, wp_aCons, wp_aNil, wp_aStar, atV_zero, atV_succ, asN_nx, asN_rt, asB_bl, asI_int, List.set, List.replicate, retOf, if_true, if_false, Bool.false_eq_true, Bool.not_true, Bool.not_false, wp_gT, wp_gN, wp_gsCons, wp_gsNil, wp_gSub, List.length_cons, List.length_nil, true_and, wipeE, wp_le, wp_lt, wp_gt, wp_ge, wp_sub, wp_add, wp_neg, wp_ix_tup, wp_ix_lst, ix0, ix1, Option.some.injEq, exists_eq_left', wp_len_tup, wp_len_lst, wp_itI_tup, wp_itI_lst, wp_seqI, wp_enumI, wp_zipI, wp_cut_bl, wp_cut_int, wp_cut_non, wp_metL, wp_isL_lst, wp_slE, wp_oSome, wp_oNone, wp_tupD, wp_lstD, wp_newF, wp_is_non, wp_callE, List.length_map, MV.isNon, wp_eq_int, wp_bYes, wp_bIff, wp_sPar3, wp_rgE, wp_newT, wp_itS_lst, wp_itS_tup, and_self, exists_eq_left, sized_nil]
          rw [ent_false ex (by unfold entOk; rw [if_pos k])] at q; exact q
      · have k' : (o.getD i 0 == w) = false := by rw [Bool.eq_false_iff]; intro z; exact k (by simpa using z)
        simp only [k', wp_sSeq, wp_sExp, wp_sSet, wp_sRet, wp_sIf, wp_sAsg, wp_sFor, wp_sNil, wp_sRetN, wp_sPar, wp_bAnd, wp_bOr, wp_bNot, wp_tst, wp_iff, wp_eAnd, wp_eOr, wp_eNot, wp_chn, wp_bin, wp_una, wp_var, wp_con, wp_aCons, wp_aNil, wp_aStar, atV_zero, atV_succ, asN_nx, asN_rt, asB_bl, asI_int, List.set, List.replicate, retOf, if_true, if_false, Bool.false_eq_true, Bool.not_true, Bool.not_false, wp_gT, wp_gN, wp_gsCons, wp_gsNil, wp_gSub, List.length_cons, List.length_nil, true_and, wipeE, wp_le, wp_lt, wp_gt, wp_ge, wp_sub, wp_add, wp_neg, wp_ix_tup, wp_ix_lst, ix0, ix1, Option.some.injEq, exists_eq_left', wp_len_tup, wp_len_lst, wp_itI_tup, wp_itI_lst, wp_seqI, wp_enumI, wp_zipI, wp_cut_bl, wp_cut_int, wp_cut_non, wp_metL, wp_isL_lst, wp_slE, wp_oSome, wp_oNone, wp_tupD, wp_lstD, wp_newF, wp_is_non, wp_callE, List.length_map, MV.isNon, wp_eq_int, wp_bYes, wp_bIff, wp_sPar3, wp_rgE, wp_newT, wp_itS_lst, wp_itS_tup, and_self, exists_eq_left, sized_nil]
        have en : entOk o m w i x = x.isNon := by unfold entOk; rw [if_neg k]
        cases x with
        | non =>
          simp only [wp_sSeq, wp_sExp, wp_sSet, wp_sRet, wp_sIf, wp_sAsg, wp_sFor, wp_sNil, wp_sRetN, wp_sPar, wp_bAnd, wp_bOr, wp_bNot, wp_tst, wp_iff, wp_eAnd, wp_eOr, wp_eNot, wp_chn, wp_bin, wp_una, wp_var, wp_con, wp_aCons, wp_aNil, wp_aStar, atV_zero, atV_succ, asN_nx, asN_rt, asB_bl, asI_int, List.set, List.replicate, retOf, if_true, if_false, Bool.false_eq_true, Bool.not_true, Bool.not_false, wp_gT, wp_gN, wp_gsCons, wp_gsNil, wp_gSub, List.length_cons, List.length_nil, true_and, wipeE, wp_le, wp_lt, wp_gt, wp_ge, wp_sub, wp_add, wp_neg, wp_ix_tup, wp_ix_lst, ix0, ix1, Option.some.injEq, exists_eq_left', wp_len_tup, wp_len_lst, wp_itI_tup, wp_itI_lst, wp_seqI, wp_enumI, wp_zipI, wp_cut_bl, wp_cut_int, wp_cut_non, wp_metL, wp_isL_lst, wp_slE, wp_oSome, wp_oNone, wp_tupD, wp_lstD, wp_newF, wp_is_non, wp_callE, List.length_map, MV.isNon, wp_eq_int, wp_bYes, wp_bIff, wp_sPar3, wp_rgE, wp_newT, wp_itS_lst, wp_itS_tup, and_self, exists_eq_left, sized_nil]
          exact ⟨_, _, rfl, next (by rw [en]; rfl)⟩
        | _ =>
          simp only [wp_sSeq, wp_sExp, wp_sSet, wp_sRet, wp_sIf, wp_sAsg, wp_sFor, wp_sNil, wp_sRetN, wp_sPar, wp_bAnd, wp_bOr, wp_bNot, wp_tst, wp_iff, wp_eAnd, wp_eOr, wp_eNot, wp_chn, wp_bin, wp_una, wp_var, wp_con, wp_aCons, wp_aNil, wp_aStar, atV_zero, atV_succ, asN_nx, asN_rt, asB_bl, asI_int, List.set, List.replicate, retOf, if_true, if_false, Bool.false_eq_true, Bool.not_true, Bool.not_false, wp_gT, wp_gN, wp_gsCons, wp_gsNil, wp_gSub, List.length_cons, List.length_nil, true_and, wipeE, wp_le, wp_lt, wp_gt, wp_ge, wp_sub, wp_add, wp_neg, wp_ix_tup, wp_ix_lst, ix0, ix1, Option.some.injEq, exists_eq_left', wp_len_tup, wp_len_lst, wp_itI_tup, wp_itI_lst, wp_seqI, wp_enumI, wp_zipI, wp_cut_bl, wp_cut_int, wp_cut_non, wp_metL, wp_isL_lst, wp_slE, wp_oSome, wp_oNone, wp_tupD, wp_lstD, wp_newF, wp_is_non, wp_callE, List.length_map, MV.isNon, wp_eq_int, wp_bYes, wp_bIff, wp_sPar3, wp_rgE, wp_newT, wp_itS_lst, wp_itS_tup, and_self, exists_eq_left, sized_nil]
          rw [ent_false ex (by rw [en]; rfl)] at q; exact q
    · rintro env h' ⟨a4, a5, rfl, rfl, al⟩
      rw [List.length_zipIdx] at al
      have : planB o m w (.tup xs) = true := ent_true xl fun i x ex => al i x (by have := (List.getElem?_eq_some_iff.mp ex).1; omega) ex
      rw [this] at q
      simp only [wp_sSeq, wp_sExp, wp_sSet, wp_sRet, wp_sIf, wp_sAsg, wp_sFor, wp_sNil, wp_sRetN, wp_sPar, wp_bAnd, wp_bOr, wp_bNot, wp_tst, wp_iff, wp_eAnd, wp_eOr, wp_eNot, wp_chn, wp_bin, wp_una, wp_var, wp_con, wp_aCons, wp_aNil, wp_aStar, atV_zero, atV_succ, asN_nx, asN_rt, asB_bl, asI_int, List.set, List.replicate, retOf, if_true, if_false, Bool.false_eq_true, Bool.not_true, Bool.not_false, wp_gT, wp_gN, wp_gsCons, wp_gsNil, wp_gSub, List.length_cons, List.length_nil, true_and, wipeE, wp_le, wp_lt, wp_gt, wp_ge, wp_sub, wp_add, wp_neg, wp_ix_tup, wp_ix_lst, ix0, ix1, Option.some.injEq, exists_eq_left', wp_len_tup, wp_len_lst, wp_itI_tup, wp_itI_lst, wp_seqI, wp_enumI, wp_zipI, wp_cut_bl, wp_cut_int, wp_cut_non, wp_metL, wp_isL_lst, wp_slE, wp_oSome, wp_oNone, wp_tupD, wp_lstD, wp_newF, wp_is_non, wp_callE, List.length_map, MV.isNon, wp_eq_int, wp_bYes, wp_bIff, wp_sPar3, wp_rgE, wp_newT, wp_itS_lst, wp_itS_tup, and_self, exists_eq_left, sized_nil]
      exact q
end
section
variable {h : MH} {Q : MV → MH → Prop} {o : List Int} {m : List (Int × Int)}
def lessK (k : Int) : Option Int → Bool
  | some y => decide (y < k)
  | none => false
def targs (one : Bool) (p : Option Int) (row : List Int) : List Int := if one then p.toList else row
def rightB (o : List Int) (m : List (Int × Int)) (w : Int) (S : List Int) (N P T : List (Option Int)) (v : Nat) : Bool :=
  if S.contains (v : Int) then decide (look N v = some 0)
  else match look N v with
    | some k => decide (0 < k) && (targs (o.getD v 0 == w) (look P v) (waysU m v)).all fun t => lessK k (look N t)
    | none => (targs (!(o.getD v 0 == w)) (look T v) (waysU m v)).all fun t => (look N t).isNone
def nV (N : List (Option Int)) : MV := .tup (N.map oV)
structure Parts (o : List Int) (m : List (Int × Int)) (w : Int) (N P T : List (Option Int)) (v : Nat) : Prop where
  nl : N.length = o.length
  pl : P.length = o.length
  tl : T.length = o.length
  hv : v < o.length
  hp : o.getD v 0 = w → ∃ t, look P v = some t ∧ t ∈ waysU m v
  ht : o.getD v 0 ≠ w → ∃ t, look T v = some t ∧ t ∈ waysU m v
theorem Parts.own {w : Int} {N P T : List (Option Int)} {v : Nat} (p : Parts o m w N P T v) (G : Game o m) : ∀ t ∈ targs (o.getD v 0 == w) (look P v) (waysU m v), 0 ≤ t ∧ t < o.length := by
  intro t ht
  unfold targs at ht
  by_cases c : o.getD v 0 = w
  · rw [if_pos (by rw [beq_iff_eq]; exact c)] at ht
    obtain ⟨x, ex, hx⟩ := p.hp c
    rw [ex] at ht
    have : t = x := by simpa using ht
    rw [this]; exact waysU_rng G v x hx
  · rw [if_neg (by rw [beq_iff_eq]; exact c)] at ht
    exact waysU_rng G v t ht
theorem Parts.oth {w : Int} {N P T : List (Option Int)} {v : Nat} (p : Parts o m w N P T v) (G : Game o m) : ∀ t ∈ targs (!(o.getD v 0 == w)) (look T v) (waysU m v), 0 ≤ t ∧ t < o.length := by
  intro t ht
  unfold targs at ht
  by_cases c : o.getD v 0 = w
  · rw [if_neg (by simp [c]; exact c)] at ht
    exact waysU_rng G v t ht
  · rw [if_pos (by rw [Bool.not_eq_true', Bool.eq_false_iff]; intro z; exact c (by simpa using z))] at ht
    obtain ⟨x, ex, hx⟩ := p.ht c
    rw [ex] at ht
    have : t = x := by simpa using ht
    rw [this]; exact waysU_rng G v x hx
theorem targs_len {one : Bool} {p : Option Int} {row : List Int} (l : row.length ≤ 60) : (targs one p row).length ≤ 60 := by
  unfold targs
  split
  · cases p <;> simp
  · exact l
def dueB (o : List Int) (m : List (Int × Int)) (w : Int) (S : List Int) : MV → Bool
  | .tup [a, b, c] => numB o.length a && (planB o m w b && (planB o m (1 - w) c && (List.range o.length).all fun v => rightB o m w S (toRow a) (toRow b) (toRow c) v))
  | _ => false
theorem parts_of {w : Int} {a b c : MV} (G : Game o m) (hw : Who w) (ha : numB o.length a = true) (hb : planB o m w b = true) (hc : planB o m (1 - w) c = true) {v : Nat} (hv : v < o.length) : Parts o m w (toRow a) (toRow b) (toRow c) v := by
  obtain ⟨_, l1, _⟩ := numB_row ha
  obtain ⟨_, r2, p2⟩ := planB_row G hb
  obtain ⟨_, r3, p3⟩ := planB_row G hc
  refine ⟨l1, r2.len, r3.len, hv, fun e => ?_, fun e => ?_⟩
  · have := p2 v hv
    rw [if_pos e] at this; exact this
  · have := p3 v hv
    have ow : o.getD v 0 = 1 - w := by
      have o01 : o.getD v 0 = 0 ∨ o.getD v 0 = 1 := G.own _ (by rw [List.getD_eq_getElem?_getD, List.getElem?_eq_getElem hv]; exact List.getElem_mem hv)
      clear this
      rcases hw with rfl | rfl <;> rcases o01 with k | k <;> rw [k] at e ⊢ <;> first | rfl | exact absurd rfl e
    rw [if_pos ow] at this; exact this
theorem isTup_not3 {o : List Int} {m : List (Int × Int)} {w : Int} {S : List Int} {v : MV} (e : isTup v 3 3 = false) : dueB o m w S v = false := by
  unfold dueB
  split
  · cases e
  · rfl
theorem isTup_3 {v : MV} (e : isTup v 3 3 = true) : ∃ a b c, v = .tup [a, b, c] := by
  obtain ⟨xs, rfl, l⟩ := isTup_of (n := 3) e
  match xs, l with
  | [a, b, c], _ => exact ⟨a, b, c, rfl⟩
end
section
variable {h : MH} {Q : MV → MH → Prop} {o : List Int} {m : List (Int × Int)}
theorem wp_is_int {v : MV} {a b : Int} (c : noC v) : Wp (m__law_is_int [v, .int a, .int b]) h Q ↔ Q (.bl (isInt v a b)) h := by
  unfold m__law_is_int
  rw [wp_def3]
  simp only [wp_sSeq, wp_sExp, wp_sSet, wp_sRet, wp_sIf, wp_sAsg, wp_sFor, wp_sNil, wp_sRetN, wp_sPar, wp_bAnd, wp_bOr, wp_bNot, wp_tst, wp_iff, wp_eAnd, wp_eOr, wp_eNot, wp_chn, wp_bin, wp_una, wp_var, wp_con, wp_aCons, wp_aNil, wp_aStar, atV_zero, atV_succ, asN_nx, asN_rt, asB_bl, asI_int, List.set, List.replicate, retOf, if_true, if_false, Bool.false_eq_true, Bool.not_true, Bool.not_false, wp_gT, wp_gN, wp_gsCons, wp_gsNil, wp_gSub, List.length_cons, List.length_nil, true_and, wipeE, wp_le, wp_lt, wp_gt, wp_ge, wp_sub, wp_add, wp_neg, wp_ix_tup, wp_ix_lst, ix0, ix1, Option.some.injEq, exists_eq_left', wp_len_tup, wp_len_lst, wp_itI_tup, wp_itI_lst, wp_seqI, wp_enumI, wp_zipI, wp_cut_bl, wp_cut_int, wp_cut_non, wp_metL, wp_isL_lst, wp_slE, wp_oSome, wp_oNone, wp_tupD, wp_lstD, wp_newF, wp_is_non, wp_callE, List.length_map, MV.isNon, wp_eq_int, wp_bYes, wp_bIff, wp_sPar3, wp_rgE, wp_newT, wp_itS_lst, wp_itS_tup, and_self, exists_eq_left, sized_nil, wp_isT c]
  cases v with
  | int i =>
    simp only [wp_sSeq, wp_sExp, wp_sSet, wp_sRet, wp_sIf, wp_sAsg, wp_sFor, wp_sNil, wp_sRetN, wp_sPar, wp_bAnd, wp_bOr, wp_bNot, wp_tst, wp_iff, wp_eAnd, wp_eOr, wp_eNot, wp_chn, wp_bin, wp_una, wp_var, wp_con, wp_aCons, wp_aNil, wp_aStar, atV_zero, atV_succ, asN_nx, asN_rt, asB_bl, asI_int, List.set, List.replicate, retOf, if_true, if_false, Bool.false_eq_true, Bool.not_true, Bool.not_false, wp_gT, wp_gN, wp_gsCons, wp_gsNil, wp_gSub, List.length_cons, List.length_nil, true_and, wipeE, wp_le, wp_lt, wp_gt, wp_ge, wp_sub, wp_add, wp_neg, wp_ix_tup, wp_ix_lst, ix0, ix1, Option.some.injEq, exists_eq_left', wp_len_tup, wp_len_lst, wp_itI_tup, wp_itI_lst, wp_seqI, wp_enumI, wp_zipI, wp_cut_bl, wp_cut_int, wp_cut_non, wp_metL, wp_isL_lst, wp_slE, wp_oSome, wp_oNone, wp_tupD, wp_lstD, wp_newF, wp_is_non, wp_callE, List.length_map, MV.isNon, wp_eq_int, wp_bYes, wp_bIff, wp_sPar3, wp_rgE, wp_newT, wp_itS_lst, wp_itS_tup, and_self, exists_eq_left, sized_nil, MV.ty, isSub, isInt]
    by_cases c1 : a ≤ i
    · simp [c1, wp_cut_bl, wp_chn, wp_le, asB_bl]
    · simp [c1, wp_cut_bl, wp_chn, wp_le, asB_bl]
  | cell i => exact absurd rfl (c.c i)
  | lam i => exact absurd rfl (c.l i)
  | fn i => exact absurd rfl (c.f i)
  | _ => simp [wp_sSeq, wp_sExp, wp_sSet, wp_sRet, wp_sIf, wp_sAsg, wp_sFor, wp_sNil, wp_sRetN, wp_sPar, wp_bAnd, wp_bOr, wp_bNot, wp_tst, wp_iff, wp_eAnd, wp_eOr, wp_eNot, wp_chn, wp_bin, wp_una, wp_var, wp_con, wp_aCons, wp_aNil, wp_aStar, atV_zero, atV_succ, asN_nx, asN_rt, asB_bl, asI_int, List.set, List.replicate, retOf, if_true, if_false, Bool.false_eq_true, Bool.not_true, Bool.not_false, wp_gT, wp_gN, wp_gsCons, wp_gsNil, wp_gSub, List.length_cons, List.length_nil, true_and, wipeE, wp_le, wp_lt, wp_gt, wp_ge, wp_sub, wp_add, wp_neg, wp_ix_tup, wp_ix_lst, ix0, ix1, Option.some.injEq, exists_eq_left', wp_len_tup, wp_len_lst, wp_itI_tup, wp_itI_lst, wp_seqI, wp_enumI, wp_zipI, wp_cut_bl, wp_cut_int, wp_cut_non, wp_metL, wp_isL_lst, wp_slE, wp_oSome, wp_oNone, wp_tupD, wp_lstD, wp_newF, wp_is_non, wp_callE, List.length_map, MV.isNon, wp_eq_int, wp_bYes, wp_bIff, wp_sPar3, wp_rgE, wp_newT, wp_itS_lst, wp_itS_tup, and_self, exists_eq_left, sized_nil, MV.ty, isSub, isInt, wp_cut_bl]
theorem wp_lways {v : Nat} (G : Game o m) (q : Q (.lst ((waysU m v).map .int)) h) : Wp (m__law_ways [gameV o m, .int v]) h Q := by
  have m60 := G.m60
  unfold m__law_ways
  rw [wp_def2]
  simp only [wp_sRet, List.replicate]
  refine wp_cmpF m mvV (fun e => e.1 == (v : Int)) (fun e => .int e.2) ?_ (by omega) (fun e he t => ?_) ?_
  · simp only [wp_sSeq, wp_sExp, wp_sSet, wp_sRet, wp_sIf, wp_sAsg, wp_sFor, wp_sNil, wp_sRetN, wp_sPar, wp_bAnd, wp_bOr, wp_bNot, wp_tst, wp_iff, wp_eAnd, wp_eOr, wp_eNot, wp_chn, wp_bin, wp_una, wp_var, wp_con, wp_aCons, wp_aNil, wp_aStar, atV_zero, atV_succ, asN_nx, asN_rt, asB_bl, asI_int, List.set, List.replicate, retOf, if_true, if_false, Bool.false_eq_true, Bool.not_true, Bool.not_false, wp_gT, wp_gN, wp_gsCons, wp_gsNil, wp_gSub, List.length_cons, List.length_nil, true_and, wipeE, wp_le, wp_lt, wp_gt, wp_ge, wp_sub, wp_add, wp_neg, wp_ix_tup, wp_ix_lst, ix0, ix1, Option.some.injEq, exists_eq_left', wp_len_tup, wp_len_lst, wp_itI_tup, wp_itI_lst, wp_seqI, wp_enumI, wp_zipI, wp_cut_bl, wp_cut_int, wp_cut_non, wp_metL, wp_isL_lst, wp_slE, wp_oSome, wp_oNone, wp_tupD, wp_lstD, wp_newF, wp_is_non, wp_callE, List.length_map, MV.isNon, wp_eq_int, wp_bYes, wp_bIff, wp_sPar3, wp_rgE, wp_newT, wp_itS_lst, wp_itS_tup, and_self, exists_eq_left, sized_nil, gameV, movesV]
  · simp only [wp_sSeq, wp_sExp, wp_sSet, wp_sRet, wp_sIf, wp_sAsg, wp_sFor, wp_sNil, wp_sRetN, wp_sPar, wp_bAnd, wp_bOr, wp_bNot, wp_tst, wp_iff, wp_eAnd, wp_eOr, wp_eNot, wp_chn, wp_bin, wp_una, wp_var, wp_con, wp_aCons, wp_aNil, wp_aStar, atV_zero, atV_succ, asN_nx, asN_rt, asB_bl, asI_int, List.set, List.replicate, retOf, if_true, if_false, Bool.false_eq_true, Bool.not_true, Bool.not_false, wp_gT, wp_gN, wp_gsCons, wp_gsNil, wp_gSub, List.length_cons, List.length_nil, true_and, wipeE, wp_le, wp_lt, wp_gt, wp_ge, wp_sub, wp_add, wp_neg, wp_ix_tup, wp_ix_lst, ix0, ix1, Option.some.injEq, exists_eq_left', wp_len_tup, wp_len_lst, wp_itI_tup, wp_itI_lst, wp_seqI, wp_enumI, wp_zipI, wp_cut_bl, wp_cut_int, wp_cut_non, wp_metL, wp_isL_lst, wp_slE, wp_oSome, wp_oNone, wp_tupD, wp_lstD, wp_newF, wp_is_non, wp_callE, List.length_map, MV.isNon, wp_eq_int, wp_bYes, wp_bIff, wp_sPar3, wp_rgE, wp_newT, wp_itS_lst, wp_itS_tup, and_self, exists_eq_left, sized_nil, mvV, MV.free]
    exact fun _ => trivial
  · show Wp (cutv h.length _) h Q
    have e : ((m.filter fun e => e.1 == (v : Int)).map fun e => MV.int e.2) = (waysU m v).map .int := by unfold waysU; rw [List.map_map]; rfl
    rw [e]
    show Wp (cutv h.length (.lst ((waysU m v).map .int))) h Q
    rw [wp_cut0 (free_of_lst (free_ints _))]
    exact q
theorem wp_lis_plan {w : Int} {v : MV} (G : Game o m) (f : v.free = true) (q : Q (.bl (planB o m w v)) h) : Wp (m__law_is_plan [gameV o m, .int w, v]) h Q := by
  have o12 := G.o12
  unfold m__law_is_plan
  rw [wp_def3]
  simp only [wp_sSeq, wp_sExp, wp_sSet, wp_sRet, wp_sIf, wp_sAsg, wp_sFor, wp_sNil, wp_sRetN, wp_sPar, wp_bAnd, wp_bOr, wp_bNot, wp_tst, wp_iff, wp_eAnd, wp_eOr, wp_eNot, wp_chn, wp_bin, wp_una, wp_var, wp_con, wp_aCons, wp_aNil, wp_aStar, atV_zero, atV_succ, asN_nx, asN_rt, asB_bl, asI_int, List.set, List.replicate, retOf, if_true, if_false, Bool.false_eq_true, Bool.not_true, Bool.not_false, wp_gT, wp_gN, wp_gsCons, wp_gsNil, wp_gSub, List.length_cons, List.length_nil, true_and, wipeE, wp_le, wp_lt, wp_gt, wp_ge, wp_sub, wp_add, wp_neg, wp_ix_tup, wp_ix_lst, ix0, ix1, Option.some.injEq, exists_eq_left', wp_len_tup, wp_len_lst, wp_itI_tup, wp_itI_lst, wp_seqI, wp_enumI, wp_zipI, wp_cut_bl, wp_cut_int, wp_cut_non, wp_metL, wp_isL_lst, wp_slE, wp_oSome, wp_oNone, wp_tupD, wp_lstD, wp_newF, wp_is_non, wp_callE, List.length_map, MV.isNon, wp_eq_int, wp_bYes, wp_bIff, wp_sPar3, wp_rgE, wp_newT, wp_itS_lst, wp_itS_tup, and_self, exists_eq_left, sized_nil, gameV, intsV, wp_isT (free_noC f), tup_dat]
  cases c1 : isTupB v with
  | false =>
    have e : planB o m w v = false := by
      unfold planB
      cases v with
      | tup xs => cases c1
      | _ => rfl
    rw [e] at q
    simp only [Bool.not_false, if_true]
    exact q
  | true =>
    obtain ⟨xs, rfl⟩ := isTupB_of c1
    have fx := mem_freeAll (by simpa only [MV.free] using f)
    simp only [Bool.not_true, Bool.false_eq_true, if_false, wp_sSeq, wp_sExp, wp_sSet, wp_sRet, wp_sIf, wp_sAsg, wp_sFor, wp_sNil, wp_sRetN, wp_sPar, wp_bAnd, wp_bOr, wp_bNot, wp_tst, wp_iff, wp_eAnd, wp_eOr, wp_eNot, wp_chn, wp_bin, wp_una, wp_var, wp_con, wp_aCons, wp_aNil, wp_aStar, atV_zero, atV_succ, asN_nx, asN_rt, asB_bl, asI_int, List.set, List.replicate, retOf, if_true, if_false, Bool.false_eq_true, Bool.not_true, Bool.not_false, wp_gT, wp_gN, wp_gsCons, wp_gsNil, wp_gSub, List.length_cons, List.length_nil, true_and, wipeE, wp_le, wp_lt, wp_gt, wp_ge, wp_sub, wp_add, wp_neg, wp_ix_tup, wp_ix_lst, ix0, ix1, Option.some.injEq, exists_eq_left', wp_len_tup, wp_len_lst, wp_itI_tup, wp_itI_lst, wp_seqI, wp_enumI, wp_zipI, wp_cut_bl, wp_cut_int, wp_cut_non, wp_metL, wp_isL_lst, wp_slE, wp_oSome, wp_oNone, wp_tupD, wp_lstD, wp_newF, wp_is_non, wp_callE, List.length_map, MV.isNon, wp_eq_int, wp_bYes, wp_bIff, wp_sPar3, wp_rgE, wp_newT, wp_itS_lst, wp_itS_tup, and_self, exists_eq_left, sized_nil]
    by_cases xl : xs.length = o.length
    · rw [if_neg (by simp [xl])]
      rw [enum_map]
      refine wp_loopL o.zipIdx (fun p => .tup [.int (p.2 : Nat), .int p.1]) (fun i env h' => ∃ a4 a5 : Option MV, env = [some (gameV o m), some (.int w), some (.tup xs), a4, a5] ∧ h' = h ∧ ∀ (j : Nat) x, j < i → xs[j]? = some x → entOk o m w j x = true) ⟨_, _, rfl, rfl, fun j x hj => by omega⟩ ?_ ?_
      · rintro i e env h' ei il ⟨a4, a5, rfl, rfl, al⟩
        obtain ⟨e2, e1⟩ := Mi.zipIdx_get ei
        have hi : i < o.length := (List.getElem?_eq_some_iff.mp e1).1
        have ow : e.1 = o.getD i 0 := by rw [List.getD_eq_getElem?_getD, e1]; rfl
        have ex : xs[i]? = some xs[i] := List.getElem?_eq_getElem (by omega)
        have fi := fx _ (List.mem_of_getElem? ex)
        rw [e2, ow]
        have next : entOk o m w i xs[i] = true → ∀ (j : Nat) x, j < i + 1 → xs[j]? = some x → entOk o m w j x = true := fun en j x hj ej => by
          by_cases k : j = i
          · subst k; rw [ex] at ej; cases ej; exact en
          · exact al j x (by omega) ej
        simp only [wp_sSeq, wp_sExp, wp_sSet, wp_sRet, wp_sIf, wp_sAsg, wp_sFor, wp_sNil, wp_sRetN, wp_sPar, wp_bAnd, wp_bOr, wp_bNot, wp_tst, wp_iff, wp_eAnd, wp_eOr, wp_eNot, wp_chn, wp_bin, wp_una, wp_var, wp_con, wp_aCons, wp_aNil, wp_aStar, atV_zero, atV_succ, asN_nx, asN_rt, asB_bl, asI_int, List.set, List.replicate, retOf, if_true, if_false, Bool.false_eq_true, Bool.not_true, Bool.not_false, wp_gT, wp_gN, wp_gsCons, wp_gsNil, wp_gSub, List.length_cons, List.length_nil, true_and, wipeE, wp_le, wp_lt, wp_gt, wp_ge, wp_sub, wp_add, wp_neg, wp_ix_tup, wp_ix_lst, ix0, ix1, Option.some.injEq, exists_eq_left', wp_len_tup, wp_len_lst, wp_itI_tup, wp_itI_lst, wp_seqI, wp_enumI, wp_zipI, wp_cut_bl, wp_cut_int, wp_cut_non, wp_metL, wp_isL_lst, wp_slE, wp_oSome, wp_oNone, wp_tupD, wp_lstD, wp_newF, wp_is_non, wp_callE, List.length_map, MV.isNon, wp_eq_int, wp_bYes, wp_bIff, wp_sPar3, wp_rgE, wp_newT, wp_itS_lst, wp_itS_tup, and_self, exists_eq_left, sized_nil, at_nat' ex]
        generalize xs[i] = x at ex fi next ⊢
        by_cases k : o.getD i 0 = w
        · have k' : (o.getD i 0 == w) = true := by rw [beq_iff_eq]; exact k
          simp only [k', wp_sSeq, wp_sExp, wp_sSet, wp_sRet, wp_sIf, wp_sAsg, wp_sFor, wp_sNil, wp_sRetN, wp_sPar, wp_bAnd, wp_bOr, wp_bNot, wp_tst, wp_iff, wp_eAnd, wp_eOr, wp_eNot, wp_chn, wp_bin, wp_una, wp_var, wp_con, wp_aCons, wp_aNil, wp_aStar, atV_zero, atV_succ, asN_nx, asN_rt, asB_bl, asI_int, List.set, List.replicate, retOf, if_true, if_false, Bool.false_eq_true, Bool.not_true, Bool.not_false, wp_gT, wp_gN, wp_gsCons, wp_gsNil, wp_gSub, List.length_cons, List.length_nil, true_and, wipeE, wp_le, wp_lt, wp_gt, wp_ge, wp_sub, wp_add, wp_neg, wp_ix_tup, wp_ix_lst, ix0, ix1, Option.some.injEq, exists_eq_left', wp_len_tup, wp_len_lst, wp_itI_tup, wp_itI_lst, wp_seqI, wp_enumI, wp_zipI, wp_cut_bl, wp_cut_int, wp_cut_non, wp_metL, wp_isL_lst, wp_slE, wp_oSome, wp_oNone, wp_tupD, wp_lstD, wp_newF, wp_is_non, wp_callE, List.length_map, MV.isNon, wp_eq_int, wp_bYes, wp_bIff, wp_sPar3, wp_rgE, wp_newT, wp_itS_lst, wp_itS_tup, and_self, exists_eq_left, sized_nil, wp_is_int (free_noC fi)]
          cases x with
          | int c =>
            have en : entOk o m w i (.int c) = (waysU m i).contains c := by unfold entOk; rw [if_pos k]
            by_cases r : isInt (.int c) 0 99 = true
            · simp only [r, wp_sSeq, wp_sExp, wp_sSet, wp_sRet, wp_sIf, wp_sAsg, wp_sFor, wp_sNil, wp_sRetN, wp_sPar, wp_bAnd, wp_bOr, wp_bNot, wp_tst, wp_iff, wp_eAnd, wp_eOr, wp_eNot, wp_chn, wp_bin, wp_una, wp_var, wp_con, wp_aCons, wp_aNil, wp_aStar, atV_zero, atV_succ, asN_nx, asN_rt, asB_bl, asI_int, List.set, List.replicate, retOf, if_true, if_false, Bool.false_eq_true, Bool.not_true, Bool.not_false, wp_gT, wp_gN, wp_gsCons, wp_gsNil, wp_gSub, List.length_cons, List.length_nil, true_and, wipeE, wp_le, wp_lt, wp_gt, wp_ge, wp_sub, wp_add, wp_neg, wp_ix_tup, wp_ix_lst, ix0, ix1, Option.some.injEq, exists_eq_left', wp_len_tup, wp_len_lst, wp_itI_tup, wp_itI_lst, wp_seqI, wp_enumI, wp_zipI, wp_cut_bl, wp_cut_int, wp_cut_non, wp_metL, wp_isL_lst, wp_slE, wp_oSome, wp_oNone, wp_tupD, wp_lstD, wp_newF, wp_is_non, wp_callE, List.length_map, MV.isNon, wp_eq_int, wp_bYes, wp_bIff, wp_sPar3, wp_rgE, wp_newT, wp_itS_lst, wp_itS_tup, and_self, exists_eq_left, sized_nil]
              refine wp_lways G ?_
              rw [wp_in_lst]
              cases hc : (waysU m i).contains c with
              | true =>
                simp only [wp_sSeq, wp_sExp, wp_sSet, wp_sRet, wp_sIf, wp_sAsg, wp_sFor, wp_sNil, wp_sRetN, wp_sPar, wp_bAnd, wp_bOr, wp_bNot, wp_tst, wp_iff, wp_eAnd, wp_eOr, wp_eNot, wp_chn, wp_bin, wp_una, wp_var, wp_con, wp_aCons, wp_aNil, wp_aStar, atV_zero, atV_succ, asN_nx, asN_rt, asB_bl, asI_int, List.set, List.replicate, retOf, if_true, if_false, Bool.false_eq_true, Bool.not_true, Bool.not_false, wp_gT, wp_gN, wp_gsCons, wp_gsNil, wp_gSub, List.length_cons, List.length_nil, true_and, wipeE, wp_le, wp_lt, wp_gt, wp_ge, wp_sub, wp_add, wp_neg, wp_ix_tup, wp_ix_lst, ix0, ix1, Option.some.injEq, exists_eq_left', wp_len_tup, wp_len_lst, wp_itI_tup, wp_itI_lst, wp_seqI, wp_enumI, wp_zipI, wp_cut_bl, wp_cut_int, wp_cut_non, wp_metL, wp_isL_lst, wp_slE, wp_oSome, wp_oNone, wp_tupD, wp_lstD, wp_newF, wp_is_non, wp_callE, List.length_map, MV.isNon, wp_eq_int, wp_bYes, wp_bIff, wp_sPar3, wp_rgE, wp_newT, wp_itS_lst, wp_itS_tup, and_self, exists_eq_left, sized_nil]
                exact ⟨_, _, rfl, next (by rw [en]; exact hc)⟩
              | false =>
                simp only [wp_sSeq, wp_sExp, wp_sSet, wp_sRet, wp_sIf, wp_sAsg, wp_sFor, wp_sNil, wp_sRetN, wp_sPar, wp_bAnd, wp_bOr, wp_bNot, wp_tst, wp_iff, wp_eAnd, wp_eOr, wp_eNot, wp_chn, wp_bin, wp_una, wp_var, wp_con, wp_aCons, wp_aNil, wp_aStar, atV_zero, atV_succ, asN_nx, asN_rt, asB_bl, asI_int, List.set, List.replicate, retOf, if_true, if_false, Bool.false_eq_true, Bool.not_true, Bool.not_false, wp_gT, wp_gN, wp_gsCons, wp_gsNil, wp_gSub, List.length_cons, List.length_nil, true_and, wipeE, wp_le, wp_lt, wp_gt, wp_ge, wp_sub, wp_add, wp_neg, wp_ix_tup, wp_ix_lst, ix0, ix1, Option.some.injEq, exists_eq_left', wp_len_tup, wp_len_lst, wp_itI_tup, wp_itI_lst, wp_seqI, wp_enumI, wp_zipI, wp_cut_bl, wp_cut_int, wp_cut_non, wp_metL, wp_isL_lst, wp_slE, wp_oSome, wp_oNone, wp_tupD, wp_lstD, wp_newF, wp_is_non, wp_callE, List.length_map, MV.isNon, wp_eq_int, wp_bYes, wp_bIff, wp_sPar3, wp_rgE, wp_newT, wp_itS_lst, wp_itS_tup, and_self, exists_eq_left, sized_nil]
                rw [ent_false ex (by rw [en]; exact hc)] at q; exact q
            · rw [Bool.not_eq_true] at r
              simp only [r, wp_sSeq, wp_sExp, wp_sSet, wp_sRet, wp_sIf, wp_sAsg, wp_sFor, wp_sNil, wp_sRetN, wp_sPar, wp_bAnd, wp_bOr, wp_bNot, wp_tst, wp_iff, wp_eAnd, wp_eOr, wp_eNot, wp_chn, wp_bin, wp_una, wp_var, wp_con, wp_aCons, wp_aNil, wp_aStar, atV_zero, atV_succ, asN_nx, asN_rt, asB_bl, asI_int, List.set, List.replicate, retOf, if_true, if_false, Bool.false_eq_true, Bool.not_true, Bool.not_false, wp_gT, wp_gN, wp_gsCons, wp_gsNil, wp_gSub, List.length_cons, List.length_nil, true_and, wipeE, wp_le, wp_lt, wp_gt, wp_ge, wp_sub, wp_add, wp_neg, wp_ix_tup, wp_ix_lst, ix0, ix1, Option.some.injEq, exists_eq_left', wp_len_tup, wp_len_lst, wp_itI_tup, wp_itI_lst, wp_seqI, wp_enumI, wp_zipI, wp_cut_bl, wp_cut_int, wp_cut_non, wp_metL, wp_isL_lst, wp_slE, wp_oSome, wp_oNone, wp_tupD, wp_lstD, wp_newF, wp_is_non, wp_callE, List.length_map, MV.isNon, wp_eq_int, wp_bYes, wp_bIff, wp_sPar3, wp_rgE, wp_newT, wp_itS_lst, wp_itS_tup, and_self, exists_eq_left, sized_nil]
              have hc : (waysU m i).contains c = false := by
                refine Bool.eq_false_iff.mpr fun z => ?_
                have := waysU_rng G i c (mem_atI.mp z)
                have : isInt (.int c) 0 99 = true := by simp [isInt]; omega
                rw [r] at this; cases this
              rw [ent_false ex (by rw [en]; exact hc)] at q; exact q
          | cell c => exact absurd rfl ((free_noC fi).c c)
          | _ =>
            simp only [isInt, wp_sSeq, wp_sExp, wp_sSet, wp_sRet, wp_sIf, wp_sAsg, wp_sFor, wp_sNil, wp_sRetN, wp_sPar, wp_bAnd, wp_bOr, wp_bNot, wp_tst, wp_iff, wp_eAnd, wp_eOr, wp_eNot, wp_chn, wp_bin, wp_una, wp_var, wp_con, wp_aCons, wp_aNil, wp_aStar, atV_zero, atV_succ, asN_nx, asN_rt, asB_bl, asI_int, List.set, List.replicate, retOf, if_true, if_false, Bool.false_eq_true, Bool.not_true, Bool.not_false, wp_gT, wp_gN, wp_gsCons, wp_gsNil, wp_gSub, List.length_cons, List.length_nil, true_and, wipeE, wp_le, wp_lt, wp_gt, wp_ge, wp_sub, wp_add, wp_neg, wp_ix_tup, wp_ix_lst, ix0, ix1, Option.some.injEq, exists_eq_left', wp_len_tup, wp_len_lst, wp_itI_tup, wp_itI_lst, wp_seqI, wp_enumI, wp_zipI, wp_cut_bl, wp_cut_int, wp_cut_non, wp_metL, wp_isL_lst, wp_slE, wp_oSome, wp_oNone, wp_tupD, wp_lstD, wp_newF, wp_is_non, wp_callE, List.length_map, MV.isNon, wp_eq_int, wp_bYes, wp_bIff, wp_sPar3, wp_rgE, wp_newT, wp_itS_lst, wp_itS_tup, and_self, exists_eq_left, sized_nil]
            rw [ent_false ex (by unfold entOk; rw [if_pos k])] at q; exact q
        · have k' : (o.getD i 0 == w) = false := by rw [Bool.eq_false_iff]; intro z; exact k (by simpa using z)
          simp only [k', wp_sSeq, wp_sExp, wp_sSet, wp_sRet, wp_sIf, wp_sAsg, wp_sFor, wp_sNil, wp_sRetN, wp_sPar, wp_bAnd, wp_bOr, wp_bNot, wp_tst, wp_iff, wp_eAnd, wp_eOr, wp_eNot, wp_chn, wp_bin, wp_una, wp_var, wp_con, wp_aCons, wp_aNil, wp_aStar, atV_zero, atV_succ, asN_nx, asN_rt, asB_bl, asI_int, List.set, List.replicate, retOf, if_true, if_false, Bool.false_eq_true, Bool.not_true, Bool.not_false, wp_gT, wp_gN, wp_gsCons, wp_gsNil, wp_gSub, List.length_cons, List.length_nil, true_and, wipeE, wp_le, wp_lt, wp_gt, wp_ge, wp_sub, wp_add, wp_neg, wp_ix_tup, wp_ix_lst, ix0, ix1, Option.some.injEq, exists_eq_left', wp_len_tup, wp_len_lst, wp_itI_tup, wp_itI_lst, wp_seqI, wp_enumI, wp_zipI, wp_cut_bl, wp_cut_int, wp_cut_non, wp_metL, wp_isL_lst, wp_slE, wp_oSome, wp_oNone, wp_tupD, wp_lstD, wp_newF, wp_is_non, wp_callE, List.length_map, MV.isNon, wp_eq_int, wp_bYes, wp_bIff, wp_sPar3, wp_rgE, wp_newT, wp_itS_lst, wp_itS_tup, and_self, exists_eq_left, sized_nil]
          have en : entOk o m w i x = x.isNon := by unfold entOk; rw [if_neg k]
          cases x with
          | non =>
            simp only [wp_sSeq, wp_sExp, wp_sSet, wp_sRet, wp_sIf, wp_sAsg, wp_sFor, wp_sNil, wp_sRetN, wp_sPar, wp_bAnd, wp_bOr, wp_bNot, wp_tst, wp_iff, wp_eAnd, wp_eOr, wp_eNot, wp_chn, wp_bin, wp_una, wp_var, wp_con, wp_aCons, wp_aNil, wp_aStar, atV_zero, atV_succ, asN_nx, asN_rt, asB_bl, asI_int, List.set, List.replicate, retOf, if_true, if_false, Bool.false_eq_true, Bool.not_true, Bool.not_false, wp_gT, wp_gN, wp_gsCons, wp_gsNil, wp_gSub, List.length_cons, List.length_nil, true_and, wipeE, wp_le, wp_lt, wp_gt, wp_ge, wp_sub, wp_add, wp_neg, wp_ix_tup, wp_ix_lst, ix0, ix1, Option.some.injEq, exists_eq_left', wp_len_tup, wp_len_lst, wp_itI_tup, wp_itI_lst, wp_seqI, wp_enumI, wp_zipI, wp_cut_bl, wp_cut_int, wp_cut_non, wp_metL, wp_isL_lst, wp_slE, wp_oSome, wp_oNone, wp_tupD, wp_lstD, wp_newF, wp_is_non, wp_callE, List.length_map, MV.isNon, wp_eq_int, wp_bYes, wp_bIff, wp_sPar3, wp_rgE, wp_newT, wp_itS_lst, wp_itS_tup, and_self, exists_eq_left, sized_nil]
            exact ⟨_, _, rfl, next (by rw [en]; rfl)⟩
          | _ =>
            simp only [wp_sSeq, wp_sExp, wp_sSet, wp_sRet, wp_sIf, wp_sAsg, wp_sFor, wp_sNil, wp_sRetN, wp_sPar, wp_bAnd, wp_bOr, wp_bNot, wp_tst, wp_iff, wp_eAnd, wp_eOr, wp_eNot, wp_chn, wp_bin, wp_una, wp_var, wp_con, wp_aCons, wp_aNil, wp_aStar, atV_zero, atV_succ, asN_nx, asN_rt, asB_bl, asI_int, List.set, List.replicate, retOf, if_true, if_false, Bool.false_eq_true, Bool.not_true, Bool.not_false, wp_gT, wp_gN, wp_gsCons, wp_gsNil, wp_gSub, List.length_cons, List.length_nil, true_and, wipeE, wp_le, wp_lt, wp_gt, wp_ge, wp_sub, wp_add, wp_neg, wp_ix_tup, wp_ix_lst, ix0, ix1, Option.some.injEq, exists_eq_left', wp_len_tup, wp_len_lst, wp_itI_tup, wp_itI_lst, wp_seqI, wp_enumI, wp_zipI, wp_cut_bl, wp_cut_int, wp_cut_non, wp_metL, wp_isL_lst, wp_slE, wp_oSome, wp_oNone, wp_tupD, wp_lstD, wp_newF, wp_is_non, wp_callE, List.length_map, MV.isNon, wp_eq_int, wp_bYes, wp_bIff, wp_sPar3, wp_rgE, wp_newT, wp_itS_lst, wp_itS_tup, and_self, exists_eq_left, sized_nil]
            rw [ent_false ex (by rw [en]; rfl)] at q; exact q
      · rintro env h' ⟨a4, a5, rfl, rfl, al⟩
        rw [List.length_zipIdx] at al
        have : planB o m w (.tup xs) = true := ent_true xl fun i x ex => al i x (by have := (List.getElem?_eq_some_iff.mp ex).1; omega) ex
        rw [this] at q
        simp only [wp_sSeq, wp_sExp, wp_sSet, wp_sRet, wp_sIf, wp_sAsg, wp_sFor, wp_sNil, wp_sRetN, wp_sPar, wp_bAnd, wp_bOr, wp_bNot, wp_tst, wp_iff, wp_eAnd, wp_eOr, wp_eNot, wp_chn, wp_bin, wp_una, wp_var, wp_con, wp_aCons, wp_aNil, wp_aStar, atV_zero, atV_succ, asN_nx, asN_rt, asB_bl, asI_int, List.set, List.replicate, retOf, if_true, if_false, Bool.false_eq_true, Bool.not_true, Bool.not_false, wp_gT, wp_gN, wp_gsCons, wp_gsNil, wp_gSub, List.length_cons, List.length_nil, true_and, wipeE, wp_le, wp_lt, wp_gt, wp_ge, wp_sub, wp_add, wp_neg, wp_ix_tup, wp_ix_lst, ix0, ix1, Option.some.injEq, exists_eq_left', wp_len_tup, wp_len_lst, wp_itI_tup, wp_itI_lst, wp_seqI, wp_enumI, wp_zipI, wp_cut_bl, wp_cut_int, wp_cut_non, wp_metL, wp_isL_lst, wp_slE, wp_oSome, wp_oNone, wp_tupD, wp_lstD, wp_newF, wp_is_non, wp_callE, List.length_map, MV.isNon, wp_eq_int, wp_bYes, wp_bIff, wp_sPar3, wp_rgE, wp_newT, wp_itS_lst, wp_itS_tup, and_self, exists_eq_left, sized_nil]
        exact q
    · rw [if_pos (by simp; omega)]
      have e : planB o m w (.tup xs) = false := by
        show (decide (xs.length = o.length) && _) = false
        rw [decide_eq_false xl]; rfl
      rw [e] at q; exact q
theorem lt_all {k : Int} {l : List (Option Int)} (hn : none ∉ l) : (match l.filterMap id with | [] => true | a :: r => decide (maxL a r < k)) = l.all (lessK k) := by
  have mem : ∀ x, x ∈ l.filterMap id ↔ some x ∈ l := fun x => mem_known
  cases hk : l.filterMap id with
  | nil =>
    have : l = [] := by
      cases l with
      | nil => rfl
      | cons a r =>
        cases a with
        | none => exact absurd (by simp) hn
        | some x => simp at hk
    rw [this]; rfl
  | cons a r =>
    have s := maxL_spec r a
    cases c : l.all (lessK k) with
    | true =>
      have al := List.all_eq_true.mp c
      have : some (maxL a r) ∈ l := (mem _).mp (by
        rw [hk]
        rcases s.1 with z | z
        · rw [z]; simp
        · exact List.mem_cons_of_mem _ z)
      have := al _ this
      exact this
    | false =>
      refine decide_eq_false fun lt => ?_
      refine absurd (List.all_eq_true.mpr fun y hy => ?_) (by rw [c]; decide)
      cases y with
      | none => exact absurd hy hn
      | some y =>
        have := (mem y).mpr hy
        rw [hk] at this
        show decide (y < k) = true
        rcases List.mem_cons.mp this with rfl | z
        · exact decide_eq_true (by have := s.2.1; omega)
        · exact decide_eq_true (by have := s.2.2 y z; omega)
end
section
variable {h : MH} {Q : MV → MH → Prop} {o : List Int} {m : List (Int × Int)}
theorem srtU_map {A B : Type} {f : B → Int} {t : A → B} : ∀ l : List A, srtU f (l.map t) = (srtU (fun a => f (t a)) l).map t
  | [] => rfl
  | x :: l => by
    have ins : ∀ (y : A) (r : List A), insU f (t y) (r.map t) = (insU (fun a => f (t a)) y r).map t := by
      intro y r
      induction r with
      | nil => rfl
      | cons z r ih =>
        rw [List.map_cons]
        unfold insU
        by_cases c : f (t y) < f (t z)
        · rw [if_pos c, if_pos c]; rfl
        · rw [if_neg c, if_neg c]
          by_cases d : f (t y) = f (t z)
          · rw [if_pos d, if_pos d]; rfl
          · rw [if_neg d, if_neg d, List.map_cons, ih]
    rw [List.map_cons]
    show insU f (t x) (srtU f (l.map t)) = _
    rw [srtU_map l, ins]; rfl
theorem wp_sset_mvs {i : Nat} {l : List (Int × Int)} (c : cellL h i (l.map mvV)) (few : l.length < 64) (b : ∀ q ∈ l, 0 ≤ q.1 ∧ q.1 < 1024 ∧ 0 ≤ q.2 ∧ q.2 < 1024) : Wp (sSetT false (.cell i)) h Q ↔ Q (.lst ((srtU pcode l).map mvV)) h := by
  unfold sSetT
  rw [wp_bind, wp_itL_cell c]
  simp only [keys_of_mvs]
  have ok : okKeys (l.map fun q => [q.1, q.2]) = true := by
    cases l with
    | nil => rfl
    | cons q0 l =>
      unfold okKeys
      simp only [List.length_map, Bool.and_eq_true, decide_eq_true_eq, List.all_eq_true, List.map_cons, List.headD_cons, beq_iff_eq]
      refine ⟨by simpa using few, fun k hk => ?_⟩
      have : ∃ q ∈ q0 :: l, k = [q.1, q.2] := by
        rcases List.mem_cons.mp hk with rfl | hk
        · exact ⟨q0, by simp, rfl⟩
        · obtain ⟨q, hq, rfl⟩ := List.mem_map.mp hk
          exact ⟨q, by simp [hq], rfl⟩
      obtain ⟨q, hq, rfl⟩ := this
      have := b q hq
      refine ⟨⟨by simp, rfl⟩, fun m hm => ?_⟩
      have hm : m = q.1 ∨ m = q.2 := by simpa using hm
      rcases hm with rfl | rfl <;> (show _ ∧ _ < (1024 : Int)) <;> omega
  rw [if_pos ok, srtU_map, List.map_map, wp_newF]
  exact Iff.rfl
theorem setU_game {n : Nat} {o : List Int} {mv : List (Int × Int)} (ho : o.length = n) (n1 : 1 ≤ n) (n12 : n ≤ 12) (own : ∀ x ∈ o, x = 0 ∨ x = 1) (rg : ∀ q ∈ mv, 0 ≤ q.1 ∧ q.1 < n ∧ 0 ≤ q.2 ∧ q.2 < n) (all : ∀ i : Nat, i < n → (i : Int) ∈ mv.map (·.1)) (few : mv.length ≤ 60) :
    Game o (srtU pcode mv) := by
  have inj : ∀ a ∈ mv, ∀ b ∈ mv, pcode a = pcode b → a = b := fun a ha b hb e => by
    have ra := rg a ha
    have rb := rg b hb
    rw [pcode_eq, pcode_eq] at e
    exact Prod.ext (by omega) (by omega)
  have mem : ∀ q, q ∈ srtU pcode mv ↔ q ∈ mv := fun q => ⟨srtU_sub mv q, srtU_all mv inj q⟩
  have len : (srtU pcode mv).length ≤ mv.length := by
    have : ∀ l : List (Int × Int), (srtU pcode l).length ≤ l.length := by
      intro l
      induction l with
      | nil => exact Nat.le_refl _
      | cons x l ih =>
        have ins : ∀ (y : Int × Int) (r : List (Int × Int)), (insU pcode y r).length ≤ r.length + 1 := by
          intro y r
          induction r with
          | nil => exact Nat.le_refl _
          | cons z r ih2 =>
            unfold insU
            split
            · simp
            · split
              · simp
              · rw [List.length_cons, List.length_cons]; omega
        have := ins x (srtU pcode l)
        show (insU pcode x (srtU pcode l)).length ≤ _
        rw [List.length_cons]; omega
    exact this mv
  refine ⟨by omega, by omega, own, ?_, by omega, fun q hq => ?_, ?_, fun i hi => ?_⟩
  · obtain ⟨q, hq, _⟩ := List.mem_map.mp (all 0 (by omega))
    exact List.length_pos_of_mem ((mem q).mpr hq)
  · have := rg q ((mem q).mp hq); rw [ho]; omega
  · refine (srtU_pw mv).imp_of_mem fun {a b} ha hb z => ?_
    have ra := rg a ((mem a).mp ha)
    have rb := rg b ((mem b).mp hb)
    rw [pcode_eq, pcode_eq] at z
    unfold lexP
    simp only [Bool.or_eq_true, Bool.and_eq_true, decide_eq_true_eq]
    omega
  · rw [ho] at hi
    obtain ⟨q, hq, e⟩ := List.mem_map.mp (all i hi)
    exact List.mem_map.mpr ⟨q, (mem q).mpr hq, e⟩
theorem draw_comp {i u K : Nat} (R : Nat → Prop) {N : Int} {p : List MV} {env : Ev} {it : AM} {e : EM} {own : List Nat} {g : GM} (hc : cellL h i p) (hp : PotC N p) (hN : N + K + 1 ≤ 100000) (hu : 1 ≤ u ∧ u ≤ 1000) (hK : K ≤ 1000)
    (hit : Wp (it env) h fun vs h1 => ∃ (k : Nat) (p' : List MV), vs = (List.range k).map (fun i : Nat => .int i) ∧ R k ∧ k ≤ K ∧ h1 = h.set i (some (.lst p')) ∧ PotC (N + 1) p')
    (hb : ∀ (v : MV) (h' : MH) (P : MV → MH → Prop), Wp (m__law_take [.cell i, .int u]) h' P → Wp (g v (wipeE env own)) h' fun env' h2 => Wp (e env') h2 P)
    (q : ∀ (l : List Int) (p' : List MV), R l.length → l.length ≤ K → (∀ x ∈ l, 0 ≤ x ∧ x < u) → PotC (N + K + 1) p' → Q (.lst (l.map .int)) (h.set i (some (.lst p')))) : Wp (comp false it g bYes e own env) h Q := by
  have hi := cell_lt hc
  obtain ⟨vs, h1, eit, k, p1, rfl, k1, kK, rfl, hp1⟩ := hit.ok
  refine wp_compI (xs := (List.range k).map fun i : Nat => MV.int i) (n := h.length) (fun t h1 acc => ∃ (p' : List MV) (l : List Int), h1 = h.set i (some (.lst p')) ∧ acc = l.map .int ∧ l.length = t ∧ (∀ x ∈ l, 0 ≤ x ∧ x < u) ∧ PotC (N + 1 + t) p') ?_ ?_ ?_ ?_
  · exact .of eit ⟨rfl, by simp, p1, [], rfl, rfl, rfl, (fun x hx => nomatch hx), by simpa using hp1⟩
  · exact sl_le (by simp; omega)
  · rintro t v h1 acc ht hl _ ⟨p', l, rfl, rfl, ll, rl, hp'⟩
    have tk : t < k := by have := (List.getElem?_eq_some_iff.mp ht).1; simpa using this
    have c1 : cellL (h.set i (some (.lst p')) ++ [some (.lst (l.map .int))]) i p' := cell_app _ (cell_set hi)
    have hb2 := hb v (h.set i (some (.lst p')) ++ [some (.lst (l.map .int))]) (fun y h4 => ∃ h5, h4 = h5 ++ [some (.lst (l.map .int))] ∧ h5.length = h.length ∧ ∃ (p' : List MV) (l2 : List Int), h5 = h.set i (some (.lst p')) ∧ (l.map .int) ++ [y] = l2.map .int ∧ l2.length = t + 1 ∧ (∀ x ∈ l2, 0 ≤ x ∧ x < u) ∧ PotC (N + 1 + (t + 1 : Nat)) p') (by
      refine wp_take c1 hp' (by omega) (by omega) (by omega) fun r p2 r0 r1 hp2 => ?_
      refine ⟨h.set i (some (.lst p2)), ?_, by simp, p2, l ++ [r], rfl, by simp, by simp [ll], fun x hx => ?_, by rw [show N + 1 + ((t + 1 : Nat) : Int) = N + 1 + t + 1 by omega]; exact hp2⟩
      · rw [List.set_append_left _ _ (by simpa using hi), List.set_set]
      · rcases List.mem_append.mp hx with hx | hx
        · exact rl x hx
        · have : x = r := by simpa using hx
          omega)
    refine hb2.mono fun env' h2 w => ?_
    rw [wp_bYes, if_pos rfl]
    exact w
  · rintro h1 acc hl ⟨p', l, rfl, rfl, ll, rl, hp'⟩
    rw [if_neg (by decide)]
    rw [List.length_map, List.length_range] at ll hp'
    exact ⟨free_ints _, q l p' (by rw [ll]; exact k1) (by omega) rl (hp'.mono (by omega))⟩
theorem wp_lgame {i a w : Nat} {N : Int} {p : List MV} (hc : cellL h i p) (hp : PotC N p) (hN : N + 200 ≤ 100000) (ha : 1 ≤ a ∧ a ≤ 12) (hw : 1 ≤ w ∧ w ≤ 5)
    (q : ∀ (o : List Int) (m : List (Int × Int)) (p' : List MV), Game o m → o.length ≤ a → PotC (N + 200) p' → Q (gameV o m) (h.set i (some (.lst p')))) : Wp (m__law_game [.cell i, .int a, .int w]) h Q := by
  unfold m__law_game
  rw [wp_def3]
  have hi := cell_lt hc
  simp only [wp_sSeq, wp_sSet, wp_bin, wp_con, wp_callE (m := m__law_take), wp_aCons, wp_aNil, wp_var, List.replicate, atV_zero, atV_succ]
  refine wp_take hc hp (by omega) (by omega) (by omega) fun r p1 r0 r1 pp1 => ?_
  rw [wp_add]
  simp only [asN_nx, List.set, wp_sSeq, wp_sSet, wp_lstD, wp_aNil, wp_newT]
  refine ⟨rfl, ?_⟩
  obtain ⟨n, hn⟩ : ∃ n : Nat, 1 + r = (n : Int) := ⟨(1 + r).toNat, by omega⟩
  rw [hn]
  have n1 : 1 ≤ n ∧ n ≤ a := by omega
  simp only [asN_nx, List.set, wp_sFor]
  rw [wp_rngN (n := n) (by omega) (by simp only [wp_sSeq, wp_sExp, wp_sSet, wp_sRet, wp_sIf, wp_sAsg, wp_sFor, wp_sNil, wp_sRetN, wp_sPar, wp_bAnd, wp_bOr, wp_bNot, wp_tst, wp_iff, wp_eAnd, wp_eOr, wp_eNot, wp_chn, wp_bin, wp_una, wp_var, wp_con, wp_aCons, wp_aNil, wp_aStar, atV_zero, atV_succ, asN_nx, asN_rt, asB_bl, asI_int, List.set, List.replicate, retOf, if_true, if_false, Bool.false_eq_true, Bool.not_true, Bool.not_false, wp_gT, wp_gN, wp_gsCons, wp_gsNil, wp_gSub, List.length_cons, List.length_nil, true_and, wipeE, wp_le, wp_lt, wp_gt, wp_ge, wp_sub, wp_add, wp_neg, wp_ix_tup, wp_ix_lst, ix0, ix1, Option.some.injEq, exists_eq_left', wp_len_tup, wp_len_lst, wp_itI_tup, wp_itI_lst, wp_seqI, wp_enumI, wp_zipI, wp_cut_bl, wp_cut_int, wp_cut_non, wp_metL, wp_isL_lst, wp_slE, wp_oSome, wp_oNone, wp_tupD, wp_lstD, wp_newF, wp_is_non, wp_callE, List.length_map, MV.isNon, wp_eq_int, wp_bYes, wp_bIff, wp_sPar3, wp_rgE, wp_newT, wp_itS_lst, wp_itS_tup, and_self, exists_eq_left, sized_nil]), List.length_set]
  have shape : ∀ (a b : List MV), cellL (h.set i (some (.lst a)) ++ [some (.lst b)]) i a ∧ cellL (h.set i (some (.lst a)) ++ [some (.lst b)]) h.length b := fun a b => by
    refine ⟨cell_app _ (cell_set hi), ?_⟩
    have := cellL_at (h1 := h.set i (some (.lst a))) (xs := b) (tl := [])
    rwa [List.length_set] at this
  have setp : ∀ (a b c : List MV), (h.set i (some (MObj.lst a)) ++ [some (MObj.lst b)]).set i (some (MObj.lst c)) = h.set i (some (MObj.lst c)) ++ [some (MObj.lst b)] := fun a b c => by
    rw [List.set_append_left _ _ (by simpa using hi), List.set_set]
  have setm : ∀ (a b c : List MV), (h.set i (some (MObj.lst a)) ++ [some (MObj.lst b)]).set h.length (some (MObj.lst c)) = h.set i (some (MObj.lst a)) ++ [some (MObj.lst c)] := fun a b c => by
    rw [List.set_append_right _ _ (by simp), List.length_set, Nat.sub_self]; rfl
  refine wp_loopL (List.range n) (fun i : Nat => MV.int i) (fun j env h' => ∃ (p' : List MV) (mv : List (Int × Int)) (a5 a6 : Option MV), env = [some (.cell i), some (.int a), some (.int w), some (.int n), some (.cell h.length), a5, a6, none, none] ∧
    h' = h.set i (some (.lst p')) ++ [some (.lst (mv.map mvV))] ∧ PotC (N + 1 + 6 * j) p' ∧ (∀ q ∈ mv, 0 ≤ q.1 ∧ q.1 < n ∧ 0 ≤ q.2 ∧ q.2 < n) ∧ (∀ v : Nat, v < j → (v : Int) ∈ mv.map (·.1)) ∧ mv.length ≤ 5 * j) ?_ ?_ ?_
  · exact ⟨p1, [], _, _, rfl, rfl, by simpa using pp1, fun q hq => by simp at hq, fun v hv => by omega, by simp⟩
  · rintro j x env h' ej jl ⟨p', mv, a5, a6, rfl, rfl, hp', rg, al, ml⟩
    obtain ⟨rfl, jn⟩ := range_get ej
    obtain ⟨s1, s2⟩ := shape p' (mv.map mvV)
    simp only [wp_gN, List.set, wp_sSeq, wp_sSet]
    refine draw_comp (i := i) (u := n) (K := w) (fun k => 1 ≤ k) s1 hp' (by omega) (by omega) (by omega) ?_ (fun v h' P hh => ?_) fun l p3 l1 lw lr hp3 => ?_
    · refine wp_rngW ?_
      simp only [wp_bin, wp_con, wp_callE, wp_aCons, wp_aNil, wp_var, atV_zero, atV_succ]
      refine wp_take s1 hp' (by omega) (by omega) (by omega) fun r2 p2 r20 r21 pp2 => ?_
      rw [wp_add]
      exact ⟨(1 + r2).toNat, by rw [show (((1 + r2).toNat : Nat) : Int) = 1 + r2 by omega], by omega, (1 + r2).toNat, p2, rfl, by omega, by omega, rfl, pp2⟩
    · simp only [wp_sSeq, wp_sExp, wp_sSet, wp_sRet, wp_sIf, wp_sAsg, wp_sFor, wp_sNil, wp_sRetN, wp_sPar, wp_bAnd, wp_bOr, wp_bNot, wp_tst, wp_iff, wp_eAnd, wp_eOr, wp_eNot, wp_chn, wp_bin, wp_una, wp_var, wp_con, wp_aCons, wp_aNil, wp_aStar, atV_zero, atV_succ, asN_nx, asN_rt, asB_bl, asI_int, List.set, List.replicate, retOf, if_true, if_false, Bool.false_eq_true, Bool.not_true, Bool.not_false, wp_gT, wp_gN, wp_gsCons, wp_gsNil, wp_gSub, List.length_cons, List.length_nil, true_and, wipeE, wp_le, wp_lt, wp_gt, wp_ge, wp_sub, wp_add, wp_neg, wp_ix_tup, wp_ix_lst, ix0, ix1, Option.some.injEq, exists_eq_left', wp_len_tup, wp_len_lst, wp_itI_tup, wp_itI_lst, wp_seqI, wp_enumI, wp_zipI, wp_cut_bl, wp_cut_int, wp_cut_non, wp_metL, wp_isL_lst, wp_slE, wp_oSome, wp_oNone, wp_tupD, wp_lstD, wp_newF, wp_is_non, wp_callE, List.length_map, MV.isNon, wp_eq_int, wp_bYes, wp_bIff, wp_sPar3, wp_rgE, wp_newT, wp_itS_lst, wp_itS_tup, and_self, exists_eq_left, sized_nil]; exact hh
    · rw [setp]
      obtain ⟨t1, t2⟩ := shape p3 (mv.map mvV)
      simp only [wp_sSeq, wp_sExp, wp_sSet, wp_sRet, wp_sIf, wp_sAsg, wp_sFor, wp_sNil, wp_sRetN, wp_sPar, wp_bAnd, wp_bOr, wp_bNot, wp_tst, wp_iff, wp_eAnd, wp_eOr, wp_eNot, wp_chn, wp_bin, wp_una, wp_var, wp_con, wp_aCons, wp_aNil, wp_aStar, atV_zero, atV_succ, asN_nx, asN_rt, asB_bl, asI_int, List.set, List.replicate, retOf, if_true, if_false, Bool.false_eq_true, Bool.not_true, Bool.not_false, wp_gT, wp_gN, wp_gsCons, wp_gsNil, wp_gSub, List.length_cons, List.length_nil, true_and, wipeE, wp_le, wp_lt, wp_gt, wp_ge, wp_sub, wp_add, wp_neg, wp_ix_tup, wp_ix_lst, ix0, ix1, Option.some.injEq, exists_eq_left', wp_len_tup, wp_len_lst, wp_itI_tup, wp_itI_lst, wp_seqI, wp_enumI, wp_zipI, wp_cut_bl, wp_cut_int, wp_cut_non, wp_metL, wp_isL_lst, wp_slE, wp_oSome, wp_oNone, wp_tupD, wp_lstD, wp_newF, wp_is_non, wp_callE, List.length_map, MV.isNon, wp_eq_int, wp_bYes, wp_bIff, wp_sPar3, wp_rgE, wp_newT, wp_itS_lst, wp_itS_tup, and_self, exists_eq_left, sized_nil, wp_isL_cell t2]
      refine wp_cmp l .int (fun y => .tup [.int x, .int y]) ?_ (by omega) (fun y hy t => ?_) ?_
      · simp only [wp_sSeq, wp_sExp, wp_sSet, wp_sRet, wp_sIf, wp_sAsg, wp_sFor, wp_sNil, wp_sRetN, wp_sPar, wp_bAnd, wp_bOr, wp_bNot, wp_tst, wp_iff, wp_eAnd, wp_eOr, wp_eNot, wp_chn, wp_bin, wp_una, wp_var, wp_con, wp_aCons, wp_aNil, wp_aStar, atV_zero, atV_succ, asN_nx, asN_rt, asB_bl, asI_int, List.set, List.replicate, retOf, if_true, if_false, Bool.false_eq_true, Bool.not_true, Bool.not_false, wp_gT, wp_gN, wp_gsCons, wp_gsNil, wp_gSub, List.length_cons, List.length_nil, true_and, wipeE, wp_le, wp_lt, wp_gt, wp_ge, wp_sub, wp_add, wp_neg, wp_ix_tup, wp_ix_lst, ix0, ix1, Option.some.injEq, exists_eq_left', wp_len_tup, wp_len_lst, wp_itI_tup, wp_itI_lst, wp_seqI, wp_enumI, wp_zipI, wp_cut_bl, wp_cut_int, wp_cut_non, wp_metL, wp_isL_lst, wp_slE, wp_oSome, wp_oNone, wp_tupD, wp_lstD, wp_newF, wp_is_non, wp_callE, List.length_map, MV.isNon, wp_eq_int, wp_bYes, wp_bIff, wp_sPar3, wp_rgE, wp_newT, wp_itS_lst, wp_itS_tup, and_self, exists_eq_left, sized_nil]
      · simp only [wp_sSeq, wp_sExp, wp_sSet, wp_sRet, wp_sIf, wp_sAsg, wp_sFor, wp_sNil, wp_sRetN, wp_sPar, wp_bAnd, wp_bOr, wp_bNot, wp_tst, wp_iff, wp_eAnd, wp_eOr, wp_eNot, wp_chn, wp_bin, wp_una, wp_var, wp_con, wp_aCons, wp_aNil, wp_aStar, atV_zero, atV_succ, asN_nx, asN_rt, asB_bl, asI_int, List.set, List.replicate, retOf, if_true, if_false, Bool.false_eq_true, Bool.not_true, Bool.not_false, wp_gT, wp_gN, wp_gsCons, wp_gsNil, wp_gSub, List.length_cons, List.length_nil, true_and, wipeE, wp_le, wp_lt, wp_gt, wp_ge, wp_sub, wp_add, wp_neg, wp_ix_tup, wp_ix_lst, ix0, ix1, Option.some.injEq, exists_eq_left', wp_len_tup, wp_len_lst, wp_itI_tup, wp_itI_lst, wp_seqI, wp_enumI, wp_zipI, wp_cut_bl, wp_cut_int, wp_cut_non, wp_metL, wp_isL_lst, wp_slE, wp_oSome, wp_oNone, wp_tupD, wp_lstD, wp_newF, wp_is_non, wp_callE, List.length_map, MV.isNon, wp_eq_int, wp_bYes, wp_bIff, wp_sPar3, wp_rgE, wp_newT, wp_itS_lst, wp_itS_tup, and_self, exists_eq_left, sized_nil]
        exact ⟨rfl, rfl⟩
      · have e : (l.map fun y => MV.tup [.int x, .int y]) = (l.map fun y => ((x : Int), y)).map mvV := by rw [List.map_map]; rfl
        rw [e, wp_ext (ys := (l.map fun y => ((x : Int), y)).map mvV) rfl t2 (free_mvs _) (free_mvs _) (small3 (by simp; omega)), setm, ← List.map_append]
        refine ⟨p3, mv ++ l.map fun y => ((x : Int), y), _, _, rfl, rfl, hp3.mono (by omega), fun q hq => ?_, fun v hv => ?_, by simp; omega⟩
        · rcases List.mem_append.mp hq with hq | hq
          · exact rg q hq
          · obtain ⟨y, hy, rfl⟩ := List.mem_map.mp hq
            have := lr y hy
            exact ⟨by show (0 : Int) ≤ (x : Int); omega, by show (x : Int) < n; omega, this.1, this.2⟩
        · rw [List.map_append]
          by_cases c : v < x
          · exact List.mem_append_left _ (al v c)
          · have : v = x := by omega
            subst this
            refine List.mem_append_right _ ?_
            rw [List.map_map]
            cases l with
            | nil => simp at l1
            | cons y l => simp
  · rintro env h' ⟨p', mv, a5, a6, rfl, rfl, hp', rg, al, ml⟩
    rw [List.length_range] at hp' al ml
    obtain ⟨s1, s2⟩ := shape p' (mv.map mvV)
    simp only [asN_nx, wp_sRet, wp_tupD, wp_aCons, wp_aNil, wp_callE (m := tupleM)]
    refine draw_comp (i := i) (u := 2) (K := n) (fun k => k = n) s1 hp' (by omega) (by omega) (by omega) ?_ (fun v h' P hh => ?_) fun l p3 l1 lw lr hp3 => ?_
    · refine (wp_rngN (n := n) (by omega) (by simp only [wp_sSeq, wp_sExp, wp_sSet, wp_sRet, wp_sIf, wp_sAsg, wp_sFor, wp_sNil, wp_sRetN, wp_sPar, wp_bAnd, wp_bOr, wp_bNot, wp_tst, wp_iff, wp_eAnd, wp_eOr, wp_eNot, wp_chn, wp_bin, wp_una, wp_var, wp_con, wp_aCons, wp_aNil, wp_aStar, atV_zero, atV_succ, asN_nx, asN_rt, asB_bl, asI_int, List.set, List.replicate, retOf, if_true, if_false, Bool.false_eq_true, Bool.not_true, Bool.not_false, wp_gT, wp_gN, wp_gsCons, wp_gsNil, wp_gSub, List.length_cons, List.length_nil, true_and, wipeE, wp_le, wp_lt, wp_gt, wp_ge, wp_sub, wp_add, wp_neg, wp_ix_tup, wp_ix_lst, ix0, ix1, Option.some.injEq, exists_eq_left', wp_len_tup, wp_len_lst, wp_itI_tup, wp_itI_lst, wp_seqI, wp_enumI, wp_zipI, wp_cut_bl, wp_cut_int, wp_cut_non, wp_metL, wp_isL_lst, wp_slE, wp_oSome, wp_oNone, wp_tupD, wp_lstD, wp_newF, wp_is_non, wp_callE, List.length_map, MV.isNon, wp_eq_int, wp_bYes, wp_bIff, wp_sPar3, wp_rgE, wp_newT, wp_itS_lst, wp_itS_tup, and_self, exists_eq_left, sized_nil])).mpr ⟨n, p', rfl, rfl, by omega, ?_, hp'.mono (by omega)⟩
      exact (set_self s1).symm
    · simp only [wp_sSeq, wp_sExp, wp_sSet, wp_sRet, wp_sIf, wp_sAsg, wp_sFor, wp_sNil, wp_sRetN, wp_sPar, wp_bAnd, wp_bOr, wp_bNot, wp_tst, wp_iff, wp_eAnd, wp_eOr, wp_eNot, wp_chn, wp_bin, wp_una, wp_var, wp_con, wp_aCons, wp_aNil, wp_aStar, atV_zero, atV_succ, asN_nx, asN_rt, asB_bl, asI_int, List.set, List.replicate, retOf, if_true, if_false, Bool.false_eq_true, Bool.not_true, Bool.not_false, wp_gT, wp_gN, wp_gsCons, wp_gsNil, wp_gSub, List.length_cons, List.length_nil, true_and, wipeE, wp_le, wp_lt, wp_gt, wp_ge, wp_sub, wp_add, wp_neg, wp_ix_tup, wp_ix_lst, ix0, ix1, Option.some.injEq, exists_eq_left', wp_len_tup, wp_len_lst, wp_itI_tup, wp_itI_lst, wp_seqI, wp_enumI, wp_zipI, wp_cut_bl, wp_cut_int, wp_cut_non, wp_metL, wp_isL_lst, wp_slE, wp_oSome, wp_oNone, wp_tupD, wp_lstD, wp_newF, wp_is_non, wp_callE, List.length_map, MV.isNon, wp_eq_int, wp_bYes, wp_bIff, wp_sPar3, wp_rgE, wp_newT, wp_itS_lst, wp_itS_tup, and_self, exists_eq_left, sized_nil]; exact hh
    · rw [setp, wp_tuple_lst]
      obtain ⟨t1, t2⟩ := shape p3 (mv.map mvV)
      simp only [wp_una, wp_var, atV_zero, atV_succ]
      have five : mv.length < 64 := by omega
      rw [wp_sset_mvs t2 five (fun q hq => by have := rg q hq; omega), wp_tuple_lst]
      refine ⟨rfl, ?_⟩
      have fg : (gameV l (srtU pcode mv)).free = true := by
        unfold gameV intsV movesV
        simp only [MV.free, MV.freeAll, free_ints, free_mvs]; rfl
      have e4 : List.take h.length (h.set i (some (MObj.lst p3)) ++ [some (.lst (mv.map mvV))]) = h.set i (some (.lst p3)) := by
        rw [List.take_append_of_le_length (by simp), List.take_of_length_le (by simp)]
      have g := wp_cutv (n := h.length) (Q := Q) (h := h.set i (some (.lst p3)) ++ [some (.lst (mv.map mvV))]) fg
      rw [e4] at g
      refine g.mpr (q l (srtU pcode mv) p3 (setU_game l1 n1.1 (by omega) (fun x hx => ?_) rg al (by omega)) (by omega) (hp3.mono (by omega)))
      have := lr x hx
      omega
end
section
variable {h : MH} {Q : MV → MH → Prop}
structure Gd (D W : Nat) (v : MV) : Prop where
  free : v.free = true
  lay : v.dat.canLay0 = true
  dep : v.dat.depth ≤ D
  wei : v.dat.weight ≤ W
  sho : v.dat.intsShort 22 = true
  shb : v.dat.showable = true
theorem Gd.mono {D W D' W' : Nat} {v : MV} (g : Gd D W v) (h1 : D ≤ D') (h2 : W ≤ W') : Gd D' W' v := ⟨g.free, g.lay, Nat.le_trans g.dep h1, Nat.le_trans g.wei h2, g.sho, g.shb⟩
theorem gd_non {D W : Nat} : Gd D W .non := ⟨rfl, rfl, Nat.zero_le _, Nat.zero_le _, rfl, rfl⟩
theorem gd_bl {D W : Nat} {b : Bool} : Gd D W (.bl b) := ⟨rfl, rfl, Nat.zero_le _, Nat.zero_le _, rfl, rfl⟩
theorem gd_int {D W : Nat} {i : Int} (hi : i.natAbs < 10 ^ 21) (hW : 80 ≤ W) : Gd D W (.int i) := by
  have lg : i.natAbs.log2 < 70 := by
    by_cases z : i.natAbs = 0
    · rw [z]; decide
    · exact (Nat.log2_lt z).mpr (Nat.lt_trans hi (by decide +kernel))
  refine ⟨rfl, rfl, Nat.zero_le _, ?_, ?_, ?_⟩
  · show (if (i == 0) = true then 0 else i.natAbs.log2 + 1) ≤ W
    split <;> omega
  · show decide ((PyData.shown (.int i)).length ≤ 22) = true
    have e := int_text_length_le10 (k := 21) (by decide) hi
    refine decide_eq_true ?_
    show (Str.ofString (toString i)).length ≤ 22
    rw [PySem.ofString_length]; exact e
  · show decide (i.natAbs.log2 < 1920) = true
    exact decide_eq_true (by omega)
theorem gd_str {D W : Nat} {x : Str} (h1 : PyData.strOk x = true) (h2 : x.cps.size ≤ W) : Gd D W (.str x) := ⟨rfl, h1, Nat.zero_le _, h2, rfl, rfl⟩
theorem gd_all {D W : Nat} : ∀ {xs : List MV}, (∀ x ∈ xs, Gd D W x) → MV.freeAll xs = true ∧ PyData.canLayAll0 (MV.datAll xs) = true ∧ PyData.depthAll (MV.datAll xs) ≤ D ∧ PyData.weightAll (MV.datAll xs) ≤ xs.length * (W + 1) ∧ PyData.intsShortAll 22 (MV.datAll xs) = true ∧ PyData.showableAll (MV.datAll xs) = true
  | [], _ => ⟨rfl, rfl, Nat.zero_le _, Nat.zero_le _, rfl, rfl⟩
  | x :: xs, f => by
    have g := f x (by simp)
    obtain ⟨h1, h2, h3, h4, h5, h6⟩ := gd_all fun y hy => f y (List.mem_cons_of_mem _ hy)
    have g1 := g.free
    have g2 := g.lay
    have g3 := g.dep
    have g4 := g.wei
    have g5 := g.sho
    have g6 := g.shb
    simp only [MV.freeAll, MV.datAll, PyData.canLayAll0, PyData.depthAll, PyData.weightAll, PyData.intsShortAll, PyData.showableAll, List.length_cons, Nat.succ_mul, h1, h2, h5, h6, g1, g2, g5, g6]
    exact ⟨rfl, rfl, by omega, by omega, rfl, rfl⟩
theorem gd_tup {D W : Nat} {xs : List MV} (l : xs.length ≤ 8) (f : ∀ x ∈ xs, Gd D W x) : Gd (D + 1) (8 * (W + 1)) (.tup xs) := by
  obtain ⟨h1, h2, h3, h4, h5, h6⟩ := gd_all f
  have : xs.length * (W + 1) ≤ 8 * (W + 1) := Nat.mul_le_mul_right _ l
  refine ⟨by simpa only [MV.free] using h1, by simpa only [MV.dat, PyData.canLay0] using h2, ?_, ?_, by simpa only [MV.dat, PyData.intsShort] using h5, by simpa only [MV.dat, PyData.showable] using h6⟩
  · simp only [MV.dat, PyData.depth]; omega
  · simp only [MV.dat, PyData.weight]; omega
theorem gd_lst {D W : Nat} {xs : List MV} (l : xs.length ≤ 8) (f : ∀ x ∈ xs, Gd D W x) : Gd (D + 1) (8 * (W + 1)) (.lst xs) := by
  obtain ⟨h1, h2, h3, h4, h5, h6⟩ := gd_all f
  have : xs.length * (W + 1) ≤ 8 * (W + 1) := Nat.mul_le_mul_right _ l
  refine ⟨by simpa only [MV.free] using h1, by simpa only [MV.dat, PyData.canLay0] using h2, ?_, ?_, by simpa only [MV.dat, PyData.intsShort] using h5, by simpa only [MV.dat, PyData.showable] using h6⟩
  · simp only [MV.dat, PyData.depth]; omega
  · simp only [MV.dat, PyData.weight]; omega
theorem wp_repr_gd {D W : Nat} {v : MV} (g : Gd D W v) (hD : D ≤ 60) (hW : W ≤ 500000) : Wp (reprM [v]) h Q ↔ Q (.str (PyData.shown v.dat)) h := by
  have pv : pull v = M.pure v := by cases v with
    | cell i => exact absurd g.free (by simp [MV.free])
    | _ => rfl
  have nd := PyData.hasDict_of_canLay _ g.lay
  have sl : v.dat.shown.length ≤ sizeLine := by
    have h1 := PyData.shown_le 22 (by decide) v.dat (PyData.leavesShort_of_canLay0 22 _ g.lay g.sho)
    have h2 : (22 + 2) * v.dat.weight ≤ 24 * 500000 := Nat.mul_le_mul (by decide) (Nat.le_trans g.wei hW)
    have : (12000022 : Nat) ≤ sizeLine := by decide
    omega
  have sp : SeqAt.shaped v.dat = true := by
    unfold SeqAt.shaped
    simp only [Bool.and_eq_true, decide_eq_true_eq]
    have := g.dep
    exact ⟨g.lay, by omega⟩
  show Wp ((pull v).bind fun x => if SeqAt.shaped x.dat && x.dat.showable && !x.dat.hasDict && decide (x.dat.depth ≤ 60) && decide (x.dat.shown.length ≤ sizeLine) then M.pure (.str x.dat.shown) else M.stuck) h Q ↔ _
  rw [pv, wp_bind, wp_pure, wp_ite, if_pos (by rw [sp, g.shb, nd, decide_eq_true (Nat.le_trans g.dep hD), decide_eq_true sl]; rfl), wp_pure]
theorem strOk_of (s : String) : PyData.strOk (Str.ofString s) = true := by
  rw [Str.ofString_eq_toList]
  unfold PyData.strOk
  refine Array.all_eq_true.mpr fun i hi => ?_
  simp only [List.size_toArray, List.length_map] at hi
  simp only [List.getElem_toArray, List.getElem_map, decide_eq_true_eq]
  generalize s.toList[i] = c
  have := c.valid
  have e : c.toNat = c.val.toNat := rfl
  rcases this with h | ⟨_, h⟩
  · show c.val.toNat < _; omega
  · show c.val.toNat < _; omega
end
section
variable {h : MH} {Q : MV → MH → Prop}
theorem gd_cut {D W : Nat} {xs : List MV} (f : ∀ x ∈ xs, Gd D W x) (lo hi : Option Int) : ∀ x ∈ cutA xs lo hi, Gd D W x := fun x hx => by
  unfold cutA at hx
  exact f x (List.mem_of_mem_drop (List.mem_of_mem_take hx))
theorem cut_last (xs : List MV) : (cutA xs (some (-1)) none).length ≤ 1 := by
  unfold cutA
  rw [List.length_take, List.length_drop, HT.sIx_none]
  have e : HT.sIx xs.length 0 (some (-1)) = (-1 + (xs.length : Int)).toNat := by
    show (if (-1 : Int) < 0 then (-1 + (xs.length : Int)).toNat else min (-1 : Int).toNat xs.length) = _
    rw [if_pos (by decide)]
  rw [e]
  omega
theorem cut_two {xs : List MV} {r : Int} {y : MV} (e : xs[r.toNat]? = some y) (h0 : 0 ≤ r) : (cutA xs none (some r)).length + (cutA xs (some (r + 1)) none).length + 1 ≤ xs.length := by
  have hr := (List.getElem?_eq_some_iff.mp e).1
  obtain ⟨n, rfl⟩ : ∃ n : Nat, r = (n : Int) := ⟨r.toNat, by omega⟩
  rw [show ((n : Int)).toNat = n by omega] at hr
  unfold cutA
  rw [HT.sIx_none, HT.sIx_none, HT.sIx_nat, show (n : Int) + 1 = ((n + 1 : Nat) : Int) by omega, HT.sIx_nat]
  simp only [List.length_take, List.length_drop]
  omega
def gdB (D W : Nat) (v : MV) : Bool := v.free && v.dat.canLay0 && decide (v.dat.depth ≤ D) && decide (v.dat.weight ≤ W) && v.dat.intsShort 22 && v.dat.showable
theorem gd_of {D W : Nat} {v : MV} (e : gdB D W v = true) : Gd D W v := by
  unfold gdB at e
  simp only [Bool.and_eq_true, decide_eq_true_eq] at e
  exact ⟨e.1.1.1.1.1, e.1.1.1.1.2, e.1.1.1.2, e.1.1.2, e.1.2, e.2⟩
theorem wp_oddG {i : Nat} {N : Int} {p : List MV} (hc : cellL h i p) (hp : PotC N p) (hN : N ≤ 100000)
    (q : ∀ y p', Gd 4 200 y → PotC (N + 1) p' → Q y (h.set i (some (.lst p')))) : Wp (m__law_odd [.cell i]) h Q := by
  unfold m__law_odd
  rw [wp_def1]
  have p9 : (0 : Int) ≤ 9 ∧ (9 : Int) ≤ 1000 ∧ (10 : Int).natAbs < big256 := by decide
  have p20 : (0 : Int) ≤ 20 ∧ (20 : Int) ≤ 1000 ∧ (10 : Int).natAbs < big256 := by decide
  simp only [wp_sSeq, wp_sExp, wp_sSet, wp_sRet, wp_sIf, wp_sAsg, wp_sFor, wp_sNil, wp_sRetN, wp_sPar, wp_bAnd, wp_bOr, wp_bNot, wp_tst, wp_iff, wp_eAnd, wp_eOr, wp_eNot, wp_chn, wp_bin, wp_una, wp_var, wp_con, wp_aCons, wp_aNil, wp_aStar, atV_zero, atV_succ, asN_nx, asN_rt, asB_bl, asI_int, List.set, List.replicate, retOf, if_true, if_false, Bool.false_eq_true, Bool.not_true, Bool.not_false, wp_gT, wp_gN, wp_gsCons, wp_gsNil, wp_gSub, List.length_cons, List.length_nil, true_and, wipeE, wp_le, wp_lt, wp_gt, wp_ge, wp_sub, wp_add, wp_neg, wp_ix_tup, wp_ix_lst, ix0, ix1, Option.some.injEq, exists_eq_left', wp_len_tup, wp_len_lst, wp_itI_tup, wp_itI_lst, wp_seqI, wp_enumI, wp_zipI, wp_cut_bl, wp_cut_int, wp_cut_non, wp_metL, wp_isL_lst, wp_slE, wp_oSome, wp_oNone, wp_tupD, wp_lstD, wp_newF, wp_is_non, wp_callE, List.length_map, MV.isNon, wp_eq_int, wp_bYes, wp_bIff, wp_sPar3, wp_rgE, wp_newT, wp_itS_lst, wp_itS_tup, and_self, exists_eq_left, sized_nil, wp_pow p9, wp_pow p20]
  repeat refine ⟨rfl, ?_⟩
  rw [wp_cat_lst (Nat.le_of_ble_eq_true rfl)]
  simp only [wp_sSeq, wp_sExp, wp_sSet, wp_sRet, wp_sIf, wp_sAsg, wp_sFor, wp_sNil, wp_sRetN, wp_sPar, wp_bAnd, wp_bOr, wp_bNot, wp_tst, wp_iff, wp_eAnd, wp_eOr, wp_eNot, wp_chn, wp_bin, wp_una, wp_var, wp_con, wp_aCons, wp_aNil, wp_aStar, atV_zero, atV_succ, asN_nx, asN_rt, asB_bl, asI_int, List.set, List.replicate, retOf, if_true, if_false, Bool.false_eq_true, Bool.not_true, Bool.not_false, wp_gT, wp_gN, wp_gsCons, wp_gsNil, wp_gSub, List.length_cons, List.length_nil, true_and, wipeE, wp_le, wp_lt, wp_gt, wp_ge, wp_sub, wp_add, wp_neg, wp_ix_tup, wp_ix_lst, ix0, ix1, Option.some.injEq, exists_eq_left', wp_len_tup, wp_len_lst, wp_itI_tup, wp_itI_lst, wp_seqI, wp_enumI, wp_zipI, wp_cut_bl, wp_cut_int, wp_cut_non, wp_metL, wp_isL_lst, wp_slE, wp_oSome, wp_oNone, wp_tupD, wp_lstD, wp_newF, wp_is_non, wp_callE, List.length_map, MV.isNon, wp_eq_int, wp_bYes, wp_bIff, wp_sPar3, wp_rgE, wp_newT, wp_itS_lst, wp_itS_tup, and_self, exists_eq_left, sized_nil]
  refine wp_of hc hp hN ?_ ?_ ?_ fun y p' hy hp' => ?_
  · exact Nat.le_of_ble_eq_true rfl
  · exact Nat.le_of_ble_eq_true rfl
  · rfl
  have gy : Gd 4 200 y := by
    simp only [List.cons_append, List.nil_append, List.mem_cons, List.not_mem_nil, or_false] at hy
    rcases hy with rfl | rfl | rfl | rfl | rfl | rfl | rfl | rfl | rfl | rfl | rfl | rfl | rfl | rfl | rfl | rfl | rfl | rfl | rfl | rfl | rfl | rfl | rfl | rfl | rfl | rfl | rfl <;> first | exact gd_of (by decide +kernel) | exact gd_int (by decide +kernel) (by decide)
  rw [wp_cut_len (by simp) gy.free]
  exact q y p' gy hp'
def B7 : Nat → MV → Prop
  | 0, v => Fl0 v
  | n + 1, v => Fl0 v ∨ ∃ xs, v = .tup xs ∧ xs.length ≤ 7 ∧ ∀ x ∈ xs, B7 n x
theorem b7_zero {v : MV} : B7 0 v ↔ Fl0 v := Iff.rfl
theorem b7_succ {n : Nat} {v : MV} : B7 (n + 1) v ↔ Fl0 v ∨ ∃ xs, v = .tup xs ∧ xs.length ≤ 7 ∧ ∀ x ∈ xs, B7 n x := Iff.rfl
def wb : Nat → Nat
  | 0 => 2000
  | n + 1 => 8 * (wb n + 1)
theorem wb_le : ∀ n, 2000 ≤ wb n
  | 0 => Nat.le_refl _
  | n + 1 => by have := wb_le n; show 2000 ≤ 8 * (wb n + 1); omega
theorem wb_mono : ∀ n, wb n ≤ wb (n + 1) := fun n => by show wb n ≤ 8 * (wb n + 1); omega
theorem Fl0.gd {v : MV} {D W : Nat} (b : Fl0 v) (hW : 80 ≤ W) : Gd D W v := by
  rcases b with rfl | ⟨i, rfl, h1, h2⟩
  · exact gd_non
  · exact gd_int (Nat.lt_of_le_of_lt (show i.natAbs ≤ 1000000 by omega) (by decide +kernel)) hW
theorem B7.gd : ∀ {n : Nat} {v : MV}, B7 n v → Gd n (wb n) v
  | 0, v, b => (b7_zero.mp b).gd (by decide)
  | n + 1, v, b => by
    rcases b7_succ.mp b with b | ⟨xs, rfl, l, hx⟩
    · exact b.gd (by have := wb_le (n + 1); omega)
    · exact gd_tup (by omega) fun x hm => (hx x hm).gd
theorem strlen_small {i : Int} (h1 : -1000000 ≤ i) (h2 : i ≤ 1000000) : (Str.ofString (toString i)).cps.size ≤ 200 := by
  have e := int_text_length_le10 (a := i) (k := 21) (by decide) (Nat.lt_of_le_of_lt (show i.natAbs ≤ 1000000 by omega) (by decide +kernel))
  have : (Str.ofString (toString i)).length ≤ 22 := by rw [PySem.ofString_length]; exact e
  show (Str.ofString (toString i)).length ≤ 200
  omega
theorem wp_bentG {i : Nat} (d : Nat) : ∀ {n : Nat} {v : MV} {h : MH} {Q : MV → MH → Prop} {N : Int} {p : List MV}, n ≤ 50 → B7 n v → cellL h i p → PotC N p → N + 3 * n + 3 ≤ 100000 →
    (∀ y p', Gd (n + 4) (wb n) y → PotC (N + 3 * n + 3) p' → Q y (h.set i (some (.lst p')))) → Wp (m__law_bent (d + n + 1) [.cell i, v]) h Q := by
  have flat : ∀ {k : Nat} {v : MV} {h : MH} {Q : MV → MH → Prop} {N : Int} {p : List MV}, Fl0 v → cellL h i p → PotC N p → N + 3 ≤ 100000 →
      (∀ y p', Gd 4 2000 y → PotC (N + 1) p' → Q y (h.set i (some (.lst p')))) → Wp (m__law_bent (k + 1) [.cell i, v]) h Q := by
    intro k v h Q N p b hc hp hN q
    unfold m__law_bent
    rw [wp_def2]
    rcases b with rfl | ⟨x, rfl, x0, x1⟩
    · simp only [wp_sSeq, wp_sExp, wp_sSet, wp_sRet, wp_sIf, wp_sAsg, wp_sFor, wp_sNil, wp_sRetN, wp_sPar, wp_bAnd, wp_bOr, wp_bNot, wp_tst, wp_iff, wp_eAnd, wp_eOr, wp_eNot, wp_chn, wp_bin, wp_una, wp_var, wp_con, wp_aCons, wp_aNil, wp_aStar, atV_zero, atV_succ, asN_nx, asN_rt, asB_bl, asI_int, List.set, List.replicate, retOf, if_true, if_false, Bool.false_eq_true, Bool.not_true, Bool.not_false, wp_gT, wp_gN, wp_gsCons, wp_gsNil, wp_gSub, List.length_cons, List.length_nil, true_and, wipeE, wp_le, wp_lt, wp_gt, wp_ge, wp_sub, wp_add, wp_neg, wp_ix_tup, wp_ix_lst, ix0, ix1, Option.some.injEq, exists_eq_left', wp_len_tup, wp_len_lst, wp_itI_tup, wp_itI_lst, wp_seqI, wp_enumI, wp_zipI, wp_cut_bl, wp_cut_int, wp_cut_non, wp_metL, wp_isL_lst, wp_slE, wp_oSome, wp_oNone, wp_tupD, wp_lstD, wp_newF, wp_is_non, wp_callE, List.length_map, MV.isNon, wp_eq_int, wp_bYes, wp_bIff, wp_sPar3, wp_rgE, wp_newT, wp_itS_lst, wp_itS_tup, and_self, exists_eq_left, sized_nil, wpT_non_tuple, wpT_non_bool, wpT_non_int, wpT_non_str, wpT_non_list, wpT_bl_tuple, wpT_bl_bool, wpT_bl_int, wpT_bl_str, wpT_bl_list, wpT_int_tuple, wpT_int_bool, wpT_int_int, wpT_int_str, wpT_int_list, wpT_str_tuple, wpT_str_bool, wpT_str_int, wpT_str_str, wpT_str_list, wpT_tup_tuple, wpT_tup_bool, wpT_tup_int, wpT_tup_str, wpT_tup_list, wpT_lst_tuple, wpT_lst_bool, wpT_lst_int, wpT_lst_str, wpT_lst_list, wpT_scr_tuple, wpT_scr_bool, wpT_scr_int, wpT_scr_str, wpT_scr_list]
      refine wp_oddG hc hp (by omega) fun y p' gy hp' => ?_
      rw [wp_cut_len (by simp) gy.free]
      exact q y p' (gy.mono (by decide) (by decide)) hp'
    · simp only [wp_sSeq, wp_sExp, wp_sSet, wp_sRet, wp_sIf, wp_sAsg, wp_sFor, wp_sNil, wp_sRetN, wp_sPar, wp_bAnd, wp_bOr, wp_bNot, wp_tst, wp_iff, wp_eAnd, wp_eOr, wp_eNot, wp_chn, wp_bin, wp_una, wp_var, wp_con, wp_aCons, wp_aNil, wp_aStar, atV_zero, atV_succ, asN_nx, asN_rt, asB_bl, asI_int, List.set, List.replicate, retOf, if_true, if_false, Bool.false_eq_true, Bool.not_true, Bool.not_false, wp_gT, wp_gN, wp_gsCons, wp_gsNil, wp_gSub, List.length_cons, List.length_nil, true_and, wipeE, wp_le, wp_lt, wp_gt, wp_ge, wp_sub, wp_add, wp_neg, wp_ix_tup, wp_ix_lst, ix0, ix1, Option.some.injEq, exists_eq_left', wp_len_tup, wp_len_lst, wp_itI_tup, wp_itI_lst, wp_seqI, wp_enumI, wp_zipI, wp_cut_bl, wp_cut_int, wp_cut_non, wp_metL, wp_isL_lst, wp_slE, wp_oSome, wp_oNone, wp_tupD, wp_lstD, wp_newF, wp_is_non, wp_callE, List.length_map, MV.isNon, wp_eq_int, wp_bYes, wp_bIff, wp_sPar3, wp_rgE, wp_newT, wp_itS_lst, wp_itS_tup, and_self, exists_eq_left, sized_nil, wpT_non_tuple, wpT_non_bool, wpT_non_int, wpT_non_str, wpT_non_list, wpT_bl_tuple, wpT_bl_bool, wpT_bl_int, wpT_bl_str, wpT_bl_list, wpT_int_tuple, wpT_int_bool, wpT_int_int, wpT_int_str, wpT_int_list, wpT_str_tuple, wpT_str_bool, wpT_str_int, wpT_str_str, wpT_str_list, wpT_tup_tuple, wpT_tup_bool, wpT_tup_int, wpT_tup_str, wpT_tup_list, wpT_lst_tuple, wpT_lst_bool, wpT_lst_int, wpT_lst_str, wpT_lst_list, wpT_scr_tuple, wpT_scr_bool, wpT_scr_int, wpT_scr_str, wpT_scr_list, wp_str (log_small x0 x1)]
      refine ⟨rfl, rfl, ?_⟩
      refine wp_of hc hp (by omega) ?_ ?_ ?_ fun y p' hy hp' => ?_
      · exact Nat.le_of_ble_eq_true rfl
      · exact Nat.le_of_ble_eq_true rfl
      · rfl
      have small : ∀ z : Int, -1000001 ≤ z → z ≤ 1000001 → z.natAbs < 10 ^ 21 := fun z h1 h2 => Nat.lt_of_le_of_lt (show z.natAbs ≤ 1000001 by omega) (by decide +kernel)
      have gy : Gd 4 2000 y := by
        simp only [List.mem_cons, List.not_mem_nil, or_false] at hy
        rcases hy with rfl | rfl | rfl | rfl | rfl | rfl | rfl
        · exact gd_int (small _ (by omega) (by omega)) (by decide)
        · exact gd_int (small _ (by omega) (by omega)) (by decide)
        · exact gd_int (small _ (by omega) (by omega)) (by decide)
        · exact gd_str (strOk_of _) (by have := strlen_small x0 x1; omega)
        · exact gd_non
        · exact gd_bl
        · exact (gd_tup (D := 3) (W := 80) (by simp) fun z hz => by
            rw [List.mem_singleton.mp hz]
            exact gd_int (small _ (by omega) (by omega)) (by decide)).mono (by decide) (by decide)
      rw [wp_cut_len (by simp) gy.free]
      exact q y p' gy hp'
  intro n
  induction n with
  | zero =>
    intro v h Q N p hn b hc hp hN q
    exact flat (b7_zero.mp b) hc hp (by omega) fun y p' gy hp' => q y p' gy (hp'.mono (by omega))
  | succ n ih =>
    intro v h Q N p hn b hc hp hN q
    rcases b7_succ.mp b with b | ⟨xs, rfl, xl, hx⟩
    · exact flat b hc hp (by omega) fun y p' gy hp' => q y p' (gy.mono (by omega) (wb_le _)) (hp'.mono (by omega))
    · have gx : ∀ x ∈ xs, Gd (n + 4) (wb n) x := fun x hm => (hx x hm).gd.mono (by omega) (Nat.le_refl _)
      have fx : MV.freeAll xs = true := freeAll_mem fun x hm => (gx x hm).free
      have sx : Sh (.tup xs) (n + 1) := sh_tup fun x hm => ⟨(hx x hm).gd.lay, (hx x hm).gd.dep⟩
      have hi := cell_lt hc
      unfold m__law_bent
      rw [wp_def2]
      simp only [wp_sSeq, wp_sIf, wp_bAnd, wp_tst, wp_una, wp_bin, wp_var, List.replicate, atV_zero, atV_succ, wpT_non_tuple, wpT_non_bool, wpT_non_int, wpT_non_str, wpT_non_list, wpT_bl_tuple, wpT_bl_bool, wpT_bl_int, wpT_bl_str, wpT_bl_list, wpT_int_tuple, wpT_int_bool, wpT_int_int, wpT_int_str, wpT_int_list, wpT_str_tuple, wpT_str_bool, wpT_str_int, wpT_str_str, wpT_str_list, wpT_tup_tuple, wpT_tup_bool, wpT_tup_int, wpT_tup_str, wpT_tup_list, wpT_lst_tuple, wpT_lst_bool, wpT_lst_int, wpT_lst_str, wpT_lst_list, wpT_scr_tuple, wpT_scr_bool, wpT_scr_int, wpT_scr_str, wpT_scr_list, asB_bl, if_true, wp_tupD, wp_aNil, wp_ne_nil (show n + 1 ≤ 64 by omega) sx]
      refine ⟨rfl, ?_⟩
      cases c : xs.isEmpty with
      | true =>
        simp only [Bool.not_true, Bool.false_eq_true, if_false]
        simp only [wp_sSeq, wp_sExp, wp_sSet, wp_sRet, wp_sIf, wp_sAsg, wp_sFor, wp_sNil, wp_sRetN, wp_sPar, wp_bAnd, wp_bOr, wp_bNot, wp_tst, wp_iff, wp_eAnd, wp_eOr, wp_eNot, wp_chn, wp_bin, wp_una, wp_var, wp_con, wp_aCons, wp_aNil, wp_aStar, atV_zero, atV_succ, asN_nx, asN_rt, asB_bl, asI_int, List.set, List.replicate, retOf, if_true, if_false, Bool.false_eq_true, Bool.not_true, Bool.not_false, wp_gT, wp_gN, wp_gsCons, wp_gsNil, wp_gSub, List.length_cons, List.length_nil, true_and, wipeE, wp_le, wp_lt, wp_gt, wp_ge, wp_sub, wp_add, wp_neg, wp_ix_tup, wp_ix_lst, ix0, ix1, Option.some.injEq, exists_eq_left', wp_len_tup, wp_len_lst, wp_itI_tup, wp_itI_lst, wp_seqI, wp_enumI, wp_zipI, wp_cut_bl, wp_cut_int, wp_cut_non, wp_metL, wp_isL_lst, wp_slE, wp_oSome, wp_oNone, wp_tupD, wp_lstD, wp_newF, wp_is_non, wp_callE, List.length_map, MV.isNon, wp_eq_int, wp_bYes, wp_bIff, wp_sPar3, wp_rgE, wp_newT, wp_itS_lst, wp_itS_tup, and_self, exists_eq_left, sized_nil, wpT_non_tuple, wpT_non_bool, wpT_non_int, wpT_non_str, wpT_non_list, wpT_bl_tuple, wpT_bl_bool, wpT_bl_int, wpT_bl_str, wpT_bl_list, wpT_int_tuple, wpT_int_bool, wpT_int_int, wpT_int_str, wpT_int_list, wpT_str_tuple, wpT_str_bool, wpT_str_int, wpT_str_str, wpT_str_list, wpT_tup_tuple, wpT_tup_bool, wpT_tup_int, wpT_tup_str, wpT_tup_list, wpT_lst_tuple, wpT_lst_bool, wpT_lst_int, wpT_lst_str, wpT_lst_list, wpT_scr_tuple, wpT_scr_bool, wpT_scr_int, wpT_scr_str, wpT_scr_list, wp_list_tup, wp_sl_tup, wp_rev_tup, wp_cat_tup (show xs.length + (cutA xs (some (-1)) none).length ≤ 100000 by have := cutA_len xs (some (-1)) none; omega)]
        refine ⟨rfl, ?_⟩
        have l1 := cutA_len xs (some (-1)) none
        have l11 : (cutA xs (some (-1)) none).length ≤ 1 := cut_last xs
        have l2 := cutA_len xs none (some (-1))
        have l3 := cutA_len xs (some 1) none
        have gall : ∀ y ∈ [MV.lst xs, .tup (cutA xs (some 1) none), .tup (cutA xs none (some (-1))), .tup (xs ++ cutA xs (some (-1)) none), .tup xs.reverse, .tup [], .non], Gd (n + 1 + 4) (wb (n + 1)) y := by
          intro y hy
          simp only [List.mem_cons, List.not_mem_nil, or_false] at hy
          rcases hy with rfl | rfl | rfl | rfl | rfl | rfl | rfl
          · exact gd_lst (D := n + 4) (by omega) gx
          · exact gd_tup (D := n + 4) (by omega) (gd_cut gx _ _)
          · exact gd_tup (D := n + 4) (by omega) (gd_cut gx _ _)
          · exact gd_tup (D := n + 4) (by rw [List.length_append]; omega) fun x hm => by
              rcases List.mem_append.mp hm with hm | hm
              · exact gx x hm
              · exact gd_cut gx _ _ x hm
          · exact gd_tup (D := n + 4) (by rw [List.length_reverse]; omega) fun x hm => gx x (List.mem_reverse.mp hm)
          · exact gd_tup (D := n + 4) (by simp) fun x hm => by simp at hm
          · exact gd_non
        refine wp_of hc hp (by omega) ?_ ?_ (freeAll_mem fun y hy => (gall y hy).free) fun y p' hy hp' => ?_
        · exact Nat.le_add_left _ _
        · exact Nat.le_of_ble_eq_true rfl
        have gy := gall y hy
        rw [wp_cut_len (by simp) gy.free]
        exact q y p' gy (hp'.mono (by omega))
      | false =>
        simp only [Bool.not_false, if_true, wp_callE (m := m__law_take), wp_aCons, wp_aNil, wp_var, wp_con, atV_zero, atV_succ]
        refine wp_take hc hp (by omega) (by decide) (by decide) fun r p1 r0 r1 hp1 => ?_
        have hc1 : cellL (h.set i (some (.lst p1))) i p1 := cell_set hi
        rw [wp_gt, asB_bl]
        by_cases rp : (0 : Int) < r
        · rw [if_pos (by simp [rp])]
          have xl0 : 1 ≤ xs.length := by
            cases xs with
            | nil => cases c
            | cons a l => simp
          simp only [wp_sSet, wp_callE (m := m__law_take), wp_callE (m := lenM), wp_aCons, wp_aNil, wp_var, atV_zero, atV_succ, wp_len_tup]
          refine wp_take hc1 hp1 (by omega) (by omega) (by omega) fun r2 p2 r20 r21 hp2 => ?_
          rw [List.set_set]
          have hc2 : cellL (h.set i (some (.lst p2))) i p2 := cell_set hi
          have hr : r2.toNat < xs.length := by omega
          simp only [wp_sSeq, wp_sExp, wp_sSet, wp_sRet, wp_sIf, wp_sAsg, wp_sFor, wp_sNil, wp_sRetN, wp_sPar, wp_bAnd, wp_bOr, wp_bNot, wp_tst, wp_iff, wp_eAnd, wp_eOr, wp_eNot, wp_chn, wp_bin, wp_una, wp_var, wp_con, wp_aCons, wp_aNil, wp_aStar, atV_zero, atV_succ, asN_nx, asN_rt, asB_bl, asI_int, List.set, List.replicate, retOf, if_true, if_false, Bool.false_eq_true, Bool.not_true, Bool.not_false, wp_gT, wp_gN, wp_gsCons, wp_gsNil, wp_gSub, List.length_cons, List.length_nil, true_and, wipeE, wp_le, wp_lt, wp_gt, wp_ge, wp_sub, wp_add, wp_neg, wp_ix_tup, wp_ix_lst, ix0, ix1, Option.some.injEq, exists_eq_left', wp_len_tup, wp_len_lst, wp_itI_tup, wp_itI_lst, wp_seqI, wp_enumI, wp_zipI, wp_cut_bl, wp_cut_int, wp_cut_non, wp_metL, wp_isL_lst, wp_slE, wp_oSome, wp_oNone, wp_tupD, wp_lstD, wp_newF, wp_is_non, wp_callE, List.length_map, MV.isNon, wp_eq_int, wp_bYes, wp_bIff, wp_sPar3, wp_rgE, wp_newT, wp_itS_lst, wp_itS_tup, and_self, exists_eq_left, sized_nil, wp_sl_tup, atI_int r20 (List.getElem?_eq_getElem hr)]
          refine ih (by omega) (hx _ (List.getElem_mem hr)) hc2 hp2 (by omega) fun y p3 gy hp3 => ?_
          rw [List.set_set]
          have l1 := cutA_len xs none (some r2)
          have l2 := cutA_len xs (some (r2 + 1)) none
          have l3 : (cutA xs none (some r2)).length + (cutA xs (some (r2 + 1)) none).length + 1 ≤ xs.length := cut_two (List.getElem?_eq_getElem hr) r20
          refine ⟨rfl, ?_⟩
          rw [wp_cat_tup (by simp; omega), wp_cat_tup (by simp; omega)]
          have gg : Gd (n + 1 + 4) (wb (n + 1)) (MV.tup (cutA xs none (some r2) ++ [y] ++ cutA xs (some (r2 + 1)) none)) := gd_tup (D := n + 4) (by simp; omega) fun x hm => by
            rcases List.mem_append.mp hm with hm | hm
            · rcases List.mem_append.mp hm with hm | hm
              · exact gd_cut gx _ _ x hm
              · rw [List.mem_singleton.mp hm]; exact gy
            · exact gd_cut gx _ _ x hm
          rw [wp_cut_len (by simp) gg.free]
          exact q _ p3 gg (hp3.mono (by omega))
        · rw [if_neg (by simp [rp])]
          simp only [wp_sSeq, wp_sExp, wp_sSet, wp_sRet, wp_sIf, wp_sAsg, wp_sFor, wp_sNil, wp_sRetN, wp_sPar, wp_bAnd, wp_bOr, wp_bNot, wp_tst, wp_iff, wp_eAnd, wp_eOr, wp_eNot, wp_chn, wp_bin, wp_una, wp_var, wp_con, wp_aCons, wp_aNil, wp_aStar, atV_zero, atV_succ, asN_nx, asN_rt, asB_bl, asI_int, List.set, List.replicate, retOf, if_true, if_false, Bool.false_eq_true, Bool.not_true, Bool.not_false, wp_gT, wp_gN, wp_gsCons, wp_gsNil, wp_gSub, List.length_cons, List.length_nil, true_and, wipeE, wp_le, wp_lt, wp_gt, wp_ge, wp_sub, wp_add, wp_neg, wp_ix_tup, wp_ix_lst, ix0, ix1, Option.some.injEq, exists_eq_left', wp_len_tup, wp_len_lst, wp_itI_tup, wp_itI_lst, wp_seqI, wp_enumI, wp_zipI, wp_cut_bl, wp_cut_int, wp_cut_non, wp_metL, wp_isL_lst, wp_slE, wp_oSome, wp_oNone, wp_tupD, wp_lstD, wp_newF, wp_is_non, wp_callE, List.length_map, MV.isNon, wp_eq_int, wp_bYes, wp_bIff, wp_sPar3, wp_rgE, wp_newT, wp_itS_lst, wp_itS_tup, and_self, exists_eq_left, sized_nil, wpT_non_tuple, wpT_non_bool, wpT_non_int, wpT_non_str, wpT_non_list, wpT_bl_tuple, wpT_bl_bool, wpT_bl_int, wpT_bl_str, wpT_bl_list, wpT_int_tuple, wpT_int_bool, wpT_int_int, wpT_int_str, wpT_int_list, wpT_str_tuple, wpT_str_bool, wpT_str_int, wpT_str_str, wpT_str_list, wpT_tup_tuple, wpT_tup_bool, wpT_tup_int, wpT_tup_str, wpT_tup_list, wpT_lst_tuple, wpT_lst_bool, wpT_lst_int, wpT_lst_str, wpT_lst_list, wpT_scr_tuple, wpT_scr_bool, wpT_scr_int, wpT_scr_str, wpT_scr_list, wp_list_tup, wp_sl_tup, wp_rev_tup, wp_cat_tup (show xs.length + (cutA xs (some (-1)) none).length ≤ 100000 by have := cutA_len xs (some (-1)) none; omega)]
          refine ⟨rfl, ?_⟩
          have l1 := cutA_len xs (some (-1)) none
          have l11 : (cutA xs (some (-1)) none).length ≤ 1 := cut_last xs
          have l2 := cutA_len xs none (some (-1))
          have l3 := cutA_len xs (some 1) none
          have gall : ∀ y ∈ [MV.lst xs, .tup (cutA xs (some 1) none), .tup (cutA xs none (some (-1))), .tup (xs ++ cutA xs (some (-1)) none), .tup xs.reverse, .tup [], .non], Gd (n + 1 + 4) (wb (n + 1)) y := by
            intro y hy
            simp only [List.mem_cons, List.not_mem_nil, or_false] at hy
            rcases hy with rfl | rfl | rfl | rfl | rfl | rfl | rfl
            · exact gd_lst (D := n + 4) (by omega) gx
            · exact gd_tup (D := n + 4) (by omega) (gd_cut gx _ _)
            · exact gd_tup (D := n + 4) (by omega) (gd_cut gx _ _)
            · exact gd_tup (D := n + 4) (by rw [List.length_append]; omega) fun x hm => by
                rcases List.mem_append.mp hm with hm | hm
                · exact gx x hm
                · exact gd_cut gx _ _ x hm
            · exact gd_tup (D := n + 4) (by rw [List.length_reverse]; omega) fun x hm => gx x (List.mem_reverse.mp hm)
            · exact gd_tup (D := n + 4) (by simp) fun x hm => by simp at hm
            · exact gd_non
          refine wp_of hc1 hp1 (by omega) ?_ ?_ (freeAll_mem fun y hy => (gall y hy).free) fun y p' hy hp' => ?_
          · exact Nat.le_add_left _ _
          · exact Nat.le_of_ble_eq_true rfl
          have gy := gall y hy
          rw [wp_cut_len (by simp) gy.free]
          rw [List.set_set]
          exact q y p' gy (hp'.mono (by omega))
end
section
variable {h : MH} {Q : MV → MH → Prop}
end
section
variable {h : MH} {Q : MV → MH → Prop}
end
section
variable {h : MH} {Q : MV → MH → Prop} {Qf : Fl → MH → Prop}
end
section
variable {h : MH} {Q : MV → MH → Prop} {Qf : Fl → MH → Prop}
end
section
variable {h : MH} {Q : MV → MH → Prop}
end
section
variable {h : MH} {Q : MV → MH → Prop} {o : List Int} {m : List (Int × Int)} {pz : List Int} {b : Nat}
end
section
variable {h : MH} {Q : MV → MH → Prop} {o : List Int} {m : List (Int × Int)} {pz : List Int} {b : Nat}
end
section
variable {h : MH} {Q : MV → MH → Prop} {o : List Int} {m : List (Int × Int)} {pz : List Int} {b : Nat}
end
section
variable {h : MH} {Q : MV → MH → Prop}
end
section
variable {h : MH} {Q : MV → MH → Prop} {o : List Int} {m : List (Int × Int)} {pz : List Int} {b : Nat}
end
section
variable {h : MH} {Q : MV → MH → Prop} {o : List Int} {m : List (Int × Int)} {pz : List Int} {b : Nat}
end
section
variable {h : MH} {Q : MV → MH → Prop} {o : List Int} {m : List (Int × Int)}
end
section
variable {h : MH} {Q : MV → MH → Prop} {o : List Int} {m : List (Int × Int)}
end
section
variable {h : MH} {Q : MV → MH → Prop} {o : List Int} {m : List (Int × Int)}
end
section
variable {h : MH} {Q : MV → MH → Prop} {o : List Int} {m : List (Int × Int)}
end
section
variable {h : MH} {Q : MV → MH → Prop} {o : List Int} {m : List (Int × Int)}
end
section
variable {h : MH} {Q : MV → MH → Prop} {o : List Int} {m : List (Int × Int)}
end
section
variable {h : MH} {Q : MV → MH → Prop} {o : List Int} {m : List (Int × Int)}
end
section
variable {h : MH} {Q : MV → MH → Prop} {o : List Int} {m : List (Int × Int)}
end
section
variable {h : MH} {Q : MV → MH → Prop} {o : List Int} {m : List (Int × Int)}
theorem waysU_asc (G : Game o m) (v : Int) : (waysU m v).Pairwise (· < ·) := by
  unfold waysU
  refine List.pairwise_map.mpr ((G.ris.sublist List.filter_sublist).imp_of_mem fun {a b} ha hb l => ?_)
  have e1 : a.1 = v := by simpa using (List.mem_filter.mp ha).2
  have e2 : b.1 = v := by simpa using (List.mem_filter.mp hb).2
  unfold lexP at l
  simp only [Bool.or_eq_true, Bool.and_eq_true, decide_eq_true_eq] at l
  omega
theorem waysU_few (G : Game o m) (v : Int) : (waysU m v).length ≤ o.length := by
  have := asc_len (waysU_asc G v) (waysU_rng G v)
  omega
def PlanOk (n i : Nat) (x : MV) : Prop := ∃ P : List (Option Int), x = .tup (P.map oV) ∧ P.length = i ∧ ∀ k, some k ∈ P → 0 ≤ k ∧ k < n
theorem PlanOk.free {n i : Nat} {x : MV} (p : PlanOk n i x) : x.free = true := by
  obtain ⟨P, rfl, _⟩ := p; exact free_of_tup (free_os P)
theorem PlanOk.snoc {n i : Nat} {P : List (Option Int)} {y : Option Int} (l : P.length = i) (r : ∀ k, some k ∈ P → 0 ≤ k ∧ k < n) (hy : ∀ k, y = some k → 0 ≤ k ∧ k < n) : PlanOk n (i + 1) (.tup (P.map oV ++ [oV y])) :=
  ⟨P ++ [y], by rw [List.map_append]; rfl, by simp [l], fun k hk => by
    rcases List.mem_append.mp hk with hk | hk
    · exact r k hk
    · exact hy k (List.mem_singleton.mp hk).symm⟩
end
section
variable {h : MH} {Q : MV → MH → Prop}
theorem wp_cells {ns : List Int} {k : Nat} (hk : 1 ≤ k ∧ k ≤ 20) (q : ∀ n : Nat, 1 ≤ n → n ≤ k → Q (.lst (rgA 0 n)) h) : Wp (m__law_cells [.scr (ns.map .int), .int k]) h Q := by
  unfold m__law_cells
  rw [wp_def2]
  simp only [wp_sSeq, wp_sExp, wp_sSet, wp_sRet, wp_sIf, wp_sAsg, wp_sFor, wp_sNil, wp_sRetN, wp_sPar, wp_bAnd, wp_bOr, wp_bNot, wp_tst, wp_iff, wp_eAnd, wp_eOr, wp_eNot, wp_chn, wp_bin, wp_una, wp_var, wp_con, wp_aCons, wp_aNil, wp_aStar, atV_zero, atV_succ, asN_nx, asN_rt, asB_bl, asI_int, List.set, List.replicate, retOf, if_true, if_false, Bool.false_eq_true, Bool.not_true, Bool.not_false, wp_gT, wp_gN, wp_gsCons, wp_gsNil, wp_gSub, List.length_cons, List.length_nil, true_and, wipeE, wp_le, wp_lt, wp_gt, wp_ge, wp_sub, wp_add, wp_neg, wp_ix_tup, wp_ix_lst, ix0, ix1, Option.some.injEq, exists_eq_left', wp_len_tup, wp_len_lst, wp_itI_tup, wp_itI_lst, wp_seqI, wp_enumI, wp_zipI, wp_cut_bl, wp_cut_int, wp_cut_non, wp_metL, wp_isL_lst, wp_slE, wp_oSome, wp_oNone, wp_tupD, wp_lstD, wp_newF, wp_is_non, wp_callE (m := lenM), List.length_map, MV.isNon, wp_eq_int, wp_callE, wp_rgE, wp_len_scr, wp_min2, wp_max2]
  generalize hM : (if (if ((ns.length : Nat) : Int) < k then ((ns.length : Nat) : Int) else k) > 1 then (if ((ns.length : Nat) : Int) < k then ((ns.length : Nat) : Int) else k) else (1 : Int)) = n
  have hn : 1 ≤ n ∧ n ≤ k := by
    rw [← hM]
    split <;> split <;> omega
  have ok : rgOk 0 n = true := by unfold rgOk; simp; omega
  unfold rgF
  rw [if_pos ok]
  simp only [wp_newF]
  have e : n = ((n.toNat : Nat) : Int) := by omega
  rw [e, wp_cut0]
  · exact q _ (by omega) (by omega)
  · refine free_lst ?_
    have : ∀ l : List Nat, MV.freeAll (l.map fun i : Nat => MV.int ((0 : Int) + (i : Nat))) = true := by
      intro l
      induction l with
      | nil => rfl
      | cons a l ih => simp only [List.map_cons, MV.freeAll, MV.free, ih]; rfl
    exact this _
end
section
variable {h : MH} {Q : MV → MH → Prop}
structure Ex {A : Type} (m : M A) (h : MH) (c : Nat) (v : MV) : Prop where
  run : m h = .exn c v h
end
section
variable {h : MH} {c : Nat} {v : MV} {env env' : Ev}
theorem ex_callE {m : List MV → M MV} {a : AM} {as : List MV} (ha : Wp (a env) h fun xs h1 => xs = as ∧ h1 = h) (e : Ex (m as) h c v) : Ex (callE m a env) h c v := by
  obtain ⟨x, h1, e1, rfl, rfl⟩ := ha.ok
  exact ⟨by show M.bind (a env) m h1 = _; unfold M.bind; rw [e1]; exact e.run⟩
theorem ex_exp {me : EM} (e : Ex (me env) h c v) : Ex (sExp me env) h c v := ⟨by unfold sExp M.bind; rw [e.run]⟩
theorem ex_seq1 {a b : SM} (e : Ex (a env) h c v) : Ex (sSeq a b env) h c v := ⟨by unfold sSeq M.bind; rw [e.run]⟩
theorem ex_seq2 {a b : SM} (ha : Wp (a env) h fun f h1 => f = .nx env' ∧ h1 = h) (e : Ex (b env') h c v) : Ex (sSeq a b env) h c v := by
  obtain ⟨x, h1, e1, rfl, rfl⟩ := ha.ok
  exact ⟨by unfold sSeq M.bind; rw [e1]; exact e.run⟩
theorem ex_if {t : BM} {a b : SM} (ht : Wp (t env) h fun d h1 => d = true ∧ h1 = h) (e : Ex (a env) h c v) : Ex (sIf t a b env) h c v := by
  obtain ⟨x, h1, e1, rfl, rfl⟩ := ht.ok
  exact ⟨by unfold sIf M.bind; rw [e1]; exact e.run⟩
theorem ex_raise {me : EM} (he : Wp (me env) h fun x h1 => x = v ∧ h1 = h) : Ex (sRaise c me env) h c v := by
  obtain ⟨x, h1, e1, rfl, rfl⟩ := he.ok
  exact ⟨by unfold sRaise M.bind; rw [e1]⟩
theorem ex_def {ar sl : Nat} {b : SM} {as : List MV} (hl : as.length = ar) (f : v.free = true) (e : Ex (b (as.map some ++ List.replicate (sl - as.length) none)) h c v) : Ex (defM ar sl b as) h c v := by
  refine ⟨?_⟩
  unfold defM cutX M.bind
  rw [if_pos hl, e.run]
  simp only [f, if_true, List.take_length]
theorem wp_heard {Q : MV → MH → Prop} {n k : Nat} {ms : List EM} {mk : EM} (ml : ms[k]? = some mk) (e : Ex (mk env) h c v) (hc : c < n) (q : Q (.tup [.err c v, .non]) h) : Wp (heardE n ms (lamE k) env) h Q := by
  refine .of (a := .tup [.err c v, .non]) (h' := h) ?_ q
  unfold heardE lamE M.bind
  simp only [ml]
  unfold hear
  rw [e.run]
  simp only [hc, if_true]
theorem ex_callV {i k : Nat} {ms : List (List MV → M MV)} {mk : List MV → M MV} {a : AM} {as : List MV} (hv : Wp (var i env) h fun x h1 => x = .fn k ∧ h1 = h) (ml : ms[k]? = some mk) (ha : Wp (a env) h fun xs h1 => xs = as ∧ h1 = h) (e : Ex (mk as) h c v) : Ex (callV i ms a env) h c v := by
  obtain ⟨x, h1, e1, rfl, rfl⟩ := hv.ok
  obtain ⟨x, h2, e2, rfl, rfl⟩ := ha.ok
  refine ⟨?_⟩
  unfold callV M.bind
  rw [e1]
  simp only [ml, e2]
  exact e.run
theorem wp_defL {Q : MV → MH → Prop} {ar sl : Nat} {b : SM} {as : List MV} (hl : as.length = ar) (f1 : MV.noLs as = true) (f2 : noLH h = true) (q : Wp (b (as.map some ++ List.replicate (sl - as.length) none)) h fun f h1 => (retOf f).free = true ∧ noLH (h1.take h.length) = true ∧ Q (retOf f) (h1.take h.length)) : Wp (defL ar sl b as) h Q := by
  obtain ⟨f, h1, e, q1, q2, q3⟩ := q.ok
  refine .of (a := retOf f) (h' := h1.take h.length) ?_ q3
  unfold defL
  rw [if_pos ⟨hl, f1, f2⟩, e]
  simp only [q1, q2, and_self, if_true]
theorem wp_isE {Q : MV → MH → Prop} {subs : List Bool} {b : Bool} (e : subs[c]? = some b) : Wp (isEM subs (.err c v)) h Q ↔ Q (.bl b) h := by
  unfold isEM
  simp only [e]
  exact wp_pure
theorem wp_errV {Q : MV → MH → Prop} : Wp (errV (.err c v)) h Q ↔ Q v h := wp_pure
theorem noLH_set {i : Nat} {x : Option MObj} : ∀ {h : MH}, noLH h = true → noLO x = true → noLH (h.set i x) = true := by
  induction i with
  | zero =>
    intro h hh hx
    cases h with
    | nil => exact hh
    | cons a r =>
      unfold noLH at hh ⊢
      rw [List.set_cons_zero, List.all_cons, hx]
      rw [List.all_cons, Bool.and_eq_true] at hh
      rw [hh.2]; rfl
  | succ i ih =>
    intro h hh hx
    cases h with
    | nil => exact hh
    | cons a r =>
      unfold noLH at hh ⊢
      rw [List.all_cons, Bool.and_eq_true] at hh
      rw [List.set_cons_succ, List.all_cons, hh.1]
      exact ih (h := r) hh.2 hx
theorem noLH_app {a b : MH} : noLH (a ++ b) = (noLH a && noLH b) := by unfold noLH; exact List.all_append
theorem noLO_free {xs : List MV} (f : MV.freeAll xs = true) : noLO (some (.lst xs)) = true := MV.freeAll_noL xs f
end
section
variable {h : MH} {Q : MV → MH → Prop} {o : List Int} {m : List (Int × Int)} {w : Int} {S : List Int} {c : Nat} {x g v : MV}
def NoMap (x : MV) : Prop := ∀ (h : MH) (Q : MV → MH → Prop), Q (.bl false) h → Wp (m_is_map [x]) h Q
theorem ex_map (f : x.free = true) (b : NoMap x) : Ex (m_check_map [x]) h 1 x := by
  unfold m_check_map
  refine ex_def rfl f (ex_if ?_ (ex_raise ?_))
  · simp only [wp_bNot, wp_tst, wp_callE, wp_aCons, wp_aNil, wp_var, List.map_cons, List.cons_append, atV_zero]
    refine b _ _ ?_
    simp only [asB_bl, Bool.not_false, and_self]
  · simp only [wp_var, List.map_cons, List.cons_append, atV_zero, and_self]
theorem noMap_flat (c : noC x) (e : isTup x 2 2 = false) : NoMap x := fun h Q q => by
  unfold m_is_map
  rw [wp_def1]
  simp only [wp_sSeq, wp_sIf, wp_bOr, wp_bNot, wp_tst, wp_callE, wp_aCons, wp_aNil, wp_var, wp_con, List.replicate, atV_zero, wp_is_tuple c, e, asB_bl, Bool.not_false, if_true, wp_sRet, asN_rt, retOf, wp_cut_bl]
  exact q
theorem noMap_odd : NoMap (.tup [.tup [.int 0], .tup []]) := fun h Q q => by
  unfold m_is_map
  rw [wp_def1]
  simp only [wp_sSeq, wp_sIf, wp_bOr, wp_bNot, wp_tst, wp_callE (m := m_is_tuple), wp_aCons, wp_aNil, wp_var, wp_con, wp_bin, wp_ix_tup, ix0, Option.some.injEq, exists_eq_left', List.replicate, atV_zero, wp_is_tuple noC_tup, isTup, List.length_cons, List.length_nil, asB_bl]
  simp only [wp_sAsg, wp_var, atV_zero, wp_gT, List.length_cons, List.length_nil, true_and, wp_gsCons, wp_gN, wp_gsNil, List.set, wp_sNil, asN_nx, wp_sSeq, wp_sIf, wp_bOr, wp_bNot, wp_tst, Bool.false_eq_true, if_false, show (!(decide ((2 : Int) ≤ ((0 + 1 + 1 : Nat) : Int)) && decide (((0 + 1 + 1 : Nat) : Int) ≤ (2 : Int)))) = false by decide, show (!(decide ((1 : Int) ≤ ((0 + 1 : Nat) : Int)) && decide (((0 + 1 : Nat) : Int) ≤ (12 : Int)))) = false by decide]
  refine wp_bCmpC (F := fun bs => bs.all id) [0] .int (fun _ => true) ?_ (by decide) (fun x hx t => ?_) ?_
  · simp only [wp_sSeq, wp_sExp, wp_sSet, wp_sRet, wp_sIf, wp_sAsg, wp_sFor, wp_sNil, wp_sRetN, wp_sPar, wp_bAnd, wp_bOr, wp_bNot, wp_tst, wp_iff, wp_eAnd, wp_eOr, wp_eNot, wp_chn, wp_bin, wp_una, wp_var, wp_con, wp_aCons, wp_aNil, wp_aStar, atV_zero, atV_succ, asN_nx, asN_rt, asB_bl, asI_int, List.set, List.replicate, retOf, if_true, if_false, Bool.false_eq_true, Bool.not_true, Bool.not_false, wp_gT, wp_gN, wp_gsCons, wp_gsNil, wp_gSub, List.length_cons, List.length_nil, true_and, wipeE, wp_le, wp_lt, wp_gt, wp_ge, wp_sub, wp_add, wp_neg, wp_ix_tup, wp_ix_lst, ix0, ix1, Option.some.injEq, exists_eq_left', wp_len_tup, wp_len_lst, wp_itI_tup, wp_itI_lst, wp_seqI, wp_enumI, wp_zipI, wp_cut_bl, wp_cut_int, wp_cut_non, wp_metL, wp_isL_lst, wp_slE, wp_oSome, wp_oNone, wp_tupD, wp_lstD, wp_newF, wp_is_non, wp_callE, List.length_map, MV.isNon, wp_eq_int, wp_bYes, wp_bIff, wp_sPar3, wp_rgE, wp_newT, wp_itS_lst, wp_itS_tup, and_self, exists_eq_left, sized_nil]
    exact ⟨rfl, trivial⟩
  · have hx : x = 0 := by simpa using hx
    subst hx
    simp only [wp_gN, wipeE, List.set, wp_callE, wp_aCons, wp_aNil, wp_var, atV_zero, atV_succ, wp_con, wp_is_integer noC_int, isInt]
    exact ⟨trivial, rfl⟩
  · simp only [asB_bl, List.map_cons, List.map_nil, List.all_cons, List.all_nil, id, Bool.and_self, Bool.not_true, Bool.false_eq_true, if_false, wp_callE, wp_aCons, wp_aNil, wp_var, wp_con, atV_zero, atV_succ, wp_is_tuple (noC_tup (p := [])), isTup, List.length_nil, show (!(decide ((1 : Int) ≤ ((0 : Nat) : Int)) && decide (((0 : Nat) : Int) ≤ (60 : Int)))) = true by decide, if_true, wp_sRet, asN_rt, retOf, wp_cut_bl]
    exact q
end
section
variable {h : MH} {Q : MV → MH → Prop} {o : List Int} {m : List (Int × Int)} {w : Int} {S : List Int} {c : Nat} {x g v : MV}
def RepOk (v : MV) : Prop := ∃ s : Str, ∀ (h : MH) (Q : MV → MH → Prop), Wp (reprM [v]) h Q ↔ Q (.str s) h
theorem repOk_of {v : MV} (hp : pull v = M.pure v) (c : (SeqAt.shaped v.dat && v.dat.showable && !v.dat.hasDict && decide (v.dat.depth ≤ 60) && decide (v.dat.shown.length ≤ sizeLine)) = true) : RepOk v := by
  refine ⟨v.dat.shown, fun h Q => ?_⟩
  show Wp ((pull v).bind fun x => if SeqAt.shaped x.dat && x.dat.showable && !x.dat.hasDict && decide (x.dat.depth ≤ 60) && decide (x.dat.shown.length ≤ sizeLine) then M.pure (.str x.dat.shown) else M.stuck) h Q ↔ _
  rw [hp, wp_bind, wp_pure]
  simp only [c, if_true, wp_pure]
theorem rep_small : ∀ v ∈ [MV.non, .int 7, .tup [.tup [.int 0], .tup []], .int 2, .int (-1), .bl true, .str "0", .tup [.int 0], .int 0, .lst [.int 0], .tup [.int (-1)], .tup [.int 0, .int 0], .tup [.bl true], .tup [.int 1], .tup [.int 2], .tup [.int 3], .tup [.int 4], .tup [.int 5], .tup [.int 6], .tup [.int 7], .tup [.int 8], .tup [.int 9], .tup [.int 10], .tup [.int 11], .tup [.int 12]], (SeqAt.shaped v.dat && v.dat.showable && !v.dat.hasDict && decide (v.dat.depth ≤ 60) && decide (v.dat.shown.length ≤ sizeLine)) = true := by decide +kernel
structure OddP (x : MV) : Prop where
  f : x.free = true
  b : NoMap x
  r : RepOk x
structure RogP (x : MV) : Prop where
  f : x.free = true
  b : isInt x 0 1 = false
  r : RepOk x
theorem odd_all : ∀ x ∈ [MV.non, .int 7, .tup [.tup [.int 0], .tup []]], OddP x := fun x hx => by
  simp only [List.mem_cons, List.not_mem_nil, or_false] at hx
  rcases hx with rfl | rfl | rfl
  · exact ⟨rfl, noMap_flat (free_noC rfl) rfl, repOk_of rfl (rep_small _ (by simp))⟩
  · exact ⟨rfl, noMap_flat (free_noC rfl) rfl, repOk_of rfl (rep_small _ (by simp))⟩
  · exact ⟨rfl, noMap_odd, repOk_of rfl (rep_small _ (by simp))⟩
theorem rog_all : ∀ x ∈ [MV.int 2, .int (-1), .bl true, .non, .str "0", .tup [.int 0]], RogP x := fun x hx => by
  simp only [List.mem_cons, List.not_mem_nil, or_false] at hx
  rcases hx with rfl | rfl | rfl | rfl | rfl | rfl <;> exact ⟨rfl, rfl, repOk_of rfl (rep_small _ (by simp))⟩
theorem sh_words : ∀ s ∈ [("map" : Str), "player", "places"], Sh (.lst [.str s]) 1 := fun s hs => by
  simp only [List.mem_cons, List.not_mem_nil, or_false] at hs
  rcases hs with rfl | rfl | rfl <;> exact ⟨by decide +kernel, by decide +kernel⟩
end
section
variable {h : MH} {Q : MV → MH → Prop} {o : List Int} {m : List (Int × Int)} {c : Nat} {v : MV}
theorem wp_eqW {neg : Bool} {s : Str} (hs : s ∈ [("map" : Str), "player", "places"]) : Wp (eqM neg (.lst [.str s]) (.lst [.str s])) h Q ↔ Q (.bl (!neg)) h := wp_eq_same (fun _ e => by cases e) (sh_words s hs) (by decide)
theorem wp_sameR {neg : Bool} {v : MV} (r : RepOk v) (q : Q (.bl (!neg)) h) : Wp (reprM [v]) h fun x h1 => Wp (reprM [v]) h1 fun y h2 => Wp (eqS neg x y) h2 Q := by
  obtain ⟨s, r⟩ := r
  rw [r, r]
  show Wp (M.pure _) h Q
  rw [wp_pure]
  simpa using q
end
section
variable {h : MH} {Q : MV → MH → Prop} {o : List Int} {m : List (Int × Int)} {w : Int} {S Z : List Int} {c : Nat} {v : MV} {env : Ev}
theorem wp_heardV {n k : Nat} {ms : List EM} {mk me : EM} (hm : Wp (me env) h fun x h1 => x = .lam k ∧ h1 = h) (ml : ms[k]? = some mk) (e : Ex (mk env) h c v) (hc : c < n) (q : Q (.tup [.err c v, .non]) h) : Wp (heardE n ms me env) h Q := by
  obtain ⟨x, h1, e1, rfl, rfl⟩ := hm.ok
  refine .of (a := .tup [.err c v, .non]) (h' := h1) ?_ q
  unfold heardE M.bind
  rw [e1]
  simp only [ml]
  unfold hear
  rw [e.run]
  simp only [hc, if_true]
theorem wp_appD {i : Nat} {xs : List MV} {y : MV} (c : cellL h i xs) (f : MV.cfAll (xs ++ [y]) = true) (l : xs.length < sizeLine) : Wp (appM (.cell i) [y]) h Q ↔ Q .non (h.set i (some (.lst (xs ++ [y])))) := by
  show Wp ((readC i).bind fun xs => if xs.length < sizeLine then (setC i (xs ++ [y])).bind fun _ => M.pure .non else M.stuck) h Q ↔ _
  rw [wp_bind, wp_readC c, wp_ite, if_pos l, wp_bind, wp_setD c f (by simp; omega), wp_pure]
abbrev caseV (a : Nat × Str × MV × Nat) : MV := .tup [.lam a.1, .str a.2.1, a.2.2.1]
theorem frz_case {a : Nat × Str × MV × Nat} (f : a.2.2.1.free = true) : frz 2 (caseV a) h = .ok (caseV a) h := by
  have e := frz_free 1 a.2.2.1 h f
  show M.bind (mapF (frz 1) [.lam a.1, .str a.2.1, a.2.2.1]) (fun ys => M.pure (MV.tup ys)) h = _
  simp only [mapF, M.bind, M.pure, frz, e]
theorem mapF_cases : ∀ {l : List (Nat × Str × MV × Nat)}, (∀ a ∈ l, a.2.2.1.free = true) → mapF (frz 2) (l.map caseV) h = .ok (l.map caseV) h
  | [], _ => rfl
  | a :: l, f => by
    rw [List.map_cons]
    simp only [mapF, M.bind, frz_case (f a (by simp)), mapF_cases (fun b hb => f b (List.mem_cons_of_mem _ hb)), M.pure]
theorem wp_frz_cases {i : Nat} {l : List (Nat × Str × MV × Nat)} (c : cellL h i (l.map caseV)) (f : ∀ a ∈ l, a.2.2.1.free = true) (q : Q (.lst (l.map caseV)) (h.set i none)) : Wp (frz 3 (.cell i)) h Q := by
  show Wp ((readC i).bind fun xs => (mapF (frz 2) xs).bind fun ys => dropC i ys) h Q
  rw [wp_bind, wp_readC c, wp_bind]
  refine .of (mapF_cases f) ?_
  simp only [wpR]; unfold WpR dropC
  rw [show h[i]? = some (some (.lst (l.map caseV))) from c]
  exact q
theorem cf_case {a : Nat × Str × MV × Nat} (f : a.2.2.1.free = true) : (caseV a).cf = true := by
  simp only [MV.cf, MV.cfAll, MV.free_cf _ f, Bool.and_self]
theorem cf_cases : ∀ {l : List (Nat × Str × MV × Nat)}, (∀ a ∈ l, a.2.2.1.free = true) → MV.cfAll (l.map caseV) = true
  | [], _ => rfl
  | a :: l, f => by
    rw [List.map_cons]
    have h1 := cf_case (f a (by simp))
    have h2 := cf_cases (l := l) fun b hb => f b (List.mem_cons_of_mem _ hb)
    unfold MV.cfAll
    rw [h1, h2]; rfl
theorem plc_none {n : Nat} : Plc n [] := ⟨.nil, fun x hx => by simp at hx⟩
end
section
variable {h : MH} {Q : MV → MH → Prop}
theorem gd_tupN {D W n : Nat} {xs : List MV} (l : xs.length ≤ n) (f : ∀ x ∈ xs, Gd D W x) : Gd (D + 1) (n * (W + 1)) (.tup xs) := by
  obtain ⟨h1, h2, h3, h4, h5, h6⟩ := gd_all f
  have : xs.length * (W + 1) ≤ n * (W + 1) := Nat.mul_le_mul_right _ l
  refine ⟨by simpa only [MV.free] using h1, by simpa only [MV.dat, PyData.canLay0] using h2, ?_, ?_, by simpa only [MV.dat, PyData.intsShort] using h5, by simpa only [MV.dat, PyData.showable] using h6⟩
  · simp only [MV.dat, PyData.depth]; omega
  · simp only [MV.dat, PyData.weight]; omega
theorem gd_row {l : List (Option Int)} (n12 : l.length ≤ 12) (b : BdO (10 ^ 12) l) : Gd 1 (12 * 81) (.tup (l.map oV)) := by
  refine gd_tupN (D := 0) (W := 80) (by rw [List.length_map]; exact n12) fun x hx => ?_
  obtain ⟨y, hy, rfl⟩ := List.mem_map.mp hx
  cases y with
  | none => exact gd_non
  | some i => exact gd_int (Nat.lt_trans (b i hy) (by decide)) (Nat.le_refl _)
theorem gd_told {A B C : List (Option Int)} (a : A.length ≤ 12 ∧ BdO (10 ^ 12) A) (b : B.length ≤ 12 ∧ BdO (10 ^ 12) B) (c : C.length ≤ 12 ∧ BdO (10 ^ 12) C) : Gd 2 (3 * (12 * 81 + 1)) (.tup [.tup (A.map oV), .tup (B.map oV), .tup (C.map oV)]) := by
  refine gd_tupN (by simp) fun x hx => ?_
  simp only [List.mem_cons, List.not_mem_nil, or_false] at hx
  rcases hx with rfl | rfl | rfl
  · exact gd_row a.1 a.2
  · exact gd_row b.1 b.2
  · exact gd_row c.1 c.2
end
section
variable {h : MH} {Q : MV → MH → Prop} {o : List Int} {m : List (Int × Int)} {env : Ev}
theorem wp_lamE {k : Nat} : Wp (lamE k env) h Q ↔ Q (.lam k) h := by
  simp only [wpR]; exact Iff.rfl
theorem app_step {l : List (Nat × Str × MV × Nat)} {a : Nat × Str × MV × Nat} (f : ∀ b ∈ l ++ [a], b.2.2.1.free = true) (few : l.length < 100) (q : Q .non (h ++ [some (.lst ((l ++ [a]).map caseV))])) : Wp (appM (.cell h.length) [caseV a]) (h ++ [some (.lst (l.map caseV))]) Q := by
  have c := cellL_at (h1 := h) (xs := l.map caseV) (tl := [])
  have e : l.map caseV ++ [caseV a] = (l ++ [a]).map caseV := by rw [List.map_append]; rfl
  rw [wp_appD c (by rw [e]; exact cf_cases f) (sl_lt (by rw [List.length_map]; omega)), set_end, e]
  exact q
end
end Lw

set_option Elab.async false
set_option linter.all false
set_option maxRecDepth 100000
set_option maxHeartbeats 4000000
namespace Lw
open PySem PySem.Spec PyProof.Rows L2 Mi
section
variable {h : MH} {Q : MV → MH → Prop}
theorem nodup_le : ∀ {l r : List Int}, l.Nodup → (∀ x ∈ l, x ∈ r) → l.length ≤ r.length
  | [], _, _, _ => by simp
  | a :: l, r, nd, h => by
    have nd' := List.nodup_cons.mp nd
    have ha := h a (by simp)
    have ih := nodup_le (l := l) (r := r.erase a) nd'.2 fun x hx => (List.mem_erase_of_ne (fun (e : x = a) => nd'.1 (by rw [← e]; exact hx))).mpr (h x (List.mem_cons_of_mem _ hx))
    rw [List.length_erase_of_mem ha] at ih
    have : 0 < r.length := List.length_pos_of_mem ha
    rw [List.length_cons]; omega
theorem nodup_rng {l : List Int} {n : Nat} (nd : l.Nodup) (r : ∀ x ∈ l, 0 ≤ x ∧ x < n) : l.length ≤ n := by
  have := nodup_le (r := (List.range n).map fun i : Nat => (i : Int)) nd fun x hx => List.mem_map.mpr ⟨x.toNat, List.mem_range.mpr (by have := r x hx; omega), by have := r x hx; omega⟩
  simpa using this
theorem at_last {r : List Int} {x : Int} : atI ((r ++ [x]).map MV.int) (-1) = some (.int x) := by
  have e : ixN ((r ++ [x]).map MV.int).length (-1) = some r.length := by
    unfold ixN
    simp
    omega
  unfold atI
  rw [e]
  simp
theorem wp_cnt_cell {i : Nat} {l : List Int} {j : Int} (c : cellL h i (l.map .int)) : Wp (cntM (.cell i) [.int j]) h Q ↔ Q (.int (l.count j : Nat)) h := by
  show Wp ((itemsL (.cell i)).bind fun xs => match intsOf xs with | some ns => M.pure (.int (ns.count j : Nat)) | none => M.stuck) h Q ↔ _
  rw [wp_bind, wp_itL_cell c]; simp only [intsOf_map, wp_pure]
theorem findD_has {x : Int} : ∀ {l : List Int} {k : Nat}, x ∈ l → ∃ j, findD (MV.int x).dat (MV.datAll (l.map .int)) k = some j
  | [], _, h => by simp at h
  | a :: l, k, h => by
    rw [List.map_cons]
    unfold MV.datAll findD
    by_cases c : PyData.eqv (MV.int a).dat (MV.int x).dat = true
    · exact ⟨k, by rw [if_pos c]⟩
    · rw [if_neg c]
      refine findD_has ?_
      rcases List.mem_cons.mp h with rfl | h
      · exact absurd (by simp [MV.dat, PyData.eqv]) c
      · exact h
theorem wp_idx_cell {i : Nat} {l : List Int} {x : Int} {j : Nat} (c : cellL h i (l.map .int)) (e : findD (MV.int x).dat (MV.datAll (l.map .int)) 0 = some j) : Wp (idxM (.cell i) [.int x]) h Q ↔ Q (.int (j : Nat)) h := by
  show Wp ((itemsL (.cell i)).bind fun xs => if SeqAt.shaped (.list (MV.datAll xs)) && SeqAt.shaped (MV.int x).dat then (match findD (MV.int x).dat (MV.datAll xs) 0 with | some j => M.pure (.int (j : Nat)) | none => M.stuck) else M.stuck) h Q ↔ _
  have s : Sh (.lst (l.map .int)) 1 := sh_lst fun v hv => by obtain ⟨y, _, rfl⟩ := List.mem_map.mp hv; exact sh_int
  have s1 : SeqAt.shaped (.list (MV.datAll (l.map .int))) = true := by
    unfold SeqAt.shaped
    rw [Bool.and_eq_true]
    exact ⟨s.1, decide_eq_true (Nat.le_trans s.2 (by decide))⟩
  have s2 : SeqAt.shaped (MV.int x).dat = true := rfl
  rw [wp_bind, wp_itL_cell c, s1, s2]
  simp only [Bool.and_self, if_true, e, wp_pure]
/-- a play that goes on as f says, till a place is come to anew -/
def tw (f : Int → Int) : Nat → List Int → Int → List Int
  | 0, r, x => r ++ [x]
  | k + 1, r, x => if r.contains x then r ++ [x] else tw f k (r ++ [x]) (f x)
theorem tw_spec {f : Int → Int} {n : Nat} (hf : ∀ x : Int, 0 ≤ x ∧ x < n → 0 ≤ f x ∧ f x < n) : ∀ (k : Nat) (r : List Int) (x : Int), (∀ y ∈ r, 0 ≤ y ∧ y < n) → (0 ≤ x ∧ x < n) → ∃ (r' : List Int) (y : Int), tw f k r x = r' ++ [y] ∧ r'.length ≤ r.length + k ∧ ∀ z ∈ r' ++ [y], 0 ≤ z ∧ z < n
  | 0, r, x, hr, hx => ⟨r, x, rfl, by omega, fun z hz => by
    rcases List.mem_append.mp hz with hz | hz
    · exact hr z hz
    · rw [List.mem_singleton.mp hz]; exact hx⟩
  | k + 1, r, x, hr, hx => by
    have all : ∀ z ∈ r ++ [x], 0 ≤ z ∧ z < n := fun z hz => by
      rcases List.mem_append.mp hz with hz | hz
      · exact hr z hz
      · rw [List.mem_singleton.mp hz]; exact hx
    unfold tw
    split
    · exact ⟨r, x, rfl, by omega, all⟩
    · obtain ⟨r', y, e, l, g⟩ := tw_spec hf k (r ++ [x]) (f x) all (hf x hx)
      rw [List.length_append, List.length_singleton] at l
      exact ⟨r', y, e, by omega, g⟩
def twC : BM := tst (bin (eqM false) (metL cntM (var 4) (aCons (bin ixM (var 4) (una negM (con (.int 1)))) aNil)) (con (.int 1)))
theorem tw_loop {f : Int → Int} {e : EM} {n : Nat} {a0 a1 a2 a3 a5 : Option MV} {p : Int} {Qf : Fl → MH → Prop} (n12 : n ≤ 12) (hf : ∀ x : Int, 0 ≤ x ∧ x < n → 0 ≤ f x ∧ f x < n) (hp : 0 ≤ p ∧ p < n)
    (he : ∀ (r : List Int) (x : Int) (P : MV → MH → Prop), 0 ≤ x ∧ x < n → P (.int (f x)) (h ++ [some (.lst ((r ++ [x]).map .int))]) → Wp (e [a0, a1, a2, a3, some (.cell h.length), a5]) (h ++ [some (.lst ((r ++ [x]).map .int))]) P)
    (q : ∀ (r : List Int) (x : Int), r ++ [x] = tw f 14 [] p → r.length ≤ 12 → (∀ y ∈ r ++ [x], 0 ≤ y ∧ y < n) → Qf (.nx [a0, a1, a2, a3, some (.cell h.length), a5]) (h ++ [some (.lst ((r ++ [x]).map .int))])) :
    Wp (whl twC (sExp (metL appM (var 4) (aCons e aNil))) whlMost [a0, a1, a2, a3, some (.cell h.length), a5]) (h ++ [some (.lst [.int p])]) Qf := by
  refine wp_whl (fun mm env h' => ∃ (r : List Int) (x : Int), env = [a0, a1, a2, a3, some (.cell h.length), a5] ∧ h' = h ++ [some (.lst ((r ++ [x]).map .int))] ∧ r.Nodup ∧ (∀ y ∈ r, 0 ≤ y ∧ y < n) ∧ (0 ≤ x ∧ x < n) ∧ tw f (14 - r.length) r x = tw f 14 [] p ∧ mm = 14 - r.length) ?_ whlMost 14 _ _ ?_ ?_
  · rintro mm env h' ⟨r, x, rfl, rfl, nd, hr, hx, et, rfl⟩
    have rl := nodup_rng nd hr
    have c := cellL_at (h1 := h) (xs := (r ++ [x]).map .int) (tl := [])
    obtain ⟨k, ek⟩ : ∃ k, 14 - r.length = k + 1 := ⟨13 - r.length, by omega⟩
    unfold twC
    simp only [wp_tst, wp_bin, wp_metL, wp_var, wp_con, wp_una, wp_neg, wp_aCons, wp_aNil, atV_zero, atV_succ, wp_isL_cell c, wp_ix_cell c, at_last, Option.some.injEq, exists_eq_left', wp_cnt_cell c, wp_eq_int, Bool.false_eq_true, if_false, asB_bl]
    have ec : (((r ++ [x]).count x : Nat) : Int) = (r.count x : Nat) + 1 := by rw [List.count_append]; simp
    rw [ec]
    by_cases m : x ∈ r
    · have : 1 ≤ r.count x := List.one_le_count_iff.mpr m
      rw [if_neg (by simp; omega)]
      rw [ek] at et
      unfold tw at et
      rw [if_pos (by simpa using m)] at et
      refine q r x et (by omega) fun y hy => ?_
      rcases List.mem_append.mp hy with hy | hy
      · exact hr y hy
      · rw [List.mem_singleton.mp hy]; exact hx
    · have : r.count x = 0 := List.count_eq_zero.mpr m
      rw [if_pos (by simp; omega)]
      rw [ek] at et
      unfold tw at et
      rw [if_neg (by simpa using m)] at et
      have nd2 : (r ++ [x]).Nodup := by
        rw [List.nodup_append]
        refine ⟨nd, by simp, fun a ha b hb e => ?_⟩
        rw [List.mem_singleton.mp hb] at e
        exact m (e ▸ ha)
      have hr2 : ∀ y ∈ r ++ [x], 0 ≤ y ∧ y < n := fun y hy => by
        rcases List.mem_append.mp hy with hy | hy
        · exact hr y hy
        · rw [List.mem_singleton.mp hy]; exact hx
      have rl2 := nodup_rng nd2 hr2
      rw [List.length_append, List.length_singleton] at rl2
      simp only [wp_sExp, wp_metL, wp_var, wp_aCons, wp_aNil, atV_zero, atV_succ, wp_isL_cell c]
      refine he r x _ hx ?_
      rw [wp_app c (free_ints _) rfl (sl_lt (by simp; omega)), set_end]
      simp only [asN_nx]
      refine ⟨13 - r.length, by omega, r ++ [x], f x, by simp, by rw [List.map_append (l₁ := r ++ [x])]; rfl, nd2, hr2, hf _ hx, ?_, by simp⟩
      rw [List.length_append, List.length_singleton, show 14 - (r.length + 1) = k by omega]
      exact et
  · unfold whlMost; omega
  · exact ⟨[], p, rfl, rfl, by simp, fun y hy => by simp at hy, hp, rfl, rfl⟩
def twTail : SM := sSeq (sSet 5 (metL idxM (var 4) (aCons (bin ixM (var 4) (una negM (con (.int 1)))) aNil))) (sRet (tupD (aCons (callE tupleM (aCons (slE false (var 4) oNone (oSome (var 5))) aNil)) (aCons (callE tupleM (aCons (slE false (var 4) (oSome (var 5)) (oSome (una negM (con (.int 1))))) aNil)) aNil))))
theorem wp_sl_cell {i : Nat} {xs : List MV} {lo hi : Option Int} (c : cellL h i xs) : Wp (slM false (.cell i) lo hi) h Q ↔ Q (.lst (cutA xs lo hi)) h := by
  show Wp ((itemsL (.cell i)).bind fun xs => newL false (cutA xs lo hi)) h Q ↔ _
  rw [wp_bind, wp_itL_cell c, wp_newF]
theorem cut_mem {xs : List MV} {lo hi : Option Int} {v : MV} (h : v ∈ cutA xs lo hi) : v ∈ xs := List.mem_of_mem_drop (List.mem_of_mem_take h)
theorem tw_tail {n : Nat} (n12 : n ≤ 12) {r : List Int} {x : Int} (few : r.length ≤ 14) (rg : ∀ y ∈ r ++ [x], 0 ≤ y ∧ y < n) : ∃ V : MV, Gd 2 (2 * (15 * 81 + 1)) V ∧ ∀ (h : MH) (a0 a1 a2 a3 a5 : Option MV) (Qf : Fl → MH → Prop), Qf (.rt V) (h ++ [some (.lst ((r ++ [x]).map .int))]) → Wp (twTail [a0, a1, a2, a3, some (.cell h.length), a5]) (h ++ [some (.lst ((r ++ [x]).map .int))]) Qf := by
  obtain ⟨j, ej⟩ := findD_has (x := x) (l := r ++ [x]) (k := 0) (by simp)
  refine ⟨.tup [.tup (cutA ((r ++ [x]).map .int) none (some (j : Nat))), .tup (cutA ((r ++ [x]).map .int) (some (j : Nat)) (some (-1)))], ?_, fun h a0 a1 a2 a3 a5 Qf q => ?_⟩
  · have row : ∀ lo hi, Gd 1 (15 * 81) (.tup (cutA ((r ++ [x]).map .int) lo hi)) := fun lo hi => by
      refine gd_tupN (D := 0) (W := 80) (Nat.le_trans (cutA_len _ _ _) (by simp; omega)) fun v hv => ?_
      obtain ⟨y, hy, rfl⟩ := List.mem_map.mp (cut_mem hv)
      have := rg y hy
      refine gd_int ?_ (Nat.le_refl _)
      have : y.natAbs < 12 := by omega
      exact Nat.lt_trans this (by decide)
    refine gd_tupN (by simp) fun v hv => ?_
    simp only [List.mem_cons, List.not_mem_nil, or_false] at hv
    rcases hv with rfl | rfl
    · exact row _ _
    · exact row _ _
  · have c := cellL_at (h1 := h) (xs := (r ++ [x]).map .int) (tl := [])
    unfold twTail
    simp only [wp_sSeq, wp_sSet, wp_metL, wp_bin, wp_var, wp_con, wp_una, wp_neg, wp_aCons, wp_aNil, atV_zero, atV_succ, wp_isL_cell c, wp_ix_cell c, at_last, Option.some.injEq, exists_eq_left', wp_idx_cell c ej, asN_nx, List.set, wp_sRet, wp_tupD, wp_callE, wp_slE, wp_oNone, wp_oSome, wp_sl_cell c, wp_tuple_lst, asI_int]
    exact ⟨rfl, q⟩
end
end Lw

set_option Elab.async false
set_option linter.all false
set_option maxRecDepth 100000
set_option maxHeartbeats 4000000
namespace Lw
open PySem PySem.Spec PyProof.Rows L2 Mi
section
variable {h : MH} {Q : MV → MH → Prop} {o : List Int} {m : List (Int × Int)} {w : Int} {P P0 P1 : List (Option Int)}
structure PlanR (o : List Int) (m : List (Int × Int)) (w : Int) (P : List (Option Int)) : Prop where
  len : P.length = o.length
  own : ∀ v : Nat, v < o.length → o.getD v 0 = w → ∃ t, look P v = some t ∧ t ∈ waysU m v
  non : ∀ v : Nat, v < o.length → o.getD v 0 ≠ w → look P v = none
theorem planR_ok (p : PlanR o m w P) : planB o m w (.tup (P.map oV)) = true := by
  refine ent_true (by rw [List.length_map, p.len]) fun i x k => ?_
  have hl : i < o.length := by
    have := (List.getElem?_eq_some_iff.mp k).1
    rw [List.length_map, p.len] at this; exact this
  have ex : x = oV (look P i) := by
    have e2 := get_look (F := P) (v := i) (by rw [p.len]; exact hl)
    rw [List.getElem?_map, e2] at k
    exact (Option.some.inj k).symm
  subst ex
  unfold entOk
  by_cases c : o.getD i 0 = w
  · obtain ⟨t, et, ht⟩ := p.own i hl c
    rw [if_pos c, et]
    simpa [oV] using ht
  · rw [if_neg c, p.non i hl c]; rfl
theorem free_plan (P : List (Option Int)) : (MV.tup (P.map oV)).free = true := free_of_tup (free_os P)
theorem wp_check_plan (G : Game o m) (p : PlanR o m w P) (q : Q .non h) : Wp (m_check_plan [gameV o m, .int w, .tup (P.map oV)]) h Q := by
  unfold m_check_plan
  rw [wp_def3]
  simp only [wp_sIf, wp_bNot, wp_tst, wp_callE, wp_aCons, wp_aNil, wp_var, List.replicate, atV_zero, atV_succ]
  refine wp_is_plan_of G (free_plan P) ?_
  simp only [planR_ok p, asB_bl, Bool.not_true, Bool.false_eq_true, if_false, wp_sNil, retOf, wp_cut_non]
  exact q
theorem wp_check_place {x : Int} (hx : 0 ≤ x ∧ x < o.length) (q : Q .non h) : Wp (m_check_place [gameV o m, .int x]) h Q := by
  have e : isInt (.int x) 0 ((o.length : Int) - 1) = true := by simp [isInt]; omega
  unfold m_check_place
  rw [wp_def2]
  simp only [wp_sIf, wp_bNot, wp_tst, wp_callE, wp_aCons, wp_aNil, wp_var, wp_con, wp_bin, List.replicate, atV_zero, atV_succ, gameV, wp_ix_tup, ix0, Option.some.injEq, exists_eq_left', intsV, wp_len_tup, List.length_map, wp_sub, wp_is_integer noC_int, e, asB_bl, Bool.not_true, Bool.false_eq_true, if_false, wp_sNil, retOf, wp_cut_non]
  exact q
def nxF (o : List Int) (P0 P1 : List (Option Int)) (x : Int) : Int := ((if o.getD x.toNat 0 = 0 then look P0 x else look P1 x)).getD 0
theorem nx_ok (G : Game o m) (p0 : PlanR o m 0 P0) (p1 : PlanR o m 1 P1) {u : Nat} (hu : u < o.length) : (o.getD u 0 = 0 → look P0 u = some (nxF o P0 P1 u)) ∧ (¬ o.getD u 0 = 0 → look P1 u = some (nxF o P0 P1 u)) ∧ nxF o P0 P1 u ∈ waysU m u := by
  have e : ((u : Int)).toNat = u := by omega
  unfold nxF
  rw [e]
  by_cases c : o.getD u 0 = 0
  · obtain ⟨t, et, ht⟩ := p0.own u hu c
    rw [if_pos c, et]
    exact ⟨fun _ => rfl, fun z => absurd c z, ht⟩
  · have own : o.getD u 0 = 0 ∨ o.getD u 0 = 1 := G.own _ (List.mem_of_getElem? (ow_at hu))
    obtain ⟨t, et, ht⟩ := p1.own u hu (by omega)
    rw [if_neg c, et]
    exact ⟨fun z => absurd z c, fun _ => rfl, ht⟩
theorem nx_rng (G : Game o m) (p0 : PlanR o m 0 P0) (p1 : PlanR o m 1 P1) (x : Int) (hx : 0 ≤ x ∧ x < o.length) : 0 ≤ nxF o P0 P1 x ∧ nxF o P0 P1 x < o.length := by
  obtain ⟨u, rfl⟩ : ∃ u : Nat, x = (u : Int) := ⟨x.toNat, by omega⟩
  exact waysU_rng G u _ (nx_ok G p0 p1 (by omega)).2.2
theorem at_row {P : List (Option Int)} {u : Nat} (hu : u < P.length) : atI (P.map oV) (u : Int) = some (oV (look P u)) := at_map (get_look hu)
theorem wp_next_of (G : Game o m) (p0 : PlanR o m 0 P0) (p1 : PlanR o m 1 P1) {x : Int} (hx : 0 ≤ x ∧ x < o.length) (q : Q (.int (nxF o P0 P1 x)) h) : Wp (m_next_of [gameV o m, .tup (P0.map oV), .tup (P1.map oV), .int x]) h Q := by
  obtain ⟨u, rfl⟩ : ∃ u : Nat, x = (u : Int) := ⟨x.toNat, by omega⟩
  have hu : u < o.length := by omega
  obtain ⟨h1, h2, _⟩ := nx_ok G p0 p1 hu
  have e0 := at_row (P := P0) (u := u) (by rw [p0.len]; exact hu)
  have e1 := at_row (P := P1) (u := u) (by rw [p1.len]; exact hu)
  unfold m_next_of
  rw [wp_def4]
  simp only [wp_sSeq, wp_sExp, wp_sSet, wp_sRet, wp_sIf, wp_sAsg, wp_sFor, wp_sNil, wp_sRetN, wp_sPar, wp_bAnd, wp_bOr, wp_bNot, wp_tst, wp_iff, wp_eAnd, wp_eOr, wp_eNot, wp_chn, wp_bin, wp_una, wp_var, wp_con, wp_aCons, wp_aNil, wp_aStar, atV_zero, atV_succ, asN_nx, asN_rt, asB_bl, asI_int, List.set, List.replicate, retOf, if_true, if_false, Bool.false_eq_true, Bool.not_true, Bool.not_false, wp_gT, wp_gN, wp_gsCons, wp_gsNil, wp_gSub, List.length_cons, List.length_nil, true_and, wipeE, wp_le, wp_lt, wp_gt, wp_ge, wp_sub, wp_add, wp_neg, wp_ix_tup, wp_ix_lst, ix0, ix1, Option.some.injEq, exists_eq_left', wp_len_tup, wp_len_lst, wp_itI_tup, wp_itI_lst, wp_seqI, wp_enumI, wp_zipI, wp_cut_bl, wp_cut_int, wp_cut_non, wp_metL, wp_isL_lst, wp_slE, wp_oSome, wp_oNone, wp_tupD, wp_lstD, wp_newF, wp_is_non, wp_callE, List.length_map, MV.isNon, wp_eq_int, wp_bYes, wp_bIff, wp_sPar3, wp_rgE, wp_newT, wp_itS_lst, wp_itS_tup, and_self, exists_eq_left, sized_nil, gameV, intsV, at_ints (ow_at hu), e0, e1]
  by_cases c : o.getD u 0 = 0
  · rw [if_pos (by simpa using c), h1 c]
    simp only [oV, wp_cut_int]; exact q
  · rw [if_neg (by simpa using c), h2 c]
    simp only [oV, wp_cut_int]; exact q
/-- what the play of two plans is -/
theorem tw_value (G : Game o m) (p0 : PlanR o m 0 P0) (p1 : PlanR o m 1 P1) {x : Int} (hx : 0 ≤ x ∧ x < o.length) : ∃ V : MV, Gd 2 (2 * (15 * 81 + 1)) V ∧
    (∀ (h : MH) (Q : MV → MH → Prop), Q V h → Wp (m_together [gameV o m, .tup (P0.map oV), .tup (P1.map oV), .int x]) h Q) ∧ (∀ (h : MH) (Q : MV → MH → Prop), Q V h → Wp (m__law_together [gameV o m, .tup (P0.map oV), .tup (P1.map oV), .int x]) h Q) := by
  have o12 := G.o12
  obtain ⟨r0, y0, e0, l0, g0⟩ := tw_spec (n := o.length) (fun z hz => nx_rng G p0 p1 z hz) 14 [] x (fun y hy => by simp at hy) hx
  obtain ⟨V, gV, tl⟩ := tw_tail o12 (by simpa using l0) g0
  refine ⟨V, gV, fun h Q q => ?_, fun h Q q => ?_⟩
  · unfold m_together
    rw [wp_def4]
    rw [wp_sSeq]
    simp only [wp_sExp, wp_callE (m := m_check_map), wp_callE (m := m_check_plan), wp_callE (m := m_check_place), wp_aCons, wp_aNil, wp_var, wp_con, List.replicate, atV_zero, atV_succ]
    refine wp_check_map' G ?_
    try simp only [asN_nx]
    rw [wp_sSeq]
    simp only [wp_sExp, wp_callE (m := m_check_plan), wp_aCons, wp_aNil, wp_var, wp_con, atV_zero, atV_succ]
    refine wp_check_plan G p0 ?_
    try simp only [asN_nx]
    rw [wp_sSeq]
    simp only [wp_sExp, wp_callE (m := m_check_plan), wp_aCons, wp_aNil, wp_var, wp_con, atV_zero, atV_succ]
    refine wp_check_plan G p1 ?_
    try simp only [asN_nx]
    rw [wp_sSeq]
    simp only [wp_sExp, wp_callE (m := m_check_place), wp_aCons, wp_aNil, wp_var, wp_con, atV_zero, atV_succ]
    refine wp_check_place hx ?_
    try simp only [asN_nx]
    rw [wp_sSeq]
    simp only [wp_sSet, wp_lstD, wp_aCons, wp_aNil, wp_newT, wp_var, atV_zero, atV_succ]
    refine ⟨rfl, ?_⟩
    simp only [asN_nx, List.set]
    rw [wp_sSeq]
    refine tw_loop (h := h) (f := nxF o P0 P1) (n := o.length) o12 (fun z hz => nx_rng G p0 p1 z hz) hx (fun r z P hz q => ?_) (fun r y e l g => ?_)
    · have c := cellL_at (h1 := h) (xs := (r ++ [z]).map .int) (tl := [])
      simp only [wp_callE, wp_aCons, wp_aNil, wp_bin, wp_var, wp_con, wp_una, wp_neg, atV_zero, atV_succ, wp_ix_cell c, at_last, Option.some.injEq, exists_eq_left']
      exact wp_next_of G p0 p1 hz q
    · have e2 : r ++ [y] = r0 ++ [y0] := e.trans e0
      rw [e2, asN_nx]
      refine tl h _ _ _ _ _ _ ?_
      simp only [asN_rt, retOf]
      rw [wp_cutv gV.free, take_end]
      exact q
  · unfold m__law_together
    rw [wp_def4]
    rw [wp_sSeq]
    simp only [wp_sSet, wp_lstD, wp_aCons, wp_aNil, wp_newT, wp_var, List.replicate, atV_zero, atV_succ]
    refine ⟨rfl, ?_⟩
    simp only [asN_nx, List.set]
    rw [wp_sSeq]
    refine tw_loop (h := h) (f := nxF o P0 P1) (n := o.length) o12 (fun z hz => nx_rng G p0 p1 z hz) hx (fun r z P hz q => ?_) (fun r y e l g => ?_)
    · have c := cellL_at (h1 := h) (xs := (r ++ [z]).map .int) (tl := [])
      obtain ⟨u, rfl⟩ : ∃ u : Nat, z = (u : Int) := ⟨z.toNat, by omega⟩
      have hu : u < o.length := by omega
      obtain ⟨h1, h2, _⟩ := nx_ok G p0 p1 hu
      have e0 := at_row (P := P0) (u := u) (by rw [p0.len]; exact hu)
      have e1 := at_row (P := P1) (u := u) (by rw [p1.len]; exact hu)
      simp only [wp_iff, wp_tst, wp_bin, wp_var, wp_con, wp_una, wp_neg, atV_zero, atV_succ, wp_ix_cell c, at_last, Option.some.injEq, exists_eq_left', gameV, wp_ix_tup, ix0, intsV, at_ints (ow_at hu), e0, e1, wp_eq_int, Bool.false_eq_true, if_false, asB_bl]
      by_cases k : o.getD u 0 = 0
      · rw [if_pos (by simpa using k), h1 k]; exact q
      · rw [if_neg (by simpa using k), h2 k]; exact q
    · have e2 : r ++ [y] = r0 ++ [y0] := e.trans e0
      rw [e2, asN_nx]
      refine tl h _ _ _ _ _ _ ?_
      simp only [asN_rt, retOf]
      rw [wp_cutv gV.free, take_end]
      exact q
end
end Lw

set_option Elab.async false
set_option linter.all false
set_option maxRecDepth 100000
set_option maxHeartbeats 4000000
namespace Lw
open PySem PySem.Spec PyProof.Rows L2 Mi
section
variable {h : MH} {Q : MV → MH → Prop} {o : List Int} {m : List (Int × Int)} {w : Int} {v : MV}
theorem ints_all {a b : Int} : ∀ {xs : List MV}, (∀ x ∈ xs, isInt x a b = true) → ∃ l : List Int, xs = l.map .int ∧ ∀ y ∈ l, a ≤ y ∧ y ≤ b
  | [], _ => ⟨[], rfl, fun y hy => by simp at hy⟩
  | x :: xs, f => by
    obtain ⟨l, e, g⟩ := ints_all fun y hy => f y (List.mem_cons_of_mem _ hy)
    have hx := f x (by simp)
    cases x with
    | int i =>
      refine ⟨i :: l, by rw [e]; rfl, fun y hy => ?_⟩
      rcases List.mem_cons.mp hy with rfl | hy
      · simpa [isInt] using hx
      · exact g y hy
    | _ => simp [isInt] at hx
theorem link_in (G : Game o m) {l : List Int} (g : ∀ y ∈ l, 0 ≤ y ∧ y ≤ (o.length : Int) - 1) {p : Int × Int} (hp : p ∈ l.zip (l.drop 1)) : ∃ u : Nat, p.1 = (u : Int) ∧ u < o.length := by
  have h1 := (List.of_mem_zip (show (p.1, p.2) ∈ _ from hp)).1
  have := g _ h1
  exact ⟨p.1.toNat, by omega, by omega⟩
theorem map_int_inj : ∀ {l l' : List Int}, l.map MV.int = l'.map MV.int → l = l'
  | [], [], _ => rfl
  | [], _ :: _, h => by simp at h
  | _ :: _, [], h => by simp at h
  | a :: l, b :: l', h => by
    rw [List.map_cons, List.map_cons] at h
    injection h with h1 h2
    injection h1 with h1
    rw [h1, map_int_inj h2]
theorem play_value (G : Game o m) (f : v.free = true) : ∃ b : Bool, (isTup v 1 1000 = false → b = false) ∧ (∀ l : List Int, v = .tup (l.map .int) → isTup v 1 1000 = true → (∀ y ∈ l, 0 ≤ y ∧ y < o.length) → b = ((l.zip (l.drop 1)).map fun p => (waysU m p.1).contains p.2).all id) ∧ (∀ (h : MH) (Q : MV → MH → Prop), Q (.bl b) h → Wp (m_is_play [gameV o m, v]) h Q) ∧ (∀ (h : MH) (Q : MV → MH → Prop), Q (.bl b) h → Wp (m__law_is_play [gameV o m, v]) h Q) := by
  have o12 := G.o12
  have c := free_noC f
  by_cases t : isTup v 1 1000 = true
  case neg =>
    have t : isTup v 1 1000 = false := by simpa using t
    refine ⟨false, fun _ => rfl, fun l e z => (by rw [t] at z; cases z), fun h Q q => ?_, fun h Q q => ?_⟩
    · unfold m_is_play
      rw [wp_def2]
      simp only [wp_sSeq, wp_sExp, wp_sIf, wp_bOr, wp_bNot, wp_tst, wp_callE, wp_aCons, wp_aNil, wp_var, wp_con, List.replicate, atV_zero, atV_succ]
      refine wp_check_map' G ?_
      simp only [asN_nx, wp_sSeq, wp_sIf, wp_bOr, wp_bNot, wp_tst, wp_callE, wp_aCons, wp_aNil, wp_var, wp_con, atV_zero, atV_succ, wp_is_tuple c, t, asB_bl, Bool.not_false, if_true, wp_sRet, asN_rt, retOf, wp_cut_bl]
      exact q
    · unfold m__law_is_play
      rw [wp_def2]
      simp only [wp_sSeq, wp_sIf, wp_bOr, wp_bNot, wp_tst, wp_una, wp_var, wp_con, List.replicate, atV_zero, atV_succ, wp_isT c, tup_dat, asB_bl]
      cases v with
      | tup xs =>
        simp only [isTupB, Bool.not_true, Bool.false_eq_true, if_false, wp_chn, wp_con, wp_callE, wp_aCons, wp_aNil, wp_var, atV_zero, atV_succ, wp_len_tup, wp_le, asB_bl]
        simp only [isTup] at t
        by_cases k : (1 : Int) ≤ (xs.length : Int)
        · rw [decide_eq_true k, Bool.true_and] at t
          simp only [k, decide_true, if_true, wp_con, wp_le, t, asB_bl, Bool.not_false, wp_sRet, asN_rt, retOf, wp_cut_bl]
          exact q
        · simp only [k, decide_false, Bool.false_eq_true, if_false, asB_bl, Bool.not_false, if_true, wp_sRet, wp_con, asN_rt, retOf, wp_cut_bl]
          exact q
      | _ =>
        simp only [isTupB, Bool.not_false, if_true, wp_sRet, wp_con, asN_rt, retOf, wp_cut_bl]
        exact q
  obtain ⟨xs, rfl, l1, l2⟩ : ∃ xs, v = .tup xs ∧ (1 : Int) ≤ (xs.length : Int) ∧ (xs.length : Int) ≤ 1000 := by
    cases v with
    | tup xs =>
      simp only [isTup, Bool.and_eq_true, decide_eq_true_eq] at t
      exact ⟨xs, rfl, t⟩
    | _ => simp [isTup] at t
  have fx : MV.freeAll xs = true := by simpa only [MV.free] using f
  have cx : ∀ x ∈ xs, noC x := fun x hx => free_noC (mem_freeAll fx x hx)
  generalize hA : ((xs.map fun x => isInt x 0 ((o.length : Int) - 1)).all id) = A
  have one : ∀ (h : MH) (P : MV → MH → Prop) (k1 k2 k3 k4 : Option MV), P (.bl A) h → Wp (callE allM (aCons (comp false (seqI (var 1)) (gN 3) bYes (callE m_is_integer (aCons (var 3) (aCons (con (.int 0)) (aCons (bin subM (callE lenM (aCons (bin ixM (var 0) (con (.int 0))) aNil)) (con (.int 1))) aNil)))) [3]) aNil) [some (gameV o m), some (.tup xs), k1, k2, k3, k4]) h P := fun h P k1 k2 k3 k4 q => by
    refine wp_bCmpC (F := fun bs => bs.all id) xs id (fun x => isInt x 0 ((o.length : Int) - 1)) ?_ (by omega) (fun x hx t => ?_) (by rw [hA]; exact q)
    · simp only [wp_sSeq, wp_sExp, wp_sSet, wp_sRet, wp_sIf, wp_sAsg, wp_sFor, wp_sNil, wp_sRetN, wp_sPar, wp_bAnd, wp_bOr, wp_bNot, wp_tst, wp_iff, wp_eAnd, wp_eOr, wp_eNot, wp_chn, wp_bin, wp_una, wp_var, wp_con, wp_aCons, wp_aNil, wp_aStar, atV_zero, atV_succ, asN_nx, asN_rt, asB_bl, asI_int, List.set, List.replicate, retOf, if_true, if_false, Bool.false_eq_true, Bool.not_true, Bool.not_false, wp_gT, wp_gN, wp_gsCons, wp_gsNil, wp_gSub, List.length_cons, List.length_nil, true_and, wipeE, wp_le, wp_lt, wp_gt, wp_ge, wp_sub, wp_add, wp_neg, wp_ix_tup, wp_ix_lst, ix0, ix1, Option.some.injEq, exists_eq_left', wp_len_tup, wp_len_lst, wp_itI_tup, wp_itI_lst, wp_seqI, wp_enumI, wp_zipI, wp_cut_bl, wp_cut_int, wp_cut_non, wp_metL, wp_isL_lst, wp_slE, wp_oSome, wp_oNone, wp_tupD, wp_lstD, wp_newF, wp_is_non, wp_callE, List.length_map, MV.isNon, wp_eq_int, wp_bYes, wp_bIff, wp_sPar3, wp_rgE, wp_newT, wp_itS_lst, wp_itS_tup, and_self, exists_eq_left, sized_nil]
      exact ⟨by simp, trivial⟩
    · simp only [wp_sSeq, wp_sExp, wp_sSet, wp_sRet, wp_sIf, wp_sAsg, wp_sFor, wp_sNil, wp_sRetN, wp_sPar, wp_bAnd, wp_bOr, wp_bNot, wp_tst, wp_iff, wp_eAnd, wp_eOr, wp_eNot, wp_chn, wp_bin, wp_una, wp_var, wp_con, wp_aCons, wp_aNil, wp_aStar, atV_zero, atV_succ, asN_nx, asN_rt, asB_bl, asI_int, List.set, List.replicate, retOf, if_true, if_false, Bool.false_eq_true, Bool.not_true, Bool.not_false, wp_gT, wp_gN, wp_gsCons, wp_gsNil, wp_gSub, List.length_cons, List.length_nil, true_and, wipeE, wp_le, wp_lt, wp_gt, wp_ge, wp_sub, wp_add, wp_neg, wp_ix_tup, wp_ix_lst, ix0, ix1, Option.some.injEq, exists_eq_left', wp_len_tup, wp_len_lst, wp_itI_tup, wp_itI_lst, wp_seqI, wp_enumI, wp_zipI, wp_cut_bl, wp_cut_int, wp_cut_non, wp_metL, wp_isL_lst, wp_slE, wp_oSome, wp_oNone, wp_tupD, wp_lstD, wp_newF, wp_is_non, wp_callE, List.length_map, MV.isNon, wp_eq_int, wp_bYes, wp_bIff, wp_sPar3, wp_rgE, wp_newT, wp_itS_lst, wp_itS_tup, and_self, exists_eq_left, sized_nil, id, gameV, intsV, wp_is_integer (cx x hx)]
  have two : ∀ (h : MH) (P : MV → MH → Prop) (k1 k2 k3 : Option MV), P (.bl A) h → Wp (callE allM (aCons (comp false (seqI (var 1)) (gN 2) bYes (callE m__law_is_int (aCons (var 2) (aCons (con (.int 0)) (aCons (bin subM (callE lenM (aCons (bin ixM (var 0) (con (.int 0))) aNil)) (con (.int 1))) aNil)))) [2]) aNil) [some (gameV o m), some (.tup xs), k1, k2, k3]) h P := fun h P k1 k2 k3 q => by
    refine wp_bCmpC (F := fun bs => bs.all id) xs id (fun x => isInt x 0 ((o.length : Int) - 1)) ?_ (by omega) (fun x hx t => ?_) (by rw [hA]; exact q)
    · simp only [wp_sSeq, wp_sExp, wp_sSet, wp_sRet, wp_sIf, wp_sAsg, wp_sFor, wp_sNil, wp_sRetN, wp_sPar, wp_bAnd, wp_bOr, wp_bNot, wp_tst, wp_iff, wp_eAnd, wp_eOr, wp_eNot, wp_chn, wp_bin, wp_una, wp_var, wp_con, wp_aCons, wp_aNil, wp_aStar, atV_zero, atV_succ, asN_nx, asN_rt, asB_bl, asI_int, List.set, List.replicate, retOf, if_true, if_false, Bool.false_eq_true, Bool.not_true, Bool.not_false, wp_gT, wp_gN, wp_gsCons, wp_gsNil, wp_gSub, List.length_cons, List.length_nil, true_and, wipeE, wp_le, wp_lt, wp_gt, wp_ge, wp_sub, wp_add, wp_neg, wp_ix_tup, wp_ix_lst, ix0, ix1, Option.some.injEq, exists_eq_left', wp_len_tup, wp_len_lst, wp_itI_tup, wp_itI_lst, wp_seqI, wp_enumI, wp_zipI, wp_cut_bl, wp_cut_int, wp_cut_non, wp_metL, wp_isL_lst, wp_slE, wp_oSome, wp_oNone, wp_tupD, wp_lstD, wp_newF, wp_is_non, wp_callE, List.length_map, MV.isNon, wp_eq_int, wp_bYes, wp_bIff, wp_sPar3, wp_rgE, wp_newT, wp_itS_lst, wp_itS_tup, and_self, exists_eq_left, sized_nil]
      exact ⟨by simp, trivial⟩
    · simp only [wp_sSeq, wp_sExp, wp_sSet, wp_sRet, wp_sIf, wp_sAsg, wp_sFor, wp_sNil, wp_sRetN, wp_sPar, wp_bAnd, wp_bOr, wp_bNot, wp_tst, wp_iff, wp_eAnd, wp_eOr, wp_eNot, wp_chn, wp_bin, wp_una, wp_var, wp_con, wp_aCons, wp_aNil, wp_aStar, atV_zero, atV_succ, asN_nx, asN_rt, asB_bl, asI_int, List.set, List.replicate, retOf, if_true, if_false, Bool.false_eq_true, Bool.not_true, Bool.not_false, wp_gT, wp_gN, wp_gsCons, wp_gsNil, wp_gSub, List.length_cons, List.length_nil, true_and, wipeE, wp_le, wp_lt, wp_gt, wp_ge, wp_sub, wp_add, wp_neg, wp_ix_tup, wp_ix_lst, ix0, ix1, Option.some.injEq, exists_eq_left', wp_len_tup, wp_len_lst, wp_itI_tup, wp_itI_lst, wp_seqI, wp_enumI, wp_zipI, wp_cut_bl, wp_cut_int, wp_cut_non, wp_metL, wp_isL_lst, wp_slE, wp_oSome, wp_oNone, wp_tupD, wp_lstD, wp_newF, wp_is_non, wp_callE, List.length_map, MV.isNon, wp_eq_int, wp_bYes, wp_bIff, wp_sPar3, wp_rgE, wp_newT, wp_itS_lst, wp_itS_tup, and_self, exists_eq_left, sized_nil, id, gameV, intsV, wp_is_int (cx x hx)]
  have law1 : ∀ (h : MH) (Q : MV → MH → Prop), (if A = true then Wp (sRet (callE allM (aCons (comp false (zipI (var 1) (slE false (var 1) (oSome (con (.int 1))) oNone)) (gT 2 (gsCons (gN 3) (gsCons (gN 4) gsNil))) bYes (bin (inC false) (var 4) (callE m__law_ways (aCons (var 0) (aCons (var 3) aNil)))) [3, 4]) aNil)) [some (gameV o m), some (.tup xs), none, none, none]) h (fun f h1 => Wp (cutv h.length (retOf f)) h1 Q) else Q (.bl false) h) → Wp (m__law_is_play [gameV o m, .tup xs]) h Q := fun h Q q => by
    unfold m__law_is_play
    rw [wp_def2]
    rw [wp_sSeq]
    simp only [wp_sIf, wp_bOr, wp_bNot, wp_tst, wp_una, wp_var, wp_con, List.replicate, atV_zero, atV_succ, wpT_non_tuple, wpT_non_bool, wpT_non_int, wpT_non_str, wpT_non_list, wpT_bl_tuple, wpT_bl_bool, wpT_bl_int, wpT_bl_str, wpT_bl_list, wpT_int_tuple, wpT_int_bool, wpT_int_int, wpT_int_str, wpT_int_list, wpT_str_tuple, wpT_str_bool, wpT_str_int, wpT_str_str, wpT_str_list, wpT_tup_tuple, wpT_tup_bool, wpT_tup_int, wpT_tup_str, wpT_tup_list, wpT_lst_tuple, wpT_lst_bool, wpT_lst_int, wpT_lst_str, wpT_lst_list, wpT_scr_tuple, wpT_scr_bool, wpT_scr_int, wpT_scr_str, wpT_scr_list, asB_bl, Bool.not_true, Bool.false_eq_true, if_false, wp_chn, wp_callE (m := lenM), wp_aCons (a := var 1), wp_aNil, wp_len_tup, wp_le, l1, l2, decide_true, if_true, wp_sNil, asN_nx]
    rw [wp_sSeq, wp_sIf, wp_bNot, wp_tst]
    refine two h _ none none none ?_
    cases A with
    | true =>
      simp only [asB_bl, Bool.not_true, Bool.false_eq_true, if_false, wp_sNil, asN_nx]
      rw [if_pos rfl] at q
      exact q
    | false =>
      simp only [asB_bl, Bool.not_false, if_true, wp_sRet, wp_con, asN_rt, retOf, wp_cut_bl]
      rw [if_neg (by decide)] at q
      exact q
  have prog1 : ∀ (h : MH) (Q : MV → MH → Prop), (if A = true then Wp (sSeq (sSet 2 (callE m_ways (aCons (var 0) aNil))) (sRet (callE allM (aCons (comp false (zipI (var 1) (slE false (var 1) (oSome (con (.int 1))) oNone)) (gT 2 (gsCons (gN 4) (gsCons (gN 5) gsNil))) bYes (bin (inC false) (var 5) (bin ixM (var 2) (var 4))) [4, 5]) aNil))) [some (gameV o m), some (.tup xs), none, none, none, none]) h (fun f h1 => Wp (cutv h.length (retOf f)) h1 Q) else Q (.bl false) h) → Wp (m_is_play [gameV o m, .tup xs]) h Q := fun h Q q => by
    have t2 : isTup (.tup xs) 1 1000 = true := t
    unfold m_is_play
    rw [wp_def2, wp_sSeq]
    simp only [wp_sExp, wp_callE (m := m_check_map), wp_aCons (a := var 0), wp_aNil, wp_var, List.replicate, atV_zero, atV_succ]
    refine wp_check_map' G ?_
    try simp only [asN_nx]
    rw [wp_sSeq]
    simp only [wp_sIf, wp_bOr, wp_bNot, wp_tst, wp_callE (m := m_is_tuple), wp_aCons (a := var 1), wp_aCons (a := con _), wp_aNil, wp_var, wp_con, atV_zero, atV_succ, wp_is_tuple c, t2, asB_bl, Bool.not_true, Bool.false_eq_true, if_false]
    refine one h _ none none none none ?_
    cases A with
    | true =>
      simp only [asB_bl, Bool.not_true, Bool.false_eq_true, if_false, wp_sNil, asN_nx]
      rw [if_pos rfl] at q
      exact q
    | false =>
      simp only [asB_bl, Bool.not_false, if_true, wp_sRet, wp_con, asN_rt, retOf, wp_cut_bl]
      rw [if_neg (by decide)] at q
      exact q
  cases A with
  | false =>
    refine ⟨false, fun _ => rfl, fun l e _ rg => ?_, fun h Q q => prog1 h Q (by rw [if_neg (by decide)]; exact q), fun h Q q => law1 h Q (by rw [if_neg (by decide)]; exact q)⟩
    injection e with e
    subst e
    have : ((List.map MV.int l).map fun x => isInt x 0 ((o.length : Int) - 1)).all id = true := by
      rw [List.all_eq_true]
      intro b hb
      obtain ⟨x, hx, rfl⟩ := List.mem_map.mp hb
      obtain ⟨y, hy, rfl⟩ := List.mem_map.mp hx
      have := rg y hy
      simp [isInt]; omega
    rw [hA] at this; cases this
  | true =>
    obtain ⟨l, rfl, g⟩ := ints_all (xs := xs) (a := 0) (b := (o.length : Int) - 1) fun x hx => by
      have := List.all_eq_true.mp hA _ (List.mem_map.mpr ⟨x, hx, rfl⟩)
      exact this
    rw [List.length_map] at l1 l2
    have few : (l.zip (l.drop 1)).length ≤ 1000 := by simp; omega
    refine ⟨((l.zip (l.drop 1)).map fun p => (waysU m p.1).contains p.2).all id, fun z => (by rw [t] at z; cases z), fun l' e _ _ => (by injection e with e; rw [map_int_inj e]), fun h Q q => prog1 h Q ?_, fun h Q q => law1 h Q ?_⟩
    · rw [if_pos rfl]
      simp only [wp_sSeq, wp_sSet, wp_callE (m := m_ways), wp_aCons (a := var 0), wp_aNil, wp_var, atV_zero, atV_succ]
      refine wp_ways G ?_
      simp only [asN_nx, List.set, wp_sRet]
      refine wp_bCmpC (F := fun bs => bs.all id) (l.zip (l.drop 1)) (fun p => .tup [.int p.1, .int p.2]) (fun p => (waysU m p.1).contains p.2) ?_ (by omega) (fun p hp t => ?_) ?_
      · simp only [wp_sSeq, wp_sExp, wp_sSet, wp_sRet, wp_sIf, wp_sAsg, wp_sFor, wp_sNil, wp_sRetN, wp_sPar, wp_bAnd, wp_bOr, wp_bNot, wp_tst, wp_iff, wp_eAnd, wp_eOr, wp_eNot, wp_chn, wp_bin, wp_una, wp_var, wp_con, wp_aCons, wp_aNil, wp_aStar, atV_zero, atV_succ, asN_nx, asN_rt, asB_bl, asI_int, List.set, List.replicate, retOf, if_true, if_false, Bool.false_eq_true, Bool.not_true, Bool.not_false, wp_gT, wp_gN, wp_gsCons, wp_gsNil, wp_gSub, List.length_cons, List.length_nil, true_and, wipeE, wp_le, wp_lt, wp_gt, wp_ge, wp_sub, wp_add, wp_neg, wp_ix_tup, wp_ix_lst, ix0, ix1, Option.some.injEq, exists_eq_left', wp_len_tup, wp_len_lst, wp_itI_tup, wp_itI_lst, wp_seqI, wp_enumI, wp_zipI, wp_cut_bl, wp_cut_int, wp_cut_non, wp_metL, wp_isL_lst, wp_slE, wp_oSome, wp_oNone, wp_tupD, wp_lstD, wp_newF, wp_is_non, wp_callE, List.length_map, MV.isNon, wp_eq_int, wp_bYes, wp_bIff, wp_sPar3, wp_rgE, wp_newT, wp_itS_lst, wp_itS_tup, and_self, exists_eq_left, sized_nil, wp_sl_tup]
        rw [cut_one, ← List.map_drop, zip_map2]
        exact ⟨rfl, trivial⟩
      · obtain ⟨u, e, hu⟩ := link_in G g hp
        simp only [wp_sSeq, wp_sExp, wp_sSet, wp_sRet, wp_sIf, wp_sAsg, wp_sFor, wp_sNil, wp_sRetN, wp_sPar, wp_bAnd, wp_bOr, wp_bNot, wp_tst, wp_iff, wp_eAnd, wp_eOr, wp_eNot, wp_chn, wp_bin, wp_una, wp_var, wp_con, wp_aCons, wp_aNil, wp_aStar, atV_zero, atV_succ, asN_nx, asN_rt, asB_bl, asI_int, List.set, List.replicate, retOf, if_true, if_false, Bool.false_eq_true, Bool.not_true, Bool.not_false, wp_gT, wp_gN, wp_gsCons, wp_gsNil, wp_gSub, List.length_cons, List.length_nil, true_and, wipeE, wp_le, wp_lt, wp_gt, wp_ge, wp_sub, wp_add, wp_neg, wp_ix_tup, wp_ix_lst, ix0, ix1, Option.some.injEq, exists_eq_left', wp_len_tup, wp_len_lst, wp_itI_tup, wp_itI_lst, wp_seqI, wp_enumI, wp_zipI, wp_cut_bl, wp_cut_int, wp_cut_non, wp_metL, wp_isL_lst, wp_slE, wp_oSome, wp_oNone, wp_tupD, wp_lstD, wp_newF, wp_is_non, wp_callE, List.length_map, MV.isNon, wp_eq_int, wp_bYes, wp_bIff, wp_sPar3, wp_rgE, wp_newT, wp_itS_lst, wp_itS_tup, and_self, exists_eq_left, sized_nil, e, uV, at_uRows hu, wp_in_lst]
      · simp only [retOf, wp_cut_bl]; exact q
    · rw [if_pos rfl]
      simp only [wp_sRet]
      refine wp_bCmpC (F := fun bs => bs.all id) (l.zip (l.drop 1)) (fun p => .tup [.int p.1, .int p.2]) (fun p => (waysU m p.1).contains p.2) ?_ (by omega) (fun p hp t => ?_) ?_
      · simp only [wp_sSeq, wp_sExp, wp_sSet, wp_sRet, wp_sIf, wp_sAsg, wp_sFor, wp_sNil, wp_sRetN, wp_sPar, wp_bAnd, wp_bOr, wp_bNot, wp_tst, wp_iff, wp_eAnd, wp_eOr, wp_eNot, wp_chn, wp_bin, wp_una, wp_var, wp_con, wp_aCons, wp_aNil, wp_aStar, atV_zero, atV_succ, asN_nx, asN_rt, asB_bl, asI_int, List.set, List.replicate, retOf, if_true, if_false, Bool.false_eq_true, Bool.not_true, Bool.not_false, wp_gT, wp_gN, wp_gsCons, wp_gsNil, wp_gSub, List.length_cons, List.length_nil, true_and, wipeE, wp_le, wp_lt, wp_gt, wp_ge, wp_sub, wp_add, wp_neg, wp_ix_tup, wp_ix_lst, ix0, ix1, Option.some.injEq, exists_eq_left', wp_len_tup, wp_len_lst, wp_itI_tup, wp_itI_lst, wp_seqI, wp_enumI, wp_zipI, wp_cut_bl, wp_cut_int, wp_cut_non, wp_metL, wp_isL_lst, wp_slE, wp_oSome, wp_oNone, wp_tupD, wp_lstD, wp_newF, wp_is_non, wp_callE, List.length_map, MV.isNon, wp_eq_int, wp_bYes, wp_bIff, wp_sPar3, wp_rgE, wp_newT, wp_itS_lst, wp_itS_tup, and_self, exists_eq_left, sized_nil, wp_sl_tup]
        rw [cut_one, ← List.map_drop, zip_map2]
        exact ⟨rfl, trivial⟩
      · obtain ⟨u, e, hu⟩ := link_in G g hp
        simp only [wp_sSeq, wp_sExp, wp_sSet, wp_sRet, wp_sIf, wp_sAsg, wp_sFor, wp_sNil, wp_sRetN, wp_sPar, wp_bAnd, wp_bOr, wp_bNot, wp_tst, wp_iff, wp_eAnd, wp_eOr, wp_eNot, wp_chn, wp_bin, wp_una, wp_var, wp_con, wp_aCons, wp_aNil, wp_aStar, atV_zero, atV_succ, asN_nx, asN_rt, asB_bl, asI_int, List.set, List.replicate, retOf, if_true, if_false, Bool.false_eq_true, Bool.not_true, Bool.not_false, wp_gT, wp_gN, wp_gsCons, wp_gsNil, wp_gSub, List.length_cons, List.length_nil, true_and, wipeE, wp_le, wp_lt, wp_gt, wp_ge, wp_sub, wp_add, wp_neg, wp_ix_tup, wp_ix_lst, ix0, ix1, Option.some.injEq, exists_eq_left', wp_len_tup, wp_len_lst, wp_itI_tup, wp_itI_lst, wp_seqI, wp_enumI, wp_zipI, wp_cut_bl, wp_cut_int, wp_cut_non, wp_metL, wp_isL_lst, wp_slE, wp_oSome, wp_oNone, wp_tupD, wp_lstD, wp_newF, wp_is_non, wp_callE, List.length_map, MV.isNon, wp_eq_int, wp_bYes, wp_bIff, wp_sPar3, wp_rgE, wp_newT, wp_itS_lst, wp_itS_tup, and_self, exists_eq_left, sized_nil, e]
        refine wp_lways G ?_
        simp only [wp_in_lst, Bool.false_eq_true, if_false, and_self]
      · simp only [retOf, wp_cut_bl]; exact q
theorem wp_is_plan (G : Game o m) (hw : w = 0 ∨ w = 1) (f : v.free = true) (q : Q (.bl (planB o m w v)) h) : Wp (m_is_plan [gameV o m, .int w, v]) h Q := by
  unfold m_is_plan
  rw [wp_def3]
  simp only [wp_sSeq, wp_sExp, wp_sRet, wp_callE, wp_aCons, wp_aNil, wp_var, List.replicate, atV_zero, atV_succ]
  refine wp_check_map' G ?_
  try simp only [asN_nx, wp_sSeq, wp_sExp, wp_sRet, wp_callE, wp_aCons, wp_aNil, wp_var, atV_zero, atV_succ]
  refine wp_check_player hw ?_
  try simp only [asN_nx, wp_sRet, wp_callE, wp_aCons, wp_aNil, wp_var, atV_zero, atV_succ]
  refine wp_is_plan_of G f ?_
  simp only [retOf, wp_cut_bl]
  exact q
end
end Lw

set_option Elab.async false
set_option linter.all false
set_option maxRecDepth 100000
set_option maxHeartbeats 4000000
namespace Lw
open PySem PySem.Spec PyProof.Rows L2 Mi
section
variable {h : MH} {Q : MV → MH → Prop} {o : List Int} {m : List (Int × Int)} {w : Int}
theorem two_cells {i : Nat} (hi : i < h.length) (a b : List MV) : cellL (h.set i (some (.lst a)) ++ [some (.lst b)]) i a ∧ cellL (h.set i (some (.lst a)) ++ [some (.lst b)]) h.length b := by
  refine ⟨cell_app _ (cell_set hi), ?_⟩
  have := cellL_at (h1 := h.set i (some (.lst a))) (xs := b) (tl := [])
  rwa [List.length_set] at this
theorem two_setp {i : Nat} (hi : i < h.length) (a b c : List MV) : (h.set i (some (MObj.lst a)) ++ [some (MObj.lst b)]).set i (some (MObj.lst c)) = h.set i (some (MObj.lst c)) ++ [some (MObj.lst b)] := by
  rw [List.set_append_left _ _ (by simpa using hi), List.set_set]
theorem two_setm {i : Nat} (a b c : List MV) : (h.set i (some (MObj.lst a)) ++ [some (MObj.lst b)]).set h.length (some (MObj.lst c)) = h.set i (some (MObj.lst a)) ++ [some (MObj.lst c)] := by
  rw [List.set_append_right _ _ (by simp), List.length_set, Nat.sub_self]; rfl
theorem look_app {P : List (Option Int)} {y : Option Int} {v : Nat} : look (P ++ [y]) v = if v < P.length then look P v else if v = P.length then y else none := by
  unfold look
  have e : ((v : Int)).toNat = v := by omega
  rw [e]
  by_cases c : v < P.length
  · rw [if_pos c, List.getElem?_append_left c]
  · rw [if_neg c, List.getElem?_append_right (by omega)]
    by_cases d : v = P.length
    · rw [if_pos d, d, Nat.sub_self]; rfl
    · rw [if_neg d, List.getElem?_eq_none (by simp; omega)]; rfl
theorem wp_law_plan {i : Nat} {N : Int} {p : List MV} (G : Game o m) (hc : cellL h i p) (hp : PotC N p) (hN : N + 20 ≤ 100000)
    (q : ∀ (P : List (Option Int)) (p' : List MV), PlanR o m w P → PotC (N + 20) p' → Q (.tup (P.map oV)) (h.set i (some (.lst p')))) : Wp (m__law_plan [.cell i, gameV o m, .int w]) h Q := by
  have hi := cell_lt hc
  have o12 := G.o12
  unfold m__law_plan
  rw [wp_def3]
  simp only [wp_sSeq, wp_sSet, wp_lstD, wp_aNil, wp_newT, List.replicate, List.set, asN_nx, wp_sFor, wp_enumI, wp_bin, wp_var, wp_con, atV_zero, atV_succ, gameV, wp_ix_tup, ix0, Option.some.injEq, exists_eq_left', intsV, wp_itI_tup]
  refine ⟨rfl, ?_⟩
  rw [enum_map]
  refine wp_loopL o.zipIdx (fun p => .tup [.int (p.2 : Nat), .int p.1]) (fun j env h' => ∃ (a4 a5 : Option MV) (P : List (Option Int)) (p' : List MV), env = [some (.cell i), some (gameV o m), some (.int w), some (.cell h.length), a4, a5] ∧ h' = h.set i (some (.lst p')) ++ [some (.lst (P.map oV))] ∧ PotC (N + j) p' ∧ P.length = j ∧
    ∀ v : Nat, v < j → (o.getD v 0 = w → ∃ t, look P v = some t ∧ t ∈ waysU m v) ∧ (o.getD v 0 ≠ w → look P v = none)) ⟨_, _, [], p, rfl, by rw [set_self hc]; rfl, by simpa using hp, rfl, fun v hv => by omega⟩ ?_ ?_
  · rintro j e env h' ej jl ⟨a4, a5, P, p', rfl, rfl, hp', hP, hv⟩
    obtain ⟨e2, e1⟩ := Mi.zipIdx_get ej
    have hj : j < o.length := (List.getElem?_eq_some_iff.mp e1).1
    have ow : e.1 = o.getD j 0 := by rw [List.getD_eq_getElem?_getD, e1]; rfl
    obtain ⟨c1, c2⟩ := two_cells hi p' (P.map oV)
    rw [e2, ow]
    have next : ∀ (y : Option Int) (p2 : List MV), PotC (N + (j + 1 : Nat)) p2 → ((o.getD j 0 = w → ∃ t, y = some t ∧ t ∈ waysU m j) ∧ (o.getD j 0 ≠ w → y = none)) → PotC (N + (j + 1 : Nat)) p2 ∧ (P ++ [y]).length = j + 1 ∧
        ∀ v : Nat, v < j + 1 → (o.getD v 0 = w → ∃ t, look (P ++ [y]) v = some t ∧ t ∈ waysU m v) ∧ (o.getD v 0 ≠ w → look (P ++ [y]) v = none) := fun y p2 h1 h2 => by
      refine ⟨h1, by simp [hP], fun v hvj => ?_⟩
      rw [look_app, hP]
      by_cases k : v < j
      · rw [if_pos k]; exact hv v k
      · rw [if_neg k, if_pos (by omega), show v = j by omega]; exact h2
    simp only [wp_gT, List.length_cons, List.length_nil, true_and, wp_gsCons, wp_gN, wp_gsNil, List.set, wp_sExp, wp_metL, wp_var, atV_zero, atV_succ, wp_isL_cell c2, wp_aCons, wp_aNil, wp_iff, wp_tst, wp_bin, wp_con, wp_eq_int, asB_bl, wp_callE, Bool.false_eq_true, if_false]
    by_cases k : o.getD j 0 = w
    · rw [if_pos (by simpa using k)]
      refine wp_lways G ?_
      have wl := waysU_len m j
      have m60 := G.m60
      have ne := waysU_ne G hj
      refine wp_of c1 hp' (by omega) (by rw [List.length_map]; exact List.length_pos_iff.mpr ne) (by rw [List.length_map]; omega) (free_ints _) fun y p2 hy hp2 => ?_
      obtain ⟨t, ht, rfl⟩ := List.mem_map.mp hy
      rw [two_setp hi]
      obtain ⟨c3, c4⟩ := two_cells hi p2 (P.map oV)
      rw [show MV.int t = oV (some t) from rfl, wp_app c4 (free_os _) (free_o _) (sl_lt (by simp; omega)), two_setm]
      simp only [asN_nx]
      refine ⟨_, _, P ++ [some t], p2, rfl, by rw [List.map_append]; rfl, next (some t) p2 ?_ ⟨fun _ => ⟨t, rfl, ht⟩, fun z => absurd k z⟩⟩
      rw [show N + ((j + 1 : Nat) : Int) = N + j + 1 by omega]; exact hp2
    · rw [if_neg (by simpa using k)]
      rw [show MV.non = oV none from rfl, wp_app c2 (free_os _) (free_o _) (sl_lt (by simp; omega)), two_setm]
      simp only [asN_nx]
      exact ⟨_, _, P ++ [none], p', rfl, by rw [List.map_append]; rfl, next none p' (hp'.mono (by omega)) ⟨fun z => absurd z k, fun _ => rfl⟩⟩
  · rintro env h' ⟨a4, a5, P, p', rfl, rfl, hp', hP, hv⟩
    rw [List.length_zipIdx] at hp' hP hv
    obtain ⟨c1, c2⟩ := two_cells hi p' (P.map oV)
    simp only [asN_nx, wp_sRet, wp_callE, wp_aCons, wp_aNil, wp_var, atV_zero, atV_succ, wp_tuple_cell c2]
    show Wp (cutv h.length (.tup _)) _ Q
    rw [wp_cutv (free_of_tup (free_os _))]
    have tk : (h.set i (some (MObj.lst p')) ++ [some (MObj.lst (P.map oV))]).take h.length = h.set i (some (.lst p')) := by
      have : h.length = (h.set i (some (MObj.lst p'))).length := by rw [List.length_set]
      rw [this, List.take_left]
    rw [tk]
    exact q P p' ⟨hP, fun v hvl => (hv v hvl).1, fun v hvl => (hv v hvl).2⟩ (hp'.mono (by omega))
theorem wp_law_play {i : Nat} {N : Int} {p : List MV} (G : Game o m) (hc : cellL h i p) (hp : PotC N p) (hN : N + 40 ≤ 100000)
    (q : ∀ (r : List Int) (x : Int) (p' : List MV), r.length ≤ 20 → (∀ y ∈ r ++ [x], 0 ≤ y ∧ y < o.length) → PotC (N + 40) p' → Q (.tup ((r ++ [x]).map .int)) (h.set i (some (.lst p')))) : Wp (m__law_play [.cell i, gameV o m, .int 20]) h Q := by
  have hi := cell_lt hc
  have o1 := G.o1
  have o12 := G.o12
  unfold m__law_play
  rw [wp_def3]
  simp only [wp_sSeq, wp_sSet, wp_lstD, wp_callE (m := m__law_take), wp_callE (m := lenM), wp_aCons, wp_aNil, wp_bin, wp_var, wp_con, List.replicate, atV_zero, atV_succ, gameV, wp_ix_tup, ix0, Option.some.injEq, exists_eq_left', intsV, wp_len_tup, List.length_map]
  refine wp_take hc hp (by omega) (by omega) (by omega) fun x0 p1 x00 x01 hp1 => ?_
  refine ⟨rfl, ?_⟩
  rw [wp_newT]
  have hl1 : (h.set i (some (MObj.lst p1))).length = h.length := List.length_set
  rw [hl1]
  simp only [asN_nx, List.set, wp_sFor]
  obtain ⟨c1, c2⟩ := two_cells hi p1 [MV.int x0]
  refine wp_rngW ?_
  simp only [wp_callE (m := m__law_take), wp_aCons, wp_aNil, wp_var, atV_zero, atV_succ]
  refine wp_take c1 hp1 (by omega) (by decide) (by decide) fun r2 p2 r20 r21 hp2 => ?_
  rw [two_setp hi]
  refine ⟨r2.toNat, by rw [show ((r2.toNat : Nat) : Int) = r2 by omega], by omega, ?_⟩
  have few : r2.toNat < 20 := by omega
  generalize r2.toNat = K at few
  refine wp_loopL (List.range K) (fun i : Nat => MV.int i) (fun j env h' => ∃ (a4 : Option MV) (r : List Int) (x : Int) (p' : List MV), env = [some (.cell i), some (gameV o m), some (.int 20), some (.cell h.length), a4] ∧ h' = h.set i (some (.lst p')) ++ [some (.lst ((r ++ [x]).map .int))] ∧ PotC (N + 2 + j) p' ∧ r.length = j ∧ ∀ y ∈ r ++ [x], 0 ≤ y ∧ y < o.length)
    ⟨_, [], x0, p2, rfl, rfl, by rw [show N + 2 + ((0 : Nat) : Int) = N + 1 + 1 by omega]; exact hp2, rfl, fun y hy => by rw [List.mem_singleton.mp hy]; omega⟩ ?_ ?_
  · rintro j e env h' ej jl ⟨a4, r, x, p', rfl, rfl, hp', hr, rg⟩
    obtain ⟨rfl, hj⟩ := Mi.range_get ej
    obtain ⟨c1, c2⟩ := two_cells hi p' ((r ++ [x]).map .int)
    have rx := rg x (by simp)
    obtain ⟨u, rfl⟩ : ∃ u : Nat, x = (u : Int) := ⟨x.toNat, by omega⟩
    have hu : u < o.length := by omega
    simp only [wp_gN, List.set, wp_sExp, wp_metL, wp_var, atV_zero, atV_succ, wp_isL_cell c2, wp_aCons, wp_aNil, wp_callE, wp_bin, wp_una, wp_con, wp_neg, wp_ix_cell c2, at_last, Option.some.injEq, exists_eq_left']
    refine wp_lways G ?_
    have wl := waysU_len m u
    have m60 := G.m60
    have ne := waysU_ne G hu
    refine wp_of c1 hp' (by omega) (by rw [List.length_map]; exact List.length_pos_iff.mpr ne) (by rw [List.length_map]; omega) (free_ints _) fun y p3 hy hp3 => ?_
    obtain ⟨t, ht, rfl⟩ := List.mem_map.mp hy
    rw [two_setp hi]
    obtain ⟨c3, c4⟩ := two_cells hi p3 ((r ++ [(u : Int)]).map .int)
    rw [wp_app c4 (free_ints _) rfl (sl_lt (by simp; omega)), two_setm]
    simp only [asN_nx]
    refine ⟨_, r ++ [(u : Int)], t, p3, rfl, by rw [List.map_append (l₁ := r ++ [(u : Int)])]; rfl, ?_, by simp [hr], fun y hy => ?_⟩
    · rw [show N + 2 + ((e + 1 : Nat) : Int) = N + 2 + (e : Int) + 1 by omega]; exact hp3
    · rcases List.mem_append.mp hy with hy | hy
      · exact rg y hy
      · rw [List.mem_singleton.mp hy]; exact waysU_rng G u t ht
  · rintro env h' ⟨a4, r, x, p', rfl, rfl, hp', hr, rg⟩
    rw [List.length_range] at hp' hr
    obtain ⟨c1, c2⟩ := two_cells hi p' ((r ++ [x]).map .int)
    simp only [asN_nx, wp_sRet, wp_callE, wp_aCons, wp_aNil, wp_var, atV_zero, atV_succ, wp_tuple_cell c2]
    show Wp (cutv h.length (.tup _)) _ Q
    rw [wp_cutv (free_of_tup (free_ints _))]
    have tk : (h.set i (some (MObj.lst p')) ++ [some (MObj.lst ((r ++ [x]).map .int))]).take h.length = h.set i (some (.lst p')) := by
      have : h.length = (h.set i (some (MObj.lst p'))).length := by rw [List.length_set]
      rw [this, List.take_left]
    rw [tk]
    exact q r x p' (by omega) rg (hp'.mono (by omega))
end
end Lw

set_option Elab.async false
set_option linter.all false
set_option maxRecDepth 100000
set_option maxHeartbeats 4000000
namespace Lw
open PySem PySem.Spec PyProof.Rows L2 Mi
section
variable {h : MH} {Q : MV → MH → Prop} {o : List Int} {m : List (Int × Int)} {w : Int} {c : Nat} {v x : MV} {P P0 P1 : List (Option Int)}
theorem ex_player (f : x.free = true) (b : isInt x 0 1 = false) : Ex (m_check_player [x]) h 3 x := by
  unfold m_check_player
  refine ex_def rfl f (ex_if ?_ (ex_raise ?_))
  · simp only [wp_bNot, wp_tst, wp_callE, wp_aCons, wp_aNil, wp_var, wp_con, List.map_cons, List.cons_append, atV_zero, wp_is_integer (free_noC f), b, asB_bl, Bool.not_false, and_self]
  · simp only [wp_var, List.map_cons, List.cons_append, atV_zero, and_self]
theorem ex_place (f : x.free = true) (b : isInt x 0 ((o.length : Int) - 1) = false) : Ex (m_check_place [gameV o m, x]) h 2 x := by
  unfold m_check_place
  refine ex_def rfl f (ex_if ?_ (ex_raise ?_))
  · simp only [wp_bNot, wp_tst, wp_callE, wp_aCons, wp_aNil, wp_var, wp_con, wp_bin, List.map_cons, List.cons_append, atV_zero, atV_succ, gameV, wp_ix_tup, ix0, Option.some.injEq, exists_eq_left', intsV, wp_len_tup, List.length_map, wp_sub, wp_is_integer (free_noC f), b, asB_bl, Bool.not_false, and_self]
  · simp only [wp_var, List.map_cons, List.cons_append, atV_zero, atV_succ, and_self]
theorem ex_plan (G : Game o m) (f : x.free = true) (b : planB o m w x = false) : Ex (m_check_plan [gameV o m, .int w, x]) h 4 x := by
  unfold m_check_plan
  refine ex_def rfl f (ex_if ?_ (ex_raise ?_))
  · simp only [wp_bNot, wp_tst, wp_callE, wp_aCons, wp_aNil, wp_var, List.map_cons, List.cons_append, atV_zero, atV_succ]
    refine wp_is_plan_of G f ?_
    simp only [b, asB_bl, Bool.not_false, and_self]
  · simp only [wp_var, List.map_cons, List.cons_append, atV_zero, atV_succ, and_self]
theorem ex_is_play {a : MV} (f : x.free = true) (b : NoMap x) : Ex (m_is_play [x, a]) h 1 x := by
  unfold m_is_play
  refine ex_def rfl f (ex_seq1 (ex_exp (ex_callE (as := [x]) ?_ (ex_map f b))))
  simp only [wp_aCons, wp_aNil, wp_var, List.map_cons, List.cons_append, atV_zero, and_self]
theorem ex_is_plan1 {a d : MV} (f : x.free = true) (b : NoMap x) : Ex (m_is_plan [x, a, d]) h 1 x := by
  unfold m_is_plan
  refine ex_def rfl f (ex_seq1 (ex_exp (ex_callE (as := [x]) ?_ (ex_map f b))))
  simp only [wp_aCons, wp_aNil, wp_var, List.map_cons, List.cons_append, atV_zero, and_self]
theorem ex_is_plan2 {d : MV} (G : Game o m) (f : x.free = true) (b : isInt x 0 1 = false) : Ex (m_is_plan [gameV o m, x, d]) h 3 x := by
  unfold m_is_plan
  refine ex_def rfl f (ex_seq2 (env' := [some (gameV o m), some x, some d]) ?_ (ex_seq1 (ex_exp (ex_callE (as := [x]) ?_ (ex_player f b)))))
  · simp only [wp_sExp, wp_callE, wp_aCons, wp_aNil, wp_var, List.map_cons, List.cons_append, atV_zero]
    exact wp_check_map G (by simp)
  · simp only [wp_aCons, wp_aNil, wp_var, atV_zero, atV_succ, and_self]
theorem ex_tog1 {a b d : MV} (f : x.free = true) (e : NoMap x) : Ex (m_together [x, a, b, d]) h 1 x := by
  unfold m_together
  refine ex_def rfl f (ex_seq1 (ex_exp (ex_callE (as := [x]) ?_ (ex_map f e))))
  simp only [wp_aCons, wp_aNil, wp_var, List.map_cons, List.cons_append, atV_zero, and_self]
theorem ex_tog2 {b d : MV} (G : Game o m) (f : x.free = true) (e : planB o m 0 x = false) : Ex (m_together [gameV o m, x, b, d]) h 4 x := by
  unfold m_together
  refine ex_def rfl f (ex_seq2 (env' := [some (gameV o m), some x, some b, some d, none, none]) ?_ (ex_seq1 (ex_exp (ex_callE (as := [gameV o m, .int 0, x]) ?_ (ex_plan G f e)))))
  · simp only [wp_sExp, wp_callE, wp_aCons, wp_aNil, wp_var, List.map_cons, List.map_nil, List.cons_append, List.nil_append, List.length_cons, List.length_nil, List.replicate, atV_zero]
    exact wp_check_map G (by simp)
  · simp only [wp_aCons, wp_aNil, wp_var, wp_con, atV_zero, atV_succ, and_self]
theorem ex_tog3 {d : MV} (G : Game o m) (p0 : PlanR o m 0 P0) (f : x.free = true) (e : planB o m 1 x = false) : Ex (m_together [gameV o m, .tup (P0.map oV), x, d]) h 4 x := by
  unfold m_together
  refine ex_def rfl f (ex_seq2 (env' := [some (gameV o m), some (.tup (P0.map oV)), some x, some d, none, none]) ?_ (ex_seq2 (env' := [some (gameV o m), some (.tup (P0.map oV)), some x, some d, none, none]) ?_ (ex_seq1 (ex_exp (ex_callE (as := [gameV o m, .int 1, x]) ?_ (ex_plan G f e))))))
  · simp only [wp_sExp, wp_callE, wp_aCons, wp_aNil, wp_var, List.map_cons, List.map_nil, List.cons_append, List.nil_append, List.length_cons, List.length_nil, List.replicate, atV_zero]
    exact wp_check_map G (by simp)
  · simp only [wp_sExp, wp_callE, wp_aCons, wp_aNil, wp_var, wp_con, atV_zero, atV_succ]
    exact wp_check_plan G p0 (by simp)
  · simp only [wp_aCons, wp_aNil, wp_var, wp_con, atV_zero, atV_succ, and_self]
theorem ex_tog4 (G : Game o m) (p0 : PlanR o m 0 P0) (p1 : PlanR o m 1 P1) (f : x.free = true) (e : isInt x 0 ((o.length : Int) - 1) = false) : Ex (m_together [gameV o m, .tup (P0.map oV), .tup (P1.map oV), x]) h 2 x := by
  unfold m_together
  refine ex_def rfl f (ex_seq2 (env' := [some (gameV o m), some (.tup (P0.map oV)), some (.tup (P1.map oV)), some x, none, none]) ?_ (ex_seq2 (env' := [some (gameV o m), some (.tup (P0.map oV)), some (.tup (P1.map oV)), some x, none, none]) ?_ (ex_seq2 (env' := [some (gameV o m), some (.tup (P0.map oV)), some (.tup (P1.map oV)), some x, none, none]) ?_ (ex_seq1 (ex_exp (ex_callE (as := [gameV o m, x]) ?_ (ex_place f e)))))))
  · simp only [wp_sExp, wp_callE, wp_aCons, wp_aNil, wp_var, List.map_cons, List.map_nil, List.cons_append, List.nil_append, List.length_cons, List.length_nil, List.replicate, atV_zero]
    exact wp_check_map G (by simp)
  · simp only [wp_sExp, wp_callE, wp_aCons, wp_aNil, wp_var, wp_con, atV_zero, atV_succ]
    exact wp_check_plan G p0 (by simp)
  · simp only [wp_sExp, wp_callE, wp_aCons, wp_aNil, wp_var, wp_con, atV_zero, atV_succ]
    exact wp_check_plan G p1 (by simp)
  · simp only [wp_aCons, wp_aNil, wp_var, wp_con, atV_zero, atV_succ, and_self]
theorem wp_repr_ol {l : List (Option Int)} (b : BdO (10 ^ 12) l) (few : l.length ≤ 1000) : Wp (reprM [.lst (l.map oV)]) h Q ↔ Q (.str (PyData.shown (MV.dat (.lst (l.map oV))))) h := by
  obtain ⟨h1, h2, h3, h4, h5, h6⟩ := os_facts b
  show Wp (if SeqAt.shaped (MV.dat (.lst (l.map oV))) && (MV.dat (.lst (l.map oV))).showable && !(MV.dat (.lst (l.map oV))).hasDict && decide ((MV.dat (.lst (l.map oV))).depth ≤ 60) && decide ((MV.dat (.lst (l.map oV))).shown.length ≤ sizeLine) then M.pure (.str (MV.dat (.lst (l.map oV))).shown) else M.stuck) h Q ↔ _
  have ld : PyData.layable0 (MV.dat (.lst (l.map oV))) = true := by
    unfold PyData.layable0
    simp only [MV.dat, PyData.canLay0, PyData.depth, PyData.weight, h1, h2, Bool.true_and, Bool.and_eq_true, decide_eq_true_eq]
    omega
  have fit : (MV.dat (.lst (l.map oV))).shown.length ≤ sizeLine := PyData.shown_fits_of_layable0 (B := 13) (by decide) (by decide) ld (by simp only [MV.dat, PyData.intsShort]; exact h4)
  have sh : SeqAt.shaped (MV.dat (.lst (l.map oV))) = true := SeqAt.shaped_of_layable ld
  have c : (SeqAt.shaped (MV.dat (.lst (l.map oV))) && (MV.dat (.lst (l.map oV))).showable && !(MV.dat (.lst (l.map oV))).hasDict && decide ((MV.dat (.lst (l.map oV))).depth ≤ 60) && decide ((MV.dat (.lst (l.map oV))).shown.length ≤ sizeLine)) = true := by
    rw [sh, decide_eq_true fit]
    simp only [MV.dat, PyData.showable, PyData.hasDict, PyData.depth, h5, h6, h2]; rfl
  rw [if_pos c, wp_pure]
theorem repOk_gd {D W : Nat} {v : MV} (g : Gd D W v) (hD : D ≤ 60) (hW : W ≤ 500000) : RepOk v := ⟨_, fun h Q => wp_repr_gd g hD hW⟩
structure FarP (o : List Int) (m : List (Int × Int)) (x : MV) : Prop where
  f : x.free = true
  b0 : planB o m 0 x = false
  b1 : planB o m 1 x = false
  r : RepOk x
theorem planB_len {w : Int} {xs : List MV} (l : xs.length ≠ o.length) : planB o m w (.tup xs) = false := by
  simp only [planB, decide_eq_false l, Bool.false_and]
theorem planB_99 (G : Game o m) {w : Int} : planB o m w (.tup (List.replicate o.length (MV.int 99))) = false := by
  have o1 := G.o1
  have o12 := G.o12
  rw [Bool.eq_false_iff]
  intro z
  simp only [planB] at z
  rw [Bool.and_eq_true] at z
  have := List.all_eq_true.mp z.2 (.int 99, 0) (List.mem_iff_getElem?.mpr ⟨0, by rw [List.getElem?_zipIdx, List.getElem?_replicate_of_lt (by omega)]; rfl⟩)
  unfold entOk at this
  simp only at this
  split at this
  · have r := waysU_rng G (((0 : Nat)) : Int) 99 (mem_atI.mp this)
    omega
  · cases this
theorem far_all (G : Game o m) (p0 : PlanR o m 0 P0) : ∀ x ∈ [MV.non, .tup [], .lst (P0.map oV), .tup (P0.map oV ++ [.int 0]), .tup (List.replicate o.length (MV.int 99)), .str "0"], FarP o m x := fun x hx => by
  have o1 := G.o1
  have o12 := G.o12
  have bd : BdO (10 ^ 12) P0 := fun y hy => by
    obtain ⟨i, hi⟩ := List.mem_iff_getElem?.mp hy
    have il : i < o.length := by rw [← p0.len]; exact (List.getElem?_eq_some_iff.mp hi).1
    have e := look_range' hi
    by_cases c : o.getD i 0 = 0
    · obtain ⟨t, et, ht⟩ := p0.own i il c
      rw [e] at et
      cases et
      have := waysU_rng G i _ ht
      have : y.natAbs < 12 := by omega
      exact Nat.lt_trans this (by decide)
    · have := p0.non i il c
      rw [e] at this; cases this
  simp only [List.mem_cons, List.not_mem_nil, or_false] at hx
  rcases hx with rfl | rfl | rfl | rfl | rfl | rfl
  · exact ⟨rfl, rfl, rfl, repOk_of rfl (rep_small _ (by simp))⟩
  · refine ⟨rfl, planB_len (by simp; omega), planB_len (by simp; omega), ⟨_, fun h Q => wp_repr_os (l := []) (fun y hy => by simp at hy) (by simp)⟩⟩
  · exact ⟨free_of_lst (free_os _), rfl, rfl, ⟨_, fun h Q => wp_repr_ol bd (by rw [p0.len]; omega)⟩⟩
  · have e : P0.map oV ++ [MV.int 0] = (P0 ++ [some 0]).map oV := by rw [List.map_append]; rfl
    rw [e]
    refine ⟨free_of_tup (free_os _), planB_len (by simp [p0.len]), planB_len (by simp [p0.len]), ⟨_, fun h Q => wp_repr_os (fun y hy => ?_) (by simp [p0.len]; omega)⟩⟩
    rcases List.mem_append.mp hy with hy | hy
    · exact bd y hy
    · have : y = 0 := by simpa using hy
      subst this; decide
  · have e : List.replicate o.length (MV.int 99) = (List.replicate o.length (some (99 : Int))).map oV := by rw [List.map_replicate]; rfl
    have b0 := planB_99 G (w := 0)
    have b1 := planB_99 G (w := 1)
    rw [e] at b0 b1 ⊢
    refine ⟨free_of_tup (free_os _), b0, b1, ⟨_, fun h Q => wp_repr_os (fun y hy => ?_) (by simp; omega)⟩⟩
    have := List.eq_of_mem_replicate hy
    have : y = 99 := by simpa using this
    subst this; decide
  · exact ⟨rfl, rfl, rfl, repOk_of rfl (rep_small _ (by simp))⟩
structure BdP (o : List Int) (x : MV) : Prop where
  f : x.free = true
  b : isInt x 0 ((o.length : Int) - 1) = false
  r : RepOk x
theorem bd_all (G : Game o m) : ∀ x ∈ [MV.non, .int (-1), .int (o.length : Nat), .bl true, .str "0"], BdP o x := fun x hx => by
  have o12 := G.o12
  simp only [List.mem_cons, List.not_mem_nil, or_false] at hx
  rcases hx with rfl | rfl | rfl | rfl | rfl
  · exact ⟨rfl, rfl, repOk_of rfl (rep_small _ (by simp))⟩
  · exact ⟨rfl, by simp [isInt], repOk_of rfl (rep_small _ (by simp))⟩
  · refine ⟨rfl, by simp [isInt]; omega, repOk_gd (D := 0) (W := 80) (gd_int ?_ (Nat.le_refl _)) (by decide) (by decide)⟩
    have : ((o.length : Nat) : Int).natAbs < 13 := by omega
    exact Nat.lt_trans this (by decide)
  · exact ⟨rfl, rfl, repOk_of rfl (rep_small _ (by simp))⟩
  · exact ⟨rfl, rfl, repOk_of rfl (rep_small _ (by simp))⟩
theorem sh_word4 : ∀ s ∈ [("map" : Str), "player", "plan", "place"], Sh (.lst [.str s]) 1 := fun s hs => by
  simp only [List.mem_cons, List.not_mem_nil, or_false] at hs
  rcases hs with rfl | rfl | rfl | rfl <;> exact ⟨by decide +kernel, by decide +kernel⟩
theorem wp_eqW4 {neg : Bool} {s : Str} (hs : s ∈ [("map" : Str), "player", "plan", "place"]) : Wp (eqM neg (.lst [.str s]) (.lst [.str s])) h Q ↔ Q (.bl (!neg)) h := wp_eq_same (fun _ e => by cases e) (sh_word4 s hs) (by decide)
def kindV (p : Bool × Str) : MV := .tup [.bl p.1, .str p.2]
theorem free_kinds (l : List (Bool × Str)) : MV.freeAll (l.map kindV) = true := freeAll_map fun a _ => rfl
theorem wp_word {b1 b2 b3 b4 : Bool} (e1 : ([false, true, false, false, false] : List Bool)[c]? = some b1) (e2 : ([false, false, false, true, false] : List Bool)[c]? = some b2) (e3 : ([false, false, false, false, true] : List Bool)[c]? = some b3) (e4 : ([false, false, true, false, false] : List Bool)[c]? = some b4)
    (q : Q (.lst ((([(b1, "map"), (b2, "player"), (b3, "plan"), (b4, "place")] : List (Bool × Str)).filter fun p => p.1).map fun p => .str p.2)) h) : Wp (m__law_word_of [.err c v]) h Q := by
  unfold m__law_word_of
  rw [wp_def1]
  simp only [wp_sSeq, wp_sSet, wp_lstD, wp_aCons, wp_aNil, wp_tupD, wp_una, wp_var, wp_con, List.replicate, atV_zero, atV_succ, wp_isE e1, wp_isE e2, wp_newT]
  refine ⟨rfl, rfl, rfl, ?_⟩
  have c1 := cellL_at (h1 := h) (xs := ([(b1, "map"), (b2, "player")] : List (Bool × Str)).map kindV) (tl := [])
  show Wp _ _ _
  simp only [asN_nx, List.set]
  simp only [wp_sExp, wp_metL, wp_var, atV_zero, atV_succ]
  refine (wp_isL_cell c1).mpr ?_
  simp only [wp_lstD, wp_aCons, wp_aNil, wp_tupD, wp_una, wp_var, wp_con, atV_zero, atV_succ, wp_isE e3, wp_isE e4, wp_newF]
  refine ⟨rfl, rfl, rfl, ?_⟩
  refine (wp_ext (ys := ([(b3, "plan"), (b4, "place")] : List (Bool × Str)).map kindV) rfl c1 (free_kinds _) (free_kinds _) (sl_le (by simp))).mpr ?_
  rw [set_end, ← List.map_append]
  have c2 := cellL_at (h1 := h) (xs := (([(b1, "map"), (b2, "player")] : List (Bool × Str)) ++ ([(b3, "plan"), (b4, "place")] : List (Bool × Str))).map kindV) (tl := [])
  simp only [asN_nx, wp_sFrz, atV_zero, atV_succ]
  refine (wp_frz_cell c2 (free_kinds _)).mpr ?_
  rw [set_end]
  simp only [asN_nx, List.set, wp_sRet]
  refine wp_cmpF ([(b1, "map"), (b2, "player"), (b3, "plan"), (b4, "place")] : List (Bool × Str)) kindV (fun p => p.1) (fun p => .str p.2) ?_ (by simp) (fun p hp t => ?_) ?_
  · simp only [wp_sSeq, wp_sExp, wp_sSet, wp_sRet, wp_sIf, wp_sAsg, wp_sFor, wp_sNil, wp_sRetN, wp_sPar, wp_bAnd, wp_bOr, wp_bNot, wp_tst, wp_iff, wp_eAnd, wp_eOr, wp_eNot, wp_chn, wp_bin, wp_una, wp_var, wp_con, wp_aCons, wp_aNil, wp_aStar, atV_zero, atV_succ, asN_nx, asN_rt, asB_bl, asI_int, List.set, List.replicate, retOf, if_true, if_false, Bool.false_eq_true, Bool.not_true, Bool.not_false, wp_gT, wp_gN, wp_gsCons, wp_gsNil, wp_gSub, List.length_cons, List.length_nil, true_and, wipeE, wp_le, wp_lt, wp_gt, wp_ge, wp_sub, wp_add, wp_neg, wp_ix_tup, wp_ix_lst, ix0, ix1, Option.some.injEq, exists_eq_left', wp_len_tup, wp_len_lst, wp_itI_tup, wp_itI_lst, wp_seqI, wp_enumI, wp_zipI, wp_cut_bl, wp_cut_int, wp_cut_non, wp_metL, wp_isL_lst, wp_slE, wp_oSome, wp_oNone, wp_tupD, wp_lstD, wp_newF, wp_is_non, wp_callE, List.length_map, MV.isNon, wp_eq_int, wp_bYes, wp_bIff, wp_sPar3, wp_rgE, wp_newT, wp_itS_lst, wp_itS_tup, and_self, exists_eq_left, sized_nil]
    exact ⟨rfl, trivial⟩
  · simp only [kindV, wp_sSeq, wp_sExp, wp_sSet, wp_sRet, wp_sIf, wp_sAsg, wp_sFor, wp_sNil, wp_sRetN, wp_sPar, wp_bAnd, wp_bOr, wp_bNot, wp_tst, wp_iff, wp_eAnd, wp_eOr, wp_eNot, wp_chn, wp_bin, wp_una, wp_var, wp_con, wp_aCons, wp_aNil, wp_aStar, atV_zero, atV_succ, asN_nx, asN_rt, asB_bl, asI_int, List.set, List.replicate, retOf, if_true, if_false, Bool.false_eq_true, Bool.not_true, Bool.not_false, wp_gT, wp_gN, wp_gsCons, wp_gsNil, wp_gSub, List.length_cons, List.length_nil, true_and, wipeE, wp_le, wp_lt, wp_gt, wp_ge, wp_sub, wp_add, wp_neg, wp_ix_tup, wp_ix_lst, ix0, ix1, Option.some.injEq, exists_eq_left', wp_len_tup, wp_len_lst, wp_itI_tup, wp_itI_lst, wp_seqI, wp_enumI, wp_zipI, wp_cut_bl, wp_cut_int, wp_cut_non, wp_metL, wp_isL_lst, wp_slE, wp_oSome, wp_oNone, wp_tupD, wp_lstD, wp_newF, wp_is_non, wp_callE (m := lenM), List.length_map, MV.isNon, wp_eq_int, MV.free]
    exact fun _ => trivial
  · show Wp (cutv h.length (.lst _)) _ Q
    rw [wp_cutv (free_of_lst (freeAll_map fun a _ => rfl)), take_end]
    exact q
end
end Lw

set_option Elab.async false
set_option linter.all false
set_option maxRecDepth 100000
set_option maxHeartbeats 4000000
namespace Lw
open PySem PySem.Spec PyProof.Rows L2 Mi
section
variable {h : MH} {Q : MV → MH → Prop} {o : List Int} {m : List (Int × Int)} {P0 P1 : List (Option Int)} {env : Ev}
def casesL (odd bad far : MV) : List (Nat × Str × MV × Nat) := [(0, "map", odd, 1), (1, "map", odd, 1), (2, "player", .int 2, 3), (3, "player", .bl true, 3), (4, "map", odd, 1), (5, "plan", far, 4), (6, "plan", far, 4), (7, "place", bad, 2)]
structure CaseL (o : List Int) (m : List (Int × Int)) (P0 P1 : List (Option Int)) (i : Nat) (odd bad far : MV) (a : Nat × Str × MV × Nat) : Prop where
  ex : ∃ mk, lm__law_are_refused[a.1]? = some mk ∧ ∀ (h : MH) (a7 a8 a9 a10 a11 : Option MV), Ex (mk [some (.cell i), some (gameV o m), some (.tup (P0.map oV)), some (.tup (P1.map oV)), some odd, some bad, some far, a7, a8, a9, a10, a11]) h a.2.2.2 a.2.2.1
  f : a.2.2.1.free = true
  r : RepOk a.2.2.1
  w : a.2.1 ∈ [("map" : Str), "player", "plan", "place"]
  lt : a.2.2.2 < 5
  wd : ∀ (h : MH) (Q : MV → MH → Prop), Q (.lst [.str a.2.1]) h → Wp (m__law_word_of [.err a.2.2.2 a.2.2.1]) h Q
theorem wordM {v : MV} (h : MH) (Q : MV → MH → Prop) (q : Q (.lst [.str "map"]) h) : Wp (m__law_word_of [.err 1 v]) h Q := wp_word (b1 := true) (b2 := false) (b3 := false) (b4 := false) rfl rfl rfl rfl q
theorem wordP {v : MV} (h : MH) (Q : MV → MH → Prop) (q : Q (.lst [.str "player"]) h) : Wp (m__law_word_of [.err 3 v]) h Q := wp_word (b1 := false) (b2 := true) (b3 := false) (b4 := false) rfl rfl rfl rfl q
theorem wordN {v : MV} (h : MH) (Q : MV → MH → Prop) (q : Q (.lst [.str "plan"]) h) : Wp (m__law_word_of [.err 4 v]) h Q := wp_word (b1 := false) (b2 := false) (b3 := true) (b4 := false) rfl rfl rfl rfl q
theorem wordC {v : MV} (h : MH) (Q : MV → MH → Prop) (q : Q (.lst [.str "place"]) h) : Wp (m__law_word_of [.err 2 v]) h Q := wp_word (b1 := false) (b2 := false) (b3 := false) (b4 := true) rfl rfl rfl rfl q
theorem case_all {odd bad far : MV} {i : Nat} (G : Game o m) (p0 : PlanR o m 0 P0) (p1 : PlanR o m 1 P1) (ho : OddP odd) (hb : BdP o bad) (hf : FarP o m far) : ∀ a ∈ casesL odd bad far, CaseL o m P0 P1 i odd bad far a := fun a ha => by
  unfold casesL at ha
  simp only [List.mem_cons, List.not_mem_nil, or_false] at ha
  rcases ha with rfl | rfl | rfl | rfl | rfl | rfl | rfl | rfl
  · refine ⟨⟨_, rfl, fun h a7 a8 a9 a10 a11 => ex_callE (as := [odd, far]) ?_ (ex_is_play ho.f ho.b)⟩, ho.f, ho.r, by simp, by simp, wordM⟩
    simp only [wp_aCons, wp_aNil, wp_var, wp_con, atV_zero, atV_succ, and_self]
  · refine ⟨⟨_, rfl, fun h a7 a8 a9 a10 a11 => ex_callE (as := [odd, bad, far]) ?_ (ex_is_plan1 ho.f ho.b)⟩, ho.f, ho.r, by simp, by simp, wordM⟩
    simp only [wp_aCons, wp_aNil, wp_var, wp_con, atV_zero, atV_succ, and_self]
  · refine ⟨⟨_, rfl, fun h a7 a8 a9 a10 a11 => ex_callE (as := [gameV o m, .int 2, far]) ?_ (ex_is_plan2 G rfl rfl)⟩, rfl, repOk_of rfl (rep_small _ (by simp)), by simp, by simp, wordP⟩
    simp only [wp_aCons, wp_aNil, wp_var, wp_con, atV_zero, atV_succ, and_self]
  · refine ⟨⟨_, rfl, fun h a7 a8 a9 a10 a11 => ex_callE (as := [gameV o m, .bl true, far]) ?_ (ex_is_plan2 G rfl rfl)⟩, rfl, repOk_of rfl (rep_small _ (by simp)), by simp, by simp, wordP⟩
    simp only [wp_aCons, wp_aNil, wp_var, wp_con, atV_zero, atV_succ, and_self]
  · refine ⟨⟨_, rfl, fun h a7 a8 a9 a10 a11 => ex_callE (as := [odd, far, far, bad]) ?_ (ex_tog1 ho.f ho.b)⟩, ho.f, ho.r, by simp, by simp, wordM⟩
    simp only [wp_aCons, wp_aNil, wp_var, wp_con, atV_zero, atV_succ, and_self]
  · refine ⟨⟨_, rfl, fun h a7 a8 a9 a10 a11 => ex_callE (as := [gameV o m, far, far, bad]) ?_ (ex_tog2 G hf.f hf.b0)⟩, hf.f, hf.r, by simp, by simp, wordN⟩
    simp only [wp_aCons, wp_aNil, wp_var, wp_con, atV_zero, atV_succ, and_self]
  · refine ⟨⟨_, rfl, fun h a7 a8 a9 a10 a11 => ex_callE (as := [gameV o m, .tup (P0.map oV), far, bad]) ?_ (ex_tog3 G p0 hf.f hf.b1)⟩, hf.f, hf.r, by simp, by simp, wordN⟩
    simp only [wp_aCons, wp_aNil, wp_var, wp_con, atV_zero, atV_succ, and_self]
  · refine ⟨⟨_, rfl, fun h a7 a8 a9 a10 a11 => ex_callE (as := [gameV o m, .tup (P0.map oV), .tup (P1.map oV), bad]) ?_ (ex_tog4 G p0 p1 hb.f hb.b)⟩, hb.f, hb.r, by simp, by simp, wordC⟩
    simp only [wp_aCons, wp_aNil, wp_var, wp_con, atV_zero, atV_succ, and_self]
theorem rep_one (n : Nat) (x : MV) : (List.replicate n [x]).flatten = List.replicate n x := by
  induction n with
  | zero => rfl
  | succ n ih => rw [List.replicate_succ, List.flatten_cons, ih, List.replicate_succ]; rfl
theorem wp_refused {i : Nat} {N : Int} {p : List MV} (G : Game o m) (p0 : PlanR o m 0 P0) (p1 : PlanR o m 1 P1) (hc : cellL h i p) (hp : PotC N p) (hN : N + 10 ≤ 100000) (nl : noLH h = true) (q : ∀ p', PotC (N + 10) p' → Q (.bl true) (h.set i (some (.lst p')))) : Wp (m__law_are_refused [.cell i, gameV o m, .tup (P0.map oV), .tup (P1.map oV)]) h Q := by
  have hi := cell_lt hc
  have o1 := G.o1
  have o12 := G.o12
  have gf : (gameV o m).free = true := free_of_tup (by simp only [MV.freeAll, intsV, movesV, MV.free, free_ints, free_mvs]; rfl)
  have nc : MV.noL (.cell i) = true := by simp only [MV.noL]
  unfold m__law_are_refused
  refine wp_defL rfl (by simp only [MV.noLs, nc, MV.free_noL _ gf, MV.free_noL _ (free_plan P0), MV.free_noL _ (free_plan P1), Bool.and_self]) nl ?_
  simp only [List.map_cons, List.map_nil, List.cons_append, List.nil_append, List.length_cons, List.length_nil, List.replicate]
  simp only [wp_sSeq, wp_sAsg, wp_tupD, wp_callE (m := m__law_of), wp_callE (m := lenM), wp_aCons, wp_aNil, wp_lstD, wp_tupD, wp_newF, wp_var, wp_con, wp_una, wp_neg, wp_bin, atV_zero, atV_succ]
  refine ⟨rfl, rfl, rfl, rfl, ?_⟩
  refine wp_of hc hp (by omega) (by decide) (by decide) rfl fun odd q1 ho hp1 => ?_
  have c1 : cellL (h.set i (some (.lst q1))) i q1 := cell_set hi
  have ho := odd_all odd ho
  simp only [gameV, wp_ix_tup, ix0, Option.some.injEq, exists_eq_left', intsV, wp_len_tup, List.length_map]
  refine ⟨rfl, ?_⟩
  refine wp_of c1 hp1 (by omega) (by simp) (by simp) rfl fun bad q2 hb hp2 => ?_
  rw [List.set_set]
  have c2 : cellL (h.set i (some (.lst q2))) i q2 := cell_set hi
  have hb := bd_all G bad hb
  refine ⟨rfl, ?_⟩
  simp only [wp_gT, List.length_cons, List.length_nil, true_and, wp_gsCons, wp_gN, wp_gsNil, List.set, asN_nx, wp_sSet, wp_callE, wp_aCons, wp_aNil, wp_lstD, wp_tupD, wp_newF, wp_var, wp_con, wp_bin, wp_list_tup, atV_zero, atV_succ, wp_ix_tup, ix0, Option.some.injEq, exists_eq_left', wp_len_tup, List.length_map]
  refine ⟨rfl, rfl, ?_⟩
  rw [wp_cat_tup (by simp [p0.len]; omega)]
  refine ⟨rfl, ?_⟩
  rw [wp_mulT (by simp) (by omega), rep_one]
  refine ⟨rfl, ?_⟩
  refine wp_of c2 hp2 (by omega) (by simp) (by simp) (freeAll_mem fun y hy => (far_all G p0 y hy).f) fun far q3 hf hp3 => ?_
  rw [List.set_set]
  have hf := far_all G p0 far hf
  generalize hH : h.set i (some (MObj.lst q3)) = H
  have cs := case_all (i := i) G p0 p1 ho hb hf
  have fr : ∀ a ∈ casesL odd bad far, a.2.2.1.free = true := fun a ha => (cs a ha).f
  simp only [List.set, asN_nx, wp_sSet, wp_aCons, wp_aNil, wp_lstD, wp_tupD, wp_newT, wp_lamE, wp_var, wp_con, atV_zero, atV_succ]
  refine ⟨rfl, rfl, ?_⟩
  have isC : ∀ {l : List (Nat × Str × MV × Nat)} {P : Unit → MH → Prop}, Wp (isL (.cell H.length)) (H ++ [some (.lst (l.map caseV))]) P ↔ P () (H ++ [some (.lst (l.map caseV))]) := fun {l P} => wp_isL_cell (cellL_at (h1 := H) (xs := l.map caseV) (tl := []))
  try simp only [asN_nx, wp_sExp, wp_metL, wp_var, atV_zero, atV_succ, List.cons_append, List.nil_append, List.set]
  refine (isC (l := [(0, "map", odd, 1)])).mpr ?_
  try simp only [wp_aCons, wp_aNil, wp_lstD, wp_tupD, wp_lamE, wp_var, wp_con, atV_zero, atV_succ]
  refine ⟨rfl, ?_⟩
  refine app_step (l := [(0, "map", odd, 1)]) (a := (1, "map", odd, 1)) (fun b hb => fr b (List.mem_of_mem_take (i := 2) (by exact hb))) (by simp) ?_
  try simp only [asN_nx, wp_sExp, wp_metL, wp_var, atV_zero, atV_succ, List.cons_append, List.nil_append, List.set]
  refine (isC (l := [(0, "map", odd, 1), (1, "map", odd, 1)])).mpr ?_
  try simp only [wp_aCons, wp_aNil, wp_lstD, wp_tupD, wp_lamE, wp_var, wp_con, atV_zero, atV_succ]
  refine ⟨rfl, ?_⟩
  refine app_step (l := [(0, "map", odd, 1), (1, "map", odd, 1)]) (a := (2, "player", .int 2, 3)) (fun b hb => fr b (List.mem_of_mem_take (i := 3) (by exact hb))) (by simp) ?_
  try simp only [asN_nx, wp_sExp, wp_metL, wp_var, atV_zero, atV_succ, List.cons_append, List.nil_append, List.set]
  refine (isC (l := [(0, "map", odd, 1), (1, "map", odd, 1), (2, "player", .int 2, 3)])).mpr ?_
  try simp only [wp_aCons, wp_aNil, wp_lstD, wp_tupD, wp_lamE, wp_var, wp_con, atV_zero, atV_succ]
  refine ⟨rfl, ?_⟩
  refine app_step (l := [(0, "map", odd, 1), (1, "map", odd, 1), (2, "player", .int 2, 3)]) (a := (3, "player", .bl true, 3)) (fun b hb => fr b (List.mem_of_mem_take (i := 4) (by exact hb))) (by simp) ?_
  try simp only [asN_nx, wp_sExp, wp_metL, wp_var, atV_zero, atV_succ, List.cons_append, List.nil_append, List.set]
  refine (isC (l := [(0, "map", odd, 1), (1, "map", odd, 1), (2, "player", .int 2, 3), (3, "player", .bl true, 3)])).mpr ?_
  try simp only [wp_aCons, wp_aNil, wp_lstD, wp_tupD, wp_lamE, wp_var, wp_con, atV_zero, atV_succ]
  refine ⟨rfl, ?_⟩
  refine app_step (l := [(0, "map", odd, 1), (1, "map", odd, 1), (2, "player", .int 2, 3), (3, "player", .bl true, 3)]) (a := (4, "map", odd, 1)) (fun b hb => fr b (List.mem_of_mem_take (i := 5) (by exact hb))) (by simp) ?_
  try simp only [asN_nx, wp_sExp, wp_metL, wp_var, atV_zero, atV_succ, List.cons_append, List.nil_append, List.set]
  refine (isC (l := [(0, "map", odd, 1), (1, "map", odd, 1), (2, "player", .int 2, 3), (3, "player", .bl true, 3), (4, "map", odd, 1)])).mpr ?_
  try simp only [wp_aCons, wp_aNil, wp_lstD, wp_tupD, wp_lamE, wp_var, wp_con, atV_zero, atV_succ]
  refine ⟨rfl, ?_⟩
  refine app_step (l := [(0, "map", odd, 1), (1, "map", odd, 1), (2, "player", .int 2, 3), (3, "player", .bl true, 3), (4, "map", odd, 1)]) (a := (5, "plan", far, 4)) (fun b hb => fr b (List.mem_of_mem_take (i := 6) (by exact hb))) (by simp) ?_
  try simp only [asN_nx, wp_sExp, wp_metL, wp_var, atV_zero, atV_succ, List.cons_append, List.nil_append, List.set]
  refine (isC (l := [(0, "map", odd, 1), (1, "map", odd, 1), (2, "player", .int 2, 3), (3, "player", .bl true, 3), (4, "map", odd, 1), (5, "plan", far, 4)])).mpr ?_
  try simp only [wp_aCons, wp_aNil, wp_lstD, wp_tupD, wp_lamE, wp_var, wp_con, atV_zero, atV_succ]
  refine ⟨rfl, ?_⟩
  refine app_step (l := [(0, "map", odd, 1), (1, "map", odd, 1), (2, "player", .int 2, 3), (3, "player", .bl true, 3), (4, "map", odd, 1), (5, "plan", far, 4)]) (a := (6, "plan", far, 4)) (fun b hb => fr b (List.mem_of_mem_take (i := 7) (by exact hb))) (by simp) ?_
  try simp only [asN_nx, wp_sExp, wp_metL, wp_var, atV_zero, atV_succ, List.cons_append, List.nil_append, List.set]
  refine (isC (l := [(0, "map", odd, 1), (1, "map", odd, 1), (2, "player", .int 2, 3), (3, "player", .bl true, 3), (4, "map", odd, 1), (5, "plan", far, 4), (6, "plan", far, 4)])).mpr ?_
  try simp only [wp_aCons, wp_aNil, wp_lstD, wp_tupD, wp_lamE, wp_var, wp_con, atV_zero, atV_succ]
  refine ⟨rfl, ?_⟩
  refine app_step (l := [(0, "map", odd, 1), (1, "map", odd, 1), (2, "player", .int 2, 3), (3, "player", .bl true, 3), (4, "map", odd, 1), (5, "plan", far, 4), (6, "plan", far, 4)]) (a := (7, "place", bad, 2)) (fun b hb => fr b (List.mem_of_mem_take (i := 8) (by exact hb))) (by simp) ?_
  have c5 := cellL_at (h1 := H) (xs := (casesL odd bad far).map caseV) (tl := [])
  simp only [asN_nx, wp_sFrz, atV_zero, atV_succ]
  refine wp_frz_cases c5 fr ?_
  rw [set_end]
  simp only [asN_nx, List.set, wp_sFor, wp_seqI, wp_var, atV_zero, atV_succ]
  rw [wp_itI_lst]
  generalize casesL odd bad far = Ls at cs
  refine wp_loopL Ls caseV (fun j env h2 => ∃ a7 a8 a9 a10 a11 : Option MV, env = [some (.cell i), some (gameV o m), some (.tup (P0.map oV)), some (.tup (P1.map oV)), some odd, some bad, some far, a7, a8, a9, a10, a11] ∧ h2 = H ++ [none]) ⟨_, _, _, _, _, rfl, rfl⟩ ?_ ?_
  · rintro t a env h2 ea tl ⟨a7, a8, a9, a10, a11, rfl, rfl⟩
    have C := cs a (List.mem_of_getElem? ea)
    obtain ⟨mk, eM, xM⟩ := C.ex
    simp only [caseV, wp_gT, List.length_cons, List.length_nil, true_and, wp_gsCons, wp_gN, wp_gsNil, List.set, wp_sSeq, wp_sSet, wp_bin]
    refine wp_heardV (k := a.1) ?_ eM (xM _ _ _ _ _ _) C.lt ?_
    · simp only [wp_var, atV_zero, atV_succ, and_self]
    · simp only [wp_con, wp_ix_tup, ix0, Option.some.injEq, exists_eq_left', asN_nx, List.set, wp_sIf, wp_bOr, wp_tst, wp_bin, wp_callE, wp_aCons, wp_aNil, wp_var, atV_zero, atV_succ, wp_lstD, wp_newF]
      refine C.wd _ _ ?_
      refine ⟨rfl, ?_⟩
      rw [wp_eqW4 C.w]
      simp only [Bool.not_true, asB_bl, Bool.false_eq_true, if_false, wp_una, wp_var, atV_zero, atV_succ, wp_errV]
      refine wp_sameR C.r ?_
      simp only [Bool.not_true, asB_bl, Bool.false_eq_true, if_false, wp_sNil, asN_nx]
      exact ⟨_, _, _, _, _, rfl, trivial⟩
  · rintro env h2 ⟨a7, a8, a9, a10, a11, rfl, rfl⟩
    simp only [asN_nx, wp_sRet, wp_con]
    have hl : h.length = H.length := by rw [← hH, List.length_set]
    have tk : (H ++ [none]).take h.length = h.set i (some (.lst q3)) := by rw [hl, List.take_left, hH]
    simp only [asN_rt, retOf, tk]
    obtain ⟨a, b, d, rfl, r⟩ := hp3
    exact ⟨rfl, noLH_set nl (noLO_free rfl), q _ ⟨a, b, d, rfl, by omega, by omega, by omega, by omega, by omega⟩⟩
end
end Lw

set_option Elab.async false
set_option linter.all false
set_option maxRecDepth 100000
set_option maxHeartbeats 4000000
namespace Lw
open PySem PySem.Spec PyProof.Rows L2 Mi
section
variable {h : MH} {Q : MV → MH → Prop} {o : List Int} {m : List (Int × Int)} {env : Ev}
theorem wp_is_bb {neg a b : Bool} : Wp (isM neg (.bl a) (.bl b)) h Q ↔ Q (.bl (if neg then !decide (a = b) else decide (a = b))) h := wp_pure
theorem gd_bls3 (a b c : Bool) : Gd 1 (3 * (80 + 1)) (.tup [.bl a, .bl b, .bl c]) := by
  refine gd_tupN (D := 0) (W := 80) (by simp) fun x hx => ?_
  simp only [List.mem_cons, List.not_mem_nil, or_false] at hx
  rcases hx with rfl | rfl | rfl <;> exact gd_bl
theorem bd_ints {n : Nat} {l : List Int} (few : l.length ≤ 1000) (b : ∀ y ∈ l, -1000000 ≤ y ∧ y ≤ 1000000) : Bd (n + 1) (.tup (l.map .int)) := by
  rw [bd_succ]
  refine .inr ⟨_, rfl, by rw [List.length_map]; exact few, fun x hx => ?_⟩
  obtain ⟨y, hy, rfl⟩ := List.mem_map.mp hx
  exact Bd.up (.inr ⟨y, rfl, b y hy⟩)
theorem bd_os {n : Nat} {l : List (Option Int)} (few : l.length ≤ 1000) (b : ∀ y, some y ∈ l → -1000000 ≤ y ∧ y ≤ 1000000) : Bd (n + 1) (.tup (l.map oV)) := by
  rw [bd_succ]
  refine .inr ⟨_, rfl, by rw [List.length_map]; exact few, fun x hx => ?_⟩
  obtain ⟨y, hy, rfl⟩ := List.mem_map.mp hx
  cases y with
  | none => exact Bd.up (.inl rfl)
  | some y => exact Bd.up (.inr ⟨y, rfl, b y hy⟩)
theorem plan_bd {w : Int} {P : List (Option Int)} (G : Game o m) (p : PlanR o m w P) : ∀ y, some y ∈ P → -1000000 ≤ y ∧ y ≤ 1000000 := fun y hy => by
  have o12 := G.o12
  obtain ⟨i, hi⟩ := List.mem_iff_getElem?.mp hy
  have il : i < o.length := by rw [← p.len]; exact (List.getElem?_eq_some_iff.mp hi).1
  have e := look_range' hi
  by_cases c : o.getD i 0 = w
  · obtain ⟨t, et, ht⟩ := p.own i il c
    rw [e] at et
    cases et
    have := waysU_rng G i _ ht
    omega
  · have := p.non i il c
    rw [e] at this; cases this
/-- the body of the law's look at one value -/
def lookB : SM := sSeq (sSet 9 (tupD (aCons (callE m_is_play (aCons (var 1) (aCons (var 8) aNil))) (aCons (callE m_is_plan (aCons (var 1) (aCons (con (.int 0)) (aCons (var 8) aNil)))) (aCons (callE m_is_plan (aCons (var 1) (aCons (con (.int 1)) (aCons (var 8) aNil)))) aNil))))) (sSeq (sSet 10 (tupD (aCons (callE m__law_is_play (aCons (var 1) (aCons (var 8) aNil))) (aCons (callE m__law_is_plan (aCons (var 1) (aCons (con (.int 0)) (aCons (var 8) aNil)))) (aCons (callE m__law_is_plan (aCons (var 1) (aCons (con (.int 1)) (aCons (var 8) aNil)))) aNil))))) (sIf (tst (bin (eqS true) (callE reprM (aCons (var 9) aNil)) (callE reprM (aCons (var 10) aNil)))) (sRet (con (.bl false))) sNil))
theorem wp_look {v : MV} (G : Game o m) (f : v.free = true) {k0 k2 k3 k4 k5 k6 k7 k9 k10 k11 : Option MV} {Qf : Fl → MH → Prop} (q : ∀ k9 k10 : Option MV, Qf (.nx [k0, some (gameV o m), k2, k3, k4, k5, k6, k7, some v, k9, k10, k11]) h) : Wp (lookB [k0, some (gameV o m), k2, k3, k4, k5, k6, k7, some v, k9, k10, k11]) h Qf := by
  obtain ⟨b, _, _, pl, ll⟩ := play_value G f
  unfold lookB
  simp only [wp_sSeq, wp_sSet, wp_tupD, wp_aCons, wp_aNil, wp_callE, wp_var, wp_con, atV_zero, atV_succ]
  refine pl _ _ ?_
  refine wp_is_plan G (.inl rfl) f ?_
  refine wp_is_plan G (.inr rfl) f ?_
  refine ⟨rfl, ?_⟩
  simp only [asN_nx, List.set, wp_sSet, wp_tupD, wp_aCons, wp_aNil, wp_callE, wp_var, wp_con, atV_zero, atV_succ]
  refine ll _ _ ?_
  refine wp_lis_plan G f ?_
  refine wp_lis_plan G f ?_
  refine ⟨rfl, ?_⟩
  have g := gd_bls3 b (planB o m 0 v) (planB o m 1 v)
  simp only [asN_nx, List.set, wp_sIf, wp_tst, wp_bin, wp_callE, wp_aCons, wp_aNil, wp_var, atV_zero, atV_succ]
  rw [wp_repr_gd g (by decide) (by decide), wp_repr_gd g (by decide) (by decide), wp_neS]
  simp only [asB_bl, Bool.false_eq_true, if_false, wp_sNil]
  exact q _ _
theorem freeAll_cat {a b : List MV} (f : MV.freeAll a = true) (g : MV.freeAll b = true) : MV.freeAll (a ++ b) = true := by rw [freeAll_app, f, g]; rfl
theorem wp_right {i : Nat} {N : Int} {p : List MV} (hc : cellL h i p) (hp : PotC N p) (hN : N + 1000 ≤ 100000) (nl : noLH h = true) (q : ∀ (p' : List MV), PotC (N + 1000) p' → Q (.bl true) (h.set i (some (.lst p')))) : Wp (m__law_right [.cell i]) h Q := by
  have hi := cell_lt hc
  unfold m__law_right
  rw [wp_def1, wp_sSeq]
  simp only [wp_sSet, wp_callE (m := m__law_game), wp_aCons, wp_aNil, wp_var, wp_con, List.replicate, atV_zero, atV_succ]
  refine wp_lgame (a := 8) (w := 3) hc hp (by omega) (by omega) (by omega) fun o m p1 G o6 hp1 => ?_
  have o1 := G.o1
  have o12 := G.o12
  have c1 : cellL (h.set i (some (.lst p1))) i p1 := cell_set hi
  simp only [asN_nx, List.set]
  rw [wp_sSeq]
  simp only [wp_sAsg, wp_tupD, wp_aCons, wp_aNil, wp_callE (m := m__law_plan), wp_var, wp_con, atV_zero, atV_succ]
  refine wp_law_plan G c1 hp1 (by omega) fun P0 p2 r0 hp2 => ?_
  rw [List.set_set]
  have c2 : cellL (h.set i (some (.lst p2))) i p2 := cell_set hi
  refine wp_law_plan G c2 hp2 (by omega) fun P1 p3 r1 hp3 => ?_
  rw [List.set_set]
  have c3 : cellL (h.set i (some (.lst p3))) i p3 := cell_set hi
  refine ⟨rfl, ?_⟩
  simp only [wp_gT, List.length_cons, List.length_nil, true_and, wp_gsCons, wp_gN, wp_gsNil, List.set, asN_nx]
  rw [wp_sSeq, wp_sFor]
  rw [wp_rngN (n := o.length) (by omega) (by simp only [wp_sSeq, wp_sExp, wp_sSet, wp_sRet, wp_sIf, wp_sAsg, wp_sFor, wp_sNil, wp_sRetN, wp_sPar, wp_bAnd, wp_bOr, wp_bNot, wp_tst, wp_iff, wp_eAnd, wp_eOr, wp_eNot, wp_chn, wp_bin, wp_una, wp_var, wp_con, wp_aCons, wp_aNil, wp_aStar, atV_zero, atV_succ, asN_nx, asN_rt, asB_bl, asI_int, List.set, List.replicate, retOf, if_true, if_false, Bool.false_eq_true, Bool.not_true, Bool.not_false, wp_gT, wp_gN, wp_gsCons, wp_gsNil, wp_gSub, List.length_cons, List.length_nil, true_and, wipeE, wp_le, wp_lt, wp_gt, wp_ge, wp_sub, wp_add, wp_neg, wp_ix_tup, wp_ix_lst, ix0, ix1, Option.some.injEq, exists_eq_left', wp_len_tup, wp_len_lst, wp_itI_tup, wp_itI_lst, wp_seqI, wp_enumI, wp_zipI, wp_cut_bl, wp_cut_int, wp_cut_non, wp_metL, wp_isL_lst, wp_slE, wp_oSome, wp_oNone, wp_tupD, wp_lstD, wp_newF, wp_is_non, wp_callE, List.length_map, MV.isNon, wp_eq_int, wp_bYes, wp_bIff, wp_sPar3, wp_rgE, wp_newT, wp_itS_lst, wp_itS_tup, and_self, exists_eq_left, sized_nil, gameV, intsV, and_self])]
  refine wp_loopL (List.range o.length) (fun i : Nat => MV.int i) (fun j env h' => ∃ a4 : Option MV, env = [some (.cell i), some (gameV o m), some (.tup (P0.map oV)), some (.tup (P1.map oV)), a4, none, none, none, none, none, none, none] ∧ h' = h.set i (some (.lst p3))) ⟨_, rfl, rfl⟩ ?_ ?_
  · rintro j x env h' ex jl ⟨a4, rfl, rfl⟩
    obtain ⟨rfl, hx⟩ := Mi.range_get ex
    obtain ⟨V, gV, t1, t2⟩ := tw_value G r0 r1 (x := (x : Int)) ⟨by omega, by omega⟩
    simp only [wp_gN, List.set, wp_sIf, wp_tst, wp_bin, wp_callE, wp_aCons, wp_aNil, wp_var, atV_zero, atV_succ]
    refine t1 _ _ ?_
    rw [wp_repr_gd gV (by decide) (by decide)]
    refine t2 _ _ ?_
    rw [wp_repr_gd gV (by decide) (by decide), wp_neS]
    simp only [asB_bl, Bool.false_eq_true, if_false, wp_sNil, asN_nx]
    exact ⟨_, rfl, trivial⟩
  rintro env h' ⟨a4, rfl, rfl⟩
  simp only [asN_nx]
  rw [wp_sSeq]
  simp only [wp_sSet, wp_callE (m := m__law_play), wp_aCons, wp_aNil, wp_var, wp_con, atV_zero, atV_succ]
  refine wp_law_play G c3 hp3 (by omega) fun r x p4 rl rg hp4 => ?_
  rw [List.set_set]
  have c4 : cellL (h.set i (some (.lst p4))) i p4 := cell_set hi
  have rn : (r ++ [x]).length ≤ 21 := by simp; omega
  simp only [asN_nx, List.set]
  rw [wp_sSeq]
  simp only [wp_sSet, wp_bin, wp_tupD, wp_aCons, wp_aNil, wp_var, wp_con, wp_una, wp_neg, atV_zero, atV_succ, wp_ix_tup, at_last, Option.some.injEq, exists_eq_left']
  refine ⟨rfl, ?_⟩
  rw [show (MV.int 1000) = MV.int ((1000 : Nat) : Int) from rfl, wp_mulT (by simp) (by decide), rep_one, wp_cat_tup (by rw [List.length_map, List.length_replicate]; omega)]
  have fp : MV.freeAll ((r ++ [x]).map MV.int) = true := free_ints _
  have fl : MV.freeAll ((r ++ [x]).map MV.int ++ List.replicate 1000 (MV.int x)) = true := freeAll_cat fp (freeAll_mem fun y hy => by rw [List.eq_of_mem_replicate hy]; rfl)
  generalize (r ++ [x]).map MV.int ++ List.replicate 1000 (MV.int x) = long at fl
  simp only [asN_nx, List.set]
  rw [wp_sSeq]
  simp only [wp_sSet, wp_lstD, wp_tupD, wp_aCons, wp_aNil, wp_slE, wp_oNone, wp_oSome, wp_callE, wp_bin, wp_var, wp_con, atV_zero, atV_succ, wp_sl_tup, asI_int, wp_list_tup, wp_newF, gameV, wp_ix_tup, ix0, Option.some.injEq, exists_eq_left', intsV, wp_len_tup, List.length_map]
  refine ⟨rfl, rfl, ?_⟩
  rw [wp_cat_tup (by rw [List.length_map]; simp; omega)]
  refine wp_odd c4 hp4 (by omega) fun y p5 fy hp5 => ?_
  rw [List.set_set]
  have c5 : cellL (h.set i (some (.lst p5))) i p5 := cell_set hi
  refine ⟨rfl, ?_⟩
  have f1 : MV.freeAll [.tup ((r ++ [x]).map .int), .tup (P0.map oV), .tup (P1.map oV), .tup (cutA long none (some 1000)), .tup (cutA long none (some 1001)), .tup [], .lst ((r ++ [x]).map .int), .tup ((r ++ [x]).map .int ++ [.int (o.length : Nat)]), y] = true := by
    refine freeAll_mem fun z hz => ?_
    simp only [List.mem_cons, List.not_mem_nil, or_false] at hz
    rcases hz with rfl | rfl | rfl | rfl | rfl | rfl | rfl | rfl | rfl
    · exact free_of_tup fp
    · exact free_plan P0
    · exact free_plan P1
    · exact free_of_tup (free_cutA _ _ _ fl)
    · exact free_of_tup (free_cutA _ _ _ fl)
    · rfl
    · exact free_of_lst fp
    · exact free_of_tup (freeAll_cat fp rfl)
    · exact fy
  have l1 : ([.tup ((r ++ [x]).map .int), .tup (P0.map oV), .tup (P1.map oV), .tup (cutA long none (some 1000)), .tup (cutA long none (some 1001)), .tup [], .lst ((r ++ [x]).map .int), .tup ((r ++ [x]).map .int ++ [.int (o.length : Nat)]), y] : List MV).length = 9 := rfl
  simp only [asN_nx, List.set]
  generalize ([.tup ((r ++ [x]).map .int), .tup (P0.map oV), .tup (P1.map oV), .tup (cutA long none (some 1000)), .tup (cutA long none (some 1001)), .tup [], .lst ((r ++ [x]).map .int), .tup ((r ++ [x]).map .int ++ [.int (o.length : Nat)]), y] : List MV) = vs at f1 l1
  rw [wp_sSeq, wp_sSet, wp_bin]
  simp only [wp_var, atV_zero, atV_succ]
  have bs : ∀ v ∈ [MV.tup ((r ++ [x]).map .int), .tup (P0.map oV), .tup (P1.map oV)], Bd 11 v := fun v hv => by
    simp only [List.mem_cons, List.not_mem_nil, or_false] at hv
    rcases hv with rfl | rfl | rfl
    · exact bd_ints (by omega) fun y hy => by have := rg y hy; omega
    · exact bd_os (by rw [r0.len]; omega) (plan_bd G r0)
    · exact bd_os (by rw [r1.len]; omega) (plan_bd G r1)
  refine wp_compI (xs := (List.range 12).map fun i : Nat => MV.int i) (n := h.length) (fun t h1 acc => ∃ p' : List MV, h1 = h.set i (some (.lst p')) ∧ MV.freeAll acc = true ∧ acc.length ≤ t ∧ PotC (N + 281 + 40 * t) p') ?_ (sl_le (by simp)) ?_ ?_
  · rw [wp_rngL (k := 12) 12 rfl (by decide)]
    exact ⟨rfl, by simp, p5, rfl, rfl, by simp, hp5.mono (by omega)⟩
  · rintro t v h1 acc ht hl al ⟨p', rfl, fa, la, hp'⟩
    have t12 : t < 12 := by have := (List.getElem?_eq_some_iff.mp ht).1; simpa using this
    have c : cellL (h.set i (some (.lst p')) ++ [some (.lst acc)]) i p' := (two_cells hi p' acc).1
    simp only [wp_gN, wipeE, List.set, wp_bYes, if_true, wp_callE, wp_aCons, wp_aNil, wp_lstD, wp_newF, wp_var, atV_zero, atV_succ]
    refine ⟨rfl, ?_⟩
    refine wp_of c hp' (by omega) (by simp) (by simp) (freeAll_mem fun z hz => (bs z hz).free) fun b p6 hb hp6 => ?_
    rw [two_setp hi]
    have c6 : cellL (h.set i (some (.lst p6)) ++ [some (.lst acc)]) i p6 := (two_cells hi p6 acc).1
    refine wp_bent (n := 11) (by decide) (bs b hb) c6 hp6 (by omega) fun z p7 fz hp7 => ?_
    rw [two_setp hi]
    refine ⟨h.set i (some (.lst p7)), rfl, by simp, p7, rfl, freeAll_cat fa (by simp [MV.freeAll, fz]), by simp; omega, hp7.mono (by omega)⟩
  rintro h1 acc hl ⟨p6, rfl, fa, la, hp6⟩
  rw [List.length_map, List.length_range] at la hp6
  rw [if_neg (by decide)]
  refine ⟨fa, ?_⟩
  rw [wp_cat_lst (by omega), wp_newF]
  have fv : ∀ v ∈ vs ++ acc, v.free = true := fun v hv => mem_freeAll (freeAll_cat f1 fa) v hv
  generalize vs ++ acc = us at fv
  simp only [asN_nx, List.set]
  rw [wp_sSeq, wp_sFor]
  simp only [wp_seqI, wp_var, atV_zero, atV_succ]
  rw [wp_itI_lst, show us = us.map id by simp]
  refine wp_loopL us id (fun j env h' => ∃ (a4 a6 a8 a9 a10 : Option MV), env = [some (.cell i), some (gameV o m), some (.tup (P0.map oV)), some (.tup (P1.map oV)), a4, some (.tup ((r ++ [x]).map .int)), a6, some (.lst (us.map id)), a8, a9, a10, none] ∧ h' = h.set i (some (.lst p6))) ⟨_, _, _, _, _, rfl, rfl⟩ ?_ ?_
  · rintro j v env h' ev jl ⟨a4, a6, a8, a9, a10, rfl, rfl⟩
    have f := fv v (List.mem_of_getElem? ev)
    rw [wp_gN]
    simp only [List.set, id]
    refine wp_look G f fun k9 k10 => ?_
    rw [asN_nx]
    exact ⟨_, _, _, _, _, rfl, rfl⟩
  rintro env h' ⟨a4, a6, a8, a9, a10, rfl, rfl⟩
  have c6 : cellL (h.set i (some (.lst p6))) i p6 := cell_set hi
  have f6 : MV.freeAll p6 = true := by
    obtain ⟨a, b, d, rfl, r⟩ := hp6
    rfl
  simp only [asN_nx, wp_sRet, wp_callE, wp_aCons, wp_aNil, wp_var, atV_zero, atV_succ]
  refine wp_refused G r0 r1 c6 hp6 (by omega) (noLH_set nl (noLO_free f6)) fun p7 hp7 => ?_
  rw [List.set_set]
  show Wp (cutv h.length (.bl true)) _ Q
  rw [wp_cutv rfl, List.take_of_length_le (by simp)]
  exact q p7 (hp7.mono (by omega))
end
end Lw

set_option Elab.async false
set_option linter.all false
set_option maxRecDepth 100000
set_option maxHeartbeats 4000000
namespace Lw
open PySem PySem.Spec PyProof.Rows L2 Mi
section
def ringL : List Int := (List.replicate 500 [(0 : Int), 1]).flatten
theorem ring_row : (List.replicate 500 [MV.int 0, .int 1]).flatten = ringL.map .int := by
  unfold ringL
  rw [List.map_flatten, List.map_replicate]; rfl
theorem ring_len : ringL.length = 1000 := by
  unfold ringL
  simp
theorem ring_game : Game [0, 1] [(0, 1), (1, 0)] := ⟨by decide, by decide, by decide, by decide, by decide, by decide, by decide, by decide⟩
theorem ring_rng : ∀ y ∈ ringL, 0 ≤ y ∧ y < (([0, 1] : List Int).length : Nat) := fun y hy => by
  unfold ringL at hy
  obtain ⟨l, hl, hy⟩ := List.mem_flatten.mp hy
  rw [List.eq_of_mem_replicate hl] at hy
  simp only [List.mem_cons, List.not_mem_nil, or_false] at hy
  rcases hy with rfl | rfl <;> decide
theorem ring_tup : isTup (.tup (ringL.map .int)) 1 1000 = true := by
  simp only [isTup, List.length_map, ring_len]
  decide
theorem ring_no : isTup (.tup (ringL.map .int ++ [.int 0])) 1 1000 = false := by
  simp only [isTup, List.length_append, List.length_map, ring_len, List.length_singleton]
  decide
theorem ring_links : ((ringL.zip (ringL.drop 1)).map fun p => (waysU [(0, 1), (1, 0)] p.1).contains p.2).all id = true := by decide +kernel
theorem law_says : Says m_law 63 := by
  intro ns hn
  have w : Wp (m_law [.scr (ns.map .int)]) [] fun v _ => v = .bl true := by
    unfold m_law
    rw [wp_def1, wp_sSeq]
    simp only [wp_sSet, wp_tupD, wp_aCons, wp_aNil, wp_var, wp_con, List.replicate, atV_zero]
    refine ⟨rfl, rfl, rfl, rfl, rfl, ?_⟩
    simp only [asN_nx, List.set]
    rw [wp_sSeq]
    simp only [wp_sIf, wp_bOr, wp_tst, wp_bin, wp_callE, wp_aCons, wp_aNil, wp_tupD, wp_var, wp_con, atV_zero, atV_succ]
    refine ⟨rfl, ?_⟩
    rw [show (MV.int 500) = MV.int ((500 : Nat) : Int) from rfl, wp_mulT (by simp) (by decide), ring_row]
    rw [show MV.tup [.tup [.int 0, .int 1], .tup [.tup [.int 0, .int 1], .tup [.int 1, .int 0]]] = gameV [0, 1] [(0, 1), (1, 0)] from rfl]
    obtain ⟨b, _, b2, pl, _⟩ := play_value ring_game (v := .tup (ringL.map .int)) (free_of_tup (free_ints _))
    refine pl _ _ ?_
    rw [b2 ringL rfl ring_tup ring_rng, ring_links, wp_is_bb]
    simp only [decide_true, if_true, Bool.not_true, asB_bl, Bool.false_eq_true, if_false]
    refine ⟨rfl, ?_⟩
    rw [wp_mulT (by simp) (by decide), ring_row]
    refine ⟨rfl, ?_⟩
    rw [wp_cat_tup (by rw [List.length_map, ring_len]; simp)]
    obtain ⟨b', c1, _, pl', _⟩ := play_value ring_game (v := .tup (ringL.map .int ++ [.int 0])) (free_of_tup (freeAll_cat (free_ints _) rfl))
    refine pl' _ _ ?_
    rw [c1 ring_no, wp_is_bb]
    simp only [decide_true, if_true, Bool.not_true, asB_bl, Bool.false_eq_true, if_false, wp_sNil, asN_nx]
    rw [wp_sSeq]
    simp only [wp_sFor, wp_seqI, wp_callE (m := m__law_cells), wp_aCons, wp_aNil, wp_var, wp_con, atV_zero, atV_succ]
    refine wp_cells (k := 3) (by decide) fun n n1 n3 => ?_
    simp only [wp_itI_lst]
    refine wp_loop (fun j env h => ∃ a1 a2 : Option MV, env = [some (.scr (ns.map .int)), some (gameV [0, 1] [(0, 1), (1, 0)]), a1, a2, none] ∧ noLH h = true) ⟨_, _, rfl, rfl⟩ ?_ ?_
    · rintro j v env h hj ⟨a1, a2, rfl, nl⟩
      obtain ⟨rfl, jn⟩ := rgA_get hj
      simp only [wp_gN, List.set, wp_sSeq, wp_sSet, wp_callE (m := m__law_pot), wp_aCons, wp_aNil, wp_var, atV_zero, atV_succ]
      refine wp_pot hn (by omega) fun p hp => ?_
      simp only [asN_nx, wp_sIf, wp_bNot, wp_tst, wp_callE (m := allM), wp_aCons, wp_aNil]
      refine wp_compI (xs := (List.range 2).map fun i : Nat => MV.int i) (n := (h ++ [some (MObj.lst p)]).length) (fun t h1 acc => ∃ p' : List MV, h1 = h ++ [some (.lst p')] ∧ acc = (List.replicate t true).map .bl ∧ PotC (1000 * t) p') ?_ ?_ ?_ ?_
      · rw [wp_rngL (k := 2) 2 rfl (by decide)]
        exact ⟨rfl, rfl, p, rfl, rfl, by simpa using hp⟩
      · exact sl_le (by simp)
      · rintro t v h1 acc ht hl _ ⟨p', rfl, rfl, hp'⟩
        have t3 : t < 2 := by have := (List.getElem?_eq_some_iff.mp ht).1; simpa using this
        simp only [wp_gN, wipeE, List.set, wp_bYes, if_true, wp_callE, wp_aCons, wp_aNil, wp_var, atV_zero, atV_succ]
        have c : cellL ((h ++ [some (MObj.lst p')]) ++ [some (.lst ((List.replicate t true).map .bl))]) h.length p' := cell_app _ cellL_at
        have fp : MV.freeAll p' = true := by
          obtain ⟨a, b, d, rfl, r⟩ := hp'
          rfl
        have nl2 : noLH ((h ++ [some (MObj.lst p')]) ++ [some (.lst ((List.replicate t true).map .bl))]) = true := by
          rw [noLH_app, noLH_app, nl]
          show (noLO (some (.lst p')) && true && (noLO (some (.lst ((List.replicate t true).map .bl))) && true)) = true
          rw [noLO_free fp, noLO_free (freeAll_map fun _ _ => rfl)]; rfl
        refine wp_right c hp' (by omega) nl2 fun p2 hp2 => ?_
        refine ⟨h ++ [some (.lst p2)], ?_, by simp, p2, rfl, ?_, by rw [show 1000 * ((t + 1 : Nat) : Int) = 1000 * (t : Int) + 1000 by omega]; exact hp2⟩
        · rw [List.append_assoc, List.append_assoc]
          exact set_mid
        · rw [List.replicate_succ', List.map_append]; rfl
      · rintro h1 acc hl ⟨p', rfl, rfl, hp'⟩
        rw [if_neg (by decide)]
        refine ⟨rfl, ?_⟩
        rw [show allM = boolsM (fun bs => bs.all id) from rfl, wp_bools]
        simp only [asB_bl]
        have fp : MV.freeAll p' = true := by
          obtain ⟨a, b, d, rfl, r⟩ := hp'
          rfl
        refine ⟨_, _, rfl, ?_⟩
        rw [noLH_app, nl]
        show (true && (noLO (some (.lst p')) && true)) = true
        rw [noLO_free fp]; rfl
    · rintro env h ⟨a1, a2, rfl, nl⟩
      simp only [wp_sSeq, wp_sExp, wp_sSet, wp_sRet, wp_sIf, wp_sAsg, wp_sFor, wp_sNil, wp_sRetN, wp_sPar, wp_bAnd, wp_bOr, wp_bNot, wp_tst, wp_iff, wp_eAnd, wp_eOr, wp_eNot, wp_chn, wp_bin, wp_una, wp_var, wp_con, wp_aCons, wp_aNil, wp_aStar, atV_zero, atV_succ, asN_nx, asN_rt, asB_bl, asI_int, List.set, List.replicate, retOf, if_true, if_false, Bool.false_eq_true, Bool.not_true, Bool.not_false, wp_gT, wp_gN, wp_gsCons, wp_gsNil, wp_gSub, List.length_cons, List.length_nil, true_and, wipeE, wp_le, wp_lt, wp_gt, wp_ge, wp_sub, wp_add, wp_neg, wp_ix_tup, wp_ix_lst, ix0, ix1, Option.some.injEq, exists_eq_left', wp_len_tup, wp_len_lst, wp_itI_tup, wp_itI_lst, wp_seqI, wp_enumI, wp_zipI, wp_cut_bl, wp_cut_int, wp_cut_non, wp_metL, wp_isL_lst, wp_slE, wp_oSome, wp_oNone, wp_tupD, wp_lstD, wp_newF, wp_is_non, wp_callE, List.length_map, MV.isNon, wp_eq_int, wp_bYes, wp_bIff, wp_sPar3, wp_rgE, wp_newT, wp_itS_lst, wp_itS_tup, and_self, exists_eq_left, sized_nil]
      rw [wp_cutv rfl]
  obtain ⟨a, h', e, rfl⟩ := w.ok
  exact ⟨h', e⟩
end
end Lw

set_option Elab.async false
set_option linter.all false
set_option maxRecDepth 100000
set_option maxHeartbeats 4000000
namespace Lw
open PySem PySem.Spec PyProof.Rows L2 Mi
theorem sc_hrd : FnScope hrdN ["call"] (defScope (topS 34)) := ⟨rfl, rfl, rfl, by decide +kernel, rfl, by decide +kernel, by decide +kernel⟩
theorem hrd_body : ∃ (p1 p2 p3 p4 p5 p6 p7 p8 p9 p10 p11 p12 p13 p14 p15 p16 p17 p18 p19 p20 p21 : Pos) (j1 j2 k1 k2 k3 : Nat), defBody (topS 34) = [.Assign [.Tuple [.Name "caught" p1, .Name "back" p2] k1 p3] (.Tuple [.Constant .none j1 p4, .Constant .none j2 p5] k2 p6) p7,
    .Try [.Assign [.Name "back" p8] (.Call (.Name "call" p9) [] [] p10) p11] [.ExceptHandler (some (.Name "GameError" p12)) (some "error") [.Assign [.Name "caught" p13] (.Name "error" p14) p15] p16] [] [] p17,
    .Return (some (.Tuple [.Name "caught" p18, .Name "back" p19] k3 p20)) p21] ∧
    ∀ V : Env, V.scope = defScope (topS 34) → swapsWithSole [.Tuple [.Name "caught" p1, .Name "back" p2] k1 p3] (.Tuple [.Constant .none j1 p4, .Constant .none j2 p5] k2 p6) p7.line V = pure false ∧ swappedStores [.Tuple [.Name "caught" p1, .Name "back" p2] k1 p3] (.Tuple [.Constant .none j1 p4, .Constant .none j2 p5] k2 p6) V = pure none :=
  ⟨_, _, _, _, _, _, _, _, _, _, _, _, _, _, _, _, _, _, _, _, _, _, _, _, _, _, rfl, fun V h => by
    cases V
    cases h
    exact ⟨rfl, rfl⟩⟩
def last_all {P : Program} {w : World} {K : PySem.W.Frag} {mg : Str → Option Value} {h : Heap} {fa : Addr} (X : K.In h) (G : h.Ns mainGlobals mg) (hmg : mg "law" = some (.ref fa)) {q : Program} (tab : ∀ (x : Str) (d : DefRec) (c P : Addr), (recsOf q).find? (fun e => e.name == x) = some d → PySem.W.tabIn K x = some (c, P) → PySem.W.CodeHd h c P ∧ h.get? P = some { cls := .none, data := .fields #[] })
    {f1 : Addr} {o1 k1V d1 p1 cd1 ct1 : Value} {q1 n1 : Option Addr} {s1 : Array (Option Value)} (a1 : PySem.W.nsIn K mainGlobals "is_tuple" = some (some (.ref f1))) (l1 : K.lookup f1 = some ⟨o1, q1, .func (PySem.W.fnOf "is_tuple" "is_tuple" (defArgs (topS 1)) (defBody (topS 1)) (defScope (topS 1)) .none k1V d1 p1 n1 cd1 ct1), s1⟩) (c1 : PySem.W.codeIn K cd1 "is_tuple" = true) (k1 : PySem.W.keepIn K (.ref f1) = true)
    {f2 : Addr} {o2 k2V d2 p2 cd2 ct2 : Value} {q2 n2 : Option Addr} {s2 : Array (Option Value)} (a2 : PySem.W.nsIn K mainGlobals "is_whole" = some (some (.ref f2))) (l2 : K.lookup f2 = some ⟨o2, q2, .func (PySem.W.fnOf "is_whole" "is_whole" (defArgs (topS 2)) (defBody (topS 2)) (defScope (topS 2)) .none k2V d2 p2 n2 cd2 ct2), s2⟩) (c2 : PySem.W.codeIn K cd2 "is_whole" = true) (k2 : PySem.W.keepIn K (.ref f2) = true)
    {f3 : Addr} {o3 k3V d3 p3 cd3 ct3 : Value} {q3 n3 : Option Addr} {s3 : Array (Option Value)} (a3 : PySem.W.nsIn K mainGlobals "is_integer" = some (some (.ref f3))) (l3 : K.lookup f3 = some ⟨o3, q3, .func (PySem.W.fnOf "is_integer" "is_integer" (defArgs (topS 3)) (defBody (topS 3)) (defScope (topS 3)) .none k3V d3 p3 n3 cd3 ct3), s3⟩) (c3 : PySem.W.codeIn K cd3 "is_integer" = true) (k3 : PySem.W.keepIn K (.ref f3) = true)
    {f4 : Addr} {o4 k4V d4 p4 cd4 ct4 : Value} {q4 n4 : Option Addr} {s4 : Array (Option Value)} (a4 : PySem.W.nsIn K mainGlobals "is_rising" = some (some (.ref f4))) (l4 : K.lookup f4 = some ⟨o4, q4, .func (PySem.W.fnOf "is_rising" "is_rising" (defArgs (topS 4)) (defBody (topS 4)) (defScope (topS 4)) .none k4V d4 p4 n4 cd4 ct4), s4⟩) (c4 : PySem.W.codeIn K cd4 "is_rising" = true) (k4 : PySem.W.keepIn K (.ref f4) = true)
    {f5 : Addr} {o5 k5V d5 p5 cd5 ct5 : Value} {q5 n5 : Option Addr} {s5 : Array (Option Value)} (a5 : PySem.W.nsIn K mainGlobals "is_move" = some (some (.ref f5))) (l5 : K.lookup f5 = some ⟨o5, q5, .func (PySem.W.fnOf "is_move" "is_move" (defArgs (topS 15)) (defBody (topS 15)) (defScope (topS 15)) .none k5V d5 p5 n5 cd5 ct5), s5⟩) (c5 : PySem.W.codeIn K cd5 "is_move" = true) (k5 : PySem.W.keepIn K (.ref f5) = true)
    {f6 : Addr} {o6 k6V d6 p6 cd6 ct6 : Value} {q6 n6 : Option Addr} {s6 : Array (Option Value)} (a6 : PySem.W.nsIn K mainGlobals "is_map" = some (some (.ref f6))) (l6 : K.lookup f6 = some ⟨o6, q6, .func (PySem.W.fnOf "is_map" "is_map" (defArgs (topS 16)) (defBody (topS 16)) (defScope (topS 16)) .none k6V d6 p6 n6 cd6 ct6), s6⟩) (c6 : PySem.W.codeIn K cd6 "is_map" = true) (k6 : PySem.W.keepIn K (.ref f6) = true)
    {f7 : Addr} {o7 k7V d7 p7 cd7 ct7 : Value} {q7 n7 : Option Addr} {s7 : Array (Option Value)} (a7 : PySem.W.nsIn K mainGlobals "check_map" = some (some (.ref f7))) (l7 : K.lookup f7 = some ⟨o7, q7, .func (PySem.W.fnOf "check_map" "check_map" (defArgs (topS 17)) (defBody (topS 17)) (defScope (topS 17)) .none k7V d7 p7 n7 cd7 ct7), s7⟩) (c7 : PySem.W.codeIn K cd7 "check_map" = true) (k7 : PySem.W.keepIn K (.ref f7) = true)
    {f8 : Addr} {o8 k8V d8 p8 cd8 ct8 : Value} {q8 n8 : Option Addr} {s8 : Array (Option Value)} (a8 : PySem.W.nsIn K mainGlobals "check_player" = some (some (.ref f8))) (l8 : K.lookup f8 = some ⟨o8, q8, .func (PySem.W.fnOf "check_player" "check_player" (defArgs (topS 18)) (defBody (topS 18)) (defScope (topS 18)) .none k8V d8 p8 n8 cd8 ct8), s8⟩) (c8 : PySem.W.codeIn K cd8 "check_player" = true) (k8 : PySem.W.keepIn K (.ref f8) = true)
    {f9 : Addr} {o9 k9V d9 p9 cd9 ct9 : Value} {q9 n9 : Option Addr} {s9 : Array (Option Value)} (a9 : PySem.W.nsIn K mainGlobals "check_place" = some (some (.ref f9))) (l9 : K.lookup f9 = some ⟨o9, q9, .func (PySem.W.fnOf "check_place" "check_place" (defArgs (topS 19)) (defBody (topS 19)) (defScope (topS 19)) .none k9V d9 p9 n9 cd9 ct9), s9⟩) (c9 : PySem.W.codeIn K cd9 "check_place" = true) (k9 : PySem.W.keepIn K (.ref f9) = true)
    {f10 : Addr} {o10 k10V d10 p10 cd10 ct10 : Value} {q10 n10 : Option Addr} {s10 : Array (Option Value)} (a10 : PySem.W.nsIn K mainGlobals "ways" = some (some (.ref f10))) (l10 : K.lookup f10 = some ⟨o10, q10, .func (PySem.W.fnOf "ways" "ways" (defArgs (topS 20)) (defBody (topS 20)) (defScope (topS 20)) .none k10V d10 p10 n10 cd10 ct10), s10⟩) (c10 : PySem.W.codeIn K cd10 "ways" = true) (k10 : PySem.W.keepIn K (.ref f10) = true)
    {f11 : Addr} {o11 k11V d11 p11 cd11 ct11 : Value} {q11 n11 : Option Addr} {s11 : Array (Option Value)} (a11 : PySem.W.nsIn K mainGlobals "is_play" = some (some (.ref f11))) (l11 : K.lookup f11 = some ⟨o11, q11, .func (PySem.W.fnOf "is_play" "is_play" (defArgs (topS 23)) (defBody (topS 23)) (defScope (topS 23)) .none k11V d11 p11 n11 cd11 ct11), s11⟩) (c11 : PySem.W.codeIn K cd11 "is_play" = true) (k11 : PySem.W.keepIn K (.ref f11) = true)
    {f12 : Addr} {o12 k12V d12 p12 cd12 ct12 : Value} {q12 n12 : Option Addr} {s12 : Array (Option Value)} (a12 : PySem.W.nsIn K mainGlobals "is_plan_of" = some (some (.ref f12))) (l12 : K.lookup f12 = some ⟨o12, q12, .func (PySem.W.fnOf "is_plan_of" "is_plan_of" (defArgs (topS 24)) (defBody (topS 24)) (defScope (topS 24)) .none k12V d12 p12 n12 cd12 ct12), s12⟩) (c12 : PySem.W.codeIn K cd12 "is_plan_of" = true) (k12 : PySem.W.keepIn K (.ref f12) = true)
    {f13 : Addr} {o13 k13V d13 p13 cd13 ct13 : Value} {q13 n13 : Option Addr} {s13 : Array (Option Value)} (a13 : PySem.W.nsIn K mainGlobals "is_plan" = some (some (.ref f13))) (l13 : K.lookup f13 = some ⟨o13, q13, .func (PySem.W.fnOf "is_plan" "is_plan" (defArgs (topS 25)) (defBody (topS 25)) (defScope (topS 25)) .none k13V d13 p13 n13 cd13 ct13), s13⟩) (c13 : PySem.W.codeIn K cd13 "is_plan" = true) (k13 : PySem.W.keepIn K (.ref f13) = true)
    {f14 : Addr} {o14 k14V d14 p14 cd14 ct14 : Value} {q14 n14 : Option Addr} {s14 : Array (Option Value)} (a14 : PySem.W.nsIn K mainGlobals "check_plan" = some (some (.ref f14))) (l14 : K.lookup f14 = some ⟨o14, q14, .func (PySem.W.fnOf "check_plan" "check_plan" (defArgs (topS 26)) (defBody (topS 26)) (defScope (topS 26)) .none k14V d14 p14 n14 cd14 ct14), s14⟩) (c14 : PySem.W.codeIn K cd14 "check_plan" = true) (k14 : PySem.W.keepIn K (.ref f14) = true)
    {f15 : Addr} {o15 k15V d15 p15 cd15 ct15 : Value} {q15 n15 : Option Addr} {s15 : Array (Option Value)} (a15 : PySem.W.nsIn K mainGlobals "next_of" = some (some (.ref f15))) (l15 : K.lookup f15 = some ⟨o15, q15, .func (PySem.W.fnOf "next_of" "next_of" (defArgs (topS 27)) (defBody (topS 27)) (defScope (topS 27)) .none k15V d15 p15 n15 cd15 ct15), s15⟩) (c15 : PySem.W.codeIn K cd15 "next_of" = true) (k15 : PySem.W.keepIn K (.ref f15) = true)
    {f16 : Addr} {o16 k16V d16 p16 cd16 ct16 : Value} {q16 n16 : Option Addr} {s16 : Array (Option Value)} (a16 : PySem.W.nsIn K mainGlobals "together" = some (some (.ref f16))) (l16 : K.lookup f16 = some ⟨o16, q16, .func (PySem.W.fnOf "together" "together" (defArgs (topS 28)) (defBody (topS 28)) (defScope (topS 28)) .none k16V d16 p16 n16 cd16 ct16), s16⟩) (c16 : PySem.W.codeIn K cd16 "together" = true) (k16 : PySem.W.keepIn K (.ref f16) = true)
    {f17 : Addr} {o17 k17V d17 p17 cd17 ct17 : Value} {q17 n17 : Option Addr} {s17 : Array (Option Value)} (a17 : PySem.W.nsIn K mainGlobals "_law_pot" = some (some (.ref f17))) (l17 : K.lookup f17 = some ⟨o17, q17, .func (PySem.W.fnOf "_law_pot" "_law_pot" (defArgs (topS 30)) (defBody (topS 30)) (defScope (topS 30)) .none k17V d17 p17 n17 cd17 ct17), s17⟩) (c17 : PySem.W.codeIn K cd17 "_law_pot" = true) (k17 : PySem.W.keepIn K (.ref f17) = true)
    {f18 : Addr} {o18 k18V d18 p18 cd18 ct18 : Value} {q18 n18 : Option Addr} {s18 : Array (Option Value)} (a18 : PySem.W.nsIn K mainGlobals "_law_take" = some (some (.ref f18))) (l18 : K.lookup f18 = some ⟨o18, q18, .func (PySem.W.fnOf "_law_take" "_law_take" (defArgs (topS 31)) (defBody (topS 31)) (defScope (topS 31)) .none k18V d18 p18 n18 cd18 ct18), s18⟩) (c18 : PySem.W.codeIn K cd18 "_law_take" = true) (k18 : PySem.W.keepIn K (.ref f18) = true)
    {f19 : Addr} {o19 k19V d19 p19 cd19 ct19 : Value} {q19 n19 : Option Addr} {s19 : Array (Option Value)} (a19 : PySem.W.nsIn K mainGlobals "_law_of" = some (some (.ref f19))) (l19 : K.lookup f19 = some ⟨o19, q19, .func (PySem.W.fnOf "_law_of" "_law_of" (defArgs (topS 32)) (defBody (topS 32)) (defScope (topS 32)) .none k19V d19 p19 n19 cd19 ct19), s19⟩) (c19 : PySem.W.codeIn K cd19 "_law_of" = true) (k19 : PySem.W.keepIn K (.ref f19) = true)
    {f20 : Addr} {o20 k20V d20 p20 cd20 ct20 : Value} {q20 n20 : Option Addr} {s20 : Array (Option Value)} (a20 : PySem.W.nsIn K mainGlobals "_law_cells" = some (some (.ref f20))) (l20 : K.lookup f20 = some ⟨o20, q20, .func (PySem.W.fnOf "_law_cells" "_law_cells" (defArgs (topS 33)) (defBody (topS 33)) (defScope (topS 33)) .none k20V d20 p20 n20 cd20 ct20), s20⟩) (c20 : PySem.W.codeIn K cd20 "_law_cells" = true) (k20 : PySem.W.keepIn K (.ref f20) = true)
    {f21 : Addr} {o21 k21V d21 p21 cd21 ct21 : Value} {q21 n21 : Option Addr} {s21 : Array (Option Value)} (a21 : PySem.W.nsIn K mainGlobals "_law_odd" = some (some (.ref f21))) (l21 : K.lookup f21 = some ⟨o21, q21, .func (PySem.W.fnOf "_law_odd" "_law_odd" (defArgs (topS 35)) (defBody (topS 35)) (defScope (topS 35)) .none k21V d21 p21 n21 cd21 ct21), s21⟩) (c21 : PySem.W.codeIn K cd21 "_law_odd" = true) (k21 : PySem.W.keepIn K (.ref f21) = true)
    {f22 : Addr} {o22 k22V d22 p22 cd22 ct22 : Value} {q22 n22 : Option Addr} {s22 : Array (Option Value)} (a22 : PySem.W.nsIn K mainGlobals "_law_is_int" = some (some (.ref f22))) (l22 : K.lookup f22 = some ⟨o22, q22, .func (PySem.W.fnOf "_law_is_int" "_law_is_int" (defArgs (topS 36)) (defBody (topS 36)) (defScope (topS 36)) .none k22V d22 p22 n22 cd22 ct22), s22⟩) (c22 : PySem.W.codeIn K cd22 "_law_is_int" = true) (k22 : PySem.W.keepIn K (.ref f22) = true)
    {f23 : Addr} {o23 k23V d23 p23 cd23 ct23 : Value} {q23 n23 : Option Addr} {s23 : Array (Option Value)} (a23 : PySem.W.nsIn K mainGlobals "_law_bent" = some (some (.ref f23))) (l23 : K.lookup f23 = some ⟨o23, q23, .func (PySem.W.fnOf "_law_bent" "_law_bent" (defArgs (topS 37)) (defBody (topS 37)) (defScope (topS 37)) .none k23V d23 p23 n23 cd23 ct23), s23⟩) (c23 : PySem.W.codeIn K cd23 "_law_bent" = true) (k23 : PySem.W.keepIn K (.ref f23) = true)
    {f24 : Addr} {o24 k24V d24 p24 cd24 ct24 : Value} {q24 n24 : Option Addr} {s24 : Array (Option Value)} (a24 : PySem.W.nsIn K mainGlobals "_law_game" = some (some (.ref f24))) (l24 : K.lookup f24 = some ⟨o24, q24, .func (PySem.W.fnOf "_law_game" "_law_game" (defArgs (topS 38)) (defBody (topS 38)) (defScope (topS 38)) .none k24V d24 p24 n24 cd24 ct24), s24⟩) (c24 : PySem.W.codeIn K cd24 "_law_game" = true) (k24 : PySem.W.keepIn K (.ref f24) = true)
    {f25 : Addr} {o25 k25V d25 p25 cd25 ct25 : Value} {q25 n25 : Option Addr} {s25 : Array (Option Value)} (a25 : PySem.W.nsIn K mainGlobals "_law_ways" = some (some (.ref f25))) (l25 : K.lookup f25 = some ⟨o25, q25, .func (PySem.W.fnOf "_law_ways" "_law_ways" (defArgs (topS 39)) (defBody (topS 39)) (defScope (topS 39)) .none k25V d25 p25 n25 cd25 ct25), s25⟩) (c25 : PySem.W.codeIn K cd25 "_law_ways" = true) (k25 : PySem.W.keepIn K (.ref f25) = true)
    {f26 : Addr} {o26 k26V d26 p26 cd26 ct26 : Value} {q26 n26 : Option Addr} {s26 : Array (Option Value)} (a26 : PySem.W.nsIn K mainGlobals "_law_together" = some (some (.ref f26))) (l26 : K.lookup f26 = some ⟨o26, q26, .func (PySem.W.fnOf "_law_together" "_law_together" (defArgs (topS 40)) (defBody (topS 40)) (defScope (topS 40)) .none k26V d26 p26 n26 cd26 ct26), s26⟩) (c26 : PySem.W.codeIn K cd26 "_law_together" = true) (k26 : PySem.W.keepIn K (.ref f26) = true)
    {f27 : Addr} {o27 k27V d27 p27 cd27 ct27 : Value} {q27 n27 : Option Addr} {s27 : Array (Option Value)} (a27 : PySem.W.nsIn K mainGlobals "_law_is_plan" = some (some (.ref f27))) (l27 : K.lookup f27 = some ⟨o27, q27, .func (PySem.W.fnOf "_law_is_plan" "_law_is_plan" (defArgs (topS 41)) (defBody (topS 41)) (defScope (topS 41)) .none k27V d27 p27 n27 cd27 ct27), s27⟩) (c27 : PySem.W.codeIn K cd27 "_law_is_plan" = true) (k27 : PySem.W.keepIn K (.ref f27) = true)
    {f28 : Addr} {o28 k28V d28 p28 cd28 ct28 : Value} {q28 n28 : Option Addr} {s28 : Array (Option Value)} (a28 : PySem.W.nsIn K mainGlobals "_law_is_play" = some (some (.ref f28))) (l28 : K.lookup f28 = some ⟨o28, q28, .func (PySem.W.fnOf "_law_is_play" "_law_is_play" (defArgs (topS 42)) (defBody (topS 42)) (defScope (topS 42)) .none k28V d28 p28 n28 cd28 ct28), s28⟩) (c28 : PySem.W.codeIn K cd28 "_law_is_play" = true) (k28 : PySem.W.keepIn K (.ref f28) = true)
    {f29 : Addr} {o29 k29V d29 p29 cd29 ct29 : Value} {q29 n29 : Option Addr} {s29 : Array (Option Value)} (a29 : PySem.W.nsIn K mainGlobals "_law_plan" = some (some (.ref f29))) (l29 : K.lookup f29 = some ⟨o29, q29, .func (PySem.W.fnOf "_law_plan" "_law_plan" (defArgs (topS 43)) (defBody (topS 43)) (defScope (topS 43)) .none k29V d29 p29 n29 cd29 ct29), s29⟩) (c29 : PySem.W.codeIn K cd29 "_law_plan" = true) (k29 : PySem.W.keepIn K (.ref f29) = true)
    {f30 : Addr} {o30 k30V d30 p30 cd30 ct30 : Value} {q30 n30 : Option Addr} {s30 : Array (Option Value)} (a30 : PySem.W.nsIn K mainGlobals "_law_play" = some (some (.ref f30))) (l30 : K.lookup f30 = some ⟨o30, q30, .func (PySem.W.fnOf "_law_play" "_law_play" (defArgs (topS 44)) (defBody (topS 44)) (defScope (topS 44)) .none k30V d30 p30 n30 cd30 ct30), s30⟩) (c30 : PySem.W.codeIn K cd30 "_law_play" = true) (k30 : PySem.W.keepIn K (.ref f30) = true)
    {f31 : Addr} {o31 k31V d31 p31 cd31 ct31 : Value} {q31 n31 : Option Addr} {s31 : Array (Option Value)} (a31 : PySem.W.nsIn K mainGlobals "_law_word_of" = some (some (.ref f31))) (l31 : K.lookup f31 = some ⟨o31, q31, .func (PySem.W.fnOf "_law_word_of" "_law_word_of" (defArgs (topS 45)) (defBody (topS 45)) (defScope (topS 45)) .none k31V d31 p31 n31 cd31 ct31), s31⟩) (c31 : PySem.W.codeIn K cd31 "_law_word_of" = true) (k31 : PySem.W.keepIn K (.ref f31) = true)
    {cc32 P32 : Addr} (ht32 : PySem.W.tabIn K "_law_are_refused" = some (cc32, P32)) (nt32 : K.lookup P32 = none) (dr32 : ∃ d, (recsOf q).find? (fun e => e.name == ("_law_are_refused" : Str)) = some d)
    {f32 : Addr} {o32 k32V d32 p32 ct32 : Value} {q32 n32 : Option Addr} {s32 : Array (Option Value)} (a32 : PySem.W.nsIn K mainGlobals "_law_are_refused" = some (some (.ref f32))) (l32 : K.lookup f32 = some ⟨o32, q32, .func (PySem.W.fnOf "_law_are_refused" "_law_are_refused" (defArgs (topS 46)) (defBody (topS 46)) (defScope (topS 46)) .none k32V d32 p32 n32 (.ref cc32) ct32), s32⟩) (c32 : PySem.W.codeIn K (.ref cc32) "_law_are_refused" = true) (k32 : PySem.W.keepIn K (.ref f32) = true)
    {f33 : Addr} {o33 k33V d33 p33 cd33 ct33 : Value} {q33 n33 : Option Addr} {s33 : Array (Option Value)} (a33 : PySem.W.nsIn K mainGlobals "_law_right" = some (some (.ref f33))) (l33 : K.lookup f33 = some ⟨o33, q33, .func (PySem.W.fnOf "_law_right" "_law_right" (defArgs (topS 47)) (defBody (topS 47)) (defScope (topS 47)) .none k33V d33 p33 n33 cd33 ct33), s33⟩) (c33 : PySem.W.codeIn K cd33 "_law_right" = true) (k33 : PySem.W.keepIn K (.ref f33) = true)
    {f34 : Addr} {o34 k34V d34 p34 cd34 ct34 : Value} {q34 n34 : Option Addr} {s34 : Array (Option Value)} (a34 : PySem.W.nsIn K mainGlobals "law" = some (some (.ref f34))) (l34 : K.lookup f34 = some ⟨o34, q34, .func (PySem.W.fnOf "law" "law" (defArgs (topS 48)) (defBody (topS 48)) (defScope (topS 48)) .none k34V d34 p34 n34 cd34 ct34), s34⟩) (c34 : PySem.W.codeIn K cd34 "law" = true) (k34 : PySem.W.keepIn K (.ref f34) = true)
    (z_abs : PySem.W.nsIn K mainGlobals "abs" = some none)
    (z_all : PySem.W.nsIn K mainGlobals "all" = some none)
    (z_bool : PySem.W.nsIn K mainGlobals "bool" = some none)
    (z_enumerate : PySem.W.nsIn K mainGlobals "enumerate" = some none)
    (z_int : PySem.W.nsIn K mainGlobals "int" = some none)
    (z_isinstance : PySem.W.nsIn K mainGlobals "isinstance" = some none)
    (z_len : PySem.W.nsIn K mainGlobals "len" = some none)
    (z_list : PySem.W.nsIn K mainGlobals "list" = some none)
    (z_max : PySem.W.nsIn K mainGlobals "max" = some none)
    (z_min : PySem.W.nsIn K mainGlobals "min" = some none)
    (z_range : PySem.W.nsIn K mainGlobals "range" = some none)
    (z_repr : PySem.W.nsIn K mainGlobals "repr" = some none)
    (z_set : PySem.W.nsIn K mainGlobals "set" = some none)
    (z_sorted : PySem.W.nsIn K mainGlobals "sorted" = some none)
    (z_str : PySem.W.nsIn K mainGlobals "str" = some none)
    (z_sum : PySem.W.nsIn K mainGlobals "sum" = some none)
    (z_tuple : PySem.W.nsIn K mainGlobals "tuple" = some none)
    (z_zip : PySem.W.nsIn K mainGlobals "zip" = some none)
    {t_MOST_PLACES : Tok} (i_MOST_PLACES : PySem.W.nsIn K mainGlobals "MOST_PLACES" = some (some (.int 12 t_MOST_PLACES)))
    {t_MOST_MOVES : Tok} (i_MOST_MOVES : PySem.W.nsIn K mainGlobals "MOST_MOVES" = some (some (.int 60 t_MOST_MOVES)))
    {t_PAIR : Tok} (i_PAIR : PySem.W.nsIn K mainGlobals "PAIR" = some (some (.int 2 t_PAIR)))
    {t_MOST_PLAY : Tok} (i_MOST_PLAY : PySem.W.nsIn K mainGlobals "MOST_PLAY" = some (some (.int 1000 t_MOST_PLAY)))
    {C0 : Addr} (ca0 : PySem.W.nsIn K mainGlobals "GameError" = some (some (.ref C0))) (ce0 : ErC K C0) (cx0 : PySem.W.exmOne K (.ref C0) (.ref C0) = some true)
    {C1 : Addr} (ca1 : PySem.W.nsIn K mainGlobals "BadMap" = some (some (.ref C1))) (ce1 : ErC K C1) (cx1 : PySem.W.exmOne K (.ref C1) (.ref C0) = some true)
    {C2 : Addr} (ca2 : PySem.W.nsIn K mainGlobals "BadPlace" = some (some (.ref C2))) (ce2 : ErC K C2) (cx2 : PySem.W.exmOne K (.ref C2) (.ref C0) = some true)
    {C3 : Addr} (ca3 : PySem.W.nsIn K mainGlobals "BadPlayer" = some (some (.ref C3))) (ce3 : ErC K C3) (cx3 : PySem.W.exmOne K (.ref C3) (.ref C0) = some true)
    {C4 : Addr} (ca4 : PySem.W.nsIn K mainGlobals "BadPlan" = some (some (.ref C4))) (ce4 : ErC K C4) (cx4 : PySem.W.exmOne K (.ref C4) (.ref C0) = some true)
    {fh : Addr} {oh khV dh ph cdh cth : Value} {qh nh : Option Addr} {sh : Array (Option Value)} (ah : PySem.W.nsIn K mainGlobals "_law_heard" = some (some (.ref fh))) (lh : K.lookup fh = some ⟨oh, qh, .func (PySem.W.fnOf "_law_heard" "_law_heard" (defArgs (topS 34)) (defBody (topS 34)) (defScope (topS 34)) .none khV dh ph nh cdh cth), sh⟩) (ch : PySem.W.codeIn K cdh "_law_heard" = true) (kh : PySem.W.keepIn K (.ref fh) = true)
    {fi : Addr} {oi kiV di pi cdi cti vi : Value} {qi ni : Option Addr} {si : Array (Option Value)} (li : K.lookup fi = some ⟨oi, qi, .func (PySem.W.fnOf "__init__" "GameError.__init__" (C8.fnArgs iniS) (C8.fnBody iniS) (C8.fnScope iniS) vi kiV di pi ni cdi cti), si⟩) (ci : PySem.W.codeIn K cdi "GameError.__init__" = true) (bi : Binds K (PySem.W.fnOf "__init__" "GameError.__init__" (C8.fnArgs iniS) (C8.fnBody iniS) (C8.fnScope iniS) vi kiV di pi ni cdi cti) ["self", "value"] []) (ti : PySem.W.typeIn K (.ref fi) = some (.type "function")) (zi : PySem.W.nsIn K mainGlobals "ValueError" = some none) (vVi : PySem.W.findCls K (.type "ValueError") (.type "type") "__init__" = some (.val (.builtin "ValueError.__init__")))
    (cox1 : OexC K C1) (cin1 : PySem.W.findIn K (.ref C1) "__init__" = some (some (.ref fi)))
    (cox2 : OexC K C2) (cin2 : PySem.W.findIn K (.ref C2) "__init__" = some (some (.ref fi)))
    (cox4 : OexC K C4) (cin4 : PySem.W.findIn K (.ref C4) "__init__" = some (some (.ref fi)))
    (cox3 : OexC K C3) (cin3 : PySem.W.findIn K (.ref C3) "__init__" = some (some (.ref fi)))
    (is1_0 : PySem.W.kitOne K (.ref C0) (.ref C1) = some false)
    (is1_1 : PySem.W.kitOne K (.ref C1) (.ref C1) = some true)
    (is1_2 : PySem.W.kitOne K (.ref C2) (.ref C1) = some false)
    (is1_3 : PySem.W.kitOne K (.ref C3) (.ref C1) = some false)
    (is1_4 : PySem.W.kitOne K (.ref C4) (.ref C1) = some false)
    (is2_0 : PySem.W.kitOne K (.ref C0) (.ref C2) = some false)
    (is2_1 : PySem.W.kitOne K (.ref C1) (.ref C2) = some false)
    (is2_2 : PySem.W.kitOne K (.ref C2) (.ref C2) = some true)
    (is2_3 : PySem.W.kitOne K (.ref C3) (.ref C2) = some false)
    (is2_4 : PySem.W.kitOne K (.ref C4) (.ref C2) = some false)
    (is4_0 : PySem.W.kitOne K (.ref C0) (.ref C4) = some false)
    (is4_1 : PySem.W.kitOne K (.ref C1) (.ref C4) = some false)
    (is4_2 : PySem.W.kitOne K (.ref C2) (.ref C4) = some false)
    (is4_3 : PySem.W.kitOne K (.ref C3) (.ref C4) = some false)
    (is4_4 : PySem.W.kitOne K (.ref C4) (.ref C4) = some true)
    (is3_0 : PySem.W.kitOne K (.ref C0) (.ref C3) = some false)
    (is3_1 : PySem.W.kitOne K (.ref C1) (.ref C3) = some false)
    (is3_2 : PySem.W.kitOne K (.ref C2) (.ref C3) = some false)
    (is3_3 : PySem.W.kitOne K (.ref C3) (.ref C3) = some true)
    (is3_4 : PySem.W.kitOne K (.ref C4) (.ref C3) = some false)
    : Last P w K mg 18 fa m_law h :=
  let Ts : List (Addr × Str) := [(P32, (("_law_are_refused" ++ ".<locals>.") ++ "<lambda>" : Str))]
  let gb : Gb := gbOf Ts [C0, C1, C2, C3, C4] []
  have t32 := match dr32 with | ⟨d, e⟩ => tab "_law_are_refused" d cc32 P32 e ht32
  { gb := gb
    cv := @cvG gb
    cs := [(cc32, P32)]
    hT := fun p hp => by
      simp only [List.mem_cons, List.not_mem_nil, or_false] at hp
      rcases hp with rfl
      · exact t32.2
    nT := fun p hp => by
      simp only [List.mem_cons, List.not_mem_nil, or_false] at hp
      rcases hp with rfl
      · exact nt32
    C := fun p hp => by
      simp only [List.mem_cons, List.not_mem_nil, or_false] at hp
      rcases hp with rfl
      · exact t32.1
    inT := fun q hq => by
      have hq : q ∈ [(P32, (("_law_are_refused" ++ ".<locals>.") ++ "<lambda>" : Str))] := hq
      simp only [List.mem_cons, List.not_mem_nil, or_false] at hq
      rcases hq with rfl
      · simp
    F := fun base hK hG hB => by
      have un32 : ∀ p ∈ Ts, p.1 = P32 → p.2 = (("_law_are_refused" ++ ".<locals>.") ++ "<lambda>" : Str) := fun p hp e => by
        simp only [Ts, List.mem_cons, List.not_mem_nil, or_false] at hp
        rcases hp with rfl
        · rfl
      have g : @Mg gb P w K mg base := @Mg.mk gb P w K mg base
        ⟨allA_at (p := fun C => ErC K C) ⟨ce0, ce1, ce2, ce3, ce4, trivial⟩⟩
        f1
        (PySem.W.mg_of X G a1)
        k1
        (.intro _ (fun_mk (st := (topS 1)) l1 c1 k1))
        f2
        (PySem.W.mg_of X G a2)
        k2
        (.intro _ (fun_mk (st := (topS 2)) l2 c2 k2))
        f3
        (PySem.W.mg_of X G a3)
        k3
        (.intro _ (fun_mk (st := (topS 3)) l3 c3 k3))
        f4
        (PySem.W.mg_of X G a4)
        k4
        (.intro _ (fun_mk (st := (topS 4)) l4 c4 k4))
        f5
        (PySem.W.mg_of X G a5)
        k5
        (.intro _ (fun_mk (st := (topS 15)) l5 c5 k5))
        f6
        (PySem.W.mg_of X G a6)
        k6
        (.intro _ (fun_mk (st := (topS 16)) l6 c6 k6))
        f7
        (PySem.W.mg_of X G a7)
        k7
        (.intro _ (fun_mk (st := (topS 17)) l7 c7 k7))
        f8
        (PySem.W.mg_of X G a8)
        k8
        (.intro _ (fun_mk (st := (topS 18)) l8 c8 k8))
        f9
        (PySem.W.mg_of X G a9)
        k9
        (.intro _ (fun_mk (st := (topS 19)) l9 c9 k9))
        f10
        (PySem.W.mg_of X G a10)
        k10
        (.intro _ (fun_mk (st := (topS 20)) l10 c10 k10))
        f11
        (PySem.W.mg_of X G a11)
        k11
        (.intro _ (fun_mk (st := (topS 23)) l11 c11 k11))
        f12
        (PySem.W.mg_of X G a12)
        k12
        (.intro _ (fun_mk (st := (topS 24)) l12 c12 k12))
        f13
        (PySem.W.mg_of X G a13)
        k13
        (.intro _ (fun_mk (st := (topS 25)) l13 c13 k13))
        f14
        (PySem.W.mg_of X G a14)
        k14
        (.intro _ (fun_mk (st := (topS 26)) l14 c14 k14))
        f15
        (PySem.W.mg_of X G a15)
        k15
        (.intro _ (fun_mk (st := (topS 27)) l15 c15 k15))
        f16
        (PySem.W.mg_of X G a16)
        k16
        (.intro _ (fun_mk (st := (topS 28)) l16 c16 k16))
        f17
        (PySem.W.mg_of X G a17)
        k17
        (.intro _ (fun_mk (st := (topS 30)) l17 c17 k17))
        f18
        (PySem.W.mg_of X G a18)
        k18
        (.intro _ (fun_mk (st := (topS 31)) l18 c18 k18))
        f19
        (PySem.W.mg_of X G a19)
        k19
        (.intro _ (fun_mk (st := (topS 32)) l19 c19 k19))
        f20
        (PySem.W.mg_of X G a20)
        k20
        (.intro _ (fun_mk (st := (topS 33)) l20 c20 k20))
        f21
        (PySem.W.mg_of X G a21)
        k21
        (.intro _ (fun_mk (st := (topS 35)) l21 c21 k21))
        f22
        (PySem.W.mg_of X G a22)
        k22
        (.intro _ (fun_mk (st := (topS 36)) l22 c22 k22))
        f23
        (PySem.W.mg_of X G a23)
        k23
        (.intro _ (fun_mk (st := (topS 37)) l23 c23 k23))
        f24
        (PySem.W.mg_of X G a24)
        k24
        (.intro _ (fun_mk (st := (topS 38)) l24 c24 k24))
        f25
        (PySem.W.mg_of X G a25)
        k25
        (.intro _ (fun_mk (st := (topS 39)) l25 c25 k25))
        f26
        (PySem.W.mg_of X G a26)
        k26
        (.intro _ (fun_mk (st := (topS 40)) l26 c26 k26))
        f27
        (PySem.W.mg_of X G a27)
        k27
        (.intro _ (fun_mk (st := (topS 41)) l27 c27 k27))
        f28
        (PySem.W.mg_of X G a28)
        k28
        (.intro _ (fun_mk (st := (topS 42)) l28 c28 k28))
        f29
        (PySem.W.mg_of X G a29)
        k29
        (.intro _ (fun_mk (st := (topS 43)) l29 c29 k29))
        f30
        (PySem.W.mg_of X G a30)
        k30
        (.intro _ (fun_mk (st := (topS 44)) l30 c30 k30))
        f31
        (PySem.W.mg_of X G a31)
        k31
        (.intro _ (fun_mk (st := (topS 45)) l31 c31 k31))
        f32
        (PySem.W.mg_of X G a32)
        k32
        cc32
        P32
        ⟨_, fun_mk (st := (topS 46)) l32 c32 k32, _, _, _, _, _, _, _, _, rfl, l32, c32⟩
        (hB (cc32, P32) (by simp))
        (by simp [Ts] : (P32, (("_law_are_refused" ++ ".<locals>.") ++ "<lambda>" : Str)) ∈ Ts)
        un32
        f33
        (PySem.W.mg_of X G a33)
        k33
        (.intro _ (fun_mk (st := (topS 47)) l33 c33 k33))
        f34
        (PySem.W.mg_of X G a34)
        k34
        (.intro _ (fun_mk (st := (topS 48)) l34 c34 k34))
        (PySem.W.mg_none_of X G z_abs)
        (PySem.W.mg_none_of X G z_all)
        (PySem.W.mg_none_of X G z_bool)
        (PySem.W.mg_none_of X G z_enumerate)
        (PySem.W.mg_none_of X G z_int)
        (PySem.W.mg_none_of X G z_isinstance)
        (PySem.W.mg_none_of X G z_len)
        (PySem.W.mg_none_of X G z_list)
        (PySem.W.mg_none_of X G z_max)
        (PySem.W.mg_none_of X G z_min)
        (PySem.W.mg_none_of X G z_range)
        (PySem.W.mg_none_of X G z_repr)
        (PySem.W.mg_none_of X G z_set)
        (PySem.W.mg_none_of X G z_sorted)
        (PySem.W.mg_none_of X G z_str)
        (PySem.W.mg_none_of X G z_sum)
        (PySem.W.mg_none_of X G z_tuple)
        (PySem.W.mg_none_of X G z_zip)
        t_MOST_PLACES
        (PySem.W.mg_of X G i_MOST_PLACES)
        t_MOST_MOVES
        (PySem.W.mg_of X G i_MOST_MOVES)
        t_PAIR
        (PySem.W.mg_of X G i_PAIR)
        t_MOST_PLAY
        (PySem.W.mg_of X G i_MOST_PLAY)
        rfl
        fh
        ⟨PySem.W.mg_of X G ah, ⟨_, fun_mk (st := topS 34) lh ch kh⟩, sc_hrd, fun fd F => F.binds fun _ _ _ _ _ _ us hl => match us, hl with | [_], _ => rfl, rfl, rfl, rfl, rfl, rfl, ⟨C0, PySem.W.mg_of X G ca0, allA_at (p := fun C => PySem.W.exmOne K (.ref C) (.ref C0) = some true) ⟨cx0, cx1, cx2, cx3, cx4, trivial⟩⟩, hrd_body⟩
        kh
        ⟨PySem.W.mg_of X G ca1, cox1, ce1.hno, fi, _, cin1, ti, bi, ini_ok ⟨_, _, _, _, _, _, _, _, _, _, rfl, li, ci⟩ (PySem.W.mg_none_of X G zi) vVi⟩
        ⟨PySem.W.mg_of X G ca2, cox2, ce2.hno, fi, _, cin2, ti, bi, ini_ok ⟨_, _, _, _, _, _, _, _, _, _, rfl, li, ci⟩ (PySem.W.mg_none_of X G zi) vVi⟩
        ⟨PySem.W.mg_of X G ca4, cox4, ce4.hno, fi, _, cin4, ti, bi, ini_ok ⟨_, _, _, _, _, _, _, _, _, _, rfl, li, ci⟩ (PySem.W.mg_none_of X G zi) vVi⟩
        ⟨PySem.W.mg_of X G ca3, cox3, ce3.hno, fi, _, cin3, ti, bi, ini_ok ⟨_, _, _, _, _, _, _, _, _, _, rfl, li, ci⟩ (PySem.W.mg_none_of X G zi) vVi⟩
        C1
        (PySem.W.mg_of X G ca1)
        (allB_at (p := fun C b => PySem.W.kitOne K (.ref C) (.ref C1) = some b) ⟨is1_0, is1_1, is1_2, is1_3, is1_4, trivial⟩)
        C2
        (PySem.W.mg_of X G ca2)
        (allB_at (p := fun C b => PySem.W.kitOne K (.ref C) (.ref C2) = some b) ⟨is2_0, is2_1, is2_2, is2_3, is2_4, trivial⟩)
        C4
        (PySem.W.mg_of X G ca4)
        (allB_at (p := fun C b => PySem.W.kitOne K (.ref C) (.ref C4) = some b) ⟨is4_0, is4_1, is4_2, is4_3, is4_4, trivial⟩)
        C3
        (PySem.W.mg_of X G ca3)
        (allB_at (p := fun C b => PySem.W.kitOne K (.ref C) (.ref C3) = some b) ⟨is3_0, is3_1, is3_2, is3_3, is3_4, trivial⟩)
      have e := hmg.symm.trans g.g_law
      cases e
      exact @ok_law gb P w K mg base g }
end Lw
open PySem PySem.W PyProof.Rows
set_option maxHeartbeats 0 in
theorem PySem.Challenge.cw_whowinsforever_k03_plays_and_plans_holds : PySem.Challenge.rw_whowinsforever_k03_plays_and_plans.Holds := by
  w_on; o_law; k_head; (case hw => w_witness2)
  k_fill
  refine Mi.walk_mi (l := PySem.Challenge.rw_whowinsforever_k03_plays_and_plans) (n := 63) (k := 18) (m := Lw.m_law) rfl (by decide) rfl ⟨rfl, by decide, by decide⟩ (fun w h Y => Y.1) ?nl ?F Lw.law_says
  case nl => intro p; rfl
  case F =>
    intro w mg fa h X G hmg tab
    refine' (fun (Z : Mi.Last _ w _ mg _ fa _ h) => ⟨Z⟩) (Lw.last_all X G hmg tab ?a1 ?l1 ?c1 ?k1 ?a2 ?l2 ?c2 ?k2 ?a3 ?l3 ?c3 ?k3 ?a4 ?l4 ?c4 ?k4 ?a5 ?l5 ?c5 ?k5 ?a6 ?l6 ?c6 ?k6 ?a7 ?l7 ?c7 ?k7 ?a8 ?l8 ?c8 ?k8 ?a9 ?l9 ?c9 ?k9 ?a10 ?l10 ?c10 ?k10 ?a11 ?l11 ?c11 ?k11 ?a12 ?l12 ?c12 ?k12 ?a13 ?l13 ?c13 ?k13 ?a14 ?l14 ?c14 ?k14 ?a15 ?l15 ?c15 ?k15 ?a16 ?l16 ?c16 ?k16 ?a17 ?l17 ?c17 ?k17 ?a18 ?l18 ?c18 ?k18 ?a19 ?l19 ?c19 ?k19 ?a20 ?l20 ?c20 ?k20 ?a21 ?l21 ?c21 ?k21 ?a22 ?l22 ?c22 ?k22 ?a23 ?l23 ?c23 ?k23 ?a24 ?l24 ?c24 ?k24 ?a25 ?l25 ?c25 ?k25 ?a26 ?l26 ?c26 ?k26 ?a27 ?l27 ?c27 ?k27 ?a28 ?l28 ?c28 ?k28 ?a29 ?l29 ?c29 ?k29 ?a30 ?l30 ?c30 ?k30 ?a31 ?l31 ?c31 ?k31 ?ht32 ?nt32 ?dr32 ?a32 ?l32 ?c32 ?k32 ?a33 ?l33 ?c33 ?k33 ?a34 ?l34 ?c34 ?k34 ?z_abs ?z_all ?z_bool ?z_enumerate ?z_int ?z_isinstance ?z_len ?z_list ?z_max ?z_min ?z_range ?z_repr ?z_set ?z_sorted ?z_str ?z_sum ?z_tuple ?z_zip ?i_MOST_PLACES ?i_MOST_MOVES ?i_PAIR ?i_MOST_PLAY ?ca0 ?ce0 ?cx0 ?ca1 ?ce1 ?cx1 ?ca2 ?ce2 ?cx2 ?ca3 ?ce3 ?cx3 ?ca4 ?ce4 ?cx4 ?ah ?lh ?ch ?kh ?li ?ci ?bi ?ti ?zi ?vVi ?cox1 ?cin1 ?cox2 ?cin2 ?cox4 ?cin4 ?cox3 ?cin3 ?is1_0 ?is1_1 ?is1_2 ?is1_3 ?is1_4 ?is2_0 ?is2_1 ?is2_2 ?is2_3 ?is2_4 ?is4_0 ?is4_1 ?is4_2 ?is4_3 ?is4_4 ?is3_0 ?is3_1 ?is3_2 ?is3_3 ?is3_4)
    (case ca0 => k_is)
    (case ca1 => k_is)
    (case ca2 => k_is)
    (case ca3 => k_is)
    (case ca4 => k_is)
    (case cin1 => k_is)
    (case cin2 => k_is)
    (case cin4 => k_is)
    (case cin3 => k_is)
    (case a1 => k_is)
    (case l1 => k_is)
    (case c1 => k_is)
    (case k1 => k_is)
    (case a2 => k_is)
    (case l2 => k_is)
    (case c2 => k_is)
    (case k2 => k_is)
    (case a3 => k_is)
    (case l3 => k_is)
    (case c3 => k_is)
    (case k3 => k_is)
    (case a4 => k_is)
    (case l4 => k_is)
    (case c4 => k_is)
    (case k4 => k_is)
    (case a5 => k_is)
    (case l5 => k_is)
    (case c5 => k_is)
    (case k5 => k_is)
    (case a6 => k_is)
    (case l6 => k_is)
    (case c6 => k_is)
    (case k6 => k_is)
    (case a7 => k_is)
    (case l7 => k_is)
    (case c7 => k_is)
    (case k7 => k_is)
    (case a8 => k_is)
    (case l8 => k_is)
    (case c8 => k_is)
    (case k8 => k_is)
    (case a9 => k_is)
    (case l9 => k_is)
    (case c9 => k_is)
    (case k9 => k_is)
    (case a10 => k_is)
    (case l10 => k_is)
    (case c10 => k_is)
    (case k10 => k_is)
    (case a11 => k_is)
    (case l11 => k_is)
    (case c11 => k_is)
    (case k11 => k_is)
    (case a12 => k_is)
    (case l12 => k_is)
    (case c12 => k_is)
    (case k12 => k_is)
    (case a13 => k_is)
    (case l13 => k_is)
    (case c13 => k_is)
    (case k13 => k_is)
    (case a14 => k_is)
    (case l14 => k_is)
    (case c14 => k_is)
    (case k14 => k_is)
    (case a15 => k_is)
    (case l15 => k_is)
    (case c15 => k_is)
    (case k15 => k_is)
    (case a16 => k_is)
    (case l16 => k_is)
    (case c16 => k_is)
    (case k16 => k_is)
    (case a17 => k_is)
    (case l17 => k_is)
    (case c17 => k_is)
    (case k17 => k_is)
    (case a18 => k_is)
    (case l18 => k_is)
    (case c18 => k_is)
    (case k18 => k_is)
    (case a19 => k_is)
    (case l19 => k_is)
    (case c19 => k_is)
    (case k19 => k_is)
    (case a20 => k_is)
    (case l20 => k_is)
    (case c20 => k_is)
    (case k20 => k_is)
    (case a21 => k_is)
    (case l21 => k_is)
    (case c21 => k_is)
    (case k21 => k_is)
    (case a22 => k_is)
    (case l22 => k_is)
    (case c22 => k_is)
    (case k22 => k_is)
    (case a23 => k_is)
    (case l23 => k_is)
    (case c23 => k_is)
    (case k23 => k_is)
    (case a24 => k_is)
    (case l24 => k_is)
    (case c24 => k_is)
    (case k24 => k_is)
    (case a25 => k_is)
    (case l25 => k_is)
    (case c25 => k_is)
    (case k25 => k_is)
    (case a26 => k_is)
    (case l26 => k_is)
    (case c26 => k_is)
    (case k26 => k_is)
    (case a27 => k_is)
    (case l27 => k_is)
    (case c27 => k_is)
    (case k27 => k_is)
    (case a28 => k_is)
    (case l28 => k_is)
    (case c28 => k_is)
    (case k28 => k_is)
    (case a29 => k_is)
    (case l29 => k_is)
    (case c29 => k_is)
    (case k29 => k_is)
    (case a30 => k_is)
    (case l30 => k_is)
    (case c30 => k_is)
    (case k30 => k_is)
    (case a31 => k_is)
    (case l31 => k_is)
    (case c31 => k_is)
    (case k31 => k_is)
    (case ht32 => rfl)
    (case nt32 => first | k_is | rfl)
    (case dr32 => exact ⟨_, rfl⟩)
    (case a32 => k_is)
    (case l32 => k_is)
    (case c32 => k_is)
    (case k32 => k_is)
    (case a33 => k_is)
    (case l33 => k_is)
    (case c33 => k_is)
    (case k33 => k_is)
    (case a34 => k_is)
    (case l34 => k_is)
    (case c34 => k_is)
    (case k34 => k_is)
    (case z_abs => k_is)
    (case z_all => k_is)
    (case z_bool => k_is)
    (case z_enumerate => k_is)
    (case z_int => k_is)
    (case z_isinstance => k_is)
    (case z_len => k_is)
    (case z_list => k_is)
    (case z_max => k_is)
    (case z_min => k_is)
    (case z_range => k_is)
    (case z_repr => k_is)
    (case z_set => k_is)
    (case z_sorted => k_is)
    (case z_str => k_is)
    (case z_sum => k_is)
    (case z_tuple => k_is)
    (case z_zip => k_is)
    (case i_MOST_PLACES => k_is)
    (case i_MOST_MOVES => k_is)
    (case i_PAIR => k_is)
    (case i_MOST_PLAY => k_is)
    (case ce0 => exact ⟨rfl, by k_is, by k_is, by k_is, by k_is, by k_is, by k_is, by k_is, by k_is, by k_is, by k_is, fun T hT => by
      simp only [List.mem_cons, List.not_mem_nil, or_false] at hT
      rcases hT with rfl | rfl | rfl | rfl | rfl <;> rfl⟩)
    (case cx0 => rfl)
    (case ce1 => exact ⟨rfl, by k_is, by k_is, by k_is, by k_is, by k_is, by k_is, by k_is, by k_is, by k_is, by k_is, fun T hT => by
      simp only [List.mem_cons, List.not_mem_nil, or_false] at hT
      rcases hT with rfl | rfl | rfl | rfl | rfl <;> rfl⟩)
    (case cx1 => rfl)
    (case ce2 => exact ⟨rfl, by k_is, by k_is, by k_is, by k_is, by k_is, by k_is, by k_is, by k_is, by k_is, by k_is, fun T hT => by
      simp only [List.mem_cons, List.not_mem_nil, or_false] at hT
      rcases hT with rfl | rfl | rfl | rfl | rfl <;> rfl⟩)
    (case cx2 => rfl)
    (case ce3 => exact ⟨rfl, by k_is, by k_is, by k_is, by k_is, by k_is, by k_is, by k_is, by k_is, by k_is, by k_is, fun T hT => by
      simp only [List.mem_cons, List.not_mem_nil, or_false] at hT
      rcases hT with rfl | rfl | rfl | rfl | rfl <;> rfl⟩)
    (case cx3 => rfl)
    (case ce4 => exact ⟨rfl, by k_is, by k_is, by k_is, by k_is, by k_is, by k_is, by k_is, by k_is, by k_is, by k_is, fun T hT => by
      simp only [List.mem_cons, List.not_mem_nil, or_false] at hT
      rcases hT with rfl | rfl | rfl | rfl | rfl <;> rfl⟩)
    (case cx4 => rfl)
    (case ah => k_is)
    (case lh => k_is)
    (case ch => k_is)
    (case kh => k_is)
    (case li => k_is)
    (case ci => k_is)
    (case bi => exact L2.Binds.all fun us hl => match us, hl with | [_, _], _ => rfl)
    (case ti => k_is)
    (case zi => k_is)
    (case vVi => k_is)
    (case cox1 => exact ⟨⟨_, _, _, _, _, _, _, _, _, _, _, _, _, _, _, by k_is, rfl⟩, by k_is, by k_is, by k_is, by k_is⟩)
    (case cox2 => exact ⟨⟨_, _, _, _, _, _, _, _, _, _, _, _, _, _, _, by k_is, rfl⟩, by k_is, by k_is, by k_is, by k_is⟩)
    (case cox4 => exact ⟨⟨_, _, _, _, _, _, _, _, _, _, _, _, _, _, _, by k_is, rfl⟩, by k_is, by k_is, by k_is, by k_is⟩)
    (case cox3 => exact ⟨⟨_, _, _, _, _, _, _, _, _, _, _, _, _, _, _, by k_is, rfl⟩, by k_is, by k_is, by k_is, by k_is⟩)
    (case is1_0 => rfl)
    (case is1_1 => rfl)
    (case is1_2 => rfl)
    (case is1_3 => rfl)
    (case is1_4 => rfl)
    (case is2_0 => rfl)
    (case is2_1 => rfl)
    (case is2_2 => rfl)
    (case is2_3 => rfl)
    (case is2_4 => rfl)
    (case is4_0 => rfl)
    (case is4_1 => rfl)
    (case is4_2 => rfl)
    (case is4_3 => rfl)
    (case is4_4 => rfl)
    (case is3_0 => rfl)
    (case is3_1 => rfl)
    (case is3_2 => rfl)
    (case is3_3 => rfl)
    (case is3_4 => rfl)
