import PyProof.Rows.All
import Wide.All
import OpenK.AllK
import Wide.FinOn
import PyProof.EqAt
import PyProof.EqKinds
import PyProof.TupleCall
import HandS.ForMost
import HandS.ForExc
import HandS.CallSlots
import HandS.Style
import HandS.IsInst
import HandS.Text
import HandS.SortInts
import HandS.SortRule
import HandS.Deep
import HandS.WordsDict
import HandS.Rev
import HandS.NoneIn
import HandS.Flt
import HandS.FStr
import HandS.RaiseMore
import HandS.Exc
import HandS.ExcInit
import HandS.ExcField
import HandS.ExcIs
import HandS.TryMany
import KE.KTryMore
import KE.KExcIs
import HandS.HotCalls
import HandS.DictEq
import HandS.SetFor
import HandS.Strs
import HandS.Zip
import HandS.Iter
import PyProof.StrBlock2
import PyProof.ListStr
import HandS.Conv
import HandS.Small
import HandS.More
import HandS.Codes
import PySem.Challenge.RW_dueyard_k41_overflow
set_option Elab.async false
set_option linter.all false
set_option maxRecDepth 100000
namespace Tr
open PySem L2

/-- a value as a tree; scr: the script -/
inductive T where
  | non | bl (b : Bool) | int (i : Int) | str (x : Str)
  | tup (l : List T) | lst (l : List T) | scr (ns : List Int)
  | dik (l : List (Key × T)) | dit (l : List (List Key × T))
  | obj (C : Nat) (fs : List (Str × T))
  | fn (f : Addr)
  /-- the cell k: an object that is changed, known by its number -/
  | ptr (k : Nat)
  /-- an exception: its class, its one field -/
  | ex0 (C : Nat) | ex1 (C : Nat) (t : T)

/-- what is not to be spoken of; where the cells stand -/
structure Xs where
  p : Addr → Prop
  cs : Nat → Option Addr
instance : CoeFun Xs (fun _ => Addr → Prop) := ⟨Xs.p⟩
def Xs.add (X : Xs) (a : Addr) : Xs := ⟨fun b => X.p b ∨ b = a, X.cs⟩
def Xs.bare (X : Xs) : Xs := ⟨fun _ => False, X.cs⟩

/-- the program's classes; in a tree a class is its number -/
def cNames : List Str := ["Calendar", "Walk", "Flow", "Verdict", "Kept", "Full", "Entry", "Standing", "Finished", "Withdrawn", "Yard", "Desk", "YardError", "NoName", "NoNumber", "NoCalendar", "NoSpans", "TooMany", "NoPlan", "NoLine", "Twice", "Taken", "NoJob", "TooLong"]
def refO : Option (Option Value) → Option Addr
  | some (some (.ref a)) => some a
  | _ => none
def clsA (K : PySem.W.Frag) (C : Nat) : Option Addr := match cNames[C]? with
  | some n => refO (PySem.W.nsIn K mainGlobals n)
  | none => none
/-- a list of the written part -/
def WrL (K : PySem.W.Frag) (a : Addr) (xs : List V) : Prop :=
  ∃ (o : Obj) (its : Array Value) (n : Nat), K.lookup a = some o ∧ o.cls = .type "list" ∧ o.dict = none ∧ o.data = .seq its n ∧ its.size ≤ sizeLine ∧ Vals xs its.toList

/-- at a: a caught exception of the class cls, its dict at d -/
def exq (a : Addr) (cls : Value) (d : Option Addr) : HO := .ext fun h => ∃ o vs, h.get? a = some o ∧ o.cls = cls ∧ o.dict = d ∧ o.data = .fields vs
/-- the tree t stands at v; nothing of it at an address of B -/
inductive Rp (K : PySem.W.Frag) (H : Hp) (B : Xs) : T → V → Prop
  | non : Rp K H B .non .non
  | bl (b : Bool) : Rp K H B (.bl b) (.bl b)
  | int (i : Int) : Rp K H B (.int i) (.int i)
  | str (x : Str) : PyData.strOk x = true → Rp K H B (.str x) (.str x)
  | tup {a : Addr} {ts : List T} {us : List V} : H a = some (.tup us) → ¬ B a → ts.length = us.length →
      (∀ (i : Nat) (t : T) (u : V), ts[i]? = some t → us[i]? = some u → Rp K H B t u) → Rp K H B (.tup ts) (.ref a)
  | lst {a : Addr} {ts : List T} {us : List V} : H a = some (.lst us) → ¬ B a → ts.length = us.length →
      (∀ (i : Nat) (t : T) (u : V), ts[i]? = some t → us[i]? = some u → Rp K H B t u) → Rp K H B (.lst ts) (.ref a)
  | scr {a : Addr} {ns : List Int} : ((Rd H a (.lst (ns.map V.int)) ∧ ¬ B a) ∨ WrL K a (ns.map V.int)) → Rp K H B (.scr ns) (.ref a)
  | dik {a : Addr} {ts : List (Key × T)} {us : List (Key × V)} : H a = some (.dK us) → ¬ B a → ts.map (·.1) = us.map (·.1) → (ts.map (·.2)).length = (us.map (·.2)).length →
      (∀ (i : Nat) (t : T) (u : V), (ts.map (·.2))[i]? = some t → (us.map (·.2))[i]? = some u → Rp K H B t u) → Rp K H B (.dik ts) (.ref a)
  | dit {a : Addr} {ts : List (List Key × T)} {us : List (List Key × V)} : H a = some (.dT us) → ¬ B a → ts.map (·.1) = us.map (·.1) → (ts.map (·.2)).length = (us.map (·.2)).length →
      (∀ (i : Nat) (t : T) (u : V), (ts.map (·.2))[i]? = some t → (us.map (·.2))[i]? = some u → Rp K H B t u) → Rp K H B (.dit ts) (.ref a)
  | obj {C : Nat} {c a dx : Addr} {ts : List (Str × T)} {us : List (Str × V)} : clsA K C = some c → H a = some (.ins c dx us) → ¬ B a → ts.map (·.1) = us.map (·.1) → (ts.map (·.2)).length = (us.map (·.2)).length →
      (∀ (i : Nat) (t : T) (u : V), (ts.map (·.2))[i]? = some t → (us.map (·.2))[i]? = some u → Rp K H B t u) → Rp K H B (.obj C ts) (.ref a)
  | fn (f : Addr) : Rp K H B (.fn f) (.ref f)
  | ptr {k : Nat} {a : Addr} : B.cs k = some a → Rp K H B (.ptr k) (.ref a)
  | ex0 {C : Nat} {c a : Addr} : clsA K C = some c → H a = some (exq a (.ref c) none) → ¬ B a → Rp K H B (.ex0 C) (.ref a)
  | ex1 {C : Nat} {c a dd : Addr} {t : T} {v : V} : clsA K C = some c → H a = some (exq a (.ref c) (some dd)) → ¬ B a → H dd = some (.xd [(("name" : Str), v)]) → ¬ B dd → Rp K H B t v → Rp K H B (.ex1 C t) (.ref a)

def RpAll (K : PySem.W.Frag) (H : Hp) (B : Xs) (ts : List T) (us : List V) : Prop :=
  ts.length = us.length ∧ ∀ (i : Nat) (t : T) (u : V), ts[i]? = some t → us[i]? = some u → Rp K H B t u

/-- what is tracked and not at B stays, and does not come to stand at B' -/
structure Keep (B : Xs) (H : Hp) (B' : Xs) (H' : Hp) : Prop where
  k : ∀ a o, H a = some o → ¬ B a → H' a = some o ∧ ¬ B' a
  c : ∀ k a, B.cs k = some a → B'.cs k = some a := by exact fun _ _ e => e

theorem Keep.refl {B : Xs} {H : Hp} : Keep B H B H := ⟨fun _ _ h n => ⟨h, n⟩, fun _ _ e => e⟩
theorem Keep.trans {B B1 B2 : Xs} {H H1 H2 : Hp} (a : Keep B H B1 H1) (b : Keep B1 H1 B2 H2) : Keep B H B2 H2 := ⟨fun c o h n =>
  let ⟨h1, n1⟩ := a.k c o h n
  b.k c o h1 n1, fun k c e => b.c k c (a.c k c e)⟩

section
variable {K : PySem.W.Frag} {H H' : Hp} {B B' : Xs}
theorem Rd.keep {a : Addr} {u : HO} (k : Keep B H B' H') (h : Rd H a u) (n : ¬ B a) : Rd H' a u ∧ ¬ B' a := by
  rcases h with h | ⟨o, h⟩
  · exact ⟨.inl (k.k _ _ h n).1, (k.k _ _ h n).2⟩
  · exact ⟨.inr ⟨o, (k.k _ _ h n).1⟩, (k.k _ _ h n).2⟩
theorem Rp.keep {t : T} {v : V} (h : Rp K H B t v) (k : Keep B H B' H') : Rp K H' B' t v := by
  induction h with
  | non => exact .non
  | bl b => exact .bl b
  | int i => exact .int i
  | str x h => exact .str x h
  | tup h n hl _ ih =>
    have r := k.k _ _ h n
    exact .tup r.1 r.2 hl ih
  | lst h n hl _ ih =>
    have r := k.k _ _ h n
    exact .lst r.1 r.2 hl ih
  | scr hq =>
    refine .scr ?_
    rcases hq with ⟨h, n⟩ | h
    · exact .inl (Rd.keep k h n)
    · exact .inr h
  | dik h n hl hz _ ih =>
    have r := k.k _ _ h n
    exact .dik r.1 r.2 hl hz ih
  | dit h n hl hz _ ih =>
    have r := k.k _ _ h n
    exact .dit r.1 r.2 hl hz ih
  | obj hc h n hl hz _ ih =>
    have r := k.k _ _ h n
    exact .obj hc r.1 r.2 hl hz ih
  | fn f => exact .fn f
  | ptr e => exact .ptr (k.c _ _ e)
  | ex0 hc h n =>
    have r := k.k _ _ h n
    exact .ex0 hc r.1 r.2
  | ex1 hc h n h2 n2 _ ih =>
    have r := k.k _ _ h n
    have r2 := k.k _ _ h2 n2
    exact .ex1 hc r.1 r.2 r2.1 r2.2 ih
mutual
/-- no cell is spoken of -/
def T.np : T → Bool
  | .ptr _ => false
  | .tup l => T.nps l
  | .lst l => T.nps l
  | .dik l => T.npk l
  | .dit l => T.npd l
  | .obj _ l => T.npf l
  | .ex1 _ t => T.np t
  | _ => true
def T.nps : List T → Bool
  | [] => true
  | t :: l => T.np t && T.nps l
def T.npk : List (Key × T) → Bool
  | [] => true
  | (_, t) :: l => T.np t && T.npk l
def T.npd : List (List Key × T) → Bool
  | [] => true
  | (_, t) :: l => T.np t && T.npd l
def T.npf : List (Str × T) → Bool
  | [] => true
  | (_, t) :: l => T.np t && T.npf l
end
theorem T.nps_all : ∀ l : List T, T.nps l = l.all T.np
  | [] => by simp [T.nps]
  | t :: l => by simp [T.nps, T.nps_all l]
theorem T.npk_all : ∀ l : List (Key × T), T.npk l = (l.map (·.2)).all T.np
  | [] => by simp [T.npk]
  | (_, t) :: l => by simp [T.npk, T.npk_all l]
theorem T.npd_all : ∀ l : List (List Key × T), T.npd l = (l.map (·.2)).all T.np
  | [] => by simp [T.npd]
  | (_, t) :: l => by simp [T.npd, T.npd_all l]
theorem T.npf_all : ∀ l : List (Str × T), T.npf l = (l.map (·.2)).all T.np
  | [] => by simp [T.npf]
  | (_, t) :: l => by simp [T.npf, T.npf_all l]
theorem np_get {l : List T} (h : l.all T.np = true) {i : Nat} {t : T} (e : l[i]? = some t) : t.np = true := List.all_eq_true.mp h t (List.mem_of_getElem? e)
/-- where no cell is spoken of, it does not matter where they stand -/
theorem Rp.np {t : T} {v : V} (h : Rp K H B t v) (p : ∀ a, B' a → B a) : t.np = true → Rp K H B' t v := by
  induction h with
  | non => exact fun _ => .non
  | bl b => exact fun _ => .bl b
  | int i => exact fun _ => .int i
  | str x h => exact fun _ => .str x h
  | tup h n hl _ ih => exact fun q => .tup h (fun z => n (p _ z)) hl fun i t u a b => ih i t u a b (np_get (by rw [T.np, T.nps_all] at q; exact q) a)
  | lst h n hl _ ih => exact fun q => .lst h (fun z => n (p _ z)) hl fun i t u a b => ih i t u a b (np_get (by rw [T.np, T.nps_all] at q; exact q) a)
  | scr hq => exact fun _ => .scr (hq.imp (fun z => ⟨z.1, fun y => z.2 (p _ y)⟩) id)
  | dik h n hl hz _ ih => exact fun q => .dik h (fun z => n (p _ z)) hl hz fun i t u a b => ih i t u a b (np_get (by rw [T.np, T.npk_all] at q; exact q) a)
  | dit h n hl hz _ ih => exact fun q => .dit h (fun z => n (p _ z)) hl hz fun i t u a b => ih i t u a b (np_get (by rw [T.np, T.npd_all] at q; exact q) a)
  | obj hc h n hl hz _ ih => exact fun q => .obj hc h (fun z => n (p _ z)) hl hz fun i t u a b => ih i t u a b (np_get (by rw [T.np, T.npf_all] at q; exact q) a)
  | fn f => exact fun _ => .fn f
  | ptr e => exact fun q => by rw [T.np] at q; cases q
  | ex0 hc h n => exact fun _ => .ex0 hc h fun z => n (p _ z)
  | ex1 hc h n h2 n2 _ ih => exact fun q => .ex1 hc h (fun z => n (p _ z)) h2 (fun z => n2 (p _ z)) (ih (by rw [T.np] at q; exact q))
theorem Rp.same {t : T} {v : V} (h : Rp K H B t v) (s : Same H H') : Rp K H' B t v := h.keep ⟨fun a o e n => ⟨s a o e, n⟩, fun _ _ e => e⟩
theorem Rp.anti {t : T} {v : V} (h : Rp K H B t v) (s : ∀ a, B' a → B a) (c : ∀ k a, B.cs k = some a → B'.cs k = some a := by exact fun _ _ e => e) : Rp K H B' t v := h.keep ⟨fun a o e n => ⟨e, fun z => n (s a z)⟩, c⟩
theorem RpAll.keep {ts : List T} {us : List V} (h : RpAll K H B ts us) (k : Keep B H B' H') : RpAll K H' B' ts us := ⟨h.1, fun i t u a b => (h.2 i t u a b).keep k⟩
theorem RpAll.same {ts : List T} {us : List V} (h : RpAll K H B ts us) (s : Same H H') : RpAll K H' B ts us := h.keep ⟨fun a o e n => ⟨s a o e, n⟩, fun _ _ e => e⟩
theorem RpAll.anti {ts : List T} {us : List V} (h : RpAll K H B ts us) (s : ∀ a, B' a → B a) (c : ∀ k a, B.cs k = some a → B'.cs k = some a := by exact fun _ _ e => e) : RpAll K H B' ts us := h.keep ⟨fun a o e n => ⟨e, fun z => n (s a z)⟩, c⟩
/-- a new address is no part of what stands -/
theorem Rp.newB {t : T} {v : V} {p : Addr} (h : Rp K H B t v) (hp : H p = none) : Rp K H (B.add p) t v := h.keep ⟨fun a o e n => ⟨e, fun z => z.elim n fun q => by rw [q, hp] at e; cases e⟩, fun _ _ e => e⟩
theorem RpAll.newB {ts : List T} {us : List V} {p : Addr} (h : RpAll K H B ts us) (hp : H p = none) : RpAll K H (B.add p) ts us := ⟨h.1, fun i t u a b => (h.2 i t u a b).newB hp⟩
theorem RpAll.nil : RpAll K H B [] [] := ⟨rfl, fun i t u a => by simp at a⟩
theorem RpAll.cons {t : T} {v : V} {ts : List T} {us : List V} (h : Rp K H B t v) (r : RpAll K H B ts us) : RpAll K H B (t :: ts) (v :: us) :=
  ⟨by simp [r.1], fun i t' u' a b => by
    cases i with
    | zero => simp at a b; subst a b; exact h
    | succ i => exact r.2 i t' u' (by simpa using a) (by simpa using b)⟩
theorem RpAll.head {t : T} {v : V} {ts : List T} {us : List V} (h : RpAll K H B (t :: ts) (v :: us)) : Rp K H B t v := h.2 0 t v rfl rfl
theorem RpAll.tail {t : T} {v : V} {ts : List T} {us : List V} (h : RpAll K H B (t :: ts) (v :: us)) : RpAll K H B ts us :=
  ⟨by simpa using h.1, fun i t' u' a b => h.2 (i + 1) t' u' (by simpa using a) (by simpa using b)⟩
theorem RpAll.get {ts : List T} {us : List V} {i : Nat} {t : T} (h : RpAll K H B ts us) (e : ts[i]? = some t) : ∃ u, us[i]? = some u ∧ Rp K H B t u := by
  obtain ⟨hi, _⟩ := List.getElem?_eq_some_iff.mp e
  have hj : i < us.length := by rw [← h.1]; exact hi
  exact ⟨us[i], List.getElem?_eq_getElem hj, h.2 i t _ e (List.getElem?_eq_getElem hj)⟩
theorem RpAll.get' {ts : List T} {us : List V} {i : Nat} {u : V} (h : RpAll K H B ts us) (e : us[i]? = some u) : ∃ t, ts[i]? = some t ∧ Rp K H B t u := by
  obtain ⟨hi, _⟩ := List.getElem?_eq_some_iff.mp e
  have hj : i < ts.length := by rw [h.1]; exact hi
  exact ⟨ts[i], List.getElem?_eq_getElem hj, h.2 i _ u (List.getElem?_eq_getElem hj) e⟩
theorem RpAll.append {ts ts' : List T} {us us' : List V} (h : RpAll K H B ts us) (r : RpAll K H B ts' us') : RpAll K H B (ts ++ ts') (us ++ us') :=
  ⟨by simp [h.1, r.1], fun i t u a b => by
    by_cases q : i < ts.length
    · rw [List.getElem?_append_left q] at a
      rw [List.getElem?_append_left (by rw [← h.1]; exact q)] at b
      exact h.2 i t u a b
    · rw [List.getElem?_append_right (by omega)] at a
      rw [List.getElem?_append_right (by rw [← h.1]; omega)] at b
      exact r.2 _ t u a (by rw [h.1]; exact b)⟩
theorem RpAll.one {t : T} {v : V} (h : Rp K H B t v) : RpAll K H B [t] [v] := .cons h .nil
theorem RpAll.set {ts : List T} {us : List V} {t : T} {v : V} (h : RpAll K H B ts us) (r : Rp K H B t v) (i : Nat) : RpAll K H B (ts.set i t) (us.set i v) :=
  ⟨by simp [h.1], fun j t' u' a b => by
    rw [List.getElem?_set] at a b
    by_cases e : i = j
    · subst e
      rw [if_pos rfl] at a b
      by_cases q : i < ts.length
      · rw [if_pos q] at a
        rw [if_pos (by rw [← h.1]; exact q)] at b
        cases a; cases b; exact r
      · rw [if_neg q] at a; cases a
    · rw [if_neg e] at a b
      exact h.2 j t' u' a b⟩
theorem RpAll.take {ts : List T} {us : List V} (h : RpAll K H B ts us) (n : Nat) : RpAll K H B (ts.take n) (us.take n) :=
  ⟨by simp [h.1], fun i t u a b => by
    rw [List.getElem?_take] at a b
    split at a
    · rename_i q
      rw [if_pos q] at b
      exact h.2 i t u a b
    · cases a⟩
theorem RpAll.drop {ts : List T} {us : List V} (h : RpAll K H B ts us) (n : Nat) : RpAll K H B (ts.drop n) (us.drop n) :=
  ⟨by simp [h.1], fun i t u a b => by
    rw [List.getElem?_drop] at a b
    exact h.2 _ t u a b⟩
theorem RpAll.dropLast {ts : List T} {us : List V} (h : RpAll K H B ts us) : RpAll K H B ts.dropLast us.dropLast := by
  rw [List.dropLast_eq_take, List.dropLast_eq_take, h.1]
  exact h.take _
theorem RpAll.eraseIdx {ts : List T} {us : List V} (h : RpAll K H B ts us) (n : Nat) : RpAll K H B (ts.eraseIdx n) (us.eraseIdx n) := by
  rw [List.eraseIdx_eq_take_drop_succ, List.eraseIdx_eq_take_drop_succ]
  exact (h.take n).append (h.drop (n + 1))
theorem RpAll.reverse {ts : List T} {us : List V} (h : RpAll K H B ts us) : RpAll K H B ts.reverse us.reverse :=
  ⟨by simp [h.1], fun i t u a b => by
    have hi : i < ts.length := by
      have q := (List.getElem?_eq_some_iff.mp a).1
      simpa using q
    rw [List.getElem?_reverse hi] at a
    rw [List.getElem?_reverse (by rw [← h.1]; exact hi)] at b
    exact h.2 _ t u a (by rw [h.1]; exact b)⟩
end
end Tr
namespace Tr
open PySem L2

/-- what an expression hands on: a shared value, a new object that nobody else holds, the object that slot i owns -/
inductive R where
  | sh (d : T) | fr (d : T) | bo (i : Nat) (d : T)
  /-- what is lent to be read -/
  | vw (d : T)
def R.d : R → T
  | .sh d => d
  | .fr d => d
  | .bo _ d => d
  | .vw d => d
/-- what a run gives: a value, an exception (its class, its field), or nothing that is known -/
inductive Res (A : Type) where
  | ok (a : A) | exc (c : Addr) (p : Option T) | bad
def Res.bind {A C : Type} (r : Res A) (f : A → Res C) : Res C := match r with
  | .ok a => f a
  | .exc c p => .exc c p
  | .bad => .bad
instance : Monad Res where
  pure a := .ok a
  bind r f := r.bind f
@[simp] theorem bind_ok {A C : Type} (a : A) (f : A → Res C) : (Res.ok a >>= f) = f a := rfl
@[simp] theorem bind_exc {A C : Type} (c : Addr) (p : Option T) (f : A → Res C) : (Res.exc c p >>= f) = .exc c p := rfl
@[simp] theorem bind_bad {A C : Type} (f : A → Res C) : ((Res.bad : Res A) >>= f) = .bad := rfl
@[simp] theorem Rbind_ok {A C : Type} (a : A) (f : A → Res C) : (Res.ok a).bind f = f a := rfl
@[simp] theorem Rbind_exc {A C : Type} (c : Addr) (p : Option T) (f : A → Res C) : (Res.exc c p).bind f = .exc c p := rfl
@[simp] theorem Rbind_bad {A C : Type} (f : A → Res C) : (Res.bad : Res A).bind f = .bad := rfl
@[simp] theorem R_d_sh (d : T) : (R.sh d).d = d := rfl
@[simp] theorem R_d_fr (d : T) : (R.fr d).d = d := rfl
@[simp] theorem R_d_bo (i : Nat) (d : T) : (R.bo i d).d = d := rfl
@[simp] theorem R_d_vw (d : T) : (R.vw d).d = d := rfl

/-- a slot: empty (or not spoken of), a value that stays, an object of one's own, the object whose method this is, what is lent; the cells -/
inductive Sl where
  | no | fz (d : T) | ow (d : T) | sf (d : T) | br (d : T) | st (S : List T)
  /-- cells that are lent -/
  | rd (S : List T)
abbrev En := List Sl

/-- the object o holds the tree; what lies within is not at B -/
inductive OwnRp (K : PySem.W.Frag) (H : Hp) (B : Xs) : T → HO → Prop
  | lst {ts : List T} {us : List V} : RpAll K H B ts us → OwnRp K H B (.lst ts) (.lst us)
  | dik {ts : List (Key × T)} {us : List (Key × V)} : ts.map (·.1) = us.map (·.1) → RpAll K H B (ts.map (·.2)) (us.map (·.2)) → OwnRp K H B (.dik ts) (.dK us)
  | dit {ts : List (List Key × T)} {us : List (List Key × V)} : ts.map (·.1) = us.map (·.1) → RpAll K H B (ts.map (·.2)) (us.map (·.2)) → OwnRp K H B (.dit ts) (.dT us)
  | obj {C : Nat} {c dx : Addr} {ts : List (Str × T)} {us : List (Str × V)} : clsA K C = some c → ts.map (·.1) = us.map (·.1) → RpAll K H B (ts.map (·.2)) (us.map (·.2)) → OwnRp K H B (.obj C ts) (.ins c dx us)

/-- whose the objects are: of the slots, then of the cells -/
abbrev Ow := List (Option Addr)
/-- what is not to be spoken of; the object whose method this is, if it may be changed; how many slots there are; the cells of others; the heap that is lent -/
structure Bs where
  p : Addr → Prop
  z : Option Addr
  n : Nat
  cs : Nat → Option Addr
  h : Hp
  /-- there are cells of this frame -/
  act : Bool
instance : CoeFun Bs (fun _ => Addr → Prop) := ⟨Bs.p⟩
def Bs.add (B : Bs) (D : Addr) : Bs := { B with p := fun a => B.p a ∨ a = D }
/-- of a def: B, the cells -/
def Bs.x (B : Bs) : Xs := ⟨B.p, B.cs⟩
def csOf (B : Bs) (O : Ow) (k : Nat) : Option Addr := match B.cs k with
  | some a => some a
  | none => (O[B.n + k]?).join
def Ex (B : Bs) (O : Ow) : Xs := ⟨fun a => B a ∨ ∃ i : Nat, O[i]? = some (some a), csOf B O⟩

def SlOk (K : PySem.W.Frag) (B : Bs) (O : Ow) (σ : St) (H : Hp) (i : Nat) : Sl → Prop
  | .no => O[i]? = some none
  | .fz d => O[i]? = some none ∧ ∃ v, σ[i]? = some (some v) ∧ Rp K H (Ex B O) d v
  | .ow d => ∃ a ho, O[i]? = some (some a) ∧ σ[i]? = some (some (.ref a)) ∧ H a = some ho ∧ OwnRp K H (Ex B O) d ho
  | .sf d => ∃ a ho, O[i]? = some (some a) ∧ σ[i]? = some (some (.ref a)) ∧ H a = some ho ∧ OwnRp K H (Ex B O) d ho ∧ B.z = some a
  | .br d => O[i]? = some none ∧ ∃ a ho, σ[i]? = some (some (.ref a)) ∧ B.h a = some ho ∧ OwnRp K H (Ex B O) d ho
  | .st S => O[i]? = some none ∧ O.length = B.n + S.length ∧ (B.act = true ∧ ∀ k, B.cs k = none) ∧ ∀ (k : Nat) (t : T), S[k]? = some t → ∃ a ho, O[B.n + k]? = some (some a) ∧ H a = some ho ∧ OwnRp K H (Ex B O) t ho
  | .rd S => O[i]? = some none ∧ ∀ (k : Nat) (t : T), S[k]? = some t → ∃ a ho, B.cs k = some a ∧ B.h a = some ho ∧ OwnRp K H (Ex B O) t ho

/-- no tuple -/
def nTup (o : HO) : Prop := (∀ us, o ≠ .tup us) ∧ ∀ fs, o ≠ .xd fs
/-- the frame's slots are as env tells -/
structure Rel (K : PySem.W.Frag) (B : Bs) (H0 : Hp) (O : Ow) (env : En) (σ : St) (H : Hp) : Prop where
  len : σ.length = env.length
  lenN : env.length = B.n
  lenO : B.n ≤ O.length
  cells : B.act = false → O.length = B.n
  same : Same H0 H
  lent : Same B.h H0
  there : ∀ a, B a → ∃ o, H a = some o ∧ nTup o
  own : ∀ (i : Nat) (a : Addr), O[i]? = some (some a) → H0 a = none ∧ ¬ B a ∧ ∃ ho, H a = some ho ∧ nTup ho
  uniq : ∀ (i j : Nat) (a : Addr), O[i]? = some (some a) → O[j]? = some (some a) → i = j
  slot : ∀ (i : Nat) (s : Sl), env[i]? = some s → SlOk K B O σ H i s
  one : ∀ (i j : Nat) (S S' : List T), env[i]? = some (.st S) → env[j]? = some (.st S') → i = j

/-- what r stands for, at v, made between H and H' -/
def RR (K : PySem.W.Frag) (B : Bs) (O : Ow) (H H' : Hp) (r : R) (v : V) : Prop := match r with
  | .sh d => Rp K H' (Ex B O) d v
  | .fr d => ∃ p ho, v = .ref p ∧ H p = none ∧ H' p = some ho ∧ OwnRp K H' ((Ex B O).add p) d ho
  | .bo i d => ∃ a ho, O[i]? = some (some a) ∧ v = .ref a ∧ H' a = some ho ∧ OwnRp K H' (Ex B O) d ho
  | .vw d => ∃ a ho, B.h a = some ho ∧ v = .ref a ∧ H' a = some ho ∧ OwnRp K H' (Ex B O) d ho
/-- what a def hands back -/
def RX (K : PySem.W.Frag) (X : Xs) (H H' : Hp) (r : R) (v : V) : Prop := match r with
  | .sh d => Rp K H' X d v
  | .fr d => ∃ p ho, v = .ref p ∧ H p = none ∧ H' p = some ho ∧ OwnRp K H' (X.add p) d ho
  | _ => False

/-- an exception's own field -/
def XRel (K : PySem.W.Frag) (B : Xs) (H' : Hp) (p : Option T) (d : Option Addr) : Prop := match p with
  | none => d = none
  | some t => ∃ a v, d = some a ∧ H' a = some (.xd [(("name" : Str), v)]) ∧ Rp K H' B t v

section
variable {K : PySem.W.Frag} {B B' : Bs} {X X' : Xs} {H0 H H1 H2 H' : Hp} {O O' : Ow} {env : En} {σ σ' : St} {d : T} {v : V} {r : R} {ho : HO}
theorem OwnRp.keep (h : OwnRp K H X d ho) (k : Keep X H X' H') : OwnRp K H' X' d ho := by
  cases h with
  | lst h => exact .lst (h.keep k)
  | dik e h => exact .dik e (h.keep k)
  | dit e h => exact .dit e (h.keep k)
  | obj c e h => exact .obj c e (h.keep k)
theorem OwnRp.same (h : OwnRp K H X d ho) (s : Same H H') : OwnRp K H' X d ho := h.keep ⟨fun a o e n => ⟨s a o e, n⟩, fun _ _ e => e⟩
theorem OwnRp.anti (h : OwnRp K H X d ho) (s : ∀ a, X' a → X a) (c : ∀ k a, X.cs k = some a → X'.cs k = some a := by exact fun _ _ e => e) : OwnRp K H X' d ho := h.keep ⟨fun a o e n => ⟨e, fun z => n (s a z)⟩, c⟩
theorem OwnRp.np (h : OwnRp K H X d ho) (p : ∀ a, X' a → X a) (q : d.np = true) : OwnRp K H X' d ho := by
  have all : ∀ {ts : List T} {us : List V}, RpAll K H X ts us → ts.all T.np = true → RpAll K H X' ts us := fun h q => ⟨h.1, fun i t u a b => (h.2 i t u a b).np p (np_get q a)⟩
  cases h with
  | lst h => exact .lst (all h (by rw [T.np, T.nps_all] at q; exact q))
  | dik e h => exact .dik e (all h (by rw [T.np, T.npk_all] at q; exact q))
  | dit e h => exact .dit e (all h (by rw [T.np, T.npd_all] at q; exact q))
  | obj c e h => exact .obj c e (all h (by rw [T.np, T.npf_all] at q; exact q))
theorem OwnRp.rp {p : Addr} (h : OwnRp K H X d ho) (e : H p = some ho) (n : ¬ X p) : Rp K H X d (.ref p) := by
  cases h with
  | lst h => exact .lst e n h.1 h.2
  | dik q h => exact .dik e n q h.1 h.2
  | dit q h => exact .dit e n q h.1 h.2
  | obj c q h => exact .obj c e n q h.1 h.2
theorem Same.keepB (s : Same H H') : Keep X H X H' := ⟨fun a o e n => ⟨s a o e, n⟩, fun _ _ e => e⟩
theorem OwnRp.ntup (h : OwnRp K H X d ho) : nTup ho := by
  cases h <;> exact ⟨fun us e => (by cases e), fun us e => (by cases e)⟩
theorem Rel.lenE (R : Rel K B H0 O env σ H) {i : Nat} (h : i < env.length) : i < O.length := Nat.lt_of_lt_of_le (R.lenN ▸ h) R.lenO
theorem Rel.cs0 (R : Rel K B H0 O env σ H) (h : B.act = false) {k : Nat} : csOf B O k = B.cs k := by
  unfold csOf
  have e : O[B.n + k]? = none := List.getElem?_eq_none (by rw [R.cells h]; omega)
  rw [e]
  cases B.cs k <;> rfl
theorem Rel.ex_ntup (R : Rel K B H0 O env σ H) {a : Addr} (h : Ex B O a) : ∃ o, H a = some o ∧ nTup o := by
  rcases h with h | ⟨i, h⟩
  · exact R.there a h
  · exact (R.own i a h).2.2
theorem Rel.ex_there (R : Rel K B H0 O env σ H) {a : Addr} (h : Ex B O a) : ∃ o, H a = some o :=
  let ⟨o, e, _⟩ := R.ex_ntup h
  ⟨o, e⟩
theorem Rel.ex_new (R : Rel K B H0 O env σ H) {a : Addr} (h : H a = none) : ¬ Ex B O a := fun z => by
  obtain ⟨o, e⟩ := R.ex_there z
  rw [h] at e; cases e
/-- a slot stays as it is -/
theorem SlOk.upB {j : Nat} {s : Sl} (h : SlOk K B O σ H j s) (hb : B'.n = B.n ∧ B'.cs = B.cs ∧ B'.z = B.z ∧ B'.h = B.h ∧ B'.act = B.act) (kp : Keep (Ex B O) H (Ex B' O') H') (eO : O'[j]? = O[j]?) (eσ : σ'[j]? = σ[j]?) (eL : O'.length = O.length) (eC : ∀ k, O'[B.n + k]? = O[B.n + k]?)
    (hH : ∀ m a o, (m = j ∨ ((∃ S, s = .st S) ∧ B.n ≤ m)) → O[m]? = some (some a) → H a = some o → H' a = some o) : SlOk K B' O' σ' H' j s := by
  obtain ⟨b1, b2, b3, b4, b5⟩ := hb
  cases s with
  | no => exact eO.trans h
  | fz d =>
    obtain ⟨h1, v, h2, h3⟩ := h
    exact ⟨eO.trans h1, v, eσ.trans h2, h3.keep kp⟩
  | ow d =>
    obtain ⟨a, ho, h1, h2, h3, h4⟩ := h
    exact ⟨a, ho, eO.trans h1, eσ.trans h2, hH j a ho (.inl rfl) h1 h3, h4.keep kp⟩
  | sf d =>
    obtain ⟨a, ho, h1, h2, h3, h4, h5⟩ := h
    exact ⟨a, ho, eO.trans h1, eσ.trans h2, hH j a ho (.inl rfl) h1 h3, h4.keep kp, by rw [b3]; exact h5⟩
  | br d =>
    obtain ⟨h1, a, ho, h2, h3, h4⟩ := h
    exact ⟨eO.trans h1, a, ho, eσ.trans h2, by rw [b4]; exact h3, h4.keep kp⟩
  | rd S =>
    obtain ⟨h1, h2⟩ := h
    refine ⟨eO.trans h1, fun k t e => ?_⟩
    obtain ⟨a, ho, h3, h4, h5⟩ := h2 k t e
    exact ⟨a, ho, by rw [b2]; exact h3, by rw [b4]; exact h4, h5.keep kp⟩
  | st S =>
    obtain ⟨h1, h2, h3, h4⟩ := h
    refine ⟨eO.trans h1, by rw [eL, b1]; exact h2, by rw [b5, b2]; exact h3, fun k t e => ?_⟩
    obtain ⟨a, ho, h5, h6, h7⟩ := h4 k t e
    exact ⟨a, ho, by rw [b1]; exact (eC k).trans h5, hH (B.n + k) a ho (.inr ⟨⟨S, rfl⟩, Nat.le_add_right _ _⟩) h5 h6, h7.keep kp⟩
theorem SlOk.up {j : Nat} {s : Sl} (h : SlOk K B O σ H j s) (kp : Keep (Ex B O) H (Ex B O') H') (eO : O'[j]? = O[j]?) (eσ : σ'[j]? = σ[j]?) (eL : O'.length = O.length) (eC : ∀ k, O'[B.n + k]? = O[B.n + k]?)
    (hH : ∀ m a o, (m = j ∨ ((∃ S, s = .st S) ∧ B.n ≤ m)) → O[m]? = some (some a) → H a = some o → H' a = some o) : SlOk K B O' σ' H' j s := h.upB ⟨rfl, rfl, rfl, rfl, rfl⟩ kp eO eσ eL eC hH
theorem Rel.mono (R : Rel K B H0 O env σ H) (s : Same H H') : Rel K B H0 O env σ H' where
  len := R.len
  lenN := R.lenN
  lenO := R.lenO
  cells := R.cells
  same := R.same.trans s
  lent := R.lent
  there := fun a h => by
    obtain ⟨o, e, n⟩ := R.there a h
    exact ⟨o, s a o e, n⟩
  own := fun i a e => by
    obtain ⟨h0, nb, ho, h1, nt⟩ := R.own i a e
    exact ⟨h0, nb, ho, s _ _ h1, nt⟩
  uniq := R.uniq
  slot := fun i sl e => (R.slot i sl e).up (Same.keepB s) rfl rfl rfl (fun _ => rfl) fun m a o _ _ h => s a o h
  one := R.one
theorem RR.mono (h : RR K B O H H1 r v) (s : Same H1 H2) : RR K B O H H2 r v := by
  cases r with
  | sh d => exact Rp.same h s
  | fr d =>
    obtain ⟨p, ho, e, n, h1, h2⟩ := h
    exact ⟨p, ho, e, n, s _ _ h1, h2.same s⟩
  | bo i d =>
    obtain ⟨a, ho, e, n, h1, h2⟩ := h
    exact ⟨a, ho, e, n, s _ _ h1, h2.same s⟩
  | vw d =>
    obtain ⟨a, ho, z, e, h1, h2⟩ := h
    exact ⟨a, ho, z, e, s _ _ h1, h2.same s⟩
theorem RR.down (h : RR K B O H1 H2 r v) (s : Same H H1) : RR K B O H H2 r v := by
  cases r with
  | sh d => exact h
  | fr d =>
    obtain ⟨p, ho, e, n, h1, h2⟩ := h
    exact ⟨p, ho, e, s.free n, h1, h2⟩
  | bo i d => exact h
  | vw d => exact h
/-- read as a tree, wherever it stands -/
theorem RR.rp0 (h : RR K B O H H' r v) : Rp K H' (Ex B O).bare r.d v := by
  cases r with
  | sh d => exact Rp.anti h fun _ z => z.elim
  | fr d =>
    obtain ⟨p, ho, e, n, h1, h2⟩ := h
    subst e
    exact (h2.anti (X' := (Ex B O).bare) fun _ z => z.elim).rp h1 fun z => z
  | bo i d =>
    obtain ⟨a, ho, e, n, h1, h2⟩ := h
    subst n
    exact (h2.anti (X' := (Ex B O).bare) fun _ z => z.elim).rp h1 fun z => z
  | vw d =>
    obtain ⟨a, ho, _, n, h1, h2⟩ := h
    subst n
    exact (h2.anti (X' := (Ex B O).bare) fun _ z => z.elim).rp h1 fun z => z
/-- a value that may be kept -/
def R.kp : R → Bool
  | .bo _ _ => false
  | .vw _ => false
  | _ => true
theorem RR.rp (h : RR K B O H H' r v) (R : Rel K B H0 O env σ H) (k : r.kp = true) : Rp K H' (Ex B O) r.d v := by
  cases r with
  | sh d => exact h
  | fr d =>
    obtain ⟨p, ho, e, n, h1, h2⟩ := h
    subst e
    exact (h2.anti (X' := Ex B O) fun _ z => .inl z).rp h1 (R.ex_new n)
  | bo i d => cases k
  | vw d => cases k
theorem rp_int {i : Int} (h : Rp K H X (.int i) v) : v = .int i := by cases h; rfl
theorem rp_str {x : Str} (h : Rp K H X (.str x) v) : v = .str x := by cases h; rfl
theorem rp_bl {x : Bool} (h : Rp K H X (.bl x) v) : v = .bl x := by cases h; rfl
theorem rp_non (h : Rp K H X .non v) : v = .non := by cases h; rfl
theorem RR.int {i : Int} (h : RR K B O H H' r v) (e : r.d = .int i) : v = .int i := rp_int (e ▸ h.rp0)
theorem RR.str {i : Str} (h : RR K B O H H' r v) (e : r.d = .str i) : v = .str i := rp_str (e ▸ h.rp0)
theorem RR.bl {i : Bool} (h : RR K B O H H' r v) (e : r.d = .bl i) : v = .bl i := rp_bl (e ▸ h.rp0)
theorem RR.non (h : RR K B O H H' r v) (e : r.d = .non) : v = .non := rp_non (e ▸ h.rp0)
/-- a list's items, or the script's -/
def T.its : T → Option (List T)
  | .lst l => some l
  | .scr ns => some (ns.map T.int)
  | _ => none
theorem RpAll.ints : ∀ {ns : List Int}, RpAll K H X (ns.map T.int) (ns.map V.int) := fun {ns} =>
  ⟨by simp, fun i t u a b => by
    rw [List.getElem?_map] at a b
    cases q : ns[i]? with
    | none => rw [q] at a; cases a
    | some n => rw [q] at a b; cases a; cases b; exact .int n⟩
theorem RR.lst {ts : List T} (h : RR K B O H H' r v) (e : r.d = .lst ts) : ∃ a us, v = .ref a ∧ H' a = some (.lst us) ∧ RpAll K H' (Ex B O) ts us := by
  cases r with
  | sh d =>
    cases e
    cases h with
    | lst hq hn hl hs => exact ⟨_, _, rfl, hq, hl, hs⟩
  | fr d =>
    cases e
    obtain ⟨p, ho, e, n, h1, h2⟩ := h
    cases h2 with
    | lst h2 => exact ⟨p, _, e, h1, h2.anti fun _ z => .inl z⟩
  | bo i d =>
    cases e
    obtain ⟨a, ho, e, n, h1, h2⟩ := h
    cases h2 with
    | lst h2 => exact ⟨a, _, n, h1, h2⟩
  | vw d =>
    cases e
    obtain ⟨a, ho, _, n, h1, h2⟩ := h
    cases h2 with
    | lst h2 => exact ⟨a, _, n, h1, h2⟩
/-- a list, its items -/
theorem RR.its {ts : List T} (h : RR K B O H H' r v) (e : r.d.its = some ts) : ∃ a us, v = .ref a ∧ SqL K H' a us ∧ RpAll K H' (Ex B O) ts us := by
  cases q : r.d with
  | lst l =>
    rw [q] at e
    cases e
    obtain ⟨a, us, e1, e2, e3⟩ := h.lst q
    exact ⟨a, us, e1, SqL.of e2, e3⟩
  | scr ns =>
    rw [q] at e
    cases e
    cases r with
    | sh d =>
      cases q
      cases h with
      | scr hq => exact ⟨_, _, rfl, hq.elim (fun z => .inl z.1) .inr, .ints⟩
    | fr d =>
      cases q
      obtain ⟨p, ho, e, n, h1, h2⟩ := h
      cases h2
    | bo i d =>
      cases q
      obtain ⟨a, ho, e, n, h1, h2⟩ := h
      cases h2
    | vw d =>
      cases q
      obtain ⟨a, ho, _, n, h1, h2⟩ := h
      cases h2
  | _ => rw [q] at e; cases e
theorem RR.tup {ts : List T} (h : RR K B O H H' r v) (e : r.d = .tup ts) : ∃ a us, v = .ref a ∧ H' a = some (.tup us) ∧ RpAll K H' (Ex B O) ts us := by
  cases r with
  | sh d =>
    cases e
    cases h with
    | tup hq hn hl hs => exact ⟨_, _, rfl, hq, hl, hs⟩
  | fr d =>
    cases e
    obtain ⟨p, ho, e, n, h1, h2⟩ := h
    cases h2
  | bo i d =>
    cases e
    obtain ⟨a, ho, e, n, h1, h2⟩ := h
    cases h2
  | vw d =>
    cases e
    obtain ⟨a, ho, _, n, h1, h2⟩ := h
    cases h2
/-- a list that is tracked and its own -/
theorem RR.frlst {ts : List T} (h : RR K B O H H' (.fr (.lst ts)) v) : ∃ a us, v = .ref a ∧ H a = none ∧ H' a = some (.lst us) ∧ RpAll K H' ((Ex B O).add a) ts us := by
  obtain ⟨p, ho, e, n, h1, h2⟩ := h
  cases h2 with
  | lst h2 => exact ⟨p, _, e, n, h1, h2⟩
/-- a new list of kept things -/
theorem RR.newL {p : Addr} {ts : List T} {us : List V} (R : Rel K B H0 O env σ H) (s : Same H H1) (h : RpAll K H1 (Ex B O) ts us) (n : H1 p = none) : RR K B O H (upd H1 p (.lst us)) (.fr (.lst ts)) (.ref p) := by
  have sm : Same H1 (upd H1 p (.lst us)) := fun b o e => by rw [upd_ne (ne_of_none e n)]; exact e
  exact ⟨p, _, rfl, s.free n, upd_same, .lst ((h.newB n).same sm)⟩
theorem Same.new {p : Addr} {o : HO} (n : H p = none) : Same H (upd H p o) := fun b u e => by rw [upd_ne (ne_of_none e n)]; exact e
end
end Tr
namespace Tr
open PySem L2

/-- what a run's three ends ask -/
def Post {A : Type} (xc : Addr → Option T → Prop) (okp : A → Prop) : Res A → Prop
  | .ok a => okp a
  | .exc c p => xc c p
  | .bad => False
def XC (K : PySem.W.Frag) (B : Bs) (O : Ow) (EX : L2.St → XK) (σ : L2.St) (H : Hp) (c : Addr) (p : Option T) : Prop :=
  ∀ H' d a, clsA K c = some a → Same H H' → XRel K (Ex B O) H' p d → EX σ (.ref a) d H'
theorem Post.bind {A C : Type} {xc : Addr → Option T → Prop} {okp : C → Prop} {r : Res A} {g : A → Res C} (h : Post xc okp (r.bind g)) : Post xc (fun a => Post xc okp (g a)) r := by
  cases r <;> exact h
theorem Post.mono {A : Type} {xc xc' : Addr → Option T → Prop} {okp okp' : A → Prop} {r : Res A} (h : Post xc okp r) (hx : ∀ c p, xc c p → xc' c p) (ho : ∀ a, okp a → okp' a) : Post xc' okp' r := by
  cases r with
  | ok a => exact ho a h
  | exc c p => exact hx c p h
  | bad => exact h
section
variable {K : PySem.W.Frag} {B : Bs} {O : Ow} {EX : L2.St → XK} {σ : L2.St} {H H1 : Hp}
theorem XC.up {c : Addr} {p : Option T} (h : XC K B O EX σ H c p) (s : Same H H1) : XC K B O EX σ H1 c p := fun H' d a ea s' x => h H' d a ea (s.trans s') x
theorem Post.up {A : Type} {okp : A → Prop} {r : Res A} (h : Post (XC K B O EX σ H) okp r) (s : Same H H1) : Post (XC K B O EX σ H1) okp r := h.mono (fun _ _ x => x.up s) fun _ x => x
end

def RRs (K : PySem.W.Frag) (B : Bs) (O : Ow) (H H' : Hp) : List R → List V → Prop
  | [], [] => True
  | r :: rs, v :: vs => RR K B O H H' r v ∧ RRs K B O H H' rs vs
  | _, _ => False

/-- an expression -/
structure EJ (X : Cx) (EX : L2.St → XK) (e : Expr) (f : En → Res R) : Prop where
  ex : ∃ t : TE, PE X e t ∧ ∀ B H0 O env σ H (Q : VK), Rel X.K B H0 O env σ H → Post (XC X.K B O EX σ H) (fun r => ∀ v H', Same H H' → RR X.K B O H H' r v → Q v H') (f env) → t σ H Q
/-- a test -/
structure BJ (X : Cx) (EX : L2.St → XK) (e : Expr) (f : En → Res Bool) : Prop where
  ex : ∃ t : TT, PT X e t ∧ ∀ B H0 O env σ H (Q : Bool → Hp → Prop), Rel X.K B H0 O env σ H → Post (XC X.K B O EX σ H) (fun b => ∀ H', Same H H' → Q b H') (f env) → t σ H Q
structure WJ (X : Cx) (EX : L2.St → XK) (e : Expr) (f : En → Res Bool) : Prop where
  ex : ∃ t : TT, PW X e t ∧ ∀ B H0 O env σ H (Q : Bool → Hp → Prop), Rel X.K B H0 O env σ H → Post (XC X.K B O EX σ H) (fun b => ∀ H', Same H H' → Q b H') (f env) → t σ H Q
/-- arguments -/
structure AJ (X : Cx) (EX : L2.St → XK) (es : List Expr) (f : En → Res (List R)) : Prop where
  ex : ∃ t : TA, PA X es t ∧ ∀ B H0 O env σ H (Q : List V → Hp → Prop), Rel X.K B H0 O env σ H → Post (XC X.K B O EX σ H) (fun rs => ∀ vs H', Same H H' → RRs X.K B O H H' rs vs → Q vs H') (f env) → t σ H Q

section
variable {K : PySem.W.Frag} {B : Bs} {O : Ow} {H0 H H1 H2 : Hp} {env : En} {σ : L2.St}
theorem RRs.mono : ∀ {rs : List R} {vs : List V}, RRs K B O H H1 rs vs → Same H1 H2 → RRs K B O H H2 rs vs
  | [], [], _, _ => trivial
  | _ :: _, _ :: _, h, s => ⟨h.1.mono s, RRs.mono h.2 s⟩
  | [], _ :: _, h, _ => h.elim
  | _ :: _, [], h, _ => h.elim
theorem RRs.down : ∀ {rs : List R} {vs : List V}, RRs K B O H1 H2 rs vs → Same H H1 → RRs K B O H H2 rs vs
  | [], [], _, _ => trivial
  | _ :: _, _ :: _, h, s => ⟨h.1.down s, RRs.down h.2 s⟩
  | [], _ :: _, h, _ => h.elim
  | _ :: _, [], h, _ => h.elim
theorem RRs.rp (R0 : Rel K B H0 O env σ H) : ∀ {rs : List R} {vs : List V}, RRs K B O H H1 rs vs → rs.all R.kp = true → RpAll K H1 (Ex B O) (rs.map R.d) vs
  | [], [], _, _ => .nil
  | r :: rs, v :: vs, h, k => by
    rw [List.all_cons, Bool.and_eq_true] at k
    exact .cons (h.1.rp R0 k.1) (RRs.rp R0 h.2 k.2)
  | [], _ :: _, h, _ => h.elim
  | _ :: _, [], h, _ => h.elim
theorem RRs.length : ∀ {rs : List R} {vs : List V}, RRs K B O H H1 rs vs → rs.length = vs.length
  | [], [], _ => rfl
  | r :: rs, v :: vs, h => by simp [RRs.length h.2]
  | [], _ :: _, h => h.elim
  | _ :: _, [], h => h.elim
end

/-! ### names, constants -/
@[simp] def fC (d : T) (_ : En) : Res R := .ok (.sh d)
def slR (i : Nat) : Sl → Res R
  | .fz d => .ok (.sh d)
  | .ow d => .ok (.bo i d)
  | .sf d => .ok (.bo i d)
  | .br d => .ok (.vw d)
  | .no => .bad
  | .st _ => .bad
  | .rd _ => .bad
def fV (i : Nat) (env : En) : Res R := match env[i]? with
  | some s => slR i s
  | none => .bad
section
variable {X : Cx} {EX : L2.St → XK} {pos : Pos}
theorem ej_const {e : Expr} {d : T} {v : V} (h : PE X e (tC v)) (r : ∀ K H B, Rp K H B d v) : EJ X EX e (fC d) :=
  ⟨⟨_, h, fun B H0 O env σ H Q R p => p v H (Same.refl H) (r _ _ _)⟩⟩
theorem ej_int {i : Int} {j pos} : EJ X EX (.Constant (.int i) j pos) (fC (.int i)) := ej_const pe_int fun _ _ _ => .int i
theorem ej_bl {b : Bool} {j pos} : EJ X EX (.Constant (.bool b) j pos) (fC (.bl b)) := ej_const pe_bl fun _ _ _ => .bl b
theorem ej_non {j pos} : EJ X EX (.Constant .none j pos) (fC .non) := ej_const pe_non fun _ _ _ => .non
theorem ej_str {x : Str} {j pos} (h : PyData.strOk x = true) : EJ X EX (.Constant (.str x) j pos) (fC (.str x)) := ej_const pe_str fun _ _ _ => .str x h
theorem ej_gint {x : Str} {n : Int} {u : Value} (hg : Gl X x) (hm : X.mg x = some u) (r : RelV (.int n) u) (hd : (x == ("__debug__" : Str)) = false := by decide) : EJ X EX (.Name x pos) (fC (.int n)) := ej_const (pe_glob hg hm r hd) fun _ _ _ => .int n
theorem ej_gstr {x : Str} {n : Str} {u : Value} (h : PyData.strOk n = true) (hg : Gl X x) (hm : X.mg x = some u) (r : RelV (.str n) u) (hd : (x == ("__debug__" : Str)) = false := by decide) : EJ X EX (.Name x pos) (fC (.str n)) := ej_const (pe_glob hg hm r hd) fun _ _ _ => .str n h
theorem ej_var (i : Nat) {x : Str} (hN : X.N[i]? = some x := by rfl) (hv : Vis X.env.scope x := by first | exact Or.inl rfl | exact Or.inr (Or.inl rfl) | exact Or.inr (Or.inr rfl)) (hd : (x == ("__debug__" : Str)) = false := by decide)
    (hcd : (x == ("__classdict__" : Str)) = false := by decide) : EJ X EX (.Name x pos) (fV i) := by
  refine ⟨⟨_, pe_var hN hv hd hcd, fun B H0 O env σ H Q R p => ?_⟩⟩
  unfold fV at p
  cases e : env[i]? with
  | none => rw [e] at p; exact p.elim
  | some s =>
    rw [e] at p
    have h := R.slot i s e
    cases s with
    | no => exact p.elim
    | fz d =>
      obtain ⟨_, v, h2, h3⟩ := h
      exact ⟨v, h2, p v H (Same.refl H) h3⟩
    | ow d =>
      obtain ⟨a, ho, h1, h2, h3, h4⟩ := h
      exact ⟨.ref a, h2, p _ H (Same.refl H) ⟨a, ho, h1, rfl, h3, h4⟩⟩
    | sf d =>
      obtain ⟨a, ho, h1, h2, h3, h4, _⟩ := h
      exact ⟨.ref a, h2, p _ H (Same.refl H) ⟨a, ho, h1, rfl, h3, h4⟩⟩
    | br d =>
      obtain ⟨_, a, ho, h2, h3, h4⟩ := h
      exact ⟨.ref a, h2, p _ H (Same.refl H) ⟨a, ho, h3, rfl, R.same _ _ (R.lent _ _ h3), h4⟩⟩
    | st S => exact p.elim
    | rd S => exact p.elim
end

/-! ### arguments -/
@[simp] def fN (_ : En) : Res (List R) := .ok []
def fA (f : En → Res R) (g : En → Res (List R)) (env : En) : Res (List R) := (f env).bind fun r => (g env).bind fun rs => .ok (r :: rs)
section
variable {X : Cx} {EX : L2.St → XK} {e : Expr} {es : List Expr} {f : En → Res R} {g : En → Res (List R)}
theorem aj_nil : AJ X EX [] fN := ⟨⟨_, pa_nil, fun B H0 O env σ H Q R p => p [] H (Same.refl H) trivial⟩⟩
theorem aj_cons (h : EJ X EX e f) (k : AJ X EX es g) (hs : starEach (e :: es) X.env = (false, eval e X.env) :: starEach es X.env := by rfl) : AJ X EX (e :: es) (fA f g) := by
  obtain ⟨t, pe, i⟩ := h.ex
  obtain ⟨t', pa, i'⟩ := k.ex
  refine ⟨⟨_, pa_cons pe pa hs, fun B H0 O env σ H Q R p => ?_⟩⟩
  refine i B H0 O env σ H _ R (p.bind.mono (fun _ _ x => x) fun r q v H1 s r1 => ?_)
  refine i' B H0 O env σ H1 _ (R.mono s) ((q.bind.up s).mono (fun _ _ x => x) fun rs q2 vs H2 s2 r2 => ?_)
  exact q2 (v :: vs) H2 (s.trans s2) ⟨r1.mono s2, r2.down s⟩
end

/-! ### displays -/
def fTup (g : En → Res (List R)) (env : En) : Res R := (g env).bind fun rs => if rs.all R.kp = true ∧ rs.length ≤ sizeLine then .ok (.sh (.tup (rs.map R.d))) else .bad
def fLst (g : En → Res (List R)) (env : En) : Res R := (g env).bind fun rs => if rs.all R.kp = true ∧ rs.length ≤ sizeLine then .ok (.fr (.lst (rs.map R.d))) else .bad
section
variable {X : Cx} {EX : L2.St → XK} {es : List Expr} {g : En → Res (List R)} {pos : Pos}
theorem ej_tup {x1} (k : AJ X EX es g) : EJ X EX (.Tuple es x1 pos) (fTup g) := by
  obtain ⟨t, pa, i⟩ := k.ex
  refine ⟨⟨_, pe_tup pa, fun B H0 O env σ H Q R p => ?_⟩⟩
  refine i B H0 O env σ H _ R (p.bind.mono (fun _ _ x => x) fun rs q vs H1 s r1 => ?_)
  split at q
  · rename_i c
    refine ⟨by rw [← r1.length]; exact c.2, fun a na => q _ _ (s.trans (Same.new na)) ?_⟩
    have z := RRs.rp R r1 c.1
    exact Rp.tup upd_same (Rel.ex_new (R.mono s) na) z.1 fun i t u a b => (z.2 i t u a b).same (Same.new na)
  · exact q.elim
theorem ej_lst (k : AJ X EX es g) : EJ X EX (.List es pos) (fLst g) := by
  obtain ⟨t, pa, i⟩ := k.ex
  refine ⟨⟨_, pe_lst pa, fun B H0 O env σ H Q R p => ?_⟩⟩
  refine i B H0 O env σ H _ R (p.bind.mono (fun _ _ x => x) fun rs q vs H1 s r1 => ?_)
  split at q
  · rename_i c
    exact ⟨by rw [← r1.length]; exact c.2, fun a na => q _ _ (s.trans (Same.new na)) (RR.newL R s (RRs.rp R r1 c.1) na)⟩
  · exact q.elim
end

/-! ### operators by values -/
/-- r (HandS) does what g says -/
def OpI (X : Cx) (r : R2) (g : R → R → Res R) : Prop := ∀ B H0 O env σ Hs H x y v w (Q : VK) xc, Rel X.K B H0 O env σ Hs → Same Hs H → RR X.K B O Hs H x v → RR X.K B O Hs H y w →
  Post xc (fun r => ∀ u H', Same H H' → RR X.K B O Hs H' r u → Q u H') (g x y) → r v w H Q
def b2 (g : R → R → Res R) (f f' : En → Res R) (env : En) : Res R := (f env).bind fun x => (f' env).bind fun y => g x y
def asB (r : R) : Res Bool := match r.d with
  | .bl b => .ok b
  | _ => .bad
def c2 (g : R → R → Res R) (f f' : En → Res R) (env : En) : Res Bool := (f env).bind fun x => (f' env).bind fun y => (g x y).bind asB
/-- a chain of two comparisons -/
def ch2 (g g' : R → R → Res R) (f f' f'' : En → Res R) (env : En) : Res R := (f env).bind fun x => (f' env).bind fun y => (g x y).bind fun z => (asB z).bind fun b => if b then (f'' env).bind fun w => g' y w else .ok (.sh (.bl false))
def cb2 (g g' : R → R → Res R) (f f' f'' : En → Res R) (env : En) : Res Bool := (ch2 g g' f f' f'' env).bind asB
section
variable {X : Cx} {EX : L2.St → XK} {a b c : Expr} {f f' f'' : En → Res R} {g g' : R → R → Res R} {r r' : R2} {pos : Pos}
theorem ej_op {op : Operator} (ho : OpR X (binaryOp op) r) (hg : OpI X r g) (ha : EJ X EX a f) (hb : EJ X EX b f') : EJ X EX (.BinOp a op b pos) (b2 g f f') := by
  obtain ⟨t, pe, i⟩ := ha.ex
  obtain ⟨t', pe', i'⟩ := hb.ex
  refine ⟨⟨_, pe_op ho pe pe', fun B H0 O env σ H Q R p => ?_⟩⟩
  refine i B H0 O env σ H _ R (p.bind.mono (fun _ _ x => x) fun x q v H1 s r1 => ?_)
  refine i' B H0 O env σ H1 _ (R.mono s) ((q.bind.up s).mono (fun _ _ x => x) fun y q2 w H2 s2 r2 => ?_)
  exact hg B H0 O env σ H H2 x y v w Q _ R (s.trans s2) (r1.mono s2) (r2.down s) (q2.mono (fun _ _ x => x) fun z q3 u H' s3 r3 => q3 u H' ((s.trans s2).trans s3) r3)
theorem ej_cmp {op : CmpOp} (ho : OpR X (compareOp op) r) (hg : OpI X r g) (ha : EJ X EX a f) (hb : EJ X EX b f') (hm : behindInMarks op b = false) : EJ X EX (.Compare a [op] [b] pos) (b2 g f f') := by
  obtain ⟨t, pe, i⟩ := ha.ex
  obtain ⟨t', pe', i'⟩ := hb.ex
  refine ⟨⟨_, pe_cmpR ho pe pe' hm, fun B H0 O env σ H Q R p => ?_⟩⟩
  refine i B H0 O env σ H _ R (p.bind.mono (fun _ _ x => x) fun x q v H1 s r1 => ?_)
  refine i' B H0 O env σ H1 _ (R.mono s) ((q.bind.up s).mono (fun _ _ x => x) fun y q2 w H2 s2 r2 => ?_)
  exact hg B H0 O env σ H H2 x y v w Q _ R (s.trans s2) (r1.mono s2) (r2.down s) (q2.mono (fun _ _ x => x) fun z q3 u H' s3 r3 => q3 u H' ((s.trans s2).trans s3) r3)
theorem bj_cmp {op : CmpOp} (ho : OpR X (compareOp op) r) (hg : OpI X r g) (ha : EJ X EX a f) (hb : EJ X EX b f') (hm : behindInMarks op b = false) : BJ X EX (.Compare a [op] [b] pos) (c2 g f f') := by
  obtain ⟨t, pe, i⟩ := ha.ex
  obtain ⟨t', pe', i'⟩ := hb.ex
  refine ⟨⟨_, pt_cmpR ho pe pe' hm, fun B H0 O env σ H Q R p => ?_⟩⟩
  refine i B H0 O env σ H _ R (p.bind.mono (fun _ _ x => x) fun x q v H1 s r1 => ?_)
  refine i' B H0 O env σ H1 _ (R.mono s) ((q.bind.up s).mono (fun _ _ x => x) fun y q2 w H2 s2 r2 => ?_)
  refine hg B H0 O env σ H H2 x y v w _ _ R (s.trans s2) (r1.mono s2) (r2.down s) (q2.bind.mono (fun _ _ x => x) fun z q3 u H' s3 r3 => ?_)
  unfold asB at q3
  cases e : z.d with
  | bl k =>
    rw [e] at q3
    exact ⟨k, r3.bl e, q3 H' ((s.trans s2).trans s3)⟩
  | _ => rw [e] at q3; exact q3.elim
theorem chain_core {t t' t'' : TE} (hg : OpI X r g) (hg' : OpI X r' g')
    (i : ∀ B H0 O env σ H (Q : VK), Rel X.K B H0 O env σ H → Post (XC X.K B O EX σ H) (fun r => ∀ v H', Same H H' → RR X.K B O H H' r v → Q v H') (f env) → t σ H Q)
    (i' : ∀ B H0 O env σ H (Q : VK), Rel X.K B H0 O env σ H → Post (XC X.K B O EX σ H) (fun r => ∀ v H', Same H H' → RR X.K B O H H' r v → Q v H') (f' env) → t' σ H Q)
    (i'' : ∀ B H0 O env σ H (Q : VK), Rel X.K B H0 O env σ H → Post (XC X.K B O EX σ H) (fun r => ∀ v H', Same H H' → RR X.K B O H H' r v → Q v H') (f'' env) → t'' σ H Q)
    (B H0 O env σ H) (Q : VK) (R : Rel X.K B H0 O env σ H) (p : Post (XC X.K B O EX σ H) (fun r => ∀ v H', Same H H' → RR X.K B O H H' r v → Q v H') (ch2 g g' f f' f'' env)) : tChain r r' t t' t'' σ H Q := by
  refine i B H0 O env σ H _ R (p.bind.mono (fun _ _ x => x) fun x q v H1 s r1 => ?_)
  refine i' B H0 O env σ H1 _ (R.mono s) ((q.bind.up s).mono (fun _ _ x => x) fun y q2 w H2 s2 r2 => ?_)
  refine hg B H0 O env σ H H2 x y v w _ _ R (s.trans s2) (r1.mono s2) (r2.down s) (q2.bind.mono (fun _ _ x => x) fun z q3 u H3 s3 r3 => ?_)
  have q4 := q3.bind
  unfold asB at q4
  cases e : z.d with
  | bl k =>
    rw [e] at q4
    have s4 := (s.trans s2).trans s3
    refine ⟨k, r3.bl e, ?_⟩
    cases k with
    | false => exact iteF (q4 _ H3 s4 (Rp.bl false))
    | true =>
      refine iteT (i'' B H0 O env σ H3 _ (R.mono s4) (((show Post _ _ ((f'' env).bind fun w => g' y w) from q4).bind.up s4).mono (fun _ _ x => x) fun w' q5 u' H4 s5 r5 => ?_))
      exact hg' B H0 O env σ H H4 y w' w u' Q _ R (s4.trans s5) ((r2.down s).mono (s3.trans s5)) (r5.down s4) (q5.mono (fun _ _ x => x) fun z q6 u H' s6 r6 => q6 u H' ((s4.trans s5).trans s6) r6)
  | _ => rw [e] at q4; exact q4.elim
theorem ej_chain {op op' : CmpOp} (ho : OpR X (compareOp op) r) (ho' : OpR X (compareOp op') r') (hg : OpI X r g) (hg' : OpI X r' g') (ha : EJ X EX a f) (hb : EJ X EX b f') (hc : EJ X EX c f'')
    (hm : lastMarks [op, op'] [b, c] = false := by with_unfolding_all rfl) : EJ X EX (.Compare a [op, op'] [b, c] pos) (ch2 g g' f f' f'') := by
  obtain ⟨t, pe, i⟩ := ha.ex
  obtain ⟨t', pe', i'⟩ := hb.ex
  obtain ⟨t'', pe'', i''⟩ := hc.ex
  exact ⟨⟨_, pe_chain ho ho' pe pe' pe'' hm, fun B H0 O env σ H Q R p => chain_core hg hg' i i' i'' B H0 O env σ H Q R p⟩⟩
theorem bj_chain {op op' : CmpOp} (ho : OpR X (compareOp op) r) (ho' : OpR X (compareOp op') r') (hg : OpI X r g) (hg' : OpI X r' g') (ha : EJ X EX a f) (hb : EJ X EX b f') (hc : EJ X EX c f'')
    (hm : lastMarks [op, op'] [b, c] = false := by with_unfolding_all rfl) : BJ X EX (.Compare a [op, op'] [b, c] pos) (cb2 g g' f f' f'') := by
  obtain ⟨t, pe, i⟩ := ha.ex
  obtain ⟨t', pe', i'⟩ := hb.ex
  obtain ⟨t'', pe'', i''⟩ := hc.ex
  refine ⟨⟨_, pt_chain ho ho' pe pe' pe'' hm, fun B H0 O env σ H Q R p => chain_core hg hg' i i' i'' B H0 O env σ H _ R (p.bind.mono (fun _ _ x => x) fun z q u H' s r => ?_)⟩⟩
  unfold asB at q
  cases e : z.d with
  | bl k =>
    rw [e] at q
    exact ⟨k, r.bl e, q H' s⟩
  | _ => rw [e] at q; exact q.elim
end

/-! ### tests -/
def fAnd (f g : En → Res Bool) (env : En) : Res Bool := (f env).bind fun b => if b then g env else .ok false
def fOr (f g : En → Res Bool) (env : En) : Res Bool := (f env).bind fun b => if b then .ok true else g env
def fNot (f : En → Res Bool) (env : En) : Res Bool := (f env).bind fun b => .ok (!b)
def fIf {A : Type} (c : En → Res Bool) (f g : En → Res A) (env : En) : Res A := (c env).bind fun b => if b then f env else g env
/-- truth of a value -/
def truR (r : R) : Res Bool := match r.d with
  | .bl b => .ok b
  | .non => .ok false
  | .int i => .ok (i != 0)
  | .lst l => .ok (!l.isEmpty)
  | .str x => if x.length ≤ sizeLine then .ok ((x.length : Int) != 0) else .bad
  | _ => .bad
def fTru (f : En → Res R) (env : En) : Res Bool := (f env).bind truR
/-- a test as a value -/
def fBl (f : En → Res Bool) (env : En) : Res R := (f env).bind fun b => .ok (.sh (.bl b))
def fAndV (f g : En → Res R) (env : En) : Res R := (f env).bind fun x => (asB x).bind fun b => if b then g env else .ok (.sh (.bl false))
def fOrV (f g : En → Res R) (env : En) : Res R := (f env).bind fun x => (asB x).bind fun b => if b then .ok (.sh (.bl true)) else g env
def fNotV (f : En → Res R) (env : En) : Res R := (f env).bind fun x => (asB x).bind fun b => .ok (.sh (.bl (!b)))
section
variable {X : Cx} {EX : L2.St → XK} {a b c : Expr} {rest : List Expr} {f g : En → Res Bool} {u u' : En → Res R} {pos : Pos}
theorem WJ.bj (h : WJ X EX a f) : BJ X EX a f := by
  obtain ⟨t, pw, i⟩ := h.ex
  exact ⟨⟨t, pw.pt, i⟩⟩
theorem wj_and1 (h : BJ X EX a f) : WJ X EX (.BoolOp .And [a] pos) f := by
  obtain ⟨t, pt, i⟩ := h.ex
  exact ⟨⟨t, pw_and1 pt, i⟩⟩
theorem wj_or1 (h : BJ X EX a f) : WJ X EX (.BoolOp .Or [a] pos) f := by
  obtain ⟨t, pt, i⟩ := h.ex
  exact ⟨⟨t, pw_or1 pt, i⟩⟩
theorem wj_and (h : BJ X EX a f) (k : WJ X EX (.BoolOp .And (b :: rest) pos) g) : WJ X EX (.BoolOp .And (a :: b :: rest) pos) (fAnd f g) := by
  obtain ⟨t, pt, i⟩ := h.ex
  obtain ⟨t', pw, i'⟩ := k.ex
  refine ⟨⟨_, pw_and pt pw, fun B H0 O env σ H Q R p => ?_⟩⟩
  refine i B H0 O env σ H _ R (p.bind.mono (fun _ _ x => x) fun k q H1 s => ?_)
  cases k with
  | false => exact iteF (q H1 s)
  | true => exact iteT (i' B H0 O env σ H1 _ (R.mono s) (((show Post _ _ (g env) from q).up s).mono (fun _ _ x => x) fun k' q' H2 s2 => q' H2 (s.trans s2)))
theorem wj_or (h : BJ X EX a f) (k : WJ X EX (.BoolOp .Or (b :: rest) pos) g) : WJ X EX (.BoolOp .Or (a :: b :: rest) pos) (fOr f g) := by
  obtain ⟨t, pt, i⟩ := h.ex
  obtain ⟨t', pw, i'⟩ := k.ex
  refine ⟨⟨_, pw_or pt pw, fun B H0 O env σ H Q R p => ?_⟩⟩
  refine i B H0 O env σ H _ R (p.bind.mono (fun _ _ x => x) fun k q H1 s => ?_)
  cases k with
  | true => exact iteT (q H1 s)
  | false => exact iteF (i' B H0 O env σ H1 _ (R.mono s) (((show Post _ _ (g env) from q).up s).mono (fun _ _ x => x) fun k' q' H2 s2 => q' H2 (s.trans s2)))
theorem bj_not (h : BJ X EX a f) : BJ X EX (.UnaryOp .Not a pos) (fNot f) := by
  obtain ⟨t, pt, i⟩ := h.ex
  refine ⟨⟨_, pt_not pt, fun B H0 O env σ H Q R p => ?_⟩⟩
  exact i B H0 O env σ H _ R (p.bind.mono (fun _ _ x => x) fun k q H1 s => q H1 s)
theorem bj_tru (h : EJ X EX a u) (he : ∀ whole, isTrue a X.env whole = (do let v ← whole; standAt a.pos; holding [v] (truthy v)) := by intro _; rfl) : BJ X EX a (fTru u) := by
  obtain ⟨t, pe, i⟩ := h.ex
  refine ⟨⟨_, pt_truth pe he, fun B H0 O env σ H Q R p => ?_⟩⟩
  refine i B H0 O env σ H _ R (p.bind.mono (fun _ _ x => x) fun x q v H1 s r => ?_)
  unfold truR at q
  cases e : x.d with
  | bl k => rw [e] at q; rw [r.bl e]; exact ⟨k, rfl, q H1 s⟩
  | non => rw [e] at q; rw [r.non e]; exact ⟨false, rfl, q H1 s⟩
  | int k => rw [e] at q; rw [r.int e]; exact ⟨_, rfl, q H1 s⟩
  | str k =>
    rw [e] at q
    simp only at q
    split at q
    · rename_i c
      rw [r.str e]
      exact ⟨_, ⟨c, rfl⟩, q H1 s⟩
    · exact q.elim
  | lst l =>
    rw [e] at q
    obtain ⟨p, us, e1, e2, e3⟩ := r.lst e
    rw [e1]
    refine ⟨_, .inl ⟨us, SqL.of e2, rfl⟩, ?_⟩
    have z : (!us.isEmpty) = !l.isEmpty := by
      have := e3.1
      cases l <;> cases us <;> simp at this ⊢
    rw [z]
    exact q H1 s
  | _ => rw [e] at q; exact q.elim
theorem ej_if (hc : BJ X EX c f) (ha : EJ X EX a u) (hb : EJ X EX b u') : EJ X EX (.IfExp c a b pos) (fIf f u u') := by
  obtain ⟨t, pt, i⟩ := hc.ex
  obtain ⟨t1, pe1, i1⟩ := ha.ex
  obtain ⟨t2, pe2, i2⟩ := hb.ex
  refine ⟨⟨_, pe_ifExp pt pe1 pe2, fun B H0 O env σ H Q R p => ?_⟩⟩
  refine i B H0 O env σ H _ R (p.bind.mono (fun _ _ x => x) fun k q H1 s => ?_)
  cases k with
  | true => exact iteT (i1 B H0 O env σ H1 _ (R.mono s) (((show Post _ _ (u env) from q).up s).mono (fun _ _ x => x) fun r q' v H2 s2 r2 => q' v H2 (s.trans s2) (r2.down s)))
  | false => exact iteF (i2 B H0 O env σ H1 _ (R.mono s) (((show Post _ _ (u' env) from q).up s).mono (fun _ _ x => x) fun r q' v H2 s2 r2 => q' v H2 (s.trans s2) (r2.down s)))
theorem ej_one {op} (h : EJ X EX a u) : EJ X EX (.BoolOp op [a] pos) u := by
  obtain ⟨t, pe, i⟩ := h.ex
  exact ⟨⟨t, pe_one pe, i⟩⟩
theorem ej_and (ha : EJ X EX a u) (hb : EJ X EX (.BoolOp .And (b :: rest) pos) u') : EJ X EX (.BoolOp .And (a :: b :: rest) pos) (fAndV u u') := by
  obtain ⟨t1, pe1, i1⟩ := ha.ex
  obtain ⟨t2, pe2, i2⟩ := hb.ex
  refine ⟨⟨_, pe_and pe1 pe2, fun B H0 O env σ H Q R p => ?_⟩⟩
  refine i1 B H0 O env σ H _ R (p.bind.mono (fun _ _ x => x) fun x q v H1 s r => ?_)
  have q4 := q.bind
  unfold asB at q4
  cases e : x.d with
  | bl k =>
    rw [e] at q4
    refine ⟨k, r.bl e, ?_⟩
    cases k with
    | false => exact iteF (q4 _ H1 s (Rp.bl false))
    | true => exact iteT (i2 B H0 O env σ H1 _ (R.mono s) (((show Post _ _ (u' env) from q4).up s).mono (fun _ _ x => x) fun r q' v H2 s2 r2 => q' v H2 (s.trans s2) (r2.down s)))
  | _ => rw [e] at q4; exact q4.elim
theorem ej_or (ha : EJ X EX a u) (hb : EJ X EX (.BoolOp .Or (b :: rest) pos) u') : EJ X EX (.BoolOp .Or (a :: b :: rest) pos) (fOrV u u') := by
  obtain ⟨t1, pe1, i1⟩ := ha.ex
  obtain ⟨t2, pe2, i2⟩ := hb.ex
  refine ⟨⟨_, pe_or pe1 pe2, fun B H0 O env σ H Q R p => ?_⟩⟩
  refine i1 B H0 O env σ H _ R (p.bind.mono (fun _ _ x => x) fun x q v H1 s r => ?_)
  have q4 := q.bind
  unfold asB at q4
  cases e : x.d with
  | bl k =>
    rw [e] at q4
    refine ⟨k, r.bl e, ?_⟩
    cases k with
    | true => exact iteT (q4 _ H1 s (Rp.bl true))
    | false => exact iteF (i2 B H0 O env σ H1 _ (R.mono s) (((show Post _ _ (u' env) from q4).up s).mono (fun _ _ x => x) fun r q' v H2 s2 r2 => q' v H2 (s.trans s2) (r2.down s)))
  | _ => rw [e] at q4; exact q4.elim
theorem ej_not (ha : EJ X EX a u) : EJ X EX (.UnaryOp .Not a pos) (fNotV u) := by
  obtain ⟨t1, pe1, i1⟩ := ha.ex
  refine ⟨⟨_, pe_not pe1, fun B H0 O env σ H Q R p => ?_⟩⟩
  refine i1 B H0 O env σ H _ R (p.bind.mono (fun _ _ x => x) fun x q v H1 s r => ?_)
  have q4 := q.bind
  unfold asB at q4
  cases e : x.d with
  | bl k =>
    rw [e] at q4
    exact ⟨k, r.bl e, q4 _ H1 s (Rp.bl (!k))⟩
  | _ => rw [e] at q4; exact q4.elim
end
end Tr
namespace Tr
open PySem L2

/-! ### arithmetic -/
def rOr (r r' : R2) : R2 := fun x y H Q => r x y H Q ∨ r' x y H Q
def addR (x y : R) : Res R := match x.d, y.d with
  | .int i, .int j => .ok (.sh (.int (i + j)))
  | .str a, .str b => if a.length + b.length ≤ sizeLine then .ok (.sh (.str (a ++ b))) else .bad
  | .lst l, .lst m => if l.length + m.length ≤ sizeLine then .ok (.fr (.lst (l ++ m))) else .bad
  | _, _ => .bad
def subR (x y : R) : Res R := match x.d, y.d with
  | .int i, .int j => .ok (.sh (.int (i - j)))
  | _, _ => .bad
def mulOk (i j : Int) : Prop := (-(2 ^ 64) < i ∧ i < 2 ^ 64) ∨ (-(2 ^ 64) < j ∧ j < 2 ^ 64)
instance (i j : Int) : Decidable (mulOk i j) := by unfold mulOk; infer_instance
def mulR (x y : R) : Res R := match x.d, y.d with
  | .int i, .int j => if mulOk i j then .ok (.sh (.int (i * j))) else .bad
  | .lst l, .int k => if (-(2 ^ 63) ≤ k ∧ k < 2 ^ 63) ∧ l.length * k.toNat ≤ sizeLine then .ok (.fr (.lst (List.replicate k.toNat l).flatten)) else .bad
  | _, _ => .bad
def fdivR (x y : R) : Res R := match x.d, y.d with
  | .int i, .int j => if 0 < j ∧ j < 1073741824 then .ok (.sh (.int (i / j))) else .bad
  | _, _ => .bad
def modR (x y : R) : Res R := match x.d, y.d with
  | .int i, .int j => if 0 < j then .ok (.sh (.int (i % j))) else .bad
  | _, _ => .bad
def powR (x y : R) : Res R := match x.d, y.d with
  | .int i, .int j => if 0 ≤ j ∧ j ≤ 1000000 ∧ i.natAbs < 2 ^ 64 then .ok (.sh (.int (i ^ j.toNat))) else .bad
  | _, _ => .bad
def shrR (x y : R) : Res R := match x.d, y.d with
  | .int i, .int j => if 0 ≤ j then .ok (.sh (.int (i / 2 ^ j.toNat))) else .bad
  | _, _ => .bad
def andR (x y : R) : Res R := match x.d, y.d with
  | .int i, .int j => .ok (.sh (.int (Builtin.bitAnd i j)))
  | _, _ => .bad
def cmpR (p : Int → Int → Bool) (x y : R) : Res R := match x.d, y.d with
  | .int i, .int j => .ok (.sh (.bl (p i j)))
  | _, _ => .bad
abbrev ltR := cmpR fun i j => decide (i < j)
abbrev gtR := cmpR fun i j => decide (j < i)
abbrev geR := cmpR fun i j => decide (j ≤ i)
def leR (x y : R) : Res R := match x.d, y.d with
  | .int i, .int j => .ok (.sh (.bl (decide (i ≤ j))))
  | .str i, .str j => .ok (.sh (.bl (!decide (j.cps.toList < i.cps.toList))))
  | _, _ => .bad

theorem strOk_app {a b : Str} (h : PyData.strOk a = true) (k : PyData.strOk b = true) : PyData.strOk (a ++ b) = true := by
  show (a.cps ++ b.cps).all _ = true
  rw [Array.all_append, Bool.and_eq_true]
  exact ⟨h, k⟩
theorem RR.strk {K : PySem.W.Frag} {B : Bs} {O : Ow} {H H' : Hp} {r : R} {v : V} {x : Str} (h : RR K B O H H' r v) (e : r.d = .str x) : PyData.strOk x = true := by
  have z := e ▸ h.rp0
  cases z with
  | str _ k => exact k

section
variable {X : Cx}
theorem opi_int {C : Int → Int → Prop} {g : Int → Int → V} {G : R → R → Res R}
    (h : ∀ x y xc (okp : R → Prop), Post xc okp (G x y) → ∃ i j, x.d = .int i ∧ y.d = .int j ∧ C i j ∧ ∃ d, okp (.sh d) ∧ ∀ K H B, Rp K H B d (g i j)) : OpI X (rI C g) G := by
  intro B H0 O env σ Hs H x y v w Q xc R s rx ry p
  obtain ⟨i, j, ei, ej, hc, d, q, rd⟩ := h x y xc _ p
  exact ⟨i, j, rx.int ei, ry.int ej, hc, q _ H (Same.refl H) (rd _ _ _)⟩
theorem opi_int0 {g : Int → Int → V} {G : R → R → Res R}
    (h : ∀ x y xc (okp : R → Prop), Post xc okp (G x y) → ∃ i j, x.d = .int i ∧ y.d = .int j ∧ ∃ d, okp (.sh d) ∧ ∀ K H B, Rp K H B d (g i j)) : OpI X (rI0 g) G := by
  intro B H0 O env σ Hs H x y v w Q xc R s rx ry p
  obtain ⟨i, j, ei, ej, d, q, rd⟩ := h x y xc _ p
  exact ⟨i, j, rx.int ei, ry.int ej, q _ H (Same.refl H) (rd _ _ _)⟩
def rAdd : R2 := fun x y H Q => rI0 (fun i j => .int (i + j)) x y H Q ∨ ((∃ i j, x = .str i ∧ y = .str j ∧ i.length + j.length ≤ sizeLine ∧ Q (.str (i ++ j)) H) ∨ rCat x y H Q)
theorem opr_add : OpR X (binaryOp .Add) rAdd := op_add.or (op_add_str.or op_cat)
theorem opi_add : OpI X rAdd addR := by
  intro B H0 O env σ Hs H x y v w Q xc R s rx ry p
  unfold addR at p
  split at p
  · rename_i i j e1 e2
    exact .inl ⟨i, j, rx.int e1, ry.int e2, p _ H (Same.refl H) (Rp.int _)⟩
  · rename_i i j e1 e2
    split at p
    · rename_i c
      exact .inr (.inl ⟨i, j, rx.str e1, ry.str e2, c, p _ H (Same.refl H) (Rp.str _ (strOk_app (rx.strk e1) (ry.strk e2)))⟩)
    · exact p.elim
  · rename_i l m e1 e2
    split at p
    · rename_i c
      obtain ⟨a, us, ea, ha, ra⟩ := rx.lst e1
      obtain ⟨b, ws, eb, hb, rb⟩ := ry.lst e2
      refine .inr (.inr ⟨a, b, us, ws, ea, eb, ha, hb, by rw [← ra.1, ← rb.1]; exact c, fun q nq => p _ _ (Same.new nq) (RR.newL R s (ra.append rb) nq)⟩)
    · exact p.elim
  · exact p.elim
theorem opi_sub : OpI X (rI0 fun i j => .int (i - j)) subR := opi_int0 fun x y xc okp p => by
  unfold subR at p
  split at p
  · rename_i i j e1 e2
    exact ⟨i, j, e1, e2, _, p, fun _ _ _ => Rp.int _⟩
  · exact p.elim
def rMul : R2 := fun x y H Q => rI CMul (fun i j => .int (i * j)) x y H Q ∨ rRep x y H Q
theorem opr_mul : OpR X (binaryOp .Mult) rMul := op_mul.or op_rep
theorem RpAll.rep {K : PySem.W.Frag} {H : Hp} {B : Xs} {ts : List T} {us : List V} (h : RpAll K H B ts us) : ∀ k : Nat, RpAll K H B (List.replicate k ts).flatten (List.replicate k us).flatten
  | 0 => .nil
  | k + 1 => by
    rw [List.replicate_succ, List.replicate_succ, List.flatten_cons, List.flatten_cons]
    exact h.append (RpAll.rep h k)
theorem opi_mul : OpI X rMul mulR := by
  intro B H0 O env σ Hs H x y v w Q xc R s rx ry p
  unfold mulR at p
  split at p
  · rename_i i j e1 e2
    split at p
    · rename_i c
      exact .inl ⟨i, j, rx.int e1, ry.int e2, c, p _ H (Same.refl H) (Rp.int _)⟩
    · exact p.elim
  · rename_i l k e1 e2
    split at p
    · rename_i c
      obtain ⟨a, us, ea, ha, ra⟩ := rx.lst e1
      exact .inr ⟨a, k, us, ea, ry.int e2, ha, c.1.1, c.1.2, by rw [← ra.1]; exact c.2, fun q nq => p _ _ (Same.new nq) (RR.newL R s (ra.rep _) nq)⟩
    · exact p.elim
  · exact p.elim
theorem opi_fdiv : OpI X (rI CDiv fun i j => .int (i / j)) fdivR := opi_int fun x y xc okp p => by
  unfold fdivR at p
  split at p
  · rename_i i j e1 e2
    split at p
    · rename_i c
      exact ⟨i, j, e1, e2, c, _, p, fun _ _ _ => Rp.int _⟩
    · exact p.elim
  · exact p.elim
theorem opi_mod : OpI X (rI (fun _ j => 0 < j) fun i j => .int (i % j)) modR := opi_int fun x y xc okp p => by
  unfold modR at p
  split at p
  · rename_i i j e1 e2
    split at p
    · rename_i c
      exact ⟨i, j, e1, e2, c, _, p, fun _ _ _ => Rp.int _⟩
    · exact p.elim
  · exact p.elim
theorem opi_pow : OpI X (rI CPow fun i j => .int (i ^ j.toNat)) powR := opi_int fun x y xc okp p => by
  unfold powR at p
  split at p
  · rename_i i j e1 e2
    split at p
    · rename_i c
      exact ⟨i, j, e1, e2, c, _, p, fun _ _ _ => Rp.int _⟩
    · exact p.elim
  · exact p.elim
theorem opi_shr : OpI X (rI (fun _ j => 0 ≤ j) fun i j => .int (i / 2 ^ j.toNat)) shrR := opi_int fun x y xc okp p => by
  unfold shrR at p
  split at p
  · rename_i i j e1 e2
    split at p
    · rename_i c
      exact ⟨i, j, e1, e2, c, _, p, fun _ _ _ => Rp.int _⟩
    · exact p.elim
  · exact p.elim
theorem opi_band : OpI X (rI0 fun i j => .int (Builtin.bitAnd i j)) andR := opi_int0 fun x y xc okp p => by
  unfold andR at p
  split at p
  · rename_i i j e1 e2
    exact ⟨i, j, e1, e2, _, p, fun _ _ _ => Rp.int _⟩
  · exact p.elim
theorem opi_cmp {q : Int → Int → Bool} : OpI X (rI0 fun i j => .bl (q i j)) (cmpR q) := opi_int0 fun x y xc okp p => by
  unfold cmpR at p
  split at p
  · rename_i i j e1 e2
    exact ⟨i, j, e1, e2, _, p, fun _ _ _ => Rp.bl _⟩
  · exact p.elim
def rLe : R2 := fun x y H Q => rI0 (fun i j => .bl (decide (i ≤ j))) x y H Q ∨ (∃ i j, x = .str i ∧ y = .str j ∧ Q (.bl (!decide (j.cps.toList < i.cps.toList))) H)
theorem opr_le : OpR X (compareOp .LtE) rLe := op_le.or op_le_str
theorem opi_le : OpI X rLe leR := by
  intro B H0 O env σ Hs H x y v w Q xc R s rx ry p
  unfold leR at p
  split at p
  · rename_i i j e1 e2
    exact .inl ⟨i, j, rx.int e1, ry.int e2, p _ H (Same.refl H) (Rp.bl _)⟩
  · rename_i i j e1 e2
    exact .inr ⟨i, j, rx.str e1, ry.str e2, p _ H (Same.refl H) (Rp.bl _)⟩
  · exact p.elim
end

/-! ### a minus ahead -/
def negF (f : En → Res R) (env : En) : Res R := (f env).bind fun x => match x.d with
  | .int i => .ok (.sh (.int (-i)))
  | _ => .bad
theorem ej_neg {X : Cx} {EX : L2.St → XK} {a : Expr} {f : En → Res R} {pos : Pos} (ha : EJ X EX a f) : EJ X EX (.UnaryOp .USub a pos) (negF f) := by
  obtain ⟨t1, pe1, i1⟩ := ha.ex
  refine ⟨⟨_, pe_un un_neg pe1, fun B H0 O env σ H Q R p => ?_⟩⟩
  refine i1 B H0 O env σ H _ R (p.bind.mono (fun _ _ x => x) fun x q v H1 s r => ?_)
  split at q
  · rename_i i e
    exact ⟨i, r.int e, q _ H1 s (Rp.int _)⟩
  · exact q.elim

/-! ### equality: data -/
mutual
def T.toD : T → PyData
  | .non => .none
  | .bl b => .bool b
  | .int i => .int i
  | .str x => .str x
  | .tup l => .tuple (T.toDs l)
  | .lst l => .list (T.toDs l)
  | .scr ns => .list (ns.map PyData.int)
  | .dik _ => .none
  | .dit _ => .none
  | .obj _ _ => .none
  | .fn _ => .none
  | .ptr _ => .none
  | .ex0 _ => .none
  | .ex1 _ _ => .none
def T.toDs : List T → List PyData
  | [] => []
  | t :: l => T.toD t :: T.toDs l
end
theorem T.toDs_map : ∀ l : List T, T.toDs l = l.map T.toD
  | [] => by simp [T.toDs]
  | t :: l => by simp [T.toDs, T.toDs_map l]
/-- plain data, at most n deep -/
def T.pd : Nat → T → Bool
  | _, .non => true
  | _, .bl _ => true
  | _, .int _ => true
  | _, .str _ => true
  | n + 1, .tup l => l.all (T.pd n)
  | n + 1, .lst l => l.all (T.pd n)
  | _ + 1, .scr _ => true
  | _, _ => false
theorem depthAll_le {n : Nat} : ∀ {l : List PyData}, (∀ d ∈ l, d.depth ≤ n) → PyData.depthAll l ≤ n
  | [], _ => by simp [PyData.depthAll]
  | d :: l, h => by
    simp only [PyData.depthAll]
    have h1 := h d List.mem_cons_self
    have h2 := depthAll_le (n := n) (l := l) fun x hx => h x (List.mem_cons_of_mem _ hx)
    omega
theorem canAll {l : List PyData} (h : ∀ d ∈ l, d.canLay0 = true) : PyData.canLayAll0 l = true := by
  induction l with
  | nil => simp [PyData.canLayAll0]
  | cons d l ih =>
    simp only [PyData.canLayAll0, Bool.and_eq_true]
    exact ⟨h d List.mem_cons_self, ih fun x hx => h x (List.mem_cons_of_mem _ hx)⟩
theorem dpAll_of {K : PySem.W.Frag} {H : Hp} : ∀ {ts : List T} {us : List V}, ts.length = us.length → (∀ (i : Nat) (t : T) (u : V), ts[i]? = some t → us[i]? = some u → Dp K H u t.toD) → DpAll K H us (T.toDs ts)
  | [], [], _, _ => by simp only [T.toDs]; exact .nil
  | t :: ts, u :: us, e, h => by
    simp only [T.toDs]
    exact .cons (h 0 t u rfl rfl) (dpAll_of (by simpa using e) fun i t' u' a b => h (i + 1) t' u' (by simpa using a) (by simpa using b))
  | [], _ :: _, e, _ => by simp at e
  | _ :: _, [], e, _ => by simp at e
theorem dpAll_ints {K : PySem.W.Frag} {H : Hp} : ∀ {ns : List Int}, DpAll K H (ns.map V.int) (ns.map PyData.int)
  | [] => .nil
  | n :: ns => .cons (.int n) dpAll_ints
theorem Rp.plain {K : PySem.W.Frag} {H : Hp} {B : Xs} {t : T} {v : V} (h : Rp K H B t v) : ∀ n, t.pd n = true → Dp K H v t.toD ∧ t.toD.canLay0 = true ∧ t.toD.depth ≤ n := by
  induction h with
  | non => intro n _; exact ⟨by simp only [T.toD]; exact .non, by simp [T.toD, PyData.canLay0], by simp [T.toD, PyData.depth]⟩
  | bl b => intro n _; exact ⟨by simp only [T.toD]; exact .bl b, by simp [T.toD, PyData.canLay0], by simp [T.toD, PyData.depth]⟩
  | int i => intro n _; exact ⟨by simp only [T.toD]; exact .int i, by simp [T.toD, PyData.canLay0], by simp [T.toD, PyData.depth]⟩
  | str x hx => intro n _; exact ⟨by simp only [T.toD]; exact .str x, by simp [T.toD, PyData.canLay0, hx], by simp [T.toD, PyData.depth]⟩
  | @tup a ts us h1 _ hl hs ih =>
    intro n hp
    cases n with
    | zero => simp [T.pd] at hp
    | succ n =>
      have hp' : ts.all (T.pd n) = true := hp
      have e : ∀ (i : Nat) (t : T), ts[i]? = some t → t.pd n = true := fun i t q => List.all_eq_true.mp hp' t (List.mem_of_getElem? q)
      have all : ∀ d ∈ T.toDs ts, d.canLay0 = true ∧ d.depth ≤ n := fun d hd => by
        rw [T.toDs_map] at hd
        obtain ⟨t, ht, rfl⟩ := List.mem_map.mp hd
        obtain ⟨i, hi⟩ := List.getElem?_of_mem ht
        have hj : i < us.length := by rw [← hl]; exact (List.getElem?_eq_some_iff.mp hi).1
        exact (ih i t _ hi (List.getElem?_eq_getElem hj) n (e i t hi)).2
      refine ⟨?_, ?_, ?_⟩
      · simp only [T.toD]
        exact .tup (SqT.of h1) (dpAll_of hl fun i t u a b => (ih i t u a b n (e i t a)).1)
      · simp only [T.toD, PyData.canLay0]
        exact canAll fun d hd => (all d hd).1
      · simp only [T.toD, PyData.depth]
        have := depthAll_le fun d hd => (all d hd).2
        omega
  | @lst a ts us h1 _ hl hs ih =>
    intro n hp
    cases n with
    | zero => simp [T.pd] at hp
    | succ n =>
      have hp' : ts.all (T.pd n) = true := hp
      have e : ∀ (i : Nat) (t : T), ts[i]? = some t → t.pd n = true := fun i t q => List.all_eq_true.mp hp' t (List.mem_of_getElem? q)
      have all : ∀ d ∈ T.toDs ts, d.canLay0 = true ∧ d.depth ≤ n := fun d hd => by
        rw [T.toDs_map] at hd
        obtain ⟨t, ht, rfl⟩ := List.mem_map.mp hd
        obtain ⟨i, hi⟩ := List.getElem?_of_mem ht
        have hj : i < us.length := by rw [← hl]; exact (List.getElem?_eq_some_iff.mp hi).1
        exact (ih i t _ hi (List.getElem?_eq_getElem hj) n (e i t hi)).2
      refine ⟨?_, ?_, ?_⟩
      · simp only [T.toD]
        exact .lst (SqL.of h1) (dpAll_of hl fun i t u a b => (ih i t u a b n (e i t a)).1)
      · simp only [T.toD, PyData.canLay0]
        exact canAll fun d hd => (all d hd).1
      · simp only [T.toD, PyData.depth]
        have := depthAll_le fun d hd => (all d hd).2
        omega
  | @scr a ns hq =>
    intro n hp
    cases n with
    | zero => simp [T.pd] at hp
    | succ n =>
      refine ⟨?_, ?_, ?_⟩
      · simp only [T.toD]
        exact .lst (hq.elim (fun z => .inl z.1) .inr) dpAll_ints
      · simp only [T.toD, PyData.canLay0]
        exact canAll fun d hd => by
          obtain ⟨k, _, rfl⟩ := List.mem_map.mp hd
          simp [PyData.canLay0]
      · simp only [T.toD, PyData.depth]
        have := depthAll_le (n := n) (l := ns.map PyData.int) fun d hd => by
          obtain ⟨k, _, rfl⟩ := List.mem_map.mp hd
          simp [PyData.depth]
        omega
  | dik => intro n hp; cases n <;> simp [T.pd] at hp
  | dit => intro n hp; cases n <;> simp [T.pd] at hp
  | obj => intro n hp; cases n <;> simp [T.pd] at hp
  | fn => intro n hp; cases n <;> simp [T.pd] at hp
  | ptr => intro n hp; cases n <;> simp [T.pd] at hp
  | ex0 => intro n hp; cases n <;> simp [T.pd] at hp
  | ex1 => intro n hp; cases n <;> simp [T.pd] at hp
def teq (a b : T) : Bool := PyData.eqv a.toD b.toD
def eqR (x y : R) : Res R := if T.pd 8 x.d = true ∧ T.pd 8 y.d = true then .ok (.sh (.bl (teq x.d y.d))) else .bad
def neR (x y : R) : Res R := if T.pd 8 x.d = true ∧ T.pd 8 y.d = true then .ok (.sh (.bl (!teq x.d y.d))) else .bad
section
variable {X : Cx}
theorem shaped_of {t : T} {d : PyData} (h1 : d.canLay0 = true) (h2 : d.depth ≤ 8) : SeqAt.shaped d = true := by
  unfold SeqAt.shaped
  rw [h1, Bool.true_and]
  exact decide_eq_true (by omega)
theorem opi_eq : OpI X (rEqD X.K) eqR := by
  intro B H0 O env σ Hs H x y v w Q xc R s rx ry p
  unfold eqR at p
  split at p
  · rename_i c
    obtain ⟨d1, c1, e1⟩ := rx.rp0.plain 8 c.1
    obtain ⟨d2, c2, e2⟩ := ry.rp0.plain 8 c.2
    exact ⟨_, _, d1, d2, shaped_of (t := x.d) c1 e1, shaped_of (t := y.d) c2 e2, p _ H (Same.refl H) (Rp.bl _)⟩
  · exact p.elim
theorem opi_ne : OpI X (rNeD X.K) neR := by
  intro B H0 O env σ Hs H x y v w Q xc R s rx ry p
  unfold neR at p
  split at p
  · rename_i c
    obtain ⟨d1, c1, e1⟩ := rx.rp0.plain 8 c.1
    obtain ⟨d2, c2, e2⟩ := ry.rp0.plain 8 c.2
    exact ⟨_, _, d1, d2, shaped_of (t := x.d) c1 e1, shaped_of (t := y.d) c2 e2, p _ H (Same.refl H) (Rp.bl _)⟩
  · exact p.elim
end

/-! ### is None, is of truths -/
def T.isNon : T → Bool
  | .non => true
  | _ => false
def isR (x y : R) : Res R := match x.d, y.d with
  | .bl a, .bl b => .ok (.sh (.bl (decide (a = b))))
  | d, .non => .ok (.sh (.bl d.isNon))
  | _, _ => .bad
def isnR (x y : R) : Res R := match x.d, y.d with
  | .bl a, .bl b => .ok (.sh (.bl (!decide (a = b))))
  | d, .non => .ok (.sh (.bl (!d.isNon)))
  | _, _ => .bad
theorem Rp.isNon {K : PySem.W.Frag} {H : Hp} {B : Xs} {t : T} {v : V} (h : Rp K H B t v) : decide (v = .non) = t.isNon := by
  cases h <;> simp [T.isNon]
def rIs : R2 := fun x y H Q => rIsB x y H Q ∨ (y = .non ∧ Q (.bl (decide (x = .non))) H)
def rIsn : R2 := fun x y H Q => rNotB x y H Q ∨ (y = .non ∧ Q (.bl (!decide (x = .non))) H)
section
variable {X : Cx}
theorem opr_is : OpR X (compareOp .Is) rIs := op_isBl.or op_isN
theorem opr_isn : OpR X (compareOp .IsNot) rIsn := op_notBl.or op_notN
theorem opi_is : OpI X rIs isR := by
  intro B H0 O env σ Hs H x y v w Q xc R s rx ry p
  unfold isR at p
  split at p
  · rename_i a b e1 e2
    exact .inl ⟨a, b, rx.bl e1, ry.bl e2, p _ H (Same.refl H) (Rp.bl _)⟩
  · rename_i d _ e2
    refine .inr ⟨ry.non e2, ?_⟩
    rw [rx.rp0.isNon]
    exact p _ H (Same.refl H) (Rp.bl _)
  · exact p.elim
theorem opi_isn : OpI X rIsn isnR := by
  intro B H0 O env σ Hs H x y v w Q xc R s rx ry p
  unfold isnR at p
  split at p
  · rename_i a b e1 e2
    exact .inl ⟨a, b, rx.bl e1, ry.bl e2, p _ H (Same.refl H) (Rp.bl _)⟩
  · rename_i d _ e2
    refine .inr ⟨ry.non e2, ?_⟩
    rw [rx.rp0.isNon]
    exact p _ H (Same.refl H) (Rp.bl _)
  · exact p.elim
end
end Tr
namespace Tr
open PySem L2

/-! ### subscripts -/
def ixR (x y : R) : Res R := match y.d with
  | .int i => match x.d with
    | .lst l => match atI l i with
      | some t => .ok (.sh t)
      | none => .bad
    | .scr ns => match atI ns i with
      | some n => .ok (.sh (.int n))
      | none => .bad
    | .tup l => match atI l i with
      | some t => .ok (.sh t)
      | none => .bad
    | .str z => if z.length ≤ sizeLine then (match atI z.cps.toList i with
      | some c => .ok (.sh (.str ⟨#[c]⟩))
      | none => .bad) else .bad
    | _ => .bad
  | _ => .bad
section
variable {K : PySem.W.Frag} {B : Bs} {O : Ow} {H0 H H' : Hp} {r : R} {v : V}
theorem atI_rel {ts : List T} {us : List V} {i : Int} {t : T} {X : Xs} (h : RpAll K H X ts us) (e : atI ts i = some t) : ∃ u, atI us i = some u ∧ Rp K H X t u := by
  unfold atI at e ⊢
  rw [← h.1]
  cases q : ixN ts.length i with
  | none => rw [q] at e; cases e
  | some j =>
    rw [q] at e
    obtain ⟨u, e1, e2⟩ := h.get (show ts[j]? = some t from e)
    exact ⟨u, e1, e2⟩
theorem atI_ints {ns : List Int} {i : Int} {n : Int} (e : atI ns i = some n) : atI (ns.map V.int) i = some (.int n) := by
  unfold atI at e ⊢
  rw [List.length_map]
  cases q : ixN ns.length i with
  | none => rw [q] at e; cases e
  | some j =>
    rw [q] at e
    show (ns.map V.int)[j]? = _
    rw [List.getElem?_map, show ns[j]? = some n from e]
    rfl
theorem RR.scr {ns : List Int} (h : RR K B O H H' r v) (e : r.d = .scr ns) : ∃ a, v = .ref a ∧ SqL K H' a (ns.map V.int) := by
  have z := e ▸ h.rp0
  cases z with
  | scr hq => exact ⟨_, rfl, hq.elim (fun z => .inl z.1) .inr⟩
theorem strOk_mem {z : Str} (h : PyData.strOk z = true) {c : Nat} (m : c ∈ z.cps.toList) : c < 0x110000 := by
  unfold PyData.strOk at h
  rw [← Array.all_toList] at h
  exact of_decide_eq_true (List.all_eq_true.mp h c m)
theorem strOk_of {l : List Nat} (h : ∀ c ∈ l, c < 0x110000) : PyData.strOk ⟨l.toArray⟩ = true := by
  unfold PyData.strOk
  rw [← Array.all_toList]
  exact List.all_eq_true.mpr fun c m => decide_eq_true (h c (by simpa using m))
theorem atI_mem {A : Type} {l : List A} {i : Int} {c : A} (h : atI l i = some c) : c ∈ l := by
  unfold atI at h
  cases q : ixN l.length i with
  | none => rw [q] at h; cases h
  | some j =>
    rw [q] at h
    exact List.mem_of_getElem? (show l[j]? = some c from h)
end
section
variable {X : Cx} {EX : L2.St → XK} {a b c : Expr} {f f' f'' : En → Res R} {pos : Pos}
theorem opi_ix : OpI X (rIx X.K) ixR := by
  intro B H0 O env σ Hs H x y v w Q xc R s rx ry p
  unfold ixR at p
  split at p
  · rename_i i e1
    have ew := ry.int e1
    split at p
    · rename_i l e2
      split at p
      · rename_i t e3
        obtain ⟨a, us, ea, ha, ra⟩ := rx.lst e2
        obtain ⟨u, h1, h2⟩ := atI_rel ra e3
        exact .inl ⟨a, us, i, u, ea, ew, SqL.of ha, h1, p u H (Same.refl H) h2⟩
      · exact p.elim
    · rename_i ns e2
      split at p
      · rename_i n e3
        obtain ⟨a, ea, ha⟩ := rx.scr e2
        exact .inl ⟨a, _, i, _, ea, ew, ha, atI_ints e3, p _ H (Same.refl H) (Rp.int _)⟩
      · exact p.elim
    · rename_i l e2
      split at p
      · rename_i t e3
        obtain ⟨a, us, ea, ha, ra⟩ := rx.tup e2
        obtain ⟨u, h1, h2⟩ := atI_rel ra e3
        exact .inr (.inl ⟨a, us, i, u, ea, ew, SqT.of ha, h1, p u H (Same.refl H) h2⟩)
      · exact p.elim
    · rename_i z e2
      split at p
      · rename_i hz
        split at p
        · rename_i c e3
          exact .inr (.inr ⟨z, i, c, rx.str e2, ew, hz, e3, p _ H (Same.refl H) (Rp.str _ (strOk_of (l := [c]) fun d hd => by
            obtain rfl : d = c := by simpa using hd
            exact strOk_mem (rx.strk e2) (atI_mem e3)))⟩)
        · exact p.elim
      · exact p.elim
    · exact p.elim
  · exact p.elim
theorem ej_ix (ha : EJ X EX a f) (hb : EJ X EX b f') (hs : PlainIx b) : EJ X EX (.Subscript a b pos) (b2 ixR f f') := by
  obtain ⟨t, pe, i⟩ := ha.ex
  obtain ⟨t', pe', i'⟩ := hb.ex
  refine ⟨⟨_, pe_ix ix_seq pe pe' hs, fun B H0 O env σ H Q R p => ?_⟩⟩
  refine i B H0 O env σ H _ R (p.bind.mono (fun _ _ x => x) fun x q v H1 s r1 => ?_)
  refine i' B H0 O env σ H1 _ (R.mono s) ((q.bind.up s).mono (fun _ _ x => x) fun y q2 w H2 s2 r2 => ?_)
  exact opi_ix B H0 O env σ H H2 x y v w Q _ R (s.trans s2) (r1.mono s2) (r2.down s) (q2.mono (fun _ _ x => x) fun z q3 u H' s3 r3 => q3 u H' ((s.trans s2).trans s3) r3)
end

/-! ### slices -/
def cutL {A : Type} (xs : List A) (lo hi : Option Int) : List A := (xs.drop (HT.sIx xs.length 0 lo)).take (HT.sIx xs.length xs.length hi - HT.sIx xs.length 0 lo)
def cutR (x : R) (lo hi : Option Int) : Res R := match x.d with
  | .lst l => .ok (.fr (.lst (cutL l lo hi)))
  | .scr ns => .ok (.fr (.lst ((cutL ns lo hi).map T.int)))
  | .str z => if z.length ≤ sizeLine then .ok (.sh (.str (cutS z lo hi))) else .bad
  | .tup l => if ¬ (HT.sIx l.length 0 lo = 0 ∧ HT.sIx l.length l.length hi = l.length) then .ok (.sh (.tup (cutL l lo hi))) else .bad
  | _ => .bad
def partR (r : R) : Res (Option Int) := match r.d with
  | .int i => .ok (some i)
  | _ => .bad
def fSl (f : En → Res R) (l h : En → Res (Option Int)) (env : En) : Res R := (f env).bind fun x => (l env).bind fun lo => (h env).bind fun hi => cutR x lo hi
def fP (f : En → Res R) (env : En) : Res (Option Int) := (f env).bind partR
@[simp] def fP0 (_ : En) : Res (Option Int) := .ok none
structure OJ (X : Cx) (EX : L2.St → XK) (e : Option Expr) (f : En → Res (Option Int)) : Prop where
  ex : ∃ t : TO, PO X e t ∧ ∀ B H0 O env σ H (Q : Option Int → Hp → Prop), Rel X.K B H0 O env σ H → Post (XC X.K B O EX σ H) (fun b => ∀ H', Same H H' → Q b H') (f env) → t σ H Q
theorem RpAll.cut {K : PySem.W.Frag} {H : Hp} {B : Xs} {ts : List T} {us : List V} (h : RpAll K H B ts us) (lo hi : Option Int) : RpAll K H B (cutL ts lo hi) (cutV us lo hi) := by
  unfold cutL cutV
  rw [← h.1]
  exact (h.drop _).take _
def rSl (X : Cx) : V → Option Int → Option Int → Hp → VK → Prop := fun x lo hi H Q => rSlL X.K x lo hi H Q ∨ (rSlS x lo hi H Q ∨ rSlT X.K x lo hi H Q)
section
variable {X : Cx} {EX : L2.St → XK} {a b c : Expr} {f : En → Res R} {l h : En → Res (Option Int)} {lo hi : Option Expr} {p2 pos : Pos}
theorem oj_none : OJ X EX none fP0 := ⟨⟨_, po_none, fun B H0 O env σ H Q R p => p H (Same.refl H)⟩⟩
theorem oj_some (ha : EJ X EX a f) : OJ X EX (some a) (fP f) := by
  obtain ⟨t, pe, i⟩ := ha.ex
  refine ⟨⟨_, po_some pe, fun B H0 O env σ H Q R p => ?_⟩⟩
  refine i B H0 O env σ H _ R (p.bind.mono (fun _ _ x => x) fun x q v H1 s r1 => ?_)
  unfold partR at q
  split at q
  · rename_i k e
    exact ⟨k, r1.int e, q H1 s⟩
  · exact q.elim
theorem slr : SlR X (rSl X) := sl_list.or (sl_str.or sl_tup)
theorem ej_slice (ha : EJ X EX a f) (hl : OJ X EX lo l) (hh : OJ X EX hi h) : EJ X EX (.Subscript a (.Slice lo hi none p2) pos) (fSl f l h) := by
  obtain ⟨t, pe, i⟩ := ha.ex
  obtain ⟨t1, pe1, i1⟩ := hl.ex
  obtain ⟨t2, pe2, i2⟩ := hh.ex
  refine ⟨⟨_, pe_slice slr pe pe1 pe2, fun B H0 O env σ H Q R p => ?_⟩⟩
  refine i B H0 O env σ H _ R (p.bind.mono (fun _ _ x => x) fun x q v H1 s r1 => ?_)
  refine i1 B H0 O env σ H1 _ (R.mono s) ((q.bind.up s).mono (fun _ _ x => x) fun y q2 H2 s2 => ?_)
  refine i2 B H0 O env σ H2 _ (R.mono (s.trans s2)) ((q2.bind.up (s.trans s2)).mono (fun _ _ x => x) fun z q3 H3 s3 => ?_)
  have st := (s.trans s2).trans s3
  have rx := r1.mono (s2.trans s3)
  unfold cutR at q3
  split at q3
  · rename_i l e
    obtain ⟨a, us, ea, ha, ra⟩ := rx.lst e
    exact .inl ⟨a, us, ea, SqL.of ha, fun p np => q3 _ _ (st.trans (Same.new np)) (RR.newL R st (ra.cut _ _) np)⟩
  · rename_i ns e
    obtain ⟨a, ea, ha⟩ := rx.scr e
    refine .inl ⟨a, _, ea, ha, fun p np => q3 _ _ (st.trans (Same.new np)) (RR.newL R st ?_ np)⟩
    have z2 : (cutL ns y z).map T.int = cutL (ns.map T.int) y z := by
      unfold cutL
      rw [List.length_map, List.map_take, List.map_drop]
    rw [z2]
    exact RpAll.ints.cut _ _
  · rename_i zz e
    split at q3
    · rename_i hz
      refine .inr (.inl ⟨zz, rx.str e, hz, q3 _ _ st (Rp.str _ ?_)⟩)
      exact strOk_of fun d hd => strOk_mem (rx.strk e) (List.mem_of_mem_drop (List.mem_of_mem_take hd))
    · exact q3.elim
  · rename_i l e
    split at q3
    · rename_i hz
      obtain ⟨a, us, ea, ha, ra⟩ := rx.tup e
      refine .inr (.inr ⟨a, us, ea, SqT.of ha, by rw [← ra.1]; exact hz, fun p np => q3 _ _ (st.trans (Same.new np)) ?_⟩)
      have z := ra.cut y z
      exact Rp.tup upd_same (Rel.ex_new (R.mono st) np) z.1 fun i t u a b => (z.2 i t u a b).same (Same.new np)
    · exact q3.elim
  · exact q3.elim
end

/-! ### in, not in: a list of data, a text -/
def T.fv : T → Option V
  | .non => some .non
  | .bl b => some (.bl b)
  | .int i => some (.int i)
  | .str x => some (.str x)
  | _ => none
def inT (x y : T) : Option Bool := match y with
  | .lst l => if T.pd 8 x = true ∧ T.pd 8 y = true then some (l.any fun z => teq z x) else none
  | .scr l => if T.pd 8 x = true then some (l.any fun z => teq (.int z) x) else none
  | .str z => match x with
    | .str c => match c.cps.toList with
      | [k] => some (decide (k ∈ z.cps.toList))
      | _ => none
    | _ => none
  | .tup l => match x.fv, l.mapM T.fv with
    | some v, some vs => some (inV v vs)
    | _, _ => none
  | _ => none
def inR (x y : R) : Res R := match inT x.d y.d with
  | some b => .ok (.sh (.bl b))
  | none => .bad
def ninR (x y : R) : Res R := match inT x.d y.d with
  | some b => .ok (.sh (.bl (!b)))
  | none => .bad
theorem any_toD (l : List T) (x : T) : ((T.toDs l).any fun z => PyData.eqv z x.toD) = l.any fun z => teq z x := by
  rw [T.toDs_map, List.any_map]
  rfl
theorem fv_rp {K : PySem.W.Frag} {H : Hp} {B : Xs} {t : T} {v u : V} (h : Rp K H B t v) (e : t.fv = some u) : v = u ∧ flatV u = true := by
  cases h <;> simp [T.fv] at e <;> subst e <;> exact ⟨rfl, rfl⟩
theorem fv_all {K : PySem.W.Frag} {H : Hp} {B : Xs} : ∀ {ts : List T} {us vs : List V}, RpAll K H B ts us → ts.mapM T.fv = some vs → us = vs ∧ vs.all flatV = true
  | [], [], vs, _, e => by
    simp at e
    subst e
    exact ⟨rfl, rfl⟩
  | t :: ts, u :: us, vs, h, e => by
    rw [List.mapM_cons] at e
    cases e1 : t.fv with
    | none => rw [e1] at e; cases e
    | some w =>
      cases e2 : ts.mapM T.fv with
      | none => rw [e1, e2] at e; cases e
      | some ws =>
        rw [e1, e2] at e
        cases e
        obtain ⟨z1, z2⟩ := fv_rp h.head e1
        obtain ⟨z3, z4⟩ := fv_all h.tail e2
        rw [z1, z3]
        exact ⟨rfl, by rw [List.all_cons, z2, z4]; rfl⟩
  | [], _ :: _, _, h, _ => by have := h.1; simp at this
  | _ :: _, [], _, h, _ => by have := h.1; simp at this
def rInA (X : Cx) : R2 := fun x y H Q => rInD X.K x y H Q ∨ ((∃ (c : Nat) (z : Str), x = .str ⟨#[c]⟩ ∧ y = .str z ∧ Q (.bl (decide (c ∈ z.cps.toList))) H) ∨ rIn X.K false x y H Q)
def rNinA (X : Cx) : R2 := fun x y H Q => rNotInD X.K x y H Q ∨ ((∃ (c : Nat) (z : Str), x = .str ⟨#[c]⟩ ∧ y = .str z ∧ Q (.bl (!decide (c ∈ z.cps.toList))) H) ∨ rIn X.K true x y H Q)
section
variable {X : Cx}
theorem opr_in (hu : X.A.units + 65 < cLine) : OpR X (compareOp .In) (rInA X) := (op_inD hu).or (op_in_sign.or op_in_seq)
theorem opr_nin (hu : X.A.units + 65 < cLine) : OpR X (compareOp .NotIn) (rNinA X) := (op_notInD hu).or (op_notIn_sign.or op_notIn_seq)
theorem one_sign {c : Str} {k : Nat} (e : c.cps.toList = [k]) : c = ⟨#[k]⟩ := by
  obtain ⟨a⟩ := c
  have : a = #[k] := by
    apply Array.ext'
    exact e
  rw [this]
theorem in_core {B H0 O env σ Hs H x y v w} {b : Bool} (R : Rel X.K B H0 O env σ Hs) (s : Same Hs H) (rx : RR X.K B O Hs H x v) (ry : RR X.K B O Hs H y w) (e : inT x.d y.d = some b) :
    (∃ d ds, Dp X.K H v d ∧ Dp X.K H w (.list ds) ∧ SeqAt.shaped d = true ∧ SeqAt.shaped (.list ds) = true ∧ (ds.any fun z => PyData.eqv z d) = b) ∨
    ((∃ (c : Nat) (z : Str), v = .str ⟨#[c]⟩ ∧ w = .str z ∧ decide (c ∈ z.cps.toList) = b) ∨
     (∃ p xs, w = .ref p ∧ (SqL X.K H p xs ∨ SqT X.K H p xs) ∧ flatV v = true ∧ xs.all flatV = true ∧ inV v xs = b)) := by
  unfold inT at e
  split at e
  · rename_i l el
    split at e
    · rename_i c
      cases e
      obtain ⟨d1, c1, e1⟩ := rx.rp0.plain 8 c.1
      obtain ⟨d2, c2, e2⟩ := ry.rp0.plain 8 c.2
      rw [el] at d2 c2 e2
      simp only [T.toD] at d2 c2 e2
      exact .inl ⟨_, _, d1, d2, shaped_of (t := x.d) c1 e1, shaped_of (t := x.d) c2 e2, any_toD l x.d⟩
    · cases e
  · rename_i l el
    split at e
    · rename_i c
      cases e
      obtain ⟨d1, c1, e1⟩ := rx.rp0.plain 8 c
      obtain ⟨d2, c2, e2⟩ := ry.rp0.plain 8 (by rw [el]; rfl)
      rw [el] at d2 c2 e2
      simp only [T.toD] at d2 c2 e2
      refine .inl ⟨_, _, d1, d2, shaped_of (t := x.d) c1 e1, shaped_of (t := x.d) c2 e2, ?_⟩
      rw [List.any_map]
      rfl
    · cases e
  · rename_i z el
    split at e
    · rename_i c ex
      split at e
      · rename_i k ek
        cases e
        refine .inr (.inl ⟨k, z, ?_, ry.str el, rfl⟩)
        rw [rx.str ex, one_sign ek]
      · cases e
    · cases e
  · rename_i l el
    split at e
    · rename_i u vs e1 e2
      cases e
      obtain ⟨a, us, ea, ha, ra⟩ := ry.tup el
      obtain ⟨z1, z2⟩ := fv_rp rx.rp0 e1
      obtain ⟨z3, z4⟩ := fv_all ra e2
      exact .inr (.inr ⟨a, us, ea, .inr (SqT.of ha), by rw [z1]; exact z2, by rw [z3]; exact z4, by rw [z1, z3]⟩)
    · cases e
  · cases e
theorem opi_in : OpI X (rInA X) inR := by
  intro B H0 O env σ Hs H x y v w Q xc R s rx ry p
  unfold inR at p
  split at p
  · rename_i b e
    have p' := p _ H (Same.refl H) (Rp.bl _)
    rcases in_core R s rx ry e with ⟨d, ds, h1, h2, h3, h4, h5⟩ | ⟨c, z, h1, h2, h3⟩ | ⟨q, xs, h1, h2, h3, h4, h5⟩
    · exact .inl ⟨d, ds, h1, h2, h3, h4, by rw [h5]; exact p'⟩
    · exact .inr (.inl ⟨c, z, h1, h2, by rw [h3]; exact p'⟩)
    · refine .inr (.inr ⟨q, xs, h1, h2, h3, h4, ?_⟩)
      show Q (.bl (inV v xs)) H
      rw [h5]; exact p'
  · exact p.elim
theorem opi_nin : OpI X (rNinA X) ninR := by
  intro B H0 O env σ Hs H x y v w Q xc R s rx ry p
  unfold ninR at p
  split at p
  · rename_i b e
    have p' := p _ H (Same.refl H) (Rp.bl _)
    rcases in_core R s rx ry e with ⟨d, ds, h1, h2, h3, h4, h5⟩ | ⟨c, z, h1, h2, h3⟩ | ⟨q, xs, h1, h2, h3, h4, h5⟩
    · exact .inl ⟨d, ds, h1, h2, h3, h4, by rw [h5]; exact p'⟩
    · exact .inr (.inl ⟨c, z, h1, h2, by rw [h3]; exact p'⟩)
    · refine .inr (.inr ⟨q, xs, h1, h2, h3, h4, ?_⟩)
      show Q (.bl (!inV v xs)) H
      rw [h5]; exact p'
  · exact p.elim
end

/-! ### built-in calls -/
def CallI (X : Cx) (r : List V → Hp → VK → Prop) (g : List R → Res R) : Prop := ∀ B H0 O env σ Hs H rs vs (Q : VK) xc, Rel X.K B H0 O env σ Hs → Same Hs H → RRs X.K B O Hs H rs vs →
  Post xc (fun r => ∀ u H', Same H H' → RR X.K B O Hs H' r u → Q u H') (g rs) → r vs H Q
@[simp] def fB (g : List R → Res R) (f : En → Res (List R)) (env : En) : Res R := (f env).bind g
section
variable {X : Cx} {EX : L2.St → XK} {e : Expr} {es : List Expr} {f : En → Res (List R)} {g : List R → Res R} {r : List V → Hp → VK → Prop} {p pos : Pos} {id : String} {x : Str}
theorem ej_callB (hc : CallR X (.builtin id) r) (hg : CallI X r g) (hgl : Gl X x) (hm : X.mg x = none) (hv : bootBuiltins x = some (.builtin id)) (ha : AJ X EX (e :: es) f) (hn : x ≠ "__name__" := by decide) (hdb : (x == ("__debug__" : Str)) = false := by decide)
    (he : starEach (e :: es) X.env = (false, eval e X.env) :: starEach es X.env := by rfl) (hpl : (backTo pos (starEach es X.env)).any (·.1) = false := by rfl) : EJ X EX (.Call (.Name x p) (e :: es) [] pos) (fB g f) := by
  obtain ⟨t, pa, i⟩ := ha.ex
  refine ⟨⟨_, pe_callB hc hgl hm hv pa hn hdb he hpl, fun B H0 O env σ H Q R q => ?_⟩⟩
  refine i B H0 O env σ H _ R (q.bind.mono (fun _ _ x => x) fun rs q vs H1 s r1 => ?_)
  exact hg B H0 O env σ H H1 rs vs Q _ R s r1 (q.mono (fun _ _ x => x) fun z q3 u H' s3 r3 => q3 u H' (s.trans s3) r3)
theorem ej_callTy (hc : CallR X (.type id) r) (hg : CallI X r g) (hgl : Gl X x) (hm : X.mg x = none) (hv : bootBuiltins x = some (.type id)) (ha : AJ X EX (e :: es) f) (hn : x ≠ "__name__" := by decide) (hdb : (x == ("__debug__" : Str)) = false := by decide)
    (he : starEach (e :: es) X.env = (false, eval e X.env) :: starEach es X.env := by rfl) (hpl : (backTo pos (starEach es X.env)).any (·.1) = false := by rfl) : EJ X EX (.Call (.Name x p) (e :: es) [] pos) (fB g f) := by
  obtain ⟨t, pa, i⟩ := ha.ex
  refine ⟨⟨_, pe_callTy hc hgl hm hv pa hn hdb he hpl, fun B H0 O env σ H Q R q => ?_⟩⟩
  refine i B H0 O env σ H _ R (q.bind.mono (fun _ _ x => x) fun rs q vs H1 s r1 => ?_)
  exact hg B H0 O env σ H H1 rs vs Q _ R s r1 (q.mono (fun _ _ x => x) fun z q3 u H' s3 r3 => q3 u H' (s.trans s3) r3)
end
theorem RRs.one {K : PySem.W.Frag} {B : Bs} {O : Ow} {H H1 : Hp} {r : R} {vs : List V} (h : RRs K B O H H1 [r] vs) : ∃ v, vs = [v] ∧ RR K B O H H1 r v := by
  match vs, h with
  | [v], h => exact ⟨v, rfl, h.1⟩
theorem RRs.two {K : PySem.W.Frag} {B : Bs} {O : Ow} {H H1 : Hp} {r r' : R} {vs : List V} (h : RRs K B O H H1 [r, r'] vs) : ∃ v w, vs = [v, w] ∧ RR K B O H H1 r v ∧ RR K B O H H1 r' w := by
  match vs, h with
  | [v, w], h => exact ⟨v, w, rfl, h.1, h.2.1⟩
/-- len -/
def lenR : List R → Res R
  | [x] => match x.d with
    | .lst l => .ok (.sh (.int l.length))
    | .scr l => .ok (.sh (.int l.length))
    | .tup l => .ok (.sh (.int l.length))
    | .str z => if z.length ≤ sizeLine then .ok (.sh (.int z.length)) else .bad
    | _ => .bad
  | _ => .bad
/-- max, min of two -/
def maxR : List R → Res R
  | [x, y] => match x.d, y.d with
    | .int i, .int j => .ok (.sh (.int (max i j)))
    | _, _ => .bad
  | _ => .bad
def minR : List R → Res R
  | [x, y] => match x.d, y.d with
    | .int i, .int j => .ok (.sh (.int (min i j)))
    | _, _ => .bad
  | _ => .bad
def T.asInt : T → Option Int
  | .int i => some i
  | _ => none
/-- a list of ints -/
def T.ints : T → Option (List Int)
  | .lst l => l.mapM T.asInt
  | .scr ns => some ns
  | _ => none
def sumR : List R → Res R
  | [x] => match x.d.ints with
    | some ns => .ok (.sh (.int ns.sum))
    | none => .bad
  | _ => .bad
def lmax : List Int → Option Int
  | [] => none
  | n :: ns => some (ns.foldl max n)
def lmin : List Int → Option Int
  | [] => none
  | n :: ns => some (ns.foldl min n)
def max1R : List R → Res R
  | [x] => match x.d.ints.bind lmax with
    | some n => .ok (.sh (.int n))
    | none => .bad
  | _ => .bad
def min1R : List R → Res R
  | [x] => match x.d.ints.bind lmin with
    | some n => .ok (.sh (.int n))
    | none => .bad
  | _ => .bad
/-- list(x), tuple(x) -/
def listR : List R → Res R
  | [x] => match x.d with
    | .lst l => .ok (.fr (.lst l))
    | .tup l => .ok (.fr (.lst l))
    | .scr ns => .ok (.fr (.lst (ns.map T.int)))
    | _ => .bad
  | _ => .bad
def tupleR : List R → Res R
  | [x] => match x.d with
    | .lst l => .ok (.sh (.tup l))
    | .tup l => .ok (.sh (.tup l))
    | _ => .bad
  | _ => .bad
def intR : List R → Res R
  | [x] => match x.d with
    | .int i => .ok (.sh (.int i))
    | .bl k => .ok (.sh (.int (if k then 1 else 0)))
    | _ => .bad
  | _ => .bad
/-- the text of a number -/
def numS (i : Int) : Str := toString i
def numOk (i : Int) : Prop := i.natAbs < 2 ^ 1900
theorem strOk_str (s : String) : PyData.strOk (s : Str) = true := by
  show PyData.strOk (Str.ofString s) = true
  rw [Str.ofString_eq_toList]
  refine strOk_of fun c hc => ?_
  obtain ⟨d, _, rfl⟩ := List.mem_map.mp hc
  have h := d.valid
  have z : d.val.toNat = d.toNat := rfl
  rcases h with h | h
  · have : d.val.toNat < 0xd800 := h
    omega
  · have : d.val.toNat < 0x110000 := h.2
    omega
instance (i : Int) : Decidable (numOk i) := by unfold numOk; infer_instance
def strR : List R → Res R
  | [x] => match x.d with
    | .int i => if numOk i then .ok (.sh (.str (numS i))) else .bad
    | _ => .bad
  | _ => .bad
section
variable {K : PySem.W.Frag} {B : Bs} {O : Ow} {H0 H H' : Hp} {r : R} {v : V}
theorem asInt_all {X : Xs} : ∀ {ts : List T} {us : List V} {ns : List Int}, RpAll K H X ts us → ts.mapM T.asInt = some ns → us = ns.map V.int
  | [], [], ns, _, e => by
    simp at e
    subst e
    rfl
  | t :: ts, u :: us, ns, h, e => by
    rw [List.mapM_cons] at e
    cases t with
    | int i =>
      cases e2 : ts.mapM T.asInt with
      | none => rw [e2] at e; cases e
      | some ws =>
        rw [e2] at e
        cases e
        rw [rp_int h.head, asInt_all h.tail e2]
        rfl
    | _ => cases e
  | [], _ :: _, _, h, _ => by have := h.1; simp at this
  | _ :: _, [], _, h, _ => by have := h.1; simp at this
theorem RR.ints {ns : List Int} (h : RR K B O H H' r v) (e : r.d.ints = some ns) : ∃ a, v = .ref a ∧ SqL K H' a (ns.map V.int) := by
  cases q : r.d with
  | lst l =>
    rw [q] at e
    obtain ⟨a, us, e1, e2, e3⟩ := h.lst q
    rw [asInt_all e3 e] at e2
    exact ⟨a, e1, SqL.of e2⟩
  | scr l =>
    rw [q] at e
    cases e
    exact h.scr q
  | _ => rw [q] at e; cases e
theorem fold_max (l : List Int) : ∀ n, n ≤ l.foldl max n ∧ (∀ y ∈ l, y ≤ l.foldl max n) ∧ (l.foldl max n = n ∨ l.foldl max n ∈ l) := by
  induction l with
  | nil => intro n; simp
  | cons a l ih =>
    intro n
    obtain ⟨h1, h2, h3⟩ := ih (max n a)
    simp only [List.foldl_cons, List.mem_cons]
    refine ⟨by omega, ?_, ?_⟩
    · rintro y (rfl | hy)
      · omega
      · exact h2 y hy
    · rcases h3 with h3 | h3
      · rw [h3]; omega
      · exact .inr (.inr h3)
theorem fold_min (l : List Int) : ∀ n, l.foldl min n ≤ n ∧ (∀ y ∈ l, l.foldl min n ≤ y) ∧ (l.foldl min n = n ∨ l.foldl min n ∈ l) := by
  induction l with
  | nil => intro n; simp
  | cons a l ih =>
    intro n
    obtain ⟨h1, h2, h3⟩ := ih (min n a)
    simp only [List.foldl_cons, List.mem_cons]
    refine ⟨by omega, ?_, ?_⟩
    · rintro y (rfl | hy)
      · omega
      · exact h2 y hy
    · rcases h3 with h3 | h3
      · rw [h3]; omega
      · exact .inr (.inr h3)
theorem lmax_is {ns : List Int} {m k : Int} (h : lmax ns = some k) (h1 : m ∈ ns) (h2 : ∀ y ∈ ns, y ≤ m) : m = k := by
  match ns, h with
  | n :: l, h =>
    cases h
    obtain ⟨a, b, c⟩ := fold_max l n
    have c' : l.foldl max n ∈ n :: l := c.elim (fun z => by rw [z]; exact List.mem_cons_self) fun z => List.mem_cons_of_mem _ z
    have := h2 _ c'
    rcases List.mem_cons.mp h1 with rfl | h1
    · omega
    · have := b m h1; omega
theorem lmin_is {ns : List Int} {m k : Int} (h : lmin ns = some k) (h1 : m ∈ ns) (h2 : ∀ y ∈ ns, m ≤ y) : m = k := by
  match ns, h with
  | n :: l, h =>
    cases h
    obtain ⟨a, b, c⟩ := fold_min l n
    have c' : l.foldl min n ∈ n :: l := c.elim (fun z => by rw [z]; exact List.mem_cons_self) fun z => List.mem_cons_of_mem _ z
    have := h2 _ c'
    rcases List.mem_cons.mp h1 with rfl | h1
    · omega
    · have := b m h1; omega
end
section
variable {X : Cx}
theorem calli_len : CallI X (fun xs H Q => (∃ p ys, xs = [.ref p] ∧ (SqL X.K H p ys ∨ SqT X.K H p ys) ∧ Q (.int ys.length) H) ∨ (∃ z, xs = [.str z] ∧ z.length ≤ sizeLine ∧ Q (.int z.length) H)) lenR := by
  intro B H0 O env σ Hs H rs vs Q xc R s rx p
  unfold lenR at p
  split at p
  · rename_i x
    obtain ⟨v, rfl, r1⟩ := rx.one
    split at p
    · rename_i l e
      obtain ⟨a, us, ea, ha, ra⟩ := r1.lst e
      rw [ea]
      refine .inl ⟨a, us, rfl, .inl (SqL.of ha), ?_⟩
      rw [← ra.1]
      exact p _ H (Same.refl H) (Rp.int _)
    · rename_i l e
      obtain ⟨a, ea, ha⟩ := r1.scr e
      rw [ea]
      refine .inl ⟨a, _, rfl, .inl ha, ?_⟩
      rw [List.length_map]
      exact p _ H (Same.refl H) (Rp.int _)
    · rename_i l e
      obtain ⟨a, us, ea, ha, ra⟩ := r1.tup e
      rw [ea]
      refine .inl ⟨a, us, rfl, .inr (SqT.of ha), ?_⟩
      rw [← ra.1]
      exact p _ H (Same.refl H) (Rp.int _)
    · rename_i z e
      split at p
      · rename_i hz
        rw [r1.str e]
        exact .inr ⟨z, rfl, hz, p _ H (Same.refl H) (Rp.int _)⟩
      · exact p.elim
    · exact p.elim
  · exact p.elim
theorem callr_len : CallR X (.builtin "len") (fun xs H Q => (∃ p ys, xs = [.ref p] ∧ (SqL X.K H p ys ∨ SqT X.K H p ys) ∧ Q (.int ys.length) H) ∨ (∃ z, xs = [.str z] ∧ z.length ≤ sizeLine ∧ Q (.int z.length) H)) := call_len_seq.or call_len_str
theorem calli_max : CallI X (fun xs H Q => ∃ i j, xs = [.int i, .int j] ∧ Q (.int (if j > i then j else i)) H) maxR := by
  intro B H0 O env σ Hs H rs vs Q xc R s rx p
  unfold maxR at p
  split at p
  · obtain ⟨v, w, rfl, r1, r2⟩ := rx.two
    split at p
    · rename_i i j e1 e2
      rw [r1.int e1, r2.int e2]
      refine ⟨i, j, rfl, ?_⟩
      have e : (if j > i then j else i) = max i j := by split <;> omega
      rw [e]
      exact p _ H (Same.refl H) (Rp.int _)
    · exact p.elim
  · exact p.elim
theorem calli_min : CallI X (fun xs H Q => ∃ i j, xs = [.int i, .int j] ∧ Q (.int (if j < i then j else i)) H) minR := by
  intro B H0 O env σ Hs H rs vs Q xc R s rx p
  unfold minR at p
  split at p
  · obtain ⟨v, w, rfl, r1, r2⟩ := rx.two
    split at p
    · rename_i i j e1 e2
      rw [r1.int e1, r2.int e2]
      refine ⟨i, j, rfl, ?_⟩
      have e : (if j < i then j else i) = min i j := by split <;> omega
      rw [e]
      exact p _ H (Same.refl H) (Rp.int _)
    · exact p.elim
  · exact p.elim
theorem calli_sum : CallI X (rSum X.K) sumR := by
  intro B H0 O env σ Hs H rs vs Q xc R s rx p
  unfold sumR at p
  split at p
  · obtain ⟨v, rfl, r1⟩ := rx.one
    split at p
    · rename_i ns e
      obtain ⟨a, ea, ha⟩ := r1.ints e
      rw [ea]
      exact ⟨a, ns, rfl, ha, p _ H (Same.refl H) (Rp.int _)⟩
    · exact p.elim
  · exact p.elim
theorem calli_max1 : CallI X (rMax X.K) max1R := by
  intro B H0 O env σ Hs H rs vs Q xc R s rx p
  unfold max1R at p
  split at p
  · rename_i x
    obtain ⟨v, rfl, r1⟩ := rx.one
    split at p
    · rename_i n e
      cases e1 : x.d.ints with
      | none => rw [e1] at e; cases e
      | some ns =>
        rw [e1] at e
        have e' : lmax ns = some n := e
        obtain ⟨a, ea, ha⟩ := r1.ints e1
        rw [ea]
        refine ⟨a, ns, rfl, ha, ?_, fun m h1 h2 => ?_⟩
        · cases ns with
          | nil => cases e'
          | cons _ _ => simp
        · rw [lmax_is e' h1 h2]
          exact p _ H (Same.refl H) (Rp.int _)
    · exact p.elim
  · exact p.elim
theorem calli_min1 : CallI X (rMin X.K) min1R := by
  intro B H0 O env σ Hs H rs vs Q xc R s rx p
  unfold min1R at p
  split at p
  · rename_i x
    obtain ⟨v, rfl, r1⟩ := rx.one
    split at p
    · rename_i n e
      cases e1 : x.d.ints with
      | none => rw [e1] at e; cases e
      | some ns =>
        rw [e1] at e
        have e' : lmin ns = some n := e
        obtain ⟨a, ea, ha⟩ := r1.ints e1
        rw [ea]
        refine ⟨a, ns, rfl, ha, ?_, fun m h1 h2 => ?_⟩
        · cases ns with
          | nil => cases e'
          | cons _ _ => simp
        · rw [lmin_is e' h1 h2]
          exact p _ H (Same.refl H) (Rp.int _)
    · exact p.elim
  · exact p.elim
theorem calli_list : CallI X (fun xs H Q => ∃ p ys, xs = [.ref p] ∧ (SqL X.K H p ys ∨ SqT X.K H p ys) ∧ ∀ l, H l = none → Q (.ref l) (upd H l (.lst ys))) listR := by
  intro B H0 O env σ Hs H rs vs Q xc R s rx p
  unfold listR at p
  split at p
  · obtain ⟨v, rfl, r1⟩ := rx.one
    split at p
    · rename_i l e
      obtain ⟨a, us, ea, ha, ra⟩ := r1.lst e
      rw [ea]
      exact ⟨a, us, rfl, .inl (SqL.of ha), fun q nq => p _ _ (Same.new nq) (RR.newL R s ra nq)⟩
    · rename_i l e
      obtain ⟨a, us, ea, ha, ra⟩ := r1.tup e
      rw [ea]
      exact ⟨a, us, rfl, .inr (SqT.of ha), fun q nq => p _ _ (Same.new nq) (RR.newL R s ra nq)⟩
    · rename_i l e
      obtain ⟨a, ea, ha⟩ := r1.scr e
      rw [ea]
      exact ⟨a, _, rfl, .inl ha, fun q nq => p _ _ (Same.new nq) (RR.newL R s .ints nq)⟩
    · exact p.elim
  · exact p.elim
theorem calli_tuple : CallI X (fun xs H Q => ∃ p ys, xs = [.ref p] ∧ ((SqL X.K H p ys ∧ ∀ l, H l = none → Q (.ref l) (upd H l (.tup ys))) ∨ (SqT X.K H p ys ∧ Q (.ref p) H))) tupleR := by
  intro B H0 O env σ Hs H rs vs Q xc R s rx p
  unfold tupleR at p
  split at p
  · rename_i x
    obtain ⟨v, rfl, r1⟩ := rx.one
    split at p
    · rename_i l e
      obtain ⟨a, us, ea, ha, ra⟩ := r1.lst e
      rw [ea]
      exact ⟨a, us, rfl, .inl ⟨SqL.of ha, fun q nq => p _ _ (Same.new nq) (Rp.tup upd_same (Rel.ex_new (R.mono s) nq) ra.1 fun i t u a b => (ra.2 i t u a b).same (Same.new nq))⟩⟩
    · rename_i l e
      obtain ⟨a, us, ea, ha, ra⟩ := r1.tup e
      rw [ea]
      have rp : Rp X.K H (Ex B O) (.tup l) (.ref a) := by
        cases x with
        | sh d => cases e; rw [← ea]; exact r1
        | fr d => cases e; obtain ⟨_, _, _, _, _, h⟩ := r1; cases h
        | bo i d => cases e; obtain ⟨_, _, _, _, _, h⟩ := r1; cases h
        | vw d => cases e; obtain ⟨_, _, _, _, _, h⟩ := r1; cases h
      exact ⟨a, us, rfl, .inr ⟨SqT.of ha, p _ H (Same.refl H) rp⟩⟩
    · exact p.elim
  · exact p.elim
theorem calli_int : CallI X (fun xs H Q => (∃ i, xs = [.int i] ∧ Q (.int i) H) ∨ ∃ k, xs = [.bl k] ∧ Q (.int (if k then 1 else 0)) H) intR := by
  intro B H0 O env σ Hs H rs vs Q xc R s rx p
  unfold intR at p
  split at p
  · obtain ⟨v, rfl, r1⟩ := rx.one
    split at p
    · rename_i i e
      rw [r1.int e]
      exact .inl ⟨i, rfl, p _ H (Same.refl H) (Rp.int _)⟩
    · rename_i i e
      rw [r1.bl e]
      exact .inr ⟨i, rfl, p _ H (Same.refl H) (Rp.int _)⟩
    · exact p.elim
  · exact p.elim
theorem calli_str : CallI X (fun xs H Q => ∃ i, xs = [.int i] ∧ i.natAbs.log2 < 1920 ∧ Q (.str (toString i)) H) strR := by
  intro B H0 O env σ Hs H rs vs Q xc R s rx p
  unfold strR at p
  split at p
  · obtain ⟨v, rfl, r1⟩ := rx.one
    split at p
    · rename_i i e
      split at p
      · rename_i c
        rw [r1.int e]
        refine ⟨i, rfl, ?_, p _ H (Same.refl H) (Rp.str _ (strOk_str _))⟩
        by_cases z : i.natAbs = 0
        · rw [z]; decide
        · rw [Nat.log2_lt z]
          exact Nat.lt_of_lt_of_le c (Nat.pow_le_pow_right (by decide) (by decide))
      · exact p.elim
    · exact p.elim
  · exact p.elim
end

/-! ### isinstance of built-in classes -/
def T.tyn : T → Option String
  | .non => some "NoneType"
  | .bl _ => some "bool"
  | .int _ => some "int"
  | .str _ => some "str"
  | .tup _ => some "tuple"
  | .lst _ => some "list"
  | .dik _ => some "dict"
  | .dit _ => some "dict"
  | _ => none
def isaB (a c : String) : Bool := a == c || (a == "bool" && c == "int")
def fIsa (c : String) (f : En → Res R) (env : En) : Res R := (f env).bind fun x => match x.d.tyn with
  | some n => .ok (.sh (.bl (isaB n c)))
  | none => .bad
def isaOk (c : String) : Bool := ["NoneType", "bool", "int", "str", "tuple", "list", "dict"].all fun n => kitB n c == some (isaB n c)
theorem tyn_ty {K : PySem.W.Frag} {H : Hp} {B : Xs} {t : T} {v : V} {n : String} (h : Rp K H B t v) (e : t.tyn = some n) : TyX K H v (.type n) ∧ n ∈ ["NoneType", "bool", "int", "str", "tuple", "list", "dict"] := by
  cases h with
  | non => cases e; exact ⟨.base .non, by simp⟩
  | bl b => cases e; exact ⟨.base (.bl b), by simp⟩
  | int b => cases e; exact ⟨.base (.int b), by simp⟩
  | str b => cases e; exact ⟨.base (.str b), by simp⟩
  | tup h1 => cases e; exact ⟨.base (.tup h1), by simp⟩
  | lst h1 => cases e; exact ⟨.base (.lst h1), by simp⟩
  | scr => cases e
  | dik h1 => cases e; exact ⟨.base (.dK h1), by simp⟩
  | dit h1 => cases e; exact ⟨.base (.dT h1), by simp⟩
  | obj => cases e
  | fn => cases e
  | ptr => cases e
  | ex0 => cases e
  | ex1 => cases e
section
variable {X : Cx} {EX : L2.St → XK} {e : Expr} {f : En → Res R} {p p2 pos : Pos} {c : String} {x : Str}
theorem ej_isa (hgl : Gl X "isinstance") (hm : X.mg "isinstance" = none) (hv : bootBuiltins "isinstance" = some (.builtin "isinstance")) (hg2 : Gl X x) (hm2 : X.mg x = none) (hv2 : bootBuiltins x = some (.type c)) (hk : isaOk c = true) (ha : EJ X EX e f)
    (hn : x ≠ "__name__" := by decide) (hdb : (x == ("__debug__" : Str)) = false := by decide)
    (he : starEach [e, .Name x p2] X.env = (false, eval e X.env) :: starEach [.Name x p2] X.env := by rfl) (he2 : starEach [.Name x p2] X.env = (false, eval (.Name x p2) X.env) :: starEach [] X.env := by rfl)
    (hpl : (backTo pos (starEach [.Name x p2] X.env)).any (·.1) = false := by rfl) :
    EJ X EX (.Call (.Name "isinstance" p) [e, .Name x p2] [] pos) (fIsa c f) := by
  obtain ⟨t, pe, i⟩ := ha.ex
  have pb : PE X (.Name x p2) (tC (.ty c)) := pe_bltn hg2 hm2 hv2 rfl hn hdb
  refine ⟨⟨_, pe_callB call_isi hgl hm hv (pa_cons pe (pa_cons pb pa_nil he2) he) (by decide) (by decide) he hpl, fun B H0 O env σ H Q R q => ?_⟩⟩
  refine i B H0 O env σ H _ R (q.bind.mono (fun _ _ x => x) fun x q v H1 s r1 => ?_)
  split at q
  · rename_i n e
    obtain ⟨h1, h2⟩ := tyn_ty r1.rp0 e
    have z := List.all_eq_true.mp hk n h2
    exact ⟨v, .ty c, .type n, .type c, isaB n c, rfl, .ty c, h1, kit_ty (by simpa using z), q _ H1 s (Rp.bl _)⟩
  · exact q.elim
end
end Tr
namespace Tr
open PySem L2

inductive Out where
  | nx (e : En) | rt (r : R) | bk (e : En) | ct (e : En) | exc (e : En) (c : Addr) (p : Option T) | bad
  /-- handed back by a method that changes its object -/
  | rm (r : R) (e : En)
def R.isVw : R → Bool
  | .vw _ => true
  | _ => false
def SPost (X : Cx) (EX : L2.St → XK) (B : Bs) (H0 : Hp) (O : Ow) (H : Hp) (D : Ends) : Out → Prop
  | .nx env' => ∀ O' σ' H', Rel X.K B H0 O' env' σ' H' → Keep (Ex B O) H (Ex B O') H' → D.nx σ' H'
  | .rt r => (B.act = false ∨ r.d.np = true) ∧ r.isVw = false ∧ ∀ v H', Same H0 H' → RX X.K B.x H0 H' r v → D.rt v H'
  | .bk env' => ∀ O' σ' H', Rel X.K B H0 O' env' σ' H' → Keep (Ex B O) H (Ex B O') H' → D.bk σ' H'
  | .ct env' => ∀ O' σ' H', Rel X.K B H0 O' env' σ' H' → Keep (Ex B O) H (Ex B O') H' → D.ct σ' H'
  | .exc env' c p => ∀ O' σ' H' d a, clsA X.K c = some a → Rel X.K B H0 O' env' σ' H' → Keep (Ex B O) H (Ex B O') H' → XRel X.K (Ex B O') H' p d → EX σ' (.ref a) d H'
  | .rm (.sh d) env' => ∀ O' σ' H' v, Rel X.K B H0 O' env' σ' H' → Keep (Ex B O) H (Ex B O') H' → Rp X.K H' (Ex B O') d v → D.rt v H'
  | .rm (.fr d) env' => ∀ O' σ' H' p ho, H0 p = none → Rel X.K (B.add p) (upd H0 p ho) O' env' σ' H' → Keep (Ex B O) H (Ex (B.add p) O') H' → OwnRp X.K H' (Ex (B.add p) O') d ho → D.rt (.ref p) H'
  | .rm _ _ => False
  | .bad => False

/-- a statement, a block -/
structure SJ (X : Cx) (EX : L2.St → XK) (st : Stmt) (f : En → Out) : Prop where
  ex : ∃ t : TS, PS X st t ∧ ∀ B H0 O env σ H (D : Ends), Rel X.K B H0 O env σ H → SPost X EX B H0 O H D (f env) → t D σ H
structure SsJ (X : Cx) (EX : L2.St → XK) (st : List Stmt) (f : En → Out) : Prop where
  ex : ∃ t : TS, PSs X st t ∧ ∀ B H0 O env σ H (D : Ends), Rel X.K B H0 O env σ H → SPost X EX B H0 O H D (f env) → t D σ H

def Res.out {A : Type} (r : Res A) (k : A → En → Out) (env : En) : Out := match r with
  | .ok a => k a env
  | .exc c p => .exc env c p
  | .bad => .bad
def Out.seq (o : Out) (g : En → Out) : Out := match o with
  | .nx e => g e
  | o => o
/-- behind a turn -/
def Out.loop (o : Out) (k : En → Out) : Out := match o with
  | .nx e => k e
  | .ct e => k e
  | .bk e => .nx e
  | .rt r => .rt r
  | .exc e c p => .exc e c p
  | .bad => .bad
  | .rm r e => .rm r e
/-- at the end of a def -/
def Out.res (o : Out) : Res R := match o with
  | .nx _ => .ok (.sh .non)
  | .rt (.vw _) => .bad
  | .rt r => .ok r
  | .exc _ c p => .exc c p
  | _ => .bad
def Out.onE (g : En → En) (o : Out) : Out := match o with
  | .nx e => .nx (g e)
  | .bk e => .bk (g e)
  | .ct e => .ct (g e)
  | .exc e c p => .exc (g e) c p
  | o => o
section
variable {A : Type} (k : A → En → Out) (a : A) (e env : En) (c : Addr) (p : Option T) (g : En → Out) (r : R) (h : En → En)
@[simp] theorem out_ok : (Res.ok a).out k env = k a env := rfl
@[simp] theorem out_exc : (Res.exc c p : Res A).out k env = .exc env c p := rfl
@[simp] theorem out_bad : (Res.bad : Res A).out k env = .bad := rfl
@[simp] theorem seq_nx : (Out.nx e).seq g = g e := rfl
@[simp] theorem seq_rt : (Out.rt r).seq g = .rt r := rfl
@[simp] theorem seq_bk : (Out.bk e).seq g = .bk e := rfl
@[simp] theorem seq_ct : (Out.ct e).seq g = .ct e := rfl
@[simp] theorem seq_exc : (Out.exc e c p).seq g = .exc e c p := rfl
@[simp] theorem seq_bad : Out.bad.seq g = .bad := rfl
@[simp] theorem loop_nx : (Out.nx e).loop g = g e := rfl
@[simp] theorem loop_rt : (Out.rt r).loop g = .rt r := rfl
@[simp] theorem loop_bk : (Out.bk e).loop g = .nx e := rfl
@[simp] theorem loop_ct : (Out.ct e).loop g = g e := rfl
@[simp] theorem loop_exc : (Out.exc e c p).loop g = .exc e c p := rfl
@[simp] theorem seq_rm : (Out.rm r e).seq g = .rm r e := rfl
@[simp] theorem loop_rm : (Out.rm r e).loop g = .rm r e := rfl
@[simp] theorem onE_rm : (Out.rm r e).onE h = .rm r e := rfl
@[simp] theorem loop_bad : Out.bad.loop g = .bad := rfl
@[simp] theorem res_nx : (Out.nx e).res = .ok (.sh .non) := rfl
@[simp] theorem res_rt (d : T) : (Out.rt (.sh d)).res = .ok (.sh d) := rfl
@[simp] theorem res_rtF (d : T) : (Out.rt (.fr d)).res = .ok (.fr d) := rfl
@[simp] theorem res_rtB (i : Nat) (d : T) : (Out.rt (.bo i d)).res = .ok (.bo i d) := rfl
@[simp] theorem res_exc : (Out.exc e c p).res = .exc c p := rfl
@[simp] theorem res_bad : Out.bad.res = .bad := rfl
@[simp] theorem onE_nx : (Out.nx e).onE h = .nx (h e) := rfl
@[simp] theorem onE_rt : (Out.rt r).onE h = .rt r := rfl
@[simp] theorem onE_bk : (Out.bk e).onE h = .bk (h e) := rfl
@[simp] theorem onE_ct : (Out.ct e).onE h = .ct (h e) := rfl
@[simp] theorem onE_exc : (Out.exc e c p).onE h = .exc (h e) c p := rfl
@[simp] theorem onE_bad : Out.bad.onE h = .bad := rfl
end
section
variable {A C : Type} {q : Prop} [Decidable q]
theorem out_ite (x y : Res A) (k : A → En → Out) (env : En) : (if q then x else y).out k env = if q then x.out k env else y.out k env := by split <;> rfl
theorem bind_ite (x y : Res A) (k : A → Res C) : (if q then x else y).bind k = if q then x.bind k else y.bind k := by split <;> rfl
theorem seq_ite (x y : Out) (k : En → Out) : (if q then x else y).seq k = if q then x.seq k else y.seq k := by split <;> rfl
theorem loop_ite (x y : Out) (k : En → Out) : (if q then x else y).loop k = if q then x.loop k else y.loop k := by split <;> rfl
theorem res_ite (x y : Out) : (if q then x else y).res = if q then x.res else y.res := by split <;> rfl
theorem onE_ite (x y : Out) (k : En → En) : (if q then x else y).onE k = if q then x.onE k else y.onE k := by split <;> rfl
end
def sOf {A : Type} (f : En → Res A) (k : A → En → Out) (env : En) : Out := (f env).out k env
section
variable {X : Cx} {EX : L2.St → XK} {B : Bs} {H0 H H1 : Hp} {O O1 : Ow} {D D' : Ends} {env : En} {σ : L2.St} {o : Out}
theorem SPost.up (h : SPost X EX B H0 O H D o) (k : Keep (Ex B O) H (Ex B O1) H1) : SPost X EX B H0 O1 H1 D o := by
  cases o with
  | nx e => exact fun O' σ' H' r q => h O' σ' H' r (k.trans q)
  | rt r => exact h
  | bk e => exact fun O' σ' H' r q => h O' σ' H' r (k.trans q)
  | ct e => exact fun O' σ' H' r q => h O' σ' H' r (k.trans q)
  | exc e c p => exact fun O' σ' H' d a ea r q x => h O' σ' H' d a ea r (k.trans q) x
  | rm r e =>
    cases r with
    | sh d => exact fun O' σ' H' v q1 q2 x => h O' σ' H' v q1 (k.trans q2) x
    | fr d => exact fun O' σ' H' p ho q0 q1 q2 x => h O' σ' H' p ho q0 q1 (k.trans q2) x
    | bo i d => exact h
    | vw d => exact h
  | bad => exact h
theorem SPost.rmD {r : R} {e : En} (h : SPost X EX B H0 O H D (.rm r e)) (q : D'.rt = D.rt) : SPost X EX B H0 O H D' (.rm r e) := by
  cases r with
  | sh d => exact fun O' σ' H' v q1 q2 x => q ▸ h O' σ' H' v q1 q2 x
  | fr d => exact fun O' σ' H' p ho q0 q1 q2 x => q ▸ h O' σ' H' p ho q0 q1 q2 x
  | bo i d => exact h
  | vw d => exact h
theorem sOf_post {A : Type} {f : En → Res A} {k : A → En → Out} (R : Rel X.K B H0 O env σ H) (h : SPost X EX B H0 O H D (sOf f k env)) :
    Post (XC X.K B O EX σ H) (fun a => SPost X EX B H0 O H D (k a env)) (f env) := by
  unfold sOf at h
  cases e : f env with
  | ok a => rw [e] at h; exact h
  | exc c p => rw [e] at h; exact fun H' d a ea s x => h O σ H' d a ea (R.mono s) (Same.keepB s) x
  | bad => rw [e] at h; exact h.elim
end

/-! ### the slots -/
def R.sl : R → Sl
  | .sh d => .fz d
  | .fr d => .ow d
  | _ => .no
section
variable {K : PySem.W.Frag} {B : Bs} {H0 H H1 : Hp} {O : Ow} {env : En} {σ : L2.St} {r : R} {v : V} {i : Nat}
theorem getElem?_set' {A : Type} {l : List A} {i j : Nat} {x y : A} (h : (l.set i x)[j]? = some y) : (i = j ∧ i < l.length ∧ y = x) ∨ (i ≠ j ∧ l[j]? = some y) := by
  rw [List.getElem?_set] at h
  by_cases e : i = j
  · rw [if_pos e] at h
    by_cases q : i < l.length
    · rw [if_pos q] at h
      exact .inl ⟨e, q, (Option.some.inj h).symm⟩
    · rw [if_neg q] at h
      cases h
  · rw [if_neg e] at h
    exact .inr ⟨e, h⟩
theorem cs_set {B : Bs} {O : Ow} {i : Nat} {x : Option Addr} (hi : i < B.n) (k : Nat) : csOf B (O.set i x) k = csOf B O k := by
  unfold csOf
  rw [List.getElem?_set, if_neg (by omega)]
theorem set_cell {B : Bs} {O : Ow} {i : Nat} {x : Option Addr} (hi : i < B.n) (k : Nat) : (O.set i x)[B.n + k]? = O[B.n + k]? := by
  rw [List.getElem?_set, if_neg (by omega)]
def Sl.isSt : Sl → Bool
  | .st _ => true
  | _ => false
theorem one_set {env : En} (h : ∀ (i j : Nat) (S S' : List T), env[i]? = some (.st S) → env[j]? = some (.st S') → i = j) {m : Nat} {s : Sl} (hs : s.isSt = true → ∃ S, env[m]? = some (.st S)) :
    ∀ (i j : Nat) (S S' : List T), (env.set m s)[i]? = some (.st S) → (env.set m s)[j]? = some (.st S') → i = j := by
  have old : ∀ (i : Nat) (S : List T), (env.set m s)[i]? = some (.st S) → ∃ S', env[i]? = some (.st S') := fun i S z => by
    rcases getElem?_set' z with ⟨e1, _, e2⟩ | ⟨_, e2⟩
    · subst e1
      exact hs (by rw [← e2]; rfl)
    · exact ⟨S, e2⟩
  intro i j S S' a b
  obtain ⟨_, a'⟩ := old i S a
  obtain ⟨_, b'⟩ := old j S' b
  exact h i j _ _ a' b'
/-- the slots' owners change at i alone -/
theorem Rel.setO (R0 : Rel K B H0 O env σ H) {i : Nat} (hi : i < env.length) {ow : Option Addr} {s : Sl} {w : Option V} {H1 : Hp} (σ' : L2.St) (hσ' : σ' = σ.set i w ∨ σ' = σ) (sm : Same H0 H1)
    (kp : Keep (Ex B O) H (Ex B (O.set i ow)) H1) (th : ∀ a, B a → ∃ o, H1 a = some o ∧ nTup o)
    (oth : ∀ m a o, m ≠ i → O[m]? = some (some a) → H a = some o → H1 a = some o)
    (new : ∀ a, ow = some a → H0 a = none ∧ ¬ B a ∧ (∃ ho, H1 a = some ho ∧ nTup ho) ∧ ∀ m, m ≠ i → O[m]? ≠ some (some a))
    (hs : s.isSt = true → ∃ S, env[i]? = some (.st S)) (sl : SlOk K B (O.set i ow) σ' H1 i s) : Rel K B H0 (O.set i ow) (env.set i s) σ' H1 := by
  have hn : i < B.n := R0.lenN ▸ hi
  have hO : i < O.length := R0.lenE hi
  refine ⟨?_, by rw [List.length_set]; exact R0.lenN, by rw [List.length_set]; exact R0.lenO, fun h => by rw [List.length_set]; exact R0.cells h, sm, R0.lent, th, fun j a z => ?_, fun j l a z z' => ?_, fun j sl' z => ?_, one_set R0.one hs⟩
  · rcases hσ' with e | e <;> rw [e] <;> simp [R0.len]
  · rcases getElem?_set' z with ⟨_, _, e⟩ | ⟨n, e⟩
    · obtain ⟨h1, h2, h3, _⟩ := new a e.symm
      exact ⟨h1, h2, h3⟩
    · obtain ⟨h0, nb, ho, h1, nt⟩ := R0.own j a e
      exact ⟨h0, nb, ho, oth j a ho (fun q => n q.symm) e h1, nt⟩
  · rcases getElem?_set' z with ⟨e1, _, e2⟩ | ⟨n1, e2⟩
    · rcases getElem?_set' z' with ⟨e3, _, e4⟩ | ⟨n3, e4⟩
      · rw [← e1, ← e3]
      · exact ((new a e2.symm).2.2.2 l (fun q => n3 q.symm) e4).elim
    · rcases getElem?_set' z' with ⟨e3, _, e4⟩ | ⟨n3, e4⟩
      · exact ((new a e4.symm).2.2.2 j (fun q => n1 q.symm) e2).elim
      · exact R0.uniq j l a e2 e4
  · rcases getElem?_set' z with ⟨e1, _, e2⟩ | ⟨n1, e2⟩
    · subst e1
      subst e2
      exact sl
    · have hj : j < env.length := (List.getElem?_eq_some_iff.mp e2).1
      refine (R0.slot j sl' e2).up kp (by rw [List.getElem?_set, if_neg n1]) ?_ (List.length_set ..) (fun k => set_cell hn k) fun m a o hm e3 e4 => oth m a o ?_ e3 e4
      · rcases hσ' with e | e <;> rw [e]
        rw [List.getElem?_set, if_neg n1]
      · rcases hm with e | ⟨_, e⟩
        · rw [e]; exact fun q => n1 q.symm
        · omega
/-- a value goes into a slot -/
theorem Rel.store (R0 : Rel K B H0 O env σ H) (s : Same H H1) (h : RR K B O H H1 r v) (k : r.kp = true) (i : Nat) :
    ∃ O', Rel K B H0 O' (env.set i r.sl) (σ.set i (some v)) H1 ∧ Keep (Ex B O) H (Ex B O') H1 ∧ ∀ j, j ≠ i → O'[j]? = O[j]? := by
  by_cases hi : i < env.length
  · -- the slot's owner from now on
    obtain ⟨ow, how⟩ : ∃ ow : Option Addr, match r with
        | .sh _ => ow = none
        | .fr d => ∃ p ho, ow = some p ∧ v = .ref p ∧ H p = none ∧ H1 p = some ho ∧ OwnRp K H1 ((Ex B O).add p) d ho
        | _ => False := by
      cases r with
      | sh d => exact ⟨none, rfl⟩
      | fr d =>
        obtain ⟨p, ho, e, n, h1, h2⟩ := h
        exact ⟨some p, p, ho, rfl, e, n, h1, h2⟩
      | bo i d => cases k
      | vw d => cases k
    have hn : i < B.n := R0.lenN ▸ hi
    have hO : i < O.length := R0.lenE hi
    have hσ : i < σ.length := by rw [R0.len]; exact hi
    have exs : ∀ a, Ex B (O.set i ow) a → Ex B O a ∨ ow = some a := fun a z => by
      rcases z with z | ⟨j, z⟩
      · exact .inl (.inl z)
      · rcases getElem?_set' z with ⟨_, _, e⟩ | ⟨_, e⟩
        · exact .inr e.symm
        · exact .inl (.inr ⟨j, e⟩)
    have csE : ∀ k a, (Ex B O).cs k = some a → (Ex B (O.set i ow)).cs k = some a := fun k a e => (cs_set hn k).trans e
    have fresh : ∀ a, ow = some a → H a = none := fun a q => by
      cases r with
      | sh d => rw [how] at q; cases q
      | fr d =>
        obtain ⟨p, ho, e1, e2, e3, _⟩ := how
        rw [e1] at q
        cases q
        exact e3
      | bo i d => cases k
      | vw d => cases k
    have kp : Keep (Ex B O) H (Ex B (O.set i ow)) H1 := ⟨fun a o e n => ⟨s a o e, fun z => (exs a z).elim n fun q => by rw [fresh a q] at e; cases e⟩, csE⟩
    refine ⟨O.set i ow, R0.setO hi _ (.inl rfl) (R0.same.trans s) kp (fun a z => ?_) (fun m a o _ _ e => s a o e) (fun a e => ?_) (fun z => ?_) ?_, kp, fun j nj => by rw [List.getElem?_set, if_neg fun q => nj q.symm]⟩
    · obtain ⟨o, e, nt⟩ := R0.there a z
      exact ⟨o, s a o e, nt⟩
    · have hf := fresh a e
      refine ⟨R0.same.free hf, fun z => R0.ex_new hf (.inl z), ?_, fun m _ z => R0.ex_new hf (.inr ⟨m, z⟩)⟩
      cases r with
      | sh d => rw [how] at e; cases e
      | fr d =>
        obtain ⟨p, ho, e1, e2, e3, e4, e5⟩ := how
        rw [e1] at e
        cases e
        exact ⟨ho, e4, e5.ntup⟩
      | bo i d => cases k
      | vw d => cases k
    · cases r <;> cases z
    · have e5 : (O.set i ow)[i]? = some ow := by rw [List.getElem?_set, if_pos rfl, if_pos hO]
      have e6 : (σ.set i (some v))[i]? = some (some v) := by rw [List.getElem?_set, if_pos rfl, if_pos hσ]
      cases r with
      | sh d =>
        have how' : ow = none := how
        subst how'
        exact ⟨e5, v, e6, Rp.anti h (fun a z => (exs a z).elim id fun q => by cases q) csE⟩
      | fr d =>
        obtain ⟨p, ho, e1, e2, e3, e4, e7⟩ := how
        subst e1
        subst e2
        exact ⟨p, ho, e5, e6, e4, e7.anti (fun a z => (exs a z).imp id fun q => (Option.some.inj q).symm) csE⟩
      | bo i d => cases k
      | vw d => cases k
  · have hσ : ¬ i < σ.length := by rw [R0.len]; exact hi
    rw [List.set_eq_of_length_le (by omega), List.set_eq_of_length_le (by omega)]
    exact ⟨O, R0.mono s, Same.keepB s, fun _ _ => rfl⟩
theorem set_self {A : Type} {l : List A} {i : Nat} {x : A} (h : l[i]? = some x) : l.set i x = l := by
  apply List.ext_getElem?
  intro j
  rw [List.getElem?_set]
  by_cases e : i = j
  · subst e
    rw [if_pos rfl, if_pos (List.getElem?_eq_some_iff.mp h).1, h]
  · rw [if_neg e]
/-- what is owned at i is changed, by whomever; all else stays -/
theorem Rel.chg (R0 : Rel K B H0 O env σ H) {i : Nat} {a : Addr} {s : Sl} {ho' : HO} {H1 : Hp} (hi : i < env.length) (ha : O[i]? = some (some a)) (ag : ∀ b o, H b = some o → b ≠ a → H1 b = some o) (h' : H1 a = some ho') (nt : nTup ho')
    (hs : s.isSt = false) (sl : SlOk K B O σ H1 i s) : Rel K B H0 O (env.set i s) σ H1 ∧ Keep (Ex B O) H (Ex B O) H1 := by
  have kp : Keep (Ex B O) H (Ex B O) H1 := ⟨fun b o e n => ⟨ag b o e fun z => n (by rw [z]; exact .inr ⟨i, ha⟩), n⟩, fun _ _ e => e⟩
  have eO : O.set i (some a) = O := set_self ha
  have z := R0.setO (ow := some a) (s := s) (w := none) hi σ (.inr rfl) (H1 := H1) (fun b o e => ?_) (by rw [eO]; exact kp) (fun b z => ?_) (fun m b o hm e1 e2 => ?_) (fun b e => ?_) (fun z => by rw [hs] at z; cases z) (by rw [eO]; exact sl)
  · rw [eO] at z
    exact ⟨z, kp⟩
  · exact ag b o (R0.same b o e) fun q => by rw [q, (R0.own i a ha).1] at e; cases e
  · by_cases n : b = a
    · exact ⟨ho', by rw [n]; exact h', nt⟩
    · obtain ⟨o, e, nt⟩ := R0.there b z
      exact ⟨o, ag b o e n, nt⟩
  · exact ag b o e2 fun q => hm (R0.uniq m i a (by rw [← q]; exact e1) ha)
  · cases e
    obtain ⟨h0, nb, _⟩ := R0.own i a ha
    exact ⟨h0, nb, ⟨ho', h', nt⟩, fun m hm e => hm (R0.uniq m i a e ha)⟩
/-- an own object is changed -/
theorem Rel.change (R0 : Rel K B H0 O env σ H) {a : Addr} {d d' : T} {ho' : HO} (he : env[i]? = some (.ow d)) (ha : O[i]? = some (some a)) (h : OwnRp K H (Ex B O) d' ho') :
    Rel K B H0 O (env.set i (.ow d')) σ (upd H a ho') ∧ Keep (Ex B O) H (Ex B O) (upd H a ho') := by
  obtain ⟨a', ho, h1, h2, h3, h4⟩ := R0.slot i _ he
  rw [ha] at h1
  cases h1
  have kp : Keep (Ex B O) H (Ex B O) (upd H a ho') := ⟨fun b o e n => ⟨by rw [upd_ne (fun z => n (by rw [z]; exact .inr ⟨i, ha⟩))]; exact e, n⟩, fun _ _ e => e⟩
  exact R0.chg (List.getElem?_eq_some_iff.mp he).1 ha (fun b o e n => by rw [upd_ne n]; exact e) upd_same h.ntup rfl ⟨a, ho', ha, h2, upd_same, h.keep kp⟩
/-- the object whose method this is, is changed -/
theorem Rel.changeS (R0 : Rel K B H0 O env σ H) {a : Addr} {d d' : T} {ho' : HO} (he : env[i]? = some (.sf d)) (ha : O[i]? = some (some a)) (h : OwnRp K H (Ex B O) d' ho') :
    Rel K B H0 O (env.set i (.sf d')) σ (upd H a ho') ∧ Keep (Ex B O) H (Ex B O) (upd H a ho') := by
  obtain ⟨a', ho, h1, h2, h3, h4, h5⟩ := R0.slot i _ he
  rw [ha] at h1
  cases h1
  have kp : Keep (Ex B O) H (Ex B O) (upd H a ho') := ⟨fun b o e n => ⟨by rw [upd_ne (fun z => n (by rw [z]; exact .inr ⟨i, ha⟩))]; exact e, n⟩, fun _ _ e => e⟩
  exact R0.chg (List.getElem?_eq_some_iff.mp he).1 ha (fun b o e n => by rw [upd_ne n]; exact e) upd_same h.ntup rfl ⟨a, ho', ha, h2, upd_same, h.keep kp, h5⟩
/-- nobody owns slot i any more -/
theorem Rel.noO (R0 : Rel K B H0 O env σ H) {i : Nat} (hi : i < env.length) {s : Sl} (hs : s.isSt = true → ∃ S, env[i]? = some (.st S)) (sl : (∀ b, Ex B (O.set i none) b → Ex B O b) → (∀ k a, (Ex B O).cs k = some a → (Ex B (O.set i none)).cs k = some a) → (O.set i none)[i]? = some none → SlOk K B (O.set i none) σ H i s) :
    Rel K B H0 (O.set i none) (env.set i s) σ H ∧ Keep (Ex B O) H (Ex B (O.set i none)) H := by
  have hn : i < B.n := R0.lenN ▸ hi
  have hO : i < O.length := R0.lenE hi
  have exs : ∀ b, Ex B (O.set i none) b → Ex B O b := fun b z => by
    rcases z with z | ⟨j, z⟩
    · exact .inl z
    · rcases getElem?_set' z with ⟨_, _, e⟩ | ⟨_, e⟩
      · cases e
      · exact .inr ⟨j, e⟩
  have csE : ∀ k a, (Ex B O).cs k = some a → (Ex B (O.set i none)).cs k = some a := fun k a e => (cs_set hn k).trans e
  have kp : Keep (Ex B O) H (Ex B (O.set i none)) H := ⟨fun b o e n => ⟨e, fun z => n (exs b z)⟩, csE⟩
  exact ⟨R0.setO (w := none) hi σ (.inr rfl) R0.same kp R0.there (fun _ _ _ _ _ e => e) (fun a e => by cases e) hs (sl exs csE (by rw [List.getElem?_set, if_pos rfl, if_pos hO])), kp⟩
/-- a new object is not to be spoken of for a while -/
theorem Rel.temp (R0 : Rel K B H0 O env σ H) (s : Same H H1) {p : Addr} {ho : HO} (hp : H p = none) (h1 : H1 p = some ho) (nt : nTup ho) :
    Rel K (B.add p) (upd H0 p ho) O env σ H1 ∧ Keep (Ex B O) H (Ex (B.add p) O) H1 := by
  have hp0 : H0 p = none := R0.same.free hp
  have kp : Keep (Ex B O) H (Ex (B.add p) O) H1 := ⟨fun b o e n => ⟨s b o e, fun z => by
    rcases z with (z | z) | z
    · exact n (.inl z)
    · rw [z, hp] at e; cases e
    · exact n (.inr z)⟩, fun _ _ e => e⟩
  refine ⟨⟨R0.len, R0.lenN, R0.lenO, R0.cells, fun b o e => ?_, fun b o e => ?_, fun b z => ?_, fun i a e => ?_, R0.uniq, fun j sl e => (R0.slot j sl e).upB ⟨rfl, rfl, rfl, rfl, rfl⟩ kp rfl rfl rfl (fun _ => rfl) fun m a o _ _ h => s a o h, R0.one⟩, kp⟩
  · by_cases q : b = p
    · subst q
      rw [upd_same] at e
      rw [h1]
      exact e
    · rw [upd_ne q] at e
      exact s b o (R0.same b o e)
  · have z := R0.lent b o e
    rw [upd_ne (ne_of_none z hp0)]
    exact z
  · rcases z with z | z
    · obtain ⟨o, e, n⟩ := R0.there b z
      exact ⟨o, s b o e, n⟩
    · rw [z]; exact ⟨ho, h1, nt⟩
  · obtain ⟨h0, nb, o, h2, n⟩ := R0.own i a e
    have ne : a ≠ p := ne_of_none h2 hp
    exact ⟨by rw [upd_ne ne]; exact h0, fun z => z.elim nb ne, o, s a o h2, n⟩
/-- what slot j owns goes out of it -/
theorem Rel.give (R0 : Rel K B H0 O env σ H) {j : Nat} {d : T} (hj : env[j]? = some (.ow d)) : ∃ a ho, O[j]? = some (some a) ∧ σ[j]? = some (some (.ref a)) ∧ H a = some ho ∧ H0 a = none ∧
    Rel K (B.add a) (upd H0 a ho) (O.set j none) (env.set j .no) σ H ∧ Keep (Ex B O) H (Ex (B.add a) (O.set j none)) H ∧ OwnRp K H (Ex (B.add a) (O.set j none)) d ho := by
  obtain ⟨a, ho, h1, h2, h3, h4⟩ := R0.slot j _ hj
  have hi : j < env.length := (List.getElem?_eq_some_iff.mp hj).1
  have hn : j < B.n := R0.lenN ▸ hi
  obtain ⟨R1, k1⟩ := R0.noO hi (s := .no) (fun z => by cases z) fun _ _ e => e
  obtain ⟨h0, nb, _⟩ := R0.own j a h1
  have sub : ∀ b, Ex (B.add a) (O.set j none) b → Ex B O b := fun b z => by
    rcases z with (z | z) | ⟨i, z⟩
    · exact .inl z
    · rw [z]; exact .inr ⟨j, h1⟩
    · rcases getElem?_set' z with ⟨_, _, e⟩ | ⟨_, e⟩
      · cases e
      · exact .inr ⟨i, e⟩
  have csE : ∀ k b, (Ex B O).cs k = some b → (Ex (B.add a) (O.set j none)).cs k = some b := fun k b e => (cs_set hn k).trans e
  have kp : Keep (Ex B O) H (Ex (B.add a) (O.set j none)) H := ⟨fun b o e n => ⟨e, fun z => n (sub b z)⟩, csE⟩
  refine ⟨a, ho, h1, h2, h3, h0, ⟨R1.len, R1.lenN, R1.lenO, R1.cells, fun b o e => ?_, fun b o e => ?_, fun b z => ?_, fun i c e => ?_, R1.uniq, fun i sl e => ?_, R1.one⟩, kp, h4.anti sub csE⟩
  · by_cases q : b = a
    · subst q
      rw [upd_same] at e
      rw [h3]
      exact e
    · rw [upd_ne q] at e
      exact R0.same b o e
  · have z := R0.lent b o e
    rw [upd_ne (ne_of_none z h0)]
    exact z
  · rcases z with z | z
    · exact R0.there b z
    · rw [z]; exact ⟨ho, h3, h4.ntup⟩
  · obtain ⟨z0, z1, z2⟩ := R1.own i c e
    have ne : c ≠ a := fun q => by
      rcases getElem?_set' e with ⟨_, _, e⟩ | ⟨n, e⟩
      · cases e
      · exact n (R0.uniq j i a h1 (by rw [← q]; exact e))
    exact ⟨by rw [upd_ne ne]; exact z0, fun z => z.elim z1 ne, z2⟩
  · rcases getElem?_set' e with ⟨e1, _, e2⟩ | ⟨n1, e2⟩
    · subst e1
      subst e2
      show (O.set j none)[j]? = some none
      rw [List.getElem?_set, if_pos rfl, if_pos (R0.lenE hi)]
    · exact (R0.slot i sl e2).upB ⟨rfl, rfl, rfl, rfl, rfl⟩ kp (by rw [List.getElem?_set, if_neg n1]) rfl (List.length_set ..) (fun k => set_cell hn k) fun m a o _ _ h => h
/-- what one owns is given up: it stays as it is from now on -/
@[simp] def frz (i : Nat) (env : En) : En := match env[i]? with
  | some (.ow d) => env.set i (.fz d)
  | _ => env
theorem Rel.freeze (R0 : Rel K B H0 O env σ H) (i : Nat) : ∃ O', Rel K B H0 O' (frz i env) σ H ∧ Keep (Ex B O) H (Ex B O') H := by
  unfold frz
  split
  · rename_i d he
    obtain ⟨a, ho, h1, h2, h3, h4⟩ := R0.slot i _ he
    have hi : i < env.length := (List.getElem?_eq_some_iff.mp he).1
    have na : ¬ Ex B (O.set i none) a := fun z => by
      rcases z with z | ⟨j, z⟩
      · exact (R0.own i a h1).2.1 z
      · rcases getElem?_set' z with ⟨_, _, e⟩ | ⟨n, e⟩
        · cases e
        · exact n (R0.uniq i j a h1 e)
    exact ⟨_, R0.noO hi (s := .fz d) (fun z => by cases z) fun exs csE eO => ⟨eO, _, h2, (h4.anti exs csE).rp h3 na⟩⟩
  · exact ⟨O, R0, Keep.refl⟩
/-- slot i is not spoken of any more -/
theorem Rel.forget (R0 : Rel K B H0 O env σ H) (i : Nat) : ∃ O', Rel K B H0 O' (env.set i .no) σ H ∧ Keep (Ex B O) H (Ex B O') H := by
  by_cases hi : i < env.length
  · exact ⟨_, R0.noO hi (s := .no) (fun z => by cases z) fun exs csE eO => eO⟩
  · rw [List.set_eq_of_length_le (by omega)]
    exact ⟨O, R0, Keep.refl⟩
@[simp] def fgs (is : List Nat) (env : En) : En := match is with
  | [] => env
  | i :: is => fgs is (env.set i .no)
theorem Rel.forgets : ∀ (is : List Nat) {O : Ow} {env : En}, Rel K B H0 O env σ H → ∃ O', Rel K B H0 O' (fgs is env) σ H ∧ Keep (Ex B O) H (Ex B O') H
  | [], O, _, R => ⟨O, R, Keep.refl⟩
  | i :: is, _, _, R => by
    obtain ⟨O1, R1, k1⟩ := R.forget i
    obtain ⟨O2, R2, k2⟩ := Rel.forgets is R1
    exact ⟨O2, R2, k1.trans k2⟩
end
end Tr
namespace Tr
open PySem L2

/-! ### statements -/
@[simp] def fNx (env : En) : Out := .nx env
@[simp] def fSeq (f g : En → Out) (env : En) : Out := (f env).seq g
def fSet (i : Nat) (f : En → Res R) (env : En) : Out := sOf f (fun r env => if r.kp then .nx (env.set i r.sl) else .bad) env
def fDrop (f : En → Res R) (env : En) : Out := sOf f (fun _ env => .nx env) env
def R.out : R → R
  | .bo _ d => .fr d
  | r => r
def fRet (f : En → Res R) (env : En) : Out := sOf f (fun r _ => .rt r.out) env
@[simp] def fRetN (_ : En) : Out := .rt (.sh .non)
def fIfS (c : En → Res Bool) (f g : En → Out) (env : En) : Out := sOf c (fun b env => if b then f env else g env) env
@[simp] def fBk (env : En) : Out := .bk env
@[simp] def fCt (env : En) : Out := .ct env
section
variable {X : Cx} {EX : L2.St → XK} {st : Stmt} {a b : List Stmt} {e c : Expr} {f g : En → Out} {u : En → Res R} {w : En → Res Bool} {pos pos' : Pos} {i : Nat} {x : Str}
theorem ssj_nil : SsJ X EX [] fNx := ⟨⟨_, pss_nil, fun B H0 O env σ H D R p => p O σ H R Keep.refl⟩⟩
theorem ssj_cons (h : SJ X EX st f) (k : SsJ X EX a g) : SsJ X EX (st :: a) (fSeq f g) := by
  obtain ⟨t, ps, i⟩ := h.ex
  obtain ⟨t', ps', i'⟩ := k.ex
  refine ⟨⟨_, pss_cons ps ps', fun B H0 O env σ H D R p => ?_⟩⟩
  refine i B H0 O env σ H _ R ?_
  unfold fSeq at p
  cases q : f env with
  | nx e =>
    rw [q] at p
    exact fun O' σ' H' R' kp => i' B H0 O' e σ' H' D R' (p.up kp)
  | rt r => rw [q] at p; exact p
  | bk e => rw [q] at p; exact p
  | ct e => rw [q] at p; exact p
  | exc e c' p' => rw [q] at p; exact p
  | rm r e => rw [q] at p; cases r <;> exact p
  | bad => rw [q] at p; exact p
theorem ssj_one (h : SJ X EX st f) : SsJ X EX [st] f := by
  obtain ⟨t, ps, i⟩ := h.ex
  exact ⟨⟨_, pss_one ps, i⟩⟩
/-- a statement ahead of which (behind which) slot i is given up -/
theorem sj_frz0 (j : Nat) (h : SJ X EX st f) : SJ X EX st (fun env => f (frz j env)) := by
  obtain ⟨t, ps, i⟩ := h.ex
  refine ⟨⟨_, ps, fun B H0 O env σ H D R p => ?_⟩⟩
  obtain ⟨O', R', k⟩ := R.freeze j
  exact i B H0 O' _ σ H D R' (p.up k)
@[simp] def fFz (j : Nat) (f : En → Out) (env : En) : Out := f (frz j env)
theorem sj_frz (j : Nat) (h : SJ X EX st f) : SJ X EX st (fFz j f) := sj_frz0 j h
@[simp] def fFg (is : List Nat) (f : En → Out) (env : En) : Out := (f env).onE (fgs is)
theorem fg_post {D : Ends} {B : Bs} {H0 H : Hp} {O : Ow} {is : List Nat} {o : Out} (p : SPost X EX B H0 O H D (o.onE (fgs is))) : SPost X EX B H0 O H D o := by
  cases o with
  | nx e =>
    intro O' σ' H' R k
    obtain ⟨O2, R2, k2⟩ := R.forgets is
    exact p O2 σ' H' R2 (k.trans k2)
  | rt r => exact p
  | bk e =>
    intro O' σ' H' R k
    obtain ⟨O2, R2, k2⟩ := R.forgets is
    exact p O2 σ' H' R2 (k.trans k2)
  | ct e =>
    intro O' σ' H' R k
    obtain ⟨O2, R2, k2⟩ := R.forgets is
    exact p O2 σ' H' R2 (k.trans k2)
  | exc e c pl =>
    intro O' σ' H' d a ea R k x
    obtain ⟨O2, R2, k2⟩ := R.forgets is
    refine p O2 σ' H' d a ea R2 (k.trans k2) ?_
    cases pl with
    | none => exact x
    | some t =>
      obtain ⟨a, v, z1, z2, z3⟩ := x
      exact ⟨a, v, z1, z2, z3.keep k2⟩
  | rm r e => exact p
  | bad => exact p
/-- behind a statement (a block) the slots is are not spoken of any more -/
theorem sj_fg (is : List Nat) (h : SJ X EX st f) : SJ X EX st (fFg is f) := by
  obtain ⟨t, ps, i⟩ := h.ex
  exact ⟨⟨_, ps, fun B H0 O env σ H D R p => i B H0 O _ σ H D R (fg_post p)⟩⟩
theorem ssj_fg (is : List Nat) (h : SsJ X EX a f) : SsJ X EX a (fFg is f) := by
  obtain ⟨t, ps, i⟩ := h.ex
  exact ⟨⟨_, ps, fun B H0 O env σ H D R p => i B H0 O _ σ H D R (fg_post p)⟩⟩
theorem sj_pass : SJ X EX (.Pass pos) fNx := ⟨⟨_, ps_pass, fun B H0 O env σ H D R p => p O σ H R Keep.refl⟩⟩
theorem sj_break : SJ X EX (.Break pos) fBk := ⟨⟨_, ps_break, fun B H0 O env σ H D R p => p O σ H R Keep.refl⟩⟩
theorem sj_continue : SJ X EX (.Continue pos) fCt := ⟨⟨_, ps_continue, fun B H0 O env σ H D R p => p O σ H R Keep.refl⟩⟩
theorem sj_doc {y j} : SJ X EX (.Expr (.Constant (.str y) j pos') pos) fNx := ⟨⟨_, ps_doc, fun B H0 O env σ H D R p => p O σ H R Keep.refl⟩⟩
theorem sj_set (i : Nat) (he : EJ X EX e u) (hN : X.N.Nodup) (hi : X.N[i]? = some x := by rfl) (hx : Loc X.env.scope x := by first | exact Or.inl rfl | exact Or.inr rfl) (hs : swapsWith e (some (.Name x pos')) pos.line X.env = pure false := by rfl)
    (hf : X.fn x = true ∨ X.env.scope.names.lookup x = some .local := by first | exact .inl rfl | exact .inr rfl) : SJ X EX (.Assign [.Name x pos'] e pos) (fSet i u) := by
  obtain ⟨t, pe, k⟩ := he.ex
  refine ⟨⟨_, ps_set hN hi hx pe hs hf, fun B H0 O env σ H D R p => ?_⟩⟩
  refine k B H0 O env σ H _ R ((sOf_post R p).mono (fun _ _ x => x) fun r q v H1 s r1 => ?_)
  split at q
  · rename_i kp
    obtain ⟨O', R', kk, _⟩ := R.store s r1 kp i
    exact q O' _ H1 R' kk
  · exact q.elim
/-- a list that is never changed: it stays as it is from now on -/
def fSetZ (i : Nat) (f : En → Res R) (env : En) : Out := sOf f (fun r env => if r.kp then .nx (env.set i (.fz r.d)) else .bad) env
theorem sj_fzp {D : Ends} {B : Bs} {H0 H : Hp} {O : Ow} {j : Nat} {o : Out} (p : SPost X EX B H0 O H D (o.onE (frz j))) : SPost X EX B H0 O H D o := by
  cases o with
  | nx e =>
    intro O' σ' H' R k
    obtain ⟨O2, R2, k2⟩ := R.freeze j
    exact p O2 σ' H' R2 (k.trans k2)
  | rt r => exact p
  | bk e =>
    intro O' σ' H' R k
    obtain ⟨O2, R2, k2⟩ := R.freeze j
    exact p O2 σ' H' R2 (k.trans k2)
  | ct e =>
    intro O' σ' H' R k
    obtain ⟨O2, R2, k2⟩ := R.freeze j
    exact p O2 σ' H' R2 (k.trans k2)
  | exc e c pl =>
    intro O' σ' H' d a ea R k x
    obtain ⟨O2, R2, k2⟩ := R.freeze j
    refine p O2 σ' H' d a ea R2 (k.trans k2) ?_
    cases pl with
    | none => exact x
    | some t =>
      obtain ⟨a, v, z1, z2, z3⟩ := x
      exact ⟨a, v, z1, z2, z3.keep k2⟩
  | rm r e => exact p
  | bad => exact p
theorem sj_setZ (i : Nat) (he : EJ X EX e u) (hN : X.N.Nodup) (hi : X.N[i]? = some x := by rfl) (hx : Loc X.env.scope x := by first | exact Or.inl rfl | exact Or.inr rfl) (hs : swapsWith e (some (.Name x pos')) pos.line X.env = pure false := by rfl)
    (hf : X.fn x = true ∨ X.env.scope.names.lookup x = some .local := by first | exact .inl rfl | exact .inr rfl) : SJ X EX (.Assign [.Name x pos'] e pos) (fSetZ i u) := by
  obtain ⟨t, ps, k⟩ := (sj_set (EX := EX) (pos' := pos') (pos := pos) i he hN hi hx hs hf).ex
  refine ⟨⟨t, ps, fun B H0 O env σ H D R p => k B H0 O env σ H D R ?_⟩⟩
  unfold fSetZ sOf at p
  unfold fSet sOf
  cases hu : u env with
  | bad => rw [hu] at p; exact p
  | exc c pl => rw [hu] at p; exact p
  | ok r =>
    rw [hu] at p
    simp only [out_ok] at p ⊢
    cases r with
    | sh d => exact p
    | bo j d => exact p
    | vw d => exact p
    | fr d =>
      refine sj_fzp (j := i) ?_
      have e : ∀ env : En, frz i (env.set i (.ow d)) = env.set i (.fz d) := fun env => by
        unfold frz
        by_cases h : i < env.length
        · rw [List.getElem?_set, if_pos rfl, if_pos h]
          simp
        · rw [List.set_eq_of_length_le (by omega)]
          rw [List.getElem?_eq_none (by omega)]
          simp [List.set_eq_of_length_le (show env.length ≤ i by omega)]
      show SPost X EX B H0 O H D (.nx (frz i (env.set i (.ow d))))
      rw [e]
      exact p
theorem sj_drop (he : EJ X EX e u) (hs : swapsWith e none pos.line X.env = pure false := by rfl) : SJ X EX (.Expr e pos) (fDrop u) := by
  obtain ⟨t, pe, k⟩ := he.ex
  refine ⟨⟨_, ps_expr pe hs, fun B H0 O env σ H D R p => ?_⟩⟩
  exact k B H0 O env σ H _ R ((sOf_post R p).mono (fun _ _ x => x) fun r q v H1 s r1 => q O σ H1 (R.mono s) (Same.keepB s))
theorem sj_ret (he : EJ X EX e u) : SJ X EX (.Return (some e) pos) (fRet u) := by
  obtain ⟨t, pe, k⟩ := he.ex
  refine ⟨⟨_, ps_ret pe, fun B H0 O env σ H D R p => ?_⟩⟩
  refine k B H0 O env σ H _ R ((sOf_post R p).mono (fun _ _ x => x) fun r q v H1 s r1 => ?_)
  obtain ⟨ac, nv, q'⟩ : (B.act = false ∨ r.out.d.np = true) ∧ r.out.isVw = false ∧ ∀ v H', Same H0 H' → RX X.K B.x H0 H' r.out v → D.rt v H' := q
  refine q' v H1 (R.same.trans s) ?_
  have sub : ∀ a, B.x a → Ex B O a := fun a z => .inl z
  rcases ac with ac | np
  · have csE : ∀ k a, (Ex B O).cs k = some a → B.x.cs k = some a := fun k a e => (R.cs0 ac).symm.trans e
    cases r with
    | sh d => exact Rp.anti r1 sub csE
    | fr d =>
      obtain ⟨p, ho, e1, e2, e3, e4⟩ := r1
      exact ⟨p, ho, e1, R.same.free e2, e3, e4.anti (fun a z => z.imp (sub a) id) csE⟩
    | bo i d =>
      obtain ⟨p, ho, e1, e2, e3, e4⟩ := r1
      exact ⟨p, ho, e2, (R.own i p e1).1, e3, e4.anti (fun a z => z.elim (sub a) fun e => .inr ⟨i, by rw [e]; exact e1⟩) csE⟩
    | vw d => cases nv
  · cases r with
    | sh d => exact Rp.np r1 sub np
    | fr d =>
      obtain ⟨p, ho, e1, e2, e3, e4⟩ := r1
      exact ⟨p, ho, e1, R.same.free e2, e3, e4.np (fun a z => z.imp (sub a) id) np⟩
    | bo i d =>
      obtain ⟨p, ho, e1, e2, e3, e4⟩ := r1
      exact ⟨p, ho, e2, (R.own i p e1).1, e3, e4.np (fun a z => z.elim (sub a) fun e => .inr ⟨i, by rw [e]; exact e1⟩) np⟩
    | vw d => cases nv
theorem sj_retN : SJ X EX (.Return none pos) fRetN := ⟨⟨_, ps_retN, fun B H0 O env σ H D R p => p.2.2 .non H R.same (Rp.non)⟩⟩
theorem sj_if (hc : BJ X EX c w) (ha : SsJ X EX a f) (hb : SsJ X EX b g) : SJ X EX (.If c a b pos) (fIfS w f g) := by
  obtain ⟨t, pt, k⟩ := hc.ex
  obtain ⟨t1, p1, k1⟩ := ha.ex
  obtain ⟨t2, p2, k2⟩ := hb.ex
  refine ⟨⟨_, ps_if pt p1 p2, fun B H0 O env σ H D R p => ?_⟩⟩
  refine k B H0 O env σ H _ R ((sOf_post R p).mono (fun _ _ x => x) fun r q H1 s => ?_)
  cases r with
  | true => exact iteT (k1 B H0 O env σ H1 D (R.mono s) ((show SPost X EX B H0 O H D (f env) from q).up (Same.keepB s)))
  | false => exact iteF (k2 B H0 O env σ H1 D (R.mono s) ((show SPost X EX B H0 O H D (g env) from q).up (Same.keepB s)))
end

/-! ### what one owns is changed -/
/-- xs.append(e) -/
def fApp (i : Nat) (f : En → Res R) (env : En) : Out := match env[i]? with
  | some (.ow (.lst l)) => sOf f (fun r env => if r.kp = true ∧ l.length < sizeLine then .nx (env.set i (.ow (.lst (l ++ [r.d])))) else .bad) env
  | _ => .bad
/-- xs.extend(e), e a list -/
def fExt (i : Nat) (f : En → Res R) (env : En) : Out := match env[i]? with
  | some (.ow (.lst l)) => sOf f (fun r env => match r.d with
    | .lst m => if l.length + m.length ≤ sizeLine then .nx (env.set i (.ow (.lst (l ++ m)))) else .bad
    | _ => .bad) env
  | _ => .bad
/-- xs[k] = e -/
def fPut (i : Nat) (f k : En → Res R) (env : En) : Out := sOf f (fun r env => match env[i]? with
  | some (.ow (.lst l)) => sOf k (fun y env => match y.d with
    | .int j => (match ixN l.length j with
      | some m => if r.kp = true then .nx (env.set i (.ow (.lst (l.set m r.d)))) else .bad
      | none => .bad)
    | _ => .bad) env
  | _ => .bad) env
/-- xs.pop(), xs.clear() as statements -/
def fPop (i : Nat) (env : En) : Out := match env[i]? with
  | some (.ow (.lst l)) => (match l with
    | [] => .bad
    | _ :: _ => .nx (env.set i (.ow (.lst l.dropLast))))
  | _ => .bad
def fClr (i : Nat) (env : En) : Out := match env[i]? with
  | some (.ow (.lst _)) => .nx (env.set i (.ow (.lst [])))
  | _ => .bad
/-- y = xs.pop(k) -/
def fPopTo (j i : Nat) (k : En → Res R) (env : En) : Out := match env[i]? with
  | some (.ow (.lst l)) => sOf k (fun y env => match y.d with
    | .int n => (match ixN l.length n with
      | some m => (match l[m]? with
        | some t => if -(2 ^ 63) ≤ n ∧ n < 2 ^ 63 then .nx ((env.set i (.ow (.lst (l.eraseIdx m)))).set j (.fz t)) else .bad
        | none => .bad)
      | none => .bad)
    | _ => .bad) env
  | _ => .bad
section
variable {X : Cx} {EX : L2.St → XK} {st : Stmt} {e c : Expr} {u k : En → Res R} {p pos pos' apos : Pos} {i j : Nat} {x y : Str}
theorem own_lst {K : PySem.W.Frag} {B : Bs} {H0 H : Hp} {O : Ow} {env : En} {σ : L2.St} {l : List T} (R : Rel K B H0 O env σ H) (h : env[i]? = some (.ow (.lst l))) :
    ∃ a us, O[i]? = some (some a) ∧ σ[i]? = some (some (.ref a)) ∧ H a = some (.lst us) ∧ RpAll K H (Ex B O) l us := by
  obtain ⟨a, ho, h1, h2, h3, h4⟩ := R.slot i _ h
  cases h4 with
  | lst h4 => exact ⟨a, _, h1, h2, h3, h4⟩
theorem tyL {K : PySem.W.Frag} {H : Hp} {a : Addr} {us : List V} (h : H a = some (.lst us)) : tyV K "list" (.ref a) H := .inl ⟨rfl, _, SqL.of h⟩
theorem sj_app (i : Nat) (he : EJ X EX e u) (hN : X.N[i]? = some x := by rfl) (hv : Vis X.env.scope x := by first | exact Or.inl rfl | exact Or.inr (Or.inl rfl) | exact Or.inr (Or.inr rfl)) (hd : (x == ("__debug__" : Str)) = false := by decide) (hcd : (x == ("__classdict__" : Str)) = false := by decide)
    (hst : starEach (e :: []) X.env = (false, eval e X.env) :: starEach [] X.env := by rfl) (hpl : (backTo pos' (starEach [] X.env)).any (·.1) = false := by rfl)
    (hs : swapsWith (.Call (.Attribute (.Name x p) "append" apos) [e] [] pos') none pos.line X.env = pure false := by rfl)
    (hb : attributeBase (.Name x p) "append" X.env (eval (.Name x p) X.env) = eval (.Name x p) X.env := by rfl) (hl : (apos.endLine == pos'.line) = true := by rfl)
    (hfew : ((backTo pos' (starEach (e :: []) X.env)).all (fun x => !x.1) && (backToKw pos' (keywordEach [] X.env)).all (fun x => x.1.isSome)
      && decide ((e :: []).length + ([] : List Keyword).length + (if ([] : List Keyword).isEmpty then 0 else 1) < 30)) = true := by rfl) :
    SJ X EX (.Expr (.Call (.Attribute (.Name x p) "append" apos) [e] [] pos') pos) (fApp i u) := by
  obtain ⟨t, pe, kk⟩ := he.ex
  have q1 : PE X (.Name x p) (tVar i) := pe_var hN hv hd hcd
  refine ⟨⟨_, ps_expr (pe_bm PySem.F.plainAttrs_list PySem.F.slot_list_append PySem.F.type_list_append mt_append q1 (pa_cons pe pa_nil hst) hb hfew hl hst hpl) hs, fun B H0 O env σ H D R q => ?_⟩⟩
  unfold fApp at q
  split at q
  · rename_i l hl
    obtain ⟨a, us, h1, h2, h3, h4⟩ := own_lst R hl
    refine ⟨_, h2, tyL h3, kk B H0 O env σ H _ R ((sOf_post R q).mono (fun _ _ x => x) fun r q v H1 s r1 => ?_)⟩
    split at q
    · rename_i c
      refine ⟨a, us, v, rfl, rfl, s _ _ h3, by rw [← h4.1]; exact c.2, ?_⟩
      have R1 := R.mono s
      obtain ⟨R2, k2⟩ := R1.change (d' := .lst (l ++ [r.d])) (ho' := .lst (us ++ [v])) hl h1 (.lst ((h4.same s).append (.one (r1.rp R c.1))))
      exact q O σ _ R2 ((Same.keepB s).trans k2)
    · exact q.elim
  · exact q.elim
theorem sj_ext (i : Nat) (he : EJ X EX e u) (hN : X.N[i]? = some x := by rfl) (hv : Vis X.env.scope x := by first | exact Or.inl rfl | exact Or.inr (Or.inl rfl) | exact Or.inr (Or.inr rfl)) (hd : (x == ("__debug__" : Str)) = false := by decide) (hcd : (x == ("__classdict__" : Str)) = false := by decide)
    (hst : starEach (e :: []) X.env = (false, eval e X.env) :: starEach [] X.env := by rfl) (hpl : (backTo pos' (starEach [] X.env)).any (·.1) = false := by rfl)
    (hs : swapsWith (.Call (.Attribute (.Name x p) "extend" apos) [e] [] pos') none pos.line X.env = pure false := by rfl)
    (hb : attributeBase (.Name x p) "extend" X.env (eval (.Name x p) X.env) = eval (.Name x p) X.env := by rfl) (hl : (apos.endLine == pos'.line) = true := by rfl)
    (hfew : ((backTo pos' (starEach (e :: []) X.env)).all (fun x => !x.1) && (backToKw pos' (keywordEach [] X.env)).all (fun x => x.1.isSome)
      && decide ((e :: []).length + ([] : List Keyword).length + (if ([] : List Keyword).isEmpty then 0 else 1) < 30)) = true := by rfl) :
    SJ X EX (.Expr (.Call (.Attribute (.Name x p) "extend" apos) [e] [] pos') pos) (fExt i u) := by
  obtain ⟨t, pe, kk⟩ := he.ex
  have q1 : PE X (.Name x p) (tVar i) := pe_var hN hv hd hcd
  refine ⟨⟨_, ps_expr (pe_bm PySem.F.plainAttrs_list PySem.F.slot_list_extend PySem.F.type_list_extend mt_extend q1 (pa_cons pe pa_nil hst) hb hfew hl hst hpl) hs, fun B H0 O env σ H D R q => ?_⟩⟩
  unfold fExt at q
  split at q
  · rename_i l hl
    obtain ⟨a, us, h1, h2, h3, h4⟩ := own_lst R hl
    refine ⟨_, h2, tyL h3, kk B H0 O env σ H _ R ((sOf_post R q).mono (fun _ _ x => x) fun r q v H1 s r1 => ?_)⟩
    split at q
    · rename_i m em
      split at q
      · rename_i c
        obtain ⟨b, ws, e1, e2, e3⟩ := r1.lst em
        refine ⟨a, b, us, ws, rfl, by rw [e1], s _ _ h3, e2, by rw [← h4.1, ← e3.1]; exact c, ?_⟩
        have R1 := R.mono s
        obtain ⟨R2, k2⟩ := R1.change (d' := .lst (l ++ m)) (ho' := .lst (us ++ ws)) hl h1 (.lst ((h4.same s).append e3))
        exact q O σ _ R2 ((Same.keepB s).trans k2)
      · exact q.elim
    · exact q.elim
  · exact q.elim
theorem sj_put (i : Nat) (he : EJ X EX e u) (hk : EJ X EX c k) (hN : X.N[i]? = some x := by rfl) (hv : Vis X.env.scope x := by first | exact Or.inl rfl | exact Or.inr (Or.inl rfl) | exact Or.inr (Or.inr rfl)) (hd : (x == ("__debug__" : Str)) = false := by decide) (hcd : (x == ("__classdict__" : Str)) = false := by decide)
    (hs : swapsWithSole [.Subscript (.Name x p) c apos] e pos.line X.env = pure false := by rfl) (hw : swappedStores [.Subscript (.Name x p) c apos] e X.env = pure none := by rfl)
    (h1 : (assignEach [.Subscript (.Name x p) c apos] X.env).map (·.2) = [assign (.Subscript (.Name x p) c apos) X.env] := by rfl)
    (ha : ∀ v, assign (.Subscript (.Name x p) c apos) X.env v = (do
      let ov ← holding [v] (eval (.Name x p) X.env)
      let iv ← holding [v, ov] (eval c X.env)
      standAt apos
      holding [v, ov, iv] (setItem ov iv v)
      release [v, ov, iv] []) := by intro _; rfl) :
    SJ X EX (.Assign [.Subscript (.Name x p) c apos] e pos) (fPut i u k) := by
  obtain ⟨t, pe, kk⟩ := he.ex
  obtain ⟨t2, pe2, kk2⟩ := hk.ex
  have q1 : PE X (.Name x p) (tVar i) := pe_var hN hv hd hcd
  refine ⟨⟨_, ps_asg pe (pg_sub q1 pe2 set_list ha) hs hw h1, fun B H0 O env σ H D R q => ?_⟩⟩
  refine kk B H0 O env σ H _ R ((sOf_post R q).mono (fun _ _ x => x) fun r q v H1 s r1 => ?_)
  split at q
  · rename_i l hl
    have R1 := R.mono s
    obtain ⟨a, us, h1, h2, h3, h4⟩ := own_lst R1 hl
    refine ⟨_, h2, ?_⟩
    refine kk2 B H0 O env σ H1 _ R1 ((sOf_post R1 ((show SPost X EX B H0 O H D _ from q).up (Same.keepB s))).mono (fun _ _ x => x) fun y q2 w H2 s2 r2 => ?_)
    split at q2
    · rename_i j ej
      split at q2
      · rename_i m em
        split at q2
        · rename_i c
          refine ⟨a, us, j, m, rfl, r2.int ej, s2 _ _ h3, by rw [← h4.1]; exact em, ?_⟩
          have R2 := R1.mono s2
          obtain ⟨R3, k3⟩ := R2.change (d' := .lst (l.set m r.d)) (ho' := .lst (us.set m v)) hl h1 (.lst ((h4.same s2).set ((r1.mono s2).rp R c) m))
          exact q2 O σ _ R3 ((Same.keepB s2).trans k3)
        · exact q2.elim
      · exact q2.elim
    · exact q2.elim
  · exact q.elim
theorem sj_pop (i : Nat) (hN : X.N[i]? = some x := by rfl) (hv : Vis X.env.scope x := by first | exact Or.inl rfl | exact Or.inr (Or.inl rfl) | exact Or.inr (Or.inr rfl)) (hd : (x == ("__debug__" : Str)) = false := by decide) (hcd : (x == ("__classdict__" : Str)) = false := by decide)
    (hs : swapsWith (.Call (.Attribute (.Name x p) "pop" apos) [] [] pos') none pos.line X.env = pure false := by rfl)
    (hb : attributeBase (.Name x p) "pop" X.env (eval (.Name x p) X.env) = eval (.Name x p) X.env := by rfl) (hl : (apos.endLine == pos'.line) = true := by rfl) :
    SJ X EX (.Expr (.Call (.Attribute (.Name x p) "pop" apos) [] [] pos') pos) (fPop i) := by
  have q1 : PE X (.Name x p) (tVar i) := pe_var hN hv hd hcd
  refine ⟨⟨_, ps_expr (pe_bm0 PySem.F.plainAttrs_list PySem.F.slot_list_pop PySem.F.type_list_pop mt_pop q1 hb hl) hs, fun B H0 O env σ H D R q => ?_⟩⟩
  unfold fPop at q
  split at q
  · rename_i l hl
    obtain ⟨a, us, h1, h2, h3, h4⟩ := own_lst R hl
    split at q
    · exact q.elim
    · rename_i t ts
      have hlen : us.length - 1 < us.length := by
        have := h4.1
        simp at this
        omega
      refine ⟨_, h2, tyL h3, a, us, us[us.length - 1], rfl, rfl, h3, List.getElem?_eq_getElem hlen, ?_⟩
      obtain ⟨R2, k2⟩ := R.change (d' := .lst (t :: ts).dropLast) (ho' := .lst us.dropLast) hl h1 (.lst h4.dropLast)
      exact q O σ _ R2 k2
  · exact q.elim
theorem sj_clr (i : Nat) (hN : X.N[i]? = some x := by rfl) (hv : Vis X.env.scope x := by first | exact Or.inl rfl | exact Or.inr (Or.inl rfl) | exact Or.inr (Or.inr rfl)) (hd : (x == ("__debug__" : Str)) = false := by decide) (hcd : (x == ("__classdict__" : Str)) = false := by decide)
    (hs : swapsWith (.Call (.Attribute (.Name x p) "clear" apos) [] [] pos') none pos.line X.env = pure false := by rfl)
    (hb : attributeBase (.Name x p) "clear" X.env (eval (.Name x p) X.env) = eval (.Name x p) X.env := by rfl) (hl : (apos.endLine == pos'.line) = true := by rfl) :
    SJ X EX (.Expr (.Call (.Attribute (.Name x p) "clear" apos) [] [] pos') pos) (fClr i) := by
  have q1 : PE X (.Name x p) (tVar i) := pe_var hN hv hd hcd
  refine ⟨⟨_, ps_expr (pe_bm0 PySem.F.plainAttrs_list PySem.F.slot_list_clear PySem.F.type_list_clear mt_clear q1 hb hl) hs, fun B H0 O env σ H D R q => ?_⟩⟩
  unfold fClr at q
  split at q
  · rename_i l hl
    obtain ⟨a, us, h1, h2, h3, h4⟩ := own_lst R hl
    refine ⟨_, h2, tyL h3, a, us, rfl, rfl, h3, ?_⟩
    obtain ⟨R2, k2⟩ := R.change (d' := .lst []) (ho' := .lst []) hl h1 (.lst .nil)
    exact q O σ _ R2 k2
  · exact q.elim
theorem ixN_seq' {n : Nat} {i : Int} {j : Nat} (h : ixN n i = some j) : seqIndex? i n = some j := (ixN_seq h).1
theorem sj_popTo (j i : Nat) (hk : EJ X EX c k) (hnd : X.N.Nodup) (hN : X.N[i]? = some x := by rfl) (hv : Vis X.env.scope x := by first | exact Or.inl rfl | exact Or.inr (Or.inl rfl) | exact Or.inr (Or.inr rfl)) (hd : (x == ("__debug__" : Str)) = false := by decide) (hcd : (x == ("__classdict__" : Str)) = false := by decide)
    (hi : X.N[j]? = some y := by rfl) (hx : Loc X.env.scope y := by first | exact Or.inl rfl | exact Or.inr rfl)
    (hst : starEach (c :: []) X.env = (false, eval c X.env) :: starEach [] X.env := by rfl) (hpl : (backTo pos' (starEach [] X.env)).any (·.1) = false := by rfl)
    (hs : swapsWith (.Call (.Attribute (.Name x p) "pop" apos) [c] [] pos') (some (.Name y p2)) pos.line X.env = pure false := by rfl)
    (hf : X.fn y = true ∨ X.env.scope.names.lookup y = some .local := by first | exact .inl rfl | exact .inr rfl)
    (hb : attributeBase (.Name x p) "pop" X.env (eval (.Name x p) X.env) = eval (.Name x p) X.env := by rfl) (hl : (apos.endLine == pos'.line) = true := by rfl)
    (hfew : ((backTo pos' (starEach (c :: []) X.env)).all (fun x => !x.1) && (backToKw pos' (keywordEach [] X.env)).all (fun x => x.1.isSome)
      && decide ((c :: []).length + ([] : List Keyword).length + (if ([] : List Keyword).isEmpty then 0 else 1) < 30)) = true := by rfl) :
    SJ X EX (.Assign [.Name y p2] (.Call (.Attribute (.Name x p) "pop" apos) [c] [] pos') pos) (fPopTo j i k) := by
  obtain ⟨t, pe, kk⟩ := hk.ex
  have q1 : PE X (.Name x p) (tVar i) := pe_var hN hv hd hcd
  refine ⟨⟨_, ps_set hnd hi hx (pe_bm PySem.F.plainAttrs_list PySem.F.slot_list_pop PySem.F.type_list_pop mt_popAt q1 (pa_cons pe pa_nil hst) hb hfew hl hst hpl) hs hf, fun B H0 O env σ H D R q => ?_⟩⟩
  unfold fPopTo at q
  split at q
  · rename_i l hl
    obtain ⟨a, us, h1, h2, h3, h4⟩ := own_lst R hl
    refine ⟨_, h2, tyL h3, kk B H0 O env σ H _ R ((sOf_post R q).mono (fun _ _ x => x) fun r q v H1 s r1 => ?_)⟩
    split at q
    · rename_i n en
      split at q
      · rename_i m em
        split at q
        · rename_i tt et
          split at q
          · rename_i cc
            have R1 := R.mono s
            have h4' := h4.same s
            obtain ⟨w, e1, e2⟩ := h4'.get et
            refine ⟨a, us, n, m, w, rfl, by rw [r1.int en], s _ _ h3, cc.1, cc.2, by rw [← h4.1]; exact ixN_seq' em, e1, ?_⟩
            obtain ⟨R2, k2⟩ := R1.change (d' := .lst (l.eraseIdx m)) (ho' := .lst (us.eraseIdx m)) hl h1 (.lst (h4'.eraseIdx m))
            obtain ⟨O', R3, k3, _⟩ := R2.store (r := .sh tt) (Same.refl _) (show Rp _ _ _ tt w from e2.keep k2) rfl j
            exact q O' _ _ R3 (((Same.keepB s).trans k2).trans k3)
          · exact q.elim
        · exact q.elim
      · exact q.elim
    · exact q.elim
  · exact q.elim
end
end Tr
namespace Tr
open PySem L2

/-! ### targets -/
/-- only the slots is may differ -/
def Wp (is : List Nat) (O O' : Ow) (σ σ' : L2.St) : Prop := (∀ vs, (∀ i ∈ is, i ∈ vs) → wipe σ' vs = wipe σ vs) ∧ ∀ j, j ∉ is → O'[j]? = O[j]?
theorem wipe_get : ∀ (vs : List Nat) (σ : L2.St) (j : Nat), (wipe σ vs)[j]? = if j ∈ vs ∧ j < σ.length then some none else σ[j]?
  | [], σ, j => by simp [wipe]
  | v :: vs, σ, j => by
    show ((wipe σ vs).set v none)[j]? = _
    rw [List.getElem?_set, wipe_length, wipe_get vs σ j]
    by_cases e : v = j
    · subst e
      by_cases q : v < σ.length
      · simp [q]
      · have z : σ[v]? = none := List.getElem?_eq_none (by omega)
        simp [q, z]
    · have e' : ¬ j = v := fun q => e q.symm
      simp [e, e']
theorem Wp.refl {is : List Nat} {O : Ow} {σ : L2.St} : Wp is O O σ σ := ⟨fun _ _ => rfl, fun _ _ => rfl⟩
theorem Wp.trans {is is' : List Nat} {O O1 O2 : Ow} {σ σ1 σ2 : L2.St} (a : Wp is O O1 σ σ1) (b : Wp is' O1 O2 σ1 σ2) : Wp (is ++ is') O O2 σ σ2 := ⟨fun vs h =>
  (b.1 vs fun i m => h i (List.mem_append_right _ m)).trans (a.1 vs fun i m => h i (List.mem_append_left _ m)), fun j h => by
    rw [List.mem_append] at h
    exact (b.2 j fun z => h (.inr z)).trans (a.2 j fun z => h (.inl z))⟩
theorem Wp.set {i : Nat} {O O' : Ow} {σ : L2.St} {v : Option V} (hO : ∀ j, j ≠ i → O'[j]? = O[j]?) : Wp [i] O O' σ (σ.set i v) := ⟨fun vs h => by
  have hi : i ∈ vs := h i (by simp)
  apply List.ext_getElem?
  intro j
  rw [wipe_get, wipe_get, List.length_set, List.getElem?_set]
  by_cases e : i = j
  · subst e
    by_cases q : i < σ.length
    · simp [hi, q]
    · have z : σ[i]? = none := List.getElem?_eq_none (by omega)
      simp [q, z]
  · simp [e], fun j h => hO j fun q => h (by simp [q])⟩
structure GJ (X : Cx) (tg : Expr) (is : List Nat) (g : T → En → Option En) : Prop where
  ex : ∃ t : TG, PG X tg t ∧ ∀ B H0 O env σ H v d (Q : L2.St → Hp → Prop), Rel X.K B H0 O env σ H → Rp X.K H (Ex B O) d v →
    (match g d env with
      | some env' => ∀ O' σ', Rel X.K B H0 O' env' σ' H → Keep (Ex B O) H (Ex B O') H → Wp is O O' σ σ' → Q σ' H
      | none => False) → t v σ H Q
structure GsJ (X : Cx) (tg : List Expr) (is : List Nat) (g : List T → En → Option En) : Prop where
  ex : ∃ t : TGs, PGs X tg t ∧ ∀ B H0 O env σ H vs ds (Q : L2.St → Hp → Prop), Rel X.K B H0 O env σ H → RpAll X.K H (Ex B O) ds vs →
    (match g ds env with
      | some env' => ∀ O' σ', Rel X.K B H0 O' env' σ' H → Keep (Ex B O) H (Ex B O') H → Wp is O O' σ σ' → Q σ' H
      | none => False) → t vs σ H Q
@[simp] def gN (i : Nat) (d : T) (env : En) : Option En := some (env.set i (.fz d))
@[simp] def gsN (ds : List T) (env : En) : Option En := match ds with
  | [] => some env
  | _ => none
def gsC (g : T → En → Option En) (gs : List T → En → Option En) (ds : List T) (env : En) : Option En := match ds with
  | d :: r => (match g d env with
    | some e => gs r e
    | none => none)
  | [] => none
def gT (n : Nat) (gs : List T → En → Option En) (d : T) (env : En) : Option En := match d with
  | .tup l => if l.length = n then gs l env else none
  | _ => none
section
variable {X : Cx} {e : Expr} {es : List Expr} {g : T → En → Option En} {gs : List T → En → Option En} {pos : Pos} {x : Str} {n : Nat}
theorem gj_name (i : Nat) (hN : X.N.Nodup) (hi : X.N[i]? = some x := by rfl) (hx : Loc X.env.scope x := by first | exact Or.inl rfl | exact Or.inr rfl) (hf : X.fn x = true ∨ X.env.scope.names.lookup x = some .local := by first | exact .inl rfl | exact .inr rfl) :
    GJ X (.Name x pos) [i] (gN i) := by
  refine ⟨⟨_, pg_name hN hi hx hf, fun B H0 O env σ H v d Q R r p => ?_⟩⟩
  obtain ⟨O', R', k, hO⟩ := R.store (r := .sh d) (Same.refl H) r rfl i
  exact p O' _ R' k (Wp.set hO)
theorem gsj_nil : GsJ X [] [] gsN := ⟨⟨_, pgs_nil, fun B H0 O env σ H vs ds Q R r p => by
  unfold gsN at p
  cases ds with
  | nil =>
    have : vs = [] := by have := r.1; cases vs <;> simp at this ⊢
    exact ⟨this, p O σ R Keep.refl Wp.refl⟩
  | cons _ _ => exact p.elim⟩⟩
theorem gsj_cons {is js : List Nat} (h : GJ X e is g) (k : GsJ X es js gs) (hs : (assignEach (e :: es) X.env).map (·.2) = assign e X.env :: (assignEach es X.env).map (·.2) := by rfl) : GsJ X (e :: es) (is ++ js) (gsC g gs) := by
  obtain ⟨t, pg, i⟩ := h.ex
  obtain ⟨t', pg', i'⟩ := k.ex
  refine ⟨⟨_, pgs_cons pg pg' hs, fun B H0 O env σ H vs ds Q R r p => ?_⟩⟩
  unfold gsC at p
  cases ds with
  | nil => exact p.elim
  | cons d ds =>
    cases vs with
    | nil => have := r.1; simp at this
    | cons v vs =>
      refine ⟨v, vs, rfl, i B H0 O env σ H v d _ R r.head ?_⟩
      simp only at p
      cases q : g d env with
      | none => rw [q] at p; exact p.elim
      | some e' =>
        rw [q] at p
        exact fun O' σ' R' k' w' => i' B H0 O' e' σ' H vs ds Q R' (r.tail.keep k') (by
          simp only at p
          cases q2 : gs ds e' with
          | none => rw [q2] at p; exact p.elim
          | some e'' =>
            rw [q2] at p
            exact fun O2 σ2 R2 k2 w2 => p O2 σ2 R2 (k'.trans k2) (w'.trans w2))
theorem gj_tup {k : Nat} {is : List Nat} (hc : X.calm = true) (h : GsJ X es is gs) (hn : (assignEach es X.env).length = n := by rfl) (hst : (assignEach es X.env).findIdx? (·.1) = none := by rfl) : GJ X (.Tuple es k pos) is (gT n gs) := by
  obtain ⟨t, pg, i⟩ := h.ex
  refine ⟨⟨_, pg_tup hc pg hn hst, fun B H0 O env σ H v d Q R r p => ?_⟩⟩
  unfold gT at p
  cases d with
  | tup l =>
    cases r with
    | tup h1 h2 h3 h4 =>
      simp only at p
      by_cases c : l.length = n
      · rw [if_pos c] at p
        exact ⟨_, _, rfl, SqT.of h1, by rw [← h3]; exact c, i B H0 O env σ H _ l Q R ⟨h3, h4⟩ p⟩
      · rw [if_neg c] at p; exact p.elim
  | _ => exact p.elim
end
/-- (a, b, ..) = e -/
def fUnp (g : T → En → Option En) (f : En → Res R) (env : En) : Out := sOf f (fun r env => if r.kp = true then (match g r.d env with
  | some e => .nx e
  | none => .bad) else .bad) env
section
variable {X : Cx} {EX : L2.St → XK} {tg e : Expr} {g : T → En → Option En} {u : En → Res R} {pos : Pos}
theorem sj_unp {is : List Nat} (he : EJ X EX e u) (hg : GJ X tg is g) (hs : swapsWithSole [tg] e pos.line X.env = pure false := by rfl) (hw : swappedStores [tg] e X.env = pure none := by rfl)
    (h1 : (assignEach [tg] X.env).map (·.2) = [assign tg X.env] := by rfl) : SJ X EX (.Assign [tg] e pos) (fUnp g u) := by
  obtain ⟨t, pe, k⟩ := he.ex
  obtain ⟨t', pg, i⟩ := hg.ex
  refine ⟨⟨_, ps_asg pe pg hs hw h1, fun B H0 O env σ H D R p => ?_⟩⟩
  refine k B H0 O env σ H _ R ((sOf_post R p).mono (fun _ _ x => x) fun r q v H1 s r1 => ?_)
  split at q
  · rename_i c
    refine i B H0 O env σ H1 v r.d _ (R.mono s) (r1.rp R c) ?_
    cases q2 : g r.d env with
    | none => rw [q2] at q; exact q.elim
    | some e' =>
      rw [q2] at q
      exact fun O' σ' R' k' _ => q O' σ' H1 R' ((Same.keepB s).trans k')
  · exact q.elim
end

/-! ### what is walked -/
/-- J walks through ts, from the heap H1 on, whatever is done to what is at X -/
def Wk (K : PySem.W.Frag) (J : It) (Y : Xs) (L H1 : Hp) (ts : List T) : Prop := ∀ (i : Nat) (H : Hp) (Y' : Xs), Keep Y H1 Y' H → Same L H → (∀ a, Y' a → ∃ o, H a = some o) →
  (i < ts.length → J.go i H ∧ ∀ x H', J.yld i H x H' → Same H H' ∧ ∀ t, ts[i]? = some t → Rp K H' Y' t x) ∧ (ts.length ≤ i → J.stop i H)
structure FJ (X : Cx) (EX : L2.St → XK) (tg iter : Expr) (f : En → Res (List T)) : Prop where
  ex : ∃ wi : TI, PI X tg iter wi ∧ ∀ B H0 O env σ H (Q : It → Hp → Prop), Rel X.K B H0 O env σ H →
    Post (XC X.K B O EX σ H) (fun ts => ∀ J H', Same H H' → Wk X.K J (Ex B O) B.h H' ts → Q J H') (f env) → wi σ H Q
/-- a value that may be walked -/
def R.wk : R → Bool
  | .bo _ _ => false
  | _ => true
def itsR (r : R) : Res (List T) := if r.wk = true then (match r.d.its with
  | some l => .ok l
  | none => .bad) else .bad
def iL (f : En → Res R) (env : En) : Res (List T) := (f env).bind itsR
def rngT (lo : Int) (n : Nat) : List T := (List.range n).map fun i => T.int (lo + (i : Nat))
def rOk (i : Int) : Prop := -(2 ^ 62) ≤ i ∧ i < 2 ^ 62
instance (i : Int) : Decidable (rOk i) := by unfold rOk; infer_instance
def i1R (r : R) : Res (List T) := match r.d with
  | .int j => if rOk j then .ok (rngT 0 j.toNat) else .bad
  | _ => .bad
def i2R (r r' : R) : Res (List T) := match r.d, r'.d with
  | .int i, .int j => if rOk i ∧ rOk j then .ok (rngT i (j - i).toNat) else .bad
  | _, _ => .bad
@[simp] def iR1 (f : En → Res R) (env : En) : Res (List T) := (f env).bind i1R
@[simp] def iR2 (f g : En → Res R) (env : En) : Res (List T) := (f env).bind fun x => (g env).bind fun y => i2R x y
def enumT (k : Nat) : List T → List T
  | [] => []
  | t :: l => .tup [.int k, t] :: enumT (k + 1) l
def iE (f : En → Res R) (env : En) : Res (List T) := (f env).bind fun r => (itsR r).bind fun l => .ok (enumT 0 l)
def zipT (l m : List T) : List T := List.zipWith (fun a b => T.tup [a, b]) l m
def iZ (f g : En → Res R) (env : En) : Res (List T) := (f env).bind fun r => (g env).bind fun r' => (itsR r).bind fun l => (itsR r').bind fun m => .ok (zipT l m)
def iRv (f : En → Res R) (env : En) : Res (List T) := (f env).bind fun r => (itsR r).bind fun l => .ok l.reverse
def iS (f : En → Res R) (env : En) : Res (List T) := (f env).bind fun r => match r.d with
  | .str x => .ok (x.cps.toList.map fun c => T.str ⟨#[c]⟩)
  | _ => .bad
section
variable {X : Cx} {EX : L2.St → XK} {tg e e2 : Expr} {f g : En → Res R} {p pos tpos : Pos} {K : PySem.W.Frag} {H H1 L : Hp} {Y Y' : Xs}
theorem seq_keep {d : T} {v : V} {ts : List T} (h : Rp K H Y d v) (e : d.its = some ts) : ∃ a us, v = .ref a ∧ RpAll K H Y ts us ∧ ∀ H' Y', Keep Y H Y' H' → SqL K H' a us := by
  cases d with
  | lst l =>
    cases e
    cases h with
    | lst h1 n hl hs => exact ⟨_, _, rfl, ⟨hl, hs⟩, fun H' Y' k => SqL.of (k.k _ _ h1 n).1⟩
  | scr ns =>
    cases e
    cases h with
    | scr hq =>
      refine ⟨_, _, rfl, .ints, fun H' Y' k => ?_⟩
      rcases hq with ⟨h, n⟩ | h
      · exact .inl (Rd.keep k h n).1
      · exact .inr h
  | _ => cases e
theorem itsR_ok {B : Bs} {O : Ow} {H0 Hs : Hp} {env : En} {σ : L2.St} {r : R} {v : V} {C : Type} {xc : Addr → Option T → Prop} {okp : C → Prop} {k : List T → Res C} (R0 : Rel K B H0 O env σ Hs) (h : RR K B O Hs H r v) (p : Post xc okp ((itsR r).bind k)) :
    ∃ ts, Post xc okp (k ts) ∧ ∃ a us, v = .ref a ∧ RpAll K H (Ex B O) ts us ∧ ∀ H' Y', Keep (Ex B O) H Y' H' → Same B.h H' → SqL K H' a us := by
  unfold itsR at p
  split at p
  · rename_i c
    split at p
    · rename_i l e
      refine ⟨l, p, ?_⟩
      have go : r.kp = true → ∃ a us, v = .ref a ∧ RpAll K H (Ex B O) l us ∧ ∀ H' Y', Keep (Ex B O) H Y' H' → Same B.h H' → SqL K H' a us := fun c => by
        obtain ⟨a, us, z1, z2, z3⟩ := seq_keep (h.rp R0 c) e
        exact ⟨a, us, z1, z2, fun H' Y' k _ => z3 H' Y' k⟩
      cases r with
      | sh d => exact go rfl
      | fr d => exact go rfl
      | bo i d => cases c
      | vw d =>
        obtain ⟨a, ho, z1, z2, z3, z4⟩ := h
        cases z4 with
        | lst ra =>
          cases e
          exact ⟨a, _, z2, ra, fun H' Y' _ sl => SqL.of (sl _ _ z1)⟩
        | _ => cases e
    · exact p.elim
  · exact p.elim
theorem wk_list {a : Addr} {us : List V} {ts : List T} (r : RpAll K H1 Y ts us) (sq : ∀ H' Y', Keep Y H1 Y' H' → Same L H' → SqL K H' a us) : Wk K (Itl K a) Y L H1 ts := fun i H Y' k sl th => by
  have q := sq H Y' k sl
  refine ⟨fun hi => ?_, fun hi => ⟨us, q, by rw [← r.1]; exact hi⟩⟩
  have hj : i < us.length := by rw [← r.1]; exact hi
  refine ⟨⟨us, us[i], q, List.getElem?_eq_getElem hj⟩, fun x H' y => ?_⟩
  obtain ⟨e, y⟩ := y
  subst e
  exact ⟨Same.refl _, fun t et => (r.2 i t x et (y us q)).keep k⟩
theorem fj_list (he : EJ X EX e f) : FJ X EX tg e (iL f) := by
  obtain ⟨t, pe, i⟩ := he.ex
  refine ⟨⟨_, pi_list pe, fun B H0 O env σ H Q R p => ?_⟩⟩
  refine i B H0 O env σ H _ R (p.bind.mono (fun _ _ x => x) fun r q v H1 s r1 => ?_)
  obtain ⟨ts, q', a, us, ev, ra, sq⟩ := itsR_ok (k := fun l => .ok l) R r1 (by cases h : itsR r <;> rw [h] at q <;> exact q)
  exact ⟨a, ev, ⟨us, sq H1 _ Keep.refl (R.lent.trans (R.same.trans s))⟩, q' _ H1 s (wk_list ra sq)⟩
theorem rng_get {lo : Int} {n i : Nat} {t : T} (h : (rngT lo n)[i]? = some t) : t = .int (lo + (i : Nat)) := by
  unfold rngT at h
  rw [List.getElem?_map] at h
  cases q : (List.range n)[i]? with
  | none => rw [q] at h; cases h
  | some j =>
    rw [q] at h
    have := List.getElem?_eq_some_iff.mp q
    obtain ⟨hj, e⟩ := this
    rw [List.getElem_range] at e
    subst e
    exact (Option.some.inj h).symm
theorem rng_len {lo : Int} {n : Nat} : (rngT lo n).length = n := by simp [rngT]
theorem wk_rng {lo : Int} {n : Nat} : Wk K (Itr lo n) Y L H1 (rngT lo n) := fun i H Y' k sl th => by
  rw [rng_len]
  refine ⟨fun hi => ⟨hi, fun x H' y => ?_⟩, fun hi => hi⟩
  obtain ⟨e, y⟩ := y
  subst e y
  exact ⟨Same.refl _, fun t et => by rw [rng_get et]; exact .int _⟩
theorem fj_range1 (hg : Gl X "range") (hm : X.mg "range" = none) (ha : EJ X EX e f) (hs : starEach [e] X.env = [(false, eval e X.env)] := by rfl) : FJ X EX tg (.Call (.Name "range" p) [e] [] pos) (iR1 f) := by
  obtain ⟨t, pe, i⟩ := ha.ex
  refine ⟨⟨_, pi_range1 hg hm (pa_cons pe pa_nil hs) hs, fun B H0 O env σ H Q R p => ?_⟩⟩
  refine i B H0 O env σ H _ R (p.bind.mono (fun _ _ x => x) fun r q v H1 s r1 => ?_)
  unfold i1R at q
  split at q
  · rename_i j ej
    split at q
    · rename_i c
      exact ⟨j, by rw [r1.int ej], c.1, c.2, q _ H1 s wk_rng⟩
    · exact q.elim
  · exact q.elim
theorem fj_range2 (hg : Gl X "range") (hm : X.mg "range" = none) (ha : EJ X EX e f) (hb : EJ X EX e2 g) (hs : starEach [e, e2] X.env = [(false, eval e X.env), (false, eval e2 X.env)] := by rfl) (hs2 : starEach [e2] X.env = [(false, eval e2 X.env)] := by rfl) :
    FJ X EX tg (.Call (.Name "range" p) [e, e2] [] pos) (iR2 f g) := by
  obtain ⟨t, pe, i⟩ := ha.ex
  obtain ⟨t', pe', i'⟩ := hb.ex
  refine ⟨⟨_, pi_range2 hg hm (pa_cons pe (pa_cons pe' pa_nil hs2) (by rw [hs, hs2])) hs hs2, fun B H0 O env σ H Q R p => ?_⟩⟩
  refine i B H0 O env σ H _ R (p.bind.mono (fun _ _ x => x) fun r q v H1 s r1 => ?_)
  refine i' B H0 O env σ H1 _ (R.mono s) ((q.bind.up s).mono (fun _ _ x => x) fun r' q2 w H2 s2 r2 => ?_)
  unfold i2R at q2
  split at q2
  · rename_i a b ea eb
    split at q2
    · rename_i c
      exact ⟨a, b, by rw [r1.int ea, r2.int eb], ⟨c.1.1, c.1.2, c.2.1, c.2.2⟩, q2 _ H2 (s.trans s2) wk_rng⟩
    · exact q2.elim
  · exact q2.elim
theorem enum_len : ∀ {l : List T} {k : Nat}, (enumT k l).length = l.length
  | [], _ => rfl
  | _ :: l, k => by simp [enumT, enum_len (l := l)]
theorem enum_get : ∀ {l : List T} {k i : Nat} {t : T}, (enumT k l)[i]? = some t → ∃ d, l[i]? = some d ∧ t = .tup [.int ((k + i : Nat) : Int), d]
  | [], _, _, _, h => by simp [enumT] at h
  | a :: l, k, 0, t, h => by
    simp [enumT] at h
    exact ⟨a, rfl, by rw [← h] <;> rfl⟩
  | a :: l, k, i + 1, t, h => by
    simp only [enumT, List.getElem?_cons_succ] at h
    obtain ⟨d, h1, h2⟩ := enum_get h
    exact ⟨d, by simpa using h1, by rw [h2]; congr 3; omega⟩
theorem rp_pair {K : PySem.W.Frag} {H : Hp} {Y : Xs} {a b : T} {x y : V} {q : Addr} (th : ∀ a, Y a → ∃ o, H a = some o) (nq : H q = none) (h1 : Rp K H Y a x) (h2 : Rp K H Y b y) : Rp K (upd H q (.tup [x, y])) Y (.tup [a, b]) (.ref q) := by
  have z : RpAll K (upd H q (.tup [x, y])) Y [a, b] [x, y] := (RpAll.cons h1 (.one h2)).same (Same.new nq)
  exact .tup upd_same (fun m => by obtain ⟨o, e⟩ := th q m; rw [nq] at e; cases e) z.1 z.2
theorem wk_enum {a : Addr} {us : List V} {ts : List T} (r : RpAll K H1 Y ts us) (sq : ∀ H' Y', Keep Y H1 Y' H' → Same L H' → SqL K H' a us) : Wk K (Ite K a) Y L H1 (enumT 0 ts) := fun i H Y' k sl th => by
  have q := sq H Y' k sl
  rw [enum_len]
  refine ⟨fun hi => ?_, fun hi => ⟨us, q, by rw [← r.1]; exact hi⟩⟩
  have hj : i < us.length := by rw [← r.1]; exact hi
  refine ⟨⟨us, us[i], q, List.getElem?_eq_getElem hj⟩, fun v H' y => ?_⟩
  obtain ⟨m, x, ev, nm, eH, y⟩ := y
  subst ev
  subst eH
  refine ⟨Same.new nm, fun t et => ?_⟩
  obtain ⟨d, e1, e2⟩ := enum_get et
  rw [e2, Nat.zero_add]
  exact rp_pair th nm (.int _) ((r.2 i d x e1 (y us q)).keep k)
theorem fj_enum {elts : List Expr} {kk : Nat} (hg : Gl X "enumerate") (hm : X.mg "enumerate" = none) (ha : EJ X EX e f) (hs : starEach [e] X.env = [(false, eval e X.env)] := by rfl) :
    FJ X EX (.Tuple elts kk tpos) (.Call (.Name "enumerate" p) [e] [] pos) (iE f) := by
  obtain ⟨t, pe, i⟩ := ha.ex
  refine ⟨⟨_, pi_enum hg hm (pa_cons pe pa_nil hs) hs, fun B H0 O env σ H Q R p => ?_⟩⟩
  refine i B H0 O env σ H _ R (p.bind.mono (fun _ _ x => x) fun r q v H1 s r1 => ?_)
  obtain ⟨ts, q', a, us, ev, ra, sq⟩ := itsR_ok R r1 q
  exact ⟨a, us, by rw [ev], sq H1 _ Keep.refl (R.lent.trans (R.same.trans s)), q' _ H1 s (wk_enum ra sq)⟩
theorem zip_get {l m : List T} {i : Nat} {t : T} (h : (zipT l m)[i]? = some t) : ∃ a b, l[i]? = some a ∧ m[i]? = some b ∧ t = .tup [a, b] := by
  unfold zipT at h
  rw [List.getElem?_zipWith] at h
  cases e1 : l[i]? with
  | none => rw [e1] at h; cases h
  | some a =>
    cases e2 : m[i]? with
    | none => rw [e1, e2] at h; cases h
    | some b =>
      rw [e1, e2] at h
      exact ⟨a, b, rfl, rfl, (Option.some.inj h).symm⟩
theorem wk_zip {a b : Addr} {us ws : List V} {ts ds : List T} (r : RpAll K H1 Y ts us) (sq : ∀ H' Y', Keep Y H1 Y' H' → Same L H' → SqL K H' a us) (r' : RpAll K H1 Y ds ws) (sq' : ∀ H' Y', Keep Y H1 Y' H' → Same L H' → SqL K H' b ws) :
    Wk K (Itz K a b) Y L H1 (zipT ts ds) := fun i H Y' k sl th => by
  have q := sq H Y' k sl
  have q' := sq' H Y' k sl
  have len : (zipT ts ds).length = min ts.length ds.length := by simp [zipT]
  rw [len]
  refine ⟨fun hi => ?_, fun hi => ⟨us, ws, q, q', by rw [← r.1, ← r'.1]; omega⟩⟩
  have hj : i < us.length := by rw [← r.1]; omega
  have hk : i < ws.length := by rw [← r'.1]; omega
  refine ⟨⟨us, ws, us[i], ws[i], q, q', List.getElem?_eq_getElem hj, List.getElem?_eq_getElem hk⟩, fun v H' y => ?_⟩
  obtain ⟨m, x, z, ev, nm, eH, y, y'⟩ := y
  subst ev
  subst eH
  refine ⟨Same.new nm, fun t et => ?_⟩
  obtain ⟨d, d', e1, e2, e3⟩ := zip_get et
  rw [e3]
  exact rp_pair th nm ((r.2 i d x e1 (y us q)).keep k) ((r'.2 i d' z e2 (y' ws q')).keep k)
theorem fj_zip {elts : List Expr} {kk : Nat} (hg : Gl X "zip") (hm : X.mg "zip" = none) (ha : EJ X EX e f) (hb : EJ X EX e2 g) (hs : starEach [e, e2] X.env = (false, eval e X.env) :: starEach [e2] X.env := by rfl) (hs2 : starEach [e2] X.env = [(false, eval e2 X.env)] := by rfl)
    (hpl : (backTo pos (starEach [e2] X.env)).any (·.1) = false := by rfl) : FJ X EX (.Tuple elts kk tpos) (.Call (.Name "zip" p) [e, e2] [] pos) (iZ f g) := by
  obtain ⟨t, pe, i⟩ := ha.ex
  obtain ⟨t', pe', i'⟩ := hb.ex
  refine ⟨⟨_, pi_zip hg hm (pa_cons pe (pa_cons pe' pa_nil hs2) hs) hs hpl, fun B H0 O env σ H Q R p => ?_⟩⟩
  refine i B H0 O env σ H _ R (p.bind.mono (fun _ _ x => x) fun r q v H1 s r1 => ?_)
  refine i' B H0 O env σ H1 _ (R.mono s) ((q.bind.up s).mono (fun _ _ x => x) fun r' q2 w H2 s2 r2 => ?_)
  obtain ⟨ts, q3, a, us, ev, ra, sq⟩ := itsR_ok R (r1.mono s2) q2
  obtain ⟨ds, q4, b, ws, ew, rb, sq'⟩ := itsR_ok (R.mono s) r2 q3
  exact ⟨a, b, us, ws, by rw [ev, ew], sq H2 _ Keep.refl (R.lent.trans (R.same.trans (s.trans s2))), sq' H2 _ Keep.refl (R.lent.trans (R.same.trans (s.trans s2))), q4 _ H2 (s.trans s2) (wk_zip ra sq rb sq')⟩
theorem wk_rev {a : Addr} {us : List V} {ts : List T} (r : RpAll K H1 Y ts us) (sq : ∀ H' Y', Keep Y H1 Y' H' → Same L H' → SqL K H' a us) : Wk K (Itv K a us.length) Y L H1 ts.reverse := fun i H Y' k sl th => by
  have q := sq H Y' k sl
  rw [List.length_reverse]
  refine ⟨fun hi => ?_, fun hi => by rw [← r.1]; exact hi⟩
  have hj : us.length - 1 - i < us.length := by have := r.1; omega
  refine ⟨⟨by rw [← r.1]; exact hi, us, us[us.length - 1 - i], q, List.getElem?_eq_getElem hj⟩, fun x H' y => ?_⟩
  obtain ⟨e, y⟩ := y
  subst e
  refine ⟨Same.refl _, fun t et => ?_⟩
  rw [List.getElem?_reverse hi] at et
  have yy := y us q
  rw [← r.1] at yy
  exact (r.2 _ t x et yy).keep k
theorem fj_rev (hg : Gl X "reversed") (hm : X.mg "reversed" = none) (ha : EJ X EX e f) (hs : starEach [e] X.env = [(false, eval e X.env)] := by rfl) : FJ X EX tg (.Call (.Name "reversed" p) [e] [] pos) (iRv f) := by
  obtain ⟨t, pe, i⟩ := ha.ex
  refine ⟨⟨_, pi_reversed hg hm (pa_cons pe pa_nil hs) hs, fun B H0 O env σ H Q R p => ?_⟩⟩
  refine i B H0 O env σ H _ R (p.bind.mono (fun _ _ x => x) fun r q v H1 s r1 => ?_)
  obtain ⟨ts, q', a, us, ev, ra, sq⟩ := itsR_ok R r1 q
  exact ⟨a, us, by rw [ev], sq H1 _ Keep.refl (R.lent.trans (R.same.trans s)), q' _ H1 s (wk_rev ra sq)⟩
theorem fj_str (ha : EJ X EX e f) : FJ X EX tg e (iS f) := by
  obtain ⟨t, pe, i⟩ := ha.ex
  refine ⟨⟨_, pi_str pe, fun B H0 O env σ H Q R p => ?_⟩⟩
  refine i B H0 O env σ H _ R (p.bind.mono (fun _ _ x => x) fun r q v H1 s r1 => ?_)
  split at q
  · rename_i x ex
    refine ⟨x, r1.str ex, q _ H1 s fun i H Y' k sl th => ?_⟩
    have len : (x.cps.toList.map fun c => T.str ⟨#[c]⟩).length = x.cps.size := by simp
    rw [len]
    refine ⟨fun hi => ⟨hi, fun y H' z => ?_⟩, fun hi => hi⟩
    obtain ⟨e, c, hc, ev⟩ := z
    subst e ev
    refine ⟨Same.refl _, fun t et => ?_⟩
    rw [List.getElem?_map, Array.getElem?_toList, hc] at et
    cases et
    exact .str _ (strOk_of (l := [c]) fun d hd => by
      obtain rfl : d = c := by simpa using hd
      exact strOk_mem (r1.strk ex) (by
        have := Array.mem_of_getElem? hc
        simpa using this))
  · exact q.elim
end

/-! ### for, while -/
def forL (g : T → En → Option En) (b : En → Out) : List T → En → Out
  | [], env => .nx env
  | t :: ts, env => match g t env with
    | none => .bad
    | some e => (b e).loop (forL g b ts)
def fFor (f : En → Res (List T)) (g : T → En → Option En) (b : En → Out) (env : En) : Out := sOf f (fun ts env => forL g b ts env) env
/-- at most n turns -/
def whL (c : En → Res Bool) (b : En → Out) : Nat → En → Out
  | 0, _ => .bad
  | n + 1, env => match c env with
    | .ok true => (b env).loop (whL c b n)
    | .ok false => .nx env
    | .exc k p => .exc env k p
    | .bad => .bad
@[simp] def fWh (m : En → Nat) (c : En → Res Bool) (b : En → Out) (env : En) : Out := whL c b (m env) env
def whN (_ : En) : Nat := 1000000000
theorem whN_eq (env : En) : whN env = 1000000000 := rfl
section
variable {X : Cx} {EX : L2.St → XK} {tg iter c : Expr} {body : List Stmt} {f : En → Res (List T)} {g : T → En → Option En} {b : En → Out} {w : En → Res Bool} {pos : Pos}
theorem sj_for (hp : PassesOwn (model X.prog X.w) X.A X.env X.xe) (hc : X.calm = true) {is : List Nat} (hi : FJ X EX tg iter f) (hg : GJ X tg is g) (hb : SsJ X EX body b) (hs : ∀ x, foldedSetIterable iter X.env x = pure x := by intro _; rfl) : SJ X EX (.For tg iter body [] pos) (fFor f g b) := by
  obtain ⟨wi, pi, i⟩ := hi.ex
  obtain ⟨tg', pg, ig⟩ := hg.ex
  obtain ⟨tb, pb, ib⟩ := hb.ex
  refine ⟨⟨_, ps_for hp hc pi pg pb hs, fun B H0 O env σ H D R p => ?_⟩⟩
  refine i B H0 O env σ H _ R ((sOf_post R p).mono (fun _ _ x => x) fun ts q J H1 s wk => ?_)
  refine ⟨fun n m σ' H' => m = ts.length - n ∧ n ≤ ts.length ∧ ∃ O' env', Rel X.K B H0 O' env' σ' H' ∧ Keep (Ex B O) H1 (Ex B O') H' ∧ SPost X EX B H0 O' H' D (forL g b (ts.drop n) env'),
    ⟨ts.length, by simp, Nat.zero_le _, O, env, R.mono s, Keep.refl, (show SPost X EX B H0 O H D (forL g b ts env) from q).up (Same.keepB s)⟩, ?_⟩
  rintro n m σ' H' ⟨rfl, hn, O', env', R', k', q'⟩
  obtain ⟨w1, w2⟩ := wk n H' _ k' (R'.lent.trans R'.same) fun a z => R'.ex_there z
  by_cases hlt : n < ts.length
  · obtain ⟨go, yl⟩ := w1 hlt
    refine .inr ⟨go, fun σ2 H2 => ∃ O2 env2, Rel X.K B H0 O2 env2 σ2 H2 ∧ Keep (Ex B O) H1 (Ex B O2) H2 ∧ SPost X EX B H0 O2 H2 D (forL g b (ts.drop (n + 1)) env2), fun σ2 H2 z => ?_, fun x H2 y => ?_⟩
    · obtain ⟨O2, env2, R2, k2, q2⟩ := z
      exact ⟨ts.length - (n + 1), by omega, rfl, hlt, O2, env2, R2, k2, q2⟩
    · obtain ⟨s2, rp⟩ := yl x H2 y
      have et : ts[n]? = some ts[n] := List.getElem?_eq_getElem hlt
      have ed : ts.drop n = ts[n] :: ts.drop (n + 1) := List.drop_eq_getElem_cons hlt
      rw [ed] at q'
      unfold forL at q'
      refine ig B H0 O' env' σ' H2 x ts[n] _ (R'.mono s2) (rp _ et) ?_
      cases eg : g ts[n] env' with
      | none => rw [eg] at q'; exact q'.elim
      | some e2 =>
        rw [eg] at q'
        intro O2 σ2 R2 k2 _
        have kk : Keep (Ex B O') H' (Ex B O2) H2 := (Same.keepB s2).trans k2
        refine ib B H0 O2 e2 σ2 H2 _ R2 ?_
        simp only at q'
        cases eb : b e2 with
        | nx e3 =>
          rw [eb] at q'
          exact fun O3 σ3 H3 R3 k3 => ⟨O3, e3, R3, (k'.trans kk).trans k3, SPost.up q' (kk.trans k3)⟩
        | ct e3 =>
          rw [eb] at q'
          exact fun O3 σ3 H3 R3 k3 => ⟨O3, e3, R3, (k'.trans kk).trans k3, SPost.up q' (kk.trans k3)⟩
        | bk e3 =>
          rw [eb] at q'
          exact fun O3 σ3 H3 R3 k3 => q' O3 σ3 H3 R3 (kk.trans k3)
        | rt r => rw [eb] at q'; exact q'
        | exc e3 c' p' =>
          rw [eb] at q'
          exact fun O3 σ3 H3 d a ea R3 k3 x3 => q' O3 σ3 H3 d a ea R3 (kk.trans k3) x3
        | rm r e3 =>
          rw [eb] at q'
          exact SPost.rmD (SPost.up (show SPost X EX B H0 O' H' D (.rm r e3) from q') kk) rfl
        | bad => rw [eb] at q'; exact q'.elim
  · have e : n = ts.length := by omega
    subst e
    rw [List.drop_length] at q'
    exact .inl ⟨w2 (Nat.le_refl _), q' O' σ' H' R' Keep.refl⟩
theorem sj_while (m : En → Nat) (hp : PassesOwn (model X.prog X.w) X.A X.env X.xe) (hc : BJ X EX c w) (hb : SsJ X EX body b) : SJ X EX (.While c body [] pos) (fWh m w b) := by
  obtain ⟨tc, pc, ic⟩ := hc.ex
  obtain ⟨tb, pb, ib⟩ := hb.ex
  refine ⟨⟨_, ps_while hp pc pb, fun B H0 O env σ H D R p => ?_⟩⟩
  refine ⟨fun n σ' H' => ∃ O' env', Rel X.K B H0 O' env' σ' H' ∧ SPost X EX B H0 O' H' D (whL w b n env'), ⟨m env, O, env, R, p⟩, ?_⟩
  rintro n σ' H' ⟨O', env', R', q'⟩
  cases n with
  | zero => exact q'.elim
  | succ n =>
    unfold whL at q'
    refine ic B H0 O' env' σ' H' _ R' ?_
    cases ew : w env' with
    | bad => rw [ew] at q'; exact q'.elim
    | exc k p => rw [ew] at q'; exact fun H2 d a ea s x => q' O' σ' H2 d a ea (R'.mono s) (Same.keepB s) x
    | ok t =>
      rw [ew] at q'
      cases t with
      | false => exact fun H2 s => iteF (q' O' σ' H2 (R'.mono s) (Same.keepB s))
      | true =>
        intro H2 s
        refine iteT ⟨fun σ3 H3 => ∃ O3 env3, Rel X.K B H0 O3 env3 σ3 H3 ∧ SPost X EX B H0 O3 H3 D (whL w b n env3), fun σ3 H3 z => ⟨n, Nat.lt_succ_self n, z⟩, ?_⟩
        refine ib B H0 O' env' σ' H2 _ (R'.mono s) ?_
        simp only at q'
        have kk : Keep (Ex B O') H' (Ex B O') H2 := Same.keepB s
        cases eb : b env' with
        | nx e3 =>
          rw [eb] at q'
          exact fun O3 σ3 H3 R3 k3 => ⟨O3, e3, R3, SPost.up q' (kk.trans k3)⟩
        | ct e3 =>
          rw [eb] at q'
          exact fun O3 σ3 H3 R3 k3 => ⟨O3, e3, R3, SPost.up q' (kk.trans k3)⟩
        | bk e3 =>
          rw [eb] at q'
          exact fun O3 σ3 H3 R3 k3 => q' O3 σ3 H3 R3 (kk.trans k3)
        | rt r => rw [eb] at q'; exact q'
        | exc e3 c' p' =>
          rw [eb] at q'
          exact fun O3 σ3 H3 d a ea R3 k3 x3 => q' O3 σ3 H3 d a ea R3 (kk.trans k3) x3
        | rm r e3 =>
          rw [eb] at q'
          exact SPost.rmD (SPost.up (show SPost X EX B H0 O' H' D (.rm r e3) from q') kk) rfl
        | bad => rw [eb] at q'; exact q'.elim
end
end Tr
namespace Tr
open PySem L2

/-! ### x += e -/
def fAug (sub : Bool) (i : Nat) (f : En → Res R) (env : En) : Out := match env[i]? with
  | some (.fz (.int n)) => sOf f (fun r env => match r.d with
    | .int m => .nx (env.set i (.fz (.int (if sub then n - m else n + m))))
    | _ => .bad) env
  | _ => .bad
section
variable {X : Cx} {EX : L2.St → XK} {e : Expr} {u : En → Res R} {pos pos' : Pos} {x : Str}
theorem sj_aug (i : Nat) (he : EJ X EX e u) (hN : X.N.Nodup) (hi : X.N[i]? = some x := by rfl) (hx : Loc X.env.scope x := by first | exact Or.inl rfl | exact Or.inr rfl) (hf : X.fn x = true ∨ X.env.scope.names.lookup x = some .local := by first | exact .inl rfl | exact .inr rfl) :
    SJ X EX (.AugAssign (.Name x pos') .Add e pos) (fAug false i u) := by
  obtain ⟨t, pe, k⟩ := he.ex
  refine ⟨⟨_, ps_aug hN hi hx pe ip_add hf, fun B H0 O env σ H D R p => ?_⟩⟩
  unfold fAug at p
  split at p
  · rename_i n hn
    obtain ⟨_, v, h2, h3⟩ := R.slot i _ hn
    refine ⟨v, h2, k B H0 O env σ H _ R ((sOf_post R p).mono (fun _ _ x => x) fun r q w H1 s r1 => ?_)⟩
    split at q
    · rename_i m em
      refine ⟨n, m, rp_int h3, r1.int em, ?_⟩
      obtain ⟨O', R', k', _⟩ := (R.mono s).store (r := .sh (.int (n + m))) (v := .int (n + m)) (Same.refl H1) (Rp.int _) rfl i
      exact q O' _ H1 R' ((Same.keepB s).trans k')
    · exact q.elim
  · exact p.elim
theorem sj_augs (i : Nat) (he : EJ X EX e u) (hN : X.N.Nodup) (hi : X.N[i]? = some x := by rfl) (hx : Loc X.env.scope x := by first | exact Or.inl rfl | exact Or.inr rfl) (hf : X.fn x = true ∨ X.env.scope.names.lookup x = some .local := by first | exact .inl rfl | exact .inr rfl) :
    SJ X EX (.AugAssign (.Name x pos') .Sub e pos) (fAug true i u) := by
  obtain ⟨t, pe, k⟩ := he.ex
  refine ⟨⟨_, ps_aug hN hi hx pe ip_sub hf, fun B H0 O env σ H D R p => ?_⟩⟩
  unfold fAug at p
  split at p
  · rename_i n hn
    obtain ⟨_, v, h2, h3⟩ := R.slot i _ hn
    refine ⟨v, h2, k B H0 O env σ H _ R ((sOf_post R p).mono (fun _ _ x => x) fun r q w H1 s r1 => ?_)⟩
    split at q
    · rename_i m em
      refine ⟨n, m, rp_int h3, r1.int em, ?_⟩
      obtain ⟨O', R', k', _⟩ := (R.mono s).store (r := .sh (.int (n - m))) (v := .int (n - m)) (Same.refl H1) (Rp.int _) rfl i
      exact q O' _ H1 R' ((Same.keepB s).trans k')
    · exact q.elim
  · exact p.elim
end

/-! ### defs -/
/-- what a def is given: trees that stay, what is lent -/
def StOk (K : PySem.W.Frag) (Hl H : Hp) (X : Xs) : Sl → V → Prop
  | .fz d, v => Rp K H X d v
  | .br d, v => ∃ a ho, v = .ref a ∧ Hl a = some ho ∧ OwnRp K H X d ho
  | _, _ => False
def StAll (K : PySem.W.Frag) (Hl H : Hp) (X : Xs) (sl : List Sl) (vs : List V) : Prop := sl.length = vs.length ∧ ∀ (i : Nat) (s : Sl) (u : V), sl[i]? = some s → vs[i]? = some u → StOk K Hl H X s u
/-- a def's promise: it gives what F gives -/
def SpV (K : PySem.W.Frag) (n : Nat) (F : List Sl → Res R) : Sp := fun vs H Q E => ∃ (sl : List Sl) (X : Xs), (∀ a, X a → ∃ o, H a = some o ∧ nTup o) ∧ StAll K H H X sl vs ∧ sl.length = n ∧
  Post (fun c p => ∀ H' d a, clsA K c = some a → Same H H' → XRel K X H' p d → E (.ref a) d H') (fun r => ∀ v H', Same H H' → RX K X H H' r v → Q v H') (F sl)
def SpT (K : PySem.W.Frag) (n : Nat) (F : List T → Res R) : Sp := fun vs H Q E => ∃ (ds : List T) (X : Xs), (∀ a, X a → ∃ o, H a = some o ∧ nTup o) ∧ RpAll K H X ds vs ∧ ds.length = n ∧
  Post (fun c p => ∀ H' d a, clsA K c = some a → Same H H' → XRel K X H' p d → E (.ref a) d H') (fun r => ∀ v H', Same H H' → RX K X H H' r v → Q v H') (F ds)
/-- a body as a function: n names -/
def runF (n : Nat) (body : En → Out) (ds : List T) : Res R := (body (ds.map Sl.fz ++ List.replicate (n - ds.length) .no)).res
def runV (n : Nat) (body : En → Out) (sl : List Sl) : Res R := (body (sl ++ List.replicate (n - sl.length) .no)).res
theorem runV_F (n : Nat) (body : En → Out) (ds : List T) : runV n body (ds.map Sl.fz) = runF n body ds := by unfold runV runF; rw [List.length_map]
section
variable {P : Program} {w : World} {K : PySem.W.Frag} {mg : Str → Option Value} {base : Heap}
theorem StAll.fz {Hl H : Hp} {X : Xs} {ds : List T} {vs : List V} (h : RpAll K H X ds vs) : StAll K Hl H X (ds.map Sl.fz) vs := ⟨by simp [h.1], fun i s u a b => by
  rw [List.getElem?_map] at a
  cases q : ds[i]? with
  | none => rw [q] at a; cases a
  | some d => rw [q] at a; cases a; exact h.2 i d u q b⟩
theorem noneO {n i : Nat} {a : Addr} : (List.replicate n (none : Option Addr))[i]? ≠ some (some a) := fun z => by
  rw [List.getElem?_replicate] at z
  split at z <;> cases z
theorem exRep {B : Bs} {n : Nat} {a : Addr} : Ex B (List.replicate n none) a ↔ B a := by
  constructor
  · intro z
    rcases z with z | ⟨i, z⟩
    · exact z
    · exact (noneO z).elim
  · exact Or.inl
theorem csRep {B : Bs} {n : Nat} (k : Nat) : csOf B (List.replicate n none) k = B.cs k := by
  unfold csOf
  have e : ((List.replicate n (none : Option Addr))[B.n + k]?).join = none := by
    rw [List.getElem?_replicate]
    split <;> rfl
  rw [e]
  cases B.cs k <;> rfl
/-- how a frame begins; `last`: the cells' slot, if there is one -/
theorem rel_begin {H : Hp} {X : Xs} {sl : List Sl} {vs : List V} {n : Nat} {B : Bs} {last : List Sl} (hX : ∀ a, X a → ∃ o, H a = some o ∧ nTup o) (h : StAll K H H X sl vs) (hn : sl.length + last.length ≤ n)
    (hB : B.x = X ∧ B.n = n ∧ B.h = H) (hl : last = [] ∨ (last = [.st []] ∧ B.act = true ∧ ∀ k, B.cs k = none)) :
    Rel K B H (List.replicate n none) (sl ++ (List.replicate (n - sl.length - last.length) .no ++ last)) (vs.map some ++ List.replicate (n - vs.length) none) H := by
  have e1 := h.1
  obtain ⟨rfl, hBn, hBh⟩ := hB
  have hN : ∀ i, i < n → (List.replicate n (none : Option Addr))[i]? = some none := fun i hi => by rw [List.getElem?_replicate, if_pos hi]
  have lastSt : ∀ (i : Nat) (s : Sl), (sl ++ (List.replicate (n - sl.length - last.length) Sl.no ++ last))[i]? = some s → (i < sl.length ∧ sl[i]? = some s) ∨ (sl.length ≤ i ∧ i < n ∧ (s = .no ∨ (s = .st [] ∧ i + 1 = n ∧ last = [.st []]))) := fun i s e => by
    have hi : i < n := by
      have q := (List.getElem?_eq_some_iff.mp e).1
      simp at q
      omega
    by_cases c : i < sl.length
    · rw [List.getElem?_append_left c] at e
      exact .inl ⟨c, e⟩
    · rw [List.getElem?_append_right (by omega)] at e
      refine .inr ⟨by omega, hi, ?_⟩
      by_cases c2 : i - sl.length < n - sl.length - last.length
      · rw [List.getElem?_append_left (by rw [List.length_replicate]; exact c2), List.getElem?_replicate, if_pos c2] at e
        cases e
        exact .inl rfl
      · rw [List.getElem?_append_right (by rw [List.length_replicate]; omega)] at e
        rcases hl with hl | ⟨hl, _⟩
        · rw [hl] at e; simp at e
        · have hl2 := hl
          rw [hl] at e
          rw [hl] at c2 hn
          simp only [List.length_replicate, List.length_singleton] at e c2 hn
          have : i - sl.length - (n - sl.length - 1) = 0 := by omega
          rw [this] at e
          cases e
          exact .inr ⟨rfl, by omega, hl2⟩
  have exE : ∀ a, Ex B (List.replicate n none) a → B.x a := fun a z => exRep.mp z
  have csE : ∀ k a, B.x.cs k = some a → (Ex B (List.replicate n none)).cs k = some a := fun k a e => (csRep k).trans e
  refine ⟨by simp only [List.length_append, List.length_map, List.length_replicate]; rw [← e1]; omega, by simp only [List.length_append, List.length_replicate]; omega, by rw [hBn, List.length_replicate]; exact Nat.le_refl _, fun _ => by rw [hBn, List.length_replicate], Same.refl H, by rw [hBh]; exact Same.refl H, hX, fun i a e => (noneO e).elim, fun i j a e => (noneO e).elim, fun i s e => ?_, fun i j S S' e e' => ?_⟩
  · rcases lastSt i s e with ⟨c, e⟩ | ⟨c, hi, e⟩
    · have hj : i < vs.length := by rw [← e1]; exact c
      have z := h.2 i s _ e (List.getElem?_eq_getElem hj)
      have eσ : (vs.map some ++ List.replicate (n - vs.length) none)[i]? = some (some vs[i]) := by
        rw [List.getElem?_append_left (by rw [List.length_map]; exact hj), List.getElem?_map, List.getElem?_eq_getElem hj]
        rfl
      have hi : i < n := by omega
      cases s with
      | fz d => exact ⟨hN i hi, _, eσ, Rp.anti z exE csE⟩
      | br d =>
        obtain ⟨a, ho, z1, z2, z3⟩ := z
        exact ⟨hN i hi, a, ho, by rw [eσ, z1], by rw [hBh]; exact z2, z3.anti exE csE⟩
      | _ => exact z.elim
    · rcases e with rfl | ⟨rfl, e1, e2⟩
      · exact hN i hi
      · rcases hl with hl | ⟨_, hact⟩
        · rw [hl] at e2; cases e2
        · exact ⟨hN i hi, by simp [hBn], hact, fun k t e => by simp at e⟩
  · have all : ∀ (i : Nat) (S : List T), (sl ++ (List.replicate (n - sl.length - last.length) Sl.no ++ last))[i]? = some (.st S) → i + 1 = n := fun i S e => by
      rcases lastSt i _ e with ⟨c, e⟩ | ⟨c, hi, e⟩
      · have hj : i < vs.length := by rw [← e1]; exact c
        exact (h.2 i _ _ e (List.getElem?_eq_getElem hj)).elim
      · rcases e with e | ⟨_, e, _⟩
        · cases e
        · exact e
    have := all i S e
    have := all j S' e'
    omega
theorem rel_start {H : Hp} {X : Xs} {sl : List Sl} {vs : List V} {n : Nat} (hX : ∀ a, X a → ∃ o, H a = some o ∧ nTup o) (h : StAll K H H X sl vs) (hn : sl.length ≤ n) :
    Rel K ⟨X.p, none, n, X.cs, H, false⟩ H (List.replicate n none) (sl ++ List.replicate (n - sl.length) .no) (vs.map some ++ List.replicate (n - vs.length) none) H := by
  have z := rel_begin (n := n) (B := ⟨X.p, none, n, X.cs, H, false⟩) (last := []) hX h (by simpa using hn) ⟨rfl, rfl, rfl⟩ (.inl rfl)
  simpa using z
/-- THE RULE for a def -/
theorem fn_V {x qual : Str} {st : Stmt} {f : Addr} {fd : FuncData} {N ps : List Str} {k : Nat} {body : En → Out} (F : Fun K x qual st f fd) (S : FnScope N ps (defScope st))
    (hb : ∀ (cdv : Value) (A : Around) (outer : List Env) (s : Shared) (H : Hp) (E : XK), Room k (A.deeper (PyProof.Rows.envOfC qual (defScope st) s.heap.objs.size f cdv)) →
      SsJ (cxOf (L2.CX P w) P w K mg base N qual (defScope st) f cdv A outer s H E) (fun _ => E) (defBody st) body) :
    FnOk P w K mg base (L2.CX P w) (k + 1) f fd ps (SpV K ps.length (runV N.length body)) := by
  refine F.okX S (fun vs H Q E h => ?_) (fun cdv A outer s H vs Q E hr h => ?_)
  · obtain ⟨ds, X, _, h2, h3, _⟩ := h
    rw [← h2.1, h3]
  · obtain ⟨ds, X, h1, h2, h3, p⟩ := h
    obtain ⟨t, ps', i⟩ := (hb cdv A outer s H E hr).ex
    refine ⟨t, ps', ?_⟩
    have hpl : ps.length ≤ N.length := by have := congrArg List.length S.pre; rw [List.length_take] at this; omega
    have z0 : Rel K ⟨X.p, none, N.length, X.cs, H, false⟩ H (List.replicate N.length none) (ds ++ List.replicate (N.length - ds.length) .no) (L2.start N vs) H := rel_start (n := N.length) h1 h2 (by omega)
    refine i _ H _ _ _ H _ z0 ?_
    unfold runV Out.res at p
    split at p
    · rename_i e q
      rw [q]
      exact fun O' σ' H' R' _ => p .non H' R'.same (Rp.non)
    · exact p.elim
    · rename_i r nv q
      rw [q]
      refine ⟨.inl rfl, ?_, p⟩
      cases r with
      | vw d => exact (nv d rfl).elim
      | _ => rfl
    · rename_i e c pl q
      rw [q]
      exact fun O' σ' H' d a ea R' _ x => p H' d a ea R'.same (by
        cases pl with
        | none => exact x
        | some t =>
          obtain ⟨a, v, z1, z2, z3⟩ := x
          exact ⟨a, v, z1, z2, z3.anti (fun b zb => .inl zb) fun k a e => (R'.cs0 rfl).symm.trans e⟩)
    · exact p.elim
theorem fnV_T {k n : Nat} {f : Addr} {fd : FuncData} {ps : List Str} {m : Nat} {body : En → Out} (h : FnOk P w K mg base (L2.CX P w) k f fd ps (SpV K n (runV m body))) : FnOk P w K mg base (L2.CX P w) k f fd ps (SpT K n (runF m body)) := by
  have up : ∀ vs H Q E, SpT K n (runF m body) vs H Q E → SpV K n (runV m body) vs H Q E := fun vs H Q E ⟨ds, X, h1, h2, h3, p⟩ => ⟨ds.map .fz, X, h1, .fz h2, by simpa using h3, by rw [runV_F]; exact p⟩
  exact h.imp up
theorem fn_T {x qual : Str} {st : Stmt} {f : Addr} {fd : FuncData} {N ps : List Str} {k : Nat} {body : En → Out} (F : Fun K x qual st f fd) (S : FnScope N ps (defScope st))
    (hb : ∀ (cdv : Value) (A : Around) (outer : List Env) (s : Shared) (H : Hp) (E : XK), Room k (A.deeper (PyProof.Rows.envOfC qual (defScope st) s.heap.objs.size f cdv)) →
      SsJ (cxOf (L2.CX P w) P w K mg base N qual (defScope st) f cdv A outer s H E) (fun _ => E) (defBody st) body) :
    FnOk P w K mg base (L2.CX P w) (k + 1) f fd ps (SpT K ps.length (runF N.length body)) := fnV_T (fn_V F S hb)
end

/-! ### calls of defs -/
/-- no list, dict, object within -/
def T.fl : Nat → T → Bool
  | _, .non => true
  | _, .bl _ => true
  | _, .int _ => true
  | _, .str _ => true
  | n + 1, .tup l => l.all (T.fl n)
  | _, _ => false
def T.flR : R → Bool
  | .sh d => T.fl 8 d
  | .fr (.lst l) => l.all (T.fl 8)
  | _ => false
def T.flX : Option T → Bool
  | none => true
  | some t => T.fl 8 t
def callR (F : List T → Res R) (rs : List R) : Res R := match F (rs.map R.d) with
  | .ok r => if rs.all R.kp = true ∨ T.flR r = true then .ok r else .bad
  | .exc c p => if rs.all R.kp = true ∨ T.flX p = true then .exc c p else .bad
  | .bad => .bad
@[simp] def fCall (F : List T → Res R) (f : En → Res (List R)) (env : En) : Res R := (f env).bind (callR F)
theorem Rp.flat {K : PySem.W.Frag} {H : Hp} {B B' : Xs} {t : T} {v : V} (h : Rp K H B t v) (th : ∀ a, B' a → ∀ us, H a ≠ some (.tup us)) : ∀ n, T.fl n t = true → Rp K H B' t v := by
  induction h with
  | non => exact fun _ _ => .non
  | bl b => exact fun _ _ => .bl b
  | int i => exact fun _ _ => .int i
  | str x h => exact fun _ _ => .str x h
  | tup h n hl _ ih =>
    intro m hm
    cases m with
    | zero => simp [T.fl] at hm
    | succ m =>
      have hm' : List.all _ (T.fl m) = true := hm
      exact .tup h (fun z => th _ z _ h) hl fun i t u a b => ih i t u a b m (List.all_eq_true.mp hm' t (List.mem_of_getElem? a))
  | _ => intro m hm; cases m <;> simp [T.fl] at hm
section
variable {X : Cx} {EX : L2.St → XK} {e : Expr} {es : List Expr} {g : En → Res (List R)} {F : List T → Res R} {k n : Nat} {f : Addr} {fd : FuncData} {ps : List Str} {x : Str} {p pos : Pos}
theorem RRs.rp0 {K : PySem.W.Frag} {B : Bs} {O : Ow} {H H1 : Hp} : ∀ {rs : List R} {vs : List V}, RRs K B O H H1 rs vs → RpAll K H1 (Ex B O).bare (rs.map R.d) vs
  | [], [], _ => .nil
  | r :: rs, v :: vs, h => .cons h.1.rp0 (RRs.rp0 h.2)
  | [], _ :: _, h => h.elim
  | _ :: _, [], h => h.elim
theorem XRel.flat {K : PySem.W.Frag} {X X' : Xs} {H : Hp} {p : Option T} {d : Option Addr} (h : XRel K X H p d) (th : ∀ a, X' a → ∀ us, H a ≠ some (.tup us)) (hp : T.flX p = true) : XRel K X' H p d := by
  cases p with
  | none => exact h
  | some t =>
    obtain ⟨a, v, z1, z2, z3⟩ := h
    exact ⟨a, v, z1, z2, z3.flat th 8 hp⟩
theorem RX.rr {K : PySem.W.Frag} {B : Bs} {O : Ow} {H H1 H2 : Hp} {r : R} {v : V} (h : RX K (Ex B O) H1 H2 r v) (s : Same H H1) : RR K B O H H2 r v := by
  cases r with
  | sh d => exact h
  | fr d =>
    obtain ⟨pp, ho, z1, z2, z3, z4⟩ := h
    exact ⟨pp, ho, z1, s.free z2, z3, z4⟩
  | bo i d => exact h.elim
  | vw d => exact h.elim
theorem Rel.th {K : PySem.W.Frag} {B : Bs} {H0 H H' : Hp} {O : Ow} {env : En} {σ : L2.St} (R0 : Rel K B H0 O env σ H) (s : Same H H') : ∀ a, Ex B O a → ∀ us, H' a ≠ some (.tup us) := fun a z us e => by
  obtain ⟨o, e1, nt⟩ := R0.ex_ntup z
  have e2 := s _ _ e1
  rw [e2] at e
  exact nt.1 us (Option.some.inj e)
theorem call_core {B H0 O env σ H H1} {rs : List R} {vs : List V} {Q : VK} (R0 : Rel X.K B H0 O env σ H) (s : Same H H1) (r1 : RRs X.K B O H H1 rs vs) (hn : rs.length = n)
    (q : Post (XC X.K B O EX σ H) (fun r => ∀ v H', Same H H' → RR X.K B O H H' r v → Q v H') (callR F rs)) : SpT X.K n F vs H1 Q (EX σ) := by
  unfold callR at q
  by_cases kp : rs.all R.kp = true
  · refine ⟨rs.map R.d, Ex B O, fun a z => ?_, RRs.rp R0 r1 kp, by rw [List.length_map]; exact hn, ?_⟩
    · obtain ⟨o, e, nt⟩ := R0.ex_ntup z
      exact ⟨o, s a o e, nt⟩
    · cases ef : F (rs.map R.d) with
      | ok r =>
        rw [ef] at q
        simp only [kp, true_or, if_true] at q
        intro v H' s' rr
        exact q v H' (s.trans s') (rr.rr s)
      | exc c pl =>
        rw [ef] at q
        simp only [kp, true_or, if_true] at q
        exact fun H' d a ea s' xx => q H' d a ea (s.trans s') xx
      | bad => rw [ef] at q; exact q.elim
  · refine ⟨rs.map R.d, (Ex B O).bare, fun a z => z.elim, RRs.rp0 r1, by rw [List.length_map]; exact hn, ?_⟩
    cases ef : F (rs.map R.d) with
    | ok r =>
      rw [ef] at q
      by_cases fl : T.flR r = true
      · simp only [fl, or_true, if_true] at q
        intro v H' s' rr
        refine q v H' (s.trans s') ?_
        have th := R0.th (s.trans s')
        cases r with
        | sh d => exact Rp.flat rr th 8 fl
        | fr d =>
          obtain ⟨pp, ho, z1, z2, z3, z4⟩ := rr
          refine ⟨pp, ho, z1, s.free z2, z3, ?_⟩
          cases z4 with
          | @lst l us z4 =>
            have fl' : l.all (T.fl 8) = true := fl
            refine .lst ⟨z4.1, fun i t u a b => (z4.2 i t u a b).flat (fun c z us' ec => ?_) 8 (List.all_eq_true.mp fl' t (List.mem_of_getElem? a))⟩
            rcases z with z | z
            · exact th c z us' ec
            · rw [z, z3] at ec; cases ec
          | _ => cases fl
        | bo i d => cases fl
        | vw d => cases fl
      · simp only [fl, kp, or_self, if_false] at q
        exact q.elim
    | exc c pl =>
      rw [ef] at q
      by_cases fl : T.flX pl = true
      · simp only [fl, or_true, if_true] at q
        exact fun H' d a ea s' xx => q H' d a ea (s.trans s') (xx.flat (R0.th (s.trans s')) fl)
      · simp only [fl, kp, or_self, if_false] at q
        exact q.elim
    | bad => rw [ef] at q; exact q.elim
/-- as it is handed in -/
def R.arg : R → Sl
  | .sh d => .fz d
  | .fr d => .fz d
  | .bo _ d => .br d
  | .vw d => .br d
theorem RRs.arg {K : PySem.W.Frag} {B : Bs} {O : Ow} {H0 H H1 : Hp} {env : En} {σ : L2.St} (R0 : Rel K B H0 O env σ H) : ∀ {rs : List R} {vs : List V}, RRs K B O H H1 rs vs → StAll K H1 H1 (Ex B O) (rs.map R.arg) vs
  | [], [], _ => ⟨rfl, fun i s u a => by simp at a⟩
  | r :: rs, v :: vs, h => by
    obtain ⟨l, g⟩ := RRs.arg R0 h.2
    refine ⟨by simp [l], fun i s u a b => ?_⟩
    cases i with
    | zero =>
      simp at a b
      subst a b
      cases r with
      | sh d => exact h.1
      | fr d => exact h.1.rp R0 rfl
      | bo i d =>
        obtain ⟨a, ho, e1, e2, e3, e4⟩ := h.1
        exact ⟨a, ho, e2, e3, e4⟩
      | vw d =>
        obtain ⟨a, ho, e1, e2, e3, e4⟩ := h.1
        exact ⟨a, ho, e2, e3, e4⟩
    | succ i => exact g i s u (by simpa using a) (by simpa using b)
  | [], _ :: _, h => h.elim
  | _ :: _, [], h => h.elim
@[simp] def fCallV (F : List Sl → Res R) (f : En → Res (List R)) (env : En) : Res R := (f env).bind fun rs => F (rs.map R.arg)
theorem callV_core {F : List Sl → Res R} {B H0 O env σ H H1} {rs : List R} {vs : List V} {Q : VK} (R0 : Rel X.K B H0 O env σ H) (s : Same H H1) (r1 : RRs X.K B O H H1 rs vs) (hn : rs.length = n)
    (q : Post (XC X.K B O EX σ H) (fun r => ∀ v H', Same H H' → RR X.K B O H H' r v → Q v H') (F (rs.map R.arg))) : SpV X.K n F vs H1 Q (EX σ) := by
  refine ⟨rs.map R.arg, Ex B O, fun a z => ?_, RRs.arg R0 r1, by rw [List.length_map]; exact hn, q.mono (fun c p x H' d a ea s' xx => x H' d a ea (s.trans s') xx) fun r x v H' s' rr => x v H' (s.trans s') (rr.rr s)⟩
  obtain ⟨o, e, nt⟩ := R0.ex_ntup z
  exact ⟨o, s a o e, nt⟩
theorem aj_len : True := trivial
theorem ej_call {CXt : CXT} (F' : FnOk X.prog X.w X.K X.mg X.base CXt k f fd ps (SpT X.K n F)) (hr : Room k X.A) (hg : Gl X x) (hm : X.mg x = some (.ref f)) (hk : PySem.W.keepIn X.K (.ref f) = true) (hb : Binds X.K fd ps []) (hx : ∀ σ, PassesAt CXt X σ (EX σ))
    (ha : AJ X EX (e :: es) g) (hn : ∀ env rs, g env = .ok rs → rs.length = n) (hdb : (x == ("__debug__" : Str)) = false := by decide) (he : starEach (e :: es) X.env = (false, eval e X.env) :: starEach es X.env := by rfl) (hpl : (backTo pos (starEach es X.env)).any (·.1) = false := by rfl) :
    EJ X EX (.Call (.Name x p) (e :: es) [] pos) (fCall F g) := by
  obtain ⟨t, pa, i⟩ := ha.ex
  refine ⟨⟨_, pe_callS F' hr hg hm hk hb hx pa hdb he hpl, fun B H0 O env σ H Q R q => ?_⟩⟩
  have q' : Post (XC X.K B O EX σ H) (fun rs => g env = .ok rs ∧ Post (XC X.K B O EX σ H) (fun r => ∀ v H', Same H H' → RR X.K B O H H' r v → Q v H') (callR F rs)) (g env) := by
    have z := q.bind
    cases eg : g env with
    | ok rs => rw [eg] at z; exact ⟨rfl, z⟩
    | exc c p => rw [eg] at z; exact z
    | bad => rw [eg] at z; exact z
  refine i B H0 O env σ H _ R (q'.mono (fun _ _ x => x) fun rs z vs H1 s r1 => ?_)
  exact call_core R s r1 (hn env rs z.1) z.2
end
theorem fN_len {env : En} {rs : List R} (h : fN env = .ok rs) : rs.length = 0 := by cases h; rfl
theorem fA_len {f : En → Res R} {g : En → Res (List R)} {n : Nat} (hg : ∀ env rs, g env = .ok rs → rs.length = n) : ∀ env rs, fA f g env = .ok rs → rs.length = n + 1 := fun env rs h => by
  unfold fA at h
  cases e1 : f env with
  | ok r =>
    rw [e1] at h
    cases e2 : g env with
    | ok rs' =>
      rw [e2] at h
      have h' : (Res.ok (r :: rs') : Res (List R)) = .ok rs := h
      cases h'
      simp [hg env rs' e2]
    | exc c p => rw [e2] at h; cases h
    | bad => rw [e2] at h; cases h
  | exc c p => rw [e1] at h; cases h
  | bad => rw [e1] at h; cases h

/-! ### comprehensions -/
/-- the canonical readings -/
def tOf (K : PySem.W.Frag) (EX : L2.St → XK) (f : En → Res R) : TE := fun σ H Q => ∃ B H0 O env, Rel K B H0 O env σ H ∧ Post (XC K B O EX σ H) (fun r => ∀ v H', Same H H' → RR K B O H H' r v → Q v H') (f env)
def ttOf (K : PySem.W.Frag) (EX : L2.St → XK) (f : En → Res Bool) : TT := fun σ H Q => ∃ B H0 O env, Rel K B H0 O env σ H ∧ Post (XC K B O EX σ H) (fun b => ∀ H', Same H H' → Q b H') (f env)
def gOf (K : PySem.W.Frag) (is : List Nat) (g : T → En → Option En) : TG := fun v σ H Q => ∃ B H0 O env d, Rel K B H0 O env σ H ∧ Rp K H (Ex B O) d v ∧
  match g d env with
    | some env' => ∀ O' σ', Rel K B H0 O' env' σ' H → Keep (Ex B O) H (Ex B O') H → Wp is O O' σ σ' → Q σ' H
    | none => False
section
variable {X : Cx} {EX : L2.St → XK} {e : Expr} {f : En → Res R} {w : En → Res Bool} {is : List Nat} {g : T → En → Option En}
theorem EJ.pe (h : EJ X EX e f) : PE X e (tOf X.K EX f) := by
  obtain ⟨t, pe, i⟩ := h.ex
  exact ⟨fun pins s σ H Q I ⟨B, H0, O, env, R, p⟩ => pe.run pins s σ H Q I (i B H0 O env σ H Q R p)⟩
theorem BJ.pt (h : BJ X EX e w) : PT X e (ttOf X.K EX w) := by
  obtain ⟨t, pe, i⟩ := h.ex
  exact ⟨fun pins s σ H Q I ⟨B, H0, O, env, R, p⟩ => pe.run pins s σ H Q I (i B H0 O env σ H Q R p)⟩
theorem GJ.pg (h : GJ X e is g) : PG X e (gOf X.K is g) := by
  obtain ⟨t, pe, i⟩ := h.ex
  exact ⟨fun pins s σ H v u Q I r ⟨B, H0, O, env, d, R, rp, p⟩ => pe.run pins s σ H v u Q I r (i B H0 O env σ H v d Q R rp p)⟩
end
/-- the tests of a clause -/
structure TsJ (X : Cx) (EX : L2.St → XK) (es : List Expr) (f : En → Res Bool) : Prop where
  pt : PTs X es (ttOf X.K EX f)
@[simp] def fYes (_ : En) : Res Bool := .ok true
theorem tsj_nil {X : Cx} {EX : L2.St → XK} : TsJ X EX [] fYes := ⟨⟨fun pins s σ H Q I ⟨B, H0, O, env, R, p⟩ => pts_nil.run pins s σ H Q I (p H (Same.refl H))⟩⟩
theorem tsj_one {X : Cx} {EX : L2.St → XK} {e : Expr} {f : En → Res Bool} (h : BJ X EX e f) : TsJ X EX [e] f := ⟨pts_one h.pt⟩
def isOw : Option Sl → Bool
  | some (.ow _) => true
  | some (.sf _) => true
  | some (.st _) => true
  | none => true
  | _ => false
def wipeE (env : En) : List Nat → En
  | [] => env
  | v :: vs => (wipeE env vs).set v .no
def compL (g : T → En → Option En) (tt : En → Res Bool) (te : En → Res R) (env : En) : List T → List T → Res (List T)
  | [], acc => .ok acc
  | t :: ts, acc => match g t env with
    | none => .bad
    | some e1 => match tt e1 with
      | .ok true => (match te e1 with
        | .ok r => if r.kp = true ∧ acc.length < sizeLine then compL g tt te env ts (acc ++ [r.d]) else .bad
        | _ => .bad)
      | .ok false => compL g tt te env ts acc
      | _ => .bad
def fComp (is : List Nat) (f : En → Res (List T)) (g : T → En → Option En) (tt : En → Res Bool) (te : En → Res R) (env : En) : Res R := (f env).bind fun ts =>
  if is.any (fun i => isOw env[i]?) = true then .bad else
  match compL g tt te (wipeE env is) ts [] with
  | .ok l => .ok (.fr (.lst l))
  | _ => .bad
abbrev EX0 : L2.St → XK := fun _ _ _ _ => False
theorem wipeE_get : ∀ (vs : List Nat) (env : En) (j : Nat), (wipeE env vs)[j]? = if j ∈ vs ∧ j < env.length then some .no else env[j]?
  | [], env, j => by simp [wipeE]
  | v :: vs, env, j => by
    have len : ∀ (us : List Nat), (wipeE env us).length = env.length := fun us => by
      induction us with
      | nil => rfl
      | cons a us ih => show ((wipeE env us).set a .no).length = _; rw [List.length_set, ih]
    show ((wipeE env vs).set v .no)[j]? = _
    rw [List.getElem?_set, len, wipeE_get vs env j]
    by_cases e : v = j
    · subst e
      by_cases q : v < env.length
      · simp [q]
      · have z : env[v]? = none := List.getElem?_eq_none (by omega)
        simp [q, z]
    · have e' : ¬ j = v := fun q => e q.symm
      simp [e, e']
theorem wipeE_len (env : En) : ∀ vs : List Nat, (wipeE env vs).length = env.length
  | [] => rfl
  | v :: vs => by show ((wipeE env vs).set v .no).length = _; rw [List.length_set, wipeE_len env vs]
theorem ntL (us : List V) : nTup (.lst us) := ⟨fun _ z => (by cases z), fun _ z => (by cases z)⟩
section
variable {K : PySem.W.Frag} {B : Bs} {H0 H H1 : Hp} {O : Ow} {env : En} {σ : L2.St}
/-- the block of a comprehension: its own names empty, the new list at D not to be spoken of -/
theorem Rel.block (R : Rel K B H0 O env σ H) (s : Same H H1) {D : Addr} {o : HO} (hD : H D = none) (hD1 : H1 D = some o) (nt : nTup o) (is : List Nat) (hw : is.any (fun i => isOw env[i]?) = false) :
    Rel K (B.add D) H0 O (wipeE env is) (wipe σ is) H1 where
  len := by rw [wipe_length, wipeE_len]; exact R.len
  lenN := by rw [wipeE_len]; exact R.lenN
  lenO := R.lenO
  cells := R.cells
  same := R.same.trans s
  lent := R.lent
  there := fun a z => by
    rcases z with z | z
    · obtain ⟨o, e, n⟩ := R.there a z
      exact ⟨o, s a o e, n⟩
    · rw [z]; exact ⟨o, hD1, nt⟩
  own := fun i a e => by
    obtain ⟨h0, nb, ho, h1, n⟩ := R.own i a e
    refine ⟨h0, fun z => ?_, ho, s _ _ h1, n⟩
    rcases z with z | z
    · exact nb z
    · rw [z, hD] at h1
      cases h1
  uniq := R.uniq
  slot := fun i sl e => by
    rw [wipeE_get] at e
    have sub : ∀ a, Ex (B.add D) O a → Ex B O a ∨ a = D := fun a z => by
      rcases z with (z | z) | z
      · exact .inl (.inl z)
      · exact .inr z
      · exact .inl (.inr z)
    have k : Keep (Ex B O) H (Ex (B.add D) O) H1 := ⟨fun b o e n => ⟨s b o e, fun z => (sub b z).elim n fun q => by rw [q, hD] at e; cases e⟩, fun _ _ e => e⟩
    by_cases c : i ∈ is ∧ i < env.length
    · rw [if_pos c] at e
      cases e
      have z : isOw env[i]? = false := by
        cases q : isOw env[i]? with
        | false => rfl
        | true =>
          have : is.any (fun i => isOw env[i]?) = true := List.any_eq_true.mpr ⟨i, c.1, q⟩
          rw [hw] at this
          cases this
      have es : env[i]? = some env[i] := List.getElem?_eq_getElem c.2
      have h := R.slot i _ es
      rw [es] at z
      cases q : env[i] with
      | no => rw [q] at h; exact h
      | fz d => rw [q] at h; exact h.1
      | br d => rw [q] at h; exact h.1
      | rd d => rw [q] at h; exact h.1
      | ow d => rw [q] at z; cases z
      | sf d => rw [q] at z; cases z
      | st d => rw [q] at z; cases z
    · rw [if_neg c] at e
      have h := R.slot i sl e
      have hi : i < env.length := (List.getElem?_eq_some_iff.mp e).1
      have ni : i ∉ is := fun z => c ⟨z, hi⟩
      exact h.upB ⟨rfl, rfl, rfl, rfl, rfl⟩ k rfl (by rw [wipe_get, if_neg (fun z => ni z.1)]) rfl (fun _ => rfl) fun m a o _ _ h => s a o h
  one := fun i j S S' e e' => by
    rw [wipeE_get] at e e'
    split at e
    · cases e
    · split at e'
      · cases e'
      · exact R.one i j S S' e e'
end
section
variable {X : Cx} {EX : L2.St → XK} {elt tg iter : Expr} {ifs : List Expr} {scope : Scope} {own : List (Str × Nat)} {is : List Nat} {f : En → Res (List T)} {g : T → En → Option En} {tt : En → Res Bool} {te : En → Res R} {pos : Pos}
theorem comp_core {wi : TI}
    (i : ∀ B H0 O env σ H (Q : It → Hp → Prop), Rel X.K B H0 O env σ H → Post (XC X.K B O EX σ H) (fun ts => ∀ J H', Same H H' → Wk X.K J (Ex B O) B.h H' ts → Q J H') (f env) → wi σ H Q)
    (sub : ∀ j ∈ is, j ∈ own.map (·.2)) (B H0 O env σ H) (Q : VK) (R : Rel X.K B H0 O env σ H)
    (p : Post (XC X.K B O EX σ H) (fun r => ∀ v H', Same H H' → RR X.K B O H H' r v → Q v H') (fComp (own.map (·.2)) f g tt te env)) :
    tLc wi (gOf X.K is g) (ttOf X.K EX0 tt) (tOf X.K EX0 te) (own.map (·.2)) σ H Q := by
  obtain ⟨vs, hvs⟩ : ∃ vs, vs = own.map (·.2) := ⟨_, rfl⟩
  rw [← hvs] at p sub ⊢
  refine i B H0 O env σ H _ R (p.bind.mono (fun _ _ x => x) fun ts q J H1 s wk => ?_)
  intro D hD1
  have hD : H D = none := s.free hD1
  split at q
  · exact q.elim
  · rename_i hw
    have hw' : vs.any (fun i => isOw env[i]?) = false := by simpa using hw
    refine ⟨fun n m H' => m = ts.length - n ∧ n ≤ ts.length ∧ ∃ acc us, Same H1 H' ∧ H' D = some (.lst us) ∧ RpAll X.K H' ((Ex B O).add D) acc us ∧
      Post (fun _ _ => False) (fun l => ∀ v H'', Same H H'' → RR X.K B O H H'' (.fr (.lst l)) v → Q v H'') (compL g tt te (wipeE env vs) (ts.drop n) acc),
      ⟨ts.length, by simp, Nat.zero_le _, [], [], Same.new hD1, upd_same, .nil, ?_⟩, ?_⟩
    · rw [List.drop_zero]
      cases ec : compL g tt te (wipeE env vs) ts [] with
      | ok l => rw [ec] at q; exact q
      | exc c pl => rw [ec] at q; exact q.elim
      | bad => rw [ec] at q; exact q.elim
    · rintro n m H' ⟨rfl, hn, acc, us, s', hD', ra, q'⟩
      have kp : Keep (Ex B O) H1 (Ex B O) H' := ⟨fun a o e n => ⟨s' a o e, n⟩, fun _ _ e => e⟩
      obtain ⟨w1, w2⟩ := wk n H' ((Ex B O).add D) ⟨fun a o e n => ⟨s' a o e, fun z => z.elim n fun y => by rw [y, hD1] at e; cases e⟩, fun _ _ e => e⟩ ((R.lent.trans R.same).trans (s.trans s')) fun a z => by
        rcases z with z | z
        · obtain ⟨o, e⟩ := R.ex_there z
          exact ⟨o, s' _ _ (s _ _ e)⟩
        · rw [z]; exact ⟨_, hD'⟩
      by_cases hlt : n < ts.length
      · obtain ⟨go, yl⟩ := w1 hlt
        refine .inr ⟨go, fun H2 => ∃ acc us, Same H1 H2 ∧ H2 D = some (.lst us) ∧ RpAll X.K H2 ((Ex B O).add D) acc us ∧
          Post (fun _ _ => False) (fun l => ∀ v H'', Same H H'' → RR X.K B O H H'' (.fr (.lst l)) v → Q v H'') (compL g tt te (wipeE env vs) (ts.drop (n + 1)) acc), fun H2 z => ⟨ts.length - (n + 1), by omega, rfl, hlt, z⟩, fun x H2 y => ?_⟩
        obtain ⟨s2, rp⟩ := yl x H2 y
        have et : ts[n]? = some ts[n] := List.getElem?_eq_getElem hlt
        have ed : ts.drop n = ts[n] :: ts.drop (n + 1) := List.drop_eq_getElem_cons hlt
        rw [ed] at q'
        unfold compL at q'
        have s02 : Same H H2 := (s.trans s').trans s2
        have hD2 : H2 D = some (.lst us) := s2 _ _ hD'
        have Rb := R.block s02 hD hD2 (ntL us) vs hw'
        have exE : ∀ a, Ex (B.add D) O a ↔ (Ex B O a ∨ a = D) := fun a => ⟨fun z => by
            rcases z with (z | z) | z
            · exact .inl (.inl z)
            · exact .inr z
            · exact .inl (.inr z), fun z => by
            rcases z with (z | z) | z
            · exact .inl (.inl z)
            · exact .inr z
            · exact .inl (.inr z)⟩
        refine ⟨_, H0, O, wipeE env vs, ts[n], Rb, (rp _ et).anti fun a z => (exE a).mp z, ?_⟩
        cases eg : g ts[n] (wipeE env vs) with
        | none => rw [eg] at q'; exact q'.elim
        | some e2 =>
          rw [eg] at q'
          intro O2 σ2 R2 k2 w2
          refine ⟨(w2.1 vs sub).trans (by
            apply List.ext_getElem?
            intro j
            rw [wipe_get, wipe_length]
            rw [wipe_get]
            by_cases c : j ∈ vs ∧ j < σ.length
            · rw [if_pos c, if_pos c]
            · rw [if_neg c, if_neg c]), _, H0, O2, e2, R2, ?_⟩
          have lt : ∀ j ∈ vs, j < B.n := fun j m => by
            rw [← R.lenN]
            apply Classical.byContradiction
            intro c
            have : vs.any (fun i => isOw env[i]?) = true := List.any_eq_true.mpr ⟨j, m, by rw [List.getElem?_eq_none (by omega)]; rfl⟩
            rw [hw'] at this
            cases this
          have csE : ∀ k a, (Ex (B.add D) O2).cs k = some a → ((Ex B O).add D).cs k = some a := fun k a e => by
            have q := w2.2 (B.n + k) fun m => by have := lt _ (sub _ m); omega
            have e' : csOf (B.add D) O2 k = some a := e
            show csOf B O k = some a
            unfold csOf at e' ⊢
            have q' : O2[(B.add D).n + k]? = O[B.n + k]? := q
            rw [q'] at e'
            exact e'
          simp only at q'
          cases eb : tt e2 with
          | bad => rw [eb] at q'; exact q'.elim
          | exc c pl => rw [eb] at q'; exact q'.elim
          | ok b =>
            rw [eb] at q'
            intro H3 s3
            cases b with
            | false =>
              refine iteF ⟨acc, us, (s'.trans s2).trans s3, s3 _ _ hD2, (ra.same s2).same s3, q'⟩
            | true =>
              refine iteT ⟨_, H0, O2, e2, R2.mono s3, ?_⟩
              simp only at q'
              cases er : te e2 with
              | bad => rw [er] at q'; exact q'.elim
              | exc c pl => rw [er] at q'; exact q'.elim
              | ok r =>
                rw [er] at q'
                intro v H4 s4 r4
                simp only at q'
                by_cases c : r.kp = true ∧ acc.length < sizeLine
                · rw [if_pos c] at q'
                  have st : Same H2 H4 := s3.trans s4
                  have hD4 : H4 D = some (.lst us) := st _ _ hD2
                  have ra4 := (ra.same s2).same st
                  refine ⟨us, hD4, by rw [← ra4.1]; exact c.2, acc ++ [r.d], us ++ [v], fun a o e => ?_, upd_same, ?_, q'⟩
                  · rw [upd_ne (ne_of_none e hD1)]
                    exact st _ _ (s2 _ _ (s' _ _ e))
                  · -- what is made does not hold what is owned at the entry
                    have rpD : Rp X.K H4 (Ex (B.add D) O2) r.d v := r4.rp (R2.mono s3) c.1
                    have rpO : Rp X.K H4 ((Ex B O).add D) r.d v := by
                      refine rpD.anti (fun a z => ?_) csE
                      rcases z with (z | ⟨j, z⟩) | z
                      · exact .inl (.inl z)
                      · -- owned at the entry: owned in the block as well
                        have nj : j ∉ is := fun m => by
                          have hj := sub j m
                          have hl : j < env.length := by rw [R.lenN]; exact lt j hj
                          have es : env[j]? = some env[j] := List.getElem?_eq_getElem hl
                          have h := R.slot j _ es
                          have no : isOw env[j]? = true → False := fun q => by
                            have : vs.any (fun i => isOw env[i]?) = true := List.any_eq_true.mpr ⟨j, hj, q⟩
                            rw [hw'] at this
                            cases this
                          cases q : env[j] with
                          | no => rw [q] at h; rw [show O[j]? = some none from h] at z; cases z
                          | fz d => rw [q] at h; rw [h.1] at z; cases z
                          | br d => rw [q] at h; rw [h.1] at z; cases z
                          | rd d => rw [q] at h; rw [h.1] at z; cases z
                          | _ => exact no (by rw [es, q]; rfl)
                        have hO : O2[j]? = some (some a) := (w2.2 j nj).trans z
                        exact .inr ⟨j, hO⟩
                      · exact .inl (.inr z)
                    have all := ra4.append (.one rpO)
                    exact all.keep ⟨fun a o e n => ⟨by rw [upd_ne (fun z => n (.inr z))]; exact e, n⟩, fun _ _ e => e⟩
                · rw [if_neg c] at q'; exact q'.elim
      · have e : n = ts.length := by omega
        subst e
        rw [List.drop_length] at q'
        refine .inl ⟨w2 (Nat.le_refl _), q' (.ref D) H' (s.trans s') ⟨D, _, rfl, hD, hD', .lst ra⟩⟩
end
end Tr
namespace Tr
open PySem L2

/-! ### what the proof never comes to -/
@[simp] def fBad (_ : En) : Out := .bad
theorem sj_never {X : Cx} {EX : L2.St → XK} {st : Stmt} : SJ X EX st fBad := ⟨⟨_, ps_never, fun B H0 O env σ H D R p => p.elim⟩⟩
theorem ssj_never {X : Cx} {EX : L2.St → XK} {st : List Stmt} : SsJ X EX st fBad := ⟨⟨_, pss_never, fun B H0 O env σ H D R p => p.elim⟩⟩

/-! ### comprehensions, the rules -/
section
variable {X : Cx} {EX : L2.St → XK} {elt tg iter : Expr} {ifs : List Expr} {scope : Scope} {is : List Nat} {f : En → Res (List T)} {g : T → En → Option En} {tt : En → Res Bool} {te : En → Res R} {pos py spos : Pos} {y : Str}
theorem ej_comp (own : List (Str × Nat)) (hc : X.calm = true) (hN : X.N.Nodup) (hi : FJ X EX tg iter f) (ok : BlkOk X.N X.env.scope scope own) (sub : ∀ j ∈ is, j ∈ own.map (·.2))
    (hg : ∀ (s : Shared) (H : Hp) (C : Addr) (cl : List (Str × Addr)) (fp : List Addr), GJ (X.blk s H scope (compEnvC scope cl C X.env) fp) tg is g)
    (ht : ∀ (s : Shared) (H : Hp) (C : Addr) (cl : List (Str × Addr)) (fp : List Addr), TsJ (X.blk s H scope (compEnvC scope cl C X.env) fp) EX0 ifs tt)
    (he : ∀ (s : Shared) (H : Hp) (C : Addr) (cl : List (Str × Addr)) (fp : List Addr), EJ (X.blk s H scope (compEnvC scope cl C X.env) fp) EX0 elt te) (hs : ∀ x, foldedSetIterable iter X.env x = pure x := by intro _; rfl) :
    EJ X EX (.ListComp elt [⟨tg, iter, ifs, 0⟩] scope pos) (fComp (own.map (·.2)) f g tt te) := by
  obtain ⟨wi, pi, i⟩ := hi.ex
  exact ⟨⟨_, pe_lc (g := gOf X.K is g) (tt := ttOf X.K EX0 tt) (te := tOf X.K EX0 te) hc hN pi ok (fun s H C cl fp => (hg s H C cl fp).pg) (fun s H C cl fp => (ht s H C cl fp).pt) (fun s H C cl fp => (he s H C cl fp).pe) hs, fun B H0 O env σ H Q R p => comp_core i sub B H0 O env σ H Q R p⟩⟩
theorem sj_setcomp (j : Nat) (own : List (Str × Nat)) (hc : X.calm = true) (hN : X.N.Nodup) (hsw : swapsWith (.ListComp elt [⟨tg, iter, ifs, 0⟩] scope pos) (some (.Name y py)) spos.line X.env = pure true) (hi : FJ X EX tg iter f) (ok : BlkOk X.N X.env.scope scope own) (sub : ∀ j ∈ is, j ∈ own.map (·.2))
    (hg : ∀ (s : Shared) (H : Hp) (C : Addr) (cl : List (Str × Addr)) (fp : List Addr), GJ (X.blk s H scope (compEnvC scope cl C X.env) fp) tg is g)
    (ht : ∀ (s : Shared) (H : Hp) (C : Addr) (cl : List (Str × Addr)) (fp : List Addr), TsJ (X.blk s H scope (compEnvC scope cl C X.env) fp) EX0 ifs tt)
    (he : ∀ (s : Shared) (H : Hp) (C : Addr) (cl : List (Str × Addr)) (fp : List Addr), EJ (X.blk s H scope (compEnvC scope cl C X.env) fp) EX0 elt te)
    (hy : X.N[j]? = some y := by rfl) (hyl : X.env.scope.names.lookup y = some .local := by rfl) (hs : ∀ x, foldedSetIterable iter X.env x = pure x := by intro _; rfl) :
    SJ X EX (.Assign [.Name y py] (.ListComp elt [⟨tg, iter, ifs, 0⟩] scope pos) spos) (fSet j (fComp (own.map (·.2)) f g tt te)) := by
  obtain ⟨wi, pi, i⟩ := hi.ex
  refine ⟨⟨_, ps_setLc (g := gOf X.K is g) (tt := ttOf X.K EX0 tt) (te := tOf X.K EX0 te) hc hN hy hyl hsw pi ok (fun s H C cl fp => (hg s H C cl fp).pg) (fun s H C cl fp => (ht s H C cl fp).pt) (fun s H C cl fp => (he s H C cl fp).pe) hs, fun B H0 O env σ H D R p => ?_⟩⟩
  refine comp_core i sub B H0 O env σ H _ R ((sOf_post R p).mono (fun _ _ x => x) fun r q v H1 s r1 => ?_)
  split at q
  · rename_i kp
    obtain ⟨O', R', kk, _⟩ := R.store s r1 kp j
    exact q O' _ H1 R' kk
  · exact q.elim
end

section
variable {X : Cx} {EX : L2.St → XK} {elt tg iter : Expr} {ifs : List Expr} {scope : Scope} {is : List Nat} {f : En → Res (List T)} {g : T → En → Option En} {tt : En → Res Bool} {te : En → Res R} {pos py spos : Pos} {y : Str}
theorem sj_setcompZ (j : Nat) (own : List (Str × Nat)) (hc : X.calm = true) (hN : X.N.Nodup) (hsw : swapsWith (.ListComp elt [⟨tg, iter, ifs, 0⟩] scope pos) (some (.Name y py)) spos.line X.env = pure true) (hi : FJ X EX tg iter f) (ok : BlkOk X.N X.env.scope scope own) (sub : ∀ j ∈ is, j ∈ own.map (·.2))
    (hg : ∀ (s : Shared) (H : Hp) (C : Addr) (cl : List (Str × Addr)) (fp : List Addr), GJ (X.blk s H scope (compEnvC scope cl C X.env) fp) tg is g)
    (ht : ∀ (s : Shared) (H : Hp) (C : Addr) (cl : List (Str × Addr)) (fp : List Addr), TsJ (X.blk s H scope (compEnvC scope cl C X.env) fp) EX0 ifs tt)
    (he : ∀ (s : Shared) (H : Hp) (C : Addr) (cl : List (Str × Addr)) (fp : List Addr), EJ (X.blk s H scope (compEnvC scope cl C X.env) fp) EX0 elt te)
    (hy : X.N[j]? = some y := by rfl) (hyl : X.env.scope.names.lookup y = some .local := by rfl) (hs : ∀ x, foldedSetIterable iter X.env x = pure x := by intro _; rfl) :
    SJ X EX (.Assign [.Name y py] (.ListComp elt [⟨tg, iter, ifs, 0⟩] scope pos) spos) (fSetZ j (fComp (own.map (·.2)) f g tt te)) := by
  obtain ⟨t, ps, k⟩ := (sj_setcomp (EX := EX) j own hc hN hsw hi ok sub hg ht he hy hyl hs).ex
  refine ⟨⟨t, ps, fun B H0 O env σ H D R p => k B H0 O env σ H D R ?_⟩⟩
  unfold fSetZ sOf at p
  unfold fSet sOf
  cases hu : fComp (own.map (·.2)) f g tt te env with
  | bad => rw [hu] at p; exact p
  | exc c pl => rw [hu] at p; exact p
  | ok r =>
    rw [hu] at p
    simp only [out_ok] at p ⊢
    cases r with
    | sh d => exact p
    | bo j d => exact p
    | vw d => exact p
    | fr d =>
      refine sj_fzp (j := j) ?_
      have e : ∀ env : En, frz j (env.set j (.ow d)) = env.set j (.fz d) := fun env => by
        unfold frz
        by_cases h : j < env.length
        · rw [List.getElem?_set, if_pos rfl, if_pos h]
          simp
        · rw [List.set_eq_of_length_le (by omega)]
          rw [List.getElem?_eq_none (by omega)]
          simp [List.set_eq_of_length_le (show env.length ≤ j by omega)]
      show SPost X EX B H0 O H D (.nx (frz j (env.set j (.ow d))))
      rw [e]
      exact p
end

/-! ### sorted -/
def leI (a b : Int) : Bool := decide (a ≤ b)
def sortI (l : List Int) : List Int := l.mergeSort leI
def leP (p q : Int × Int) : Bool := !SrtO.lexB q p
def sortP (l : List (Int × Int)) : List (Int × Int) := l.mergeSort leP
def encP (p : Int × Int) : T := .tup [.int p.1, .int p.2]
def T.asPair : T → Option (Int × Int)
  | .tup [.int a, .int b] => some (a, b)
  | _ => none
def T.pairs : T → Option (List (Int × Int))
  | .lst l => l.mapM T.asPair
  | _ => none
def sortR : List R → Res R
  | [x] => match x.d.ints with
    | some ns => .ok (.fr (.lst ((sortI ns).map T.int)))
    | none => match x.d.pairs with
      | some ps => .ok (.fr (.lst ((sortP ps).map encP)))
      | none => .bad
  | _ => .bad
theorem sortI_is {a ns : List Int} (h1 : a.Perm ns) (h2 : a.Pairwise (· ≤ ·)) : a = sortI ns := by
  have e1 : (sortI ns).Perm ns := List.mergeSort_perm ns leI
  have e2 : (sortI ns).Pairwise (fun a b => leI a b = true) := List.pairwise_mergeSort (le := leI) (fun a b c h k => by
    simp only [leI, decide_eq_true_eq] at *; omega) (fun a b => by simp only [leI, Bool.or_eq_true, decide_eq_true_eq]; omega) ns
  exact PySem.W.ksm_same (h1.trans e1.symm) h2 (e2.imp fun h => by simpa [leI] using h)
theorem leP_iff {p q : Int × Int} : leP p q = true ↔ ¬ (q.1 < p.1 ∨ (q.1 = p.1 ∧ q.2 < p.2)) := by
  unfold leP
  rw [Bool.not_eq_true', SrtO.lexB_no]
theorem sortP_is {a ps : List (Int × Int)} (h1 : a.Perm ps) (h2 : a.Pairwise fun p q => SrtO.lexB q p = false) : a = sortP ps := by
  have e1 : (sortP ps).Perm ps := List.mergeSort_perm ps leP
  have e2 : (sortP ps).Pairwise (fun a b => leP a b = true) := List.pairwise_mergeSort (le := leP) (fun a b c h k => by
    rw [leP_iff] at *; omega) (fun a b => by rw [Bool.or_eq_true, leP_iff, leP_iff]; omega) ps
  refine List.Perm.eq_of_pairwise (le := fun p q => leP p q = true) (fun x y _ _ h k => ?_) (h2.imp fun h => by
    unfold leP
    rw [h]
    rfl) e2 (h1.trans e1.symm)
  rw [leP_iff] at h k
  exact Prod.ext (by omega) (by omega)
section
variable {K : PySem.W.Frag} {H : Hp} {X : Xs}
def kOf (H : Hp) (v : V) : Int × Int := match v with
  | .ref t => match H t with
    | some (.tup [.int a, .int b]) => (a, b)
    | _ => (0, 0)
  | _ => (0, 0)
theorem pair_of {t : T} {v : V} {p : Int × Int} (h : Rp K H X t v) (e : t.asPair = some p) : t = encP p ∧ (∃ a, v = .ref a ∧ H a = some (.tup [.int p.1, .int p.2])) ∧ kOf H v = p := by
  unfold T.asPair at e
  split at e
  · rename_i a b
    cases e
    cases h with
    | @tup ad _ us h1 h2 h3 h4 =>
      match us, h3 with
      | [u, w], _ =>
        have e1 := rp_int (h4 0 _ u rfl rfl)
        have e2 := rp_int (h4 1 _ w rfl rfl)
        subst e1 e2
        refine ⟨rfl, ⟨ad, rfl, h1⟩, ?_⟩
        unfold kOf
        simp only [h1]
  · cases e
theorem pairs_of : ∀ {ts : List T} {us : List V} {ps : List (Int × Int)}, RpAll K H X ts us → ts.mapM T.asPair = some ps →
    ts = ps.map encP ∧ us.map (kOf H) = ps ∧ ∀ u ∈ us, Rp K H X (encP (kOf H u)) u ∧ ∃ a, u = .ref a ∧ H a = some (.tup [.int (kOf H u).1, .int (kOf H u).2])
  | [], [], ps, _, e => by
    simp at e
    subst e
    exact ⟨rfl, rfl, fun u m => nomatch m⟩
  | t :: ts, u :: us, ps, h, e => by
    rw [List.mapM_cons] at e
    cases e1 : t.asPair with
    | none => rw [e1] at e; cases e
    | some p =>
      cases e2 : ts.mapM T.asPair with
      | none => rw [e1, e2] at e; cases e
      | some qs =>
        rw [e1, e2] at e
        cases e
        obtain ⟨z1, z2, z3⟩ := pair_of h.head e1
        obtain ⟨y1, y2, y3⟩ := pairs_of h.tail e2
        refine ⟨by rw [z1, y1]; rfl, by rw [List.map_cons, z3, y2], fun w m => ?_⟩
        rcases List.mem_cons.mp m with m | m
        · subst m
          rw [z3]
          exact ⟨z1 ▸ h.head, z2⟩
        · exact y3 w m
  | [], _ :: _, _, h, _ => by have := h.1; simp at this
  | _ :: _, [], _, h, _ => by have := h.1; simp at this
end
section
variable {X : Cx}
def rSrt (X : Cx) : List V → Hp → VK → Prop := fun vs H Q => rSortedI X.K vs H Q ∨ rSortedPO X.K vs H Q
theorem callr_sorted : CallR X (.builtin "sorted") (rSrt X) := cr_sortedI.or cr_sortedPO
theorem calli_sorted : CallI X (rSrt X) sortR := by
  intro B H0 O env σ Hs H rs vs Q xc R s rx p
  unfold sortR at p
  split at p
  · rename_i x
    obtain ⟨v, rfl, r1⟩ := rx.one
    split at p
    · rename_i ns e
      obtain ⟨a, ea, ha⟩ := r1.ints e
      rw [ea]
      refine .inl ⟨a, ns, rfl, ha, fun ns' q h1 h2 nq => ?_⟩
      rw [sortI_is h1 h2]
      exact p _ _ (Same.new nq) (RR.newL R s .ints nq)
    · split at p
      · rename_i ps e
        cases ex : x.d with
        | lst l =>
          rw [ex] at e
          obtain ⟨a, us, ea, ha, ra⟩ := r1.lst ex
          rw [ea]
          obtain ⟨z1, z2, z3⟩ := pairs_of ra e
          refine .inr ⟨a, us, kOf H, rfl, SqL.of ha, fun u m => (z3 u m).2, fun ys q h1 h2 nq => ?_⟩
          have pm : (ys.map (kOf H)).Perm ps := by rw [← z2]; exact h2.perm.map _
          have e2 : ys.map (kOf H) = sortP ps := sortP_is pm (List.pairwise_map.mpr h1)
          have ra2 : RpAll X.K H (Ex B O) ((sortP ps).map encP) ys := by
            rw [← e2]
            refine ⟨by simp, fun i t u a b => ?_⟩
            rw [List.map_map, List.getElem?_map, b] at a
            cases a
            exact (z3 u (h2.perm.mem_iff.mp (List.mem_of_getElem? b))).1
          exact p _ _ (Same.new nq) (RR.newL R s ra2 nq)
        | _ => rw [ex] at e; cases e
      · exact p.elim
  · exact p.elim
end

/-! ### the law -/
def spLaw (K : PySem.W.Frag) : Sp := fun vs H Q _ => ∃ (a : Addr) (ns : List Int), vs = [.ref a] ∧ SqL K H a (ns.map V.int) ∧ ns.length ≤ 63 ∧ ∀ H', Q (.bl true) H'
theorem law_T {P : Program} {w : World} {K : PySem.W.Frag} {mg : Str → Option Value} {base : Heap} {CX : CXT} {k : Nat} {f : Addr} {fd : FuncData} {ps : List Str} {F : List T → Res R} (h : FnOk P w K mg base CX k f fd ps (SpT K 1 F))
    (hF : ∀ ns : List Int, ns.length ≤ 63 → F [.scr ns] = .ok (.sh (.bl true))) : FnOk P w K mg base CX k f fd ps (spLaw K) := h.imp fun vs H Q E q => by
  obtain ⟨a, ns, rfl, hS, hl, q⟩ := q
  refine ⟨[.scr ns], ⟨fun _ => False, fun _ => none⟩, fun _ z => z.elim, .one (.scr ?_), rfl, ?_⟩
  · rcases hS with h | h
    · exact .inl ⟨h, fun z => z⟩
    · exact .inr h
  · rw [hF ns hl]
    intro v H' s r
    rw [rp_bl r]
    exact q H'
end Tr
namespace Tr
open PySem L2

/-! ### a op b op c op d -/
def tChain3 (r r' r'' : R2) (ta tb tc td : TE) : TE := fun σ H Q => ta σ H fun x H1 => tb σ H1 fun y H2 => r x y H2 fun z H3 => ∃ k, z = .bl k ∧
  (if k = true then tc σ H3 fun w' H4 => r' y w' H4 fun z2 H5 => ∃ k2, z2 = .bl k2 ∧ (if k2 = true then td σ H5 fun w2 H6 => r'' w' w2 H6 Q else Q (.bl false) H5) else Q (.bl false) H3)
def ch3 (g g' g'' : R → R → Res R) (f f' f'' f3 : En → Res R) (env : En) : Res R := (f env).bind fun x => (f' env).bind fun y => (g x y).bind fun z => (asB z).bind fun b =>
  if b then (f'' env).bind fun w => (g' y w).bind fun z2 => (asB z2).bind fun b2 => if b2 then (f3 env).bind fun w2 => g'' w w2 else .ok (.sh (.bl false)) else .ok (.sh (.bl false))
section
variable {X : Cx} {EX : L2.St → XK} {a b c d : Expr} {f f' f'' f3 : En → Res R} {g g' g'' : R → R → Res R} {r r' r'' : R2} {pos : Pos} {ta tb tc td : TE}
theorem pe_chain3 {op op' op'' : CmpOp} (ho : OpR X (compareOp op) r) (ho' : OpR X (compareOp op') r') (ho'' : OpR X (compareOp op'') r'') (ha : PE X a ta) (hb : PE X b tb) (hc : PE X c tc) (hd : PE X d td)
    (hm : lastMarks [op, op', op''] [b, c, d] = false := by with_unfolding_all rfl) : PE X (.Compare a [op, op', op''] [b, c, d] pos) (tChain3 r r' r'' ta tb tc td) := by
  refine ⟨fun pins s σ H Q I h => ?_⟩
  refine PyProof.Rows.Compare_chain (thn (ha.run pins s σ H _ I h) fun v s1 hv => PyProof.Rows.chain_link ?_) hm
  obtain ⟨x, H1, I1, r1, q1⟩ := hv
  refine thn (hb.run pins s1 σ H1 _ I1 q1) fun u s2 hu => ?_
  obtain ⟨y, H2, I2, r2, q2⟩ := hu
  refine thn (ho pins s2 σ H2 x y v u _ I2 r1 r2 q2) fun e s3 he => ?_
  obtain ⟨z, H3, I3, r3, k, ez, q3⟩ := he
  subst ez
  cases r3
  refine wpAny_truthy_bool ?_
  cases k with
  | false => exact PyProof.Rows.ite_ff ⟨.bl false, H3, I3, rfl, q3⟩
  | true =>
    refine PyProof.Rows.ite_tt (PyProof.Rows.chain_link ?_)
    refine thn (hc.run pins s3 σ H3 _ I3 q3) fun u2 s4 hu2 => ?_
    obtain ⟨y2, H4, I4, r4, q4⟩ := hu2
    refine thn (ho' pins s4 σ H4 y y2 u u2 _ I4 r2 r4 q4) fun e s5 he => ?_
    obtain ⟨z, H5, I5, r5, k, ez, q5⟩ := he
    subst ez
    cases r5
    refine wpAny_truthy_bool ?_
    cases k with
    | false => exact PyProof.Rows.ite_ff ⟨.bl false, H5, I5, rfl, q5⟩
    | true =>
      refine PyProof.Rows.ite_tt (PyProof.Rows.chain_last ?_)
      refine thn (hd.run pins s5 σ H5 _ I5 q5) fun u3 s6 hu3 => ?_
      obtain ⟨y3, H6, I6, r6, q6⟩ := hu3
      exact ho'' pins s6 σ H6 y2 y3 u2 u3 Q I6 r4 r6 q6
theorem ej_chain3 {op op' op'' : CmpOp} (ho : OpR X (compareOp op) r) (ho' : OpR X (compareOp op') r') (ho'' : OpR X (compareOp op'') r'') (hg : OpI X r g) (hg' : OpI X r' g') (hg'' : OpI X r'' g'')
    (ha : EJ X EX a f) (hb : EJ X EX b f') (hc : EJ X EX c f'') (hd : EJ X EX d f3)
    (hm : lastMarks [op, op', op''] [b, c, d] = false := by with_unfolding_all rfl) : EJ X EX (.Compare a [op, op', op''] [b, c, d] pos) (ch3 g g' g'' f f' f'' f3) := by
  obtain ⟨t, pe, i⟩ := ha.ex
  obtain ⟨t', pe', i'⟩ := hb.ex
  obtain ⟨t'', pe'', i''⟩ := hc.ex
  obtain ⟨t3, pe3, i3⟩ := hd.ex
  refine ⟨⟨_, pe_chain3 ho ho' ho'' pe pe' pe'' pe3 hm, fun B H0 O env σ H Q R p => ?_⟩⟩
  refine i B H0 O env σ H _ R (p.bind.mono (fun _ _ x => x) fun x q v H1 s r1 => ?_)
  refine i' B H0 O env σ H1 _ (R.mono s) ((q.bind.up s).mono (fun _ _ x => x) fun y q2 w H2 s2 r2 => ?_)
  refine hg B H0 O env σ H H2 x y v w _ _ R (s.trans s2) (r1.mono s2) (r2.down s) (q2.bind.mono (fun _ _ x => x) fun z q3 u H3 s3 r3 => ?_)
  have q4 := q3.bind
  unfold asB at q4
  cases e : z.d with
  | bl k =>
    rw [e] at q4
    have s4 := (s.trans s2).trans s3
    refine ⟨k, r3.bl e, ?_⟩
    cases k with
    | false => exact iteF (q4 _ H3 s4 (Rp.bl false))
    | true =>
      simp only [if_true] at q4
      refine iteT (i'' B H0 O env σ H3 _ (R.mono s4) ((Post.bind q4).up s4 |>.mono (fun _ _ x => x) fun w' q5 u' H4 s5 r5 => ?_))
      refine hg' B H0 O env σ H H4 y w' w u' _ _ R (s4.trans s5) ((r2.down s).mono (s3.trans s5)) (r5.down s4) (q5.bind.mono (fun _ _ x => x) fun z2 q6 u2 H5 s6 r6 => ?_)
      have q7 := q6.bind
      unfold asB at q7
      cases e2 : z2.d with
      | bl k2 =>
        rw [e2] at q7
        have s7 := (s4.trans s5).trans s6
        refine ⟨k2, r6.bl e2, ?_⟩
        cases k2 with
        | false => exact iteF (q7 _ H5 s7 (Rp.bl false))
        | true =>
          simp only [if_true] at q7
          refine iteT (i3 B H0 O env σ H5 _ (R.mono s7) ((Post.bind q7).up s7 |>.mono (fun _ _ x => x) fun w2 q8 u3 H6 s8 r8 => ?_))
          exact hg'' B H0 O env σ H H6 w' w2 u' u3 Q _ R (s7.trans s8) ((r5.down s4).mono (s6.trans s8)) (r8.down s7) (q8.mono (fun _ _ x => x) fun z q9 u H' s9 r9 => q9 u H' ((s7.trans s8).trans s9) r9)
      | _ => rw [e2] at q7; exact q7.elim
  | _ => rw [e] at q4; exact q4.elim
end

/-! ### a def that may be called -/
structure Cal (P : Program) (w : World) (K : PySem.W.Frag) (mg : Str → Option Value) (base : Heap) (x : Str) (k n : Nat) (F : List T → Res R) : Prop where
  ex : ∃ (f : Addr) (fd : FuncData) (ps : List Str), mg x = some (.ref f) ∧ PySem.W.keepIn K (.ref f) = true ∧ Binds K fd ps [] ∧ FnOk P w K mg base (L2.CX P w) k f fd ps (SpT K n F)
section
variable {X : Cx} {EX : L2.St → XK} {e : Expr} {es : List Expr} {g : En → Res (List R)} {F : List T → Res R} {j k n : Nat} {x : Str} {p pos : Pos}
theorem ej_cal (C : Cal X.prog X.w X.K X.mg X.base x j n F) (hr : Room k X.A) (hjk : j ≤ k) (hx : ∀ σ, PassesAt (L2.CX X.prog X.w) X σ (EX σ)) (hg : Gl X x)
    (ha : AJ X EX (e :: es) g) (hn : ∀ env rs, g env = .ok rs → rs.length = n) (hdb : (x == ("__debug__" : Str)) = false := by decide) (he : starEach (e :: es) X.env = (false, eval e X.env) :: starEach es X.env := by rfl) (hpl : (backTo pos (starEach es X.env)).any (·.1) = false := by rfl) :
    EJ X EX (.Call (.Name x p) (e :: es) [] pos) (fCall F g) := by
  obtain ⟨f, fd, ps, h1, h2, h3, h4⟩ := C.ex
  exact ej_call h4 (hr.mono hjk) hg h1 h2 h3 hx ha hn hdb he hpl
theorem hx0 : ∀ σ, PassesAt (L2.CX X.prog X.w) X σ (EX0 σ) := fun σ pins H s e s' _ h => by
  obtain ⟨_, _, _, _, _, _, _, _, _, _, _, _, z⟩ := h
  exact z.elim
end
section
variable {P : Program} {w : World} {K : PySem.W.Frag} {mg : Str → Option Value} {base : Heap} {N : List Str} {qual : Str} {sc : Scope} {f : Addr} {cdv : Value} {A : Around} {outer : List Env} {s : Shared} {H : Hp} {E : XK}
theorem tkB : Takes (cxOf (L2.CX P w) P w K mg base N qual sc f cdv A outer s H E) (fun cls d _ H => E cls d H) := takes_of rfl rfl rfl rfl
theorem hxB : ∀ σ : L2.St, PassesAt (L2.CX P w) (cxOf (L2.CX P w) P w K mg base N qual sc f cdv A outer s H E) σ ((fun _ => E : L2.St → XK) σ) := fun σ pins H' s' e s'' I c =>
  passes_call tkB (fun _ _ _ _ h => h) pins σ H' s' e s'' I c
theorem poB : PassesOwn (model P w) (cxOf (L2.CX P w) P w K mg base N qual sc f cdv A outer s H E).A (cxOf (L2.CX P w) P w K mg base N qual sc f cdv A outer s H E).env (cxOf (L2.CX P w) P w K mg base N qual sc f cdv A outer s H E).xe := passes_of rfl
end
section
variable {A : Around} {k : Nat}
theorem hu65 (hr : Room k A) : A.units + 65 < cLine := by have := hr.un; omega
theorem hu64 (hr : Room k A) : A.units + 64 < cLine := by have := hr.un; omega
theorem hu1 (hr : Room k A) : A.units + 1 < cLine := by have := hr.un; omega
end
theorem fn_T2 {P : Program} {w : World} {K : PySem.W.Frag} {mg : Str → Option Value} {base : Heap} {x qual : Str} {st : Stmt} {f : Addr} {fd : FuncData} {N ps : List Str} {k n m : Nat} {body : En → Out} (F : Fun K x qual st f fd) (S : FnScope N ps (defScope st)) (hn : ps.length = n) (hm : N.length = m)
    (hb : ∀ (cdv : Value) (A : Around) (outer : List Env) (s : Shared) (H : Hp) (E : XK), Room k (A.deeper (PyProof.Rows.envOfC qual (defScope st) s.heap.objs.size f cdv)) →
      SsJ (cxOf (L2.CX P w) P w K mg base N qual (defScope st) f cdv A outer s H E) (fun _ => E) (defBody st) body) :
    FnOk P w K mg base (L2.CX P w) (k + 1) f fd ps (SpT K n (runF m body)) := by
  subst hn hm
  exact fn_T F S hb
theorem cal_mk {P : Program} {w : World} {K : PySem.W.Frag} {mg : Str → Option Value} {base : Heap} {x qual : Str} {st : Stmt} {f : Addr} {fd : FuncData} {ps : List Str} {k n : Nat} {F : List T → Res R} (F0 : Fun K x qual st f fd) (hm : mg x = some (.ref f)) (b : Binds K fd ps [])
    (h : FnOk P w K mg base (L2.CX P w) k f fd ps (SpT K n F)) : Cal P w K mg base x k n F := ⟨f, fd, ps, hm, F0.kp, b, h⟩
end Tr
namespace Tr
open PySem L2
theorem nomk {op : CmpOp} (b : Expr) (h : (op == .In || op == .NotIn) = false := by rfl) : behindInMarks op b = false := by
  unfold behindInMarks
  split
  · rename_i elts k p
    rw [h, Bool.and_false, Bool.false_and]
  · rfl
section
variable {X : Cx} {EX : L2.St → XK} {e : Expr} {es : List Expr} {f : En → Res R} {g : En → Res (List R)} {F : List T → Res R} {j k n : Nat} {x : Str} {p pos : Pos}
theorem bj_call {fn : Expr} {args : List Expr} {kw : List Keyword} (h : EJ X EX (.Call fn args kw pos) f) : BJ X EX (.Call fn args kw pos) (fTru f) := bj_tru h
theorem bj_name (h : EJ X EX (.Name x pos) f) : BJ X EX (.Name x pos) (fTru f) := bj_tru h
theorem bj_sub {a b : Expr} (h : EJ X EX (.Subscript a b pos) f) : BJ X EX (.Subscript a b pos) (fTru f) := bj_tru h
theorem bj_attr {a : Expr} {y : Str} (h : EJ X EX (.Attribute a y pos) f) : BJ X EX (.Attribute a y pos) (fTru f) := bj_tru h
theorem ej_gintE {n : Int} (hg : Gl X x) (hm : ∃ t, X.mg x = some (.int n t)) (hd : (x == ("__debug__" : Str)) = false := by decide) : EJ X EX (.Name x pos) (fC (.int n)) := by
  obtain ⟨t, h⟩ := hm
  exact ej_gint hg h ⟨t, rfl⟩ hd
theorem ej_gstrE {n : Str} (hk : PyData.strOk n = true) (hg : Gl X x) (hm : ∃ t, X.mg x = some (.str n t)) (hd : (x == ("__debug__" : Str)) = false := by decide) : EJ X EX (.Name x pos) (fC (.str n)) := by
  obtain ⟨t, h⟩ := hm
  exact ej_gstr hk hg h ⟨t, rfl⟩ hd
theorem ej_cal0 (C : Cal X.prog X.w X.K X.mg X.base x j n F) (hr : Room k X.A) (hjk : j ≤ k) (hg : Gl X x)
    (ha : AJ X EX0 (e :: es) g) (hn : ∀ env rs, g env = .ok rs → rs.length = n) (hdb : (x == ("__debug__" : Str)) = false := by decide) (he : starEach (e :: es) X.env = (false, eval e X.env) :: starEach es X.env := by rfl) (hpl : (backTo pos (starEach es X.env)).any (·.1) = false := by rfl) :
    EJ X EX0 (.Call (.Name x p) (e :: es) [] pos) (fCall F g) := ej_cal C hr hjk hx0 hg ha hn hdb he hpl
theorem sw_tru2 {elt : Expr} {gens : List Comprehension} {scope : Scope} {pos py : Pos} {y : Str} {ln : Nat} {env : Env} (h1 : env.blockKind = .function) (h2 : env.kindOf y = some .local) (h3 : (py.line == pos.line) = true)
    (h4 : (scope.names.any fun p => p.1 == y && (p.2 == .local || p.2 == .cell)) = false) : swapsWith (.ListComp elt gens scope pos) (some (.Name y py)) ln env = pure true := by
  unfold swapsWith
  simp only [h1, h2]
  show pure (_ && _ && (py.line == pos.line) && !(scope.names.any fun p => p.1 == y && (p.2 == .local || p.2 == .cell))) = _
  rw [h3, h4]
  rfl
end
end Tr
namespace Tr
open PySem L2
/-! ### a, b = a list -/
def gL (n : Nat) (gs : List T → En → Option En) (d : T) (env : En) : Option En := match d with
  | .lst l => if l.length = n then gs l env else none
  | _ => none
theorem gj_lst {X : Cx} {es : List Expr} {gs : List T → En → Option En} {pos : Pos} {n k : Nat} {is : List Nat} (hc : X.calm = true) (h : GsJ X es is gs) (hn : (assignEach es X.env).length = n := by rfl) (hst : (assignEach es X.env).findIdx? (·.1) = none := by rfl) : GJ X (.Tuple es k pos) is (gL n gs) := by
  obtain ⟨t, pg, i⟩ := h.ex
  refine ⟨⟨_, pg_unl hc pg hn hst, fun B H0 O env σ H v d Q R r p => ?_⟩⟩
  unfold gL at p
  cases d with
  | lst l =>
    cases r with
    | lst h1 h2 h3 h4 =>
      simp only at p
      by_cases c : l.length = n
      · rw [if_pos c] at p
        exact ⟨_, _, rfl, SqL.of h1, by rw [← h3]; exact c, i B H0 O env σ H _ l Q R ⟨h3, h4⟩ p⟩
      · rw [if_neg c] at p; exact p.elim
  | _ => exact p.elim
/-! ### dicts: displays -/
def T.key : T → Option Key
  | .int i => some (.inl i)
  | .str x => some (.inr x)
  | _ => none
def fDk0 (_ : En) : Res R := .ok (.fr (.dik []))
def fDt0 (_ : En) : Res R := .ok (.fr (.dit []))
def dk1O (k : Option Key) (v : R) : Res R := match k with
  | some k => if v.kp = true then .ok (.fr (.dik [(k, v.d)])) else .bad
  | none => .bad
def fDk1 (f g : En → Res R) (env : En) : Res R := (f env).bind fun k => (g env).bind fun v => dk1O k.d.key v
theorem rp_key {K : PySem.W.Frag} {H : Hp} {B : Xs} {t : T} {v : V} {k : Key} (h : Rp K H B t v) (e : t.key = some k) : v = kV k := by
  cases h <;> cases e <;> rfl
section
variable {X : Cx} {EX : L2.St → XK} {a b : Expr} {f g : En → Res R} {pos : Pos}
theorem ej_dk0 : EJ X EX (.Dict [] [] pos) fDk0 := by
  refine ⟨⟨_, pe_dnewK, fun B H0 O env σ H Q R p q nq => ?_⟩⟩
  exact p _ _ (Same.new nq) ⟨q, _, rfl, nq, upd_same, .dik rfl .nil⟩
theorem ej_dt0 : EJ X EX (.Dict [] [] pos) fDt0 := by
  refine ⟨⟨_, pe_dnewT, fun B H0 O env σ H Q R p q nq => ?_⟩⟩
  exact p _ _ (Same.new nq) ⟨q, _, rfl, nq, upd_same, .dit rfl .nil⟩
theorem ej_dk1 (ha : EJ X EX a f) (hb : EJ X EX b g) : EJ X EX (.Dict [some a] [b] pos) (fDk1 f g) := by
  obtain ⟨t, pe, i⟩ := ha.ex
  obtain ⟨t', pe', i'⟩ := hb.ex
  refine ⟨⟨_, pe_disp (pps_cons pe pe' pps_nil) rfl rfl (by simp) (by simp), fun B H0 O env σ H Q R p D hD => ?_⟩⟩
  have s0 : Same H (upd H D (.dK [])) := Same.new hD
  have Rb := R.block s0 hD upd_same (⟨fun us z => (by cases z), fun us z => (by cases z)⟩) [] (by simp)
  have exE : ∀ a, Ex (B.add D) O a ↔ (Ex B O a ∨ a = D) := fun a => ⟨fun z => by
      rcases z with (z | z) | z
      · exact .inl (.inl z)
      · exact .inr z
      · exact .inl (.inr z), fun z => by
      rcases z with (z | z) | z
      · exact .inl (.inl z)
      · exact .inr z
      · exact .inl (.inr z)⟩
  have xc : ∀ {H1 : Hp}, Same H H1 → ∀ c pl, XC X.K B O EX σ H c pl → XC X.K (B.add D) O EX σ H1 c pl := fun s c pl x H' d a ea s' z => x H' d a ea (s.trans s') (by
    cases pl with
    | none => exact z
    | some t =>
      obtain ⟨a, v, z1, z2, z3⟩ := z
      exact ⟨a, v, z1, z2, z3.anti fun b zb => (exE b).mpr (.inl zb)⟩)
  refine i _ H0 O env σ _ _ Rb (p.bind.mono (xc s0) fun x q v H1 s1 r1 => ?_)
  have s01 := s0.trans s1
  refine i' _ H0 O env σ H1 _ (Rb.mono s1) (q.bind.mono (xc s01) fun y q2 w H2 s2 r2 => ?_)
  have s02 := s01.trans s2
  have hD2 : H2 D = some (.dK []) := s2 _ _ (s1 _ _ upd_same)
  unfold dk1O at q2
  split at q2
  · rename_i k ek
    split at q2
    · rename_i kp
      have ev : v = kV k := rp_key r1.rp0 ek
      have rw' := r2.rp (Rb.mono s1) kp
      refine ⟨hD2, [(k, w)], by rw [ev]; rfl, by simp, ?_⟩
      have sm : Same H (upd H2 D (.dK [(k, w)])) := fun b o e => by rw [upd_ne (ne_of_none e hD)]; exact s02 _ _ e
      refine q2 (.ref D) _ sm ⟨D, _, rfl, hD, upd_same, ?_⟩
      refine .dik rfl ?_
      have all : RpAll X.K H2 ((Ex B O).add D) [y.d] [w] := .one (rw'.anti fun a z => (exE a).mpr z)
      exact all.keep ⟨fun a o e n => ⟨by rw [upd_ne (fun z => n (.inr z))]; exact e, n⟩, fun _ _ e => e⟩
    · exact q2.elim
  · exact q2.elim
end
end Tr
namespace Tr
open PySem L2
/-! ### objects: their attributes -/
section
variable {K : PySem.W.Frag} {H H' : Hp} {X : Xs}
theorem look_rel {f : Str} : ∀ {fs : List (Str × T)} {us : List (Str × V)} {t : T}, fs.map (·.1) = us.map (·.1) → RpAll K H X (fs.map (·.2)) (us.map (·.2)) → fs.lookup f = some t → ∃ u, us.lookup f = some u ∧ Rp K H X t u
  | [], _, _, _, _, h => by cases h
  | (g, t0) :: fs, [], _, e, _, _ => by simp at e
  | (g, t0) :: fs, (g', u0) :: us, t, e, r, h => by
    simp only [List.map_cons, List.cons.injEq] at e
    obtain ⟨rfl, e⟩ := e
    rw [List.lookup_cons] at h
    rw [List.lookup_cons]
    by_cases q : (f == g) = true
    · rw [q] at h ⊢
      cases h
      exact ⟨u0, rfl, r.head⟩
    · have q' : (f == g) = false := by simpa using q
      rw [q'] at h ⊢
      exact look_rel e r.tail h
/-- an attribute stored -/
def putFT (f : Str) (t : T) : List (Str × T) → List (Str × T)
  | [] => [(f, t)]
  | (g, x) :: r => if g = f then (g, t) :: r else (g, x) :: putFT f t r
theorem put_rel {f : Str} {t : T} {u : V} (ht : Rp K H X t u) : ∀ {fs : List (Str × T)} {us : List (Str × V)}, fs.map (·.1) = us.map (·.1) → RpAll K H X (fs.map (·.2)) (us.map (·.2)) →
    (putFT f t fs).map (·.1) = (putF f u us).map (·.1) ∧ RpAll K H X ((putFT f t fs).map (·.2)) ((putF f u us).map (·.2))
  | [], [], _, _ => ⟨rfl, .one ht⟩
  | (g, t0) :: fs, [], e, _ => by simp at e
  | [], (g, u0) :: us, e, _ => by simp at e
  | (g, t0) :: fs, (g', u0) :: us, e, r => by
    simp only [List.map_cons, List.cons.injEq] at e
    obtain ⟨rfl, e⟩ := e
    by_cases q : g = f
    · have e1 : putFT f t ((g, t0) :: fs) = (g, t) :: fs := by show (if g = f then _ else _) = _; rw [if_pos q]
      have e2 : putF f u ((g, u0) :: us) = (g, u) :: us := by show (if g = f then _ else _) = _; rw [if_pos q]
      rw [e1, e2]
      exact ⟨by simp [e], .cons ht r.tail⟩
    · have e1 : putFT f t ((g, t0) :: fs) = (g, t0) :: putFT f t fs := by show (if g = f then _ else _) = _; rw [if_neg q]
      have e2 : putF f u ((g, u0) :: us) = (g, u0) :: putF f u us := by show (if g = f then _ else _) = _; rw [if_neg q]
      obtain ⟨i1, i2⟩ := put_rel (f := f) ht e r.tail
      rw [e1, e2]
      exact ⟨by simp [i1], .cons r.head i2⟩
end
section
variable {K : PySem.W.Frag} {B : Bs} {O : Ow} {H H' : Hp} {r : R} {v : V}
theorem RR.obj {C : Nat} {fs : List (Str × T)} (h : RR K B O H H' r v) (e : r.d = .obj C fs) : ∃ a c dx us, clsA K C = some c ∧ v = .ref a ∧ H' a = some (.ins c dx us) ∧ fs.map (·.1) = us.map (·.1) ∧ RpAll K H' (Ex B O) (fs.map (·.2)) (us.map (·.2)) := by
  cases r with
  | sh d =>
    cases e
    cases h with
    | obj h0 h1 h2 h3 h4 h5 => exact ⟨_, _, _, _, h0, rfl, h1, h3, h4, h5⟩
  | fr d =>
    cases e
    obtain ⟨p, ho, e, n, h1, h2⟩ := h
    cases h2 with
    | obj h0 q h2 => exact ⟨p, _, _, _, h0, e, h1, q, h2.anti fun _ z => .inl z⟩
  | bo i d =>
    cases e
    obtain ⟨a, ho, e, n, h1, h2⟩ := h
    cases h2 with
    | obj h0 q h2 => exact ⟨a, _, _, _, h0, n, h1, q, h2⟩
  | vw d =>
    cases e
    obtain ⟨a, ho, _, n, h1, h2⟩ := h
    cases h2 with
    | obj h0 q h2 => exact ⟨a, _, _, _, h0, n, h1, q, h2⟩
end
def atO (o : Option T) : Res R := match o with
  | some t => .ok (.sh t)
  | none => .bad
def atT (Cs : List Nat) (f : Str) (t : T) : Res R := match t with
  | .obj C fs => if C ∈ Cs then atO (fs.lookup f) else .bad
  | _ => .bad
def fAt (Cs : List Nat) (f : Str) (g : En → Res R) (env : En) : Res R := (g env).bind fun x => atT Cs f x.d
structure AtOk (K : PySem.W.Frag) (f : Str) (C : Nat) : Prop where
  c : ∀ c, clsA K C = some c → Cls K c
  n : ∀ c, clsA K C = some c → NoAttr K c f
section
variable {X : Cx} {EX : L2.St → XK} {e o : Expr} {es : List Expr} {g : En → Res R} {ga : En → Res (List R)} {f m : Str} {p pos apos pos' : Pos} {Cs : List Nat} {st : Stmt}
theorem ej_at (Cs : List Nat) (he : EJ X EX e g) (hc : ∀ C ∈ Cs, AtOk X.K f C) (hb : attributeBase e f X.env (eval e X.env) = eval e X.env := by rfl) : EJ X EX (.Attribute e f pos) (fAt Cs f g) := by
  obtain ⟨t, pe, i⟩ := he.ex
  refine ⟨⟨_, pe_fld pe hb, fun B H0 O env σ H Q R p => ?_⟩⟩
  refine i B H0 O env σ H _ R (p.bind.mono (fun _ _ x => x) fun x q v H1 s r1 => ?_)
  unfold atT at q
  split at q
  · rename_i C fs ex
    split at q
    · rename_i mem
      unfold atO at q
      split at q
      · rename_i t el
        obtain ⟨a, c, dx, us, ec, ev, ea, e1, e2⟩ := r1.obj ex
        obtain ⟨u, lu, ru⟩ := look_rel e1 e2 el
        exact ⟨a, c, dx, us, u, ev, ea, (hc C mem).c c ec, (hc C mem).n c ec, lu, q u H1 s ru⟩
      · exact q.elim
    · exact q.elim
  · exact q.elim
/-- what an object's slot holds -/
def obS : Option Sl → Option (Bool × T)
  | some (.ow d) => some (false, d)
  | some (.sf d) => some (true, d)
  | _ => none
def mkS (b : Bool) (d : T) : Sl := if b = true then .sf d else .ow d
/-- x.f = e -/
def paT (Cs : List Nat) (f : Str) (b : Bool) (d : T) (r : R) (i : Nat) (env : En) : Out := match d with
  | .obj C fs => if r.kp = true ∧ C ∈ Cs ∧ fs.length < 1000 then .nx (env.set i (mkS b (.obj C (putFT f r.d fs)))) else .bad
  | _ => .bad
def paS (s : Option Sl) (Cs : List Nat) (f : Str) (r : R) (i : Nat) (env : En) : Out := match obS s with
  | some (b, d) => paT Cs f b d r i env
  | none => .bad
def fPa (Cs : List Nat) (i : Nat) (f : Str) (u : En → Res R) (env : En) : Out := (u env).out (fun r env => paS env[i]? Cs f r i env) env
/-- an object in a slot is changed by somebody -/
theorem Rel.swap {K : PySem.W.Frag} {B : Bs} {H0 H H' : Hp} {O : Ow} {env : En} {σ : L2.St} {i : Nat} (R0 : Rel K B H0 O env σ H) {a : Addr} {b : Bool} {d d' : T} {ho' : HO} (he : env[i]? = some (mkS b d)) (ha : O[i]? = some (some a))
    (ag : ∀ b o, H b = some o → b ≠ a → H' b = some o) (h' : H' a = some ho') (h : OwnRp K H' (Ex B O) d' ho') :
    Rel K B H0 O (env.set i (mkS b d')) σ H' ∧ Keep (Ex B O) H (Ex B O) H' := by
  have hi : i < env.length := (List.getElem?_eq_some_iff.mp he).1
  have h0 := R0.slot i _ he
  cases b with
  | false =>
    obtain ⟨a', ho, h1, h2, h3, h4⟩ := h0
    rw [ha] at h1
    cases h1
    exact R0.chg (s := .ow d') hi ha ag h' h.ntup rfl ⟨a, ho', ha, h2, h', h⟩
  | true =>
    obtain ⟨a', ho, h1, h2, h3, h4, h5⟩ := h0
    rw [ha] at h1
    cases h1
    exact R0.chg (s := .sf d') hi ha ag h' h.ntup rfl ⟨a, ho', ha, h2, h', h, h5⟩
/-- an object in a slot is changed and not spoken of any more -/
theorem Rel.lost {K : PySem.W.Frag} {B : Bs} {H0 H H' : Hp} {O : Ow} {env : En} {σ : L2.St} {i : Nat} (R0 : Rel K B H0 O env σ H) {a : Addr} {d : T} (hi : i < env.length) (ha : O[i]? = some (some a)) (ag : ∀ b o, H b = some o → b ≠ a → H' b = some o) :
    Rel K B H0 (O.set i none) (env.set i .no) σ H' ∧ Keep (Ex B O) H (Ex B (O.set i none)) H' := by
  have hn : i < B.n := R0.lenN ▸ hi
  have exs : ∀ b, Ex B (O.set i none) b → Ex B O b := fun b z => by
    rcases z with z | ⟨j, z⟩
    · exact .inl z
    · rcases getElem?_set' z with ⟨_, _, e⟩ | ⟨_, e⟩
      · cases e
      · exact .inr ⟨j, e⟩
  have kp : Keep (Ex B O) H (Ex B (O.set i none)) H' := ⟨fun b o e n => ⟨ag b o e fun z => n (by rw [z]; exact .inr ⟨i, ha⟩), fun z => n (exs b z)⟩, fun k a e => (cs_set hn k).trans e⟩
  refine ⟨R0.setO (s := .no) (w := none) hi σ (.inr rfl) (fun b o e => ag b o (R0.same b o e) fun q => by rw [q, (R0.own i a ha).1] at e; cases e) kp (fun b z => ?_) (fun m b o hm e1 e2 => ag b o e2 fun q => hm (R0.uniq m i a (by rw [← q]; exact e1) ha)) (fun _ e => by cases e) (fun z => by cases z) (by rw [SlOk, List.getElem?_set, if_pos rfl, if_pos (R0.lenE hi)]), kp⟩
  obtain ⟨o, e, nt⟩ := R0.there b z
  exact ⟨o, ag b o e fun q => (R0.own i a ha).2.1 (by rw [← q]; exact z), nt⟩
theorem obS_some {s : Option Sl} {b : Bool} {d : T} (h : obS s = some (b, d)) : s = some (mkS b d) := by
  cases s with
  | none => cases h
  | some s => cases s <;> cases h <;> rfl
/-- what stands in an object's slot -/
theorem obj_slot {K : PySem.W.Frag} {B : Bs} {H0 H : Hp} {O : Ow} {env : En} {σ : L2.St} {i : Nat} {b : Bool} {d : T} (R0 : Rel K B H0 O env σ H) (h : env[i]? = some (mkS b d)) : ∃ a ho, O[i]? = some (some a) ∧ σ[i]? = some (some (.ref a)) ∧ H a = some ho ∧ OwnRp K H (Ex B O) d ho := by
  have h0 := R0.slot i _ h
  cases b with
  | false => exact h0
  | true =>
    obtain ⟨a, ho, h1, h2, h3, h4, h5⟩ := h0
    exact ⟨a, ho, h1, h2, h3, h4⟩
theorem sj_pa (Cs : List Nat) (i : Nat) {x : Str} {u : En → Res R} {pn : Pos} (he : EJ X EX e u) (hc : ∀ C ∈ Cs, AtOk X.K f C) (hN : X.N[i]? = some x := by rfl) (hv : Vis X.env.scope x := by first | exact Or.inl rfl | exact Or.inr (Or.inl rfl) | exact Or.inr (Or.inr rfl)) (hd : (x == ("__debug__" : Str)) = false := by decide) (hcd : (x == ("__classdict__" : Str)) = false := by decide)
    (hs : swapsWith e (some (.Attribute (.Name x pn) f pos')) pos.line X.env = pure false := by rfl) : SJ X EX (.Assign [.Attribute (.Name x pn) f pos'] e pos) (fPa Cs i f u) := by
  obtain ⟨t, pe, k⟩ := he.ex
  have q1 : PE X (.Name x pn) (tVar i) := pe_var hN hv hd hcd
  refine ⟨⟨_, ps_fld q1 pe hs, fun B H0 O env σ H D R p => ?_⟩⟩
  refine k B H0 O env σ H _ R ((sOf_post (k := fun r env => paS env[i]? Cs f r i env) R p).mono (fun _ _ x => x) fun r q v H1 s r1 => ?_)
  unfold paS at q
  split at q
  · rename_i b d eo
    have R1 := R.mono s
    have es := obS_some eo
    obtain ⟨a, ho, h1, h2, h3, h4⟩ := obj_slot R1 es
    unfold paT at q
    split at q
    · rename_i C fs
      split at q
      · rename_i c
        cases h4 with
        | @obj _ cc dx _ us e0 e1 e2 =>
          refine ⟨.ref a, h2, a, cc, dx, us, rfl, h3, (hc C c.2.1).c cc e0, (hc C c.2.1).n cc e0, ?_, ?_⟩
          · have := congrArg List.length e1
            simp at this
            rw [← this]; exact c.2.2
          · obtain ⟨z1, z2⟩ := put_rel (f := f) (r1.rp R c.1) e1 e2
            have ag : ∀ b o, H1 b = some o → b ≠ a → (upd H1 a (.ins cc dx (putF f v us))) b = some o := fun b o e n => by rw [upd_ne n]; exact e
            have own : OwnRp X.K (upd H1 a (.ins cc dx (putF f v us))) (Ex B O) (.obj C (putFT f r.d fs)) (.ins cc dx (putF f v us)) :=
              .obj e0 z1 (z2.keep ⟨fun b o e n => ⟨ag b o e fun z => n (by rw [z]; exact .inr ⟨i, h1⟩), n⟩, fun _ _ e => e⟩)
            obtain ⟨R2, k2⟩ := R1.swap es h1 ag upd_same own
            exact q O σ _ R2 ((Same.keepB s).trans k2)
      · exact q.elim
    · exact q.elim
  · exact q.elim
end

/-! ### methods that change nothing -/
section
variable {X : Cx} {E : L2.St → XK} {CXt : CXT} {k : Nat} {f C : Addr} {fd : FuncData} {ps : List Str} {ds : List Value} {dvs : List V} {sp : Sp} {o e : Expr} {es : List Expr} {ta : TE} {t : TA} {m x : Str} {apos pos p : Pos}
def tMethS (C : Addr) (m : Str) (sp : Sp) (E : L2.St → XK) (ta : TE) (t : TA) : TE := fun σ H Q => ta σ H fun x H1 => ∃ a dx fs, x = .ref a ∧ H1 a = some (.ins C dx fs) ∧ fs.lookup m = none ∧ t σ H1 fun vs H2 => sp (x :: vs) H2 Q (E σ)
theorem pe_methS {pl : Sem Bool} (he : PE X o ta) (c : Cls X.K C) (hm : Meth X.K C m f) (F : FnOk X.prog X.w X.K X.mg X.base CXt k f fd ps sp) (hr : Room k X.A) (hb : Binds X.K fd ps []) (hx : ∀ σ, PassesAt CXt X σ (E σ)) (ha : PA X (e :: es) t)
    (hst : starEach (e :: es) X.env = (false, eval e X.env) :: starEach es X.env := by rfl) (hpl : (backTo pos (starEach es X.env)).any (·.1) = false := by rfl)
    (ht : eval (.Call (.Attribute o m apos) (e :: es) [] pos) X.env = (do
      let ov ← eval o X.env
      standAt apos.atName
      let (f, first) ← holding [ov] (getMethod ov m pl)
      callWith pos f first (backTo pos (starEach (e :: es) X.env)) (backToKw pos (keywordEach [] X.env))) := by rfl) :
    PE X (.Call (.Attribute o m apos) (e :: es) [] pos) (tMethS C m sp E ta t) := by
  refine ⟨fun pins s σ H Q I h => ?_⟩
  refine PySem.W.methodCall_KW (pl := pl) (thn (he.run pins s σ H _ I h) fun u s1 ⟨x, H1, I1, rx, a, dx, fs, ex, ea, l, q⟩ => ?_) ht
  subst ex
  obtain rfl : u = Value.ref a := rx
  refine getmeth_ok I1 ea c hm l ?_
  refine PySem.W.callWith_K (first := [.ref a]) (h₀ := X.base) I.ok.mod.kin hm.kp (thn (ha.run pos pins s1 σ H1 _ I1 q) fun us s2 ⟨vs, H2, I2, r, q2⟩ => ⟨I2.kIn, ?_⟩) hst hpl
  exact run_fnSD (us := .ref a :: us) (vs := .ref a :: vs) (dvs := []) F hr hb .nil (hx σ) I2 (.cons rfl r) (by rw [List.append_nil]; exact q2)
theorem pe_methS0 {pl : Sem Bool} (he : PE X o ta) (c : Cls X.K C) (hm : Meth X.K C m f) (F : FnOk X.prog X.w X.K X.mg X.base CXt k f fd ps sp) (hr : Room k X.A) (hb : Binds X.K fd ps []) (hx : ∀ σ, PassesAt CXt X σ (E σ))
    (ht : eval (.Call (.Attribute o m apos) [] [] pos) X.env = (do
      let ov ← eval o X.env
      standAt apos.atName
      let (f, first) ← holding [ov] (getMethod ov m pl)
      callWith pos f first (backTo pos (starEach [] X.env)) (backToKw pos (keywordEach [] X.env))) := by rfl) :
    PE X (.Call (.Attribute o m apos) [] [] pos) (tMethS C m sp E ta tNil) := by
  refine ⟨fun pins s σ H Q I h => ?_⟩
  refine PySem.W.methodCall_KW (pl := pl) (thn (he.run pins s σ H _ I h) fun u s1 ⟨x, H1, I1, rx, a, dx, fs, ex, ea, l, q⟩ => ?_) ht
  subst ex
  obtain rfl : u = Value.ref a := rx
  refine getmeth_ok I1 ea c hm l ?_
  exact PySem.W.callWith_K0 (first := [.ref a]) I1.kIn hm.kp (run_fnSD (us := [.ref a]) (vs := [.ref a]) (dvs := []) F hr hb .nil (hx σ) I1 (.cons rfl .nil) q)
end
/-- a method that may be called -/
structure Met (P : Program) (w : World) (K : PySem.W.Frag) (mg : Str → Option Value) (base : Heap) (C : Nat) (m : Str) (k n : Nat) (F : List T → Res R) : Prop where
  ex : ∃ (c f : Addr) (fd : FuncData) (ps : List Str), clsA K C = some c ∧ Cls K c ∧ Meth K c m f ∧ Binds K fd ps [] ∧ FnOk P w K mg base (L2.CX P w) k f fd ps (SpT K n F)
def clT (C : Nat) (m : Str) (t : T) : Bool := match t with
  | .obj D fs => decide (D = C) && (fs.lookup m).isNone
  | _ => false
/-- o.m(..) -/
def fMe (C : Nat) (m : Str) (F : List T → Res R) (g : En → Res R) (ga : En → Res (List R)) (env : En) : Res R := (g env).bind fun x => if clT C m x.d = true then (ga env).bind fun rs => callR F (x :: rs) else .bad
section
variable {X : Cx} {EX : L2.St → XK} {o e : Expr} {es : List Expr} {g : En → Res R} {ga : En → Res (List R)} {F : List T → Res R} {j k n : Nat} {C : Nat} {m : Str} {apos pos : Pos}
theorem lookup_none {f : Str} : ∀ {fs : List (Str × T)} {us : List (Str × V)}, fs.map (·.1) = us.map (·.1) → (fs.lookup f).isNone = true → us.lookup f = none
  | [], [], _, _ => rfl
  | (g, t0) :: fs, [], e, _ => by simp at e
  | [], (g, u0) :: us, e, _ => by simp at e
  | (g, t0) :: fs, (g', u0) :: us, e, h => by
    simp only [List.map_cons, List.cons.injEq] at e
    obtain ⟨rfl, e⟩ := e
    rw [List.lookup_cons] at h ⊢
    by_cases q : (f == g) = true
    · rw [q] at h; cases h
    · have q' : (f == g) = false := by simpa using q
      rw [q'] at h ⊢
      exact lookup_none e h
theorem me_core {B : Bs} {O : Ow} {H H' : Hp} {x : R} {v : V} {c : Addr} (ec : clsA X.K C = some c) (h : clT C m x.d = true) (r : RR X.K B O H H' x v) : ∃ a dx fs, v = .ref a ∧ H' a = some (.ins c dx fs) ∧ fs.lookup m = none := by
  unfold clT at h
  split at h
  · rename_i D fs ex
    rw [Bool.and_eq_true, decide_eq_true_eq] at h
    obtain ⟨rfl, h2⟩ := h
    obtain ⟨a, c', dx, us, ec', ev, ea, e1, e2⟩ := r.obj ex
    rw [ec] at ec'
    cases ec'
    exact ⟨a, dx, us, ev, ea, lookup_none e1 h2⟩
  · cases h
theorem ej_me (M : Met X.prog X.w X.K X.mg X.base C m j n F) (hr : Room k X.A) (hjk : j ≤ k) (hx : ∀ σ, PassesAt (L2.CX X.prog X.w) X σ (EX σ)) (ho : EJ X EX o g) (ha : AJ X EX (e :: es) ga) {pl : Sem Bool} (hn : ∀ env rs, ga env = .ok rs → rs.length + 1 = n)
    (hst : starEach (e :: es) X.env = (false, eval e X.env) :: starEach es X.env := by rfl) (hpl : (backTo pos (starEach es X.env)).any (·.1) = false := by rfl)
    (ht : eval (.Call (.Attribute o m apos) (e :: es) [] pos) X.env = (do
      let ov ← eval o X.env
      standAt apos.atName
      let (f, first) ← holding [ov] (getMethod ov m pl)
      callWith pos f first (backTo pos (starEach (e :: es) X.env)) (backToKw pos (keywordEach [] X.env))) := by rfl) :
    EJ X EX (.Call (.Attribute o m apos) (e :: es) [] pos) (fMe C m F g ga) := by
  obtain ⟨cc, f, fd, ps, h0, h1, h2, h3, h4⟩ := M.ex
  obtain ⟨t, pe, i⟩ := ho.ex
  obtain ⟨t', pa, i'⟩ := ha.ex
  refine ⟨⟨_, pe_methS pe h1 h2 h4 (hr.mono hjk) h3 hx pa hst hpl ht, fun B H0 O env σ H Q R p => ?_⟩⟩
  refine i B H0 O env σ H _ R (p.bind.mono (fun _ _ x => x) fun x q v H1 s r1 => ?_)
  split at q
  · rename_i c
    obtain ⟨a, dx, fs, e1, e2, e3⟩ := me_core h0 c r1
    refine ⟨a, dx, fs, e1, e2, e3, ?_⟩
    have q' : Post (XC X.K B O EX σ H) (fun rs => ga env = .ok rs ∧ Post (XC X.K B O EX σ H) (fun r => ∀ v H', Same H H' → RR X.K B O H H' r v → Q v H') (callR F (x :: rs))) (ga env) := by
      have z := q.bind
      cases eg : ga env with
      | ok rs => rw [eg] at z; exact ⟨rfl, z⟩
      | exc c p => rw [eg] at z; exact z
      | bad => rw [eg] at z; exact z
    refine i' B H0 O env σ H1 _ (R.mono s) ((q'.up s).mono (fun _ _ x => x) fun rs z vs H2 s2 r2 => ?_)
    exact call_core (rs := x :: rs) (vs := v :: vs) R (s.trans s2) ⟨r1.mono s2, r2.down s⟩ (by simp; exact hn env rs z.1) z.2
  · exact q.elim
theorem ej_me0 (M : Met X.prog X.w X.K X.mg X.base C m j 1 F) (hr : Room k X.A) (hjk : j ≤ k) (hx : ∀ σ, PassesAt (L2.CX X.prog X.w) X σ (EX σ)) (ho : EJ X EX o g) {pl : Sem Bool}
    (ht : eval (.Call (.Attribute o m apos) [] [] pos) X.env = (do
      let ov ← eval o X.env
      standAt apos.atName
      let (f, first) ← holding [ov] (getMethod ov m pl)
      callWith pos f first (backTo pos (starEach [] X.env)) (backToKw pos (keywordEach [] X.env))) := by rfl) :
    EJ X EX (.Call (.Attribute o m apos) [] [] pos) (fMe C m F g fN) := by
  obtain ⟨cc, f, fd, ps, h0, h1, h2, h3, h4⟩ := M.ex
  obtain ⟨t, pe, i⟩ := ho.ex
  refine ⟨⟨_, pe_methS0 pe h1 h2 h4 (hr.mono hjk) h3 hx ht, fun B H0 O env σ H Q R p => ?_⟩⟩
  refine i B H0 O env σ H _ R (p.bind.mono (fun _ _ x => x) fun x q v H1 s r1 => ?_)
  split at q
  · rename_i c
    obtain ⟨a, dx, fs, e1, e2, e3⟩ := me_core h0 c r1
    exact ⟨a, dx, fs, e1, e2, e3, call_core (rs := [x]) (vs := [v]) R s ⟨r1, trivial⟩ rfl q⟩
  · exact q.elim
end
end Tr
namespace Tr
open PySem L2
/-! ### methods that change their object -/
/-- the heap without the object at a -/
def wo (H : Hp) (a : Addr) : Hp := fun b => if b = a then none else H b
theorem wo_ne {H : Hp} {a b : Addr} {o : HO} (e : H b = some o) (n : b ≠ a) : wo H a b = some o := by unfold wo; rw [if_neg n]; exact e
theorem of_wo {H : Hp} {a b : Addr} {o : HO} (e : wo H a b = some o) : H b = some o ∧ b ≠ a := by
  unfold wo at e
  split at e
  · cases e
  · rename_i n
    exact ⟨e, n⟩
theorem wo_same {H H' : Hp} {a : Addr} (s : Same (wo H a) H') : ∀ b o, H b = some o → b ≠ a → H' b = some o := fun b o e n => s b o (wo_ne e n)
def SpMV (K : PySem.W.Frag) (n : Nat) (F : List Sl → Res (T × R)) : Sp := fun vs H Q E => ∃ (d : T) (sl : List Sl) (X : Xs) (a : Addr) (ho : HO) (ws : List V), vs = .ref a :: ws ∧ (∀ b, X b → ∃ o, H b = some o ∧ nTup o) ∧ H a = some ho ∧ ¬ X a ∧
  OwnRp K H (X.add a) d ho ∧ StAll K (wo H a) H (X.add a) sl ws ∧ sl.length + 1 = n ∧
  Post (fun c p => ∀ H' dd ca, clsA K c = some ca → (∀ b o, H b = some o → b ≠ a → H' b = some o) → XRel K X H' p dd → E (.ref ca) dd H')
    (fun r => ∀ v H' ho', (∀ b o, H b = some o → b ≠ a → H' b = some o) → H' a = some ho' → OwnRp K H' (X.add a) r.1 ho' → RX K (X.add a) H H' r.2 v → Q v H') (F (.sf d :: sl))
def SpM (K : PySem.W.Frag) (n : Nat) (F : List T → Res (T × R)) : Sp := fun vs H Q E => ∃ (d : T) (ds : List T) (X : Xs) (a : Addr) (ho : HO) (ws : List V), vs = .ref a :: ws ∧ (∀ b, X b → ∃ o, H b = some o ∧ nTup o) ∧ H a = some ho ∧ ¬ X a ∧
  OwnRp K H (X.add a) d ho ∧ RpAll K H (X.add a) ds ws ∧ ds.length + 1 = n ∧
  Post (fun c p => ∀ H' dd ca, clsA K c = some ca → (∀ b o, H b = some o → b ≠ a → H' b = some o) → XRel K X H' p dd → E (.ref ca) dd H')
    (fun r => ∀ v H' ho', (∀ b o, H b = some o → b ≠ a → H' b = some o) → H' a = some ho' → OwnRp K H' (X.add a) r.1 ho' → RX K (X.add a) H H' r.2 v → Q v H') (F (d :: ds))
def outM (o : Out) : Res (T × R) := match o with
  | .nx (e : List Sl) => (match e[0]? with
    | some (Sl.sf d) => .ok (d, .sh .non)
    | _ => .bad)
  | .rm r (e : List Sl) => (match e[0]? with
    | some (Sl.sf d) => if r.kp = true then .ok (d, r) else .bad
    | _ => .bad)
  | .exc _ c p => .exc c p
  | _ => .bad
def runM (n : Nat) (body : En → Out) (ds : List T) : Res (T × R) := match ds with
  | d :: r => outM (body (.sf d :: (r.map Sl.fz ++ List.replicate (n - 1 - r.length) .no)))
  | [] => .bad
def runMV (n : Nat) (body : En → Out) (sl : List Sl) : Res (T × R) := match sl with
  | d :: r => outM (body (d :: (r ++ List.replicate (n - 1 - r.length) .no)))
  | [] => .bad
theorem runMV_M (n : Nat) (body : En → Out) (d : T) (ds : List T) : runMV n body (.sf d :: ds.map Sl.fz) = runM n body (d :: ds) := by
  show outM _ = outM _
  rw [List.length_map]
section
variable {P : Program} {w : World} {K : PySem.W.Frag} {mg : Str → Option Value} {base : Heap}
theorem oneO {n : Nat} {a : Addr} (i : Nat) (b : Addr) (e : (some a :: List.replicate n none)[i]? = some (some b)) : i = 0 ∧ b = a := by
  cases i with
  | zero => simp at e; exact ⟨rfl, e.symm⟩
  | succ i =>
    rw [List.getElem?_cons_succ] at e
    exact (noneO e).elim
theorem ex_self {B : Bs} {a b : Addr} {n : Nat} : Ex B (some a :: List.replicate n none) b ↔ B b ∨ b = a := by
  constructor
  · intro z
    rcases z with z | ⟨i, z⟩
    · exact .inl z
    · exact .inr (oneO i b z).2
  · rintro (z | z)
    · exact .inl z
    · exact .inr ⟨0, by rw [z]; rfl⟩
theorem rel_startM {X : Xs} {H : Hp} {d : T} {ds : List Sl} {a : Addr} {ho : HO} {ws : List V} {n : Nat} (hB : ∀ b, X b → ∃ o, H b = some o ∧ nTup o) (ha : H a = some ho) (hn : ¬ X a) (ow : OwnRp K H (X.add a) d ho) (h : StAll K (wo H a) H (X.add a) ds ws) (hl : ds.length ≤ n) :
    Rel K ⟨X.p, some a, n + 1, X.cs, wo H a, false⟩ (wo H a) (some a :: List.replicate n none) (.sf d :: (ds ++ List.replicate (n - ds.length) .no)) (some (.ref a) :: (ws.map some ++ List.replicate (n - ws.length) none)) H := by
  have e1 := h.1
  have hN : ∀ i, i < n → (List.replicate n (none : Option Addr))[i]? = some none := fun i hi => by rw [List.getElem?_replicate, if_pos hi]
  have exE : ∀ b, Ex ⟨X.p, some a, n + 1, X.cs, wo H a, false⟩ (some a :: List.replicate n none) b → X.add a b := fun b z => ex_self.mp z
  have csE : ∀ k b, (X.add a).cs k = some b → (Ex ⟨X.p, some a, n + 1, X.cs, wo H a, false⟩ (some a :: List.replicate n none)).cs k = some b := fun k b e => by
    have e' : X.cs k = some b := e
    show csOf _ _ k = some b
    unfold csOf
    show (match X.cs k with | some a => some a | none => _) = some b
    rw [e']
  have slots : ∀ (i : Nat) (s : Sl), (Sl.sf d :: (ds ++ List.replicate (n - ds.length) Sl.no))[i]? = some s → (i = 0 ∧ s = .sf d) ∨ ∃ j, i = j + 1 ∧ j < n ∧ ((∃ u, ds[j]? = some s ∧ ws[j]? = some u) ∨ s = .no) := fun i s e => by
    cases i with
    | zero => simp at e; exact .inl ⟨rfl, e.symm⟩
    | succ j =>
      rw [List.getElem?_cons_succ] at e
      have hi : j < n := by
        have q := (List.getElem?_eq_some_iff.mp e).1
        simp at q
        omega
      refine .inr ⟨j, rfl, hi, ?_⟩
      by_cases c : j < ds.length
      · rw [List.getElem?_append_left c] at e
        exact .inl ⟨ws[j], e, List.getElem?_eq_getElem (by rw [← e1]; exact c)⟩
      · rw [List.getElem?_append_right (by omega), List.getElem?_replicate] at e
        split at e
        · cases e; exact .inr rfl
        · cases e
  refine ⟨by simp only [List.length_cons, List.length_append, List.length_map, List.length_replicate]; rw [← e1], by simp only [List.length_cons, List.length_append, List.length_replicate]; omega, by simp, fun _ => by simp, fun b o e => (of_wo e).1, Same.refl _, hB, fun i b e => ?_, fun i j b e e' => by rw [(oneO i b e).1, (oneO j b e').1], fun i s e => ?_, fun i j S S' e e' => ?_⟩
  · obtain ⟨_, rfl⟩ := oneO i b e
    exact ⟨by simp [wo], hn, ho, ha, ow.ntup⟩
  · rcases slots i s e with ⟨rfl, rfl⟩ | ⟨j, rfl, hj, ⟨u, e2, e3⟩ | rfl⟩
    · exact ⟨a, ho, rfl, rfl, ha, ow.anti exE csE, rfl⟩
    · have z := h.2 j s u e2 e3
      have c : j < ws.length := (List.getElem?_eq_some_iff.mp e3).1
      have eσ : (some (V.ref a) :: (ws.map some ++ List.replicate (n - ws.length) none))[j + 1]? = some (some u) := by
        rw [List.getElem?_cons_succ, List.getElem?_append_left (by rw [List.length_map]; exact c), List.getElem?_map, e3]
        rfl
      cases s with
      | fz d => exact ⟨hN j hj, u, eσ, Rp.anti z exE csE⟩
      | br d =>
        obtain ⟨b, ho', z1, z2, z3⟩ := z
        exact ⟨hN j hj, b, ho', by rw [eσ, z1], z2, z3.anti exE csE⟩
      | _ => exact z.elim
    · exact hN j hj
  · rcases slots i _ e with ⟨_, z⟩ | ⟨j, _, _, ⟨u, e2, e3⟩ | z⟩
    · cases z
    · exact (h.2 j _ u e2 e3).elim
    · cases z
/-- what the object is at the end -/
theorem self_end {B : Bs} {H0 H' : Hp} {O : Ow} {env : En} {σ : L2.St} {a : Addr} {d : T} (hz : B.z = some a) (ac : B.act = false) (R : Rel K B H0 O env σ H') (e : env[0]? = some (.sf d)) : ∃ ho', O[0]? = some (some a) ∧ H' a = some ho' ∧ OwnRp K H' (B.x.add a) d ho' := by
  obtain ⟨b, ho, h1, h2, h3, h4, h5⟩ := R.slot 0 _ e
  rw [hz] at h5
  cases h5
  refine ⟨ho, h1, h3, h4.anti (fun b z => ?_) fun k c e => (R.cs0 ac).symm.trans e⟩
  rcases z with z | z
  · exact .inl z
  · exact .inr ⟨0, by rw [z]; exact h1⟩
theorem fn_MV {x qual : Str} {st : Stmt} {f : Addr} {fd : FuncData} {N ps : List Str} {k n m : Nat} {body : En → Out} (F : Fun K x qual st f fd) (S : FnScope N ps (defScope st)) (hn : ps.length = n) (hm : N.length = m)
    (hb : ∀ (cdv : Value) (A : Around) (outer : List Env) (s : Shared) (H : Hp) (E : XK), Room k (A.deeper (PyProof.Rows.envOfC qual (defScope st) s.heap.objs.size f cdv)) →
      SsJ (cxOf (L2.CX P w) P w K mg base N qual (defScope st) f cdv A outer s H E) (fun _ => E) (defBody st) body) :
    FnOk P w K mg base (L2.CX P w) (k + 1) f fd ps (SpMV K n (runMV m body)) := by
  subst hn hm
  refine F.okX S (fun vs H Q E h => ?_) (fun cdv A outer s H vs Q E hr h => ?_)
  · obtain ⟨d, ds, B, a, ho, ws, rfl, _, _, _, _, h2, h3, _⟩ := h
    rw [List.length_cons, ← h2.1, h3]
  · obtain ⟨d, ds, Y, a, ho, ws, rfl, hB, ha, hn, ow, h2, h3, p⟩ := h
    obtain ⟨t, ps', i⟩ := (hb cdv A outer s H E hr).ex
    refine ⟨t, ps', ?_⟩
    have hpl : ps.length ≤ N.length := by have := congrArg List.length S.pre; rw [List.length_take] at this; omega
    have hN1 : N.length - 1 + 1 = N.length := by omega
    have z0 := rel_startM (n := N.length - 1) hB ha hn ow h2 (by omega)
    have st0 : L2.start N (.ref a :: ws) = some (.ref a) :: (ws.map some ++ List.replicate (N.length - 1 - ws.length) none) := by
      show (V.ref a :: ws).map some ++ List.replicate (N.length - (V.ref a :: ws).length) none = _
      simp only [List.map_cons, List.cons_append, List.length_cons]
      congr 3
      omega
    rw [st0]
    refine i _ _ _ _ _ H _ z0 ?_
    unfold runMV outM at p
    simp only at p
    split at p
    · rename_i e q
      rw [q]
      split at p
      · rename_i d' e0
        intro O' σ' H' R' _
        obtain ⟨ho', h1, h4, h5⟩ := self_end rfl rfl R' e0
        exact p .non H' ho' (wo_same R'.same) h4 h5 Rp.non
      · exact p.elim
    · rename_i r e q
      rw [q]
      split at p
      · rename_i d' e0
        cases r with
        | sh dd =>
          intro O' σ' H' v R' _ x
          obtain ⟨ho', h1, h4, h5⟩ := self_end rfl rfl R' e0
          refine p v H' ho' (wo_same R'.same) h4 h5 ?_
          exact Rp.anti x (fun b z => z.elim .inl fun z => .inr ⟨0, by rw [z]; exact h1⟩) fun k c e => (R'.cs0 rfl).symm.trans e
        | fr dd =>
          intro O' σ' H' pp hh h0 R' _ x
          obtain ⟨ho', h1, h4, h5⟩ := self_end rfl rfl R' e0
          have npa : pp ≠ a := fun z => (R'.own 0 a h1).2.1 (.inr z.symm)
          have hp : H pp = none := by
            have z := h0
            simp only [wo, if_neg npa] at z
            exact z
          refine p (.ref pp) H' ho' (fun b o e n => R'.same b o ?_) h4 (h5.anti fun b z => z.elim (fun z => .inl (.inl z)) .inr) ⟨pp, hh, rfl, hp, R'.same pp hh upd_same, ?_⟩
          · rw [upd_ne (ne_of_none e hp)]
            exact wo_ne e n
          · refine x.anti (fun b z => ?_) fun k c e => (R'.cs0 rfl).symm.trans e
            rcases z with (z | z) | z
            · exact .inl (.inl z)
            · exact .inr ⟨0, by rw [z]; exact h1⟩
            · exact .inl (.inr z)
        | bo j dd => exact (show False from p).elim
        | vw dd => exact (show False from p).elim
      · exact p.elim
    · rename_i e c pl q
      rw [q]
      intro O' σ' H' dd ca ea R' _ x
      refine p H' dd ca ea (wo_same R'.same) ?_
      cases pl with
      | none => exact x
      | some t =>
        obtain ⟨b, v, z1, z2, z3⟩ := x
        exact ⟨b, v, z1, z2, z3.anti (fun b zb => .inl zb) fun k c e => (R'.cs0 rfl).symm.trans e⟩
    · exact p.elim
theorem fnMV_M {k n m : Nat} {f : Addr} {fd : FuncData} {ps : List Str} {body : En → Out} (h : FnOk P w K mg base (L2.CX P w) k f fd ps (SpMV K n (runMV m body))) : FnOk P w K mg base (L2.CX P w) k f fd ps (SpM K n (runM m body)) :=
  h.imp fun vs H Q E ⟨d, ds, X, a, ho, ws, h1, h2, h3, h4, h5, h6, h7, p⟩ => ⟨d, ds.map .fz, X, a, ho, ws, h1, h2, h3, h4, h5, .fz h6, by simpa using h7, by rw [runMV_M]; exact p⟩
theorem fn_M {x qual : Str} {st : Stmt} {f : Addr} {fd : FuncData} {N ps : List Str} {k n m : Nat} {body : En → Out} (F : Fun K x qual st f fd) (S : FnScope N ps (defScope st)) (hn : ps.length = n) (hm : N.length = m)
    (hb : ∀ (cdv : Value) (A : Around) (outer : List Env) (s : Shared) (H : Hp) (E : XK), Room k (A.deeper (PyProof.Rows.envOfC qual (defScope st) s.heap.objs.size f cdv)) →
      SsJ (cxOf (L2.CX P w) P w K mg base N qual (defScope st) f cdv A outer s H E) (fun _ => E) (defBody st) body) :
    FnOk P w K mg base (L2.CX P w) (k + 1) f fd ps (SpM K n (runM m body)) := fnMV_M (fn_MV F S hn hm hb)
end

/-! ### return of such a method -/
def rmS (r : R) (env : En) : Out := match r with
  | .sh d => .rm (.sh d) env
  | .fr d => .rm (.fr d) env
  | .bo j d => match env[j]? with
    | some (.ow d) => .rm (.fr d) (env.set j .no)
    | _ => .bad
  | .vw _ => .bad
def fRetM (u : En → Res R) (env : En) : Out := (u env).out (fun r env => rmS r env) env
def fRetMN (env : En) : Out := .rm (.sh .non) env
section
variable {X : Cx} {EX : L2.St → XK} {e : Expr} {u : En → Res R} {pos : Pos}
theorem sj_retMN : SJ X EX (.Return none pos) fRetMN := ⟨⟨_, ps_retN, fun B H0 O env σ H D R p => p O σ H .non R Keep.refl Rp.non⟩⟩
theorem sj_retM (he : EJ X EX e u) : SJ X EX (.Return (some e) pos) (fRetM u) := by
  obtain ⟨t, pe, k⟩ := he.ex
  refine ⟨⟨_, ps_ret pe, fun B H0 O env σ H D R p => ?_⟩⟩
  refine k B H0 O env σ H _ R ((sOf_post (k := fun r env => rmS r env) R p).mono (fun _ _ x => x) fun r q v H1 s r1 => ?_)
  have R1 := R.mono s
  cases r with
  | sh d => exact q O σ H1 v R1 (Same.keepB s) r1
  | fr d =>
    obtain ⟨pp, ho, z1, z2, z3, z4⟩ := r1
    subst z1
    obtain ⟨R2, k2⟩ := R.temp s z2 z3 z4.ntup
    exact q O σ H1 pp ho (R.same.free z2) R2 k2 (z4.anti fun b z => by
      rcases z with (z | z) | z
      · exact .inl (.inl z)
      · exact .inr z
      · exact .inl (.inr z))
  | bo j d =>
    unfold rmS at q
    simp only at q
    split at q
    · rename_i dd ej
      obtain ⟨a, ho, z1, z2, z3, z4⟩ := r1
      obtain ⟨a', ho', y1, y2, y3, y4, R2, k2, y5⟩ := R1.give ej
      rw [z1] at y1
      cases y1
      subst z2
      exact q _ σ H1 a ho' y4 R2 ((Same.keepB s).trans k2) y5
    · exact q.elim
  | vw d => exact q.elim
end

/-! ### x.m(..) as a statement, the object changed -/
structure MetM (P : Program) (w : World) (K : PySem.W.Frag) (mg : Str → Option Value) (base : Heap) (C : Nat) (m : Str) (k n : Nat) (F : List T → Res (T × R)) : Prop where
  ex : ∃ (c f : Addr) (fd : FuncData) (ps : List Str), clsA K C = some c ∧ Cls K c ∧ Meth K c m f ∧ Binds K fd ps [] ∧ FnOk P w K mg base (L2.CX P w) k f fd ps (SpM K n F)
def mcO (i : Nat) (b : Bool) (o : Res (T × R)) (env : En) : Out := match o with
  | .ok (d, _) => .nx (env.set i (mkS b d))
  | .exc c p => .exc (env.set i .no) c p
  | .bad => .bad
def mcS (C : Nat) (m : Str) (F : List T → Res (T × R)) (s : Option Sl) (a : Res (List R)) (i : Nat) (env : En) : Out := match obS s with
  | some (b, d) => if clT C m d = true then a.out (fun rs env => if rs.all R.kp = true then mcO i b (F (d :: rs.map R.d)) env else .bad) env else .bad
  | none => .bad
def fMc (C : Nat) (m : Str) (i : Nat) (F : List T → Res (T × R)) (ga : En → Res (List R)) (env : En) : Out := mcS C m F env[i]? (ga env) i env
section
variable {X : Cx} {EX : L2.St → XK} {e : Expr} {es : List Expr} {ga : En → Res (List R)} {F : List T → Res (T × R)} {j k n : Nat} {C : Nat} {m x : Str} {apos pos pos' pn : Pos}
theorem cl_slot {K : PySem.W.Frag} {H : Hp} {Y : Xs} {d : T} {ho : HO} {c : Addr} (ec : clsA K C = some c) (h : clT C m d = true) (r : OwnRp K H Y d ho) : ∃ dx fs, ho = .ins c dx fs ∧ fs.lookup m = none := by
  unfold clT at h
  split at h
  · rename_i D fs
    rw [Bool.and_eq_true, decide_eq_true_eq] at h
    obtain ⟨rfl, h2⟩ := h
    cases r with
    | obj e0 e1 e2 =>
      rw [ec] at e0
      cases e0
      exact ⟨_, _, rfl, lookup_none e1 h2⟩
  · cases h
/-- what is not to be spoken of, less the object at a -/
def Xs.less (X : Xs) (a : Addr) : Xs := ⟨fun b => X b ∧ b ≠ a, X.cs⟩
theorem xs_less {X : Xs} {a : Addr} (h : X a) (b : Addr) : (X.less a).add a b ↔ X b := by
  constructor
  · rintro (z | z)
    · exact z.1
    · rw [z]; exact h
  · intro z
    by_cases q : b = a
    · exact .inr q
    · exact .inl ⟨z, q⟩
theorem mc_core {B H0 O env σ H H2} {rs : List R} {vs : List V} {i : Nat} {b : Bool} {d : T} {a : Addr} {ho : HO} {D : Ends} (R0 : Rel X.K B H0 O env σ H) (s : Same H H2) (hs : env[i]? = some (mkS b d)) (h1 : O[i]? = some (some a)) (h3 : H a = some ho) (h4 : OwnRp X.K H (Ex B O) d ho)
    (hk : rs.all R.kp = true) (hr : RpAll X.K H2 (Ex B O) (rs.map R.d) vs) (hn : rs.length + 1 = n) (q : SPost X EX B H0 O H D (mcO i b (F (d :: rs.map R.d)) env)) : SpM X.K n F (.ref a :: vs) H2 (fun _ H' => D.nx σ H') (EX σ) := by
  have R2 := R0.mono s
  have xa : Ex B O a := .inr ⟨i, h1⟩
  have bl := xs_less xa
  refine ⟨d, rs.map R.d, (Ex B O).less a, a, ho, vs, rfl, fun b z => R2.ex_ntup z.1, s _ _ h3, fun z => z.2 rfl, (h4.same s).anti fun b z => (bl b).mp z, hr.anti fun b z => (bl b).mp z, by simpa using hn, ?_⟩
  cases ef : F (d :: rs.map R.d) with
  | ok r =>
    obtain ⟨d', r'⟩ := r
    rw [ef] at q
    intro v H' ho' ag h' ow _
    obtain ⟨R3, k3⟩ := R2.swap hs h1 ag h' (ow.anti fun b z => (bl b).mpr z)
    exact q O σ H' R3 ((Same.keepB s).trans k3)
  | exc c pl =>
    rw [ef] at q
    intro H' dd ca ea ag x
    have hi : i < env.length := (List.getElem?_eq_some_iff.mp hs).1
    obtain ⟨R3, k3⟩ := R2.lost (d := d) hi h1 ag
    refine q _ σ H' dd ca ea R3 ((Same.keepB s).trans k3) ?_
    have sub : ∀ b, Ex B (O.set i none) b → (Ex B O).less a b := fun b z => by
      refine ⟨?_, ?_⟩
      · rcases z with z | ⟨l, z⟩
        · exact .inl z
        · rcases getElem?_set' z with ⟨_, _, e⟩ | ⟨_, e⟩
          · cases e
          · exact .inr ⟨l, e⟩
      · rintro rfl
        rcases z with z | ⟨l, z⟩
        · exact (R0.own i _ h1).2.1 z
        · rcases getElem?_set' z with ⟨_, _, e⟩ | ⟨n, e⟩
          · cases e
          · exact n (R0.uniq i l _ h1 e)
    cases pl with
    | none => exact x
    | some t =>
      obtain ⟨b, v, z1, z2, z3⟩ := x
      exact ⟨b, v, z1, z2, z3.anti sub fun k c e => (cs_set (R0.lenN ▸ hi) k).trans e⟩
  | bad => rw [ef] at q; exact q.elim
theorem sj_mc (i : Nat) (M : MetM X.prog X.w X.K X.mg X.base C m j n F) (hr : Room k X.A) (hjk : j ≤ k) (hx : ∀ σ, PassesAt (L2.CX X.prog X.w) X σ (EX σ)) (ha : AJ X EX (e :: es) ga) {pl : Sem Bool} (hn : ∀ env rs, ga env = .ok rs → rs.length + 1 = n)
    (hN : X.N[i]? = some x := by rfl) (hv : Vis X.env.scope x := by first | exact Or.inl rfl | exact Or.inr (Or.inl rfl) | exact Or.inr (Or.inr rfl)) (hd : (x == ("__debug__" : Str)) = false := by decide) (hcd : (x == ("__classdict__" : Str)) = false := by decide)
    (hs : swapsWith (.Call (.Attribute (.Name x pn) m apos) (e :: es) [] pos') none pos.line X.env = pure false := by rfl)
    (hst : starEach (e :: es) X.env = (false, eval e X.env) :: starEach es X.env := by rfl) (hpl : (backTo pos' (starEach es X.env)).any (·.1) = false := by rfl)
    (ht : eval (.Call (.Attribute (.Name x pn) m apos) (e :: es) [] pos') X.env = (do
      let ov ← eval (.Name x pn) X.env
      standAt apos.atName
      let (f, first) ← holding [ov] (getMethod ov m pl)
      callWith pos' f first (backTo pos' (starEach (e :: es) X.env)) (backToKw pos' (keywordEach [] X.env))) := by rfl) :
    SJ X EX (.Expr (.Call (.Attribute (.Name x pn) m apos) (e :: es) [] pos') pos) (fMc C m i F ga) := by
  obtain ⟨cc, f, fd, ps, h0, h1, h2, h3, h4⟩ := M.ex
  obtain ⟨t', pa, i'⟩ := ha.ex
  have q1 : PE X (.Name x pn) (tVar i) := pe_var hN hv hd hcd
  refine ⟨⟨_, ps_expr (pe_methS q1 h1 h2 h4 (hr.mono hjk) h3 hx pa hst hpl ht) hs, fun B H0 O env σ H D Rl p => ?_⟩⟩
  unfold fMc mcS at p
  split at p
  · rename_i b d eo
    have es := obS_some eo
    obtain ⟨a, ho, o1, o2, o3, o4⟩ := obj_slot Rl es
    split at p
    · rename_i cl
      have p' := sOf_post (X := X) (EX := EX) (f := ga) (k := fun rs env => if rs.all R.kp = true then mcO i b (F (d :: rs.map R.d)) env else .bad) Rl p
      obtain ⟨dx, fs, eh, el⟩ := cl_slot h0 cl o4
      subst eh
      refine ⟨_, o2, a, dx, fs, rfl, o3, el, ?_⟩
      have p2 : Post (XC X.K B O EX σ H) (fun rs => ga env = .ok rs ∧ SPost X EX B H0 O H D (if rs.all R.kp = true then mcO i b (F (d :: rs.map R.d)) env else .bad)) (ga env) := by
        cases eg : ga env with
        | ok rs => rw [eg] at p'; exact ⟨rfl, p'⟩
        | exc c p => rw [eg] at p'; exact p'
        | bad => rw [eg] at p'; exact p'
      refine i' B H0 O env σ H _ Rl (p2.mono (fun _ _ x => x) fun rs z vs H2 s2 r2 => ?_)
      obtain ⟨eg, z⟩ := z
      split at z
      · rename_i c
        exact mc_core Rl s2 es o1 o3 o4 c (RRs.rp Rl r2 c) (hn env rs eg) z
      · exact z.elim
    · exact p.elim
  · exact p.elim
end

/-! ### f(..).append(e): a new list that nobody keeps -/
def fAppT (u v : En → Res R) (env : En) : Out := (u env).out (fun r env => match r with
  | .fr (.lst l) => (v env).out (fun _ env => if l.length < sizeLine then .nx env else .bad) env
  | _ => .bad) env
section
variable {X : Cx} {EX : L2.St → XK} {o e : Expr} {u v : En → Res R} {pos pos' apos : Pos}
theorem sj_appT (ho : EJ X EX o u) (he : EJ X EX e v) (hst : starEach (e :: []) X.env = (false, eval e X.env) :: starEach [] X.env := by rfl) (hpl : (backTo pos' (starEach [] X.env)).any (·.1) = false := by rfl)
    (hs : swapsWith (.Call (.Attribute o "append" apos) [e] [] pos') none pos.line X.env = pure false := by rfl)
    (hb : attributeBase o "append" X.env (eval o X.env) = eval o X.env := by rfl) (hl : (apos.endLine == pos'.line) = true := by rfl)
    (hfew : ((backTo pos' (starEach (e :: []) X.env)).all (fun x => !x.1) && (backToKw pos' (keywordEach [] X.env)).all (fun x => x.1.isSome)
      && decide ((e :: []).length + ([] : List Keyword).length + (if ([] : List Keyword).isEmpty then 0 else 1) < 30)) = true := by rfl) :
    SJ X EX (.Expr (.Call (.Attribute o "append" apos) [e] [] pos') pos) (fAppT u v) := by
  obtain ⟨t, pe, k⟩ := ho.ex
  obtain ⟨t2, pe2, k2⟩ := he.ex
  refine ⟨⟨_, ps_expr (pe_bm PySem.F.plainAttrs_list PySem.F.slot_list_append PySem.F.type_list_append mt_append pe (pa_cons pe2 pa_nil hst) hb hfew hl hst hpl) hs, fun B H0 O env σ H D R q => ?_⟩⟩
  refine k B H0 O env σ H _ R ((sOf_post (k := fun r env => match r with
    | .fr (.lst l) => (v env).out (fun _ env => if l.length < sizeLine then .nx env else .bad) env
    | _ => .bad) R q).mono (fun _ _ x => x) fun r q w H1 s r1 => ?_)
  split at q
  · rename_i l
    obtain ⟨p, us, rfl, h2, h3, h4⟩ := r1.frlst
    refine ⟨tyL h3, k2 B H0 O env σ H1 _ (R.mono s) (((sOf_post (f := v) (k := fun _ env => if l.length < sizeLine then .nx env else .bad) R q).up s).mono (fun _ _ x => x) fun r' q2 w' H2 s2 r2 => ?_)⟩
    split at q2
    · rename_i c
      refine ⟨p, us, w', rfl, rfl, s2 _ _ h3, by rw [← h4.1]; exact c, ?_⟩
      have sm : Same H (upd H2 p (.lst (us ++ [w']))) := fun b o e => by rw [upd_ne (ne_of_none e h2)]; exact s2 _ _ (s _ _ e)
      exact q2 O σ _ (R.mono sm) (Same.keepB sm)
    · exact q2.elim
  · exact q.elim
end

/-! ### C(..) -/
section
variable {X : Cx} {E : L2.St → XK} {CXt : CXT} {k : Nat} {f C : Addr} {fd : FuncData} {ps : List Str} {sp : Sp} {e : Expr} {es : List Expr} {t : TA} {x : Str} {p pos : Pos}
def tMakeS (C : Addr) (sp : Sp) (E : L2.St → XK) (t : TA) : TE := fun σ H Q => t σ H fun vs H1 => ∀ x dx, H1 x = none → H1 dx = none → dx ≠ x → sp (.ref x :: vs) (upd (upd H1 dx (.own x)) x (.ins C dx [])) (fun v H2 => v = .non ∧ Q (.ref x) H2) (E σ)
theorem run_makeS {pins : List (Addr × Obj)} {σ : L2.St} {H : Hp} {s : Shared} {Q : VK} {us : List Value} {vs : List V} (M : Mk X.K C f) (F : FnOk X.prog X.w X.K X.mg X.base CXt k f fd ps sp) (hr : Room (k + 1) X.A) (hb : Binds X.K fd ps [])
    (hx : PassesAt CXt X σ (E σ)) (I : Inv X pins σ H s) (r : Vals vs us)
    (h : ∀ x dx, H x = none → H dx = none → dx ≠ x → sp (.ref x :: vs) (upd (upd H dx (.own x)) x (.ins C dx [])) (fun v H2 => v = .non ∧ Q (.ref x) H2) (E σ)) :
    wpAny (model X.prog X.w) X.A (call (.ref C) us) (EP X pins σ Q) X.xe s := by
  have hq := h (s.heap.objs.size + 1) s.heap.objs.size (I.hok.fresh (Nat.le_succ _)) (I.hok.fresh (Nat.le_refl _)) (Nat.ne_of_lt (Nat.lt_succ_self _))
  have I2 := Inv.made (C := C) I
  have r2 : Vals (V.ref (s.heap.objs.size + 1) :: (vs ++ [])) (Value.ref (s.heap.objs.size + 1) :: (us ++ [])) := .cons rfl (r.append .nil)
  have ev : vs ++ [] = vs := List.append_nil vs
  have eu : us ++ [] = us := List.append_nil us
  rw [ev, eu] at r2
  have hl : (Value.ref (s.heap.objs.size + 1) :: us ++ []).length = ps.length := by
    have e := r2.length
    rw [F.len _ _ _ _ hq] at e
    rw [List.append_nil]
    exact e.symm
  have hbb := hb _ (Value.ref (s.heap.objs.size + 1) :: us) I2.kIn hl
  rw [List.append_nil] at hbb
  refine wpAny_call (make_map (f := f) I.kIn M.makes M.init (beq_iff_eq.mp M.fn) (codeAny_mono (F.run _ X.stack _ _ ⟨Value.ref (s.heap.objs.size + 1) :: us, []⟩ (Value.ref (s.heap.objs.size + 1) :: us) _ _ (E σ) (hr.make C us [])
    (I2.env0.make C us []) hbb r2 hq) fun r s' hq' => ?_))
  cases r with
  | error e => exact hx pins _ _ e s' I2 hq'
  | ok fl =>
    cases fl with
    | ret u =>
      obtain ⟨v, H', I3, rv, ev, q3⟩ := I2.after hq'
      subst ev
      exact ⟨rv, ⟨V.ref (s.heap.objs.size + 1), H', I3, rfl, q3⟩⟩
    | next => exact False.elim hq'
    | brk => exact False.elim hq'
    | cont => exact False.elim hq'
theorem pe_makeS (M : Mk X.K C f) (F : FnOk X.prog X.w X.K X.mg X.base CXt k f fd ps sp) (hr : Room (k + 1) X.A) (hg : Gl X x) (hm : X.mg x = some (.ref C)) (hb : Binds X.K fd ps []) (hx : ∀ σ, PassesAt CXt X σ (E σ))
    (ha : PA X (e :: es) t) (hdb : (x == ("__debug__" : Str)) = false := by decide) (he : starEach (e :: es) X.env = (false, eval e X.env) :: starEach es X.env := by rfl) (hpl : (backTo pos (starEach es X.env)).any (·.1) = false := by rfl) :
    PE X (.Call (.Name x p) (e :: es) [] pos) (tMakeS C sp E t) := by
  refine ⟨fun pins s σ H Q I h => ?_⟩
  refine wpAny_Call_Name_kw (ld_glob I hg hm ?_ hdb)
  refine PySem.W.callWith_K (h₀ := X.base) I.ok.mod.kin M.kp (thn (ha.run pos pins s σ H _ I h) fun us s1 ⟨vs, H1, I1, r, q⟩ => ⟨I1.kIn, ?_⟩) he hpl
  exact run_makeS M F hr hb (hx σ) I1 r q
theorem pe_makeS0 (M : Mk X.K C f) (F : FnOk X.prog X.w X.K X.mg X.base CXt k f fd ps sp) (hr : Room (k + 1) X.A) (hg : Gl X x) (hm : X.mg x = some (.ref C)) (hb : Binds X.K fd ps []) (hx : ∀ σ, PassesAt CXt X σ (E σ))
    (hdb : (x == ("__debug__" : Str)) = false := by decide) : PE X (.Call (.Name x p) [] [] pos) (tMakeS C sp E tNil) := by
  refine ⟨fun pins s σ H Q I h => ?_⟩
  refine wpAny_Call_Name_kw (ld_glob I hg hm ?_ hdb)
  exact PySem.W.callWith_K0 I.kIn M.kp (run_makeS (us := []) M F hr hb (hx σ) I .nil h)
end
/-- a class that may be called; F: its __init__, from the empty object on -/
structure Mak (P : Program) (w : World) (K : PySem.W.Frag) (mg : Str → Option Value) (base : Heap) (x : Str) (C : Nat) (k n : Nat) (F : List T → Res (T × R)) : Prop where
  ex : ∃ (c f : Addr) (fd : FuncData) (ps : List Str), clsA K C = some c ∧ mg x = some (.ref c) ∧ Mk K c f ∧ Binds K fd ps [] ∧ FnOk P w K mg base (L2.CX P w) k f fd ps (SpM K n F)
def mkO (o : Res (T × R)) : Res R := match o with
  | .ok (d, .sh .non) => .ok (.fr d)
  | .exc c p => .exc c p
  | _ => .bad
def mkR (C : Nat) (F : List T → Res (T × R)) (rs : List R) : Res R := if rs.all R.kp = true then mkO (F (.obj C [] :: rs.map R.d)) else .bad
def fMk (C : Nat) (F : List T → Res (T × R)) (ga : En → Res (List R)) (env : En) : Res R := (ga env).bind (mkR C F)
section
variable {X : Cx} {EX : L2.St → XK} {e : Expr} {es : List Expr} {ga : En → Res (List R)} {F : List T → Res (T × R)} {j k n : Nat} {C : Nat} {c : Addr} {x : Str} {p pos : Pos}
theorem mk_core {B H0 O env σ H H1} (ec : clsA X.K C = some c) {rs : List R} {vs : List V} {Q : VK} {x dx : Addr} (R0 : Rel X.K B H0 O env σ H) (s : Same H H1) (r : RRs X.K B O H H1 rs vs) (hn : rs.length + 1 = n) (nx : H1 x = none) (ndx : H1 dx = none) (ne : dx ≠ x)
    (q : Post (XC X.K B O EX σ H) (fun r => ∀ v H', Same H H' → RR X.K B O H H' r v → Q v H') (mkR C F rs)) :
    SpM X.K n F (.ref x :: vs) (upd (upd H1 dx (.own x)) x (.ins c dx [])) (fun v H2 => v = .non ∧ Q (.ref x) H2) (EX σ) := by
  unfold mkR at q
  split at q
  · rename_i kp
    have ra := RRs.rp R0 r kp
    have s1 : Same H1 (upd (upd H1 dx (.own x)) x (.ins c dx [])) := fun b o e => by
      rw [upd_ne (ne_of_none e nx), upd_ne (ne_of_none e ndx)]; exact e
    have R1 := R0.mono s
    have nB : ¬ Ex B O x := R1.ex_new nx
    have kB : ∀ {t : T} {v : V}, Rp X.K H1 (Ex B O) t v → Rp X.K (upd (upd H1 dx (.own x)) x (.ins c dx [])) ((Ex B O).add x) t v := fun h => (h.newB nx).same s1
    refine ⟨.obj C [], rs.map R.d, Ex B O, x, .ins c dx [], vs, rfl, fun b z => ?_, upd_same, nB, .obj ec rfl .nil, ⟨ra.1, fun i t u a b => kB (ra.2 i t u a b)⟩, by simpa using hn, ?_⟩
    · obtain ⟨o, e, nt⟩ := R1.ex_ntup z
      exact ⟨o, s1 _ _ e, nt⟩
    · have back : ∀ {H' : Hp}, (∀ b o, (upd (upd H1 dx (.own x)) x (.ins c dx [])) b = some o → b ≠ x → H' b = some o) → Same H H' := fun ag b o e => ag b o (s1 _ _ (s _ _ e)) (ne_of_none (s _ _ e) nx)
      cases ef : F (.obj C [] :: rs.map R.d) with
      | ok z =>
        obtain ⟨d, r'⟩ := z
        rw [ef] at q
        intro v H' ho' ag h' ow rr
        cases r' with
        | sh dd =>
          cases dd with
          | non =>
            refine ⟨rp_non rr, q (.ref x) H' (back ag) ⟨x, ho', rfl, s.free nx, h', ow.anti fun b z => ?_⟩⟩
            exact z
          | _ => exact q.elim
        | _ => exact q.elim
      | exc c pl =>
        rw [ef] at q
        intro H' dd ca ea ag xx
        refine q H' dd ca ea (back ag) ?_
        cases pl with
        | none => exact xx
        | some t =>
          obtain ⟨a, v, z1, z2, z3⟩ := xx
          exact ⟨a, v, z1, z2, z3⟩
      | bad => rw [ef] at q; exact q.elim
  · exact q.elim
theorem ej_mk (M : Mak X.prog X.w X.K X.mg X.base x C j n F) (hr : Room k X.A) (hjk : j + 1 ≤ k) (hx : ∀ σ, PassesAt (L2.CX X.prog X.w) X σ (EX σ)) (hg : Gl X x) (ha : AJ X EX (e :: es) ga) (hn : ∀ env rs, ga env = .ok rs → rs.length + 1 = n)
    (hdb : (x == ("__debug__" : Str)) = false := by decide) (he : starEach (e :: es) X.env = (false, eval e X.env) :: starEach es X.env := by rfl) (hpl : (backTo pos (starEach es X.env)).any (·.1) = false := by rfl) :
    EJ X EX (.Call (.Name x p) (e :: es) [] pos) (fMk C F ga) := by
  obtain ⟨cc, f, fd, ps, h0, h1, h2, h3, h4⟩ := M.ex
  obtain ⟨t, pa, i⟩ := ha.ex
  refine ⟨⟨_, pe_makeS h2 h4 (hr.mono hjk) hg h1 h3 hx pa hdb he hpl, fun B H0 O env σ H Q R q => ?_⟩⟩
  have q' : Post (XC X.K B O EX σ H) (fun rs => ga env = .ok rs ∧ Post (XC X.K B O EX σ H) (fun r => ∀ v H', Same H H' → RR X.K B O H H' r v → Q v H') (mkR C F rs)) (ga env) := by
    have z := q.bind
    cases eg : ga env with
    | ok rs => rw [eg] at z; exact ⟨rfl, z⟩
    | exc c p => rw [eg] at z; exact z
    | bad => rw [eg] at z; exact z
  refine i B H0 O env σ H _ R (q'.mono (fun _ _ x => x) fun rs z vs H1 s r1 x dx nx ndx ne => ?_)
  exact mk_core h0 R s r1 (hn env rs z.1) nx ndx ne z.2
end
end Tr
namespace Tr
open PySem L2

/-! ### small facts for simp -/
@[simp] theorem kp_sh (d : T) : (R.sh d).kp = true := rfl
@[simp] theorem kp_fr (d : T) : (R.fr d).kp = true := rfl
@[simp] theorem kp_bo (i : Nat) (d : T) : (R.bo i d).kp = false := rfl
@[simp] theorem kp_vw (d : T) : (R.vw d).kp = false := rfl
@[simp] theorem out_vw (d : T) : (R.vw d).out = .vw d := rfl
@[simp] theorem sl_sh (d : T) : (R.sh d).sl = .fz d := rfl
@[simp] theorem sl_fr (d : T) : (R.fr d).sl = .ow d := rfl
@[simp] theorem out_sh (d : T) : (R.sh d).out = .sh d := rfl
@[simp] theorem out_fr (d : T) : (R.fr d).out = .fr d := rfl
@[simp] theorem out_bo (i : Nat) (d : T) : (R.bo i d).out = .fr d := rfl
@[simp] theorem its_lst (l : List T) : T.its (.lst l) = some l := rfl
@[simp] theorem its_scr (l : List Int) : T.its (.scr l) = some (l.map T.int) := rfl
@[simp] theorem isNon_non : T.isNon .non = true := rfl
@[simp] theorem isNon_int (i : Int) : T.isNon (.int i) = false := rfl
@[simp] theorem isNon_str (i : Str) : T.isNon (.str i) = false := rfl
@[simp] theorem isNon_bl (i : Bool) : T.isNon (.bl i) = false := rfl
@[simp] theorem isNon_tup (l : List T) : T.isNon (.tup l) = false := rfl
@[simp] theorem isNon_lst (l : List T) : T.isNon (.lst l) = false := rfl
@[simp] theorem tyn_non : T.tyn .non = some "NoneType" := rfl
@[simp] theorem tyn_bl (b : Bool) : T.tyn (.bl b) = some "bool" := rfl
@[simp] theorem tyn_int (b : Int) : T.tyn (.int b) = some "int" := rfl
@[simp] theorem tyn_str (b : Str) : T.tyn (.str b) = some "str" := rfl
@[simp] theorem tyn_tup (b : List T) : T.tyn (.tup b) = some "tuple" := rfl
@[simp] theorem tyn_lst (b : List T) : T.tyn (.lst b) = some "list" := rfl
@[simp] theorem tyn_dik (b : List (Key × T)) : T.tyn (.dik b) = some "dict" := rfl
@[simp] theorem tyn_dit (b : List (List Key × T)) : T.tyn (.dit b) = some "dict" := rfl
@[simp] theorem isaB_same (a : String) : isaB a a = true := by simp [isaB]
@[simp] theorem isaB1 : isaB "bool" "int" = true := by decide
@[simp] theorem isaB2 : isaB "int" "bool" = false := by decide
@[simp] theorem isaB3 : isaB "int" "str" = false := by decide
@[simp] theorem isaB4 : isaB "int" "list" = false := by decide
@[simp] theorem isaB5 : isaB "int" "tuple" = false := by decide
@[simp] theorem isaB6 : isaB "str" "int" = false := by decide
@[simp] theorem isaB7 : isaB "list" "tuple" = false := by decide
@[simp] theorem isaB8 : isaB "tuple" "list" = false := by decide
@[simp] theorem bind_eq_rb {A C : Type} (r : Res A) (f : A → Res C) : (r >>= f) = r.bind f := rfl
@[simp] theorem isOw_no : isOw (some .no) = false := rfl
@[simp] theorem isOw_fz (d : T) : isOw (some (.fz d)) = false := rfl
@[simp] theorem isOw_ow (d : T) : isOw (some (.ow d)) = true := rfl
@[simp] theorem isOw_sf (d : T) : isOw (some (.sf d)) = true := rfl
@[simp] theorem isOw_none : isOw none = true := rfl
@[simp] theorem isOw_br (d : T) : isOw (some (.br d)) = false := rfl
@[simp] theorem wipeE_nil (env : En) : wipeE env [] = env := rfl
@[simp] theorem wipeE_cons (env : En) (v : Nat) (vs : List Nat) : wipeE env (v :: vs) = (wipeE env vs).set v .no := rfl
@[simp] theorem asInt_int (i : Int) : T.asInt (.int i) = some i := rfl
@[simp] theorem asPair_p (a b : Int) : T.asPair (.tup [.int a, .int b]) = some (a, b) := rfl
theorem mapM_some {A C : Type} {f : A → Option C} {g : C → A} (h : ∀ c, f (g c) = some c) : ∀ l : List C, (l.map g).mapM f = some l
  | [] => rfl
  | c :: l => by
    rw [List.map_cons, List.mapM_cons, h c, mapM_some h l]
    rfl
@[simp] theorem ints_map (l : List Int) : T.ints (.lst (l.map T.int)) = some l := mapM_some (f := T.asInt) (g := T.int) (fun _ => rfl) l
@[simp] theorem ints_scr (l : List Int) : T.ints (.scr l) = some l := rfl
@[simp] theorem pairs_map (l : List (Int × Int)) : T.pairs (.lst (l.map encP)) = some l := mapM_some (f := T.asPair) (g := encP) (fun _ => rfl) l
theorem ints_map_pair {l : List (Int × Int)} (h : l ≠ []) : T.ints (.lst (l.map encP)) = none := by
  cases l with
  | nil => exact (h rfl).elim
  | cons p l => rfl
theorem sortP_nil : sortP [] = [] := by simp [sortP]
theorem sortI_nil : sortI [] = [] := by simp [sortI]
theorem sort_pairs' (r : R) (l : List (Int × Int)) (h : r.d = .lst (l.map encP)) : sortR [r] = .ok (.fr (.lst ((sortP l).map encP))) := by
  unfold sortR
  simp only [h]
  cases l with
  | nil =>
    have e : T.ints (.lst ([].map encP)) = some [] := ints_map []
    rw [e, sortP_nil]; simp [sortI_nil]
  | cons p l => rw [ints_map_pair (by simp), pairs_map]
set_option exponentiation.threshold 3000 in
theorem numOk_of {i : Int} (h : -(2 ^ 64) < i ∧ i < 2 ^ 64) : numOk i := by
  have : i.natAbs < 2 ^ 64 := by omega
  exact Nat.lt_of_lt_of_le this (Nat.pow_le_pow_right (by decide) (by decide))
theorem ixN_int {n : Nat} {i : Int} : ixN n i = if 0 ≤ i then (if i < n then some i.toNat else none) else if -(n : Int) ≤ i then some (i + n).toNat else none := rfl
theorem atI_map {A C : Type} (f : A → C) (l : List A) (i : Int) : atI (l.map f) i = (atI l i).map f := by
  unfold atI
  rw [List.length_map]
  cases ixN l.length i with
  | none => rfl
  | some j => simp
@[simp] theorem atI_lit0 {A : Type} (a : A) (l : List A) : atI (a :: l) 0 = some a := by
  have : ixN (a :: l).length 0 = some 0 := by simp [ixN]; try omega
  unfold atI; rw [this]; rfl
@[simp] theorem atI_lit1 {A : Type} (a b : A) (l : List A) : atI (a :: b :: l) 1 = some b := by
  have : ixN (a :: b :: l).length 1 = some 1 := by simp [ixN]; try omega
  unfold atI; rw [this]; rfl
@[simp] theorem atI_lit2 {A : Type} (a b c : A) (l : List A) : atI (a :: b :: c :: l) 2 = some c := by
  have : ixN (a :: b :: c :: l).length 2 = some 2 := by simp [ixN]; try omega
  unfold atI; rw [this]; rfl
@[simp] theorem atI_lit3 {A : Type} (a b c d : A) (l : List A) : atI (a :: b :: c :: d :: l) 3 = some d := by
  have : ixN (a :: b :: c :: d :: l).length 3 = some 3 := by simp [ixN]; try omega
  unfold atI; rw [this]; rfl
@[simp] theorem atI_lit4 {A : Type} (a b c d e : A) (l : List A) : atI (a :: b :: c :: d :: e :: l) 4 = some e := by
  have : ixN (a :: b :: c :: d :: e :: l).length 4 = some 4 := by simp [ixN]; try omega
  unfold atI; rw [this]; rfl
theorem atI_ofNat {A : Type} {l : List A} {j : Nat} (h : j < l.length) : atI l (j : Int) = some l[j] := by
  have : ixN l.length (j : Int) = some j := by unfold ixN; rw [if_pos (by omega), if_pos (by omega)]; simp
  simp [atI, this, h]
theorem atI_in {A : Type} {l : List A} {i : Int} (h0 : 0 ≤ i) (h : i < l.length) : atI l i = l[i.toNat]? := by
  have : ixN l.length i = some i.toNat := by unfold ixN; rw [if_pos h0, if_pos h]
  simp [atI, this]
theorem atI_neg1 {A : Type} {l : List A} (h : l ≠ []) : atI l (-1) = l.getLast? := by
  have hl : 0 < l.length := by cases l <;> simp at h ⊢
  have : ixN l.length (-1) = some (l.length - 1) := by
    unfold ixN
    rw [if_neg (by omega), if_pos (by omega)]
    congr 1; omega
  simp [atI, this, List.getLast?_eq_getElem?]
@[simp] theorem atI_app1 {A : Type} (l : List A) (a : A) : atI (l ++ [a]) (-1) = some a := by rw [atI_neg1 (by simp)]; simp
@[simp] theorem ixN_neg1 (n : Nat) : ixN (n + 1) (-1) = some n := by
  unfold ixN
  rw [if_neg (by omega), if_pos (by omega)]
  congr 1; omega

/-! ### equality of data -/
@[simp] theorem teq_int (a b : Int) : teq (.int a) (.int b) = decide (a = b) := by simp [teq, T.toD, PyData.eqv]; rfl
@[simp] theorem teq_bl (a b : Bool) : teq (.bl a) (.bl b) = decide (a = b) := by cases a <;> cases b <;> rfl
@[simp] theorem teq_str (a b : Str) : teq (.str a) (.str b) = decide (a = b) := by simp [teq, T.toD, PyData.eqv]; rfl
@[simp] theorem teq_non : teq .non .non = true := by simp [teq, T.toD, PyData.eqv]
def teqs : List T → List T → Bool
  | [], [] => true
  | a :: l, b :: m => teq a b && teqs l m
  | _, _ => false
theorem teqs_eq : ∀ l m : List T, PyData.eqvAll (T.toDs l) (T.toDs m) = teqs l m
  | [], [] => by simp [T.toDs, PyData.eqvAll, teqs]
  | a :: l, b :: m => by simp [T.toDs, PyData.eqvAll, teqs, teqs_eq l m, teq]
  | [], _ :: _ => by simp [T.toDs, PyData.eqvAll, teqs]
  | _ :: _, [] => by simp [T.toDs, PyData.eqvAll, teqs]
@[simp] theorem teq_tup (l m : List T) : teq (.tup l) (.tup m) = teqs l m := by simp [teq, T.toD, PyData.eqv, teqs_eq]
@[simp] theorem teq_lst (l m : List T) : teq (.lst l) (.lst m) = teqs l m := by simp [teq, T.toD, PyData.eqv, teqs_eq]
@[simp] theorem teqs_nil : teqs [] [] = true := rfl
@[simp] theorem teqs_cons (a b : T) (l m : List T) : teqs (a :: l) (b :: m) = (teq a b && teqs l m) := rfl
@[simp] theorem teqs_cn (a : T) (l : List T) : teqs (a :: l) [] = false := rfl
@[simp] theorem teqs_nc (a : T) (l : List T) : teqs [] (a :: l) = false := rfl
@[simp] theorem teq_non_int (a : Int) : teq .non (.int a) = false := by simp [teq, T.toD, PyData.eqv]
@[simp] theorem teq_int_non (a : Int) : teq (.int a) .non = false := by simp [teq, T.toD, PyData.eqv]
@[simp] theorem teq_non_str (a : Str) : teq .non (.str a) = false := by simp [teq, T.toD, PyData.eqv]
@[simp] theorem teq_str_non (a : Str) : teq (.str a) .non = false := by simp [teq, T.toD, PyData.eqv]
mutual
theorem eqv_self : ∀ t : T, PyData.eqv t.toD t.toD = true
  | .non => by simp [T.toD, PyData.eqv]
  | .bl b => by simp [T.toD, PyData.eqv]
  | .int i => by simp [T.toD, PyData.eqv]
  | .str x => by simp [T.toD, PyData.eqv]
  | .tup l => by simp only [T.toD, PyData.eqv]; exact eqvs_self l
  | .lst l => by simp only [T.toD, PyData.eqv]; exact eqvs_self l
  | .scr ns => by
    simp only [T.toD, PyData.eqv]
    induction ns with
    | nil => simp [PyData.eqvAll]
    | cons n ns ih => simp [PyData.eqvAll, PyData.eqv, ih]
  | .dik _ => by simp [T.toD, PyData.eqv]
  | .dit _ => by simp [T.toD, PyData.eqv]
  | .obj _ _ => by simp [T.toD, PyData.eqv]
  | .fn _ => by simp [T.toD, PyData.eqv]
  | .ptr _ => by simp [T.toD, PyData.eqv]
  | .ex0 _ => by simp [T.toD, PyData.eqv]
  | .ex1 _ _ => by simp [T.toD, PyData.eqv]
theorem eqvs_self : ∀ l : List T, PyData.eqvAll (T.toDs l) (T.toDs l) = true
  | [] => by simp [T.toDs, PyData.eqvAll]
  | t :: l => by simp only [T.toDs, PyData.eqvAll, eqv_self t, eqvs_self l, Bool.and_self]
end
@[simp] theorem teq_self (t : T) : teq t t = true := eqv_self t
@[simp] theorem teqs_self (l : List T) : teqs l l = true := by rw [← teqs_eq]; exact eqvs_self l
theorem teqs_map {A : Type} [DecidableEq A] {enc : A → T} (h : ∀ a b, teq (enc a) (enc b) = decide (a = b)) : ∀ l m : List A, teqs (l.map enc) (m.map enc) = decide (l = m)
  | [], [] => rfl
  | [], _ :: _ => rfl
  | _ :: _, [] => rfl
  | a :: l, b :: m => by simp [h, teqs_map h l m]
@[simp] theorem teq_encP (p q : Int × Int) : teq (encP p) (encP q) = decide (p = q) := by
  obtain ⟨a, b⟩ := p
  obtain ⟨c, d⟩ := q
  simp [encP]
@[simp] theorem teqs_ints (l m : List Int) : teqs (l.map T.int) (m.map T.int) = decide (l = m) := teqs_map (fun a b => teq_int a b) l m
@[simp] theorem teqs_pairs (l m : List (Int × Int)) : teqs (l.map encP) (m.map encP) = decide (l = m) := teqs_map teq_encP l m
@[simp] theorem teqs_strs (l m : List Str) : teqs (l.map T.str) (m.map T.str) = decide (l = m) := teqs_map (fun a b => teq_str a b) l m
@[simp] theorem teqs_nil_iff {A : Type} (f : A → T) (l : List A) : teqs (l.map f) [] = l.isEmpty := by cases l <;> rfl
@[simp] theorem pd_int (n : Nat) (i : Int) : T.pd n (.int i) = true := by cases n <;> rfl
@[simp] theorem pd_bl (n : Nat) (i : Bool) : T.pd n (.bl i) = true := by cases n <;> rfl
@[simp] theorem pd_str (n : Nat) (i : Str) : T.pd n (.str i) = true := by cases n <;> rfl
@[simp] theorem pd_non (n : Nat) : T.pd n .non = true := by cases n <;> rfl
@[simp] theorem pd_tup (n : Nat) (l : List T) : T.pd (n + 1) (.tup l) = l.all (T.pd n) := rfl
@[simp] theorem pd_lst (n : Nat) (l : List T) : T.pd (n + 1) (.lst l) = l.all (T.pd n) := rfl
theorem pd_map {A : Type} {enc : A → T} {n : Nat} (h : ∀ a, T.pd n (enc a) = true) (l : List A) : T.pd (n + 1) (.lst (l.map enc)) = true := by
  rw [pd_lst, List.all_map]
  exact List.all_eq_true.mpr fun a _ => h a

/-! ### flat -/
@[simp] theorem fl_int (n : Nat) (i : Int) : T.fl n (.int i) = true := by cases n <;> rfl
@[simp] theorem fl_bl (n : Nat) (i : Bool) : T.fl n (.bl i) = true := by cases n <;> rfl
@[simp] theorem fl_str (n : Nat) (i : Str) : T.fl n (.str i) = true := by cases n <;> rfl
@[simp] theorem fl_non (n : Nat) : T.fl n .non = true := by cases n <;> rfl
@[simp] theorem fl_tup (n : Nat) (l : List T) : T.fl (n + 1) (.tup l) = l.all (T.fl n) := rfl
@[simp] theorem flR_sh (d : T) : T.flR (.sh d) = T.fl 8 d := rfl
@[simp] theorem flR_lst (l : List T) : T.flR (.fr (.lst l)) = l.all (T.fl 8) := rfl

/-! ### the operators, by trees -/
section
variable (x y : R) (a b : T) (i j : Int) (s t : Str) (l m : List T) (p q : Bool) (ns : List Int)
def Sl.get (i : Nat) (s : Option Sl) : Res R := match s with
  | some s => slR i s
  | none => .bad
@[simp] theorem slget_fz (n : Nat) : Sl.get n (some (.fz a)) = .ok (.sh a) := rfl
@[simp] theorem slget_ow (n : Nat) : Sl.get n (some (.ow a)) = .ok (.bo n a) := rfl
@[simp] theorem slget_sf (n : Nat) : Sl.get n (some (.sf a)) = .ok (.bo n a) := rfl
@[simp] theorem slget_no (n : Nat) : Sl.get n (some .no) = .bad := rfl
@[simp] theorem fV_eq (n : Nat) (env : En) : fV n env = Sl.get n env[n]? := rfl
def addT (a b : T) : Res R := addR (.sh a) (.sh b)
@[simp] theorem addR_eq : addR x y = addT x.d y.d := rfl
@[simp] theorem addT_int : addT (.int i) (.int j) = .ok (.sh (.int (i + j))) := rfl
@[simp] theorem addT_str : addT (.str s) (.str t) = if s.length + t.length ≤ sizeLine then .ok (.sh (.str (s ++ t))) else .bad := rfl
@[simp] theorem addT_lst : addT (.lst l) (.lst m) = if l.length + m.length ≤ sizeLine then .ok (.fr (.lst (l ++ m))) else .bad := rfl
def subT (a b : T) : Res R := subR (.sh a) (.sh b)
@[simp] theorem subR_eq : subR x y = subT x.d y.d := rfl
@[simp] theorem subT_int : subT (.int i) (.int j) = .ok (.sh (.int (i - j))) := rfl
def mulT (a b : T) : Res R := mulR (.sh a) (.sh b)
@[simp] theorem mulR_eq : mulR x y = mulT x.d y.d := rfl
@[simp] theorem mulT_int : mulT (.int i) (.int j) = if mulOk i j then .ok (.sh (.int (i * j))) else .bad := rfl
@[simp] theorem mulT_lst : mulT (.lst l) (.int j) = if (-(2 ^ 63) ≤ j ∧ j < 2 ^ 63) ∧ l.length * j.toNat ≤ sizeLine then .ok (.fr (.lst (List.replicate j.toNat l).flatten)) else .bad := rfl
def fdivT (a b : T) : Res R := fdivR (.sh a) (.sh b)
@[simp] theorem fdivR_eq : fdivR x y = fdivT x.d y.d := rfl
@[simp] theorem fdivT_int : fdivT (.int i) (.int j) = if 0 < j ∧ j < 1073741824 then .ok (.sh (.int (i / j))) else .bad := rfl
def modT (a b : T) : Res R := modR (.sh a) (.sh b)
@[simp] theorem modR_eq : modR x y = modT x.d y.d := rfl
@[simp] theorem modT_int : modT (.int i) (.int j) = if 0 < j then .ok (.sh (.int (i % j))) else .bad := rfl
def powT (a b : T) : Res R := powR (.sh a) (.sh b)
@[simp] theorem powR_eq : powR x y = powT x.d y.d := rfl
@[simp] theorem powT_int : powT (.int i) (.int j) = if 0 ≤ j ∧ j ≤ 1000000 ∧ i.natAbs < 2 ^ 64 then .ok (.sh (.int (i ^ j.toNat))) else .bad := rfl
def cmpT (f : Int → Int → Bool) (a b : T) : Res R := cmpR f (.sh a) (.sh b)
@[simp] theorem cmpR_eq (f : Int → Int → Bool) : cmpR f x y = cmpT f x.d y.d := rfl
@[simp] theorem cmpT_int (f : Int → Int → Bool) : cmpT f (.int i) (.int j) = .ok (.sh (.bl (f i j))) := rfl
def leT (a b : T) : Res R := leR (.sh a) (.sh b)
@[simp] theorem leR_eq : leR x y = leT x.d y.d := rfl
@[simp] theorem leT_int : leT (.int i) (.int j) = .ok (.sh (.bl (decide (i ≤ j)))) := rfl
theorem leT_str : leT (.str s) (.str t) = .ok (.sh (.bl (!decide (t.cps.toList < s.cps.toList)))) := rfl
def eqT (a b : T) : Res R := eqR (.sh a) (.sh b)
@[simp] theorem eqR_eq : eqR x y = eqT x.d y.d := rfl
theorem eqT_eq (h : T.pd 8 a = true) (k : T.pd 8 b = true) : eqT a b = .ok (.sh (.bl (teq a b))) := by
  unfold eqT eqR
  rw [if_pos ⟨h, k⟩]
  rfl
@[simp] theorem eqT_int : eqT (.int i) (.int j) = .ok (.sh (.bl (decide (i = j)))) := by rw [eqT_eq _ _ (by cases i <;> rfl) (by cases j <;> rfl), teq_int]
@[simp] theorem eqT_str : eqT (.str s) (.str t) = .ok (.sh (.bl (decide (s = t)))) := by rw [eqT_eq _ _ rfl rfl, teq_str]
@[simp] theorem eqT_bl : eqT (.bl p) (.bl q) = .ok (.sh (.bl (decide (p = q)))) := by rw [eqT_eq _ _ rfl rfl, teq_bl]
@[simp] theorem eqT_lst : eqT (.lst l) (.lst m) = if l.all (T.pd 7) = true ∧ m.all (T.pd 7) = true then .ok (.sh (.bl (teqs l m))) else .bad := by
  unfold eqT eqR
  simp only [R_d_sh, pd_lst, teq_lst]
@[simp] theorem eqT_tup : eqT (.tup l) (.tup m) = if l.all (T.pd 7) = true ∧ m.all (T.pd 7) = true then .ok (.sh (.bl (teqs l m))) else .bad := by
  unfold eqT eqR
  simp only [R_d_sh, pd_tup, teq_tup]
def neT (a b : T) : Res R := neR (.sh a) (.sh b)
@[simp] theorem neR_eq : neR x y = neT x.d y.d := rfl
theorem neT_eq (h : T.pd 8 a = true) (k : T.pd 8 b = true) : neT a b = .ok (.sh (.bl (!teq a b))) := by
  unfold neT neR
  rw [if_pos ⟨h, k⟩]
  rfl
@[simp] theorem neT_int : neT (.int i) (.int j) = .ok (.sh (.bl (!decide (i = j)))) := by rw [neT_eq _ _ (by cases i <;> rfl) (by cases j <;> rfl), teq_int]
@[simp] theorem neT_str : neT (.str s) (.str t) = .ok (.sh (.bl (!decide (s = t)))) := by rw [neT_eq _ _ rfl rfl, teq_str]
@[simp] theorem neT_lst : neT (.lst l) (.lst m) = if l.all (T.pd 7) = true ∧ m.all (T.pd 7) = true then .ok (.sh (.bl (!teqs l m))) else .bad := by
  unfold neT neR
  simp only [R_d_sh, pd_lst, teq_lst]
@[simp] theorem neT_tup : neT (.tup l) (.tup m) = if l.all (T.pd 7) = true ∧ m.all (T.pd 7) = true then .ok (.sh (.bl (!teqs l m))) else .bad := by
  unfold neT neR
  simp only [R_d_sh, pd_tup, teq_tup]
def isT (a b : T) : Res R := isR (.sh a) (.sh b)
@[simp] theorem isR_eq : isR x y = isT x.d y.d := rfl
@[simp] theorem isT_non : isT a .non = .ok (.sh (.bl a.isNon)) := by unfold isT isR; cases a <;> rfl
@[simp] theorem isT_bl : isT (.bl p) (.bl q) = .ok (.sh (.bl (decide (p = q)))) := rfl
def isnT (a b : T) : Res R := isnR (.sh a) (.sh b)
@[simp] theorem isnR_eq : isnR x y = isnT x.d y.d := rfl
@[simp] theorem isnT_non : isnT a .non = .ok (.sh (.bl (!a.isNon))) := by unfold isnT isnR; cases a <;> rfl
@[simp] theorem isnT_bl : isnT (.bl p) (.bl q) = .ok (.sh (.bl (!decide (p = q)))) := rfl
def asBT (a : T) : Res Bool := asB (.sh a)
@[simp] theorem asB_eq : asB x = asBT x.d := rfl
@[simp] theorem asBT_bl : asBT (.bl p) = .ok p := rfl
def truT (a : T) : Res Bool := truR (.sh a)
@[simp] theorem truR_eq : truR x = truT x.d := rfl
@[simp] theorem truT_bl : truT (.bl p) = .ok p := rfl
@[simp] theorem truT_int : truT (.int i) = .ok (i != 0) := rfl
@[simp] theorem truT_non : truT .non = .ok false := rfl
@[simp] theorem truT_lst : truT (.lst l) = .ok (!l.isEmpty) := rfl
def ixT (a b : T) : Res R := ixR (.sh a) (.sh b)
def Option.sh (o : Option T) : Res R := match o with
  | some t => .ok (.sh t)
  | none => .bad
@[simp] theorem osh_some : Option.sh (some a) = .ok (.sh a) := rfl
@[simp] theorem ixR_eq : ixR x y = ixT x.d y.d := rfl
@[simp] theorem ixT_lst : ixT (.lst l) (.int i) = Option.sh (atI l i) := by
  show (match atI l i with
    | some t => Res.ok (R.sh t)
    | none => .bad) = _
  cases atI l i <;> rfl
@[simp] theorem ixT_tup : ixT (.tup l) (.int i) = Option.sh (atI l i) := by
  show (match atI l i with
    | some t => Res.ok (R.sh t)
    | none => .bad) = _
  cases atI l i <;> rfl
@[simp] theorem ixT_scr : ixT (.scr ns) (.int i) = Option.sh ((atI ns i).map T.int) := by
  show (match atI ns i with
    | some n => Res.ok (R.sh (.int n))
    | none => .bad) = _
  cases atI ns i <;> rfl
@[simp] theorem ixT_str : ixT (.str s) (.int i) = if s.length ≤ sizeLine then Option.sh ((atI s.cps.toList i).map fun c => T.str ⟨#[c]⟩) else .bad := by
  show (if s.length ≤ sizeLine then (match atI s.cps.toList i with
      | some c => Res.ok (R.sh (.str ⟨#[c]⟩))
      | none => .bad) else .bad) = _
  split
  · cases atI s.cps.toList i <;> rfl
  · rfl
def cutT (a : T) (lo hi : Option Int) : Res R := cutR (.sh a) lo hi
@[simp] theorem cutR_eq (lo hi : Option Int) : cutR x lo hi = cutT x.d lo hi := rfl
@[simp] theorem cutT_lst (lo hi : Option Int) : cutT (.lst l) lo hi = .ok (.fr (.lst (cutL l lo hi))) := rfl
@[simp] theorem cutT_scr (lo hi : Option Int) : cutT (.scr ns) lo hi = .ok (.fr (.lst ((cutL ns lo hi).map T.int))) := rfl
@[simp] theorem cutT_str (lo hi : Option Int) : cutT (.str s) lo hi = if s.length ≤ sizeLine then .ok (.sh (.str (cutS s lo hi))) else .bad := rfl
theorem cutL_map {A C : Type} (f : A → C) (l : List A) (lo hi : Option Int) : cutL (l.map f) lo hi = (cutL l lo hi).map f := by
  unfold cutL
  simp [List.map_take, List.map_drop]
theorem cutL_len {A : Type} (l : List A) (lo hi : Option Int) : (cutL l lo hi).length ≤ l.length := by
  unfold cutL
  simp
  omega
def partT (a : T) : Res (Option Int) := partR (.sh a)
@[simp] theorem partR_eq : partR x = partT x.d := rfl
@[simp] theorem partT_int : partT (.int i) = .ok (some i) := rfl
def Option.bl (o : Option Bool) : Res R := match o with
  | some t => .ok (.sh (.bl t))
  | none => .bad
@[simp] theorem obl_some : Option.bl (some p) = .ok (.sh (.bl p)) := rfl
@[simp] theorem inR_eq : inR x y = Option.bl (inT x.d y.d) := by unfold inR; cases inT x.d y.d <;> rfl
@[simp] theorem ninR_eq : ninR x y = Option.bl ((inT x.d y.d).map Bool.not) := by unfold ninR; cases inT x.d y.d <;> rfl
theorem inT_lst (h : T.pd 8 a = true) (k : l.all (T.pd 7) = true) : inT a (.lst l) = some (l.any fun z => teq z a) := by
  show (if _ then _ else none) = _
  rw [if_pos ⟨h, k⟩]
theorem any_map_eq {A : Type} [DecidableEq A] {enc : A → T} (h : ∀ u v, teq (enc u) (enc v) = decide (u = v)) (u : A) : ∀ l : List A, ((l.map enc).any fun z => teq z (enc u)) = decide (u ∈ l)
  | [] => rfl
  | v :: l => by
    simp only [List.map_cons, List.any_cons, h, any_map_eq h u l, List.mem_cons, Bool.decide_or]
    congr 1
    exact decide_eq_decide.mpr ⟨Eq.symm, Eq.symm⟩
def lenT (a : T) : Res R := lenR [.sh a]
@[simp] theorem lenR_eq : lenR [x] = lenT x.d := rfl
@[simp] theorem lenT_lst : lenT (.lst l) = .ok (.sh (.int l.length)) := rfl
@[simp] theorem lenT_tup : lenT (.tup l) = .ok (.sh (.int l.length)) := rfl
@[simp] theorem lenT_scr : lenT (.scr ns) = .ok (.sh (.int ns.length)) := rfl
@[simp] theorem lenT_str : lenT (.str s) = if s.length ≤ sizeLine then .ok (.sh (.int s.length)) else .bad := rfl
def maxT (a b : T) : Res R := maxR [.sh a, .sh b]
@[simp] theorem maxR_eq : maxR [x, y] = maxT x.d y.d := rfl
@[simp] theorem maxT_int : maxT (.int i) (.int j) = .ok (.sh (.int (max i j))) := rfl
def minT (a b : T) : Res R := minR [.sh a, .sh b]
@[simp] theorem minR_eq : minR [x, y] = minT x.d y.d := rfl
@[simp] theorem minT_int : minT (.int i) (.int j) = .ok (.sh (.int (min i j))) := rfl
def sumT (o : Option (List Int)) : Res R := match o with
  | some ns => .ok (.sh (.int ns.sum))
  | none => .bad
@[simp] theorem sumR_eq : sumR [x] = sumT x.d.ints := by
  show (match x.d.ints with
    | some ns => Res.ok (R.sh (.int ns.sum))
    | none => .bad) = _
  cases x.d.ints <;> rfl
@[simp] theorem sumT_some : sumT (some ns) = .ok (.sh (.int ns.sum)) := rfl
def mxT (o : Option Int) : Res R := match o with
  | some n => .ok (.sh (.int n))
  | none => .bad
@[simp] theorem max1R_eq : max1R [x] = mxT (x.d.ints.bind lmax) := by
  show (match x.d.ints.bind lmax with
    | some n => Res.ok (R.sh (.int n))
    | none => .bad) = _
  cases x.d.ints.bind lmax <;> rfl
@[simp] theorem min1R_eq : min1R [x] = mxT (x.d.ints.bind lmin) := by
  show (match x.d.ints.bind lmin with
    | some n => Res.ok (R.sh (.int n))
    | none => .bad) = _
  cases x.d.ints.bind lmin <;> rfl
@[simp] theorem mxT_some : mxT (some i) = .ok (.sh (.int i)) := rfl
def listT (a : T) : Res R := listR [.sh a]
@[simp] theorem listR_eq : listR [x] = listT x.d := rfl
@[simp] theorem listT_lst : listT (.lst l) = .ok (.fr (.lst l)) := rfl
@[simp] theorem listT_tup : listT (.tup l) = .ok (.fr (.lst l)) := rfl
@[simp] theorem listT_scr : listT (.scr ns) = .ok (.fr (.lst (ns.map T.int))) := rfl
def tupleT (a : T) : Res R := tupleR [.sh a]
@[simp] theorem tupleR_eq : tupleR [x] = tupleT x.d := rfl
@[simp] theorem tupleT_lst : tupleT (.lst l) = .ok (.sh (.tup l)) := rfl
@[simp] theorem tupleT_tup : tupleT (.tup l) = .ok (.sh (.tup l)) := rfl
def intT (a : T) : Res R := intR [.sh a]
@[simp] theorem intR_eq : intR [x] = intT x.d := rfl
@[simp] theorem intT_int : intT (.int i) = .ok (.sh (.int i)) := rfl
@[simp] theorem intT_bl : intT (.bl p) = .ok (.sh (.int (if p then 1 else 0))) := rfl
def strT (a : T) : Res R := strR [.sh a]
@[simp] theorem strR_eq : strR [x] = strT x.d := rfl
@[simp] theorem strT_int : strT (.int i) = if numOk i then .ok (.sh (.str (numS i))) else .bad := rfl
def Option.its (o : Option (List T)) : Res (List T) := match o with
  | some l => .ok l
  | none => .bad
@[simp] theorem oits_some : Option.its (some l) = .ok l := rfl
@[simp] theorem wk_sh (d : T) : (R.sh d).wk = true := rfl
@[simp] theorem wk_fr (d : T) : (R.fr d).wk = true := rfl
@[simp] theorem wk_bo (i : Nat) (d : T) : (R.bo i d).wk = false := rfl
@[simp] theorem wk_vw (d : T) : (R.vw d).wk = true := rfl
@[simp] theorem itsR_eq : itsR x = if x.wk = true then Option.its x.d.its else .bad := by
  unfold itsR
  split
  · cases x.d.its <;> rfl
  · rfl
def i1T (a : T) : Res (List T) := i1R (.sh a)
@[simp] theorem i1R_eq : i1R x = i1T x.d := rfl
@[simp] theorem i1T_int : i1T (.int j) = if rOk j then .ok (rngT 0 j.toNat) else .bad := rfl
def i2T (a b : T) : Res (List T) := i2R (.sh a) (.sh b)
@[simp] theorem i2R_eq : i2R x y = i2T x.d y.d := rfl
@[simp] theorem i2T_int : i2T (.int i) (.int j) = if rOk i ∧ rOk j then .ok (rngT i (j - i).toNat) else .bad := rfl
def Res.call (r : Res R) (k : Bool) : Res R := match r with
  | .ok r => if k = true ∨ T.flR r = true then .ok r else .bad
  | .exc c p => if k = true ∨ T.flX p = true then .exc c p else .bad
  | .bad => .bad
@[simp] theorem callR_eq (F : List T → Res R) (rs : List R) : callR F rs = (F (rs.map R.d)).call (rs.all R.kp) := rfl
@[simp] theorem call_true (r : Res R) : r.call true = r := by
  cases r with
  | ok a =>
    show (if true = true ∨ T.flR a = true then Res.ok a else .bad) = _
    rw [if_pos (.inl rfl)]
  | exc c p =>
    show (if true = true ∨ T.flX p = true then Res.exc c p else .bad) = _
    rw [if_pos (.inl rfl)]
  | bad => rfl
@[simp] theorem call_false (r : R) : (Res.ok r).call false = if T.flR r = true then .ok r else .bad := by
  show (if false = true ∨ T.flR r = true then Res.ok r else .bad) = _
  simp
def sortT (a : T) : Res R := sortR [.sh a]
@[simp] theorem sortR_eq : sortR [x] = sortT x.d := rfl
@[simp] theorem sortT_ints : sortT (.lst (ns.map T.int)) = .ok (.fr (.lst ((sortI ns).map T.int))) := by
  show (match T.ints (.lst (ns.map T.int)) with
    | some ns => Res.ok (R.fr (.lst ((sortI ns).map T.int)))
    | none => match T.pairs (.lst (ns.map T.int)) with
      | some ps => .ok (.fr (.lst ((sortP ps).map encP)))
      | none => .bad) = _
  rw [ints_map]
@[simp] theorem sortT_nil : sortT (.lst []) = .ok (.fr (.lst [])) := by
  have := sortT_ints []
  simpa [sortI_nil] using this
@[simp] theorem sortT_pairs (ps : List (Int × Int)) : sortT (.lst (ps.map encP)) = .ok (.fr (.lst ((sortP ps).map encP))) := sort_pairs' _ ps rfl
end

/-! ### the forms, argument by argument -/
section
variable {A : Type} (f f' f'' f3 : En → Res R) (fl : En → Res (List R)) (c c' : En → Res Bool) (env e : En) (r r' : R) (rs : List R) (g g' g'' : R → R → Res R) (b : Bool) (k : Res R) (kb : Res Bool) (ex : Addr) (pl : Option T) (u v : En → Out) (i j : Nat) (l : List T)
def Res.cons (a : Res R) (b : Res (List R)) : Res (List R) := a.bind fun r => b.bind fun rs => .ok (r :: rs)
@[simp] theorem fA_eq : fA f fl env = (f env).cons (fl env) := rfl
@[simp] theorem cons_ok : (Res.ok r).cons (.ok rs) = .ok (r :: rs) := rfl
@[simp] theorem cons_exc (x : Res (List R)) : (Res.exc ex pl : Res R).cons x = .exc ex pl := rfl
@[simp] theorem cons_exc2 : (Res.ok r).cons (.exc ex pl) = .exc ex pl := rfl
def Res.tup (a : Res (List R)) : Res R := a.bind fun rs => if rs.all R.kp = true ∧ rs.length ≤ sizeLine then .ok (.sh (.tup (rs.map R.d))) else .bad
def Res.lstR (a : Res (List R)) : Res R := a.bind fun rs => if rs.all R.kp = true ∧ rs.length ≤ sizeLine then .ok (.fr (.lst (rs.map R.d))) else .bad
@[simp] theorem fTup_eq : fTup fl env = (fl env).tup := rfl
@[simp] theorem fLst_eq : fLst fl env = (fl env).lstR := rfl
@[simp] theorem tup_ok : (Res.ok rs).tup = if rs.all R.kp = true ∧ rs.length ≤ sizeLine then .ok (.sh (.tup (rs.map R.d))) else .bad := rfl
@[simp] theorem lstR_ok : (Res.ok rs).lstR = if rs.all R.kp = true ∧ rs.length ≤ sizeLine then .ok (.fr (.lst (rs.map R.d))) else .bad := rfl
def Res.op2 (g : R → R → Res R) (a b : Res R) : Res R := a.bind fun x => b.bind fun y => g x y
@[simp] theorem b2_eq : b2 g f f' env = Res.op2 g (f env) (f' env) := rfl
@[simp] theorem op2_ok : Res.op2 g (.ok r) (.ok r') = g r r' := rfl
@[simp] theorem op2_exc : Res.op2 g (.exc ex pl) k = .exc ex pl := rfl
@[simp] theorem op2_exc2 : Res.op2 g (.ok r) (.exc ex pl) = .exc ex pl := rfl
def Res.asB (a : Res R) : Res Bool := a.bind Tr.asB
@[simp] theorem rasB_ok : (Res.ok r).asB = asBT r.d := rfl
@[simp] theorem rasB_exc : (Res.exc ex pl : Res R).asB = .exc ex pl := rfl
@[simp] theorem c2_eq : c2 g f f' env = (Res.op2 g (f env) (f' env)).asB := by
  unfold c2 Res.op2 Res.asB
  cases f env <;> cases f' env <;> rfl
def Res.andR (a : Res Bool) (k : Res R) : Res R := a.bind fun b => if b = true then k else .ok (.sh (.bl false))
def Res.orR (a : Res Bool) (k : Res R) : Res R := a.bind fun b => if b = true then .ok (.sh (.bl true)) else k
def Res.notR (a : Res Bool) : Res R := a.bind fun b => .ok (.sh (.bl (!b)))
@[simp] theorem andR_ok : (Res.ok b).andR k = if b = true then k else .ok (.sh (.bl false)) := rfl
@[simp] theorem orR_ok : (Res.ok b).orR k = if b = true then .ok (.sh (.bl true)) else k := rfl
@[simp] theorem notR_ok : (Res.ok b).notR = .ok (.sh (.bl (!b))) := rfl
@[simp] theorem andR_exc : (Res.exc ex pl : Res Bool).andR k = .exc ex pl := rfl
@[simp] theorem orR_exc : (Res.exc ex pl : Res Bool).orR k = .exc ex pl := rfl
@[simp] theorem notR_exc : (Res.exc ex pl : Res Bool).notR = .exc ex pl := rfl
@[simp] theorem fAndV_eq : fAndV f f' env = (f env).asB.andR (f' env) := by
  unfold fAndV Res.andR Res.asB
  cases f env <;> rfl
@[simp] theorem fOrV_eq : fOrV f f' env = (f env).asB.orR (f' env) := by
  unfold fOrV Res.orR Res.asB
  cases f env <;> rfl
@[simp] theorem fNotV_eq : fNotV f env = (f env).asB.notR := by
  unfold fNotV Res.notR Res.asB
  cases f env <;> rfl
def Res.ch2 (g g' : R → R → Res R) (a b c : Res R) : Res R := a.bind fun x => b.bind fun y => (g x y).asB.andR (Res.op2 g' (.ok y) c)
@[simp] theorem ch2_eq : ch2 g g' f f' f'' env = Res.ch2 g g' (f env) (f' env) (f'' env) := by
  unfold ch2 Res.ch2
  cases f env with
  | ok x =>
    cases f' env with
    | ok y =>
      show (g x y).bind _ = ((g x y).bind _).bind _
      cases g x y <;> rfl
    | _ => rfl
  | _ => rfl
@[simp] theorem rch2_ok : Res.ch2 g g' (.ok r) (.ok r') k = (g r r').asB.andR (Res.op2 g' (.ok r') k) := rfl
@[simp] theorem cb2_eq : cb2 g g' f f' f'' env = (Res.ch2 g g' (f env) (f' env) (f'' env)).asB := by
  rw [← ch2_eq]; rfl
def Res.ch3 (g g' g'' : R → R → Res R) (a b c d : Res R) : Res R := a.bind fun x => b.bind fun y => (g x y).asB.andR (Res.ch2 g' g'' (.ok y) c d)
@[simp] theorem ch3_eq : ch3 g g' g'' f f' f'' f3 env = Res.ch3 g g' g'' (f env) (f' env) (f'' env) (f3 env) := by
  unfold ch3 Res.ch3
  cases f env with
  | ok x =>
    cases f' env with
    | ok y =>
      show (g x y).bind _ = ((g x y).bind Tr.asB).bind _
      cases g x y with
      | ok z =>
        show (Tr.asB z).bind _ = (Tr.asB z).bind _
        cases Tr.asB z with
        | ok b =>
          cases b with
          | false => rfl
          | true =>
            show (f'' env).bind _ = (f'' env).bind _
            cases f'' env with
            | ok w =>
              show (g' y w).bind _ = ((g' y w).bind Tr.asB).bind _
              cases g' y w with
              | ok z2 =>
                show (Tr.asB z2).bind _ = (Tr.asB z2).bind _
                cases Tr.asB z2 <;> rfl
              | _ => rfl
            | _ => rfl
        | _ => rfl
      | _ => rfl
    | _ => rfl
  | _ => rfl
@[simp] theorem rch3_ok (k2 : Res R) : Res.ch3 g g' g'' (.ok r) (.ok r') k k2 = (g r r').asB.andR (Res.ch2 g' g'' (.ok r') k k2) := rfl
def Res.andB (a k : Res Bool) : Res Bool := a.bind fun b => if b = true then k else .ok false
def Res.orB (a k : Res Bool) : Res Bool := a.bind fun b => if b = true then .ok true else k
def Res.notB (a : Res Bool) : Res Bool := a.bind fun b => .ok (!b)
@[simp] theorem fAnd_eq : fAnd c c' env = (c env).andB (c' env) := rfl
@[simp] theorem fOr_eq : fOr c c' env = (c env).orB (c' env) := rfl
@[simp] theorem fNot_eq : fNot c env = (c env).notB := rfl
@[simp] theorem andB_ok : (Res.ok b).andB kb = if b = true then kb else .ok false := rfl
@[simp] theorem orB_ok : (Res.ok b).orB kb = if b = true then .ok true else kb := rfl
@[simp] theorem notB_ok : (Res.ok b).notB = .ok (!b) := rfl
@[simp] theorem andB_exc : (Res.exc ex pl : Res Bool).andB kb = .exc ex pl := rfl
@[simp] theorem orB_exc : (Res.exc ex pl : Res Bool).orB kb = .exc ex pl := rfl
@[simp] theorem notB_exc : (Res.exc ex pl : Res Bool).notB = .exc ex pl := rfl
def Res.ifR {A : Type} (a : Res Bool) (x y : Res A) : Res A := a.bind fun b => if b = true then x else y
@[simp] theorem fIf_eq (x y : En → Res A) : fIf c x y env = (c env).ifR (x env) (y env) := rfl
@[simp] theorem ifR_ok (x y : Res A) : (Res.ok b).ifR x y = if b = true then x else y := rfl
def Res.tru (a : Res R) : Res Bool := a.bind truR
@[simp] theorem fTru_eq : fTru f env = (f env).tru := rfl
@[simp] theorem tru_ok : (Res.ok r).tru = truT r.d := rfl
@[simp] theorem tru_exc : (Res.exc ex pl : Res R).tru = .exc ex pl := rfl
def Res.blR (a : Res Bool) : Res R := a.bind fun b => .ok (.sh (.bl b))
@[simp] theorem fBl_eq : fBl c env = (c env).blR := rfl
@[simp] theorem blR_ok : (Res.ok b).blR = .ok (.sh (.bl b)) := rfl
def negT (a : T) : Res R := match a with
  | .int i => .ok (.sh (.int (-i)))
  | _ => .bad
@[simp] theorem negT_int (n : Int) : negT (.int n) = .ok (.sh (.int (-n))) := rfl
def Res.neg (a : Res R) : Res R := a.bind fun x => negT x.d
@[simp] theorem negF_eq : negF f env = (f env).neg := by
  unfold negF Res.neg
  cases f env with
  | ok x => show (match x.d with
      | .int i => Res.ok (R.sh (.int (-i)))
      | _ => .bad) = negT x.d
            cases x.d <;> rfl
  | _ => rfl
@[simp] theorem neg_ok : (Res.ok r).neg = negT r.d := rfl
def Res.sl (a : Res R) (l h : Res (Option Int)) : Res R := a.bind fun x => l.bind fun lo => h.bind fun hi => cutR x lo hi
@[simp] theorem fSl_eq (x y : En → Res (Option Int)) : fSl f x y env = (f env).sl (x env) (y env) := rfl
@[simp] theorem rsl_ok (lo hi : Option Int) : (Res.ok r).sl (.ok lo) (.ok hi) = cutT r.d lo hi := rfl
def Res.part (a : Res R) : Res (Option Int) := a.bind partR
@[simp] theorem fP_eq : fP f env = (f env).part := rfl
@[simp] theorem part_ok : (Res.ok r).part = partT r.d := rfl
def isaO (c : String) (o : Option String) : Res R := match o with
  | some n => .ok (.sh (.bl (isaB n c)))
  | none => .bad
@[simp] theorem isaO_some (s t : String) : isaO s (some t) = .ok (.sh (.bl (isaB t s))) := rfl
def Res.isa (a : Res R) (c : String) : Res R := a.bind fun x => isaO c x.d.tyn
@[simp] theorem fIsa_eq (s : String) : fIsa s f env = (f env).isa s := by
  unfold fIsa Res.isa
  cases f env with
  | ok x => show (match x.d.tyn with
      | some n => Res.ok (R.sh (.bl (isaB n s)))
      | none => .bad) = isaO s x.d.tyn
            cases x.d.tyn <;> rfl
  | _ => rfl
@[simp] theorem isa_ok (s : String) : (Res.ok r).isa s = isaO s r.d.tyn := rfl
@[simp] theorem isa_exc (s : String) : (Res.exc ex pl : Res R).isa s = .exc ex pl := rfl
def Res.dk1 (a b : Res R) : Res R := a.bind fun k => b.bind fun v => dk1O k.d.key v
@[simp] theorem fDk1_eq : fDk1 f f' env = (f env).dk1 (f' env) := rfl
@[simp] theorem dk1_ok : (Res.ok r).dk1 (.ok r') = dk1O r.d.key r' := rfl
@[simp] theorem dk1O_some (k : Key) : dk1O (some k) r = if r.kp = true then .ok (.fr (.dik [(k, r.d)])) else .bad := rfl
@[simp] theorem key_int (n : Int) : T.key (.int n) = some (.inl n) := rfl
@[simp] theorem key_str (s : Str) : T.key (.str s) = some (.inr s) := rfl
@[simp] theorem fDk0_eq : fDk0 env = .ok (.fr (.dik [])) := rfl
@[simp] theorem fDt0_eq : fDt0 env = .ok (.fr (.dit [])) := rfl
-- statements
def Res.setS (a : Res R) (i : Nat) (env : En) : Out := a.out (fun r env => if r.kp then .nx (env.set i r.sl) else .bad) env
@[simp] theorem fSet_eq : fSet i f env = (f env).setS i env := rfl
@[simp] theorem setS_ok : (Res.ok r).setS i env = if r.kp = true then .nx (env.set i r.sl) else .bad := rfl
@[simp] theorem setS_exc : (Res.exc ex pl : Res R).setS i env = .exc env ex pl := rfl
def Res.setZ (a : Res R) (i : Nat) (env : En) : Out := a.out (fun r env => if r.kp then .nx (env.set i (.fz r.d)) else .bad) env
@[simp] theorem fSetZ_eq : fSetZ i f env = (f env).setZ i env := rfl
@[simp] theorem setZ_ok : (Res.ok r).setZ i env = if r.kp = true then .nx (env.set i (.fz r.d)) else .bad := rfl
@[simp] theorem setZ_exc : (Res.exc ex pl : Res R).setZ i env = .exc env ex pl := rfl
def Res.dropS (a : Res R) (env : En) : Out := a.out (fun _ env => .nx env) env
@[simp] theorem fDrop_eq : fDrop f env = (f env).dropS env := rfl
@[simp] theorem dropS_ok : (Res.ok r).dropS env = .nx env := rfl
@[simp] theorem dropS_exc : (Res.exc ex pl : Res R).dropS env = .exc env ex pl := rfl
def Res.retS (a : Res R) (env : En) : Out := a.out (fun r _ => .rt r.out) env
@[simp] theorem fRet_eq : fRet f env = (f env).retS env := rfl
@[simp] theorem retS_ok : (Res.ok r).retS env = .rt r.out := rfl
@[simp] theorem retS_exc : (Res.exc ex pl : Res R).retS env = .exc env ex pl := rfl
def Res.ifS (a : Res Bool) (u v : En → Out) (env : En) : Out := a.out (fun b env => if b then u env else v env) env
@[simp] theorem fIfS_eq : fIfS c u v env = (c env).ifS u v env := rfl
@[simp] theorem ifS_ok : (Res.ok b).ifS u v env = if b = true then u env else v env := rfl
@[simp] theorem ifS_exc : (Res.exc ex pl : Res Bool).ifS u v env = .exc env ex pl := rfl
def appS (s : Option Sl) (a : Res R) (i : Nat) (env : En) : Out := match s with
  | some (.ow (.lst l)) => a.out (fun r env => if r.kp = true ∧ l.length < sizeLine then .nx (env.set i (.ow (.lst (l ++ [r.d])))) else .bad) env
  | _ => .bad
@[simp] theorem fApp_eq : fApp i f env = appS env[i]? (f env) i env := rfl
@[simp] theorem appS_ok : appS (some (.ow (.lst l))) (.ok r) i env = if r.kp = true ∧ l.length < sizeLine then .nx (env.set i (.ow (.lst (l ++ [r.d])))) else .bad := rfl
def extT (l : List T) (a : T) (i : Nat) (env : En) : Out := match a with
  | .lst m => if l.length + m.length ≤ sizeLine then .nx (env.set i (.ow (.lst (l ++ m)))) else .bad
  | _ => .bad
@[simp] theorem extT_lst (m : List T) : extT l (.lst m) i env = if l.length + m.length ≤ sizeLine then .nx (env.set i (.ow (.lst (l ++ m)))) else .bad := rfl
def extS (s : Option Sl) (a : Res R) (i : Nat) (env : En) : Out := match s with
  | some (.ow (.lst l)) => a.out (fun r env => extT l r.d i env) env
  | _ => .bad
@[simp] theorem fExt_eq : fExt i f env = extS env[i]? (f env) i env := by
  unfold fExt extS extT
  rfl
@[simp] theorem extS_ok : extS (some (.ow (.lst l))) (.ok r) i env = extT l r.d i env := rfl
def putO (o : Option Nat) (l : List T) (r : R) (i : Nat) (env : En) : Out := match o with
  | some m => if r.kp = true then .nx (env.set i (.ow (.lst (l.set m r.d)))) else .bad
  | none => .bad
@[simp] theorem putO_some : putO (some j) l r i env = if r.kp = true then .nx (env.set i (.ow (.lst (l.set j r.d)))) else .bad := rfl
def putT (l : List T) (r : R) (y : T) (i : Nat) (env : En) : Out := match y with
  | .int j => putO (ixN l.length j) l r i env
  | _ => .bad
@[simp] theorem putT_int (n : Int) : putT l r (.int n) i env = putO (ixN l.length n) l r i env := rfl
def putS (s : Option Sl) (a b : Res R) (i : Nat) (env : En) : Out := a.out (fun r env => match s with
  | some (.ow (.lst l)) => b.out (fun y env => putT l r y.d i env) env
  | _ => .bad) env
@[simp] theorem fPut_eq : fPut i f f' env = putS env[i]? (f env) (f' env) i env := by
  unfold fPut putS sOf putT putO
  rfl
@[simp] theorem putS_ok : putS (some (.ow (.lst l))) (.ok r) (.ok r') i env = putT l r r'.d i env := rfl
def popS (s : Option Sl) (i : Nat) (env : En) : Out := match s with
  | some (.ow (.lst l)) => (match l with
    | [] => .bad
    | _ :: _ => .nx (env.set i (.ow (.lst l.dropLast))))
  | _ => .bad
@[simp] theorem fPop_eq : fPop i env = popS env[i]? i env := rfl
theorem popS_ok (h : l ≠ []) : popS (some (.ow (.lst l))) i env = .nx (env.set i (.ow (.lst l.dropLast))) := by
  cases l with
  | nil => exact (h rfl).elim
  | cons a m => rfl
@[simp] theorem popS_snoc (t : T) : popS (some (.ow (.lst (l ++ [t])))) i env = .nx (env.set i (.ow (.lst l))) := by
  rw [popS_ok _ _ _ (by simp)]; simp
def clrS (s : Option Sl) (i : Nat) (env : En) : Out := match s with
  | some (.ow (.lst _)) => .nx (env.set i (.ow (.lst [])))
  | _ => .bad
@[simp] theorem fClr_eq : fClr i env = clrS env[i]? i env := rfl
@[simp] theorem clrS_ok : clrS (some (.ow (.lst l))) i env = .nx (env.set i (.ow (.lst []))) := rfl
def unpO (o : Option En) : Out := match o with
  | some e => .nx e
  | none => .bad
@[simp] theorem unpO_some : unpO (some e) = .nx e := rfl
def Res.unpS (a : Res R) (h : T → En → Option En) (env : En) : Out := a.out (fun r env => if r.kp = true then unpO (h r.d env) else .bad) env
@[simp] theorem fUnp_eq (h : T → En → Option En) : fUnp h f env = (f env).unpS h env := by
  unfold fUnp Res.unpS unpO
  rfl
@[simp] theorem unpS_ok (h : T → En → Option En) : (Res.ok r).unpS h env = if r.kp = true then unpO (h r.d env) else .bad := rfl
def gsO (o : Option En) (gs : List T → En → Option En) (l : List T) : Option En := match o with
  | some e => gs l e
  | none => none
@[simp] theorem gsO_some (gs : List T → En → Option En) : gsO (some e) gs l = gs l e := rfl
@[simp] theorem gsC_cons (h : T → En → Option En) (gs : List T → En → Option En) (t : T) : gsC h gs (t :: l) env = gsO (h t env) gs l := rfl
@[simp] theorem gT_tup (n : Nat) (gs : List T → En → Option En) : gT n gs (.tup l) env = if l.length = n then gs l env else none := rfl
@[simp] theorem gL_lst (n : Nat) (gs : List T → En → Option En) : gL n gs (.lst l) env = if l.length = n then gs l env else none := rfl
def Res.forS (a : Res (List T)) (h : T → En → Option En) (u : En → Out) (env : En) : Out := a.out (fun ts env => forL h u ts env) env
@[simp] theorem fFor_eq (it : En → Res (List T)) (h : T → En → Option En) : fFor it h u env = (it env).forS h u env := rfl
@[simp] theorem forS_ok (h : T → En → Option En) : (Res.ok l).forS h u env = forL h u l env := rfl
@[simp] theorem iL_eq : iL f env = (f env).bind itsR := rfl
def Res.mapL (a : Res (List T)) (h : List T → List T) : Res (List T) := a.bind fun l => .ok (h l)
@[simp] theorem mapL_ok (h : List T → List T) : (Res.ok l).mapL h = .ok (h l) := rfl
@[simp] theorem iE_eq : iE f env = ((f env).bind itsR).mapL (enumT 0) := by
  unfold iE Res.mapL
  cases f env <;> rfl
@[simp] theorem iRv_eq : iRv f env = ((f env).bind itsR).mapL List.reverse := by
  unfold iRv Res.mapL
  cases f env <;> rfl
def Res.zipL (a b : Res (List T)) : Res (List T) := a.bind fun l => b.bind fun m => .ok (zipT l m)
@[simp] theorem zipL_ok (m : List T) : (Res.ok l).zipL (.ok m) = .ok (zipT l m) := rfl
def Res.zip2 (a b : Res R) : Res (List T) := a.bind fun r => b.bind fun r' => (itsR r).zipL (itsR r')
@[simp] theorem iZ_eq : iZ f f' env = (f env).zip2 (f' env) := rfl
@[simp] theorem zip2_ok : (Res.ok r).zip2 (.ok r') = (itsR r).zipL (itsR r') := rfl
def iST (a : T) : Res (List T) := match a with
  | .str x => .ok (x.cps.toList.map fun c => T.str ⟨#[c]⟩)
  | _ => .bad
@[simp] theorem iST_str (s : Str) : iST (.str s) = .ok (s.cps.toList.map fun c => T.str ⟨#[c]⟩) := rfl
def Res.iS (a : Res R) : Res (List T) := a.bind fun r => iST r.d
@[simp] theorem iS_eq : iS f env = (f env).iS := by
  unfold iS Res.iS
  cases f env with
  | ok x => show (match x.d with
      | .str x => Res.ok (x.cps.toList.map fun c => T.str ⟨#[c]⟩)
      | _ => .bad) = iST x.d
            cases x.d <;> rfl
  | _ => rfl
@[simp] theorem riS_ok : (Res.ok r).iS = iST r.d := rfl
def augT (sub : Bool) (n : Int) (a : T) (i : Nat) (env : En) : Out := match a with
  | .int m => .nx (env.set i (.fz (.int (if sub then n - m else n + m))))
  | _ => .bad
@[simp] theorem augT_add (n m : Int) : augT false n (.int m) i env = .nx (env.set i (.fz (.int (n + m)))) := rfl
@[simp] theorem augT_sub (n m : Int) : augT true n (.int m) i env = .nx (env.set i (.fz (.int (n - m)))) := rfl
def augS (sub : Bool) (s : Option Sl) (a : Res R) (i : Nat) (env : En) : Out := match s with
  | some (.fz (.int n)) => a.out (fun r env => augT sub n r.d i env) env
  | _ => .bad
@[simp] theorem fAug_eq (sub : Bool) : fAug sub i f env = augS sub env[i]? (f env) i env := by
  unfold fAug augS augT
  rfl
@[simp] theorem augS_ok (sub : Bool) (n : Int) : augS sub (some (.fz (.int n))) (.ok r) i env = augT sub n r.d i env := rfl
def compO (a : Res (List T)) : Res R := match a with
  | .ok l => .ok (.fr (.lst l))
  | _ => .bad
@[simp] theorem compO_ok : compO (.ok l) = .ok (.fr (.lst l)) := rfl
def Res.compR (a : Res (List T)) (is : List Nat) (h : T → En → Option En) (tt : En → Res Bool) (te : En → Res R) (env : En) : Res R := a.bind fun ts =>
  if is.any (fun i => isOw env[i]?) = true then .bad else compO (compL h tt te (wipeE env is) ts [])
@[simp] theorem fComp_eq (is : List Nat) (it : En → Res (List T)) (h : T → En → Option En) (tt : En → Res Bool) (te : En → Res R) : fComp is it h tt te env = (it env).compR is h tt te env := by
  unfold fComp Res.compR compO
  rfl
@[simp] theorem compR_ok (is : List Nat) (h : T → En → Option En) (tt : En → Res Bool) (te : En → Res R) : (Res.ok l).compR is h tt te env = if is.any (fun i => isOw env[i]?) = true then .bad else compO (compL h tt te (wipeE env is) l []) := rfl
end
section
variable (Cs : List Addr) (C D : Addr) (f m : Str) (g : En → Res R) (ga : En → Res (List R)) (F : List T → Res R) (FM : List T → Res (T × R)) (env e : En) (r : R) (rs : List R) (i : Nat) (fs : List (Str × T)) (d : T) (ex : Addr) (pl : Option T)
def Res.at (a : Res R) (Cs : List Addr) (f : Str) : Res R := a.bind fun x => atT Cs f x.d
@[simp] theorem fAt_eq : fAt Cs f g env = (g env).at Cs f := rfl
@[simp] theorem rat_ok : (Res.ok r).at Cs f = atT Cs f r.d := rfl
@[simp] theorem atT_obj : atT Cs f (.obj C fs) = if C ∈ Cs then atO (fs.lookup f) else .bad := rfl
@[simp] theorem atO_some (t : T) : atO (some t) = .ok (.sh t) := rfl
def Res.paS (a : Res R) (s : Option Sl) (Cs : List Addr) (f : Str) (i : Nat) (env : En) : Out := a.out (fun r env => Tr.paS env[i]? Cs f r i env) env
@[simp] theorem fPa_eq : fPa Cs i f g env = (g env).paS env[i]? Cs f i env := by
  unfold fPa Res.paS
  rfl
@[simp] theorem rpaS_ok (s : Option Sl) : (Res.ok r).paS s Cs f i env = Tr.paS env[i]? Cs f r i env := rfl
@[simp] theorem paS_ow (Cs : List Addr) (r : R) : Tr.paS (some (.ow (.obj C fs))) Cs f r i env = if r.kp = true ∧ C ∈ Cs ∧ fs.length < 1000 then .nx (env.set i (.ow (.obj C (putFT f r.d fs)))) else .bad := rfl
@[simp] theorem paS_sf (Cs : List Addr) (r : R) : Tr.paS (some (.sf (.obj C fs))) Cs f r i env = if r.kp = true ∧ C ∈ Cs ∧ fs.length < 1000 then .nx (env.set i (.sf (.obj C (putFT f r.d fs)))) else .bad := rfl
@[simp] theorem clT_obj : clT C m (.obj D fs) = (decide (D = C) && (fs.lookup m).isNone) := rfl
def meR (C : Addr) (m : Str) (F : List T → Res R) (x : R) (a : Res (List R)) : Res R := if clT C m x.d = true then a.bind fun rs => callR F (x :: rs) else .bad
@[simp] theorem meR_ok (x : R) : meR C m F x (.ok rs) = if clT C m x.d = true then callR F (x :: rs) else .bad := rfl
def Res.me (a : Res R) (C : Addr) (m : Str) (F : List T → Res R) (b : Res (List R)) : Res R := a.bind fun x => meR C m F x b
@[simp] theorem fMe_eq : fMe C m F g ga env = (g env).me C m F (ga env) := rfl
@[simp] theorem rme_ok (b : Res (List R)) : (Res.ok r).me C m F b = meR C m F r b := rfl
@[simp] theorem fMk_eq : fMk C FM ga env = (ga env).bind (mkR C FM) := rfl
@[simp] theorem mkR_eq : mkR C FM rs = if rs.all R.kp = true then mkO (FM (.obj C [] :: rs.map R.d)) else .bad := rfl
@[simp] theorem mkO_ok : mkO (.ok (d, .sh .non)) = .ok (.fr d) := rfl
def mcT (C : Addr) (m : Str) (F : List T → Res (T × R)) (b : Bool) (d : T) (a : Res (List R)) (i : Nat) (env : En) : Out := if clT C m d = true then a.out (fun rs env => if rs.all R.kp = true then mcO i b (F (d :: rs.map R.d)) env else .bad) env else .bad
@[simp] theorem fMc_eq : fMc C m i FM ga env = mcS C m FM env[i]? (ga env) i env := rfl
@[simp] theorem mcS_ow (a : Res (List R)) : mcS C m FM (some (.ow d)) a i env = mcT C m FM false d a i env := rfl
@[simp] theorem mcS_sf (a : Res (List R)) : mcS C m FM (some (.sf d)) a i env = mcT C m FM true d a i env := rfl
@[simp] theorem mcT_ok (b : Bool) : mcT C m FM b d (.ok rs) i env = if clT C m d = true then (if rs.all R.kp = true then mcO i b (FM (d :: rs.map R.d)) env else .bad) else .bad := rfl
@[simp] theorem mcO_f (x : R) : mcO i false (.ok (d, x)) env = .nx (env.set i (.ow d)) := rfl
@[simp] theorem mcO_t (x : R) : mcO i true (.ok (d, x)) env = .nx (env.set i (.sf d)) := rfl
def Res.retM (a : Res R) (env : En) : Out := a.out (fun r env => rmS r env) env
@[simp] theorem fRetM_eq : fRetM g env = (g env).retM env := rfl
@[simp] theorem retM_ok : (Res.ok r).retM env = rmS r env := rfl
@[simp] theorem rmS_sh : rmS (.sh d) env = .rm (.sh d) env := rfl
@[simp] theorem rmS_fr : rmS (.fr d) env = .rm (.fr d) env := rfl
@[simp] theorem fRetMN_eq : fRetMN env = .rm (.sh .non) env := rfl
@[simp] theorem outM_nx (s : En) : outM (.nx (.sf d :: s)) = .ok (d, .sh .non) := rfl
@[simp] theorem outM_rm (s : En) : outM (.rm (.sh r') (.sf d :: s)) = .ok (d, .sh r') := rfl
@[simp] theorem outM_rmF (s : En) : outM (.rm (.fr r') (.sf d :: s)) = .ok (d, .fr r') := rfl
def appTT (a : R) (b : Res R) (env : En) : Out := match a with
  | .fr (.lst l) => b.out (fun _ env => if l.length < sizeLine then .nx env else .bad) env
  | _ => .bad
def Res.appT (a : Res R) (b : Res R) (env : En) : Out := a.out (fun r env => appTT r b env) env
@[simp] theorem fAppT_eq (u v : En → Res R) : fAppT u v env = (u env).appT (v env) env := rfl
@[simp] theorem rappT_ok (b : Res R) : (Res.ok r).appT b env = appTT r b env := rfl
@[simp] theorem appTT_ok (l : List T) : appTT (.fr (.lst l)) (.ok r) env = if l.length < sizeLine then .nx env else .bad := rfl
end
@[simp] theorem teqs_r (l : List T) : teqs l [] = l.isEmpty := by cases l <;> rfl
@[simp] theorem teqs_l (l : List T) : teqs [] l = l.isEmpty := by cases l <;> rfl

/-! ### loops -/
/-- one turn -/
def turnO (o : Option En) (b : En → Out) : Out := match o with
  | none => Out.bad
  | some e => b e
@[simp] theorem turnO_some (e : En) (b : En → Out) : turnO (some e) b = b e := rfl
@[simp] def turn (g : T → En → Option En) (b : En → Out) (t : T) (env : En) : Out := turnO (g t env) b
def Out.cont : Out → Option En
  | .nx e => some e
  | .ct e => some e
  | _ => none
@[simp] theorem cont_nx (e : En) : (Out.nx e).cont = some e := rfl
@[simp] theorem cont_ct (e : En) : (Out.ct e).cont = some e := rfl
theorem cont_loop {o : Out} {e : En} (h : o.cont = some e) (k : En → Out) : o.loop k = k e := by
  cases o <;> simp [Out.cont] at h <;> subst h <;> rfl
section
variable {g : T → En → Option En} {b : En → Out} {env : En}
@[simp] theorem forL_nil : forL g b [] env = .nx env := rfl
theorem forL_cons (t : T) (ts : List T) : forL g b (t :: ts) env = (turn g b t env).loop (forL g b ts) := by
  show (match g t env with
    | none => Out.bad
    | some e => (b e).loop (forL g b ts)) = _
  unfold turn turnO
  cases g t env <;> rfl
/-- a loop that goes to its end: a fold -/
theorem forL_fold {A S : Type} (enc : A → T) (emb : S → En) (step : S → A → S) (P : List A → S → Prop) :
    ∀ (xs pre : List A), (∀ pre' a post s, pre ++ xs = pre' ++ a :: post → P pre' s → (turn g b (enc a) (emb s)).cont = some (emb (step s a)) ∧ P (pre' ++ [a]) (step s a)) →
    ∀ s, P pre s → forL g b (xs.map enc) (emb s) = .nx (emb (xs.foldl step s)) ∧ P (pre ++ xs) (xs.foldl step s)
  | [], pre, _, s, p => by simpa using p
  | a :: xs, pre, h, s, p => by
    obtain ⟨h1, h2⟩ := h pre a xs s rfl p
    rw [List.map_cons, forL_cons, cont_loop h1]
    have z := forL_fold enc emb step P xs (pre ++ [a]) (fun pre' a' post s' e => h pre' a' post s' (by simpa using e)) (step s a) h2
    simpa using z
theorem forL_fold0 {A S : Type} (enc : A → T) (emb : S → En) (step : S → A → S) (xs : List A) (h : ∀ a s, a ∈ xs → (turn g b (enc a) (emb s)).cont = some (emb (step s a))) (s : S) :
    forL g b (xs.map enc) (emb s) = .nx (emb (xs.foldl step s)) :=
  (forL_fold enc emb step (fun _ _ => True) xs [] (fun pre' a post s e _ => ⟨h a s (by rw [← List.nil_append xs, e]; simp), trivial⟩) s trivial).1
/-- a loop that searches -/
theorem forL_find {A : Type} (enc : A → T) (p : A → Bool) (o : A → R) : ∀ (xs : List A), (∀ a, a ∈ xs → turn g b (enc a) env = if p a then .rt (o a) else .nx env) →
    forL g b (xs.map enc) env = match xs.find? p with
      | some a => .rt (o a)
      | none => .nx env
  | [], _ => rfl
  | a :: xs, h => by
    rw [List.map_cons, forL_cons, h a List.mem_cons_self, List.find?_cons]
    cases e : p a with
    | true => simp
    | false => simpa using forL_find enc p o xs fun a m => h a (List.mem_cons_of_mem _ m)
theorem forL_all {A : Type} (enc : A → T) (p : A → Bool) (o : R) (xs : List A) (h : ∀ a, a ∈ xs → turn g b (enc a) env = if p a then .nx env else .rt o) :
    forL g b (xs.map enc) env = if xs.all p then .nx env else .rt o := by
  rw [forL_find enc (fun a => !p a) (fun _ => o) xs fun a m => by rw [h a m]; cases p a <;> rfl]
  cases e : xs.find? (fun a => !p a) with
  | none =>
    have : xs.all p = true := List.all_eq_true.mpr fun a m => by
      have := List.find?_eq_none.mp e a m
      simpa using this
    rw [this]; rfl
  | some a =>
    have h1 := List.find?_some e
    have h2 := List.mem_of_find?_eq_some e
    have : xs.all p = false := by
      apply Bool.eq_false_iff.mpr
      intro z
      have := List.all_eq_true.mp z a h2
      simp [this] at h1
    rw [this]; rfl
theorem forL_any {A : Type} (enc : A → T) (p : A → Bool) (o : R) (xs : List A) (h : ∀ a, a ∈ xs → turn g b (enc a) env = if p a then .rt o else .nx env) :
    forL g b (xs.map enc) env = if xs.any p then .rt o else .nx env := by
  rw [forL_all enc (fun a => !p a) o xs fun a m => by rw [h a m]; cases p a <;> rfl]
  have e : (xs.all fun a => !p a) = !xs.any p := by
    clear h
    induction xs with
    | nil => rfl
    | cons a l ih => simp only [List.all_cons, List.any_cons, ih, Bool.not_or]
  rw [e]
  cases xs.any p <;> rfl
theorem forL_ok {A : Type} (enc : A → T) (xs : List A) (h : ∀ a, a ∈ xs → (turn g b (enc a) env).cont = some env) : forL g b (xs.map enc) env = .nx env := by
  have := forL_fold0 (g := g) (b := b) enc (fun _ : Unit => env) (fun _ _ => ()) xs (fun a s m => h a m) ()
  exact this
/-- by an invariant -/
def TurnTo (o : Out) (N : En → Prop) (Q : Out → Prop) : Prop := match o with
  | .nx e => N e
  | .ct e => N e
  | .bk e => Q (.nx e)
  | o => Q o
@[simp] theorem tt_nx (e : En) (N : En → Prop) (Q : Out → Prop) : TurnTo (.nx e) N Q = N e := rfl
@[simp] theorem tt_ct (e : En) (N : En → Prop) (Q : Out → Prop) : TurnTo (.ct e) N Q = N e := rfl
@[simp] theorem tt_bk (e : En) (N : En → Prop) (Q : Out → Prop) : TurnTo (.bk e) N Q = Q (.nx e) := rfl
@[simp] theorem tt_rt (r : R) (N : En → Prop) (Q : Out → Prop) : TurnTo (.rt r) N Q = Q (.rt r) := rfl
theorem forL_inv {A : Type} (enc : A → T) (I : List A → En → Prop) (Q : Out → Prop) : ∀ (xs pre : List A) (env : En),
    (∀ pre' a post e, pre ++ xs = pre' ++ a :: post → I pre' e → TurnTo (turn g b (enc a) e) (I (pre' ++ [a])) Q) → (∀ e, I (pre ++ xs) e → Q (.nx e)) → I pre env → Q (forL g b (xs.map enc) env)
  | [], pre, env, _, he, h0 => he env (by simpa using h0)
  | a :: xs, pre, env, hs, he, h0 => by
    rw [List.map_cons, forL_cons]
    have h1 := hs pre a xs env rfl h0
    have go : ∀ e, I (pre ++ [a]) e → Q (forL g b (xs.map enc) e) := fun e he' =>
      forL_inv enc I Q xs (pre ++ [a]) e (fun pre' a' post e e1 => hs pre' a' post e (by simpa using e1)) (fun e => by simpa using he e) he'
    cases ht : turn g b (enc a) env <;> rw [ht] at h1
    · exact go _ h1
    · exact h1
    · exact h1
    · exact go _ h1
    · exact h1
    · exact h1
    · exact h1
/-- while by a measure -/
theorem whL_rule {c : En → Res Bool} (Q : Out → Prop) (I : Nat → En → Prop) (hs : ∀ m e, I m e → (c e = .ok false ∧ Q (.nx e)) ∨ (c e = .ok true ∧ TurnTo (b e) (fun e' => ∃ m', m' < m ∧ I m' e') Q)) :
    ∀ (n m : Nat) (env : En), m < n → I m env → Q (whL c b n env)
  | 0, _, _, h, _ => absurd h (Nat.not_lt_zero _)
  | n + 1, m, env, h, i => by
    show Q (match c env with
    | .ok true => (b env).loop (whL c b n)
    | .ok false => .nx env
    | .exc k p => .exc env k p
    | .bad => .bad)
    rcases hs m env i with ⟨h1, h2⟩ | ⟨h1, h2⟩
    · rw [h1]; exact h2
    · rw [h1]
      have go : ∀ e, (∃ m', m' < m ∧ I m' e) → Q (whL c b n e) := fun e ⟨m', h3, h4⟩ => whL_rule Q I hs n m' e (by omega) h4
      show Q ((b env).loop (whL c b n))
      cases hb : b env <;> rw [hb] at h2
      · exact go _ h2
      · exact h2
      · exact h2
      · exact go _ h2
      · exact h2
      · exact h2
      · exact h2
end
/-! ### comprehensions -/
def keepO (a : Res R) : Res (Option T) := a.bind fun r => if r.kp = true then .ok (some r.d) else .bad
@[simp] theorem keepO_ok (r : R) : keepO (.ok r) = if r.kp = true then .ok (some r.d) else .bad := rfl
def ctt (a : Res Bool) (r : Res R) : Res (Option T) := a.bind fun b => if b = true then keepO r else .ok none
@[simp] theorem ctt_ok (b : Bool) (r : Res R) : ctt (.ok b) r = if b = true then keepO r else .ok none := rfl
def cturnO (o : Option En) (tt : En → Res Bool) (te : En → Res R) : Res (Option T) := match o with
  | none => .bad
  | some e => ctt (tt e) (te e)
@[simp] theorem cturnO_some (e : En) (tt : En → Res Bool) (te : En → Res R) : cturnO (some e) tt te = ctt (tt e) (te e) := rfl
@[simp] def cturn (g : T → En → Option En) (tt : En → Res Bool) (te : En → Res R) (t : T) (env : En) : Res (Option T) := cturnO (g t env) tt te
theorem compL_step {g : T → En → Option En} {tt : En → Res Bool} {te : En → Res R} {env : En} {t : T} {ts acc : List T} {o : Option T} (h : cturn g tt te t env = .ok o) (hl : acc.length < sizeLine) :
    compL g tt te env (t :: ts) acc = compL g tt te env ts (acc ++ o.toList) := by
  unfold cturn cturnO ctt keepO at h
  show (match g t env with
    | none => Res.bad
    | some e1 => match tt e1 with
      | .ok true => (match te e1 with
        | .ok r => if r.kp = true ∧ acc.length < sizeLine then compL g tt te env ts (acc ++ [r.d]) else .bad
        | _ => .bad)
      | .ok false => compL g tt te env ts acc
      | _ => .bad) = _
  cases e1 : g t env with
  | none => rw [e1] at h; cases h
  | some e =>
    rw [e1] at h
    simp only at h ⊢
    cases e2 : tt e with
    | bad => rw [e2] at h; cases h
    | exc c p => rw [e2] at h; cases h
    | ok b =>
      rw [e2] at h
      cases b with
      | false =>
        simp at h
        subst h
        simp
      | true =>
        simp only [Rbind_ok, if_true] at h ⊢
        cases e3 : te e with
        | bad => rw [e3] at h; cases h
        | exc c p => rw [e3] at h; cases h
        | ok r =>
          rw [e3] at h
          simp only [Rbind_ok] at h ⊢
          by_cases k : r.kp = true
          · rw [if_pos k] at h
            cases h
            rw [if_pos ⟨k, hl⟩]
            rfl
          · rw [if_neg k] at h; cases h
theorem compL_fm {A : Type} {g : T → En → Option En} {tt : En → Res Bool} {te : En → Res R} {env : En} (enc : A → T) (f : A → Option T) : ∀ (xs : List A) (acc : List T), acc.length + xs.length ≤ sizeLine →
    (∀ a, a ∈ xs → cturn g tt te (enc a) env = .ok (f a)) → compL g tt te env (xs.map enc) acc = .ok (acc ++ xs.filterMap f)
  | [], acc, _, _ => by simp [compL]
  | a :: xs, acc, hl, h => by
    simp only [List.length_cons] at hl
    rw [List.map_cons, compL_step (h a List.mem_cons_self) (by omega), compL_fm enc f xs _ (by
      rw [List.length_append]
      have : (f a).toList.length ≤ 1 := by cases f a <;> simp
      omega) fun b m => h b (List.mem_cons_of_mem _ m)]
    rw [List.filterMap_cons]
    cases f a <;> simp
theorem compL_map {A : Type} {g : T → En → Option En} {tt : En → Res Bool} {te : En → Res R} {env : En} (enc : A → T) (f : A → T) (xs : List A) (hl : xs.length ≤ sizeLine)
    (h : ∀ a, a ∈ xs → cturn g tt te (enc a) env = .ok (some (f a))) : compL g tt te env (xs.map enc) [] = .ok (xs.map f) := by
  rw [compL_fm enc (fun a => some (f a)) xs [] (by simpa using hl) h]
  simp
theorem compL_flt {A : Type} {g : T → En → Option En} {tt : En → Res Bool} {te : En → Res R} {env : En} (enc : A → T) (p : A → Bool) (f : A → T) (xs : List A) (hl : xs.length ≤ sizeLine)
    (h : ∀ a, a ∈ xs → cturn g tt te (enc a) env = .ok (if p a = true then some (f a) else none)) : compL g tt te env (xs.map enc) [] = .ok ((xs.filter p).map f) := by
  rw [compL_fm enc (fun a => if p a = true then some (f a) else none) xs [] (by simpa using hl) h]
  simp only [List.nil_append]
  congr 1
  clear h hl
  induction xs with
  | nil => rfl
  | cons a xs ih => by_cases q : p a = true <;> simp [q, ih]
theorem compL_ex {A : Type} {g : T → En → Option En} {tt : En → Res Bool} {te : En → Res R} {env : En} (enc : A → T) (P : T → Prop) : ∀ (xs : List A) (acc : List T), acc.length + xs.length ≤ sizeLine → (∀ t ∈ acc, P t) →
    (∀ a, a ∈ xs → ∃ t, cturn g tt te (enc a) env = .ok (some t) ∧ P t) → ∃ l, compL g tt te env (xs.map enc) acc = .ok l ∧ l.length = acc.length + xs.length ∧ ∀ t ∈ l, P t
  | [], acc, _, hp, _ => ⟨acc, by simp [compL], by simp, hp⟩
  | a :: xs, acc, hl, hp, h => by
    simp only [List.length_cons] at hl
    obtain ⟨t, e, pt⟩ := h a List.mem_cons_self
    obtain ⟨l, e2, e3, e4⟩ := compL_ex enc P xs (acc ++ [t]) (by simp; omega) (fun u m => by
      rcases List.mem_append.mp m with m | m
      · exact hp u m
      · obtain rfl : u = t := by simpa using m
        exact pt) fun b m => h b (List.mem_cons_of_mem _ m)
    refine ⟨l, ?_, by simp at e3 ⊢; omega, e4⟩
    rw [List.map_cons, compL_step e (by omega)]
    exact e2
theorem rng_map (lo : Int) (n : Nat) : rngT lo n = (List.range n).map (fun i => T.int (lo + (i : Nat))) := rfl
theorem rng0 (n : Nat) : rngT 0 n = (List.range n).map (fun i => T.int ((i : Nat) : Int)) := by simp [rngT]
end Tr
/-! sorted: rows of two whole numbers and a text -/
namespace Tr
abbrev Tri := Int × Int × PySem.Str
def ltS (a b : PySem.Str) : Bool := decide (a.cps.toList < b.cps.toList)
theorem ltS_irr (a : PySem.Str) : ltS a a = false := by
  unfold ltS
  rw [decide_eq_false_iff_not]
  exact List.lt_irrefl _
theorem ltS_asym {a b : PySem.Str} (h : ltS a b = true) : ltS b a = false := by
  unfold ltS at *
  rw [decide_eq_true_eq] at h
  rw [decide_eq_false_iff_not]
  exact List.lt_asymm h
theorem ltS_anti {a b : PySem.Str} (h : ltS a b = false) (k : ltS b a = false) : a = b := by
  unfold ltS at *
  rw [decide_eq_false_iff_not] at h k
  have e := List.le_antisymm (Std.not_lt.mp k) (Std.not_lt.mp h)
  cases a; cases b
  congr 1
  exact Array.toList_inj.mp e
theorem ltS_tr {a b c : PySem.Str} (h : ltS b a = false) (k : ltS c b = false) : ltS c a = false := by
  unfold ltS at *
  rw [decide_eq_false_iff_not] at *
  exact Std.not_lt.mpr (List.le_trans (Std.not_lt.mp h) (Std.not_lt.mp k))
def ltTr (p q : Tri) : Bool := if p.1 = q.1 then (if p.2.1 = q.2.1 then ltS p.2.2 q.2.2 else decide (p.2.1 < q.2.1)) else decide (p.1 < q.1)
theorem ltTr_yes {p q : Tri} : ltTr p q = true ↔ p.1 < q.1 ∨ (p.1 = q.1 ∧ (p.2.1 < q.2.1 ∨ (p.2.1 = q.2.1 ∧ ltS p.2.2 q.2.2 = true))) := by
  unfold ltTr
  by_cases e : p.1 = q.1
  · rw [if_pos e]
    by_cases e2 : p.2.1 = q.2.1
    · rw [if_pos e2]
      constructor
      · intro h; exact .inr ⟨e, .inr ⟨e2, h⟩⟩
      · rintro (h | ⟨_, h | ⟨_, h⟩⟩)
        · omega
        · omega
        · exact h
    · rw [if_neg e2, decide_eq_true_eq]
      constructor
      · intro h; exact .inr ⟨e, .inl h⟩
      · rintro (h | ⟨_, h | ⟨h, _⟩⟩) <;> omega
  · rw [if_neg e, decide_eq_true_eq]
    constructor
    · intro h; exact .inl h
    · rintro (h | ⟨h, _⟩) <;> omega
theorem ltTr_no {p q : Tri} : ltTr p q = false ↔ ¬ (p.1 < q.1 ∨ (p.1 = q.1 ∧ (p.2.1 < q.2.1 ∨ (p.2.1 = q.2.1 ∧ ltS p.2.2 q.2.2 = true)))) := by
  rw [← ltTr_yes]
  cases ltTr p q <;> simp
theorem ltTr_asym (x y : Tri) (h : ltTr x y = true) : ltTr y x = false := by
  have a := ltTr_yes.mp h
  refine ltTr_no.mpr ?_
  rintro (b | ⟨b1, b | ⟨b2, b⟩⟩)
  · omega
  · omega
  · rcases a with a | ⟨_, a | ⟨_, a⟩⟩
    · omega
    · omega
    · rw [ltS_asym a] at b; cases b
theorem ltTr_tr (x y z : Tri) (h1 : ltTr y x = false) (h2 : ltTr z y = false) : ltTr z x = false := by
  have a := ltTr_no.mp h1
  have b := ltTr_no.mp h2
  have e1 : x.1 ≤ y.1 := by omega
  have e2 : y.1 ≤ z.1 := by omega
  refine ltTr_no.mpr ?_
  rintro (c | ⟨c1, c | ⟨c2, c⟩⟩)
  · omega
  · omega
  · have d1 : ltS y.2.2 x.2.2 = false := by
      cases q : ltS y.2.2 x.2.2 with
      | false => rfl
      | true => exact (a (.inr ⟨by omega, .inr ⟨by omega, q⟩⟩)).elim
    have d2 : ltS z.2.2 y.2.2 = false := by
      cases q : ltS z.2.2 y.2.2 with
      | false => rfl
      | true => exact (b (.inr ⟨by omega, .inr ⟨by omega, q⟩⟩)).elim
    rw [ltS_tr d1 d2] at c
    cases c
theorem swo_tr {α : Type} (k : α → Tri) : SrtO.Swo fun v u => ltTr (k v) (k u) := ⟨fun x y h => ltTr_asym _ _ h, fun x y z h1 h2 => ltTr_tr _ _ _ h1 h2⟩
theorem ltTr_anti {p q : Tri} (h : ltTr p q = false) (k : ltTr q p = false) : p = q := by
  have a := ltTr_no.mp h
  have b := ltTr_no.mp k
  have e1 : p.1 = q.1 := by omega
  have e2 : p.2.1 = q.2.1 := by omega
  refine Prod.ext e1 (Prod.ext e2 (ltS_anti ?_ ?_))
  · cases z : ltS p.2.2 q.2.2 with
    | false => rfl
    | true => exact (a (.inr ⟨e1, .inr ⟨e2, z⟩⟩)).elim
  · cases z : ltS q.2.2 p.2.2 with
    | false => rfl
    | true => exact (b (.inr ⟨e1.symm, .inr ⟨e2.symm, z⟩⟩)).elim
def leTr (p q : Tri) : Bool := !ltTr q p
def sortTr (l : List Tri) : List Tri := l.mergeSort leTr
theorem sortTr_is {a ps : List Tri} (h1 : a.Perm ps) (h2 : a.Pairwise fun p q => ltTr q p = false) : a = sortTr ps := by
  have e1 : (sortTr ps).Perm ps := List.mergeSort_perm ps leTr
  have e2 : (sortTr ps).Pairwise (fun a b => leTr a b = true) := List.pairwise_mergeSort (le := leTr) (fun a b c h k => by
    unfold leTr at *
    rw [Bool.not_eq_true'] at *
    exact ltTr_tr _ _ _ h k) (fun a b => by
    unfold leTr
    cases z : ltTr b a with
    | false => rfl
    | true => rw [ltTr_asym _ _ z]; rfl) ps
  refine List.Perm.eq_of_pairwise (le := fun p q => leTr p q = true) (fun x y _ _ h k => ?_) (h2.imp fun h => by
    unfold leTr
    rw [h]
    rfl) e2 (h1.trans e1.symm)
  unfold leTr at h k
  rw [Bool.not_eq_true'] at h k
  exact ltTr_anti k h
end Tr
namespace SrtT
open PySem PyProof.Rows Srt SrtO Tr
section
variable {prog : Program} {w : World} {A : Around} {E : Value → Shared → Prop} {s : Shared}
def IsTri (h : Heap) (v : Value) (p : Tri) : Prop := ∃ a o t u r n, v = .ref a ∧ h.get? a = some o ∧ o.cls = .type "tuple" ∧ o.data = .seq #[.int p.1 t, .int p.2.1 u, .str p.2.2 r] n
theorem IsTri.keeps {h h' : Heap} {v : Value} {p : Tri} (q : IsTri h v p) (k : ∀ b o, h.get? b = some o → o.cls = .type "tuple" → h'.get? b = some o) : IsTri h' v p := by
  obtain ⟨a, o, t, u, r, n, e, ho, hc, hd⟩ := q
  exact ⟨a, o, t, u, r, n, e, k _ _ ho hc, hc, hd⟩
theorem firsts3 {h : Heap} : ∀ {vs : List Value}, (∀ v ∈ vs, ∃ p, IsTri h v p) → ∃ fs : List Value, PySem.W.KatTups h vs fs ∧ fs.length = vs.length ∧ ∀ f ∈ fs, ∃ x t, f = Value.int x t
  | [], _ => ⟨[], PySem.W.KatTups.nil, rfl, fun _ hm => by simp at hm⟩
  | v :: vs, hp => by
    obtain ⟨fs, h1, h2, h3⟩ := firsts3 (vs := vs) fun v' hm => hp v' (List.mem_cons_of_mem _ hm)
    obtain ⟨p, a, o, t, u, r, n, e, ho, hc, hd⟩ := hp v (List.mem_cons_self ..)
    subst e
    refine ⟨.int p.1 t :: fs, PySem.W.KatTups.cons ho hc hd rfl h1, by rw [List.length_cons, List.length_cons, h2], fun f hm => ?_⟩
    rcases List.mem_cons.mp hm with rfl | hm
    · exact ⟨p.1, t, rfl⟩
    · exact h3 f hm
theorem tri_cmp {vs : List Value} {k : Value → Tri} (hp : ∀ v ∈ vs, IsTri s.heap v (k v)) : Cmp prog w A s (tuples' true) (fun p => p.1 ∈ vs) (lt2 fun v u => ltTr (k v) (k u)) := by
  intro p q hm hm'
  have h1 := hp _ hm
  have h2 := hp _ hm'
  show wpAny (model prog w) A (keyLt' (tuples' true) p.1 q.1) (fun r s' => s' = s ∧ r = ltTr (k p.1) (k q.1)) (fun _ _ => False) s
  unfold ltTr
  generalize k p.1 = x at h1 ⊢
  generalize k q.1 = x' at h2 ⊢
  obtain ⟨x, y, z⟩ := x
  obtain ⟨x', y', z'⟩ := x'
  obtain ⟨a, o, t, u, r, n, e, ho, hc, hd⟩ := h1
  obtain ⟨a', o', t', u', r', n', e', ho', hc', hd'⟩ := h2
  rw [e, e']
  simp only [] at *
  refine PySem.W.kat_lt ho hd ho' hd' ?_
  show PySem.W.KatLex prog w A true (decide (3 < 3)) _ [(.int x t, .int x' t'), (.int y u, .int y' u'), (.str z r, .str z' r')] 0 s
  refine PySem.W.kat_cons (SeqAt.EqAt.int_int x t x' t' prog w _ _ ?_)
  refine PySem.W.kat_go (fun e1 => ?_) (fun e1 => ?_)
  · have ex : x = x' := by simpa using e1
    rw [if_pos ex]
    refine PySem.W.kat_yes (PySem.W.kat_cons (SeqAt.EqAt.int_int y u y' u' prog w _ _ ?_))
    refine PySem.W.kat_go (fun e2 => ?_) (fun e2 => ?_)
    · have ey : y = y' := by simpa using e2
      rw [if_pos ey]
      refine PySem.W.kat_yes (PySem.W.kat_cons (SeqAt.EqAt.str_str z r z' r' prog w _ _ ?_))
      refine PySem.W.kat_go (fun e3 => ?_) (fun e3 => ?_)
      · have ez : z = z' := by simpa using e3
        exact PySem.W.kat_yes (PySem.W.kat_nil ⟨rfl, by rw [ez, ltS_irr]; rfl⟩)
      · refine PySem.W.kat_no (PySem.W.kat_one _ _ (PyProof.Rows.lt_str ?_))
        exact ⟨rfl, rfl⟩
    · have ey : ¬ y = y' := by simpa using e2
      rw [if_neg ey]
      refine PySem.W.kat_no (PySem.W.kat_one _ _ (PyProof.Rows.lt_int ?_))
      exact ⟨rfl, rfl⟩
  · have ex : ¬ x = x' := by simpa using e1
    rw [if_neg ex]
    exact PySem.W.kat_no (oneLt_int ⟨rfl, rfl⟩)
theorem tri_sortable {a : Addr} {vs : List Value} {k : Value → Tri} (h0 : 0 < vs.length) (hp : ∀ v ∈ vs, IsTri s.heap v (k v)) (ha : ∀ o, s.heap.get? a = some o → o.cls ≠ .type "tuple") : SortableO prog w A s a vs fun v u => ltTr (k v) (k u) := by
  intro h' keep
  have hp' : ∀ v ∈ vs, IsTri h' v (k v) := fun v hm => (hp v hm).keeps fun b o e c => keep b o (fun z => by subst z; exact ha o e c) e
  obtain ⟨fs, h1, h2, h3⟩ := firsts3 fun v hm => ⟨_, hp' v hm⟩
  refine ⟨tuples' true, fun Q E hq => ?_, tri_cmp hp'⟩
  refine PySem.W.kat_kind (T := .type "int") h1 (by omega) (fun f hm => ?_) (by rfl) ?_
  · obtain ⟨x, t, rfl⟩ := h3 f hm
    exact PySem.W.Looks.now
  · have e : (Value.type "int" != Value.type "tuple") = true := by first | decide +kernel | rfl | decide
    rw [e]
    exact hq
theorem sorted_tri {l : Addr} {vs : List Value} {k : Value → Tri} {Q : Value → Shared → Prop} (hl : s.heap.IsList l vs.toArray) (hz : vs.length ≤ sizeLine) (hp : ∀ v ∈ vs, IsTri s.heap v (k v))
    (h : ∀ (h' : Heap) (d : Addr) (out : List Value), Srtd (fun v u => ltTr (k v) (k u)) out → Stb (fun v u => ltTr (k v) (k u)) out vs → (∀ b o, s.heap.get? b = some o → h'.get? b = some o) → s.heap.objs.size ≤ d → (∃ n, h'.get? d = some (seqObj "list" out.toArray n)) → Q (.ref d) { s with heap := h' }) :
    wpAny (model prog w) A (call (.builtin "sorted") [.ref l]) Q E s := by
  refine sorted_ord (swo_tr k) hl hz (fun h2 h₁ a ha kk => ?_) fun out hs hb => ?_
  · refine tri_sortable (s := { s with heap := h₁ }) (by omega) (fun v hm => (hp v hm).keeps fun b o e _ => (kk b o e).2) fun o e => ?_
    have e' : some o = some (seqObj "list" vs.toArray 0) := e.symm.trans ha
    cases e'
    intro c
    exact absurd (Value.type.inj c) (by decide)
  · exact h _ _ out hs hb (fun b o e => sortedAll_old e) (Nat.le_succ _) (sortedAll_at s.heap vs out.toArray)
end
end SrtT
namespace Tr
open PySem L2
def encTr (p : Tri) : T := .tup [.int p.1, .int p.2.1, .str p.2.2]
def T.asTri : T → Option Tri
  | .tup [.int a, .int b, .str c] => some (a, b, c)
  | _ => none
def T.tris : T → Option (List Tri)
  | .lst l => l.mapM T.asTri
  | _ => none
def sortR3 : List R → Res R
  | [x] => match x.d.tris with
    | some ps => .ok (.fr (.lst ((sortTr ps).map encTr)))
    | none => .bad
  | _ => .bad
section
variable {K : PySem.W.Frag} {H : Hp} {X : Xs}
def kT (H : Hp) (v : V) : Tri := match v with
  | .ref t => match H t with
    | some (.tup [.int a, .int b, .str c]) => (a, b, c)
    | _ => (0, 0, ⟨#[]⟩)
  | _ => (0, 0, ⟨#[]⟩)
theorem tri_of {t : T} {v : V} {p : Tri} (h : Rp K H X t v) (e : t.asTri = some p) : t = encTr p ∧ (∃ a, v = .ref a ∧ H a = some (.tup [.int p.1, .int p.2.1, .str p.2.2])) ∧ kT H v = p := by
  unfold T.asTri at e
  split at e
  · rename_i a b c
    cases e
    cases h with
    | @tup ad _ us h1 h2 h3 h4 =>
      match us, h3 with
      | [u, w, z], _ =>
        have e1 := rp_int (h4 0 _ u rfl rfl)
        have e2 := rp_int (h4 1 _ w rfl rfl)
        have e3 := rp_str (h4 2 _ z rfl rfl)
        subst e1 e2 e3
        refine ⟨rfl, ⟨ad, rfl, h1⟩, ?_⟩
        unfold kT
        simp only [h1]
  · cases e
theorem tris_of : ∀ {ts : List T} {us : List V} {ps : List Tri}, RpAll K H X ts us → ts.mapM T.asTri = some ps →
    ts = ps.map encTr ∧ us.map (kT H) = ps ∧ ∀ u ∈ us, Rp K H X (encTr (kT H u)) u ∧ ∃ a, u = .ref a ∧ H a = some (.tup [.int (kT H u).1, .int (kT H u).2.1, .str (kT H u).2.2])
  | [], [], ps, _, e => by
    simp at e
    subst e
    exact ⟨rfl, rfl, fun u m => nomatch m⟩
  | t :: ts, u :: us, ps, h, e => by
    rw [List.mapM_cons] at e
    cases e1 : t.asTri with
    | none => rw [e1] at e; cases e
    | some p =>
      cases e2 : ts.mapM T.asTri with
      | none => rw [e1, e2] at e; cases e
      | some qs =>
        rw [e1, e2] at e
        cases e
        obtain ⟨z1, z2, z3⟩ := tri_of h.head e1
        obtain ⟨y1, y2, y3⟩ := tris_of h.tail e2
        refine ⟨by rw [z1, y1]; rfl, by rw [List.map_cons, z3, y2], fun w m => ?_⟩
        rcases List.mem_cons.mp m with m | m
        · subst m
          rw [z3]
          exact ⟨z1 ▸ h.head, z2⟩
        · exact y3 w m
  | [], _ :: _, _, h, _ => by have := h.1; simp at this
  | _ :: _, [], _, h, _ => by have := h.1; simp at this
end
section
variable {X : Cx}
def rSortedTr (K : PySem.W.Frag) : List V → Hp → VK → Prop := fun vs H Q => ∃ (a : Addr) (xs : List V) (k : V → Tri), vs = [V.ref a] ∧ SqL K H a xs ∧ (∀ x ∈ xs, ∃ t, x = V.ref t ∧ H t = some (.tup [.int (k x).1, .int (k x).2.1, .str (k x).2.2])) ∧
  ∀ ys p, SrtO.Srtd (fun v u => ltTr (k v) (k u)) ys → SrtO.Stb (fun v u => ltTr (k v) (k u)) ys xs → H p = none → Q (.ref p) (upd H p (.lst ys))
theorem vals_tri {x y z : V} {us : List Value} (r : Vals [x, y, z] us) : ∃ u v t, us = [u, v, t] ∧ RelV x u ∧ RelV y v ∧ RelV z t := by
  cases r with
  | cons r1 r2 =>
    obtain ⟨v, t, rfl, r3, r4⟩ := vals2 r2
    exact ⟨_, v, t, rfl, r1, r3, r4⟩
theorem cr_sortedTr : CallR X (.builtin "sorted") (rSortedTr X.K) := by
  intro pins s σ H vs us Q I r h
  obtain ⟨a, xs, k, rfl, hs, hx, q⟩ := h
  obtain ⟨its, rv, hl, hz⟩ := I.list hs
  obtain ⟨u, rfl, ru⟩ := vals1 r
  obtain rfl : u = Value.ref a := ru
  obtain ⟨e1, e2⟩ := refs_back rv fun x m => by
    obtain ⟨t, e, _⟩ := hx x m
    exact ⟨t, e⟩
  refine SrtT.sorted_tri (k := fun u => k (backV u)) hl.isList (by rw [← rv.length]; exact hz) (fun v hv => ?_) fun h' d out h1 h2 kp hd hn => ?_
  · obtain ⟨t, rfl⟩ := e2 v hv
    have hm : V.ref t ∈ xs := by rw [e1]; exact List.mem_map.mpr ⟨_, hv, rfl⟩
    obtain ⟨t', e, ht⟩ := hx _ hm
    cases e
    obtain ⟨_, its2, r2, o, ho, hc, n, hd⟩ := I.hok _ _ ht
    obtain ⟨u1, u2, u3, rfl, ri, rj, rk⟩ := vals_tri r2
    obtain ⟨t1, rfl⟩ := ri
    obtain ⟨t2, rfl⟩ := rj
    obtain ⟨t3, rfl⟩ := rk
    exact ⟨t, o, t1, t2, t3, n, rfl, ho, hc, hd⟩
  · have h3 : ∀ u ∈ out, ∃ a, u = Value.ref a := fun u hu => e2 u (h2.perm.mem_iff.mp hu)
    obtain ⟨n, hn⟩ := hn
    have hb : SrtO.Stb (fun v u => ltTr (k v) (k u)) (out.map backV) xs := by
      rw [e1]
      exact SrtO.Stb.map (swo_tr k) backV h2
    refine ⟨.ref d, upd H d (.lst (out.map backV)), I.laid (t' := s.toks) kp hd ⟨?_, out, n, vals_back h3, hn⟩, rfl, q _ d (SrtO.srtd_map h1) hb (I.hok.fresh hd)⟩
    rw [hb.len]
    exact hz
theorem callr_sorted3 : CallR X (.builtin "sorted") (rSortedTr X.K) := cr_sortedTr
theorem calli_sorted3 : CallI X (rSortedTr X.K) sortR3 := by
  intro B H0 O env σ Hs H rs vs Q xc R s rx p
  unfold sortR3 at p
  split at p
  · rename_i x
    obtain ⟨v, rfl, r1⟩ := rx.one
    split at p
    · rename_i ps e
      cases ex : x.d with
      | lst l =>
        rw [ex] at e
        obtain ⟨a, us, ea, ha, ra⟩ := r1.lst ex
        rw [ea]
        obtain ⟨z1, z2, z3⟩ := tris_of ra e
        refine ⟨a, us, kT H, rfl, SqL.of ha, fun u m => (z3 u m).2, fun ys q h1 h2 nq => ?_⟩
        have pm : (ys.map (kT H)).Perm ps := by rw [← z2]; exact h2.perm.map _
        have e2 : ys.map (kT H) = sortTr ps := sortTr_is pm (List.pairwise_map.mpr h1)
        have ra2 : RpAll X.K H (Ex B O) ((sortTr ps).map encTr) ys := by
          rw [← e2]
          refine ⟨by simp, fun i t u a b => ?_⟩
          rw [List.map_map, List.getElem?_map, b] at a
          cases a
          exact (z3 u (h2.perm.mem_iff.mp (List.mem_of_getElem? b))).1
        exact p _ _ (Same.new nq) (RR.newL R s ra2 nq)
      | _ => rw [ex] at e; cases e
    · exact p.elim
  · exact p.elim
end

/-! divmod, the least of three -/
def dvR : List R → Res R
  | [x, y] => match x.d, y.d with
    | .int i, .int j => if 0 < j ∧ j < 1073741824 then .ok (.sh (.tup [.int (i / j), .int (i % j)])) else .bad
    | _, _ => .bad
  | _ => .bad
def min3R : List R → Res R
  | [x, y, z] => match x.d, y.d, z.d with
    | .int i, .int j, .int k => .ok (.sh (.int (min (min i j) k)))
    | _, _, _ => .bad
  | _ => .bad
theorem RRs.three {K : PySem.W.Frag} {B : Bs} {O : Ow} {H H1 : Hp} {r r' r'' : R} {vs : List V} (h : RRs K B O H H1 [r, r', r''] vs) : ∃ v w z, vs = [v, w, z] ∧ RR K B O H H1 r v ∧ RR K B O H H1 r' w ∧ RR K B O H H1 r'' z := by
  match vs, h with
  | [v, w, z], h => exact ⟨v, w, z, rfl, h.1, h.2.1, h.2.2.1⟩
section
variable {X : Cx}
theorem calli_divmod : CallI X (fun xs H Q => ∃ i j, xs = [.int i, .int j] ∧ CDiv i j ∧ ∀ p, H p = none → Q (.ref p) (upd H p (.tup [.int (i / j), .int (i % j)]))) dvR := by
  intro B H0 O env σ Hs H rs vs Q xc R s rx p
  unfold dvR at p
  split at p
  · obtain ⟨v, w, rfl, r1, r2⟩ := rx.two
    split at p
    · rename_i i j e1 e2
      rw [r1.int e1, r2.int e2]
      split at p
      · rename_i c
        refine ⟨i, j, rfl, c, fun a na => p _ _ (Same.new na) ?_⟩
        refine Rp.tup (us := [.int (i / j), .int (i % j)]) upd_same (Rel.ex_new (R.mono s) na) rfl fun n t u a b => ?_
        match n with
        | 0 => cases a; cases b; exact Rp.int _
        | 1 => cases a; cases b; exact Rp.int _
        | n + 2 => simp at a
      · exact p.elim
    · exact p.elim
  · exact p.elim
theorem nuMin3_int (i j k : Int) : nuMin3 (.int i) (.int j) (.int k) = some (.int (min (min i j) k)) := by
  have e : ∀ i j : Int, nuMin2 (.int i) (.int j) = some (.int (min i j)) := fun i j => by
    show some (if decide (j < i) = true then V.int j else V.int i) = _
    by_cases h : j < i
    · have : min i j = j := by omega
      simp [h, this]
    · have : min i j = i := by omega
      simp [h, this]
  show (nuMin2 (.int i) (.int j)).bind (fun m => nuMin2 m (.int k)) = _
  rw [e]
  exact e _ _
theorem calli_min3 : CallI X (rNuC3 nuMin3) min3R := by
  intro B H0 O env σ Hs H rs vs Q xc R s rx p
  unfold min3R at p
  split at p
  · obtain ⟨v, w, z, rfl, r1, r2, r3⟩ := rx.three
    split at p
    · rename_i i j k e1 e2 e3
      rw [r1.int e1, r2.int e2, r3.int e3]
      exact ⟨_, _, _, _, rfl, nuMin3_int i j k, p _ H (Same.refl H) (Rp.int _)⟩
    · exact p.elim
  · exact p.elim
end
def dvT (a b : T) : Res R := dvR [.sh a, .sh b]
@[simp] theorem dvR_eq (x y : R) : dvR [x, y] = dvT x.d y.d := rfl
@[simp] theorem dvT_int (i j : Int) : dvT (.int i) (.int j) = if 0 < j ∧ j < 1073741824 then .ok (.sh (.tup [.int (i / j), .int (i % j)])) else .bad := rfl
def min3T (a b c : T) : Res R := min3R [.sh a, .sh b, .sh c]
@[simp] theorem min3R_eq (x y z : R) : min3R [x, y, z] = min3T x.d y.d z.d := rfl
@[simp] theorem min3T_int (i j k : Int) : min3T (.int i) (.int j) (.int k) = .ok (.sh (.int (min (min i j) k))) := rfl
def sort3T (a : T) : Res R := sortR3 [.sh a]
@[simp] theorem sortR3_eq (x : R) : sortR3 [x] = sort3T x.d := rfl
theorem tris_enc : ∀ l : List Tri, (l.map encTr).mapM T.asTri = some l
  | [] => rfl
  | p :: l => by
    rw [List.map_cons, List.mapM_cons, tris_enc l]
    rfl
@[simp] theorem sort3T_tris (l : List Tri) : sort3T (.lst (l.map encTr)) = .ok (.fr (.lst ((sortTr l).map encTr))) := by
  show (match (l.map encTr).mapM T.asTri with
    | some ps => Res.ok (R.fr (.lst ((sortTr ps).map encTr)))
    | none => .bad) = _
  rw [tris_enc]
theorem sortTr_nil : sortTr [] = [] := by simp [sortTr]
@[simp] theorem sort3T_nil : sort3T (.lst []) = .ok (.fr (.lst [])) := by
  have := sort3T_tris []
  simpa [sortTr_nil] using this
theorem sortTr_perm (l : List Tri) : (sortTr l).Perm l := List.mergeSort_perm l leTr
end Tr
/-! texts: split, join, f'..', str of a text, int of a text -/
namespace Tr
open PySem L2
def T.asStr : T → Option Str
  | .str s => some s
  | _ => none
theorem strs_back {K : PySem.W.Frag} {H : Hp} {B : Xs} : ∀ {ts : List T} {us : List V} {ys : List Str}, RpAll K H B ts us → ts.mapM T.asStr = some ys → us = ys.map V.str
  | [], [], ys, _, e => by
    simp at e
    subst e
    rfl
  | t :: ts, u :: us, ys, h, e => by
    rw [List.mapM_cons] at e
    cases e1 : t.asStr with
    | none => rw [e1] at e; cases e
    | some y =>
      cases e2 : ts.mapM T.asStr with
      | none => rw [e1, e2] at e; cases e
      | some zs =>
        rw [e1, e2] at e
        cases e
        cases t with
        | str x =>
          cases e1
          have := rp_str h.head
          rw [this, strs_back h.tail e2]
          rfl
        | _ => cases e1
  | [], _ :: _, _, h, _ => by have := h.1; simp at this
  | _ :: _, [], _, h, _ => by have := h.1; simp at this
theorem strs_all {K : PySem.W.Frag} {H : Hp} {B : Xs} {ys : List Str} (h : ys.all PyData.strOk = true) : RpAll K H B (ys.map T.str) (ys.map V.str) := by
  refine ⟨by simp, fun i t u a b => ?_⟩
  rw [List.getElem?_map] at a b
  cases e : ys[i]? with
  | none => rw [e] at a; cases a
  | some y =>
    rw [e] at a b
    cases a
    cases b
    exact .str y (List.all_eq_true.mp h y (List.mem_of_getElem? e))
def splO (a : Str) (y : R) : Res R := match y.d with
  | .str b => if (b.length == 0) = false ∧ a.length + 2 ≤ sizeLine ∧ (Txt.split a b).all PyData.strOk = true then .ok (.fr (.lst ((Txt.split a b).map T.str))) else .bad
  | _ => .bad
def T.strs : T → Option (List Str)
  | .lst l => l.mapM T.asStr
  | _ => none
def joiO (a : Str) (y : R) : Res R := match y.d.strs with
  | some ys => if (ys.map (·.length)).sum + ys.length * a.length ≤ 16777216 ∧ PyData.strOk (Txt.join a ys) = true then .ok (.sh (.str (Txt.join a ys))) else .bad
  | none => .bad
def stM (h : Str → R → Res R) (f g : En → Res R) (env : En) : Res R := (f env).bind fun r => match r.d with
  | .str a => (g env).bind (h a)
  | _ => .bad
section
variable {X : Cx} {EX : L2.St → XK} {o e : Expr} {f g : En → Res R} {apos pos : Pos}
theorem stM_core {r : V → List V → Hp → VK → Prop} {h : Str → R → Res R} {t t' : TE} (i : ∀ B H0 O env σ H (Q : VK), Rel X.K B H0 O env σ H → Post (XC X.K B O EX σ H) (fun r => ∀ v H', Same H H' → RR X.K B O H H' r v → Q v H') (f env) → t σ H Q)
    (i' : ∀ B H0 O env σ H (Q : VK), Rel X.K B H0 O env σ H → Post (XC X.K B O EX σ H) (fun r => ∀ v H', Same H H' → RR X.K B O H H' r v → Q v H') (g env) → t' σ H Q)
    (k : ∀ B H0 O env σ H H2 (Q : VK) (a : Str) (r2 : R) (w : V), Rel X.K B H0 O env σ H → Same H H2 → (∃ H1, Same H H1 ∧ Same H1 H2 ∧ RR X.K B O H1 H2 r2 w) → Post (XC X.K B O EX σ H) (fun r => ∀ v H', Same H H' → RR X.K B O H H' r v → Q v H') (h a r2) → r (.str a) [w] H2 Q) :
    ∀ B H0 O env σ H (Q : VK), Rel X.K B H0 O env σ H → Post (XC X.K B O EX σ H) (fun r => ∀ v H', Same H H' → RR X.K B O H H' r v → Q v H') (stM h f g env) → tM1 r t t' σ H Q := by
  intro B H0 O env σ H Q R p
  unfold stM at p
  refine i B H0 O env σ H _ R (p.bind.mono (fun _ _ x => x) fun z q v H1 s r1 => ?_)
  cases ed : z.d with
  | str a =>
    rw [ed] at q
    simp only [] at q
    refine ⟨⟨a, r1.str ed⟩, i' B H0 O env σ H1 _ (R.mono s) ((q.bind.up s).mono (fun _ _ x => x) fun r2 q2 w H2 s2 rr2 => ?_)⟩
    rw [r1.str ed]
    exact k B H0 O env σ H H2 Q a r2 w R (s.trans s2) ⟨H1, s, s2, rr2⟩ q2
  | _ => rw [ed] at q; exact q.elim
theorem ej_split (ho : EJ X EX o f) (he : EJ X EX e g) (hs : starEach [e] X.env = [(false, eval e X.env)] := by rfl) (hbase : attributeBase o "split" X.env (eval o X.env) = eval o X.env := by rfl) (hline : (apos.endLine == pos.line) = true := by rfl) :
    EJ X EX (.Call (.Attribute o "split" apos) [e] [] pos) (stM splO f g) := by
  obtain ⟨t, pe, i⟩ := ho.ex
  obtain ⟨t', pe', i'⟩ := he.ex
  refine ⟨⟨_, pe_split pe pe' hs hbase hline, stM_core i i' fun B H0 O env σ H H2 Q a r2 w R s ⟨H1, s1, s2, rr⟩ p => ?_⟩⟩
  unfold splO at p
  split at p
  · rename_i b e2
    split at p
    · rename_i c
      exact ⟨a, b, rfl, by rw [rr.str e2], c.1, c.2.1, fun q nq => p _ _ (s.trans (Same.new nq)) (RR.newL R s (strs_all c.2.2) nq)⟩
    · exact p.elim
  · exact p.elim
theorem ej_join (ho : EJ X EX o f) (he : EJ X EX e g) (hs : starEach [e] X.env = [(false, eval e X.env)] := by rfl) (hbase : attributeBase o "join" X.env (eval o X.env) = eval o X.env := by rfl) (hline : (apos.endLine == pos.line) = true := by rfl) :
    EJ X EX (.Call (.Attribute o "join" apos) [e] [] pos) (stM joiO f g) := by
  obtain ⟨t, pe, i⟩ := ho.ex
  obtain ⟨t', pe', i'⟩ := he.ex
  refine ⟨⟨_, pe_join pe pe' hs hbase hline, stM_core i i' fun B H0 O env σ H H2 Q a r2 w R s ⟨H1, s1, s2, rr⟩ p => ?_⟩⟩
  unfold joiO at p
  split at p
  · rename_i ys e2
    split at p
    · rename_i c
      cases ex : r2.d with
      | lst l =>
        rw [ex] at e2
        obtain ⟨ad, us, ea, ha, ra⟩ := rr.lst ex
        have eu := strs_back ra e2
        subst eu
        exact ⟨a, ad, ys, rfl, by rw [ea], .inl (SqL.of ha), c.1, p _ H2 s (Rp.str _ c.2)⟩
      | _ => rw [ex] at e2; cases e2
    · exact p.elim
  · exact p.elim
end
/-! f'..' -/
def fFm (f : En → Res R) (env : En) : Res R := (f env).bind fun r => match r.d with
  | .str y => if y.length ≤ sizeLine then .ok (.sh (.str y)) else .bad
  | .int i => if numOk i then .ok (.sh (.str (numS i))) else .bad
  | _ => .bad
def fJs : List (En → Res R) → Str → En → Res R
  | [], acc, _ => .ok (.sh (.str acc))
  | f :: fs, acc, env => (f env).bind fun r => match r.d with
    | .str y => if (acc ++ y).length ≤ sizeLine then fJs fs (acc ++ y) env else .bad
    | _ => .bad
theorem numOk_log {i : Int} (c : numOk i) : i.natAbs.log2 < 1920 := by
  by_cases z : i.natAbs = 0
  · rw [z]; decide
  · rw [Nat.log2_lt z]
    exact Nat.lt_of_lt_of_le c (Nat.pow_le_pow_right (by decide) (by decide))
inductive JsJ (X : Cx) (EX : L2.St → XK) : List Expr → List (En → Res R) → Prop where
  | nil : JsJ X EX [] []
  | cons {e : Expr} {f : En → Res R} {es : List Expr} {fs : List (En → Res R)} (h : EJ X EX e f) (r : JsJ X EX es fs) : JsJ X EX (e :: es) (f :: fs)
section
variable {X : Cx} {EX : L2.St → XK} {e : Expr} {f : En → Res R} {pos : Pos}
theorem ej_fmt (he : EJ X EX e f) : EJ X EX (.FormattedValue e (-1) none pos) (fFm f) := by
  obtain ⟨t, pe, i⟩ := he.ex
  refine ⟨⟨_, pe_fmt pe, fun B H0 O env σ H Q R p => ?_⟩⟩
  unfold fFm at p
  refine i B H0 O env σ H _ R (p.bind.mono (fun _ _ x => x) fun r q v H1 s r1 => ?_)
  cases ed : r.d with
  | str y =>
    rw [ed] at q
    simp only [] at q
    split at q
    · rename_i c
      exact .inl ⟨y, r1.str ed, c, q _ H1 s (Rp.str _ (r1.strk ed))⟩
    · exact q.elim
  | int i =>
    rw [ed] at q
    simp only [] at q
    split at q
    · rename_i c
      exact .inr ⟨i, r1.int ed, numOk_log c, q _ H1 s (Rp.str _ (strOk_str _))⟩
    · exact q.elim
  | _ => rw [ed] at q; exact q.elim
theorem js_ex {es : List Expr} {fs : List (En → Res R)} (h : JsJ X EX es fs) : ∃ ts, PJ X es ts ∧ ∀ B H0 O env σ H (Q : VK) (acc : Str), PyData.strOk acc = true → Rel X.K B H0 O env σ H →
    Post (XC X.K B O EX σ H) (fun r => ∀ v H', Same H H' → RR X.K B O H H' r v → Q v H') (fJs fs acc env) → tJs ts acc σ H fun out H1 => Q (.str out) H1 := by
  induction h with
  | nil => exact ⟨[], .nil, fun B H0 O env σ H Q acc ok R p => p _ H (Same.refl H) (Rp.str _ ok)⟩
  | cons he hr ih =>
    obtain ⟨t, pe, i⟩ := he.ex
    obtain ⟨ts, pj, j⟩ := ih
    refine ⟨t :: ts, .cons pe pj, fun B H0 O env σ H Q acc ok R p => ?_⟩
    unfold fJs at p
    refine i B H0 O env σ H _ R (p.bind.mono (fun _ _ x => x) fun r q v H1 s r1 => ?_)
    cases ed : r.d with
    | str y =>
      rw [ed] at q
      simp only [] at q
      split at q
      · rename_i c
        refine ⟨y, r1.str ed, c, ?_⟩
        exact j B H0 O env σ H1 Q (acc ++ y) (strOk_app ok (r1.strk ed)) (R.mono s) ((q.up s).mono (fun _ _ x => x) fun r2 q2 w H2 s2 rr2 => q2 w H2 (s.trans s2) (rr2.down s))
      · exact q.elim
    | _ => rw [ed] at q; exact q.elim
theorem ej_joined {v1 v2 : Expr} {rest : List Expr} {fs : List (En → Res R)} (h : JsJ X EX (v1 :: v2 :: rest) fs) : EJ X EX (.JoinedStr (v1 :: v2 :: rest) pos) (fJs fs Str.empty) := by
  obtain ⟨ts, pj, j⟩ := js_ex h
  exact ⟨⟨_, pe_joined pj, fun B H0 O env σ H Q R p => j B H0 O env σ H Q Str.empty (by decide +kernel) R p⟩⟩
end
/-! str of a number or a text, int of a number or a text -/
def strR2 : List R → Res R
  | [x] => match x.d with
    | .int i => if numOk i then .ok (.sh (.str (numS i))) else .bad
    | .str a => .ok (.sh (.str a))
    | _ => .bad
  | _ => .bad
def intR2 : List R → Res R
  | [x] => match x.d with
    | .int i => .ok (.sh (.int i))
    | .str a => if a.length ≤ 640 then (match PySem.intText? a with
      | some n => .ok (.sh (.int n))
      | none => .bad) else .bad
    | _ => .bad
  | _ => .bad
section
variable {X : Cx}
theorem callr_str2 : CallR X (.type "str") (fun xs H Q => (∃ i, xs = [.int i] ∧ i.natAbs.log2 < 1920 ∧ Q (.str (toString i)) H) ∨ (∃ a, xs = [.str a] ∧ Q (.str a) H)) := call_str_int.or SkE.call_str_str
theorem calli_str2 : CallI X (fun xs H Q => (∃ i, xs = [.int i] ∧ i.natAbs.log2 < 1920 ∧ Q (.str (toString i)) H) ∨ (∃ a, xs = [.str a] ∧ Q (.str a) H)) strR2 := by
  intro B H0 O env σ Hs H rs vs Q xc R s rx p
  unfold strR2 at p
  split at p
  · obtain ⟨v, rfl, r1⟩ := rx.one
    split at p
    · rename_i i e
      split at p
      · rename_i c
        rw [r1.int e]
        exact .inl ⟨i, rfl, numOk_log c, p _ H (Same.refl H) (Rp.str _ (strOk_str _))⟩
      · exact p.elim
    · rename_i a e
      rw [r1.str e]
      exact .inr ⟨a, rfl, p _ H (Same.refl H) (Rp.str _ (r1.strk e))⟩
    · exact p.elim
  · exact p.elim
theorem callr_int2 : CallR X (.type "int") (fun xs H Q => ((∃ i, xs = [.int i] ∧ Q (.int i) H) ∨ ∃ k, xs = [.bl k] ∧ Q (.int (if k then 1 else 0)) H) ∨ (∃ a n, xs = [.str a] ∧ PySem.intText? a = some n ∧ a.length ≤ 640 ∧ Q (.int n) H)) := call_int1.or call_int_str
theorem calli_int2 : CallI X (fun xs H Q => ((∃ i, xs = [.int i] ∧ Q (.int i) H) ∨ ∃ k, xs = [.bl k] ∧ Q (.int (if k then 1 else 0)) H) ∨ (∃ a n, xs = [.str a] ∧ PySem.intText? a = some n ∧ a.length ≤ 640 ∧ Q (.int n) H)) intR2 := by
  intro B H0 O env σ Hs H rs vs Q xc R s rx p
  unfold intR2 at p
  split at p
  · obtain ⟨v, rfl, r1⟩ := rx.one
    split at p
    · rename_i i e
      rw [r1.int e]
      exact .inl (.inl ⟨i, rfl, p _ H (Same.refl H) (Rp.int _)⟩)
    · rename_i a e
      split at p
      · rename_i c
        split at p
        · rename_i n en
          rw [r1.str e]
          exact .inr ⟨a, n, rfl, en, c, p _ H (Same.refl H) (Rp.int _)⟩
        · exact p.elim
      · exact p.elim
    · exact p.elim
  · exact p.elim
end
/-! what these compute -/
def stT (a : T) (h : Str → R → Res R) (v : Res R) : Res R := match a with
  | .str s => v.bind (h s)
  | _ => .bad
@[simp] theorem stT_str (s : Str) (h : Str → R → Res R) (v : Res R) : stT (.str s) h v = v.bind (h s) := rfl
@[simp] theorem stM_eq (h : Str → R → Res R) (f g : En → Res R) (env : En) : stM h f g env = (f env).bind fun r => stT r.d h (g env) := by
  unfold stM
  congr 1
def splT (a : Str) (y : T) : Res R := match y with
  | .str b => if (b.length == 0) = false ∧ a.length + 2 ≤ sizeLine ∧ (Txt.split a b).all PyData.strOk = true then .ok (.fr (.lst ((Txt.split a b).map T.str))) else .bad
  | _ => .bad
@[simp] theorem splO_eq (a : Str) (y : R) : splO a y = splT a y.d := rfl
theorem splT_str (a b : Str) (h : (b.length == 0) = false) (h2 : a.length + 2 ≤ sizeLine) (h3 : (Txt.split a b).all PyData.strOk = true) : splT a (.str b) = .ok (.fr (.lst ((Txt.split a b).map T.str))) := if_pos ⟨h, h2, h3⟩
theorem strs_map : ∀ l : List Str, (l.map T.str).mapM T.asStr = some l
  | [] => rfl
  | a :: l => by
    rw [List.map_cons, List.mapM_cons, strs_map l]
    rfl
def joiT (a : Str) (o : Option (List Str)) : Res R := match o with
  | some ys => if (ys.map (·.length)).sum + ys.length * a.length ≤ 16777216 ∧ PyData.strOk (Txt.join a ys) = true then .ok (.sh (.str (Txt.join a ys))) else .bad
  | none => .bad
@[simp] theorem joiO_eq (a : Str) (y : R) : joiO a y = joiT a y.d.strs := rfl
@[simp] theorem strs_lst (l : List Str) : T.strs (.lst (l.map T.str)) = some l := strs_map l
theorem joiT_some (a : Str) (ys : List Str) (h : (ys.map (·.length)).sum + ys.length * a.length ≤ 16777216) (h2 : PyData.strOk (Txt.join a ys) = true) : joiT a (some ys) = .ok (.sh (.str (Txt.join a ys))) := if_pos ⟨h, h2⟩
def fmT (a : T) : Res R := match a with
  | .str y => if y.length ≤ sizeLine then .ok (.sh (.str y)) else .bad
  | .int i => if numOk i then .ok (.sh (.str (numS i))) else .bad
  | _ => .bad
@[simp] theorem fFm_eq (f : En → Res R) (env : En) : fFm f env = (f env).bind fun r => fmT r.d := by
  unfold fFm fmT
  congr 1
@[simp] theorem fmT_str (y : Str) : fmT (.str y) = if y.length ≤ sizeLine then .ok (.sh (.str y)) else .bad := rfl
@[simp] theorem fmT_int (i : Int) : fmT (.int i) = if numOk i then .ok (.sh (.str (numS i))) else .bad := rfl
def jsT (a : T) (acc : Str) (k : Str → Res R) : Res R := match a with
  | .str y => if (acc ++ y).length ≤ sizeLine then k (acc ++ y) else .bad
  | _ => .bad
@[simp] theorem jsT_str (y acc : Str) (k : Str → Res R) : jsT (.str y) acc k = if (acc ++ y).length ≤ sizeLine then k (acc ++ y) else .bad := rfl
@[simp] theorem fJs_nil (acc : Str) (env : En) : fJs [] acc env = .ok (.sh (.str acc)) := rfl
@[simp] theorem fJs_cons (f : En → Res R) (fs : List (En → Res R)) (acc : Str) (env : En) : fJs (f :: fs) acc env = (f env).bind fun r => jsT r.d acc fun s => fJs fs s env := by
  rw [fJs]
  congr 1
def str2T (a : T) : Res R := strR2 [.sh a]
@[simp] theorem strR2_eq (x : R) : strR2 [x] = str2T x.d := rfl
@[simp] theorem str2T_int (i : Int) : str2T (.int i) = if numOk i then .ok (.sh (.str (numS i))) else .bad := rfl
@[simp] theorem str2T_str (s : Str) : str2T (.str s) = .ok (.sh (.str s)) := rfl
def int2T (a : T) : Res R := intR2 [.sh a]
@[simp] theorem intR2_eq (x : R) : intR2 [x] = int2T x.d := rfl
@[simp] theorem int2T_int (i : Int) : int2T (.int i) = .ok (.sh (.int i)) := rfl
theorem int2T_str (a : Str) (n : Int) (h : a.length ≤ 640) (e : PySem.intText? a = some n) : int2T (.str a) = .ok (.sh (.int n)) := by
  show (if a.length ≤ 640 then (match PySem.intText? a with
    | some n => Res.ok (R.sh (T.int n))
    | none => .bad) else .bad) = _
  rw [if_pos h, e]
/-! tuples joined -/
def addR2 (x y : R) : Res R := match x.d, y.d with
  | .tup l, .tup m => if l ≠ [] ∧ m ≠ [] ∧ l.length + m.length ≤ sizeLine then .ok (.sh (.tup (l ++ m))) else .bad
  | _, _ => addR x y
section
variable {X : Cx}
theorem opr_add2 : OpR X (binaryOp .Add) (fun x y H Q => rAdd x y H Q ∨ rCatT X.K x y H Q) := opr_add.or op_catT
theorem opi_add2 : OpI X (fun x y H Q => rAdd x y H Q ∨ rCatT X.K x y H Q) addR2 := by
  intro B H0 O env σ Hs H x y v w Q xc R s rx ry p
  unfold addR2 at p
  split at p
  · rename_i l m e1 e2
    split at p
    · rename_i c
      obtain ⟨a, us, ea, ha, ra⟩ := rx.tup e1
      obtain ⟨b, ws, eb, hb, rb⟩ := ry.tup e2
      refine .inr ⟨a, b, us, ws, ea, eb, SqT.of ha, SqT.of hb, ?_, by rw [← ra.1, ← rb.1]; exact c.2.2, fun z => ?_, fun _ q nq => ?_⟩
      · intro z; rw [z] at ra; exact c.1 (List.length_eq_zero_iff.mp ra.1)
      · rw [z] at rb; exact (c.2.1 (List.length_eq_zero_iff.mp rb.1)).elim
      · exact p _ _ (Same.new nq) (Rp.tup upd_same (Rel.ex_new (R.mono s) nq) (ra.append rb).1 fun i t u a' b' => ((ra.append rb).2 i t u a' b').same (Same.new nq))
    · exact p.elim
  · exact .inl (opi_add _ _ _ _ _ _ _ _ _ _ _ _ xc R s rx ry p)
end
/-! a tuple walked -/
def iTt (f : En → Res R) (env : En) : Res (List T) := (f env).bind fun r => match r.d with
  | .tup l => .ok l
  | _ => .bad
section
variable {X : Cx} {EX : L2.St → XK} {tg e : Expr} {f : En → Res R}
theorem RR.tupK {K : PySem.W.Frag} {B : Bs} {O : Ow} {H H' : Hp} {r : R} {v : V} {ts : List T} (h : RR K B O H H' r v) (e : r.d = .tup ts) : ∃ a us, v = .ref a ∧ H' a = some (.tup us) ∧ ¬ Ex B O a ∧ RpAll K H' (Ex B O) ts us := by
  cases r with
  | sh d =>
    cases e
    cases h with
    | tup hq hn hl hs => exact ⟨_, _, rfl, hq, hn, hl, hs⟩
  | fr d =>
    cases e
    obtain ⟨p, ho, e, n, h1, h2⟩ := h
    cases h2
  | bo i d =>
    cases e
    obtain ⟨a, ho, e, n, h1, h2⟩ := h
    cases h2
  | vw d =>
    cases e
    obtain ⟨a, ho, _, n, h1, h2⟩ := h
    cases h2
theorem fj_tup (he : EJ X EX e f) : FJ X EX tg e (iTt f) := by
  obtain ⟨t, pe, i⟩ := he.ex
  refine ⟨⟨_, pi_tup pe, fun B H0 O env σ H Q R p => ?_⟩⟩
  refine i B H0 O env σ H _ R (p.bind.mono (fun _ _ x => x) fun r q v H1 s r1 => ?_)
  cases ed : r.d with
  | tup l =>
    rw [ed] at q
    obtain ⟨a, us, ev, ha, na, ra⟩ := r1.tupK ed
    refine ⟨a, ev, ⟨us, SqT.of ha⟩, q _ H1 s fun i H Y' k sl th => ?_⟩
    have sq : SqT X.K H a us := SqT.of (k.k _ _ ha na).1
    refine ⟨fun hi => ?_, fun hi => ⟨us, sq, by rw [← ra.1]; exact hi⟩⟩
    have hj : i < us.length := by rw [← ra.1]; exact hi
    refine ⟨⟨us, us[i], sq, List.getElem?_eq_getElem hj⟩, fun x H' y => ?_⟩
    obtain ⟨e, y⟩ := y
    subst e
    exact ⟨Same.refl _, fun t et => (ra.2 i t x et (y us sq)).keep k⟩
  | _ => rw [ed] at q; exact q.elim
end
def itT (a : T) : Res (List T) := match a with
  | .tup l => .ok l
  | _ => .bad
@[simp] theorem itT_tup (l : List T) : itT (.tup l) = .ok l := rfl
@[simp] theorem iTt_eq (f : En → Res R) (env : En) : iTt f env = (f env).bind fun r => itT r.d := by
  unfold iTt
  congr 1
end Tr
namespace Tr
open PySem L2

/-! ### a caught exception is an object like others: the try statement -/
theorem exq_ok {P : Program} {w : World} {H : Hp} {h : Heap} {a : Addr} {cls : Value} {d : Option Addr} {o : Obj} {vs : Array Value} (e : h.get? a = some o) (e1 : o.cls = cls) (e2 : o.dict = d) (e3 : o.data = .fields vs) : ObjOk P w H h a (exq a cls d) :=
  ⟨⟨o, vs, e, e1, e2, e3⟩, ⟨o, e⟩, fun h1 h2 z k => by
    obtain ⟨o', vs', q1, q2⟩ := z
    exact ⟨o', vs', k _ q1, q2⟩⟩
section
variable {X : Cx} {pins : List (Addr × Obj)} {σ : L2.St} {H : Hp} {s : Shared}
/-- an object that nobody tracked is tracked from now on -/
theorem inv_track (I : Inv X pins σ H s) {a : Addr} {u : HO} (na : H a = none) (hu : ObjOk X.prog X.w (upd H a u) s.heap a u) (n0 : X.s_0.heap.get? a = none) (nL : a ≠ X.env.locals)
    (nC : ∀ x c, X.env.cells.lookup x = some c → c ≠ a) (nP : ∀ p ∈ X.pn ++ pins, p.1 ≠ a) : Inv X pins σ (upd H a u) s := by
  have old : ∀ {b : Addr} {o : Obj}, X.s_0.heap.get? b = some o → b ≠ a := fun e z => by rw [z, n0] at e; cases e
  have oldH : ∀ {b : Addr} {o : HO}, H b = some o → b ≠ a := fun e z => by rw [z, na] at e; cases e
  refine ⟨I.ok, I.os, I.bare, ⟨I.base.keep, I.base.slot, fun b o e n hx => ?_, I.base.there, fun b xs e => ?_, fun b o xs e => ?_, fun b ps e => ?_⟩, I.loc, I.cell, ?_, fun x c e => ?_, fun p hp => ?_, fun b o e => ?_, I.len⟩
  · rw [upd_ne (old e)]; exact I.base.free b o e n hx
  · have z := I.base.tups b xs e
    rw [upd_ne (oldH z)]; exact z
  · have z := I.base.frzs b o xs e
    rw [upd_ne (oldH z)]; exact z
  · obtain ⟨m, z⟩ := I.base.tbls b ps e
    exact ⟨m, by rw [upd_ne (oldH z)]; exact z⟩
  · rw [upd_ne (Ne.symm nL)]; exact I.free
  · rw [upd_ne (nC x c e)]; exact I.freeC x c e
  · obtain ⟨z1, z2, z3⟩ := I.pin p hp
    exact ⟨z1, by rw [upd_ne (nP p hp)]; exact z2, z3⟩
  · by_cases q : b = a
    · subst q
      rw [upd_same] at e
      cases e
      exact hu
    · rw [upd_ne q] at e
      exact (I.hok b o e).stay (fun _ _ _ r => r) (fun c r => by rw [upd_ne (oldH r)]; exact r) fun c xs r => by rw [upd_ne (oldH r)]; exact r
/-- into a suite, and out of it -/
theorem inv_suite (I : Inv X pins σ H s) (a : Addr) : Inv (X.suite a (X.pn ++ pins)) [] σ H s :=
  ⟨I.ok.suite a _, I.os, I.bare, I.base, I.loc, I.cell, I.free, I.freeC, fun p hp => I.pin p (by simpa using hp), I.hok, I.len⟩
theorem inv_back {a : Addr} {pn' : List (Addr × Obj)} (I : Inv (X.suite a (X.pn ++ pins)) pn' σ H s) (ok : X.Ok) : Inv X pins σ H s :=
  ⟨ok, I.os, I.bare, I.base, I.loc, I.cell, I.free, I.freeC, fun p hp => I.pin p (List.mem_append_left _ hp), I.hok, I.len⟩
end
/-- a clause: its class (its two classes), the slot of its name, its suite -/
inductive Cl where
  | one (c : Value) (nm : Option Nat) (ts : TS)
def nameD (nm : Option Nat) (D : Ends) : Ends := match nm with
  | none => D
  | some i => { nx := fun σ' H' => D.nx (σ'.set i none) H', rt := D.rt, bk := fun σ' H' => D.bk (σ'.set i none) H', ct := fun σ' H' => D.ct (σ'.set i none) H' }
def nameS (nm : Option Nat) (a : Addr) (σ : L2.St) : L2.St := match nm with
  | none => σ
  | some i => σ.set i (some (.ref a))
def wT (K : PySem.W.Frag) (Wout : WX) (D : Ends) : List Cl → WX
  | [] => Wout
  | .one c nm ts :: r => fun cls d σ H => ∃ b, PySem.W.exmOne K cls c = some b ∧ (b = true → ∀ a, H a = none → ts (nameD nm D) (nameS nm a σ) (upd H a (exq a cls d))) ∧ (b = false → wT K Wout D r cls d σ H)
inductive NmOk (X : Cx) : Option Str → Option Nat → Prop
  | no : NmOk X none none
  | yes (i : Nat) {n : Str} : X.N.Nodup → X.N[i]? = some n → X.env.kindOf n = some .local → NmOk X (some n) (some i)
inductive HdT (X : Cx) : List ExceptHandler → List Cl → Prop
  | nil : HdT X [] []
  | one {x : Str} {c : Value} {n : Option Str} {nm : Option Nat} {ts : TS} {b₀ : Stmt} {suite : List Stmt} {np pos' : Pos} {hds : List ExceptHandler} {l : List Cl} (hc : Names X x c) (hn : NmOk X n nm)
      (hsu : ∀ (a : Addr) (pn : List (Addr × Obj)), PSs (X.suite a pn) (b₀ :: suite) ts) (r : HdT X hds l) :
      HdT X (.ExceptHandler (some (.Name x np)) n (b₀ :: suite) pos' :: hds) (.one c nm ts :: l)
section
variable {X : Cx} {pins : List (Addr × Obj)} {σ : L2.St} {H : Hp} {s : Shared} {D : Ends}
/-- a suite runs, its exception tracked -/
theorem suite_run {a : Addr} {B : Heap} {cls : Value} {d : Option Addr} {n : Option Str} {nm : Option Nat} {ts : TS} {b₀ : Stmt} {suite : List Stmt} {pos' : Pos} (ok : X.Ok) (hn : NmOk X n nm) (hf : X.env.frame = some X.env.locals)
    (hsu : ∀ (a : Addr) (pn : List (Addr × Obj)), PSs (X.suite a pn) (b₀ :: suite) ts) (fl : HandSPX.FlyingZ B (X.env :: X.outer) a (Zc cls d) s.heap) (na : H a = none)
    (J : ∀ h', HandSPX.FlyingZ B (X.env :: X.outer) a (Zc cls d) h' → s.heap.UpToSlots h' → Inv X pins σ H { s with heap := h' } ∧ Inv X pins σ (upd H a (exq a cls d)) { s with heap := h' })
    (q : ts (nameD nm D) (nameS nm a σ) (upd H a (exq a cls d))) :
    codeAny (model X.prog X.w) (X.A.mark (some (.ref a))) (.handlers (.ref a) [.ExceptHandler none n (b₀ :: suite) pos'] X.env) (fun r s₂ => match r with
      | .ok f => (match (generalizing := false) n with
        | none => SP X pins D f s₂
        | some n => wpAny (model X.prog X.w) X.A (do bindName X.env n .none; unbindBehindTheSuite X.env n pos') (fun _ s₃ => SP X pins D f s₃) X.xe s₂)
      | .error x => cameBackBy (model X.prog X.w) X.A X.env X.xe x s₂) s := by
  cases hn with
  | no =>
    refine codeAny_handlers_suite (HandSPX.lands_againZ fl fun h4 fl4 up4 => ?_)
    have S4 := inv_suite (J h4 fl4 up4).2 a
    refine wpAny_mono ((hsu a (X.pn ++ pins)).run [] _ _ _ _ S4 q) (fun f s6 z => ?_) (fun _ _ z => z.elim)
    cases f with
    | ret u =>
      obtain ⟨v, σ6, H6, J6, r6, q6⟩ := z
      exact ⟨v, σ6, H6, inv_back J6 ok, r6, q6⟩
    | next => obtain ⟨σ6, H6, J6, q6⟩ := z; exact ⟨σ6, H6, inv_back J6 ok, q6⟩
    | brk => obtain ⟨σ6, H6, J6, q6⟩ := z; exact ⟨σ6, H6, inv_back J6 ok, q6⟩
    | cont => obtain ⟨σ6, H6, J6, q6⟩ := z; exact ⟨σ6, H6, inv_back J6 ok, q6⟩
  | @yes i n hN hi hl =>
    refine codeAny_handlers_suite_as (HandSPX.lands_againZ fl fun h4 fl4 up4 => ?_)
    have S4 := inv_suite (J h4 fl4 up4).2 a
    refine store_ok (X := X.suite a (X.pn ++ pins)) (v := .ref a) S4 hN hi (.inl hl) rfl (fun s5 S5 => ?_) (.inr hl)
    refine wpAny_mono ((hsu a (X.pn ++ pins)).run [] _ _ _ _ S5 q) (fun f s6 z => ?_) (fun _ _ z => z.elim)
    have fin : ∀ {σ6 : L2.St} {H6 : Hp} {P : Shared → Prop}, Inv (X.suite a (X.pn ++ pins)) [] σ6 H6 s6 → (∀ s7, Inv X pins (σ6.set i none) H6 s7 → P s7) → wpAny (model X.prog X.w) X.A (do bindName X.env n .none; unbindBehindTheSuite X.env n pos') (fun _ s7 => P s7) X.xe s6 :=
      fun J6 k => gone_ok (inv_back J6 ok) hN hi hl k
    cases f with
    | ret u =>
      obtain ⟨v, σ6, H6, J6, r6, q6⟩ := z
      exact fin J6 fun s7 J7 => ⟨v, _, H6, J7, r6, q6⟩
    | next => obtain ⟨σ6, H6, J6, q6⟩ := z; exact fin J6 fun s7 J7 => ⟨_, H6, J7, q6⟩
    | brk => obtain ⟨σ6, H6, J6, q6⟩ := z; exact fin J6 fun s7 J7 => ⟨_, H6, J7, q6⟩
    | cont => obtain ⟨σ6, H6, J6, q6⟩ := z; exact fin J6 fun s7 J7 => ⟨_, H6, J7, q6⟩

/-- the names of an except clause, in the suite's surroundings -/
theorem name_in_suite {a : Addr} {x : Str} {c : Value} {np : Pos} {Q : Value → Shared → Prop} {E : Value → Shared → Prop} (hc : Names X x c) (S : Inv (X.suite a (X.pn ++ pins)) [] σ H s) (q : Q c s) :
    wpAny (model X.prog X.w) (X.A.mark (some (.ref a))) (eval (.Name x np) X.env) Q E s := by
  rcases hc with ⟨g, dbg, m | ⟨m, v, nn⟩⟩
  · exact ld_glob S g m q dbg
  · exact ld_blt S g m v q nn dbg
/-- where it was caught: its frames' facts -/
structure Cgt (X : Cx) (pins : List (Addr × Obj)) (B : Heap) (a : Addr) (cls : Value) (d : Option Addr) (σ : L2.St) (H : Hp) (s : Shared) : Prop where
  fl : HandSPX.FlyingZ B (X.env :: X.outer) a (Zc cls d) s.heap
  na : H a = none
  inv : ∀ h', HandSPX.FlyingZ B (X.env :: X.outer) a (Zc cls d) h' → s.heap.UpToSlots h' → Inv X pins σ H { s with heap := h' }
  new : X.s_0.heap.get? a = none ∧ a ≠ X.env.locals ∧ (∀ x c, X.env.cells.lookup x = some c → c ≠ a) ∧ ∀ p ∈ X.pn ++ pins, p.1 ≠ a
theorem Cgt.trk {B : Heap} {a : Addr} {cls : Value} {d : Option Addr} (c : Cgt X pins B a cls d σ H s) {h' : Heap} (fl : HandSPX.FlyingZ B (X.env :: X.outer) a (Zc cls d) h') (up : s.heap.UpToSlots h') :
    Inv X pins σ (upd H a (exq a cls d)) { s with heap := h' } := by
  obtain ⟨o, vs, e, z, dd⟩ := fl.there
  exact inv_track (c.inv h' fl up) c.na (exq_ok e z.1 z.2 dd) c.new.1 c.new.2.1 c.new.2.2.1 c.new.2.2.2
theorem Cgt.i0 {B : Heap} {a : Addr} {cls : Value} {d : Option Addr} (c : Cgt X pins B a cls d σ H s) : Inv X pins σ H s := c.inv s.heap c.fl (Heap.UpToSlots.refl _)
theorem Cgt.lt {B : Heap} {a : Addr} {cls : Value} {d : Option Addr} (c : Cgt X pins B a cls d σ H s) {M : Model} : PySem.W.Looks M s.heap (typeOf (.ref a)) cls := by
  obtain ⟨o, vs, e, z, dd⟩ := c.fl.there
  exact fun A Q E s k q => wpAny_typeOf_ref (k _ _ e) (by rw [z.1]; exact q)
open PySem.Spec PyProof.Rows in
/-- the clauses, one after the other -/
theorem hands_go {Wout : WX} {a : Addr} {B : Heap} {cls : Value} {d : Option Addr} {sI : Shared} (ok : X.Ok) (hs : X.stack = X.env :: X.outer) (hf : X.env.frame = some X.env.locals) (tk : Takes X Wout) (c : Cgt X pins B a cls d σ H s)
    (J : Inv X pins σ H sI) (nb : ∀ b o, sI.heap.get? b = some o → b ∉ frs X.stack → B.get? b = some o) (up : sI.heap.UpToSlots s.heap) (os : s.os = sI.os) (ag : AllBare s.gens) :
    ∀ {hds : List ExceptHandler} {l : List Cl}, HdT X hds l → wT X.K Wout D l cls d σ H → wpAny (model X.prog X.w) X.A (handleBy (.ref a) X.env hds) (SP X pins D) X.xe s := by
  intro hds l hk
  induction hk with
  | nil =>
    intro w
    refine wpAny_handleBy_nil ?_
    have fl3 := c.fl
    obtain ⟨k1, k2, k3, oe, vs, T, oT, ts', he, hz, hd, h1, hr⟩ := id fl3
    unfold PySem.passOn
    refine wpAny_bind (wpAny_field he hd h1 ?_)
    rw [if_neg (show ¬ ((Value.ref T == Value.none) = true) from by simp)]
    have fin : wpAny (model X.prog X.w) X.A (setFlight (.ref a) X.env.frame) (fun _ s4 => wpAny (model X.prog X.w) X.A (throw (.ref a) : Sem Flow) (SP X pins D) X.xe s4) X.xe s := by
      rw [hf]
      refine HandSPX.setFlight_upZ fl3 fun h4 hh4 up4 => wpAny_throw (tk _ _ ?_)
      exact ⟨a, B, sI, pins, σ, H, cls, d, rfl, J, nb, up.trans up4, .inr (.inr (by rw [hs]; exact hh4)), c.na, os, ag, w⟩
    first
      | exact wpAny_bind (wpAny_pure (wpAny_bind fin))
      | exact wpAny_bind fin
  | @one x cc n nm ts b₀ suite np pos' hds2 l2 hc hn hsu r ih =>
    intro w
    obtain ⟨b, hb1, hyes, hno⟩ := w
    refine wpAny_handleBy_cons (codeAny_handlers_test ?_) (by intro q; cases q)
    have LM := PySem.W.exm_one (M := model X.prog X.w) (c.i0.kIn) c.lt hb1
    have S3 := inv_suite (c.trk c.fl (Heap.UpToSlots.refl _)) a
    refine name_in_suite hc S3 (LM.here ?_)
    cases b with
    | true => exact suite_run ok hn hf hsu c.fl c.na (fun h' fl' up' => ⟨c.inv h' fl' up', c.trk fl' up'⟩) (hyes rfl a c.na)
    | false =>
      show wpAny _ X.A (handleBy (.ref a) X.env hds2) _ _ _
      exact ih (hno rfl)
end
section
variable {X : Cx} {body : List Stmt} {h₀ : ExceptHandler} {hds : List ExceptHandler} {l : List Cl} {pos : Pos} {tb : WX → TS} {Wout : WX}
theorem ps_tryT (hs : X.stack = X.env :: X.outer) (hf : X.env.frame = some X.env.locals) (hex : X.ex = []) (tk : Takes X Wout)
    (hb : ∀ (W : WX) (pn : List (Addr × Obj)) (xe : Value → Shared → Prop), Takes (X.tr pn xe) W → PassesOwn (model X.prog X.w) X.A X.env xe → PSs (X.tr pn xe) body (tb W))
    (hh : HdT X (h₀ :: hds) l) : PS X (.Try body (h₀ :: hds) [] [] pos) (fun D σ H => tb (wT X.K Wout D l) D σ H) := by
  refine ⟨fun pins s σ H D I h => ?_⟩
  have ok := I.ok
  have hfr : X.A.frames = some (X.env :: X.outer) := by rw [ok.frames, hs]
  refine wpAny_Try_except ?_
  refine wpAny_mono ((hb (wT X.K Wout D l) (X.pn ++ pins) (fun e s₁ => wpAny (model X.prog X.w) X.A (noteFrame e X.env) (fun _ s₂ => wpAny (model X.prog X.w) X.A (setFlight e none) (fun _ s₃ =>
    wpAny (model X.prog X.w) X.A (handleBy e X.env (h₀ :: hds)) (SP X pins D) X.xe s₃) X.xe s₂) X.xe s₁) (fun u s' xx => ?_) PassesOwn.looking).run [] s σ H D (I.toTry _) h) (fun f s1 hsp => ?_) (fun e s1 he => he)
  · obtain ⟨a, B, sI, pins', σ', H', cls, d, rfl, J', nb, up, sky, na, os, ag, w⟩ := xx
    have J : Inv X pins σ' H' sI := J'.ofTry ok
    have sky' : Sky B (X.env :: X.outer) a (Zc cls d) X.env.locals s'.heap := by rw [← hs]; exact sky
    show wpAny (model X.prog X.w) X.A (noteFrame (.ref a) X.env) _ _ _
    refine Sky.land Zc.steady hfr hf sky' fun h3 fl3 up3 => ?_
    have inv : ∀ h', HandSPX.FlyingZ B (X.env :: X.outer) a (Zc cls d) h' → h3.UpToSlots h' → Inv X pins σ' H' { s' with heap := h' } := fun h' fl' up' => J.landed nb fl'.1 ((up.trans up3).trans up') os ag
    obtain ⟨oe3, vs3, he3, hz3, hd3⟩ := fl3.there
    have nfr : a ∉ frs (X.env :: X.outer) := fun hm => by
      obtain ⟨_, o', e', hnf⟩ := fl3.2.2.1.mem hm
      rw [he3] at e'; cases e'
      exact hnf _ hd3
    have nL : a ≠ X.env.locals := fun z => nfr (List.mem_filterMap.mpr ⟨X.env, List.mem_cons_self, by rw [hf, z]⟩)
    have J3 := inv h3 fl3 (Heap.UpToSlots.refl _)
    have nC : ∀ x c, X.env.cells.lookup x = some c → c ≠ a := fun x c e z => by
      subst z
      obtain ⟨v, hv⟩ := J3.cell x c e
      obtain ⟨o, e1, e2⟩ := hv
      rw [he3] at e1
      cases e1
      rw [hd3] at e2
      cases e2
    have nI : sI.heap.get? a = none := by
      cases q : sI.heap.get? a with
      | none => rfl
      | some o =>
        have z := nb a o q (by rw [hs]; exact nfr)
        rw [fl3.2.1] at z; cases z
    have n0 : X.s_0.heap.get? a = none := by
      cases q : X.s_0.heap.get? a with
      | none => rfl
      | some o =>
        obtain ⟨o', z⟩ := J.base.there a o q (by rw [hex]; simp)
        rw [nI] at z; cases z
    have nP : ∀ p ∈ X.pn ++ pins, p.1 ≠ a := fun p hp z => by
      have q := (J.pin p hp).1
      rw [z, nI] at q; cases q
    exact hands_go (s := { s' with heap := h3 }) ok hs hf tk ⟨fl3, na, inv, n0, nL, nC, nP⟩ J nb (up.trans up3) os ag hh w
  · cases f with
    | next =>
      obtain ⟨σ', H', J', q⟩ := hsp
      exact wpAny_execs_nil ⟨σ', H', J'.ofTry ok, q⟩
    | brk =>
      obtain ⟨σ', H', J', q⟩ := hsp
      exact ⟨σ', H', J'.ofTry ok, q⟩
    | cont =>
      obtain ⟨σ', H', J', q⟩ := hsp
      exact ⟨σ', H', J'.ofTry ok, q⟩
    | ret u =>
      obtain ⟨v, σ', H', J', r, q⟩ := hsp
      exact ⟨v, σ', H', J'.ofTry ok, r, q⟩
end
end Tr
namespace Tr
open PySem L2

/-! ### exceptions in functions of trees -/
/-- whether the class number c stands under d -/
def subC (c d : Nat) : Bool := c == d || (d == 12 && decide (13 ≤ c) && decide (c ≤ 23)) || (d == 3 && (c == 4 || c == 5)) || (d == 6 && decide (7 ≤ c) && decide (c ≤ 9))
def exT (c : Nat) : Option T → T
  | none => .ex0 c
  | some t => .ex1 c t
abbrev Hd := List Nat × Option Nat × (En → Out)
def hOut : Out → Out
  | .exc _ _ _ => .bad
  | o => o
def disp : List Hd → En → Nat → Option T → Out
  | [], e, c, p => .exc e c p
  | (ds, nm, f) :: r, e, c, p => if ds.any (subC c) = true then (match nm with
    | none => hOut (f e)
    | some i => hOut ((f (e.set i (.fz (exT c p)))).onE fun e => e.set i .no)) else disp r e c p
def fTry (Cs : List Nat) (hs : List Hd) (fb : En → Out) (env : En) : Out := match fb env with
  | .exc e c p => if c ∈ Cs then disp hs e c p else .bad
  | o => o
def fRs0 (C : Nat) (env : En) : Out := .exc env C none
def fRs1 (C : Nat) (u : En → Res R) (env : En) : Out := sOf u (fun r env => if r.kp = true then .exc env C (some r.d) else .bad) env

/-! ### raise -/
/-- an exception's own __init__: self.name = name -/
def spXi (K : PySem.W.Frag) : Sp := fun vs H Q _ => ∃ (a C : Addr) (v : V), vs = [.ref a, v] ∧ OexC K C ∧ PySem.W.findIn K (.ref C) "name" = some none ∧ H a = some (exo a C none) ∧
  ∀ d, H d = none → d ≠ a → Q .non (upd (upd H d (exd d [(("name" : Str), v)])) a (exo a C (some d)))
theorem ok_xi {P : Program} {w : World} {K : PySem.W.Frag} {mg : Str → Option Value} {base : Heap} {qual : Str} {st : Stmt} {f : Addr} {fd : FuncData} {p1 p2 p3 p4 : Pos} (F : Fun K "__init__" qual st f fd) (S : FnScope ["self", "name"] ["self", "name"] (defScope st))
    (hb : defBody st = [.Assign [.Attribute (.Name "self" p1) "name" p2] (.Name "name" p3) p4])
    (h1 : (defScope st).names.lookup ("self" : Str) = some NameKind.local) (h2 : (defScope st).names.lookup ("name" : Str) = some NameKind.local) :
    FnOk P w K mg base (L2.CX P w) 1 f fd ["self", "name"] (spXi K) := by
  refine F.okX (k := 0) S (fun vs H Q E h => ?_) (fun cdv A outer s H vs Q E hr h => ?_)
  · obtain ⟨a, C, v, rfl, _⟩ := h
    rfl
  · obtain ⟨a, C, v, rfl, T, hno, ea, q⟩ := h
    rw [hb]
    have e0 : PE (cxOf (L2.CX P w) P w K mg base ["self", "name"] qual (defScope st) f cdv A outer s H E) (.Name "self" p1) (tVar 0) := pe_var rfl (.inl h1)
    have e1 : PE (cxOf (L2.CX P w) P w K mg base ["self", "name"] qual (defScope st) f cdv A outer s H E) (.Name "name" p3) (tVar 1) := pe_var rfl (.inl h2)
    exact ⟨_, pss_one (ps_ost e0 e1), v, rfl, .ref a, rfl, a, C, rfl, T, hno, .inl ⟨ea, fun d nd nda => q d nd nda⟩⟩
/-- an exception's class with such an __init__ -/
structure XMk1 (P : Program) (w : World) (K : PySem.W.Frag) (mg : Str → Option Value) (base : Heap) (x : Str) (C : Nat) : Prop where
  ex : ∃ (c f : Addr) (fd : FuncData), clsA K C = some c ∧ mg x = some (.ref c) ∧ OexC K c ∧ PySem.W.findIn K (.ref c) "name" = some none ∧ PySem.W.findIn K (.ref c) "__init__" = some (some (.ref f)) ∧
    PySem.W.typeIn K (.ref f) = some (.type "function") ∧ Binds K fd ["self", "name"] [] ∧ FnOk P w K mg base (L2.CX P w) 1 f fd ["self", "name"] (spXi K)
/-- one without -/
structure XMk0 (K : PySem.W.Frag) (mg : Str → Option Value) (x : Str) (C : Nat) : Prop where
  ex : ∃ c : Addr, clsA K C = some c ∧ mg x = some (.ref c) ∧ PySem.W.excIn K c [.type "ValueError", .type "Exception", .type "BaseException", .type "object"] "ValueError.__new__" = true ∧ PySem.W.keepIn K (.ref c) = true ∧
    PySem.W.subIn K (.ref c) (.type "BaseException") = some true ∧ PySem.W.typeIn K (.ref c) = some (.type "type")
section
variable {X : Cx} {EX : L2.St → XK} {e : Expr} {u : En → Res R} {C k : Nat} {x m : Str} {p p2 pos pos2 : Pos}
theorem sj_rs0 {j} (M : XMk0 X.K X.mg x C) (hc : X.calm = true) (tk : Takes X (fun cls d σ H => EX σ cls d H)) (hg : Gl X x) (hdb : (x == ("__debug__" : Str)) = false := by decide) :
    SJ X EX (.Raise (some (.Call (.Name x p) [.Constant (.str m) j p2] [] pos)) none pos2) (fRs0 C) := by
  obtain ⟨c, h0, h1, h2, h3, h4, h5⟩ := M.ex
  exact ⟨⟨_, ps_raise hc tk (pmk_own PySem.F.excBase_ValueError h2 h1 h3 (raises_own h4 h5) hg hdb), fun B H0 O env σ H D R q => q O σ H none c h0 R Keep.refl rfl⟩⟩
theorem sj_rs1 (M : XMk1 X.prog X.w X.K X.mg X.base x C) (hc : X.calm = true) (tk : Takes X (fun cls d σ H => EX σ cls d H)) (hr : Room k X.A) (hk : 2 ≤ k) (hg : Gl X x) (he : EJ X EX e u) (hdb : (x == ("__debug__" : Str)) = false := by decide)
    (hst : starEach (e :: []) X.env = (false, eval e X.env) :: starEach [] X.env := by rfl) (hpl : (backTo pos (starEach [] X.env)).any (·.1) = false := by rfl) :
    SJ X EX (.Raise (some (.Call (.Name x p) [e] [] pos)) none pos2) (fRs1 C u) := by
  obtain ⟨c, f, fd, h0, h1, h2, h3, h4, h5, h6, h7⟩ := M.ex
  obtain ⟨t, pe, i⟩ := he.ex
  have hx : Passes (L2.CX X.prog X.w) X (fun _ _ _ => False) := fun pins σ H s e s' _ h => by
    obtain ⟨_, _, _, _, _, _, _, _, _, _, _, _, z⟩ := h
    exact z.elim
  refine ⟨⟨_, ps_raise hc tk (pmk_oex (dvs := []) (ds := []) h2 h4 h5 h7 (hr.mono hk) h6 .nil hx hg h1 (pa_cons pe pa_nil hst) hdb hst hpl), fun B H0 O env σ H D R q => ?_⟩⟩
  refine i B H0 O env σ H _ R ((sOf_post R q).mono (fun _ _ x => x) fun r q v H1 s r1 => ?_)
  split at q
  · rename_i kp
    refine ⟨by simp, fun a na => ⟨a, c, v, rfl, h2, h3, upd_same, fun d nd nda => ⟨rfl, d, [(("name" : Str), v)], upd_same, ?_, ?_, ?_⟩⟩⟩
    · rw [upd_ne nda]; exact upd_same
    · rw [upd_ne nda] at nd; exact nd
    · have nd1 : H1 d = none := by rw [upd_ne nda] at nd; exact nd
      have e : upd (L2.del (upd (upd (upd H1 a (exo a c none)) d (exd d [(("name" : Str), v)])) a (exo a c (some d))) a) d (.xd [(("name" : Str), v)]) = upd H1 d (.xd [(("name" : Str), v)]) := by
        funext b
        by_cases q1 : b = d
        · rw [q1, upd_same, upd_same]
        · rw [upd_ne q1, upd_ne q1]
          by_cases q2 : b = a
          · rw [q2, del_same, na]
          · rw [del_ne q2, upd_ne q2, upd_ne q1, upd_ne q2]
      rw [e]
      have s2 : Same H1 (upd H1 d (.xd [(("name" : Str), v)])) := Same.new nd1
      exact q O σ _ (some d) c h0 ((R.mono s).mono s2) (Same.keepB (s.trans s2)) ⟨d, v, rfl, upd_same, (r1.rp R kp).same s2⟩
  · exact q.elim
end

/-! ### try -/
/-- the canonical readings -/
def tsOf (K : PySem.W.Frag) (P : Bs → Hp → Ow → Hp → Ends → Out → Prop) (f : En → Out) : TS := fun D σ H => ∃ B H0 O env, Rel K B H0 O env σ H ∧ P B H0 O H D (f env)
theorem SsJ.pss {X : Cx} {EX : L2.St → XK} {st : List Stmt} {f : En → Out} (h : SsJ X EX st f) : PSs X st (tsOf X.K (SPost X EX) f) := by
  obtain ⟨t, ps, i⟩ := h.ex
  exact ⟨fun pins s σ H D I ⟨B, H0, O, env, R, p⟩ => ps.run pins s σ H D I (i B H0 O env σ H D R p)⟩
theorem Rel.gone {K : PySem.W.Frag} {B : Bs} {H0 H : Hp} {O : Ow} {env : En} {σ : L2.St} (R0 : Rel K B H0 O env σ H) (i : Nat) : ∃ O', Rel K B H0 O' (env.set i .no) (σ.set i none) H ∧ Keep (Ex B O) H (Ex B O') H := by
  by_cases hi : i < env.length
  · have hn : i < B.n := R0.lenN ▸ hi
    have hO : i < O.length := R0.lenE hi
    have exs : ∀ b, Ex B (O.set i none) b → Ex B O b := fun b z => by
      rcases z with z | ⟨j, z⟩
      · exact .inl z
      · rcases getElem?_set' z with ⟨_, _, e⟩ | ⟨_, e⟩
        · cases e
        · exact .inr ⟨j, e⟩
    have kp : Keep (Ex B O) H (Ex B (O.set i none)) H := ⟨fun b o e n => ⟨e, fun z => n (exs b z)⟩, fun k a e => (cs_set hn k).trans e⟩
    exact ⟨_, R0.setO (w := none) hi _ (.inl rfl) R0.same kp R0.there (fun _ _ _ _ _ e => e) (fun a e => by cases e) (fun z => by cases z) (by show (O.set i none)[i]? = some none; rw [List.getElem?_set, if_pos rfl, if_pos hO]), kp⟩
  · have hσ : ¬ i < σ.length := by rw [R0.len]; exact hi
    rw [List.set_eq_of_length_le (by omega), List.set_eq_of_length_le (by omega)]
    exact ⟨O, R0, Keep.refl⟩
inductive HdJ (X : Cx) (Cs : List Nat) : List ExceptHandler → List Hd → Prop
  | nil : HdJ X Cs [] []
  | one {x : Str} {D : Nat} {d : Addr} {n : Option Str} {nm : Option Nat} {f : En → Out} {b₀ : Stmt} {suite : List Stmt} {np pos' : Pos} {hds : List ExceptHandler} {l : List Hd} (hD : clsA X.K D = some d) (hc : Names X x (.ref d))
      (hm : ∀ C ∈ Cs, ∀ c, clsA X.K C = some c → PySem.W.exmOne X.K (.ref c) (.ref d) = some (subC C D)) (hn : NmOk X n nm) (hsu : ∀ (a : Addr) (pn : List (Addr × Obj)), SsJ (X.suite a pn) EX0 (b₀ :: suite) f) (r : HdJ X Cs hds l) :
      HdJ X Cs (.ExceptHandler (some (.Name x np)) n (b₀ :: suite) pos' :: hds) (([D], nm, f) :: l)
section
variable {X : Cx} {EX : L2.St → XK} {Cs : List Nat}
theorem hOut_post {B : Bs} {H0 H : Hp} {O : Ow} {D : Ends} {o : Out} (h : SPost X EX B H0 O H D (hOut o)) : SPost X EX0 B H0 O H D o := by
  cases o with
  | nx e => exact h
  | rt r => exact h
  | bk e => exact h
  | ct e => exact h
  | exc e c p => exact h.elim
  | bad => exact h.elim
  | rm r e => cases r <;> exact h
theorem hOut_onE {o : Out} {g : En → En} (h : hOut (o.onE g) = hOut (o.onE g)) : True := trivial
theorem named_post {B : Bs} {H0 H : Hp} {O : Ow} {D : Ends} {o : Out} {i : Nat} (h : SPost X EX B H0 O H D (hOut (o.onE fun e => e.set i .no))) : SPost X EX0 B H0 O H (nameD (some i) D) o := by
  cases o with
  | nx e =>
    intro O' σ' H' R k
    obtain ⟨O2, R2, k2⟩ := R.gone i
    exact h O2 _ H' R2 (k.trans k2)
  | rt r => exact h
  | bk e =>
    intro O' σ' H' R k
    obtain ⟨O2, R2, k2⟩ := R.gone i
    exact h O2 _ H' R2 (k.trans k2)
  | ct e =>
    intro O' σ' H' R k
    obtain ⟨O2, R2, k2⟩ := R.gone i
    exact h O2 _ H' R2 (k.trans k2)
  | exc e c p => exact h.elim
  | bad => exact h.elim
  | rm r e => cases r <;> exact h
theorem ex_rp {B : Bs} {H0 H : Hp} {O : Ow} {env : En} {σ : L2.St} {C : Nat} {c a : Addr} {p : Option T} {d : Option Addr} (R : Rel X.K B H0 O env σ H) (hc : clsA X.K C = some c) (na : H a = none) (x : XRel X.K (Ex B O) H p d) :
    Rp X.K (upd H a (exq a (.ref c) d)) (Ex B O) (exT C p) (.ref a) := by
  have R1 := R.mono (Same.new (o := exq a (.ref c) d) na)
  cases p with
  | none =>
    have e : d = none := x
    subst e
    exact .ex0 hc upd_same (R.ex_new na)
  | some t =>
    obtain ⟨dd, v, e, h1, h2⟩ := x
    subst e
    have n1 : ¬ Ex B O dd := fun z => by
      obtain ⟨o, e1, nt⟩ := R.ex_ntup z
      rw [h1] at e1
      cases e1
      exact nt.2 _ rfl
    exact .ex1 hc upd_same (R.ex_new na) (by rw [upd_ne (ne_of_none h1 na)]; exact h1) n1 (h2.same (Same.new na))
theorem HdJ.hdt {hds : List ExceptHandler} {l : List Hd} (h : HdJ X Cs hds l) : ∃ l', HdT X hds l' ∧ ∀ {B : Bs} {H0 H : Hp} {O : Ow} {env : En} {σ : L2.St} {D : Ends} {C : Nat} {c : Addr} {p : Option T} {d : Option Addr},
    Rel X.K B H0 O env σ H → clsA X.K C = some c → C ∈ Cs → XRel X.K (Ex B O) H p d → SPost X EX B H0 O H D (disp l env C p) → wT X.K (fun cls d σ H => EX σ cls d H) D l' (.ref c) d σ H := by
  induction h with
  | nil => exact ⟨[], .nil, fun {B H0 H O env σ D C c p d} R hc _ x q => q O σ H d c hc R Keep.refl x⟩
  | @one x D0 d0 n nm f b₀ suite np pos' hds l hD hc hm hn hsu r ih =>
    obtain ⟨l', h1, h2⟩ := ih
    refine ⟨.one (.ref d0) nm (tsOf X.K (SPost X EX0) f) :: l', .one hc hn (fun a pn => (hsu a pn).pss) h1, fun {B H0 H O env σ D C c p d} R ec mem xr q => ⟨subC C D0, hm C mem c ec, fun hb a na => ?_, fun hb => ?_⟩⟩
    · have q' : SPost X EX B H0 O H D (match (generalizing := false) nm with
          | none => hOut (f env)
          | some i => hOut ((f (env.set i (.fz (exT C p)))).onE fun e => e.set i .no)) := by
        unfold disp at q
        rw [if_pos (by simp [hb])] at q
        exact q
      have sm : Same H (upd H a (exq a (.ref c) d)) := Same.new na
      cases nm with
      | none => exact ⟨B, H0, O, env, R.mono sm, (hOut_post q').up (Same.keepB sm)⟩
      | some i =>
        obtain ⟨O', R', k', _⟩ := (R.mono sm).store (r := .sh (exT C p)) (v := .ref a) (Same.refl _) (ex_rp R ec na xr) rfl i
        exact ⟨B, H0, O', _, R', (named_post q').up ((Same.keepB sm).trans k')⟩
    · unfold disp at q
      rw [if_neg (by simp [hb])] at q
      exact h2 R ec mem xr q
theorem sj_try {body : List Stmt} {h₀ : ExceptHandler} {hds : List ExceptHandler} {l : List Hd} {pos : Pos} {fb : En → Out} (hs : X.stack = X.env :: X.outer) (hf : X.env.frame = some X.env.locals) (hex : X.ex = []) (tk : Takes X (fun cls d σ H => EX σ cls d H))
    (hh : HdJ X Cs (h₀ :: hds) l)
    (hb : ∀ (W : WX) (pn : List (Addr × Obj)) (xe : Value → Shared → Prop), Takes (X.tr pn xe) W → PassesOwn (model X.prog X.w) X.A X.env xe → SsJ (X.tr pn xe) (WE W) body fb) : SJ X EX (.Try body (h₀ :: hds) [] [] pos) (fTry Cs l fb) := by
  obtain ⟨l', h1, h2⟩ := hh.hdt (EX := EX)
  refine ⟨⟨_, ps_tryT hs hf hex tk (tb := fun W => tsOf X.K (SPost X (WE W)) fb) (fun W pn xe t1 t2 => (hb W pn xe t1 t2).pss) h1, fun B H0 O env σ H D R q => ⟨B, H0, O, env, R, ?_⟩⟩⟩
  unfold fTry at q
  cases e : fb env with
  | nx e1 => rw [e] at q; exact q
  | rt r => rw [e] at q; exact q
  | bk e1 => rw [e] at q; exact q
  | ct e1 => rw [e] at q; exact q
  | bad => rw [e] at q; exact q.elim
  | rm r e1 => rw [e] at q; cases r <;> exact q
  | exc e1 C p =>
    rw [e] at q
    simp only at q
    split at q
    · rename_i mem
      exact fun O' σ' H' d a ea R' k' x => h2 R' ea mem x (q.up k')
    · exact q.elim
end

/-! ### an exception's field -/
structure XfOk (K : PySem.W.Frag) (C : Nat) : Prop where
  x : ∀ c, clsA K C = some c → XfC K c ∧ PySem.W.findIn K (.ref c) "name" = some none
def fAtX (Cs : List Nat) (g : En → Res R) (env : En) : Res R := (g env).bind fun x => match x.d with
  | .ex1 C t => if C ∈ Cs then .ok (.sh t) else .bad
  | _ => .bad
theorem RR.ex1 {K : PySem.W.Frag} {B : Bs} {O : Ow} {H H' : Hp} {r : R} {v : V} {C : Nat} {t : T} (h : RR K B O H H' r v) (e : r.d = .ex1 C t) : ∃ c a dd u, clsA K C = some c ∧ v = .ref a ∧ H' a = some (exq a (.ref c) (some dd)) ∧ H' dd = some (.xd [(("name" : Str), u)]) ∧ Rp K H' (Ex B O) t u := by
  cases r with
  | sh d =>
    cases e
    cases h with
    | ex1 h0 h1 _ h2 _ h3 => exact ⟨_, _, _, _, h0, rfl, h1, h2, h3⟩
  | fr d =>
    cases e
    obtain ⟨p, ho, e, n, h1, h2⟩ := h
    cases h2
  | bo i d =>
    cases e
    obtain ⟨a, ho, e, n, h1, h2⟩ := h
    cases h2
  | vw d =>
    cases e
    obtain ⟨a, ho, _, n, h1, h2⟩ := h
    cases h2
theorem RR.ex0 {K : PySem.W.Frag} {B : Bs} {O : Ow} {H H' : Hp} {r : R} {v : V} {C : Nat} (h : RR K B O H H' r v) (e : r.d = .ex0 C) : ∃ c a, clsA K C = some c ∧ v = .ref a ∧ H' a = some (exq a (.ref c) none) := by
  cases r with
  | sh d =>
    cases e
    cases h with
    | ex0 h0 h1 _ => exact ⟨_, _, h0, rfl, h1⟩
  | fr d =>
    cases e
    obtain ⟨p, ho, e, n, h1, h2⟩ := h
    cases h2
  | bo i d =>
    cases e
    obtain ⟨a, ho, e, n, h1, h2⟩ := h
    cases h2
  | vw d =>
    cases e
    obtain ⟨a, ho, _, n, h1, h2⟩ := h
    cases h2
section
variable {X : Cx} {EX : L2.St → XK} {e : Expr} {g : En → Res R} {pos : Pos}
open PySem.Spec PyProof.Rows in
theorem ej_atX (Cs : List Nat) (he : EJ X EX e g) (hT : ∀ C ∈ Cs, XfOk X.K C) (hb : attributeBase e "name" X.env (eval e X.env) = eval e X.env := by rfl) : EJ X EX (.Attribute e "name" pos) (fAtX Cs g) := by
  obtain ⟨t, pe, i⟩ := he.ex
  let tX : TE := fun σ H Q => t σ H fun x H1 => ∃ (a c dd : Addr) (u : V), XfC X.K c ∧ PySem.W.findIn X.K (.ref c) "name" = some none ∧ x = .ref a ∧ H1 a = some (exq a (.ref c) (some dd)) ∧ H1 dd = some (.xd [(("name" : Str), u)]) ∧ Q u H1
  have pX : PE X (.Attribute e "name" pos) tX := by
    refine ⟨fun pins s σ H Q I h => ?_⟩
    refine attr_of hb (thn (pe.run pins s σ H _ I h) fun u s1 hh => ?_)
    obtain ⟨x, H1, I1, rx, a, c, dd, v, T, hno, ex, ea, ed, q⟩ := hh
    subst ex
    obtain rfl : u = Value.ref a := rx
    obtain ⟨⟨oe, vs, e1, e2, e3, e4⟩, _⟩ := (show ObjOk X.prog X.w H1 s1.heap a (exq a (.ref c) (some dd)) from I1.hok a _ ea)
    obtain ⟨mA, hns, hr⟩ := (show ObjOk X.prog X.w H1 s1.heap dd (.xd [(("name" : Str), v)]) from I1.hok dd _ ed)
    obtain ⟨od, ho, hl⟩ := lookIn_ns hns
    have l : List.lookup ("name" : Str) [(("name" : Str), v)] = some v := by simp [List.lookup]
    obtain ⟨u, hu, ru⟩ := RelO.some_of (v := v) (o := mA "name") (by rw [← l]; exact hr "name")
    have J : PySem.W.InstAt s1.heap a oe c (some od) := ⟨e1, e2, by unfold PySem.W.notCls; rw [e4] <;> rfl, by rw [e3]; exact ho⟩
    exact HandSPX.exc_get I1.kIn J T.ga T.gg T.exC (PySem.W.findObj_own T.hdC hno rfl (by rw [hl, hu])) (handed_of ru) ⟨v, H1, I1.tok _, ru, q⟩
  refine ⟨⟨_, pX, fun B H0 O env σ H Q R p => ?_⟩⟩
  refine i B H0 O env σ H _ R (p.bind.mono (fun _ _ x => x) fun x q v H1 s r1 => ?_)
  split at q
  · rename_i C tt ex
    split at q
    · rename_i mem
      obtain ⟨c, a, dd, u, h0, ev, h1, h2, h3⟩ := r1.ex1 ex
      obtain ⟨y1, y2⟩ := (hT C mem).x c h0
      exact ⟨a, c, dd, u, y1, y2, ev, h1, h2, q u H1 s h3⟩
    · exact q.elim
  · exact q.elim
end

/-! ### isinstance of own classes -/
/-- what the exceptions' class C must say -/
structure ExTy (K : PySem.W.Frag) (c : Addr) : Prop where
  cl : (PySem.W.clsIn K c).isSome = true
  ga : PySem.W.findIn K (.ref c) "__getattribute__" = some (some (.builtin "BaseException.__getattribute__"))
  gg : PySem.W.findIn K (.ref c) "__getattr__" = some none
  sb : PySem.W.subIn K (.ref c) (.type "BaseException") = some true
  ha : PySem.W.findIn K (.ref c) "__class__" = some (some (.builtin "object.__class__"))
  hn : PySem.W.specialIn K (.builtin "object.__class__") "__get__" = some (some (.builtin "getset_descriptor.__get__"))
  ht : PySem.W.takesIn K (.builtin "object.__class__") = some true
  hm : PySem.W.mroIn K c (.type "object") = some true
/-- what an object's class must say -/
structure ObTy (K : PySem.W.Frag) (c : Addr) : Prop where
  cl : Cls K c
  ha : PySem.W.findIn K (.ref c) "__class__" = some (some (.builtin "object.__class__"))
  hn : PySem.W.specialIn K (.builtin "object.__class__") "__get__" = some (some (.builtin "getset_descriptor.__get__"))
  ht : PySem.W.takesIn K (.builtin "object.__class__") = some true
  hm : PySem.W.mroIn K c (.type "object") = some true
def rIsX (K : PySem.W.Frag) : List V → Hp → VK → Prop := fun xs H Q => ∃ (a c : Addr) (dd : Option Addr) (c2 : V) (cv : Value) (b : Bool), xs = [.ref a, c2] ∧ (∀ u, RelV c2 u → u = cv) ∧ H a = some (exq a (.ref c) dd) ∧ (∀ x, dd = some x → ∃ fs, H x = some (.xd fs)) ∧
  ExTy K c ∧ PySem.W.kitOne K (.ref c) cv = some b ∧ Q (.bl b) H
section
variable {X : Cx}
theorem call_isX : CallR X (.builtin "isinstance") (rIsX X.K) := by
  intro pins s σ H xs us Q I r h
  obtain ⟨a, c, dd, c2, cv, b, rfl, hcv, ea, ed, C, e, q⟩ := h
  obtain ⟨u1, u2, rfl, r1, r2⟩ := vals2 r
  obtain rfl : u1 = Value.ref a := r1
  have e2 := hcv _ r2
  subst e2
  obtain ⟨⟨oe, vs, e1, e2, e3, e4⟩, _⟩ := (show ObjOk X.prog X.w H s.heap a (exq a (.ref c) dd) from I.hok a _ ea)
  cases dd with
  | none =>
    have J : PySem.W.InstAt s.heap a oe c none := ⟨e1, e2, by unfold PySem.W.notCls; rw [e4] <;> rfl, by rw [e3]; trivial⟩
    exact PySem.W.kia_one (PySem.W.kitx_exc C.cl C.ga C.gg C.sb C.ha C.hn C.ht C.hm) I.kIn J e (fun z => nomatch z) fun tk => ⟨.bl b, H, I.tok tk, rfl, q⟩
  | some x =>
    obtain ⟨fs, ex⟩ := ed x rfl
    obtain ⟨mA, hns, hr⟩ := (show ObjOk X.prog X.w H s.heap x (.xd fs) from I.hok x _ ex)
    obtain ⟨od, ho, hl⟩ := lookIn_ns hns
    have J : PySem.W.InstAt s.heap a oe c (some od) := ⟨e1, e2, by unfold PySem.W.notCls; rw [e4] <;> rfl, by rw [e3]; exact ho⟩
    exact PySem.W.kia_one (PySem.W.kitx_exc C.cl C.ga C.gg C.sb C.ha C.hn C.ht C.hm) I.kIn J e (fun z => nomatch z) fun tk => ⟨.bl b, H, I.tok tk, rfl, q⟩
end
/-- the classes whose instances may be asked: Es exceptions', Os objects'; g: the answer -/
def fIsaC (Es Os : List Nat) (non : Bool) (g : Nat → Bool) (f : En → Res R) (env : En) : Res R := (f env).bind fun x => match x.d with
  | .ex0 C => if C ∈ Es then .ok (.sh (.bl (g C))) else .bad
  | .ex1 C _ => if C ∈ Es then .ok (.sh (.bl (g C))) else .bad
  | .obj C _ => if C ∈ Os then .ok (.sh (.bl (g C))) else .bad
  | .non => if non = true then .ok (.sh (.bl false)) else .bad
  | _ => .bad
structure IsOk (K : PySem.W.Frag) (Es Os : List Nat) (non : Bool) (g : Nat → Bool) (cv : Value) : Prop where
  e : ∀ C ∈ Es, ∀ c, clsA K C = some c → ExTy K c ∧ PySem.W.kitOne K (.ref c) cv = some (g C)
  o : ∀ C ∈ Os, ∀ c, clsA K C = some c → ObTy K c ∧ PySem.W.kitOne K (.ref c) cv = some (g C)
  n : non = true → PySem.W.kitOne K (.type "NoneType") cv = some false
section
variable {X : Cx} {EX : L2.St → XK} {e e2 : Expr} {f : En → Res R} {p p2 pos : Pos} {Es Os : List Nat} {non : Bool} {g : Nat → Bool} {c2 : V} {cv : Value}
theorem ej_isaC (hgl : Gl X "isinstance") (hm : X.mg "isinstance" = none) (hv : bootBuiltins "isinstance" = some (.builtin "isinstance")) (pb : PE X e2 (tC c2)) (hcl : ClsV c2 cv) (K : IsOk X.K Es Os non g cv) (ha : EJ X EX e f)
    (he : starEach [e, e2] X.env = (false, eval e X.env) :: starEach [e2] X.env := by rfl) (he2 : starEach [e2] X.env = (false, eval e2 X.env) :: starEach [] X.env := by rfl)
    (hpl : (backTo pos (starEach [e2] X.env)).any (·.1) = false := by rfl) :
    EJ X EX (.Call (.Name "isinstance" p) [e, e2] [] pos) (fIsaC Es Os non g f) := by
  obtain ⟨t, pe, i⟩ := ha.ex
  refine ⟨⟨_, pe_callB (call_isi.or call_isX) hgl hm hv (pa_cons pe (pa_cons pb pa_nil he2) he) (by decide) (by decide) he hpl, fun B H0 O env σ H Q R q => ?_⟩⟩
  refine i B H0 O env σ H _ R (q.bind.mono (fun _ _ x => x) fun x q v H1 s r1 => ?_)
  split at q
  · rename_i C ex
    split at q
    · rename_i mem
      obtain ⟨c, a, h0, ev, h1⟩ := r1.ex0 ex
      obtain ⟨y1, y2⟩ := K.e C mem c h0
      exact .inr ⟨a, c, none, c2, cv, g C, by rw [ev], fun _ z => hcl.eq z, h1, fun _ z => (by cases z), y1, y2, q _ H1 s (Rp.bl _)⟩
    · exact q.elim
  · rename_i C tt ex
    split at q
    · rename_i mem
      obtain ⟨c, a, dd, u, h0, ev, h1, h2, _⟩ := r1.ex1 ex
      obtain ⟨y1, y2⟩ := K.e C mem c h0
      exact .inr ⟨a, c, some dd, c2, cv, g C, by rw [ev], fun _ z => hcl.eq z, h1, fun x z => (by cases z; exact ⟨_, h2⟩), y1, y2, q _ H1 s (Rp.bl _)⟩
    · exact q.elim
  · rename_i C fs ex
    split at q
    · rename_i mem
      obtain ⟨a, c, dx, us, h0, ev, h1, _, _⟩ := r1.obj ex
      obtain ⟨y1, y2⟩ := K.o C mem c h0
      exact .inl ⟨v, c2, .ref c, cv, g C, rfl, hcl, by rw [ev]; exact .base (.ins h1 y1.cl y1.ha y1.hn y1.ht y1.hm), y2, q _ H1 s (Rp.bl _)⟩
    · exact q.elim
  · rename_i ex
    split at q
    · rename_i hnon
      exact .inl ⟨v, c2, .type "NoneType", cv, false, rfl, hcl, by rw [r1.non ex]; exact .base .non, K.n hnon, q _ H1 s (Rp.bl _)⟩
    · exact q.elim
  · exact q.elim
end
end Tr
namespace Tr
open PySem L2
open L2H (RoomH roomH_of)
theorem roomW {k : Nat} {A : Around} (r : Room k A) (h : Option Value) : RoomH k (A.mark h) := ⟨r.dp, r.un⟩

/-! ### defs that run while an exception is handled (they raise nothing themselves) -/
structure FnW (P : Program) (w : World) (K : PySem.W.Frag) (mg : Str → Option Value) (base : Heap) (k : Nat) (f : Addr) (fd : FuncData) (ps : List Str) (sp : Sp) : Prop where
  len : ∀ vs H Q E, sp vs H Q E → vs.length = ps.length
  go : ∀ (A : Around) (outer : List Env) (s : Shared) (H : Hp) (args : Args) (us : List Value) (vs : List V) (Q : VK) (E : XK), RoomH k A → Env0 P w K mg base A outer s H → BindsTo s fd args (ps.zip us) → Vals vs us → sp vs H Q E →
    PySem.codeAny (model P w) A (.call (.ref f) args) (CR (L2.CX P w) outer P w H s Q E) s
/-- the context of such a def's body -/
abbrev cxW (P : Program) (w : World) (K : PySem.W.Frag) (mg : Str → Option Value) (base : Heap) (N : List Str) (qual : Str) (scope : Scope) (f : Addr) (cd : Value) (A : Around) (outer : List Env) (s : Shared) (H : Hp) (E : XK) : Cx :=
  { cxOf (L2.CX P w) P w K mg base N qual scope f cd A outer s H E with calm := false }
section
variable {P : Program} {w : World} {K : PySem.W.Frag} {mg : Str → Option Value} {base : Heap}
/-- out of the context where nothing is handled -/
theorem inv_toW {N : List Str} {qual : Str} {scope : Scope} {f : Addr} {cd : Value} {A : Around} {outer : List Env} {s s1 : Shared} {H H1 : Hp} {E : XK} {σ : L2.St}
    (I : Inv (cxOf (L2.CX P w) P w K mg base N qual scope f cd { A with handled := none } outer s H E) [] σ H1 s1) (fr : A.frames = some outer) : Inv (cxW P w K mg base N qual scope f cd A outer s H E) [] σ H1 s1 := by
  have o := I.ok
  exact ⟨⟨o.mod, o.kind, o.glob, o.blt, o.above, o.inj, o.has, o.cab, (fun z => Bool.noConfusion z), Around.frames_deeper fr, o.stk, o.exf, o.bs, o.bsz, o.noex, o.exfs, o.funs, o.frf⟩, I.os, I.bare, I.base, I.loc, I.cell, I.free, I.freeC, I.pin, I.hok, I.len⟩
theorem fnW_of {x qual : Str} {st : Stmt} {f : Addr} {fd : FuncData} {N ps : List Str} {k : Nat} {sp : Sp} (F : Fun K x qual st f fd) (S : FnScope N ps (defScope st)) (len : ∀ vs H Q E, sp vs H Q E → vs.length = ps.length)
    (hb : ∀ (cdv : Value) (A : Around) (outer : List Env) (s : Shared) (H : Hp) (vs : List V) (Q : VK) (E : XK), RoomH k (A.deeper (PyProof.Rows.envOfC qual (defScope st) s.heap.objs.size f cdv)) → sp vs H Q E →
      ∃ t, PSs (cxW P w K mg base N qual (defScope st) f cdv A outer s H E) (defBody st) t ∧ t { nx := fun _ H' => Q .non H', rt := Q } (L2.start N vs) H) : FnW P w K mg base (k + 1) f fd ps sp := by
  obtain ⟨oc, od, kV, doc, pm, an, cdv, ct, osl, rfl, lk, hcd⟩ := F.ex
  constructor
  · exact len
  · intro A outer s H args us vs Q E hr e0 hbd r hsp
    have old : ∀ b o, base.get? b = some o → s.heap.get? b = some o := fun b o e => (e0.bs b o e).1
    have kin : K.In s.heap := e0.mod.kin.keeps old
    have nol : s.heap.NoLimit := e0.mod.nolimit.keeps old
    have kinds : ∀ y ∈ ps.zip us, (defScope st).names.lookup y.1 = some .local ∨ ((defScope st).names.lookup y.1 = some .cell ∧ ((PySem.cellsFrom (s.heap.objs.size + 1) (defScope st).names []).lookup y.1).isSome = true) := by
      rintro ⟨n, v⟩ hy
      exact (S.par n (List.of_mem_zip hy).1).imp id fun q => ⟨q, PySem.W.cellsFrom_some _ _ _ (.inl q)⟩
    apply PySem.codeAny_call_function hr.depth (kin _ _ lk) rfl S.co S.gen rfl (PySem.W.codeRec_of kin hcd)
    apply hbd
    apply PySem.wpAny_newFunctionEnv_cells S.kind kinds
    intro env he s1 x
    subst he
    refine ⟨nol.keeps x.toInCall.keep, PySem.codeAny_func ?_⟩
    obtain ⟨t, ht, hq⟩ := hb cdv A outer s H vs Q E (hr.deeper _) hsp
    have e1 : Env0 P w K mg base { A with handled := none } outer s H := ⟨e0.frames, e0.mod, e0.bs, e0.bsz, e0.funs, e0.frf, e0.hok, e0.bare⟩
    have I := inv_toW (inv_start (CX := L2.CX P w) (E := E) S (A := { A with handled := none }) rfl e1 (len _ _ _ _ hsp) r x) e0.frames
    apply PySem.wpAny_mono (ht.run [] s1 (L2.start N vs) H _ I hq)
    · rintro (_ | _ | _ | u) s' z
      · obtain ⟨σ', H', J, q⟩ := z
        exact ⟨.non, H', J.os, J.bare, J.base, J.hok, rfl, q⟩
      all_goals first
        | (obtain ⟨v, σ', H', J, rv, q⟩ := z
           exact ⟨v, H', J.os, J.bare, J.base, J.hok, rv, q⟩)
        | (obtain ⟨_, _, _, q⟩ := z
           exact q.elim)
    · exact fun _ _ z => z

theorem fn_TW {x qual : Str} {st : Stmt} {f : Addr} {fd : FuncData} {N ps : List Str} {k n m : Nat} {body : En → Out} (F : Fun K x qual st f fd) (S : FnScope N ps (defScope st)) (hn : ps.length = n) (hm : N.length = m)
    (hb : ∀ (cdv : Value) (A : Around) (outer : List Env) (s : Shared) (H : Hp) (E : XK), RoomH k (A.deeper (PyProof.Rows.envOfC qual (defScope st) s.heap.objs.size f cdv)) →
      SsJ (cxW P w K mg base N qual (defScope st) f cdv A outer s H E) (fun _ => E) (defBody st) body) :
    FnW P w K mg base (k + 1) f fd ps (SpT K n (runF m body)) := by
  subst hn hm
  refine fnW_of F S (fun vs H Q E h => ?_) (fun cdv A outer s H vs Q E hr h => ?_)
  · obtain ⟨ds, X, _, h2, h3, _⟩ := h
    rw [← h2.1, h3]
  · obtain ⟨ds, X, h1, h2, h3, p⟩ := h
    obtain ⟨t, ps', i⟩ := (hb cdv A outer s H E hr).ex
    refine ⟨t, ps', ?_⟩
    have hpl : ps.length ≤ N.length := by have z := congrArg List.length S.pre; rw [List.length_take] at z; omega
    have z0 : Rel K ⟨X.p, none, N.length, X.cs, H, false⟩ H (List.replicate N.length none) (ds.map Sl.fz ++ List.replicate (N.length - (ds.map Sl.fz).length) .no) (L2.start N vs) H := rel_start (n := N.length) h1 (.fz h2) (by simp; omega)
    rw [List.length_map] at z0
    refine i _ H _ _ _ H _ z0 ?_
    unfold runF Out.res at p
    split at p
    · rename_i e q
      rw [q]
      exact fun O' σ' H' R' _ => p .non H' R'.same (Rp.non)
    · exact p.elim
    · rename_i r nv q
      rw [q]
      refine ⟨.inl rfl, ?_, p⟩
      cases r with
      | vw d => exact (nv d rfl).elim
      | _ => rfl
    · rename_i e c pl q
      rw [q]
      exact fun O' σ' H' d a ea R' _ x => p H' d a ea R'.same (by
        cases pl with
        | none => exact x
        | some t =>
          obtain ⟨a, v, z1, z2, z3⟩ := x
          exact ⟨a, v, z1, z2, z3.anti (fun b zb => .inl zb) fun k a e => (R'.cs0 rfl).symm.trans e⟩)
    · exact p.elim
end
/-- a def that may be called there -/
structure CalW (P : Program) (w : World) (K : PySem.W.Frag) (mg : Str → Option Value) (base : Heap) (x : Str) (k n : Nat) (F : List T → Res R) : Prop where
  ex : ∃ (f : Addr) (fd : FuncData) (ps : List Str), mg x = some (.ref f) ∧ PySem.W.keepIn K (.ref f) = true ∧ Binds K fd ps [] ∧ FnW P w K mg base k f fd ps (SpT K n F)
section
variable {X : Cx} {EX : L2.St → XK} {e : Expr} {es : List Expr} {g : En → Res (List R)} {F : List T → Res R} {j k n : Nat} {x : Str} {p pos : Pos}
theorem ej_calW (C : CalW X.prog X.w X.K X.mg X.base x j n F) (hr : RoomH k X.A) (hjk : j ≤ k) (hx : ∀ σ, PassesAt (L2.CX X.prog X.w) X σ (EX σ)) (hg : Gl X x)
    (ha : AJ X EX (e :: es) g) (hn : ∀ env rs, g env = .ok rs → rs.length = n) (hdb : (x == ("__debug__" : Str)) = false := by decide) (he : starEach (e :: es) X.env = (false, eval e X.env) :: starEach es X.env := by rfl) (hpl : (backTo pos (starEach es X.env)).any (·.1) = false := by rfl) :
    EJ X EX (.Call (.Name x p) (e :: es) [] pos) (fCall F g) := by
  obtain ⟨f, fd, ps, h1, h2, h3, h4⟩ := C.ex
  obtain ⟨t, pa, i⟩ := ha.ex
  have pc : PE X (.Call (.Name x p) (e :: es) [] pos) (tCallS (SpT X.K n F) EX t) := by
    constructor
    intro pins s σ H Q I h
    apply PySem.wpAny_Call_Name_kw (ld_glob I hg h1 ?_ hdb)
    apply PySem.W.callWith_K (h₀ := X.base) I.ok.mod.kin h2 (thn (pa.run pos pins s σ H _ I h) fun us s1 ⟨vs, H1, I1, r, q⟩ => ⟨I1.kIn, ?_⟩) he hpl
    have hl : us.length = ps.length := by rw [← r.length]; exact h4.len _ _ _ _ q
    have b := h3 s1 us I1.kIn (by rw [List.append_nil]; exact hl)
    rw [List.append_nil] at b
    apply PySem.wpAny_call (PySem.codeAny_mono (h4.go X.A X.stack s1 H1 ⟨us, []⟩ us vs Q (EX σ) ⟨by have := hr.dp; omega, by have := hr.un; omega⟩ I1.env0 b r q) ?_)
    rintro (er | fl) s' z
    · exact hx σ pins H1 s1 er s' I1 z
    · cases fl with
      | ret u => exact I1.after z
      | next => exact z.elim
      | brk => exact z.elim
      | cont => exact z.elim
  refine ⟨⟨_, pc, fun B H0 O env σ H Q R q => ?_⟩⟩
  have q' : Post (XC X.K B O EX σ H) (fun rs => g env = .ok rs ∧ Post (XC X.K B O EX σ H) (fun r => ∀ v H', Same H H' → RR X.K B O H H' r v → Q v H') (callR F rs)) (g env) := by
    have z := q.bind
    cases eg : g env with
    | ok rs => rw [eg] at z; exact ⟨rfl, z⟩
    | exc c p => rw [eg] at z; exact z
    | bad => rw [eg] at z; exact z
  refine i B H0 O env σ H _ R (q'.mono (fun _ _ x => x) fun rs z vs H1 s r1 => ?_)
  exact call_core R s r1 (hn env rs z.1) z.2
end

/-! ### for the generated terms -/
section
variable {A : Around} {k : Nat}
theorem hu65W (hr : RoomH k A) : A.units + 65 < cLine := by have := hr.un; omega
theorem hu64W (hr : RoomH k A) : A.units + 64 < cLine := by have := hr.un; omega
theorem hu1W (hr : RoomH k A) : A.units + 1 < cLine := by have := hr.un; omega
end
/-- a class that an except clause names -/
structure HdOk (K : PySem.W.Frag) (mg : Str → Option Value) (Cs : List Nat) (x : Str) (D : Nat) : Prop where
  ex : ∃ d : Addr, clsA K D = some d ∧ mg x = some (.ref d) ∧ ∀ C ∈ Cs, ∀ c, clsA K C = some c → PySem.W.exmOne K (.ref c) (.ref d) = some (subC C D)
theorem hd_one {X : Cx} {Cs : List Nat} {x : Str} {D : Nat} {n : Option Str} {nm : Option Nat} {f : En → Out} {b₀ : Stmt} {suite : List Stmt} {np pos' : Pos} {hds : List ExceptHandler} {l : List Hd} (h : HdOk X.K X.mg Cs x D) (hg : Gl X x) (hn : NmOk X n nm)
    (hsu : ∀ (a : Addr) (pn : List (Addr × Obj)), SsJ (X.suite a pn) EX0 (b₀ :: suite) f) (r : HdJ X Cs hds l) (hdb : (x == ("__debug__" : Str)) = false := by decide) :
    HdJ X Cs (.ExceptHandler (some (.Name x np)) n (b₀ :: suite) pos' :: hds) (([D], nm, f) :: l) := by
  obtain ⟨d, h1, h2, h3⟩ := h.ex
  exact .one h1 ⟨hg, hdb, .inl h2⟩ h3 hn hsu r
/-- a class that isinstance names -/
structure IsD (K : PySem.W.Frag) (mg : Str → Option Value) (Es Os : List Nat) (non : Bool) (x : Str) (D : Nat) : Prop where
  ex : ∃ d : Addr, mg x = some (.ref d) ∧ IsOk K Es Os non (fun C => subC C D) (.ref d)
section
variable {X : Cx} {EX : L2.St → XK} {e : Expr} {f : En → Res R} {p p2 pos : Pos} {Es Os : List Nat} {non : Bool} {x : Str} {D : Nat}
theorem ej_isaO (h : IsD X.K X.mg Es Os non x D) (hgl : Gl X "isinstance") (hm : X.mg "isinstance" = none) (hg2 : Gl X x) (ha : EJ X EX e f) (hdb : (x == ("__debug__" : Str)) = false := by decide)
    (he : starEach [e, .Name x p2] X.env = (false, eval e X.env) :: starEach [.Name x p2] X.env := by rfl) (he2 : starEach [.Name x p2] X.env = (false, eval (.Name x p2) X.env) :: starEach [] X.env := by rfl)
    (hpl : (backTo pos (starEach [.Name x p2] X.env)).any (·.1) = false := by rfl) :
    EJ X EX (.Call (.Name "isinstance" p) [e, .Name x p2] [] pos) (fIsaC Es Os non (fun C => subC C D) f) := by
  obtain ⟨d, h1, h2⟩ := h.ex
  exact ej_isaC hgl hm (by decide +kernel) (c2 := .ref d) (pe_glob hg2 h1 rfl hdb) (.own d) h2 ha he he2 hpl
theorem ej_isaV (h : IsOk X.K Es [] false (fun _ => true) (.type "ValueError")) (hgl : Gl X "isinstance") (hm : X.mg "isinstance" = none) (hg2 : Gl X "ValueError") (hm2 : X.mg "ValueError" = none) (ha : EJ X EX e f)
    (he : starEach [e, .Name "ValueError" p2] X.env = (false, eval e X.env) :: starEach [.Name "ValueError" p2] X.env := by rfl) (he2 : starEach [.Name "ValueError" p2] X.env = (false, eval (.Name "ValueError" p2) X.env) :: starEach [] X.env := by rfl)
    (hpl : (backTo pos (starEach [.Name "ValueError" p2] X.env)).any (·.1) = false := by rfl) :
    EJ X EX (.Call (.Name "isinstance" p) [e, .Name "ValueError" p2] [] pos) (fIsaC Es [] false (fun _ => true) f) :=
  ej_isaC hgl hm (by decide +kernel) (c2 := .ty "ValueError") (pe_bltn hg2 hm2 (by decide +kernel) rfl) (.ty _) h ha he he2 hpl
end
theorem clsA_of {K : PySem.W.Frag} {C : Nat} {n : Str} {c : Addr} (h : cNames[C]? = some n) (g : PySem.W.nsIn K mainGlobals n = some (some (.ref c))) : clsA K C = some c := by
  unfold clsA
  rw [h]
  show refO (PySem.W.nsIn K mainGlobals n) = some c
  rw [g]
  rfl
theorem at_of {K : PySem.W.Frag} {C : Nat} {c : Addr} {f : Str} (e : clsA K C = some c) (h : Cls K c) (n : NoAttr K c f) : AtOk K f C := ⟨fun _ e' => by rw [e] at e'; cases e'; exact h, fun _ e' => by rw [e] at e'; cases e'; exact n⟩
/-- of one class: for all that bear its number -/
theorem all_cls {K : PySem.W.Frag} {C : Nat} {c : Addr} {P : Addr → Prop} (e : clsA K C = some c) (h : P c) : ∀ c', clsA K C = some c' → P c' := fun _ e' => by rw [e] at e'; cases e'; exact h
theorem mem_nil {P : Nat → Prop} : ∀ C ∈ ([] : List Nat), P C := fun _ h => nomatch h
theorem mem_cons {P : Nat → Prop} {c : Nat} {l : List Nat} (h : P c) (r : ∀ C ∈ l, P C) : ∀ C ∈ c :: l, P C := fun C m => by
  rcases List.mem_cons.mp m with e | m
  · rw [e]; exact h
  · exact r C m
end Tr
namespace Tr
open PySem L2

/-! ### comparing what is not all plain data: surely alike -/
def all2 (f : T → T → Bool) : List T → List T → Bool
  | [], [] => true
  | a :: l, b :: m => f a b && all2 f l m
  | _, _ => false
def deqT : Nat → T → T → Bool
  | 0, _, _ => false
  | n + 1, t, u => (T.pd n t && T.pd n u && teq t u) || (match t, u with
    | .dik [], .dik [] => true
    | .lst l, .lst m => all2 (deqT n) l m
    | .tup l, .tup m => all2 (deqT n) l m
    | _, _ => false)
/-- x != y, x and y lists -/
def neR2 (x y : R) : Res R := match x.d, y.d with
  | .lst l, .lst m => if l.length ≠ m.length then .ok (.sh (.bl true)) else if all2 (deqT 8) l m = true then .ok (.sh (.bl false)) else .bad
  | _, _ => .bad
theorem all2_get {f : T → T → Bool} : ∀ {l m : List T}, all2 f l m = true → l.length = m.length ∧ ∀ (i : Nat) (t u : T), l[i]? = some t → m[i]? = some u → f t u = true
  | [], [], _ => ⟨rfl, fun i t u a => by simp at a⟩
  | a :: l, b :: m, h => by
    have h' : (f a b && all2 f l m) = true := h
    rw [Bool.and_eq_true] at h'
    obtain ⟨e, g⟩ := all2_get h'.2
    refine ⟨by simp [e], fun i t u p q => ?_⟩
    cases i with
    | zero => simp at p q; rw [← p, ← q]; exact h'.1
    | succ i => exact g i t u (by simpa using p) (by simpa using q)
  | [], _ :: _, h => by cases h
  | _ :: _, [], h => by cases h
section
variable {X : Cx} {pins : List (Addr × Obj)} {σ : L2.St} {H : Hp} {s : Shared}
theorem all_true {n : Nat} : (List.range n).all (fun _ => true) = true := by simp
open PySem.SeqAt in
theorem deq_at (I : Inv X pins σ H s) : ∀ (n : Nat) (t u : T), deqT n t u = true → ∀ (B B' : Xs) (v w : V) (v' w' : Value), Rp X.K H B t v → Rp X.K H B' u w → RelV v v' → RelV w w' → ∀ A : Around, A.units + n < cLine → EqAt A s v' w' true
  | 0, _, _, h => by cases h
  | n + 1, t, u, h => by
    intro B B' v w v' w' rt ru rv rw' A hu
    unfold deqT at h
    rw [Bool.or_eq_true] at h
    rcases h with h | h
    · rw [Bool.and_eq_true, Bool.and_eq_true] at h
      obtain ⟨⟨h1, h2⟩, h3⟩ := h
      obtain ⟨d1, c1, e1⟩ := rt.plain n h1
      obtain ⟨d2, c2, e2⟩ := ru.plain n h2
      obtain ⟨as, r1⟩ := Dp.reads I _ _ _ d1 rv
      obtain ⟨bs, r2⟩ := Dp.reads I _ _ _ d2 rw'
      have z := eqAt_reads _ _ A s _ _ _ _ r1 r2 c1 c2 (by have := Nat.min_le_left t.toD.depth u.toD.depth; omega)
      have h3' : PyData.eqv t.toD u.toD = true := h3
      rw [h3'] at z
      exact z
    · split at h
      · cases rt with
        | @dik a ts us ea _ ek _ _ =>
          cases ru with
          | @dik b ts2 us2 eb _ ek2 _ _ =>
            have z1 : us = [] := by cases us with
              | nil => rfl
              | cons _ _ => simp at ek
            have z2 : us2 = [] := by cases us2 with
              | nil => rfl
              | cons _ _ => simp at ek2
            subst z1 z2
            cases (show v' = Value.ref a from rv)
            cases (show w' = Value.ref b from rw')
            by_cases e : a = b
            · subst e; exact EqAt.same _
            · obtain ⟨_, na, xa, ka, da⟩ := (show ObjOk X.prog X.w H s.heap a (.dK []) from I.hok a _ ea)
              obtain ⟨_, nb, xb, kb, db⟩ := (show ObjOk X.prog X.w H s.heap b (.dK []) from I.hok b _ eb)
              have xa0 : xa = [] := by cases ka; rfl
              have xb0 : xb = [] := by cases kb; rfl
              subst xa0 xb0
              have any : ∀ {c : Addr}, s.heap.DictOf (mixKind X.prog X.w) c [] → ∀ (prog : Program) (w : World), s.heap.DictOf (mixKind prog w) c [] := fun {c} q prog w => by
                obtain ⟨o, es, ep, h1, h2, h3, h4, h5, h6⟩ := q
                have z : es.toList = [] := by
                  have := h5.length
                  cases q : es.toList with
                  | nil => rfl
                  | cons _ _ => rw [q] at this; simp at this
                refine ⟨o, es, ep, h1, h2, h3, ?_, ?_, h6⟩
                · have z2 : es = #[] := by cases es; simp at z; rw [z]
                  subst z2
                  intro i hi
                  exact absurd hi (by simp)
                · rw [z]; exact .nil
              refine EqAt.of_refs e fun prog w E Q hq => ?_
              exact PySem.W.rcP_dicts (knd := mixKind prog w) (r := true) na nb (any da prog w) (any db prog w) (by omega) (fun _ => .nil) E Q (by simpa using hq)
      · rename_i l m
        obtain ⟨hl, hg⟩ := all2_get h
        cases rt with
        | @lst a ts us ea _ el es =>
          cases ru with
          | @lst b ts2 us2 eb _ el2 es2 =>
            cases (show v' = Value.ref a from rv)
            cases (show w' = Value.ref b from rw')
            by_cases e : a = b
            · subst e; exact EqAt.same _
            · obtain ⟨i1, v1, ⟨o1, n1, q1, q2, q3, q4⟩, _⟩ := I.list (SqL.of ea : SqL X.K H a us)
              obtain ⟨i2, v2, ⟨o2, n2, p1, p2, p3, p4⟩, _⟩ := I.list (SqL.of eb : SqL X.K H b us2)
              have s1 : i1.toArray.size = i2.toArray.size := by
                have a1 := v1.length
                have a2 := v2.length
                simp
                omega
              have z := RcAt.lists (A := A) (e := fun _ => true) (s := s) (l := a) (b := b) ⟨o1, q1, q2, n1, q4⟩ ⟨o2, p1, p2, n2, p4⟩ s1 (by omega) fun j h1 h2 => by
                have h1' : j < i1.length := by simpa using h1
                have h2' : j < i2.length := by simpa using h2
                have y1 : j < us.length := by rw [v1.length]; exact h1'
                have y2 : j < us2.length := by rw [v2.length]; exact h2'
                have y3 : j < l.length := by omega
                have y4 : j < m.length := by omega
                obtain ⟨w1, x1, x2⟩ := v1.get (List.getElem?_eq_getElem y1)
                obtain ⟨w2, x3, x4⟩ := v2.get (List.getElem?_eq_getElem y2)
                rw [List.getElem?_eq_getElem h1'] at x1
                rw [List.getElem?_eq_getElem h2'] at x3
                cases x1
                cases x3
                have hd := hg j _ _ (List.getElem?_eq_getElem y3) (List.getElem?_eq_getElem y4)
                have := deq_at I n _ _ hd _ _ _ _ _ _ (es j _ _ (List.getElem?_eq_getElem y3) (List.getElem?_eq_getElem y1)) (es2 j _ _ (List.getElem?_eq_getElem y4) (List.getElem?_eq_getElem y2)) x2 x4 A.in1 (by show A.units + 1 + n < cLine; omega)
                simpa using this
              rw [all_true] at z
              exact EqAt.of_refs e z
      · rename_i l m
        obtain ⟨hl, hg⟩ := all2_get h
        cases rt with
        | @tup a ts us ea _ el es =>
          cases ru with
          | @tup b ts2 us2 eb _ el2 es2 =>
            cases (show v' = Value.ref a from rv)
            cases (show w' = Value.ref b from rw')
            by_cases e : a = b
            · subst e; exact EqAt.same _
            · obtain ⟨i1, v1, ⟨o1, q1, q2, n1, q3⟩, _⟩ := I.tuple (SqT.of ea : SqT X.K H a us)
              obtain ⟨i2, v2, ⟨o2, p1, p2, n2, p3⟩, _⟩ := I.tuple (SqT.of eb : SqT X.K H b us2)
              have s1 : i1.toArray.size = i2.toArray.size := by
                have a1 := v1.length
                have a2 := v2.length
                simp
                omega
              have z := RcAt.tuples (A := A) (e := fun _ => true) (s := s) (l := a) (b := b) ⟨o1, q1, q2, n1, q3⟩ ⟨o2, p1, p2, n2, p3⟩ (by omega) fun j h1 h2 => by
                have h1' : j < i1.length := by simpa using h1
                have h2' : j < i2.length := by simpa using h2
                have y1 : j < us.length := by rw [v1.length]; exact h1'
                have y2 : j < us2.length := by rw [v2.length]; exact h2'
                have y3 : j < l.length := by omega
                have y4 : j < m.length := by omega
                obtain ⟨w1, x1, x2⟩ := v1.get (List.getElem?_eq_getElem y1)
                obtain ⟨w2, x3, x4⟩ := v2.get (List.getElem?_eq_getElem y2)
                rw [List.getElem?_eq_getElem h1'] at x1
                rw [List.getElem?_eq_getElem h2'] at x3
                cases x1
                cases x3
                have hd := hg j _ _ (List.getElem?_eq_getElem y3) (List.getElem?_eq_getElem y4)
                have := deq_at I n _ _ hd _ _ _ _ _ _ (es j _ _ (List.getElem?_eq_getElem y3) (List.getElem?_eq_getElem y1)) (es2 j _ _ (List.getElem?_eq_getElem y4) (List.getElem?_eq_getElem y2)) x2 x4 A.in1 (by show A.units + 1 + n < cLine; omega)
                simpa using this
              rw [all_true, s1] at z
              exact EqAt.of_refs e (by simpa using z)
      · cases h
end
section
variable {X : Cx}
/-- two lists: of unlike lengths, or surely alike -/
def rNe2 (K : PySem.W.Frag) : R2 := fun x y H Q => ∃ (a b : Addr) (us ws : List V), x = .ref a ∧ y = .ref b ∧ SqL K H a us ∧ SqL K H b ws ∧
  ((us.length ≠ ws.length ∧ Q (.bl true) H) ∨ (∃ (l m : List T) (B B' : Xs), RpAll K H B l us ∧ RpAll K H B' m ws ∧ all2 (deqT 8) l m = true ∧ Q (.bl false) H))
open PySem.SeqAt in
theorem op_ne2 (hu : X.A.units + 64 < cLine) : OpR X (compareOp .NotEq) (rNe2 X.K) := by
  intro pins s σ H x y v u Q I rx ry h
  obtain ⟨a, b, us, ws, rfl, rfl, h1, h2, h⟩ := h
  obtain ⟨i1, v1, ⟨o1, n1, q1, q2, q3, q4⟩, _⟩ := I.list h1
  obtain ⟨i2, v2, ⟨o2, n2, p1, p2, p3, p4⟩, _⟩ := I.list h2
  cases (show v = Value.ref a from rx)
  cases (show u = Value.ref b from ry)
  have a1 := v1.length
  have a2 := v2.length
  rcases h with ⟨hne, q⟩ | ⟨l, m, B, B', rl, rm, hd, q⟩
  · exact RcNeAt.lists_lengths (A := X.A) ⟨o1, q1, q2, n1, q4⟩ ⟨o2, p1, p2, n2, p4⟩ (by simp; omega) (by omega) _ _ _ _ ⟨.bl true, H, I, rfl, q⟩
  · obtain ⟨hl, hg⟩ := all2_get hd
    have e1 := rl.1
    have e2 := rm.1
    refine RcNeAt.lists (A := X.A) (e := fun _ => true) ⟨o1, q1, q2, n1, q4⟩ ⟨o2, p1, p2, n2, p4⟩ (by simp; omega) (by omega) (fun j h1 h2 => ?_) _ _ _ _ ?_
    · have h1' : j < i1.length := by simpa using h1
      have h2' : j < i2.length := by simpa using h2
      have y1 : j < us.length := by omega
      have y2 : j < ws.length := by omega
      have y3 : j < l.length := by omega
      have y4 : j < m.length := by omega
      obtain ⟨w1, x1, x2⟩ := v1.get (List.getElem?_eq_getElem y1)
      obtain ⟨w2, x3, x4⟩ := v2.get (List.getElem?_eq_getElem y2)
      rw [List.getElem?_eq_getElem h1'] at x1
      rw [List.getElem?_eq_getElem h2'] at x3
      cases x1
      cases x3
      have hd := hg j _ _ (List.getElem?_eq_getElem y3) (List.getElem?_eq_getElem y4)
      have := deq_at I 8 _ _ hd _ _ _ _ _ _ (rl.2 j _ _ (List.getElem?_eq_getElem y3) (List.getElem?_eq_getElem y1)) (rm.2 j _ _ (List.getElem?_eq_getElem y4) (List.getElem?_eq_getElem y2)) x2 x4 X.A.in1 (by show X.A.units + 1 + 8 < cLine; omega)
      simpa using this
    · rw [all_true]
      exact ⟨.bl false, H, I, rfl, q⟩
theorem opi_ne2 : OpI X (rNe2 X.K) neR2 := by
  intro B H0 O env σ Hs H x y v w Q xc R s rx ry p
  unfold neR2 at p
  split at p
  · rename_i l m e1 e2
    obtain ⟨a, us, ev, ea, ra⟩ := rx.lst e1
    obtain ⟨b, ws, ew, eb, rb⟩ := ry.lst e2
    refine ⟨a, b, us, ws, ev, ew, SqL.of ea, SqL.of eb, ?_⟩
    split at p
    · rename_i c
      exact .inl ⟨by rw [← ra.1, ← rb.1]; exact c, p _ H (Same.refl H) (Rp.bl _)⟩
    · split at p
      · rename_i c
        exact .inr ⟨l, m, _, _, ra, rb, c, p _ H (Same.refl H) (Rp.bl _)⟩
      · exact p.elim
  · exact p.elim
end
end Tr
namespace Tr
open PySem L2

/-! ### exceptions: what the combinators compute -/
section
variable {env e : En} {f g : En → Res R} {b : En → Out} {r : R} {c C : Nat} {p : Option T} {Cs Es Os : List Nat} {hs : List Hd}
@[simp] theorem fRs0_eq : fRs0 C env = .exc env C none := rfl
def Res.rs1 (a : Res R) (C : Nat) (env : En) : Out := a.out (fun r env => if r.kp = true then .exc env C (some r.d) else .bad) env
@[simp] theorem fRs1_eq : fRs1 C f env = (f env).rs1 C env := rfl
@[simp] theorem rs1_ok : (Res.ok r).rs1 C env = if r.kp = true then .exc env C (some r.d) else .bad := rfl
def tryO (Cs : List Nat) (hs : List Hd) (o : Out) : Out := match o with
  | .exc e c p => if c ∈ Cs then disp hs e c p else .bad
  | o => o
@[simp] theorem fTry_eq : fTry Cs hs b env = tryO Cs hs (b env) := rfl
@[simp] theorem tryO_nx : tryO Cs hs (.nx e) = .nx e := rfl
@[simp] theorem tryO_rt : tryO Cs hs (.rt r) = .rt r := rfl
@[simp] theorem tryO_exc : tryO Cs hs (.exc e c p) = if c ∈ Cs then disp hs e c p else .bad := rfl
def dispN (nm : Option Nat) (f : En → Out) (e : En) (c : Nat) (p : Option T) : Out := match nm with
  | none => hOut (f e)
  | some i => hOut ((f (e.set i (.fz (exT c p)))).onE fun e => e.set i .no)
@[simp] theorem disp_nil : disp [] e c p = .exc e c p := rfl
@[simp] theorem disp_cons (ds : List Nat) (nm : Option Nat) : disp ((ds, nm, b) :: hs) e c p = if ds.any (subC c) = true then dispN nm b e c p else disp hs e c p := rfl
@[simp] theorem dispN_none : dispN none b e c p = hOut (b e) := rfl
@[simp] theorem dispN_some (i : Nat) : dispN (some i) b e c p = hOut ((b (e.set i (.fz (exT c p)))).onE fun e => e.set i .no) := rfl
@[simp] theorem exT_none : exT c none = .ex0 c := rfl
@[simp] theorem exT_some (t : T) : exT c (some t) = .ex1 c t := rfl
@[simp] theorem hOut_nx : hOut (.nx e) = .nx e := rfl
@[simp] theorem hOut_rt : hOut (.rt r) = .rt r := rfl
def isaT (Es Os : List Nat) (non : Bool) (g : Nat → Bool) (t : T) : Res R := match t with
  | .ex0 C => if C ∈ Es then .ok (.sh (.bl (g C))) else .bad
  | .ex1 C _ => if C ∈ Es then .ok (.sh (.bl (g C))) else .bad
  | .obj C _ => if C ∈ Os then .ok (.sh (.bl (g C))) else .bad
  | .non => if non = true then .ok (.sh (.bl false)) else .bad
  | _ => .bad
def Res.isaC (a : Res R) (Es Os : List Nat) (non : Bool) (g : Nat → Bool) : Res R := a.bind fun x => isaT Es Os non g x.d
@[simp] theorem fIsaC_eq (non : Bool) (h : Nat → Bool) : fIsaC Es Os non h f env = (f env).isaC Es Os non h := rfl
@[simp] theorem isaC_ok (non : Bool) (h : Nat → Bool) : (Res.ok r).isaC Es Os non h = isaT Es Os non h r.d := rfl
@[simp] theorem isaT_ex0 (non : Bool) (h : Nat → Bool) : isaT Es Os non h (.ex0 C) = if C ∈ Es then .ok (.sh (.bl (h C))) else .bad := rfl
@[simp] theorem isaT_ex1 (non : Bool) (h : Nat → Bool) (t : T) : isaT Es Os non h (.ex1 C t) = if C ∈ Es then .ok (.sh (.bl (h C))) else .bad := rfl
@[simp] theorem isaT_obj (non : Bool) (h : Nat → Bool) (fs : List (Str × T)) : isaT Es Os non h (.obj C fs) = if C ∈ Os then .ok (.sh (.bl (h C))) else .bad := rfl
@[simp] theorem isaT_non (non : Bool) (h : Nat → Bool) : isaT Es Os non h .non = if non = true then .ok (.sh (.bl false)) else .bad := rfl
def atXT (Cs : List Nat) (t : T) : Res R := match t with
  | .ex1 C t => if C ∈ Cs then .ok (.sh t) else .bad
  | _ => .bad
def Res.atX (a : Res R) (Cs : List Nat) : Res R := a.bind fun x => atXT Cs x.d
@[simp] theorem fAtX_eq : fAtX Cs f env = (f env).atX Cs := rfl
@[simp] theorem atX_ok : (Res.ok r).atX Cs = atXT Cs r.d := rfl
@[simp] theorem atXT_ex1 (t : T) : atXT Cs (.ex1 C t) = if C ∈ Cs then .ok (.sh t) else .bad := rfl
theorem subC_self (c : Nat) : subC c c = true := by simp [subC]
@[simp] theorem atX_bad : (Res.bad : Res R).atX Cs = .bad := rfl
end
section
/-! ### comparing lists of more -/
def neT2 (x y : T) : Res R := neR2 (.sh x) (.sh y)
@[simp] theorem neR2_eq (x y : R) : neR2 x y = neT2 x.d y.d := rfl
@[simp] theorem neT2_lst (l m : List T) : neT2 (.lst l) (.lst m) = if l.length ≠ m.length then .ok (.sh (.bl true)) else if all2 (deqT 8) l m = true then .ok (.sh (.bl false)) else .bad := rfl
/-- what is surely like itself -/
def dq : Nat → T → Bool
  | 0, _ => false
  | n + 1, t => T.pd n t || (match t with
    | .dik [] => true
    | .lst l => l.all (dq n)
    | .tup l => l.all (dq n)
    | _ => false)
theorem all2_self {f : T → T → Bool} : ∀ {l : List T}, (∀ t ∈ l, f t t = true) → all2 f l l = true
  | [], _ => rfl
  | a :: l, h => by
    show (f a a && all2 f l l) = true
    rw [h a (by simp), all2_self fun t m => h t (by simp [m])]
    rfl
theorem deq_self : ∀ (n : Nat) (t : T), dq n t = true → deqT n t t = true
  | 0, _, h => by cases h
  | n + 1, t, h => by
    unfold dq at h
    unfold deqT
    rw [Bool.or_eq_true] at h ⊢
    rcases h with h | h
    · left; simp [h]
    · right
      split at h
      · rfl
      · rename_i l
        exact all2_self fun t m => deq_self n t (List.all_eq_true.mp h t m)
      · rename_i l
        exact all2_self fun t m => deq_self n t (List.all_eq_true.mp h t m)
      · cases h
end
end Tr
namespace Tr
open PySem L2
/-! ### C(..) and x.m(..), handed what is lent -/
theorem OwnRp.newB {K : PySem.W.Frag} {H : Hp} {X : Xs} {d : T} {ho : HO} {p : Addr} (h : OwnRp K H X d ho) (hp : H p = none) : OwnRp K H (X.add p) d ho := h.keep ⟨fun a o e n => ⟨e, fun z => z.elim n fun q => by rw [q, hp] at e; cases e⟩, fun _ _ e => e⟩
structure MakV (P : Program) (w : World) (K : PySem.W.Frag) (mg : Str → Option Value) (base : Heap) (x : Str) (C : Nat) (k n : Nat) (F : List Sl → Res (T × R)) : Prop where
  ex : ∃ (c f : Addr) (fd : FuncData) (ps : List Str), clsA K C = some c ∧ mg x = some (.ref c) ∧ Mk K c f ∧ Binds K fd ps [] ∧ FnOk P w K mg base (L2.CX P w) k f fd ps (SpMV K n F)
structure MetMV (P : Program) (w : World) (K : PySem.W.Frag) (mg : Str → Option Value) (base : Heap) (C : Nat) (m : Str) (k n : Nat) (F : List Sl → Res (T × R)) : Prop where
  ex : ∃ (c f : Addr) (fd : FuncData) (ps : List Str), clsA K C = some c ∧ Cls K c ∧ Meth K c m f ∧ Binds K fd ps [] ∧ FnOk P w K mg base (L2.CX P w) k f fd ps (SpMV K n F)
def mkVR (C : Nat) (F : List Sl → Res (T × R)) (rs : List R) : Res R := mkO (F (.sf (.obj C []) :: rs.map R.arg))
def fMkV (C : Nat) (F : List Sl → Res (T × R)) (ga : En → Res (List R)) (env : En) : Res R := (ga env).bind (mkVR C F)
/-- not the object in slot i -/
def R.off (i : Nat) : R → Bool
  | .bo j _ => decide (j ≠ i)
  | _ => true
def mcVS (C : Nat) (m : Str) (F : List Sl → Res (T × R)) (s : Option Sl) (a : Res (List R)) (i : Nat) (env : En) : Out := match obS s with
  | some (b, d) => if clT C m d = true then a.out (fun rs env => if rs.all (R.off i) = true then mcO i b (F (.sf d :: rs.map R.arg)) env else .bad) env else .bad
  | none => .bad
def fMcV (C : Nat) (m : Str) (i : Nat) (F : List Sl → Res (T × R)) (ga : En → Res (List R)) (env : En) : Out := mcVS C m F env[i]? (ga env) i env
section
variable {X : Cx} {EX : L2.St → XK} {e : Expr} {es : List Expr} {ga : En → Res (List R)} {F : List Sl → Res (T × R)} {j k n : Nat} {C : Nat} {c : Addr} {m x : Str} {p pos apos pos' pn : Pos}
theorem StAll.up {K : PySem.W.Frag} {Hl Hl' H H' : Hp} {Y Y' : Xs} : ∀ {sl : List Sl} {vs : List V}, StAll K Hl H Y sl vs → (∀ (s : Sl) (u : V), StOk K Hl H Y s u → s ∈ sl → StOk K Hl' H' Y' s u) → StAll K Hl' H' Y' sl vs := fun {sl vs} h g => ⟨h.1, fun i s u a b => g s u (h.2 i s u a b) (List.mem_of_getElem? a)⟩
theorem mkV_core {B H0 O env σ H H1} (ec : clsA X.K C = some c) {rs : List R} {vs : List V} {Q : VK} {x dx : Addr} (R0 : Rel X.K B H0 O env σ H) (s : Same H H1) (r : RRs X.K B O H H1 rs vs) (hn : rs.length + 1 = n) (nx : H1 x = none) (ndx : H1 dx = none) (ne : dx ≠ x)
    (q : Post (XC X.K B O EX σ H) (fun r => ∀ v H', Same H H' → RR X.K B O H H' r v → Q v H') (mkVR C F rs)) :
    SpMV X.K n F (.ref x :: vs) (upd (upd H1 dx (.own x)) x (.ins c dx [])) (fun v H2 => v = .non ∧ Q (.ref x) H2) (EX σ) := by
  unfold mkVR at q
  have ra := RRs.arg R0 r
  have s1 : Same H1 (upd (upd H1 dx (.own x)) x (.ins c dx [])) := fun b o e => by
    rw [upd_ne (ne_of_none e nx), upd_ne (ne_of_none e ndx)]; exact e
  have R1 := R0.mono s
  have nB : ¬ Ex B O x := R1.ex_new nx
  refine ⟨.obj C [], rs.map R.arg, Ex B O, x, .ins c dx [], vs, rfl, fun b z => ?_, upd_same, nB, .obj ec rfl .nil, ra.up fun sl u z m => ?_, by simpa using hn, ?_⟩
  · obtain ⟨o, e, nt⟩ := R1.ex_ntup z
    exact ⟨o, s1 _ _ e, nt⟩
  · cases sl with
    | fz d => exact (Rp.newB z nx).same s1
    | br d =>
      obtain ⟨a, ho, z1, z2, z3⟩ := z
      exact ⟨a, ho, z1, wo_ne (s1 _ _ z2) (ne_of_none z2 nx), (z3.newB nx).same s1⟩
    | _ => exact z.elim
  · have back : ∀ {H' : Hp}, (∀ b o, (upd (upd H1 dx (.own x)) x (.ins c dx [])) b = some o → b ≠ x → H' b = some o) → Same H H' := fun ag b o e => ag b o (s1 _ _ (s _ _ e)) (ne_of_none (s _ _ e) nx)
    cases ef : F (.sf (.obj C []) :: rs.map R.arg) with
    | ok z =>
      obtain ⟨d, r'⟩ := z
      rw [ef] at q
      intro v H' ho' ag h' ow rr
      cases r' with
      | sh dd =>
        cases dd with
        | non =>
          refine ⟨rp_non rr, q (.ref x) H' (back ag) ⟨x, ho', rfl, s.free nx, h', ow.anti fun b z => ?_⟩⟩
          exact z
        | _ => exact q.elim
      | _ => exact q.elim
    | exc c pl =>
      rw [ef] at q
      intro H' dd ca ea ag xx
      refine q H' dd ca ea (back ag) ?_
      cases pl with
      | none => exact xx
      | some t =>
        obtain ⟨a, v, z1, z2, z3⟩ := xx
        exact ⟨a, v, z1, z2, z3⟩
    | bad => rw [ef] at q; exact q.elim
theorem ej_mkV (M : MakV X.prog X.w X.K X.mg X.base x C j n F) (hr : Room k X.A) (hjk : j + 1 ≤ k) (hx : ∀ σ, PassesAt (L2.CX X.prog X.w) X σ (EX σ)) (hg : Gl X x) (ha : AJ X EX (e :: es) ga) (hn : ∀ env rs, ga env = .ok rs → rs.length + 1 = n)
    (hdb : (x == ("__debug__" : Str)) = false := by decide) (he : starEach (e :: es) X.env = (false, eval e X.env) :: starEach es X.env := by rfl) (hpl : (backTo pos (starEach es X.env)).any (·.1) = false := by rfl) :
    EJ X EX (.Call (.Name x p) (e :: es) [] pos) (fMkV C F ga) := by
  obtain ⟨cc, f, fd, ps, h0, h1, h2, h3, h4⟩ := M.ex
  obtain ⟨t, pa, i⟩ := ha.ex
  refine ⟨⟨_, pe_makeS h2 h4 (hr.mono hjk) hg h1 h3 hx pa hdb he hpl, fun B H0 O env σ H Q R q => ?_⟩⟩
  have q' : Post (XC X.K B O EX σ H) (fun rs => ga env = .ok rs ∧ Post (XC X.K B O EX σ H) (fun r => ∀ v H', Same H H' → RR X.K B O H H' r v → Q v H') (mkVR C F rs)) (ga env) := by
    have z := q.bind
    cases eg : ga env with
    | ok rs => rw [eg] at z; exact ⟨rfl, z⟩
    | exc c p => rw [eg] at z; exact z
    | bad => rw [eg] at z; exact z
  refine i B H0 O env σ H _ R (q'.mono (fun _ _ x => x) fun rs z vs H1 s r1 x dx nx ndx ne => ?_)
  exact mkV_core h0 R s r1 (hn env rs z.1) nx ndx ne z.2
theorem RRs.off {K : PySem.W.Frag} {B : Bs} {O : Ow} {H0 H H1 : Hp} {env : En} {σ : L2.St} {i : Nat} {a : Addr} (R0 : Rel K B H0 O env σ H) (h1 : O[i]? = some (some a)) : ∀ {rs : List R} {vs : List V}, RRs K B O H H1 rs vs → rs.all (R.off i) = true →
    StAll K (wo H1 a) H1 (Ex B O) (rs.map R.arg) vs
  | [], [], _, _ => ⟨rfl, fun i s u a => by simp at a⟩
  | r :: rs, v :: vs, h, o => by
    rw [List.all_cons, Bool.and_eq_true] at o
    obtain ⟨l, g⟩ := RRs.off R0 h1 h.2 o.2
    refine ⟨by simp [l], fun l s u a' b => ?_⟩
    cases l with
    | zero =>
      simp at a' b
      subst a' b
      cases r with
      | sh d => exact h.1
      | fr d => exact h.1.rp R0 rfl
      | bo l d =>
        obtain ⟨b, ho, e1, e2, e3, e4⟩ := h.1
        have ne : l ≠ i := of_decide_eq_true o.1
        exact ⟨b, ho, e2, wo_ne e3 (fun q => ne (R0.uniq l i a (q ▸ e1) h1)), e4⟩
      | vw d =>
        obtain ⟨b, ho, e1, e2, e3, e4⟩ := h.1
        exact ⟨b, ho, e2, wo_ne e3 (fun q => by
          have z := R0.lent _ _ e1
          rw [q, (R0.own i a h1).1] at z
          cases z), e4⟩
    | succ l => exact g l s u (by simpa using a') (by simpa using b)
  | [], _ :: _, h, _ => h.elim
  | _ :: _, [], h, _ => h.elim
theorem mcV_core {B H0 O env σ H H2} {rs : List R} {vs : List V} {i : Nat} {b : Bool} {d : T} {a : Addr} {ho : HO} {D : Ends} (R0 : Rel X.K B H0 O env σ H) (s : Same H H2) (hs : env[i]? = some (mkS b d)) (h1 : O[i]? = some (some a)) (h3 : H a = some ho) (h4 : OwnRp X.K H (Ex B O) d ho)
    (hr : StAll X.K (wo H2 a) H2 (Ex B O) (rs.map R.arg) vs) (hn : rs.length + 1 = n) (q : SPost X EX B H0 O H D (mcO i b (F (.sf d :: rs.map R.arg)) env)) : SpMV X.K n F (.ref a :: vs) H2 (fun _ H' => D.nx σ H') (EX σ) := by
  have R2 := R0.mono s
  have xa : Ex B O a := .inr ⟨i, h1⟩
  have bl := xs_less xa
  refine ⟨d, rs.map R.arg, (Ex B O).less a, a, ho, vs, rfl, fun b z => R2.ex_ntup z.1, s _ _ h3, fun z => z.2 rfl, (h4.same s).anti fun b z => (bl b).mp z, hr.up fun sl u z m => ?_, by simpa using hn, ?_⟩
  · cases sl with
    | fz d => exact Rp.anti z fun b z => (bl b).mp z
    | br d =>
      obtain ⟨a, ho, z1, z2, z3⟩ := z
      exact ⟨a, ho, z1, z2, z3.anti fun b z => (bl b).mp z⟩
    | _ => exact z.elim
  cases ef : F (.sf d :: rs.map R.arg) with
  | ok r =>
    obtain ⟨d', r'⟩ := r
    rw [ef] at q
    intro v H' ho' ag h' ow _
    obtain ⟨R3, k3⟩ := R2.swap hs h1 ag h' (ow.anti fun b z => (bl b).mpr z)
    exact q O σ H' R3 ((Same.keepB s).trans k3)
  | exc c pl =>
    rw [ef] at q
    intro H' dd ca ea ag x
    have hi : i < env.length := (List.getElem?_eq_some_iff.mp hs).1
    obtain ⟨R3, k3⟩ := R2.lost (d := d) hi h1 ag
    refine q _ σ H' dd ca ea R3 ((Same.keepB s).trans k3) ?_
    have sub : ∀ b, Ex B (O.set i none) b → (Ex B O).less a b := fun b z => by
      refine ⟨?_, ?_⟩
      · rcases z with z | ⟨l, z⟩
        · exact .inl z
        · rcases getElem?_set' z with ⟨_, _, e⟩ | ⟨_, e⟩
          · cases e
          · exact .inr ⟨l, e⟩
      · rintro rfl
        rcases z with z | ⟨l, z⟩
        · exact (R0.own i _ h1).2.1 z
        · rcases getElem?_set' z with ⟨_, _, e⟩ | ⟨n, e⟩
          · cases e
          · exact n (R0.uniq i l _ h1 e)
    cases pl with
    | none => exact x
    | some t =>
      obtain ⟨b, v, z1, z2, z3⟩ := x
      exact ⟨b, v, z1, z2, z3.anti sub fun k c e => (cs_set (R0.lenN ▸ hi) k).trans e⟩
  | bad => rw [ef] at q; exact q.elim
theorem sj_mcV (i : Nat) (M : MetMV X.prog X.w X.K X.mg X.base C m j n F) (hr : Room k X.A) (hjk : j ≤ k) (hx : ∀ σ, PassesAt (L2.CX X.prog X.w) X σ (EX σ)) (ha : AJ X EX (e :: es) ga) {pl : Sem Bool} (hn : ∀ env rs, ga env = .ok rs → rs.length + 1 = n)
    (hN : X.N[i]? = some x := by rfl) (hv : Vis X.env.scope x := by first | exact Or.inl rfl | exact Or.inr (Or.inl rfl) | exact Or.inr (Or.inr rfl)) (hd : (x == ("__debug__" : Str)) = false := by decide) (hcd : (x == ("__classdict__" : Str)) = false := by decide)
    (hs : swapsWith (.Call (.Attribute (.Name x pn) m apos) (e :: es) [] pos') none pos.line X.env = pure false := by rfl)
    (hst : starEach (e :: es) X.env = (false, eval e X.env) :: starEach es X.env := by rfl) (hpl : (backTo pos' (starEach es X.env)).any (·.1) = false := by rfl)
    (ht : eval (.Call (.Attribute (.Name x pn) m apos) (e :: es) [] pos') X.env = (do
      let ov ← eval (.Name x pn) X.env
      standAt apos.atName
      let (f, first) ← holding [ov] (getMethod ov m pl)
      callWith pos' f first (backTo pos' (starEach (e :: es) X.env)) (backToKw pos' (keywordEach [] X.env))) := by rfl) :
    SJ X EX (.Expr (.Call (.Attribute (.Name x pn) m apos) (e :: es) [] pos') pos) (fMcV C m i F ga) := by
  obtain ⟨cc, f, fd, ps, h0, h1, h2, h3, h4⟩ := M.ex
  obtain ⟨t', pa, i'⟩ := ha.ex
  have q1 : PE X (.Name x pn) (tVar i) := pe_var hN hv hd hcd
  refine ⟨⟨_, ps_expr (pe_methS q1 h1 h2 h4 (hr.mono hjk) h3 hx pa hst hpl ht) hs, fun B H0 O env σ H D Rl p => ?_⟩⟩
  unfold fMcV mcVS at p
  split at p
  · rename_i b d eo
    have es := obS_some eo
    obtain ⟨a, ho, o1, o2, o3, o4⟩ := obj_slot Rl es
    split at p
    · rename_i cl
      have p' := sOf_post (X := X) (EX := EX) (f := ga) (k := fun rs env => if rs.all (R.off i) = true then mcO i b (F (.sf d :: rs.map R.arg)) env else .bad) Rl p
      obtain ⟨dx, fs, eh, el⟩ := cl_slot h0 cl o4
      subst eh
      refine ⟨_, o2, a, dx, fs, rfl, o3, el, ?_⟩
      have p2 : Post (XC X.K B O EX σ H) (fun rs => ga env = .ok rs ∧ SPost X EX B H0 O H D (if rs.all (R.off i) = true then mcO i b (F (.sf d :: rs.map R.arg)) env else .bad)) (ga env) := by
        cases eg : ga env with
        | ok rs => rw [eg] at p'; exact ⟨rfl, p'⟩
        | exc c p => rw [eg] at p'; exact p'
        | bad => rw [eg] at p'; exact p'
      refine i' B H0 O env σ H _ Rl (p2.mono (fun _ _ x => x) fun rs z vs H2 s2 r2 => ?_)
      obtain ⟨eg, z⟩ := z
      split at z
      · rename_i c
        exact mcV_core Rl s2 es o1 o3 o4 (RRs.off Rl o1 r2 c) (hn env rs eg) z
      · exact z.elim
    · exact p.elim
  · exact p.elim
end
/-! what they compute -/
section
variable {r : R} {rs : List R} {d : T} {FV : List Sl → Res (T × R)} {C i : Nat} {m : Str} {env : En} {ga : En → Res (List R)}
@[simp] theorem arg_sh (d : T) : (R.sh d).arg = .fz d := rfl
@[simp] theorem arg_fr (d : T) : (R.fr d).arg = .fz d := rfl
@[simp] theorem arg_bo (i : Nat) (d : T) : (R.bo i d).arg = .br d := rfl
@[simp] theorem arg_vw (d : T) : (R.vw d).arg = .br d := rfl
@[simp] theorem off_sh (d : T) : (R.sh d).off i = true := rfl
@[simp] theorem off_fr (d : T) : (R.fr d).off i = true := rfl
@[simp] theorem off_vw (d : T) : (R.vw d).off i = true := rfl
@[simp] theorem off_bo (j : Nat) (d : T) : (R.bo j d).off i = decide (j ≠ i) := rfl
@[simp] theorem slget_br (n : Nat) (a : T) : Sl.get n (some (.br a)) = .ok (.vw a) := rfl
@[simp] theorem fMkV_eq : fMkV C FV ga env = (ga env).bind (mkVR C FV) := rfl
@[simp] theorem mkVR_eq : mkVR C FV rs = mkO (FV (.sf (.obj C []) :: rs.map R.arg)) := rfl
@[simp] theorem fMcV_eq : fMcV C m i FV ga env = mcVS C m FV env[i]? (ga env) i env := rfl
def mcVT (C : Nat) (m : Str) (F : List Sl → Res (T × R)) (b : Bool) (d : T) (a : Res (List R)) (i : Nat) (env : En) : Out := if clT C m d = true then a.out (fun rs env => if rs.all (R.off i) = true then mcO i b (F (.sf d :: rs.map R.arg)) env else .bad) env else .bad
@[simp] theorem mcVS_ow (a : Res (List R)) : mcVS C m FV (some (.ow d)) a i env = mcVT C m FV false d a i env := rfl
@[simp] theorem mcVS_sf (a : Res (List R)) : mcVS C m FV (some (.sf d)) a i env = mcVT C m FV true d a i env := rfl
@[simp] theorem mcVT_ok (b : Bool) : mcVT C m FV b d (.ok rs) i env = if clT C m d = true then (if rs.all (R.off i) = true then mcO i b (FV (.sf d :: rs.map R.arg)) env else .bad) else .bad := rfl
end
end Tr
namespace L2
open PySem PySem.Spec PyProof.Rows
/-! ### set(a list of whole numbers), sorted -/
section
variable {P : Program} {w : World} {A : Around} {E : Value → Shared → Prop} {s : Shared}
abbrev noSet (w : World) : Obj := { cls := .type "set", dict := none, data := .set #[] 0 (.fresh 0 0 (!w.params.followText "set-order")) }
set_option maxHeartbeats 3200000 in
theorem set_of_list {l : Addr} {items : Array Value} (ns : List Int) {Q : Value → Shared → Prop} (hh : A.handled = none) (hl : s.heap.IsList l items) (hit : IntsAre items.toList ns) (hb : ns.length + 1 < scanBound)
    (h : ∀ (h' : Heap) (tk c : Nat), SetR w h' s.heap.objs.size (fun j => decide (j ∈ ns)) c → c ≤ ns.length → (∀ b o, s.heap.get? b = some o → h'.get? b = some o) → Q (.ref s.heap.objs.size) { s with heap := h', toks := tk }) :
    wpAny (model P w) A (call (.type "set") [.ref l]) Q E s := by
  have z : items.size = ns.length := by simpa using IntsAre.length hit
  obtain ⟨c, tl, hmro⟩ := F.called_set.mro
  have hmade := F.called_set.made
  have hsub := F.called_set.sub
  refine wpAny_call (codeAny_of_tree ?_)
  show wpAny _ _ (callAny (.type "set") _) _ _ _
  refine wpAny_pure ⟨Code.quiet_builtin _ (by decide +kernel), codeAny_builtin F.entry_type_call ?_⟩
  rw [Around.under_plain (weight_type_call_type "set" [.ref l] []) rfl]
  have h1 := F.called_set.notType
  have h2 := F.called_set.canCreate
  have h3 := F.typeCall_set_1 (.ref l)
  repeat (any_goals (first | assumption | wp_step))
  refine codeAny_mono (code_set_led1 (.ref l) (E := E) (Q₁ := fun obj s₁ => obj = .ref s.heap.objs.size ∧ s₁ = { s with heap := s.heap.push (noSet w) }) ⟨rfl, rfl⟩) fun r s₁ hr => ?_
  match r, hr with
  | .error e, hr => exact hr
  | .ok .next, hr => exact hr.elim
  | .ok .brk, hr => exact hr.elim
  | .ok .cont, hr => exact hr.elim
  | .ok (.ret obj), hr =>
    obtain ⟨rfl, rfl⟩ := hr
    have gS : (s.heap.push (noSet w)).get? s.heap.objs.size = some (noSet w) := Heap.get?_push_size _ rfl
    have hT : Shared.TypeIs { s with heap := s.heap.push (noSet w) } (.ref s.heap.objs.size) "set" := ⟨_, gS, rfl⟩
    have h4 := F.called_set.init.lookup
    have h5 := F.called_set.init.bind (.ref s.heap.objs.size)
    repeat (any_goals (first | assumption | wp_step))
    refine codeAny_mono (codeAny_call_builtin (R := wants (fun r s₂ => r = .none ∧ ∃ h' tk c, s₂ = { s with heap := h', toks := tk } ∧ SetR w h' s.heap.objs.size (fun j => decide (j ∈ ns)) c ∧ c ≤ ns.length ∧
      (∀ b o, s.heap.get? b = some o → h'.get? b = some o)) E) F.called_set.init.plain F.entry_set_init (check_set_init_1 hT ?_)) fun r₂ s₂ hr₂ => ?_
    · obtain ⟨⟨oc, od, odt, osl⟩, ho, hc, n, hd⟩ := hl
      simp only at hc hd
      subst hc hd
      have ho' : (s.heap.push (noSet w)).get? l = some { cls := .type "list", dict := od, data := .seq items n, slots := osl } := Heap.get?_push_of_some _ ho
      have h6 := F.sub_list_set
      have h7 := F.sub_list_frozenset
      have h8 : (Value.type "list" == Value.type "dict") = false := by decide
      have il : (s.heap.push (noSet w)).IsList l items := ⟨_, ho', rfl, n, rfl⟩
      unfold Builtin.«set.__init__» noKeywords Builtin.Frozenset.updateFrom
      generalize hPI : pyIter = PI
      wp_walk
      subst hPI
      refine wpAny_pyIter_list il ?_
      refine wpAny_bind (wpAny_runValue ?_)
      have lt : l < s.heap.objs.size := Heap.lt_size ho
      have zp : (s.heap.push (noSet w)).objs.size = s.heap.objs.size + 1 := Heap.size_push ..
      have hh3 : A.in1.in1.in1.handled = none := by simp [hh]
      have ne1 : l ≠ (s.heap.push (noSet w)).objs.size := by rw [zp]; exact Nat.ne_of_lt (Nat.lt_succ_of_lt lt)
      have ne2 : s.heap.objs.size ∉ [(s.heap.push (noSet w)).objs.size, l] := by
        rw [zp]
        simp only [List.mem_cons, List.not_mem_nil, or_false, not_or]
        exact ⟨Nat.ne_of_lt (Nat.lt_succ_self _), Nat.ne_of_gt lt⟩
      have hval : ∀ (i : Nat) (v : Value), items[i]? = some v → ∃ k t, ns[i]? = some k ∧ v = .int k t := fun i v hv => by
        have hi : i < ns.length := by rw [← z]; exact (Array.getElem?_eq_some_iff.mp hv).1
        obtain ⟨t, e⟩ := IntsAre.int_at hit i v (by rw [Array.getElem?_toList]; exact hv)
        refine ⟨ns[i], t, List.getElem?_eq_getElem hi, ?_⟩
        rw [e, List.getD_eq_getElem?_getD, List.getElem?_eq_getElem hi] <;> rfl
      refine set_update_ints ((Walks.list hh3 _ l ne1 items).toS) s.heap.objs.size ne2 ns z hb hval (items.size - 0) 0 _ (by omega) (Nat.zero_le _)
        ⟨⟨_, Heap.get?_push_size _ rfl, rfl, rfl⟩, il.push _⟩ ?h0 ?hR
      case h0 => exact ⟨0, Nat.le_refl 0, setR_new_at (Heap.get?_push_of_some _ gS)⟩
      case hR =>
        intro s' c' hm hc' hS'
        obtain ⟨h', g2, d', tk', os'⟩ := s'
        have e1 : g2 = s.gens := hm.gens
        have e2 : d' = s.drawn := hm.drawn
        have e3 : os' = s.os := hm.os
        subst e1 e2 e3
        refine wpAny_pure ?_
        show wpAny _ _ (ret Value.none) _ _ _
        rw [z] at hc'
        refine wpAny_pure ⟨rfl, h', tk', c', rfl, hS', hc', fun b o e => ?_⟩
        have b0 : b < s.heap.objs.size := Heap.lt_size e
        refine hm.heap b o ?_ (Heap.get?_push_of_some _ (Heap.get?_push_of_some _ e))
        rw [zp]
        simp only [List.mem_cons, List.not_mem_nil, or_false, not_or]
        exact ⟨Nat.ne_of_lt b0, Nat.ne_of_lt (Nat.lt_succ_of_lt b0)⟩
    · match r₂, hr₂ with
      | .error e, hr₂ => exact hr₂
      | .ok .next, hr₂ => exact hr₂.elim
      | .ok .brk, hr₂ => exact hr₂.elim
      | .ok .cont, hr₂ => exact hr₂.elim
      | .ok (.ret r), hr₂ =>
        obtain ⟨rfl, h', tk, c', rfl, hS', hc', hk'⟩ := hr₂
        repeat (any_goals (first | assumption | wp_step))
        exact h _ _ _ hS' hc' hk'
end
end L2
namespace Tr
open PySem L2
section
variable {X : Cx}
def rSetI (X : Cx) : List V → Hp → VK → Prop := fun xs H Q => ∃ (l : Addr) (ns : List Int), xs = [.ref l] ∧ SqL X.K H l (ns.map V.int) ∧ ns.length ≤ 1000 ∧ ∀ p c, H p = none → c ≤ ns.length → Q (.ref p) (upd H p (SetO X.w p (fun j => decide (j ∈ ns)) c))
theorem cr_setI (hc : X.calm = true) : CallR X (.type "set") (rSetI X) := by
  intro pins s σ H xs us Q I r h
  obtain ⟨l, ns, rfl, hq, hn, q⟩ := h
  rw [Vals.ref1 r]
  obtain ⟨its, r2, pl, hz⟩ := I.list hq
  refine set_of_list ns (I.ok.hd hc) pl.isList (by simpa using RZ.intsAre_vals r2) (by unfold scanBound; omega) fun h' tk c new hc' hk => ?_
  exact ⟨.ref _, upd H s.heap.objs.size (SetO X.w s.heap.objs.size (fun j => decide (j ∈ ns)) c), I.laid (t' := tk) (fun b u e => hk b u e) (Nat.le_refl _) (setO_new new), rfl, q _ c (I.hok.fresh (Nat.le_refl _)) hc'⟩
/-- the members, rising -/
def uniqI : List Int → List Int
  | [] => []
  | a :: l => match uniqI l with
    | [] => [a]
    | b :: m => if a = b then b :: m else a :: b :: m
theorem uniqI_mem (k : Int) : ∀ l : List Int, k ∈ uniqI l ↔ k ∈ l
  | [] => Iff.rfl
  | a :: l => by
    have ih := uniqI_mem k l
    show k ∈ (match uniqI l with
      | [] => [a]
      | b :: m => if a = b then b :: m else a :: b :: m) ↔ _
    cases e : uniqI l with
    | nil => rw [e] at ih; simp only [List.mem_cons, ← ih]
    | cons b m =>
      rw [e] at ih
      simp only []
      by_cases z : a = b
      · rw [if_pos z, List.mem_cons (a := k) (b := a), ← ih]
        constructor
        · exact .inr
        · rintro (rfl | h)
          · rw [z]; exact List.mem_cons_self
          · exact h
      · rw [if_neg z, List.mem_cons, ih, List.mem_cons (a := k) (b := a)]
theorem uniqI_sorted : ∀ l : List Int, l.Pairwise (· ≤ ·) → (uniqI l).Pairwise (· < ·)
  | [], _ => .nil
  | a :: l, h => by
    rw [List.pairwise_cons] at h
    have ih := uniqI_sorted l h.2
    have hm := fun k => uniqI_mem k l
    show (match uniqI l with
      | [] => [a]
      | b :: m => if a = b then b :: m else a :: b :: m).Pairwise (· < ·)
    cases e : uniqI l with
    | nil => simp
    | cons b m =>
      rw [e] at ih hm
      simp only []
      by_cases z : a = b
      · rw [if_pos z]; exact ih
      · rw [if_neg z, List.pairwise_cons]
        refine ⟨fun x hx => ?_, ih⟩
        have hb := h.1 b ((hm b).mp List.mem_cons_self)
        rcases List.mem_cons.mp hx with rfl | hx
        · omega
        · have := (List.pairwise_cons.mp ih).1 x hx; omega
theorem rise_uniq : ∀ (l m : List Int), l.Pairwise (· < ·) → m.Pairwise (· < ·) → (∀ k, k ∈ l ↔ k ∈ m) → l = m
  | [], [], _, _, _ => rfl
  | [], b :: m, _, _, h => by have := (h b).mpr List.mem_cons_self; cases this
  | a :: l, [], _, _, h => by have := (h a).mp List.mem_cons_self; cases this
  | a :: l, b :: m, h1, h2, h => by
    rw [List.pairwise_cons] at h1 h2
    have e : a = b := by
      have q1 := (h a).mp List.mem_cons_self
      have q2 := (h b).mpr List.mem_cons_self
      rcases List.mem_cons.mp q1 with q1 | q1
      · exact q1
      · rcases List.mem_cons.mp q2 with q2 | q2
        · exact q2.symm
        · have := h2.1 a q1; have := h1.1 b q2; omega
    subst e
    rw [rise_uniq l m h1.2 h2.2 fun k => ?_]
    constructor
    · intro q
      rcases List.mem_cons.mp ((h k).mp (List.mem_cons_of_mem _ q)) with z | z
      · have := h1.1 k q; omega
      · exact z
    · intro q
      rcases List.mem_cons.mp ((h k).mpr (List.mem_cons_of_mem _ q)) with z | z
      · have := h2.1 k q; omega
      · exact z
/-- sorted(set(l)) -/
def sorU (l : List Int) : List Int := uniqI (sortI l)
def sortSetR (r : R) : Res R := match r.d.ints with
  | some ns => if ns.length < 64 then .ok (.fr (.lst ((sorU ns).map T.int))) else .bad
  | none => .bad
def fSortSet (f : En → Res R) (env : En) : Res R := (f env).bind sortSetR
theorem ej_sortSet {EX : L2.St → XK} {a : Expr} {f : En → Res R} {p p2 q pos : Pos} (hc : X.calm = true) (hg : Gl X "sorted") (hm : X.mg "sorted" = none) (hg2 : Gl X "set") (hm2 : X.mg "set" = none) (ha : EJ X EX a f)
    (hs : starEach [a] X.env = (false, eval a X.env) :: starEach [] X.env := by rfl) (hp : (backTo q (starEach [] X.env)).any (·.1) = false := by rfl)
    (hs2 : starEach [.Call (.Name "set" p2) [a] [] q] X.env = (false, eval (.Call (.Name "set" p2) [a] [] q) X.env) :: starEach [] X.env := by rfl) (hp2 : (backTo pos (starEach [] X.env)).any (·.1) = false := by rfl) :
    EJ X EX (.Call (.Name "sorted" p) [.Call (.Name "set" p2) [a] [] q] [] pos) (fSortSet f) := by
  obtain ⟨t, pe, i⟩ := ha.ex
  have pa := pe_callTy (x := "set") (p := p2) (cr_setI hc) hg2 hm2 (by decide +kernel) (pa_cons pe pa_nil hs) (by decide) (by decide) hs hp
  have pb := pe_callB (x := "sorted") (p := p) (cr_sortedSet hc) hg hm (by decide +kernel) (pa_cons pa pa_nil hs2) (by decide) (by decide) hs2 hp2
  refine ⟨⟨_, pb, fun B H0 O env σ H Q R z => ?_⟩⟩
  refine i B H0 O env σ H _ R (z.bind.mono (fun _ _ x => x) fun r z v H1 s r1 => ?_)
  unfold sortSetR at z
  split at z
  · rename_i ns e
    split at z
    · rename_i c
      obtain ⟨l, el, hl⟩ := r1.ints e
      rw [el]
      refine ⟨l, ns, rfl, hl, by omega, fun x n nx hn => ⟨x, _, n, rfl, upd_same, by omega, fun ns' x' h1 h2 h3 nx' => ?_⟩⟩
      have R1 := R.mono s
      have e2 : ns' = sorU ns := rise_uniq _ _ h1 (uniqI_sorted _ (by
        have := List.pairwise_mergeSort (le := leI) (fun a b c h k => by simp only [leI, decide_eq_true_eq] at *; omega) (fun a b => by simp only [leI, Bool.or_eq_true, decide_eq_true_eq]; omega) ns
        exact this.imp fun h => by simpa [leI] using h)) fun k => by
          rw [h2 k]
          show _ ↔ k ∈ uniqI (ns.mergeSort leI)
          rw [uniqI_mem, (List.mergeSort_perm ns leI).mem_iff]
          simp
      rw [e2]
      have nn : H1 x' = none := by
        by_cases q : x' = x
        · rw [q]; exact nx
        · rw [upd_ne q] at nx'; exact nx'
      have s2 : Same H1 (upd (upd H1 x (SetO X.w x (fun j => decide (j ∈ ns)) n)) x' (.lst ((sorU ns).map V.int))) := (Same.new nx).trans (Same.new nx')
      exact z _ _ (s.trans s2) ⟨x', _, rfl, s.free nn, upd_same, .lst .ints⟩
    · exact z.elim
  · exact z.elim
@[simp] theorem fSortSet_eq {f : En → Res R} {env : En} : fSortSet f env = (f env).bind sortSetR := rfl
@[simp] theorem sortSetR_ints (r : R) (ns : List Int) (h : r.d = .lst (ns.map T.int)) : sortSetR r = if ns.length < 64 then .ok (.fr (.lst ((sorU ns).map T.int))) else .bad := by
  unfold sortSetR
  rw [h, ints_map]
end
end Tr
namespace Tr
open PySem L2
/-! ### texts: partition, a text many times, list(text); range in steps -/
def parO (a : Str) (y : R) : Res R := match y.d with
  | .str b => if (b.length == 0) = false ∧ a.length ≤ sizeLine ∧ [(Txt.partition a b).1, (Txt.partition a b).2.1, (Txt.partition a b).2.2].all PyData.strOk = true then .ok (.sh (.tup [.str (Txt.partition a b).1, .str (Txt.partition a b).2.1, .str (Txt.partition a b).2.2])) else .bad
  | _ => .bad
section
variable {X : Cx} {EX : L2.St → XK} {o e : Expr} {f g : En → Res R} {apos pos : Pos}
theorem ej_part (ho : EJ X EX o f) (he : EJ X EX e g) (hs : starEach [e] X.env = [(false, eval e X.env)] := by rfl) (hbase : attributeBase o "partition" X.env (eval o X.env) = eval o X.env := by rfl) (hline : (apos.endLine == pos.line) = true := by rfl) :
    EJ X EX (.Call (.Attribute o "partition" apos) [e] [] pos) (stM parO f g) := by
  obtain ⟨t, pe, i⟩ := ho.ex
  obtain ⟨t', pe', i'⟩ := he.ex
  refine ⟨⟨_, pe_partition pe pe' hs hbase hline, stM_core i i' fun B H0 O env σ H H2 Q a r2 w R s ⟨H1, s1, s2, rr⟩ p => ?_⟩⟩
  unfold parO at p
  split at p
  · rename_i b e2
    split at p
    · rename_i c
      refine ⟨a, b, rfl, by rw [rr.str e2], c.1, c.2.1, fun q nq => p _ _ (s.trans (Same.new nq)) ?_⟩
      have z := c.2.2
      simp only [List.all_cons, List.all_nil, Bool.and_true, Bool.and_eq_true] at z
      refine Rp.tup (us := [.str (Txt.partition a b).1, .str (Txt.partition a b).2.1, .str (Txt.partition a b).2.2]) upd_same (Rel.ex_new (R.mono s) nq) rfl fun n t u a' b' => ?_
      match n with
      | 0 => cases a'; cases b'; exact Rp.str _ z.1
      | 1 => cases a'; cases b'; exact Rp.str _ z.2.1
      | 2 => cases a'; cases b'; exact Rp.str _ z.2.2
      | n + 3 => simp at a'
    · exact p.elim
  · exact p.elim
end
/-- a text, or none -/
def mulRS (x y : R) : Res R := match x.d, y.d with
  | .str a, .int k => if a.length ≤ sizeLine ∧ PyData.strOk a = true ∧ (k = 0 ∨ k = 1) then .ok (.sh (.str (if k = 1 then a else Str.empty))) else .bad
  | _, _ => mulR x y
def rMulS : R2 := fun x y H Q => rMul x y H Q ∨ ∃ a k, x = .str a ∧ y = .int k ∧ (k = 0 ∨ k = 1) ∧ Q (.str (if k = 1 then a else Str.empty)) H
section
variable {X : Cx}
theorem opr_mulS : OpR X (binaryOp .Mult) rMulS := by
  intro pins s σ H x y v u Q I rx ry h
  rcases h with h | ⟨a, k, rfl, rfl, hk, q⟩
  · exact opr_mul pins s σ H x y v u Q I rx ry h
  · obtain ⟨t, rfl⟩ := rx
    obtain ⟨t', rfl⟩ := ry
    refine SB.mul ⟨?_, fun h1 h2 => ?_, fun h1 h2 => ?_⟩ fun t' tk => ⟨.str (Txt.mul a k), H, I.tok _, ⟨_, rfl⟩, ?_⟩
    · rcases hk with rfl | rfl <;> decide
    · rcases hk with rfl | rfl
      · omega
      · simp at h2
    · rcases hk with rfl | rfl
      · omega
      · simp at h2
    · rcases hk with rfl | rfl
      · exact q
      · exact q
theorem opi_mulS : OpI X rMulS mulRS := by
  intro B H0 O env σ Hs H x y v w Q xc R s rx ry p
  unfold mulRS at p
  split at p
  · rename_i a k e1 e2
    split at p
    · rename_i c
      refine .inr ⟨a, k, rx.str e1, ry.int e2, c.2.2, p _ H (Same.refl H) ?_⟩
      refine Rp.str _ ?_
      split
      · exact c.2.1
      · decide +kernel
    · exact p.elim
  · exact .inl (opi_mul B H0 O env σ Hs H x y v w Q xc R s rx ry p)
theorem vals_get : ∀ (us : List V) (vs : List Value), us.length = vs.length → (∀ (i : Nat) (u : V) (v : Value), us[i]? = some u → vs[i]? = some v → RelV u v) → Vals us vs
  | [], [], _, _ => .nil
  | [], _ :: _, h, _ => by simp at h
  | _ :: _, [], h, _ => by simp at h
  | u :: us, v :: vs, h, g => .cons (g 0 u v rfl rfl) (vals_get us vs (by simpa using h) fun i u v a b => g (i + 1) u v (by simpa using a) (by simpa using b))
def rListS : List V → Hp → VK → Prop := fun xs H Q => ∃ a : Str, xs = [.str a] ∧ a.length ≤ 10000 ∧ ∀ p, H p = none → Q (.ref p) (upd H p (.lst (a.cps.toList.map fun c => V.str ⟨#[c]⟩)))
theorem cr_listS (hc : X.calm = true) : CallR X (.type "list") rListS := by
  intro pins s σ H xs us Q I r h
  obtain ⟨a, rfl, hl, q⟩ := h
  obtain ⟨t, rfl⟩ : ∃ t, us = [Value.str a t] := by
    cases r with
    | cons r1 r2 =>
      cases r2
      obtain ⟨t, rfl⟩ := r1
      exact ⟨t, rfl⟩
  have sz : a.cps.size ≤ sizeLine := by have : a.length = a.cps.size := rfl; rw [sizeLine_eq]; omega
  refine call_list_str (I.ok.hd hc) a t (fun h' tk acc' c' hk hg hi => ?_) sz
  have v : Vals (a.cps.toList.map fun c => V.str ⟨#[c]⟩) acc'.toList := by
    refine vals_get _ _ (by simp [hi.1]) fun i u v h1 h2 => ?_
    rw [List.getElem?_map, Array.getElem?_toList] at h1
    rw [Array.getElem?_toList] at h2
    obtain ⟨c, t, e1, e2⟩ := hi.2 i v h2
    rw [e1] at h1
    cases h1
    exact ⟨t, e2⟩
  exact ⟨.ref _, upd H s.heap.objs.size (.lst (a.cps.toList.map fun c => V.str ⟨#[c]⟩)), I.laid (t' := tk) (fun b u e => hk b u e) (Nat.le_refl _) ⟨by rw [List.length_map, Array.length_toList]; exact sz, acc'.toList, c', v, by simpa using hg⟩, rfl, q _ (I.hok.fresh (Nat.le_refl _))⟩
def listRS : List R → Res R
  | [x] => match x.d with
    | .str a => if a.length ≤ 10000 ∧ PyData.strOk a = true then .ok (.fr (.lst (a.cps.toList.map fun c => T.str ⟨#[c]⟩))) else .bad
    | _ => .bad
  | _ => .bad
theorem calli_listS : CallI X rListS listRS := by
  intro B H0 O env σ Hs H rs vs Q xc R s rx p
  unfold listRS at p
  split at p
  · obtain ⟨v, rfl, r1⟩ := rx.one
    split at p
    · rename_i a e
      rw [r1.str e]
      split at p
      · rename_i c
        refine ⟨a, rfl, c.1, fun q nq => p _ _ (Same.new nq) (RR.newL R s ⟨by simp, fun i t u a' b' => ?_⟩ nq)⟩
        rw [List.getElem?_map] at a' b'
        cases ec : a.cps.toList[i]? with
        | none => rw [ec] at a'; cases a'
        | some d =>
          rw [ec] at a' b'
          cases a'
          cases b'
          exact Rp.str _ (strOk_of (l := [d]) fun x hx => by
            obtain rfl : x = d := by simpa using hx
            exact strOk_mem c.2 (by
              have := List.mem_of_getElem? ec
              simpa using this))
      · exact p.elim
    · exact p.elim
  · exact p.elim
end
/-! range(a, b, c) -/
def rng3N (i j c : Int) : Nat := ((j - i + c - 1) / c).toNat
def rngC (i c : Int) (n : Nat) : List T := (List.range n).map fun k : Nat => T.int (i + (k : Nat) * c)
instance (i j c : Int) (n : Nat) : Decidable (RgC i j c n) := by unfold RgC; infer_instance
def i3R (x y z : R) : Res (List T) := match x.d, y.d, z.d with
  | .int i, .int j, .int c => if RgC i j c (rng3N i j c) then .ok (rngC i c (rng3N i j c)) else .bad
  | _, _, _ => .bad
@[simp] def iR3 (f g h : En → Res R) (env : En) : Res (List T) := (f env).bind fun x => (g env).bind fun y => (h env).bind fun z => i3R x y z
section
variable {X : Cx} {EX : L2.St → XK} {tg e e2 e3 : Expr} {f g h : En → Res R} {p pos : Pos}
theorem wk_rngC {K : PySem.W.Frag} {Y : Xs} {L H1 : Hp} {i c : Int} {n : Nat} : Wk K (Itc i c n) Y L H1 (rngC i c n) := fun k H Y' kp sl th => by
  have len : (rngC i c n).length = n := by simp [rngC]
  rw [len]
  refine ⟨fun hi => ⟨hi, fun x H' y => ?_⟩, fun hi => hi⟩
  obtain ⟨e, y⟩ := y
  subst e y
  refine ⟨Same.refl _, fun t et => ?_⟩
  unfold rngC at et
  rw [List.getElem?_map, List.getElem?_range hi] at et
  cases et
  exact .int _
theorem fj_range3 (hg : Gl X "range") (hm : X.mg "range" = none) (ha : EJ X EX e f) (hb : EJ X EX e2 g) (hc : EJ X EX e3 h) (hs : starEach [e, e2, e3] X.env = [(false, eval e X.env), (false, eval e2 X.env), (false, eval e3 X.env)] := by rfl) (hs2 : starEach [e2, e3] X.env = [(false, eval e2 X.env), (false, eval e3 X.env)] := by rfl) (hs3 : starEach [e3] X.env = [(false, eval e3 X.env)] := by rfl) (hpl : (backTo pos (starEach [e2, e3] X.env)).any (·.1) = false := by rfl) :
    FJ X EX tg (.Call (.Name "range" p) [e, e2, e3] [] pos) (iR3 f g h) := by
  obtain ⟨t, pe, i⟩ := ha.ex
  obtain ⟨t', pe', i'⟩ := hb.ex
  obtain ⟨t3, pe3, i3⟩ := hc.ex
  refine ⟨⟨_, pi_range3 hg hm (pa_cons pe (pa_cons pe' (pa_cons pe3 pa_nil hs3) (by rw [hs2, hs3])) (by rw [hs, hs2])) (by rw [hs, hs2]) hpl, fun B H0 O env σ H Q R p => ?_⟩⟩
  refine i B H0 O env σ H _ R (p.bind.mono (fun _ _ x => x) fun r q v H1 s r1 => ?_)
  refine i' B H0 O env σ H1 _ (R.mono s) ((q.bind.up s).mono (fun _ _ x => x) fun r' q2 w H2 s2 r2 => ?_)
  refine i3 B H0 O env σ H2 _ ((R.mono s).mono s2) ((q2.bind.up (s.trans s2)).mono (fun _ _ x => x) fun r'' q3 z H3 s3 r3 => ?_)
  unfold i3R at q3
  split at q3
  · rename_i a b c ea eb ec
    split at q3
    · rename_i cc
      exact ⟨a, b, c, _, by rw [r1.int ea, r2.int eb, r3.int ec], cc, q3 _ H3 (s.trans (s2.trans s3)) wk_rngC⟩
    · exact q3.elim
  · exact q3.elim
end
end Tr
namespace Tr
open PySem L2
/-! ### own dicts: get, put, in, list(d); any; x = xs.pop()[k] -/
section
variable {κ β : Type} [DecidableEq κ]
def fndK (l : List (κ × β)) (k : κ) : Option β := (l.find? fun kv => decide (kv.1 = k)).map (·.2)
def putD (l : List (κ × β)) (k : κ) (v : β) : List (κ × β) :=
  if (l.any fun kv => decide (kv.1 = k)) = true then l.map (fun kv => if kv.1 = k then (kv.1, v) else kv) else l ++ [(k, v)]
theorem any_keys (l : List (κ × β)) (k : κ) : (l.any fun kv => decide (kv.1 = k)) = ((l.map (·.1)).any fun x => decide (x = k)) := by
  rw [List.any_map]; rfl
end
def T.keys : List T → Option (List Key)
  | [] => some []
  | t :: l => match t.key, T.keys l with
    | some k, some ks => some (k :: ks)
    | _, _ => none
section
variable {K : PySem.W.Frag} {B : Bs} {X : Xs} {H0 H H1 H2 H' : Hp} {O : Ow} {env : En} {σ : L2.St} {κ : Type} [DecidableEq κ]
theorem fndK_get : ∀ {l : List (κ × T)} {us : List (κ × V)} (_ : l.map (·.1) = us.map (·.1)) (_ : RpAll K H X (l.map (·.2)) (us.map (·.2))) (k : κ),
    (fndK l k = none ∧ valV us k = none) ∨ ∃ t v, fndK l k = some t ∧ valV us k = some v ∧ Rp K H X t v
  | [], [], _, _, k => .inl ⟨rfl, rfl⟩
  | [], _ :: _, e, _, k => by cases e
  | _ :: _, [], e, _, k => by cases e
  | p :: l, q :: us, e, r, k => by
    simp only [List.map_cons, List.cons.injEq] at e
    by_cases c : p.1 = k
    · refine .inr ⟨p.2, q.2, ?_, valV_pos (e.1 ▸ c), r.head⟩
      simp [fndK, List.find?_cons, c]
    · have c' : ¬ q.1 = k := fun z => c (e.1.trans z)
      rw [valV_neg c']
      have : fndK (p :: l) k = fndK l k := by simp [fndK, List.find?_cons, c]
      rw [this]
      exact fndK_get e.2 r.tail k
theorem putD_keys {l : List (κ × T)} {us : List (κ × V)} (e : l.map (·.1) = us.map (·.1)) (k : κ) (t : T) (v : V) : (putD l k t).map (·.1) = (putK us k v).map (·.1) := by
  unfold putD putK
  rw [any_keys l, any_keys us, e]
  split
  · rw [List.map_map, List.map_map]
    have h1 : ((fun x : κ × T => x.1) ∘ fun kv => if kv.1 = k then (kv.1, t) else kv) = (·.1) := by
      funext kv; simp only [Function.comp_apply]; split <;> rfl
    have h2 : ((fun x : κ × V => x.1) ∘ fun kv => if kv.1 = k then (kv.1, v) else kv) = (·.1) := by
      funext kv; simp only [Function.comp_apply]; split <;> rfl
    rw [h1, h2, e]
  · simp [e]
theorem putD_vals {l : List (κ × T)} {us : List (κ × V)} (e : l.map (·.1) = us.map (·.1)) (r : RpAll K H X (l.map (·.2)) (us.map (·.2))) (k : κ) {t : T} {v : V} (rv : Rp K H X t v) :
    RpAll K H X ((putD l k t).map (·.2)) ((putK us k v).map (·.2)) := by
  unfold putD putK
  rw [any_keys l, any_keys us, e]
  split
  · refine ⟨by simpa using r.1, fun i t' u' a b => ?_⟩
    rw [List.map_map, List.getElem?_map] at a b
    cases e1 : l[i]? with
    | none => rw [e1] at a; cases a
    | some p =>
      cases e2 : us[i]? with
      | none => rw [e2] at b; cases b
      | some q =>
        rw [e1] at a
        rw [e2] at b
        have ek : p.1 = q.1 := by
          have z1 : (l.map (·.1))[i]? = some p.1 := by rw [List.getElem?_map, e1]; rfl
          have z2 : (us.map (·.1))[i]? = some q.1 := by rw [List.getElem?_map, e2]; rfl
          rw [e, z2] at z1
          exact (Option.some.inj z1).symm
        simp only [Option.map_some, Option.some.injEq, Function.comp_apply] at a b
        by_cases c : p.1 = k
        · rw [if_pos c] at a
          rw [if_pos (ek ▸ c)] at b
          cases a; cases b
          exact rv
        · rw [if_neg c] at a
          rw [if_neg (fun z => c (ek.trans z))] at b
          cases a; cases b
          exact r.2 i _ _ (by rw [List.getElem?_map, e1]; rfl) (by rw [List.getElem?_map, e2]; rfl)
  · simp only [List.map_append, List.map_cons, List.map_nil]
    exact r.append (.cons rv .nil)
theorem putD_len {l : List (κ × T)} {us : List (κ × V)} (e : l.map (·.1) = us.map (·.1)) : l.length = us.length := by simpa using congrArg List.length e
theorem RR.dik {ts : List (Key × T)} {r : R} {v : V} (h : RR K B O H H' r v) (e : r.d = .dik ts) : ∃ a us, v = .ref a ∧ H' a = some (.dK us) ∧ ts.map (·.1) = us.map (·.1) ∧ RpAll K H' (Ex B O) (ts.map (·.2)) (us.map (·.2)) := by
  cases r with
  | sh d =>
    cases e
    cases h with
    | dik hq hn hl hz hs => exact ⟨_, _, rfl, hq, hl, hz, hs⟩
  | fr d =>
    cases e
    obtain ⟨p, ho, e, n, h1, h2⟩ := h
    cases h2 with
    | dik h3 h2 => exact ⟨p, _, e, h1, h3, h2.anti fun _ z => .inl z⟩
  | bo i d =>
    cases e
    obtain ⟨a, ho, e, n, h1, h2⟩ := h
    cases h2 with
    | dik h3 h2 => exact ⟨a, _, n, h1, h3, h2⟩
  | vw d =>
    cases e
    obtain ⟨a, ho, _, n, h1, h2⟩ := h
    cases h2 with
    | dik h3 h2 => exact ⟨a, _, n, h1, h3, h2⟩
theorem RR.dit {ts : List (List Key × T)} {r : R} {v : V} (h : RR K B O H H' r v) (e : r.d = .dit ts) : ∃ a us, v = .ref a ∧ H' a = some (.dT us) ∧ ts.map (·.1) = us.map (·.1) ∧ RpAll K H' (Ex B O) (ts.map (·.2)) (us.map (·.2)) := by
  cases r with
  | sh d =>
    cases e
    cases h with
    | dit hq hn hl hz hs => exact ⟨_, _, rfl, hq, hl, hz, hs⟩
  | fr d =>
    cases e
    obtain ⟨p, ho, e, n, h1, h2⟩ := h
    cases h2 with
    | dit h3 h2 => exact ⟨p, _, e, h1, h3, h2.anti fun _ z => .inl z⟩
  | bo i d =>
    cases e
    obtain ⟨a, ho, e, n, h1, h2⟩ := h
    cases h2 with
    | dit h3 h2 => exact ⟨a, _, n, h1, h3, h2⟩
  | vw d =>
    cases e
    obtain ⟨a, ho, _, n, h1, h2⟩ := h
    cases h2 with
    | dit h3 h2 => exact ⟨a, _, n, h1, h3, h2⟩
theorem keys_vals : ∀ {ts : List T} {us : List V} {ks : List Key}, RpAll K H X ts us → T.keys ts = some ks → us = ks.map kV
  | [], [], ks, _, e => by cases e; rfl
  | [], _ :: _, _, r, _ => by cases r.1
  | _ :: _, [], _, r, _ => by cases r.1
  | t :: ts, u :: us, ks, r, e => by
    unfold T.keys at e
    split at e
    · rename_i k l e1 e2
      cases e
      rw [rp_key r.head e1, keys_vals r.tail e2]
      rfl
    · cases e
/-- d[k], perhaps nothing; none: not to be spoken of -/
def dgT (d k : T) : Option (Option T) := match d with
  | .dik l => k.key.map fun k => fndK l k
  | .dit l => match k with
    | .tup ts => (T.keys ts).map fun k => fndK l k
    | _ => none
  | _ => none
theorem dgT_ok {Ha Hb : Hp} {x y : R} {v w : V} {r : Option T} (rx : RR K B O Ha H1 x v) (s : Same H1 H2) (ry : RR K B O Hb H2 y w) (e : dgT x.d y.d = some r) :
    ∃ a o, v = .ref a ∧ L2.IsD H1 a ∧ DGet H2 a w o ∧ ((r = none ∧ o = none) ∨ ∃ t u, r = some t ∧ o = some u ∧ Rp K H2 (Ex B O) t u) := by
  unfold dgT at e
  split at e
  · rename_i l el
    obtain ⟨a, us, rfl, h1, h2, h3⟩ := rx.dik el
    cases ek : y.d.key with
    | none => rw [ek] at e; cases e
    | some k =>
      rw [ek] at e
      cases e
      have ew : w = kV k := rp_key ry.rp0 ek
      refine ⟨a, _, rfl, .inl ⟨us, .inl h1⟩, by rw [ew]; exact DGet.k (s _ _ h1), ?_⟩
      rcases fndK_get h2 (h3.same s) k with ⟨q1, q2⟩ | ⟨t, u, q1, q2, q3⟩
      · exact .inl ⟨q1, q2⟩
      · exact .inr ⟨t, u, q1, q2, q3⟩
  · rename_i l el
    split at e
    · rename_i ts et
      cases ek : T.keys ts with
      | none => rw [ek] at e; cases e
      | some k =>
        rw [ek] at e
        cases e
        obtain ⟨a, us, rfl, h1, h2, h3⟩ := rx.dit el
        obtain ⟨b, ws, rfl, h4, h5⟩ := ry.tup et
        rw [keys_vals h5 ek] at h4
        refine ⟨a, _, rfl, .inr ⟨us, .inl h1⟩, DGet.t (s _ _ h1) h4, ?_⟩
        rcases fndK_get h2 (h3.same s) k with ⟨q1, q2⟩ | ⟨t, u, q1, q2, q3⟩
        · exact .inl ⟨q1, q2⟩
        · exact .inr ⟨t, u, q1, q2, q3⟩
    · cases e
  · cases e
end
/-- d[k] -/
def dgR (x y : R) : Res R := match dgT x.d y.d with
  | some (some t) => .ok (.sh t)
  | _ => .bad
/-- k in d -/
def dinR (y x : R) : Res R := match dgT x.d y.d with
  | some r => .ok (.sh (.bl r.isSome))
  | none => .bad
/-- d.get(k, z) -/
def dg2R (x y z : R) : Res R := match dgT x.d y.d with
  | some (some t) => .ok (.sh t)
  | some none => if z.kp = true then .ok (.sh z.d) else .bad
  | none => .bad
def dg1R (x y : R) : Res R := match dgT x.d y.d with
  | some (some t) => .ok (.sh t)
  | some none => .ok (.sh .non)
  | none => .bad
def T.isD : T → Bool
  | .dik _ => true
  | .dit _ => true
  | _ => false
def fDg1 (f g : En → Res R) (env : En) : Res R := (f env).bind fun x => if x.d.isD = true then (g env).bind fun y => dg1R x y else .bad
def fDg2 (f g h : En → Res R) (env : En) : Res R := (f env).bind fun x => if x.d.isD = true then (g env).bind fun y => (h env).bind fun z => dg2R x y z else .bad
def putDO (d k v : T) : Option T := match d with
  | .dik l => if l.length < sizeLine then k.key.map fun k => .dik (putD l k v) else none
  | .dit l => match k with
    | .tup ts => if l.length < sizeLine then (T.keys ts).map fun k => .dit (putD l k v) else none
    | _ => none
  | _ => none
/-- d[k] = e -/
def fPutD (i : Nat) (f k : En → Res R) (env : En) : Out := sOf f (fun r env => match env[i]? with
  | some (.ow d) => sOf k (fun y env => if r.kp = true then (match putDO d y.d r.d with
      | some d' => .nx (env.set i (.ow d'))
      | none => .bad) else .bad) env
  | _ => .bad) env
section
variable {X : Cx} {EX : L2.St → XK} {a b c e : Expr} {f g h u k : En → Res R} {pos pos' apos p : Pos} {x : Str}
theorem ej_dg (hu : X.A.units + 64 < cLine) (ha : EJ X EX a f) (hb : EJ X EX b g) (hs : NoSl b) : EJ X EX (.Subscript a b pos) (b2 dgR f g) := by
  obtain ⟨t, pe, i⟩ := ha.ex
  obtain ⟨t', pe', i'⟩ := hb.ex
  refine ⟨⟨_, pe_dget (by omega) pe pe' hs, fun B H0 O env σ H Q R p => ?_⟩⟩
  refine i B H0 O env σ H _ R (p.bind.mono (fun _ _ x => x) fun x q v H1 s r1 => ?_)
  refine i' B H0 O env σ H1 _ (R.mono s) ((q.bind.up s).mono (fun _ _ x => x) fun y q2 w H2 s2 r2 => ?_)
  unfold dgR at q2
  split at q2
  · rename_i t et
    obtain ⟨a, o, rfl, _, dg, z⟩ := dgT_ok r1 s2 r2 et
    rcases z with ⟨z, _⟩ | ⟨t2, u, z, rfl, ru⟩
    · cases z
    · cases z
      exact ⟨a, u, rfl, dg, q2 u H2 (s.trans s2) ru⟩
  · exact q2.elim
theorem ej_din (hu : X.A.units + 64 < cLine) (ha : EJ X EX a f) (hb : EJ X EX b g) (h1 : behindInMarks .In b = false := by first | exact nobehind _ (by decide) (by decide) | rfl) : EJ X EX (.Compare a [.In] [b] pos) (b2 dinR f g) := by
  obtain ⟨t, pe, i⟩ := ha.ex
  obtain ⟨t', pe', i'⟩ := hb.ex
  refine ⟨⟨_, pe_cmp (pc_din (by omega) pe pe') h1, fun B H0 O env σ H Q R p => ?_⟩⟩
  refine i B H0 O env σ H _ R (p.bind.mono (fun _ _ x => x) fun y q v H1 s r1 => ?_)
  refine i' B H0 O env σ H1 _ (R.mono s) ((q.bind.up s).mono (fun _ _ x => x) fun x q2 w H2 s2 r2 => ?_)
  unfold dinR at q2
  split at q2
  · rename_i r et
    obtain ⟨a, o, rfl, _, dg, z⟩ := dgT_ok r2 (Same.refl _) (r1.mono s2) et
    refine ⟨a, o, rfl, dg, q2 _ H2 (s.trans s2) ?_⟩
    rcases z with ⟨rfl, rfl⟩ | ⟨t2, u, rfl, rfl, ru⟩
    · exact Rp.bl _
    · exact Rp.bl _
  · exact q2.elim
theorem bj_din (hu : X.A.units + 64 < cLine) (ha : EJ X EX a f) (hb : EJ X EX b g) (h1 : behindInMarks .In b = false := by first | exact nobehind _ (by decide) (by decide) | rfl) : BJ X EX (.Compare a [.In] [b] pos) (c2 dinR f g) := by
  obtain ⟨t, pe, i⟩ := ha.ex
  obtain ⟨t', pe', i'⟩ := hb.ex
  refine ⟨⟨_, pt_cmp (pc_din (by omega) pe pe') h1, fun B H0 O env σ H Q R p => ?_⟩⟩
  refine i B H0 O env σ H _ R (p.bind.mono (fun _ _ x => x) fun y q v H1 s r1 => ?_)
  refine i' B H0 O env σ H1 _ (R.mono s) ((q.bind.up s).mono (fun _ _ x => x) fun x q2 w H2 s2 r2 => ?_)
  unfold dinR at q2
  split at q2
  · rename_i r et
    obtain ⟨a, o, rfl, _, dg, z⟩ := dgT_ok r2 (Same.refl _) (r1.mono s2) et
    refine ⟨a, o, rfl, dg, o.isSome, rfl, ?_⟩
    rcases z with ⟨rfl, rfl⟩ | ⟨t2, u, rfl, rfl, ru⟩
    · exact q2 H2 (s.trans s2)
    · exact q2 H2 (s.trans s2)
  · exact q2.elim
theorem isD_ok {K : PySem.W.Frag} {B : Bs} {O : Ow} {H H1 : Hp} {x : R} {v : V} (r1 : RR K B O H H1 x v) (e : x.d.isD = true) : ∃ a, v = .ref a ∧ L2.IsD H1 a := by
  cases el : x.d with
  | dik l =>
    obtain ⟨a, us, rfl, h1, h2, h3⟩ := r1.dik el
    exact ⟨a, rfl, .inl ⟨us, .inl h1⟩⟩
  | dit l =>
    obtain ⟨a, us, rfl, h1, h2, h3⟩ := r1.dit el
    exact ⟨a, rfl, .inr ⟨us, .inl h1⟩⟩
  | _ => rw [el] at e; cases e
theorem ej_dg1 (hu : X.A.units + 64 < cLine) (ha : EJ X EX a f) (hb : EJ X EX b g) (m : M1 X a "get" apos b pos := by exact ⟨rfl, rfl, rfl, rfl⟩) : EJ X EX (.Call (.Attribute a "get" apos) [b] [] pos) (fDg1 f g) := by
  obtain ⟨t, pe, i⟩ := ha.ex
  obtain ⟨t', pe', i'⟩ := hb.ex
  refine ⟨⟨_, pe_dget1 (by omega) pe pe' m, fun B H0 O env σ H Q R p => ?_⟩⟩
  refine i B H0 O env σ H _ R (p.bind.mono (fun _ _ x => x) fun x q v H1 s r1 => ?_)
  split at q
  · rename_i isd
    obtain ⟨a, rfl, h1⟩ := isD_ok r1 isd
    refine ⟨a, rfl, h1, ?_⟩
    refine i' B H0 O env σ H1 _ (R.mono s) ((q.bind.up s).mono (fun _ _ x => x) fun y q2 w H2 s2 r2 => ?_)
    unfold dg1R at q2
    split at q2
    · rename_i t et
      obtain ⟨a', o, e1, _, dg, z⟩ := dgT_ok r1 s2 r2 et
      cases e1
      rcases z with ⟨z, _⟩ | ⟨t2, u, z, rfl, ru⟩
      · cases z
      · cases z
        exact ⟨_, dg, q2 u H2 (s.trans s2) ru⟩
    · rename_i et
      obtain ⟨a', o, e1, _, dg, z⟩ := dgT_ok r1 s2 r2 et
      cases e1
      rcases z with ⟨z, rfl⟩ | ⟨t2, u, z, rfl, ru⟩
      · exact ⟨_, dg, q2 .non H2 (s.trans s2) Rp.non⟩
      · cases z
    · exact q2.elim
  · exact q.elim
theorem ej_dg2 (hu : X.A.units + 64 < cLine) (ha : EJ X EX a f) (hb : EJ X EX b g) (hc : EJ X EX c h) (m : M2 X a "get" apos b c pos := by exact ⟨rfl, rfl, rfl, rfl⟩) : EJ X EX (.Call (.Attribute a "get" apos) [b, c] [] pos) (fDg2 f g h) := by
  obtain ⟨t, pe, i⟩ := ha.ex
  obtain ⟨t', pe', i'⟩ := hb.ex
  obtain ⟨t3, pe3, i3⟩ := hc.ex
  refine ⟨⟨_, pe_dget2 (by omega) pe pe' pe3 m, fun B H0 O env σ H Q R p => ?_⟩⟩
  refine i B H0 O env σ H _ R (p.bind.mono (fun _ _ x => x) fun x q v H1 s r1 => ?_)
  split at q
  · rename_i isd
    obtain ⟨a, rfl, h1⟩ := isD_ok r1 isd
    refine ⟨a, rfl, h1, ?_⟩
    refine i' B H0 O env σ H1 _ (R.mono s) ((q.bind.up s).mono (fun _ _ x => x) fun y q2 w H2 s2 r2 => ?_)
    refine i3 B H0 O env σ H2 _ ((R.mono s).mono s2) ((q2.bind.up (s.trans s2)).mono (fun _ _ x => x) fun z q3 w3 H3 s3 r3 => ?_)
    unfold dg2R at q3
    split at q3
    · rename_i t et
      obtain ⟨a', o, e1, _, dg, z⟩ := dgT_ok r1 (s2.trans s3) (r2.mono s3) et
      cases e1
      rcases z with ⟨z, _⟩ | ⟨t2, u, z, rfl, ru⟩
      · cases z
      · cases z
        exact ⟨_, dg, q3 u H3 (s.trans (s2.trans s3)) ru⟩
    · rename_i et
      obtain ⟨a', o, e1, _, dg, z⟩ := dgT_ok r1 (s2.trans s3) (r2.mono s3) et
      cases e1
      split at q3
      · rename_i kp
        rcases z with ⟨z, rfl⟩ | ⟨t2, u, z, rfl, ru⟩
        · exact ⟨_, dg, q3 w3 H3 (s.trans (s2.trans s3)) (r3.rp ((R.mono s).mono s2) kp)⟩
        · cases z
      · exact q3.elim
    · exact q3.elim
  · exact q.elim
theorem sj_putD (hu : X.A.units + 64 < cLine) (i : Nat) (he : EJ X EX e u) (hk : EJ X EX c k) (hN : X.N[i]? = some x := by rfl) (hv : Vis X.env.scope x := by first | exact Or.inl rfl | exact Or.inr (Or.inl rfl) | exact Or.inr (Or.inr rfl)) (hd : (x == ("__debug__" : Str)) = false := by decide) (hcd : (x == ("__classdict__" : Str)) = false := by decide)
    (hs : swapsWith e (some (.Subscript (.Name x p) c pos')) pos.line X.env = pure false := by rfl) :
    SJ X EX (.Assign [.Subscript (.Name x p) c pos'] e pos) (fPutD i u k) := by
  obtain ⟨t, pe, kk⟩ := he.ex
  obtain ⟨t2, pe2, kk2⟩ := hk.ex
  have q1 : PE X (.Name x p) (tVar i) := pe_var hN hv hd hcd
  refine ⟨⟨_, ps_dput (by omega) q1 pe2 pe hs, fun B H0 O env σ H D R q => ?_⟩⟩
  refine kk B H0 O env σ H _ R ((sOf_post R q).mono (fun _ _ x => x) fun r q v H1 s r1 => ?_)
  split at q
  · rename_i d hl
    have R1 := R.mono s
    obtain ⟨a, ho, h1, h2, h3, h4⟩ := R1.slot i _ hl
    refine ⟨_, h2, ?_⟩
    refine kk2 B H0 O env σ H1 _ R1 ((sOf_post R1 ((show SPost X EX B H0 O H D _ from q).up (Same.keepB s))).mono (fun _ _ x => x) fun y q2 w H2 s2 r2 => ?_)
    split at q2
    · rename_i kp
      split at q2
      · rename_i d' ed
        have R2 := R1.mono s2
        have rv := (r1.mono s2).rp R kp
        unfold putDO at ed
        split at ed
        · rename_i l
          split at ed
          · rename_i hlen
            cases ek : y.d.key with
            | none => rw [ek] at ed; cases ed
            | some k =>
              rw [ek] at ed
              cases ed
              cases h4 with
              | dik e4 h4 =>
                have ew : w = kV k := rp_key r2.rp0 ek
                refine ⟨a, _, rfl, by rw [ew]; exact DPut.k (s2 _ _ h3) (by rw [← putD_len e4]; exact hlen), ?_⟩
                obtain ⟨R3, k3⟩ := R2.change hl h1 (.dik (putD_keys e4 k r.d v) (putD_vals e4 (h4.same s2) k rv))
                exact q2 O σ _ R3 ((Same.keepB s2).trans k3)
          · cases ed
        · rename_i l
          split at ed
          · rename_i ts et
            split at ed
            · rename_i hlen
              cases ek : T.keys ts with
              | none => rw [ek] at ed; cases ed
              | some k =>
                rw [ek] at ed
                cases ed
                cases h4 with
                | dit e4 h4 =>
                  obtain ⟨b, ws, rfl, h5, h6⟩ := r2.tup et
                  rw [keys_vals h6 ek] at h5
                  refine ⟨a, _, rfl, DPut.t (s2 _ _ h3) h5 (by rw [← putD_len e4]; exact hlen), ?_⟩
                  obtain ⟨R3, k3⟩ := R2.change hl h1 (.dit (putD_keys e4 k r.d v) (putD_vals e4 (h4.same s2) k rv))
                  exact q2 O σ _ R3 ((Same.keepB s2).trans k3)
            · cases ed
          · cases ed
        · cases ed
      · exact q2.elim
    · exact q2.elim
  · exact q.elim
end
/-! list(d) -/
def keyT : Key → T
  | .inl i => .int i
  | .inr x => .str x
def listKR : List R → Res R
  | [x] => match x.d with
    | .dik l => if (l.all fun p => match p.1 with | .inl _ => true | .inr x => PyData.strOk x) = true then .ok (.fr (.lst (l.map fun p => keyT p.1))) else .bad
    | _ => .bad
  | _ => .bad
theorem calli_listK {X : Cx} : CallI X rListD listKR := by
  intro B H0 O env σ Hs H rs vs Q xc R s rx p
  unfold listKR at p
  split at p
  · obtain ⟨v, rfl, r1⟩ := rx.one
    split at p
    · rename_i l e
      split at p
      · rename_i ok
        obtain ⟨a, us, rfl, h1, h2, h3⟩ := r1.dik e
        unfold rListD
        refine ⟨a, us, rfl, h1, fun q nq => p _ _ (Same.new nq) (RR.newL R s ⟨by simpa using congrArg List.length h2, fun i t u a' b' => ?_⟩ nq)⟩
        rw [List.getElem?_map] at a' b'
        cases e1 : l[i]? with
        | none => rw [e1] at a'; cases a'
        | some p1 =>
          cases e2 : us[i]? with
          | none => rw [e2] at b'; cases b'
          | some q1 =>
            rw [e1] at a'
            rw [e2] at b'
            have ek : p1.1 = q1.1 := by
              have z1 : (l.map (·.1))[i]? = some p1.1 := by rw [List.getElem?_map, e1]; rfl
              have z2 : (us.map (·.1))[i]? = some q1.1 := by rw [List.getElem?_map, e2]; rfl
              rw [h2, z2] at z1
              exact (Option.some.inj z1).symm
            cases a'; cases b'
            have okp := List.all_eq_true.mp ok p1 (List.mem_of_getElem? e1)
            show Rp X.K H _ (keyT p1.1) (kV q1.1)
            rw [← ek]
            cases h : p1.1 with
            | inl j => exact .int j
            | inr y =>
              rw [h] at okp
              exact .str y okp
      · exact p.elim
    · exact p.elim
  · exact p.elim
/-! any(list of truths) -/
def T.asBl : T → Option Bool
  | .bl b => some b
  | _ => none
def anyR : List R → Res R
  | [x] => match x.d with
    | .lst l => (match l.mapM T.asBl with
      | some bs => .ok (.sh (.bl (bs.any id)))
      | none => .bad)
    | _ => .bad
  | _ => .bad
theorem asBl_all {K : PySem.W.Frag} {H : Hp} {Y : Xs} : ∀ {ts : List T} {us : List V} {bs : List Bool}, RpAll K H Y ts us → ts.mapM T.asBl = some bs → us = bs.map V.bl
  | [], [], bs, _, e => by cases e; rfl
  | [], _ :: _, _, r, _ => by cases r.1
  | _ :: _, [], _, r, _ => by cases r.1
  | t :: ts, u :: us, bs, r, e => by
    rw [List.mapM_cons] at e
    cases e1 : t.asBl with
    | none => rw [e1] at e; cases e
    | some b =>
      cases e2 : ts.mapM T.asBl with
      | none => rw [e1, e2] at e; cases e
      | some bs' =>
        rw [e1, e2] at e
        cases e
        have : t = .bl b := by cases t <;> cases e1; rfl
        rw [this] at r
        rw [rp_bl r.head, asBl_all r.tail e2]
        rfl
theorem calli_any {X : Cx} : CallI X (rAny X.K) anyR := by
  intro B H0 O env σ Hs H rs vs Q xc R s rx p
  unfold anyR at p
  split at p
  · obtain ⟨v, rfl, r1⟩ := rx.one
    split at p
    · rename_i l e
      split at p
      · rename_i bs eb
        obtain ⟨a, us, rfl, e2, e3⟩ := r1.lst e
        rw [asBl_all e3 eb] at e2
        exact ⟨a, bs, rfl, SqL.of e2, p _ H (Same.refl H) (Rp.bl _)⟩
      · exact p.elim
    · exact p.elim
  · exact p.elim
/-! y = xs.pop()[k] -/
def fPopIx (j i : Nat) (k : En → Res R) (env : En) : Out := match env[i]? with
  | some (.ow (.lst l)) => (match l.getLast? with
    | some t => sOf k (fun y env => match ixR (.sh t) y with
      | .ok (.sh tt) => .nx (env.set j (.fz tt))
      | _ => .bad) (env.set i (.ow (.lst l.dropLast)))
    | none => .bad)
  | _ => .bad
section
variable {X : Cx} {EX : L2.St → XK} {c : Expr} {k : En → Res R} {p p2 pos pos' pos2 apos : Pos} {i j : Nat} {x y : Str}
theorem sj_popIx (j i : Nat) (hk : EJ X EX c k) (hnd : X.N.Nodup) (hs0 : PlainIx c) (hN : X.N[i]? = some x := by rfl) (hv : Vis X.env.scope x := by first | exact Or.inl rfl | exact Or.inr (Or.inl rfl) | exact Or.inr (Or.inr rfl)) (hd : (x == ("__debug__" : Str)) = false := by decide) (hcd : (x == ("__classdict__" : Str)) = false := by decide)
    (hi : X.N[j]? = some y := by rfl) (hx : Loc X.env.scope y := by first | exact Or.inl rfl | exact Or.inr rfl)
    (hs : swapsWith (.Subscript (.Call (.Attribute (.Name x p) "pop" apos) [] [] pos') c pos2) (some (.Name y p2)) pos.line X.env = pure false := by rfl)
    (hf : X.fn y = true ∨ X.env.scope.names.lookup y = some .local := by first | exact .inl rfl | exact .inr rfl)
    (hb : attributeBase (.Name x p) "pop" X.env (eval (.Name x p) X.env) = eval (.Name x p) X.env := by rfl) (hl : (apos.endLine == pos'.line) = true := by rfl) :
    SJ X EX (.Assign [.Name y p2] (.Subscript (.Call (.Attribute (.Name x p) "pop" apos) [] [] pos') c pos2) pos) (fPopIx j i k) := by
  obtain ⟨t, pe, kk⟩ := hk.ex
  have q1 : PE X (.Name x p) (tVar i) := pe_var hN hv hd hcd
  refine ⟨⟨_, ps_set hnd hi hx (pe_ix ix_seq (pe_bm0 PySem.F.plainAttrs_list PySem.F.slot_list_pop PySem.F.type_list_pop mt_pop q1 hb hl) pe hs0) hs hf, fun B H0 O env σ H D R q => ?_⟩⟩
  unfold fPopIx at q
  split at q
  · rename_i l hl
    obtain ⟨a, us, h1, h2, h3, h4⟩ := own_lst R hl
    split at q
    · rename_i t et
      rw [List.getLast?_eq_getElem?] at et
      obtain ⟨w, e1, e2⟩ := h4.get et
      rw [h4.1] at e1
      refine ⟨_, h2, tyL h3, a, us, w, rfl, rfl, h3, e1, ?_⟩
      obtain ⟨R2, k2⟩ := R.change (d' := .lst l.dropLast) (ho' := .lst us.dropLast) hl h1 (.lst h4.dropLast)
      refine kk B H0 O _ σ _ _ R2 ((sOf_post R2 ((show SPost X EX B H0 O H D _ from q).up k2)).mono (fun _ _ x => x) fun y q3 v H3 s3 r3 => ?_)
      split at q3
      · rename_i tt ett
        refine opi_ix B H0 O _ σ _ H3 (.sh t) y w v _ (fun _ _ => True) R2 s3 (show Rp _ _ _ t w from (e2.keep k2).same s3) r3 ?_
        rw [ett]
        intro u H4 s4 r4
        have R4 := (R2.mono s3).mono s4
        obtain ⟨O', R5, k5, _⟩ := R4.store (r := .sh tt) (Same.refl _) r4 rfl j
        exact q3 O' _ _ R5 ((Same.keepB (s3.trans s4)).trans k5)
      · exact q3.elim
    · exact q.elim
  · exact q.elim
end
/-! ### simp forms -/
section
variable {env : En} {f g h u k : En → Res R} {x y z : R} {i j n : Nat}
def anyT (d : T) : Res R := anyR [.sh d]
@[simp] theorem anyR_eq : anyR [x] = anyT x.d := rfl
theorem mapM_bl {A : Type} (p : A → Bool) : ∀ l : List A, (l.map fun a => T.bl (p a)).mapM T.asBl = some (l.map p)
  | [] => rfl
  | a :: l => by rw [List.map_cons, List.mapM_cons, mapM_bl p l]; rfl
@[simp] theorem anyT_bl {A : Type} (p : A → Bool) (l : List A) : anyT (.lst (l.map fun a => T.bl (p a))) = .ok (.sh (.bl (l.any p))) := by
  show (match (l.map fun a => T.bl (p a)).mapM T.asBl with
      | some bs => Res.ok (R.sh (.bl (bs.any id)))
      | none => .bad) = _
  rw [mapM_bl]
  simp [List.any_map]
def encI (d : List (Int × Int)) : List (Key × T) := d.map fun e => (.inl e.1, .int e.2)
theorem fndK_I (t : Int) : ∀ d : List (Int × Int), fndK (encI d) (.inl t) = (fndK d t).map T.int
  | [] => rfl
  | e :: d => by
    have ih := fndK_I t d
    unfold fndK encI at ih ⊢
    rw [List.map_cons, List.find?_cons, List.find?_cons]
    by_cases c : e.1 = t
    · simp [c]
    · have c' : ¬ (Sum.inl e.1 : Key) = .inl t := fun z => c (Sum.inl.inj z)
      simp only [c, c', decide_false]
      exact ih
theorem putD_I (t v : Int) (d : List (Int × Int)) : putD (encI d) (.inl t) (T.int v) = encI (putD d t v) := by
  have ek : ((encI d).any fun kv => decide (kv.1 = (.inl t : Key))) = (d.any fun kv => decide (kv.1 = t)) := by
    unfold encI
    rw [List.any_map]
    congr 1
    funext e
    simp
  unfold putD
  rw [ek]
  split
  · unfold encI
    rw [List.map_map, List.map_map]
    congr 1
    funext e
    simp only [Function.comp_apply]
    by_cases c : e.1 = t
    · simp [c]
    · simp [c]
  · simp [encI]
theorem encI_len (d : List (Int × Int)) : (encI d).length = d.length := by simp [encI]
@[simp] theorem isD_dik (l : List (Key × T)) : T.isD (.dik l) = true := rfl
@[simp] theorem isD_dit (l : List (List Key × T)) : T.isD (.dit l) = true := rfl
@[simp] theorem fDg2_eq : fDg2 f g h env = (f env).bind fun x => if x.d.isD = true then (g env).bind fun y => (h env).bind fun z => dg2R x y z else .bad := rfl
@[simp] theorem fDg1_eq : fDg1 f g env = (f env).bind fun x => if x.d.isD = true then (g env).bind fun y => dg1R x y else .bad := rfl
@[simp] theorem dg2R_I (d : List (Int × Int)) (t v : Int) : dg2R (.bo n (.dik (encI d))) (.sh (.int t)) (.sh (.int v)) = .ok (.sh (.int ((fndK d t).getD v))) := by
  show (match (some (fndK (encI d) (.inl t)) : Option (Option T)) with
    | some (some t) => Res.ok (R.sh t)
    | some none => if R.kp (.sh (.int v)) = true then .ok (.sh (.int v)) else .bad
    | none => .bad) = _
  rw [fndK_I]
  cases fndK d t <;> rfl
theorem dgR_I (d : List (Int × Int)) (t v : Int) (e : fndK d t = some v) : dgR (.bo n (.dik (encI d))) (.sh (.int t)) = .ok (.sh (.int v)) := by
  show (match (some (fndK (encI d) (.inl t)) : Option (Option T)) with
    | some (some t) => Res.ok (R.sh t)
    | _ => .bad) = _
  rw [fndK_I, e]
  rfl
theorem dinR_I (d : List (Int × Int)) (t : Int) : dinR (.sh (.int t)) (.bo n (.dik (encI d))) = .ok (.sh (.bl (fndK d t).isSome)) := by
  show (match (some (fndK (encI d) (.inl t)) : Option (Option T)) with
    | some r => Res.ok (R.sh (.bl r.isSome))
    | none => .bad) = _
  rw [fndK_I]
  cases fndK d t <;> rfl
def putE (s : Option Sl) (a b : Res R) (i : Nat) (env : En) : Out := a.out (fun r env => match s with
  | some (.ow d) => b.out (fun y env => if r.kp = true then (match putDO d y.d r.d with
      | some d' => .nx (env.set i (.ow d'))
      | none => .bad) else .bad) env
  | _ => .bad) env
@[simp] theorem fPutD_eq : fPutD i f k env = putE env[i]? (f env) (k env) i env := by
  unfold fPutD putE sOf
  rfl
@[simp] theorem putE_I (d : List (Int × Int)) (t v : Int) : putE (some (.ow (.dik (encI d)))) (.ok (.sh (.int v))) (.ok (.sh (.int t))) i env = if d.length < sizeLine then .nx (env.set i (.ow (.dik (encI (putD d t v))))) else .bad := by
  show (match putDO (.dik (encI d)) (.int t) (.int v) with
      | some d' => Out.nx (env.set i (.ow d'))
      | none => .bad) = _
  have e : putDO (.dik (encI d)) (.int t) (.int v) = if d.length < sizeLine then some (.dik (encI (putD d t v))) else none := by
    unfold putDO
    simp only [encI_len]
    split
    · rw [← putD_I]; rfl
    · rfl
  rw [e]
  by_cases c : d.length < sizeLine
  · rw [if_pos c, if_pos c]
  · rw [if_neg c, if_neg c]
@[simp] theorem listKR_I (d : List (Int × Int)) : listKR [.bo n (.dik (encI d))] = .ok (.fr (.lst ((d.map (·.1)).map T.int))) := by
  have e : ((encI d).all fun p => match p.1 with | .inl _ => true | .inr x => PyData.strOk x) = true := by
    unfold encI
    rw [List.all_map, List.all_eq_true]
    intro x _
    rfl
  show (if ((encI d).all fun p => match p.1 with | .inl _ => true | .inr x => PyData.strOk x) = true then Res.ok (R.fr (.lst ((encI d).map fun p => keyT p.1))) else .bad) = _
  rw [if_pos e]
  simp [encI, keyT]
def ixS (a : Res R) (j : Nat) (env : En) : Out := match a with
  | .ok (.sh tt) => .nx (env.set j (.fz tt))
  | _ => .bad
@[simp] theorem ixS_ok (t : T) : ixS (.ok (.sh t)) j env = .nx (env.set j (.fz t)) := rfl
def popIxO (o : Option T) (l : List T) (k : En → Res R) (j i : Nat) (env : En) : Out := match o with
  | some t => (k (env.set i (.ow (.lst l.dropLast)))).out (fun y env => ixS (ixR (.sh t) y) j env) (env.set i (.ow (.lst l.dropLast)))
  | none => .bad
def popIxS (s : Option Sl) (k : En → Res R) (j i : Nat) (env : En) : Out := match s with
  | some (.ow (.lst l)) => popIxO l.getLast? l k j i env
  | _ => .bad
@[simp] theorem fPopIx_eq : fPopIx j i k env = popIxS env[i]? k j i env := by
  unfold fPopIx popIxS popIxO ixS sOf
  rfl
@[simp] theorem popIxS_snoc (l : List T) (t : T) : popIxS (some (.ow (.lst (l ++ [t])))) k j i env = (k (env.set i (.ow (.lst l)))).out (fun y env => ixS (ixR (.sh t) y) j env) (env.set i (.ow (.lst l))) := by
  unfold popIxS popIxO
  simp
end
end Tr
namespace Tr
open PySem L2
/-! ### cells: reading -/
/-- the object behind a pointer; m: the cells' slot -/
def drR (m : Nat) (env : En) (r : R) : Res R := match r with
  | .sh (.ptr k) => (match env[m]? with
    | some (.st S) => (match S[k]? with
      | some t => .ok (.bo (env.length + k) t)
      | none => .bad)
    | some (.rd S) => (match S[k]? with
      | some t => .ok (.vw t)
      | none => .bad)
    | _ => .bad)
  | r => .ok r
def fDr (m : Nat) (f : En → Res R) (env : En) : Res R := (f env).bind (drR m env)
section
variable {K : PySem.W.Frag} {B : Bs} {H0 H H1 H' : Hp} {O : Ow} {env : En} {σ : L2.St} {r r' : R} {v : V} {m : Nat}
theorem rp_ptr {X : Xs} {k : Nat} (h : Rp K H X (.ptr k) v) : ∃ a, X.cs k = some a ∧ v = .ref a := by
  cases h with
  | ptr e => exact ⟨_, e, rfl⟩
theorem drR_ok (R0 : Rel K B H0 O env σ H1) (h : RR K B O H H1 r v) (e : drR m env r = .ok r') : RR K B O H H1 r' v := by
  unfold drR at e
  split at e
  · rename_i k
    obtain ⟨a, ea, rfl⟩ := rp_ptr h
    split at e
    · rename_i S es
      split at e
      · rename_i t et
        cases e
        obtain ⟨h1, h2, h3, h4⟩ := R0.slot m _ es
        obtain ⟨b, ho, z1, z2, z3⟩ := h4 k t et
        have ea' : csOf B O k = some a := ea
        unfold csOf at ea'
        rw [h3.2 k, z1] at ea'
        cases ea'
        exact ⟨a, ho, by rw [R0.lenN]; exact z1, rfl, z2, z3⟩
      · cases e
    · rename_i S es
      split at e
      · rename_i t et
        cases e
        obtain ⟨h1, h2⟩ := R0.slot m _ es
        obtain ⟨b, ho, z1, z2, z3⟩ := h2 k t et
        have ea' : csOf B O k = some a := ea
        unfold csOf at ea'
        rw [z1] at ea'
        cases ea'
        exact ⟨a, ho, z2, rfl, R0.same _ _ (R0.lent _ _ z2), z3⟩
      · cases e
    · cases e
  · cases e
    exact h
theorem drR_exc {c : Addr} {p : Option T} (e : drR m env r = .exc c p) : False := by
  unfold drR at e
  split at e
  · split at e
    · split at e <;> cases e
    · split at e <;> cases e
    · cases e
  · cases e
end
section
variable {X : Cx} {EX : L2.St → XK} {e : Expr} {f : En → Res R} {c : Expr}
theorem ej_dr (m : Nat) (he : EJ X EX e f) : EJ X EX e (fDr m f) := by
  obtain ⟨t, pe, i⟩ := he.ex
  refine ⟨⟨t, pe, fun B H0 O env σ H Q R p => ?_⟩⟩
  refine i B H0 O env σ H _ R (p.bind.mono (fun _ _ x => x) fun r q v H1 s r1 => ?_)
  cases ed : drR m env r with
  | ok r' =>
    rw [ed] at q
    exact q v H1 s (drR_ok (R.mono s) r1 ed)
  | exc c p => exact (drR_exc ed).elim
  | bad => rw [ed] at q; exact q.elim
end

/-! ### cells: the frame taken apart -/
def xw (p : Addr → Prop) (A : List Addr) : Xs := ⟨fun a => p a ∨ a ∈ A, fun k => A[k]?⟩
theorem Xs.ext2 {X Y : Xs} (h : ∀ a, X a ↔ Y a) (k : ∀ k, X.cs k = Y.cs k) : X = Y := by
  cases X; cases Y
  congr
  · funext a; exact propext (h a)
  · funext a; exact k a
/-- what is not to be spoken of besides the cells -/
def slP (B : Bs) (P : Ow) (a : Addr) : Prop := B a ∨ some a ∈ P
section
variable {K : PySem.W.Frag} {B : Bs} {H0 H H1 H' : Hp} {O P : Ow} {env : En} {σ : L2.St} {m : Nat} {S S' : List T} {A A' : List Addr}
theorem map_get {A : List Addr} {k : Nat} : ((A.map some)[k]? : Option (Option Addr)).join = A[k]? := by
  rw [List.getElem?_map]
  cases A[k]? <;> rfl
theorem ex_xw (hP : P.length = B.n) (hc : ∀ k, B.cs k = none) : Ex B (P ++ A.map some) = xw (slP B P) A := by
  refine Xs.ext2 (fun a => ?_) fun k => ?_
  · constructor
    · rintro (z | ⟨i, z⟩)
      · exact .inl (.inl z)
      · have mm := List.mem_of_getElem? z
        rcases List.mem_append.mp mm with q | q
        · exact .inl (.inr q)
        · obtain ⟨b, mb, eb⟩ := List.mem_map.mp q
          cases eb
          exact .inr mb
    · rintro ((z | z) | z)
      · exact .inl z
      · obtain ⟨i, z⟩ := List.getElem?_of_mem (List.mem_append_left (A.map some) z)
        exact .inr ⟨i, z⟩
      · obtain ⟨i, z⟩ := List.getElem?_of_mem (List.mem_append_right P (List.mem_map_of_mem (f := some) z))
        exact .inr ⟨i, z⟩
  · show csOf B _ k = A[k]?
    unfold csOf
    rw [hc k, List.getElem?_append_right (by omega)]
    have e : B.n + k - P.length = k := by omega
    rw [e]
    exact map_get
/-- the frame's cells -/
structure Cells (K : PySem.W.Frag) (B : Bs) (O : Ow) (H : Hp) (S : List T) (P : Ow) (A : List Addr) : Prop where
  eO : O = P ++ A.map some
  lP : P.length = B.n
  cs : ∀ k, B.cs k = none
  act : B.act = true
  lA : A.length = S.length
  own : ∀ (k : Nat) (t : T), S[k]? = some t → ∃ a ho, A[k]? = some a ∧ H a = some ho ∧ OwnRp K H (xw (slP B P) A) t ho
theorem Cells.ex (C : Cells K B O H S P A) : Ex B O = xw (slP B P) A := by rw [C.eO]; exact ex_xw C.lP C.cs
theorem Rel.cells_of (R0 : Rel K B H0 O env σ H) (es : env[m]? = some (.st S)) : ∃ P A, Cells K B O H S P A := by
  obtain ⟨h1, h2, h3, h4⟩ := R0.slot m _ es
  have hP : (O.take B.n).length = B.n := by rw [List.length_take]; have := R0.lenO; omega
  have dl : (O.drop B.n).length = S.length := by rw [List.length_drop]; omega
  have e : O.drop B.n = ((O.drop B.n).map fun x => x.getD 0).map some := by
    apply List.ext_getElem?
    intro k
    rw [List.map_map, List.getElem?_map]
    cases q : (O.drop B.n)[k]? with
    | none => rfl
    | some x =>
      have hk : k < S.length := by rw [← dl]; exact (List.getElem?_eq_some_iff.mp q).1
      obtain ⟨a, ho, z1, z2, z3⟩ := h4 k S[k] (List.getElem?_eq_getElem hk)
      rw [List.getElem?_drop] at q
      rw [q] at z1
      cases z1
      rfl
  have eO : O = O.take B.n ++ ((O.drop B.n).map fun x => x.getD 0).map some := by rw [← e, List.take_append_drop]
  refine ⟨O.take B.n, (O.drop B.n).map fun x => x.getD 0, eO, hP, h3.2, h3.1, by rw [List.length_map]; exact dl, fun k t et => ?_⟩
  obtain ⟨a, ho, z1, z2, z3⟩ := h4 k t et
  have ex := ex_xw (B := B) (A := (O.drop B.n).map fun x => x.getD 0) hP h3.2
  rw [← eO] at ex
  rw [← ex]
  refine ⟨a, ho, ?_, z2, z3⟩
  rw [List.getElem?_map, List.getElem?_drop, z1]
  rfl
/-- a new object p beside -/
structure CellsF (R0 : Rel K B H0 O env σ H) (C : Cells K B O H S P A) : Prop where
  nd : A.Nodup
  new : ∀ a ∈ A, H0 a = none ∧ ¬ slP B P a
  th : ∀ a, slP B P a → ∃ o, H a = some o ∧ nTup o
theorem Rel.cellsF (R0 : Rel K B H0 O env σ H) (C : Cells K B O H S P A) : CellsF R0 C := by
  have at' : ∀ k a, A[k]? = some a → O[B.n + k]? = some (some a) := fun k a e => by
    rw [C.eO, List.getElem?_append_right (by rw [C.lP]; omega), C.lP]
    have e1 : B.n + k - B.n = k := by omega
    rw [e1, List.getElem?_map, e]
    rfl
  refine ⟨?_, fun a m => ?_, fun a z => ?_⟩
  · refine List.pairwise_iff_getElem.mpr fun i j hi hj lt e => ?_
    have h1 := at' i _ (List.getElem?_eq_getElem hi)
    have h2 := at' j _ (List.getElem?_eq_getElem hj)
    rw [e] at h1
    have := R0.uniq _ _ _ h1 h2
    omega
  · obtain ⟨k, e⟩ := List.getElem?_of_mem m
    have h1 := at' k a e
    obtain ⟨z1, z2, _⟩ := R0.own _ a h1
    refine ⟨z1, fun z => z.elim z2 fun z => ?_⟩
    obtain ⟨i, q⟩ := List.getElem?_of_mem z
    have hi : i < B.n := by rw [← C.lP]; exact (List.getElem?_eq_some_iff.mp q).1
    have q' : O[i]? = some (some a) := by rw [C.eO, List.getElem?_append_left (by rw [C.lP]; exact hi)]; exact q
    have := R0.uniq _ _ _ q' h1
    omega
  · rcases z with z | z
    · exact R0.there a z
    · obtain ⟨i, q⟩ := List.getElem?_of_mem z
      have hi : i < B.n := by rw [← C.lP]; exact (List.getElem?_eq_some_iff.mp q).1
      have q' : O[i]? = some (some a) := by rw [C.eO, List.getElem?_append_left (by rw [C.lP]; exact hi)]; exact q
      exact (R0.own i a q').2.2
/-- the cells are changed, others made -/
theorem Rel.cellsTo (R0 : Rel K B H0 O env σ H) (es : env[m]? = some (.st S)) (C : Cells K B O H S P A)
    (pre : ∀ (k : Nat) (a : Addr), A[k]? = some a → A'[k]? = some a) (len : A'.length = S'.length) (nd : A'.Nodup) (new : ∀ a ∈ A', a ∈ A ∨ H a = none)
    (ag : ∀ b o, H b = some o → b ∉ A → H1 b = some o)
    (own : ∀ (k : Nat) (t : T), S'[k]? = some t → ∃ a ho, A'[k]? = some a ∧ H1 a = some ho ∧ OwnRp K H1 (xw (slP B P) A') t ho) :
    Rel K B H0 (P ++ A'.map some) (env.set m (.st S')) σ H1 ∧ Keep (Ex B O) H (Ex B (P ++ A'.map some)) H1 ∧ Cells K B (P ++ A'.map some) H1 S' P A' := by
  have CF := R0.cellsF C
  have ex' : Ex B (P ++ A'.map some) = xw (slP B P) A' := ex_xw C.lP C.cs
  have hm : m < env.length := (List.getElem?_eq_some_iff.mp es).1
  have hmn : m < B.n := R0.lenN ▸ hm
  have nsl : ∀ a ∈ A', ¬ slP B P a := fun a ma z => by
    rcases new a ma with q | q
    · exact (CF.new a q).2 z
    · obtain ⟨o, e, _⟩ := CF.th a z
      rw [q] at e; cases e
  have kp : Keep (Ex B O) H (Ex B (P ++ A'.map some)) H1 := by
    refine ⟨fun a o e n => ?_, fun k a e => ?_⟩
    · rw [C.ex] at n
      rw [ex']
      refine ⟨ag a o e fun z => n (.inr z), fun z => ?_⟩
      rcases z with z | z
      · exact n (.inl z)
      · rcases new a z with q | q
        · exact n (.inr q)
        · rw [q] at e; cases e
    · rw [C.ex] at e
      rw [ex']
      exact pre k a e
  have lo : ∀ i, i < B.n → (P ++ A'.map some)[i]? = O[i]? := fun i hi => by
    rw [C.eO, List.getElem?_append_left (by rw [C.lP]; exact hi), List.getElem?_append_left (by rw [C.lP]; exact hi)]
  have hi' : ∀ k, (P ++ A'.map some)[B.n + k]? = (A'.map some)[k]? := fun k => by
    rw [List.getElem?_append_right (by rw [C.lP]; omega), C.lP]
    congr 1; omega
  have stay : ∀ i a o, i < B.n → O[i]? = some (some a) → H a = some o → H1 a = some o := fun i a o hi e h => ag a o h fun z => (CF.new a z).2 (.inr (by
    rw [C.eO, List.getElem?_append_left (by rw [C.lP]; exact hi)] at e
    exact List.mem_of_getElem? e))
  have CC : Cells K B (P ++ A'.map some) H1 S' P A' := ⟨rfl, C.lP, C.cs, C.act, len, own⟩
  refine ⟨⟨?_, ?_, ?_, fun h => ?_, fun b o e => ?_, R0.lent, fun a z => ?_, fun i a e => ?_, fun i j a e1 e2 => ?_, fun i s e => ?_, one_set R0.one fun _ => ⟨S, es⟩⟩, kp, CC⟩
  · rw [List.length_set]; exact R0.len
  · rw [List.length_set]; exact R0.lenN
  · rw [List.length_append, C.lP]; omega
  · rw [C.act] at h; cases h
  · exact ag b o (R0.same b o e) fun z => by rw [(CF.new b z).1] at e; cases e
  · obtain ⟨o, e, nt⟩ := R0.there a z
    exact ⟨o, ag a o e fun q => (CF.new a q).2 (.inl z), nt⟩
  · by_cases hi : i < B.n
    · rw [lo i hi] at e
      obtain ⟨z1, z2, o, z3, z4⟩ := R0.own i a e
      exact ⟨z1, z2, o, stay i a o hi e z3, z4⟩
    · obtain ⟨k, rfl⟩ : ∃ k, i = B.n + k := ⟨i - B.n, by omega⟩
      rw [hi' k, List.getElem?_map] at e
      cases q : A'[k]? with
      | none => rw [q] at e; cases e
      | some b =>
        rw [q] at e
        cases e
        have ma := List.mem_of_getElem? q
        have hk : k < S'.length := by rw [← len]; exact (List.getElem?_eq_some_iff.mp q).1
        obtain ⟨a', ho, z1, z2, z3⟩ := own k _ (List.getElem?_eq_getElem hk)
        rw [q] at z1
        cases z1
        refine ⟨?_, fun z => nsl a ma (.inl z), ho, z2, z3.ntup⟩
        rcases new a ma with w | w
        · exact (CF.new a w).1
        · exact R0.same.free w
  · have cell : ∀ i a, ¬ i < B.n → (P ++ A'.map some)[i]? = some (some a) → A'[i - B.n]? = some a := fun i a hi e => by
      obtain ⟨k, rfl⟩ : ∃ k, i = B.n + k := ⟨i - B.n, by omega⟩
      rw [hi' k] at e
      have e2 : B.n + k - B.n = k := by omega
      rw [e2]
      rw [List.getElem?_map] at e
      cases q : A'[k]? with
      | none => rw [q] at e; cases e
      | some b => rw [q] at e; cases e; rfl
    have slot : ∀ i a, i < B.n → (P ++ A'.map some)[i]? = some (some a) → slP B P a := fun i a hi e => by
      rw [List.getElem?_append_left (by rw [C.lP]; exact hi)] at e
      exact .inr (List.mem_of_getElem? e)
    by_cases hi : i < B.n <;> by_cases hj : j < B.n
    · rw [lo i hi] at e1
      rw [lo j hj] at e2
      exact R0.uniq i j a e1 e2
    · exact (nsl a (List.mem_of_getElem? (cell j a hj e2)) (slot i a hi e1)).elim
    · exact (nsl a (List.mem_of_getElem? (cell i a hi e1)) (slot j a hj e2)).elim
    · have z1 := cell i a hi e1
      have z2 := cell j a hj e2
      have l1 := (List.getElem?_eq_some_iff.mp z1)
      have l2 := (List.getElem?_eq_some_iff.mp z2)
      have := (List.getElem_inj nd (h₀ := l1.1) (h₁ := l2.1)).mp (l1.2.trans l2.2.symm)
      omega
  · rcases getElem?_set' e with ⟨rfl, _, rfl⟩ | ⟨nm, e2⟩
    · refine ⟨?_, ?_, ⟨C.act, C.cs⟩, fun k t et => ?_⟩
      · rw [lo _ hmn]
        exact (R0.slot m _ es).1
      · rw [List.length_append, List.length_map, C.lP, len]
      · obtain ⟨a, ho, z1, z2, z3⟩ := own k t et
        refine ⟨a, ho, ?_, z2, by rw [ex']; exact z3⟩
        rw [hi' k, List.getElem?_map, z1]
        rfl
    · have hi : i < B.n := by rw [← R0.lenN]; exact (List.getElem?_eq_some_iff.mp e2).1
      have h := R0.slot i s e2
      cases s with
      | no => exact (lo i hi).trans h
      | fz d =>
        obtain ⟨h1, v, h2, h3⟩ := h
        exact ⟨(lo i hi).trans h1, v, h2, h3.keep kp⟩
      | ow d =>
        obtain ⟨a, ho, h1, h2, h3, h4⟩ := h
        exact ⟨a, ho, (lo i hi).trans h1, h2, stay i a ho hi h1 h3, h4.keep kp⟩
      | sf d =>
        obtain ⟨a, ho, h1, h2, h3, h4, h5⟩ := h
        exact ⟨a, ho, (lo i hi).trans h1, h2, stay i a ho hi h1 h3, h4.keep kp, h5⟩
      | br d =>
        obtain ⟨h1, a, ho, h2, h3, h4⟩ := h
        exact ⟨(lo i hi).trans h1, a, ho, h2, h3, h4.keep kp⟩
      | rd T =>
        obtain ⟨h1, h2⟩ := h
        refine ⟨(lo i hi).trans h1, fun k t et => ?_⟩
        obtain ⟨a, ho, h3, h4, h5⟩ := h2 k t et
        exact ⟨a, ho, h3, h4, h5.keep kp⟩
      | st T => exact (nm (R0.one m i _ _ es e2)).elim
/-- one cell is changed -/
theorem Rel.chgC (R0 : Rel K B H0 O env σ H) (es : env[m]? = some (.st S)) (C : Cells K B O H S P A) {k : Nat} {a : Addr} {t' : T} {ho' : HO} (ea : A[k]? = some a)
    (ag : ∀ b o, H b = some o → b ≠ a → H1 b = some o) (h' : H1 a = some ho') (own : OwnRp K H (Ex B O) t' ho') :
    ∃ O', Rel K B H0 O' (env.set m (.st (S.set k t'))) σ H1 ∧ Keep (Ex B O) H (Ex B O') H1 := by
  have CF := R0.cellsF C
  have ma := List.mem_of_getElem? ea
  have kx : Keep (xw (slP B P) A) H (xw (slP B P) A) H1 := ⟨fun b o e n => ⟨ag b o e fun z => n (.inr (z ▸ ma)), n⟩, fun _ _ e => e⟩
  have own' : ∀ (j : Nat) (t : T), (S.set k t')[j]? = some t → ∃ a ho, A[j]? = some a ∧ H1 a = some ho ∧ OwnRp K H1 (xw (slP B P) A) t ho := fun j t et => by
    rcases getElem?_set' et with ⟨rfl, _, rfl⟩ | ⟨nj, e2⟩
    · rw [C.ex] at own
      exact ⟨a, ho', ea, h', own.keep kx⟩
    · obtain ⟨b, ho, z1, z2, z3⟩ := C.own j t e2
      refine ⟨b, ho, z1, ag b ho z2 fun q => nj ?_, z3.keep kx⟩
      have l1 := List.getElem?_eq_some_iff.mp ea
      have l2 := List.getElem?_eq_some_iff.mp z1
      exact (List.getElem_inj CF.nd (h₀ := l1.1) (h₁ := l2.1)).mp (l1.2.trans (q.symm.trans l2.2.symm))
  obtain ⟨R1, k1, _⟩ := R0.cellsTo (A' := A) (S' := S.set k t') (H1 := H1) es C (fun _ _ e => e) (by rw [List.length_set]; exact C.lA) CF.nd (fun _ q => .inl q)
    (fun b o e n => ag b o e fun z => n (z ▸ ma)) own'
  exact ⟨_, R1, k1⟩
/-- an object becomes a cell -/
theorem Rel.newC (R0 : Rel K B H0 O env σ H) (es : env[m]? = some (.st S)) (s : Same H H1) {p : Addr} {t : T} {ho : HO} (hp : H p = none) (h1 : H1 p = some ho) (own : OwnRp K H1 ((Ex B O).add p) t ho) :
    ∃ O', Rel K B H0 O' (env.set m (.st (S ++ [t]))) σ H1 ∧ Keep (Ex B O) H (Ex B O') H1 ∧ (Ex B O').cs S.length = some p := by
  obtain ⟨P, A, C⟩ := R0.cells_of es
  have CF := R0.cellsF C
  have kx : Keep (xw (slP B P) A) H (xw (slP B P) (A ++ [p])) H1 := ⟨fun b o e n => ⟨s b o e, fun z => by
      rcases z with z | z
      · exact n (.inl z)
      · rcases List.mem_append.mp z with z | z
        · exact n (.inr z)
        · have : b = p := by simpa using z
          rw [this, hp] at e; cases e⟩, fun k a e => by
    have e' : A[k]? = some a := e
    show (A ++ [p])[k]? = some a
    rw [List.getElem?_append_left (List.getElem?_eq_some_iff.mp e').1]
    exact e'⟩
  have np : p ∉ A := fun z => by
    obtain ⟨k, e⟩ := List.getElem?_of_mem z
    have hk : k < S.length := by rw [← C.lA]; exact (List.getElem?_eq_some_iff.mp e).1
    obtain ⟨a, ho, z1, z2, _⟩ := C.own k _ (List.getElem?_eq_getElem hk)
    rw [e] at z1
    cases z1
    rw [hp] at z2; cases z2
  have eA : (A ++ [p])[S.length]? = some p := by rw [← C.lA]; simp
  have own' : ∀ (j : Nat) (t' : T), (S ++ [t])[j]? = some t' → ∃ a ho, (A ++ [p])[j]? = some a ∧ H1 a = some ho ∧ OwnRp K H1 (xw (slP B P) (A ++ [p])) t' ho := fun j t' et => by
    by_cases c : j < S.length
    · rw [List.getElem?_append_left c] at et
      obtain ⟨b, ho, z1, z2, z3⟩ := C.own j t' et
      exact ⟨b, ho, by rw [List.getElem?_append_left (List.getElem?_eq_some_iff.mp z1).1]; exact z1, s _ _ z2, z3.keep kx⟩
    · have hj : j < (S ++ [t]).length := (List.getElem?_eq_some_iff.mp et).1
      have : j = S.length := by simp at hj; omega
      subst this
      have e2 : (S ++ [t])[S.length]? = some t := by simp
      rw [e2] at et
      cases et
      refine ⟨p, ho, eA, h1, ?_⟩
      rw [C.ex] at own
      refine own.anti (fun b z => ?_) fun k a e => ?_
      · rcases z with z | z
        · exact .inl (.inl z)
        · rcases List.mem_append.mp z with z | z
          · exact .inl (.inr z)
          · exact .inr (by simpa using z)
      · have e' : A[k]? = some a := e
        show (A ++ [p])[k]? = some a
        rw [List.getElem?_append_left (List.getElem?_eq_some_iff.mp e').1]
        exact e'
  obtain ⟨R1, k1, C1⟩ := R0.cellsTo (A' := A ++ [p]) (S' := S ++ [t]) (H1 := H1) es C (fun k a e => by rw [List.getElem?_append_left (List.getElem?_eq_some_iff.mp e).1]; exact e) (by simp [C.lA])
    (by
      rw [List.nodup_append]
      exact ⟨CF.nd, by simp, fun a ma b mb => by
        have : b = p := by simpa using mb
        rw [this]
        exact fun z => np (z ▸ ma)⟩)
    (fun a ma => (List.mem_append.mp ma).imp id fun z => by
      have : a = p := by simpa using z
      rw [this]; exact hp)
    (fun b o e n => s b o e) own'
  refine ⟨_, R1, k1, ?_⟩
  rw [C1.ex]
  exact eA
end
end Tr
namespace Tr
open PySem L2
/-! ### defs that read cells, defs that change them -/
section
variable {K : PySem.W.Frag} {H H0 H' : Hp} {B : Bs} {S : List T} {A : List Addr} {n : Nat}
theorem repA {n : Nat} {A : List Addr} {i : Nat} {a : Addr} (e : (List.replicate n (none : Option Addr) ++ A.map some)[i]? = some (some a)) : n ≤ i ∧ A[i - n]? = some a := by
  by_cases c : i < n
  · rw [List.getElem?_append_left (by rw [List.length_replicate]; exact c)] at e
    exact (noneO e).elim
  · rw [List.getElem?_append_right (by rw [List.length_replicate]; omega), List.length_replicate, List.getElem?_map] at e
    refine ⟨by omega, ?_⟩
    cases q : A[i - n]? with
    | none => rw [q] at e; cases e
    | some b => rw [q] at e; cases e; rfl
theorem repN {n : Nat} {A : List Addr} {i : Nat} (h : i < n) : (List.replicate n (none : Option Addr) ++ A.map some)[i]? = some none := by
  rw [List.getElem?_append_left (by rw [List.length_replicate]; exact h), List.getElem?_replicate, if_pos h]
def begE (n : Nat) (ds : List T) (s : Sl) : En := ds.map Sl.fz ++ (List.replicate (n - 1 - ds.length) .no ++ [s])
theorem begE_get {ds : List T} {s : Sl} {i : Nat} {z : Sl} (hl : ds.length + 1 ≤ n) (e : (begE n ds s)[i]? = some z) : (∃ d, ds[i]? = some d ∧ z = .fz d) ∨ (i < n - 1 ∧ z = .no) ∨ (i = n - 1 ∧ z = s) := by
  unfold begE at e
  by_cases c : i < ds.length
  · rw [List.getElem?_append_left (by rw [List.length_map]; exact c), List.getElem?_map, List.getElem?_eq_getElem c] at e
    cases e
    exact .inl ⟨_, List.getElem?_eq_getElem c, rfl⟩
  · rw [List.getElem?_append_right (by rw [List.length_map]; omega), List.length_map] at e
    by_cases c2 : i - ds.length < n - 1 - ds.length
    · rw [List.getElem?_append_left (by rw [List.length_replicate]; exact c2), List.getElem?_replicate, if_pos c2] at e
      cases e
      exact .inr (.inl ⟨by omega, rfl⟩)
    · rw [List.getElem?_append_right (by rw [List.length_replicate]; omega), List.length_replicate] at e
      have hi := (List.getElem?_eq_some_iff.mp e).1
      simp only [List.length_singleton] at hi
      have e0 : i - ds.length - (n - 1 - ds.length) = 0 := by omega
      rw [e0] at e
      cases e
      exact .inr (.inr ⟨by omega, rfl⟩)
theorem begE_len {ds : List T} {s : Sl} (hl : ds.length + 1 ≤ n) : (begE n ds s).length = n := by
  unfold begE
  simp only [List.length_append, List.length_map, List.length_replicate, List.length_singleton]
  omega
theorem begE_last {ds : List T} {s : Sl} (hl : ds.length + 1 ≤ n) : (begE n ds s)[n - 1]? = some s := by
  unfold begE
  rw [List.getElem?_append_right (by rw [List.length_map]; omega), List.length_map, List.getElem?_append_right (by rw [List.length_replicate]; omega), List.length_replicate]
  have e0 : n - 1 - ds.length - (n - 1 - ds.length) = 0 := by omega
  rw [e0]
  rfl
theorem rel_beginC {X : Xs} {ds : List T} {vs : List V} {s : Sl} (hn : B.n = n) (hl : ds.length + 1 ≤ n) (eX : Ex B (List.replicate n none ++ A.map some) = X) (h : RpAll K H X ds vs)
    (own : ∀ a ∈ A, H0 a = none ∧ ¬ B a ∧ ∃ ho, H a = some ho ∧ nTup ho) (nd : A.Nodup) (same : Same H0 H) (lent : Same B.h H0) (there : ∀ a, B a → ∃ o, H a = some o ∧ nTup o) (act : B.act = false → A = [])
    (last : ∀ σ, SlOk K B (List.replicate n none ++ A.map some) σ H (n - 1) s) :
    Rel K B H0 (List.replicate n none ++ A.map some) (begE n ds s) (vs.map some ++ List.replicate (n - vs.length) none) H := by
  have e1 := h.1
  refine ⟨?_, ?_, ?_, fun z => ?_, same, lent, there, fun i a e => ?_, fun i j a e e' => ?_, fun i z e => ?_, fun i j S S' e e' => ?_⟩
  · rw [begE_len hl]
    simp only [List.length_append, List.length_map, List.length_replicate]
    omega
  · rw [begE_len hl, hn]
  · rw [hn, List.length_append, List.length_replicate]; omega
  · rw [act z]; simp [hn]
  · exact own a (List.mem_of_getElem? (repA e).2)
  · obtain ⟨h1, h2⟩ := repA e
    obtain ⟨h3, h4⟩ := repA e'
    have l1 := List.getElem?_eq_some_iff.mp h2
    have l2 := List.getElem?_eq_some_iff.mp h4
    have := (List.getElem_inj nd (h₀ := l1.1) (h₁ := l2.1)).mp (l1.2.trans l2.2.symm)
    omega
  · rcases begE_get hl e with ⟨d, ed, rfl⟩ | ⟨hi, rfl⟩ | ⟨rfl, rfl⟩
    · have hd := (List.getElem?_eq_some_iff.mp ed).1
      have hv : i < vs.length := by rw [← e1]; exact hd
      refine ⟨repN (by omega), vs[i], ?_, ?_⟩
      · rw [List.getElem?_append_left (by rw [List.length_map]; exact hv), List.getElem?_map, List.getElem?_eq_getElem hv]
        rfl
      · rw [eX]
        exact h.2 i d _ ed (List.getElem?_eq_getElem hv)
    · exact repN (by omega)
    · exact last _
  · rcases begE_get hl e with ⟨d, ed, q⟩ | ⟨hi, q⟩ | ⟨rfl, q⟩
    · cases q
    · cases q
    · rcases begE_get hl e' with ⟨d, ed, q⟩ | ⟨hi, q⟩ | ⟨rfl, q⟩
      · cases q
      · cases q
      · rfl
end
/-- what stands in the cells -/
def CsOk (K : PySem.W.Frag) (H : Hp) (X : Xs) (S : List T) : Prop := ∀ (k : Nat) (t : T), S[k]? = some t → ∃ a ho, X.cs k = some a ∧ H a = some ho ∧ OwnRp K H X t ho
/-- a def that reads cells -/
def SpR (K : PySem.W.Frag) (n : Nat) (F : List T → List T → Res R) : Sp := fun vs H Q E => ∃ (S ds : List T) (X : Xs), (∀ a, X a → ∃ o, H a = some o ∧ nTup o) ∧ CsOk K H X S ∧ RpAll K H X ds vs ∧ ds.length = n ∧
  Post (fun c p => ∀ H' d a, clsA K c = some a → Same H H' → XRel K X H' p d → E (.ref a) d H') (fun r => ∀ v H', Same H H' → RX K X H H' r v → Q v H') (F S ds)
def runR (n : Nat) (body : En → Out) (S ds : List T) : Res R := (body (begE n ds (.rd S))).res
/-- what a def that changes cells gives: the cells, and a value or an exception -/
inductive RW where
  | ok (S : List T) (t : T) | exc (S : List T) (c : Nat) (p : Option T) | bad
structure WBeg (K : PySem.W.Frag) (p : Addr → Prop) (A : List Addr) (H : Hp) (S : List T) : Prop where
  th : ∀ a, p a → ∃ o, H a = some o ∧ nTup o
  nd : A.Nodup
  np : ∀ a ∈ A, ¬ p a
  len : A.length = S.length
  own : CsOk K H (xw p A) S
structure WEnd (K : PySem.W.Frag) (p : Addr → Prop) (A : List Addr) (H : Hp) (S' : List T) (A' : List Addr) (H' : Hp) : Prop where
  pre : ∀ (k : Nat) (a : Addr), A[k]? = some a → A'[k]? = some a
  new : ∀ a ∈ A', a ∈ A ∨ H a = none
  nd : A'.Nodup
  ag : ∀ b o, H b = some o → b ∉ A → H' b = some o
  len : A'.length = S'.length
  own : CsOk K H' (xw p A') S'
def PostW (K : PySem.W.Frag) (p : Addr → Prop) (A : List Addr) (H : Hp) (Q : VK) (E : XK) : RW → Prop
  | .ok S' t => ∀ v H' A', WEnd K p A H S' A' H' → Rp K H' (xw p A') t v → Q v H'
  | .exc S' c pl => ∀ d a H' A', clsA K c = some a → WEnd K p A H S' A' H' → XRel K (xw p A') H' pl d → E (.ref a) d H'
  | .bad => False
def SpW (K : PySem.W.Frag) (n : Nat) (F : List T → List T → RW) : Sp := fun vs H Q E => ∃ (S ds : List T) (p : Addr → Prop) (A : List Addr), WBeg K p A H S ∧ RpAll K H (xw p A) ds vs ∧ ds.length = n ∧ PostW K p A H Q E (F S ds)
def stS (s : Option Sl) : Option (List T) := match s with
  | some (.st S) => some S
  | _ => none
def outWr (s : Option Sl) (r : R) : RW := match s with
  | some (.st S) => if r.kp = true then .ok S r.d else .bad
  | _ => .bad
def outWx (s : Option Sl) (c : Nat) (p : Option T) : RW := match s with
  | some (.st S) => .exc S c p
  | _ => .bad
def outW (m : Nat) (o : Out) : RW := match o with
  | .nx (e : List Sl) => outWr e[m]? (.sh .non)
  | .rm r (e : List Sl) => outWr e[m]? r
  | .exc (e : List Sl) c p => outWx e[m]? c p
  | _ => .bad
def runW (n : Nat) (body : En → Out) (S ds : List T) : RW := outW (n - 1) (body (begE n ds (.st S)))
section
variable {P : Program} {w : World} {K : PySem.W.Frag} {mg : Str → Option Value} {base : Heap}
theorem fn_R {x qual : Str} {st : Stmt} {f : Addr} {fd : FuncData} {N ps : List Str} {k n m : Nat} {body : En → Out} (F : Fun K x qual st f fd) (S : FnScope N ps (defScope st)) (hn : ps.length = n) (hm : N.length = m) (hl : n + 1 ≤ m)
    (hb : ∀ (cdv : Value) (A : Around) (outer : List Env) (s : Shared) (H : Hp) (E : XK), Room k (A.deeper (PyProof.Rows.envOfC qual (defScope st) s.heap.objs.size f cdv)) →
      SsJ (cxOf (L2.CX P w) P w K mg base N qual (defScope st) f cdv A outer s H E) (fun _ => E) (defBody st) body) :
    FnOk P w K mg base (L2.CX P w) (k + 1) f fd ps (SpR K n (runR m body)) := by
  subst hn hm
  refine F.okX S (fun vs H Q E h => ?_) (fun cdv A outer s H vs Q E hr h => ?_)
  · obtain ⟨S, ds, X, _, _, h2, h3, _⟩ := h
    rw [← h2.1, h3]
  · obtain ⟨S, ds, X, h1, hc, h2, h3, p⟩ := h
    obtain ⟨t, ps', i⟩ := (hb cdv A outer s H E hr).ex
    refine ⟨t, ps', ?_⟩
    have eX : Ex ⟨X.p, none, N.length, X.cs, H, false⟩ (List.replicate N.length none ++ ([] : List Addr).map some) = X := by
      rw [List.map_nil, List.append_nil]
      refine Xs.ext2 (fun a => exRep) fun k => csRep k
    have z0 : Rel K ⟨X.p, none, N.length, X.cs, H, false⟩ H (List.replicate N.length none ++ ([] : List Addr).map some) (begE N.length ds (.rd S)) (L2.start N vs) H :=
      rel_beginC rfl (by omega) eX h2 (fun a m => nomatch m) .nil (Same.refl _) (Same.refl _) h1 (fun _ => rfl) fun σ => ⟨repN (by omega), fun k t e => by
        obtain ⟨a, ho, z1, z2, z3⟩ := hc k t e
        exact ⟨a, ho, z1, z2, by rw [eX]; exact z3⟩⟩
    refine i _ H _ _ _ H _ z0 ?_
    unfold runR Out.res at p
    split at p
    · rename_i e q
      rw [q]
      exact fun O' σ' H' R' _ => p .non H' R'.same (Rp.non)
    · exact p.elim
    · rename_i r nv q
      rw [q]
      refine ⟨.inl rfl, ?_, p⟩
      cases r with
      | vw d => exact (nv d rfl).elim
      | _ => rfl
    · rename_i e c pl q
      rw [q]
      exact fun O' σ' H' d a ea R' _ x => p H' d a ea R'.same (by
        cases pl with
        | none => exact x
        | some t =>
          obtain ⟨a, v, z1, z2, z3⟩ := x
          exact ⟨a, v, z1, z2, z3.anti (fun b zb => .inl zb) fun k a e => (R'.cs0 rfl).symm.trans e⟩)
    · exact p.elim
/-- the heap without the cells -/
def woA (H : Hp) (A : List Addr) : Hp := fun b => if b ∈ A then none else H b
theorem woA_out {H : Hp} {A : List Addr} {b : Addr} {o : HO} (e : H b = some o) (n : b ∉ A) : woA H A b = some o := by unfold woA; rw [if_neg n]; exact e
theorem woA_same {H : Hp} {A : List Addr} : Same (woA H A) H := fun b o e => by
  unfold woA at e
  split at e
  · cases e
  · exact e
/-- what the cells are at a def's end -/
theorem w_end {H H' : Hp} {p : Addr → Prop} {A : List Addr} {n : Nat} {h : Hp} {B : Bs} {H1 : Hp} {O' : Ow} {env : En} {σ : L2.St} {S' : List T} {p' : Addr → Prop} (hB : B = ⟨p', none, n, fun _ => none, h, true⟩) (hp : ∀ a, p a → p' a) (hH : Same (woA H A) H1)
    (R : Rel K B H1 O' env σ H') {X : Xs} (k : Keep X H (Ex B O') H') (kX : ∀ (j : Nat) (a : Addr), A[j]? = some a → X.cs j = some a) {m : Nat} (es : env[m]? = some (.st S')) : ∃ A', WEnd K p A H S' A' H' ∧ (∀ a, xw p A' a → Ex B O' a) ∧ (∀ j a, (Ex B O').cs j = some a → (xw p A').cs j = some a) ∧ ∀ a ∈ A', ¬ p' a := by
  subst hB
  obtain ⟨P, A', C⟩ := R.cells_of es
  have CF := R.cellsF C
  have sub : ∀ a, xw p A' a → xw (slP ⟨p', none, n, fun _ => none, h, true⟩ P) A' a := fun a z => z.elim (fun z => .inl (.inl (hp a z))) .inr
  refine ⟨A', ⟨fun j a e => ?_, fun a ma => ?_, CF.nd, fun b o e nb => R.same b o (hH b o (woA_out e nb)), C.lA, fun j t et => ?_⟩, fun a z => by rw [C.ex]; exact sub a z, fun j a e => by rw [C.ex] at e; exact e, fun a ma z => (CF.new a ma).2 (.inl z)⟩
  · have z := k.c j a (kX j a e)
    rw [C.ex] at z
    exact z
  · by_cases c : a ∈ A
    · exact .inl c
    · refine .inr ?_
      cases q : H a with
      | none => rfl
      | some o =>
        have z := (CF.new a ma).1
        rw [hH a o (woA_out q c)] at z
        cases z
  · obtain ⟨a, ho, z1, z2, z3⟩ := C.own j t et
    exact ⟨a, ho, z1, z2, z3.anti sub⟩
theorem fn_W {x qual : Str} {st : Stmt} {f : Addr} {fd : FuncData} {N ps : List Str} {k n m : Nat} {body : En → Out} (F : Fun K x qual st f fd) (S : FnScope N ps (defScope st)) (hn : ps.length = n) (hm : N.length = m) (hl : n + 1 ≤ m)
    (hb : ∀ (cdv : Value) (A : Around) (outer : List Env) (s : Shared) (H : Hp) (E : XK), Room k (A.deeper (PyProof.Rows.envOfC qual (defScope st) s.heap.objs.size f cdv)) →
      SsJ (cxOf (L2.CX P w) P w K mg base N qual (defScope st) f cdv A outer s H E) (fun _ => E) (defBody st) body) :
    FnOk P w K mg base (L2.CX P w) (k + 1) f fd ps (SpW K n (runW m body)) := by
  subst hn hm
  refine F.okX S (fun vs H Q E h => ?_) (fun cdv A outer s H vs Q E hr h => ?_)
  · obtain ⟨S, ds, p, A, _, h2, h3, _⟩ := h
    rw [← h2.1, h3]
  · obtain ⟨S, ds, p, Ad, hw, h2, h3, q0⟩ := h
    obtain ⟨t, ps', i⟩ := (hb cdv A outer s H E hr).ex
    refine ⟨t, ps', ?_⟩
    have eX : Ex ⟨p, none, N.length, fun _ => none, fun _ => none, true⟩ (List.replicate N.length none ++ Ad.map some) = xw p Ad := by
      rw [ex_xw (B := ⟨p, none, N.length, fun _ => none, fun _ => none, true⟩) (List.length_replicate ..) fun _ => rfl]
      refine Xs.ext2 (fun a => ⟨fun z => ?_, fun z => z.elim (fun z => .inl (.inl z)) .inr⟩) fun _ => rfl
      rcases z with (z | z) | z
      · exact .inl z
      · cases (List.mem_replicate.mp z).2
      · exact .inr z
    have z0 : Rel K ⟨p, none, N.length, fun _ => none, fun _ => none, true⟩ (woA H Ad) (List.replicate N.length none ++ Ad.map some) (begE N.length ds (.st S)) (L2.start N vs) H :=
      rel_beginC rfl (by omega) eX h2 (fun a ma => by
          obtain ⟨j, e⟩ := List.getElem?_of_mem ma
          have hj : j < S.length := by rw [← hw.len]; exact (List.getElem?_eq_some_iff.mp e).1
          obtain ⟨b, ho, z1, z2, z3⟩ := hw.own j _ (List.getElem?_eq_getElem hj)
          have z1' : Ad[j]? = some b := z1
          rw [e] at z1'
          cases z1'
          exact ⟨if_pos ma, hw.np a ma, ho, z2, z3.ntup⟩) hw.nd woA_same (fun b o e => by cases e) hw.th (fun z => by cases z) fun σ => ⟨repN (by omega), by simp [hw.len], ⟨rfl, fun _ => rfl⟩, fun j t e => by
        obtain ⟨a, ho, z1, z2, z3⟩ := hw.own j t e
        refine ⟨a, ho, ?_, z2, by rw [eX]; exact z3⟩
        have z1' : Ad[j]? = some a := z1
        show (List.replicate N.length none ++ Ad.map some)[N.length + j]? = some (some a)
        rw [List.getElem?_append_right (by rw [List.length_replicate]; omega), List.length_replicate, List.getElem?_map]
        have e0 : N.length + j - N.length = j := by omega
        rw [e0, z1']
        rfl⟩
    refine i _ _ _ _ _ H _ z0 ?_
    have kX : ∀ (j : Nat) (a : Addr), Ad[j]? = some a → (Ex ⟨p, none, N.length, fun _ => none, fun _ => none, true⟩ (List.replicate N.length none ++ Ad.map some)).cs j = some a := fun j a e => by rw [eX]; exact e
    unfold runW outW at q0
    cases eb : body (begE N.length ds (.st S)) with
    | nx e =>
      rw [eb] at q0
      simp only [outWr] at q0
      split at q0
      · rename_i S' es
        intro O' σ' H' R' kp
        obtain ⟨A', we, _⟩ := w_end rfl (fun _ z => z) (Same.refl _) R' kp kX es
        simp only [R.kp, if_true] at q0
        exact q0 .non H' A' we Rp.non
      · exact q0.elim
    | rm r e =>
      rw [eb] at q0
      simp only [outWr] at q0
      split at q0
      · rename_i S' es
        cases r with
        | sh d =>
          intro O' σ' H' v R' kp x
          obtain ⟨A', we, z1, z2, _⟩ := w_end rfl (fun _ z => z) (Same.refl _) R' kp kX es
          simp only [R.kp, if_true] at q0
          exact q0 v H' A' we (Rp.anti x z1 z2)
        | fr d =>
          intro O' σ' H' q ho h0 R' kp x
          obtain ⟨A', we, z1, z2, z3⟩ := w_end (p := p) (p' := fun a => p a ∨ a = q) rfl (fun _ z => .inl z) (fun b o e => by rw [upd_ne (ne_of_none e h0)]; exact e) R' kp kX es
          simp only [R.kp, if_true] at q0
          have hq : H' q = some ho := R'.same q ho upd_same
          have nA' : q ∉ A' := fun ma => z3 q ma (.inr rfl)
          have nA : q ∉ Ad := fun ma => by
            obtain ⟨j, e⟩ := List.getElem?_of_mem ma
            exact nA' (List.mem_of_getElem? (we.pre j q e))
          have hn : H q = none := by
            have z := h0
            unfold woA at z
            rw [if_neg nA] at z
            exact z
          refine q0 (.ref q) H' A' we ((x.anti z1 z2).rp hq fun z => ?_)
          rcases z with z | z
          · obtain ⟨o, e, _⟩ := hw.th q z
            rw [hn] at e; cases e
          · exact nA' z
        | bo j d => simp only [R.kp] at q0; exact q0.elim
        | vw d => simp only [R.kp] at q0; exact q0.elim
      · exact q0.elim
    | exc e c pl =>
      rw [eb] at q0
      simp only [outWx] at q0
      split at q0
      · rename_i S' es
        intro O' σ' H' dd ca ea R' kp x
        obtain ⟨A', we, z1, z2, _⟩ := w_end rfl (fun _ z => z) (Same.refl _) R' kp kX es
        refine q0 dd ca H' A' ea we ?_
        cases pl with
        | none => exact x
        | some t =>
          obtain ⟨b, v, y1, y2, y3⟩ := x
          exact ⟨b, v, y1, y2, y3.anti z1 z2⟩
      · exact q0.elim
    | rt r => rw [eb] at q0; exact q0.elim
    | bk e => rw [eb] at q0; exact q0.elim
    | ct e => rw [eb] at q0; exact q0.elim
    | bad => rw [eb] at q0; exact q0.elim
end
end Tr
namespace Tr
open PySem L2
/-! ### calls of defs that read cells -/
def stO : Option Sl → Option (List T)
  | some (.st S) => some S
  | some (.rd S) => some S
  | _ => none
/-- the object behind a value -/
def obT (s : Option Sl) (t : T) : Option T := match t with
  | .ptr k => (stO s).bind (·[k]?)
  | t => some t
def obR (s : Option Sl) (r : R) : Option T := match r with
  | .sh t => obT s t
  | r => some r.d
def caR (s : Option Sl) (F : List T → List T → Res R) (rs : List R) : Res R := match stO s with
  | some S => if rs.all R.kp = true then F S (rs.map R.d) else .bad
  | none => .bad
def fCaR (m : Nat) (F : List T → List T → Res R) (ga : En → Res (List R)) (env : En) : Res R := (ga env).bind (caR env[m]? F)
/-- a def that may be called -/
structure CalS (P : Program) (w : World) (K : PySem.W.Frag) (mg : Str → Option Value) (base : Heap) (x : Str) (k : Nat) (sp : Sp) : Prop where
  ex : ∃ (f : Addr) (fd : FuncData) (ps : List Str), mg x = some (.ref f) ∧ PySem.W.keepIn K (.ref f) = true ∧ Binds K fd ps [] ∧ FnOk P w K mg base (L2.CX P w) k f fd ps sp
/-- a method of the class C that may be called -/
structure MetS (P : Program) (w : World) (K : PySem.W.Frag) (mg : Str → Option Value) (base : Heap) (C : Nat) (m : Str) (k : Nat) (sp : Sp) : Prop where
  ex : ∃ (c f : Addr) (fd : FuncData) (ps : List Str), clsA K C = some c ∧ Cls K c ∧ Meth K c m f ∧ Binds K fd ps [] ∧ FnOk P w K mg base (L2.CX P w) k f fd ps sp
section
variable {K : PySem.W.Frag} {B : Bs} {H0 H H1 H' : Hp} {O : Ow} {env : En} {σ : L2.St} {m : Nat} {S : List T} {r : R} {v : V}
theorem Rel.read (R0 : Rel K B H0 O env σ H) (es : stO env[m]? = some S) : CsOk K H (Ex B O) S := by
  cases q : env[m]? with
  | none => rw [q] at es; cases es
  | some s =>
    rw [q] at es
    have h := R0.slot m s q
    cases s with
    | st S' =>
      cases es
      obtain ⟨h1, h2, h3, h4⟩ := h
      intro k t et
      obtain ⟨a, ho, z1, z2, z3⟩ := h4 k t et
      refine ⟨a, ho, ?_, z2, z3⟩
      show csOf B O k = some a
      unfold csOf
      rw [h3.2 k, z1]
      rfl
    | rd S' =>
      cases es
      obtain ⟨h1, h2⟩ := h
      intro k t et
      obtain ⟨a, ho, z1, z2, z3⟩ := h2 k t et
      refine ⟨a, ho, ?_, R0.same _ _ (R0.lent _ _ z2), z3⟩
      show csOf B O k = some a
      unfold csOf
      rw [z1]
    | _ => cases es
theorem CsOk.keep {X X' : Xs} (h : CsOk K H X S) (k : Keep X H X' H') (g : ∀ j a t, S[j]? = some t → X.cs j = some a → ∀ o, H a = some o → H' a = some o) : CsOk K H' X' S := fun j t e => by
  obtain ⟨a, ho, z1, z2, z3⟩ := h j t e
  exact ⟨a, ho, k.c j a z1, g j a t e z1 ho z2, z3.keep k⟩
theorem CsOk.same {X : Xs} (h : CsOk K H X S) (s : Same H H') : CsOk K H' X S := h.keep ⟨fun a o e n => ⟨s a o e, n⟩, fun _ _ e => e⟩ fun _ _ _ _ _ o e => s _ o e
/-- the object behind a value stands there -/
theorem ob_ok (R0 : Rel K B H0 O env σ H) (s : Same H H1) (h : RR K B O H H1 r v) {C : Nat} {fs : List (Str × T)} (e : obR env[m]? r = some (.obj C fs)) :
    ∃ a c dx us, clsA K C = some c ∧ v = .ref a ∧ H1 a = some (.ins c dx us) ∧ fs.map (·.1) = us.map (·.1) ∧ RpAll K H1 (Ex B O) (fs.map (·.2)) (us.map (·.2)) := by
  unfold obR at e
  split at e
  · rename_i t
    unfold obT at e
    split at e
    · rename_i k
      cases es : stO env[m]? with
      | none => rw [es] at e; cases e
      | some S =>
        rw [es] at e
        obtain ⟨a, ho, z1, z2, z3⟩ := (R0.read es).same s k _ e
        obtain ⟨b, y1, rfl⟩ := rp_ptr h
        rw [z1] at y1
        cases y1
        cases z3 with
        | obj h0 q h2 => exact ⟨a, _, _, _, h0, rfl, z2, q, h2⟩
    · exact h.obj (Option.some.inj e)
  · exact h.obj (Option.some.inj e)
end
section
variable {X : Cx} {EX : L2.St → XK} {e o : Expr} {es : List Expr} {g : En → Res R} {ga : En → Res (List R)} {F : List T → List T → Res R} {j k n m : Nat} {x mt : Str} {p pos apos : Pos}
theorem caR_core {B H0 O env σ H H1} {rs : List R} {vs : List V} {Q : VK} (R0 : Rel X.K B H0 O env σ H) (s : Same H H1) (r1 : RRs X.K B O H H1 rs vs) (hn : rs.length = n)
    (q : Post (XC X.K B O EX σ H) (fun r => ∀ v H', Same H H' → RR X.K B O H H' r v → Q v H') (caR env[m]? F rs)) : SpR X.K n F vs H1 Q (EX σ) := by
  unfold caR at q
  split at q
  · rename_i S es
    split at q
    · rename_i kp
      refine ⟨S, rs.map R.d, Ex B O, fun a z => ?_, (R0.read es).same s, RRs.rp R0 r1 kp, by rw [List.length_map]; exact hn, ?_⟩
      · obtain ⟨o, e, nt⟩ := R0.ex_ntup z
        exact ⟨o, s a o e, nt⟩
      · exact q.mono (fun c pl z H' d a ea s' xx => z H' d a ea (s.trans s') xx) fun r z v H' s' rr => z v H' (s.trans s') (rr.rr s)
    · exact q.elim
  · exact q.elim
theorem ok_post {A C : Type} {xc : Addr → Option T → Prop} {ga : Res A} {f : A → Res C} {okp : C → Prop} (z : Post xc okp (ga.bind f)) : Post xc (fun a => ga = .ok a ∧ Post xc okp (f a)) ga := by
  cases ga with
  | ok rs => exact ⟨rfl, z⟩
  | exc c p => exact z
  | bad => exact z
theorem ej_caR (m : Nat) (C : CalS X.prog X.w X.K X.mg X.base x j (SpR X.K n F)) (hr : Room k X.A) (hjk : j ≤ k) (hx : ∀ σ, PassesAt (L2.CX X.prog X.w) X σ (EX σ)) (hg : Gl X x)
    (ha : AJ X EX (e :: es) ga) (hn : ∀ env rs, ga env = .ok rs → rs.length = n) (hdb : (x == ("__debug__" : Str)) = false := by decide) (he : starEach (e :: es) X.env = (false, eval e X.env) :: starEach es X.env := by rfl) (hpl : (backTo pos (starEach es X.env)).any (·.1) = false := by rfl) :
    EJ X EX (.Call (.Name x p) (e :: es) [] pos) (fCaR m F ga) := by
  obtain ⟨f, fd, ps, h1, h2, h3, h4⟩ := C.ex
  obtain ⟨t, pa, i⟩ := ha.ex
  refine ⟨⟨_, pe_callS h4 (hr.mono hjk) hg h1 h2 h3 hx pa hdb he hpl, fun B H0 O env σ H Q R q => ?_⟩⟩
  refine i B H0 O env σ H _ R ((ok_post q).mono (fun _ _ x => x) fun rs z vs H1 s r1 => ?_)
  exact caR_core R s r1 (hn env rs z.1) z.2
/-! methods, by the class of the object -/
def tMethD (K : PySem.W.Frag) (mt : Str) (alts : List (Nat × Sp)) (E : L2.St → XK) (ta : TE) (t : TA) : TE := fun σ H Q => ta σ H fun x H1 => ∃ C sp c a dx fs, (C, sp) ∈ alts ∧ clsA K C = some c ∧ x = .ref a ∧ H1 a = some (.ins c dx fs) ∧ fs.lookup mt = none ∧ t σ H1 fun vs H2 => sp (x :: vs) H2 Q (E σ)
theorem pe_methD {pl : Sem Bool} {ta : TE} {t : TA} {alts : List (Nat × Sp)} {E : L2.St → XK} (he : PE X o ta) (M : ∀ C sp, (C, sp) ∈ alts → MetS X.prog X.w X.K X.mg X.base C mt j sp) (hr : Room j X.A) (hx : ∀ σ, PassesAt (L2.CX X.prog X.w) X σ (E σ)) (ha : PA X (e :: es) t)
    (hst : starEach (e :: es) X.env = (false, eval e X.env) :: starEach es X.env := by rfl) (hpl : (backTo pos (starEach es X.env)).any (·.1) = false := by rfl)
    (ht : eval (.Call (.Attribute o mt apos) (e :: es) [] pos) X.env = (do
      let ov ← eval o X.env
      standAt apos.atName
      let (f, first) ← holding [ov] (getMethod ov mt pl)
      callWith pos f first (backTo pos (starEach (e :: es) X.env)) (backToKw pos (keywordEach [] X.env))) := by rfl) :
    PE X (.Call (.Attribute o mt apos) (e :: es) [] pos) (tMethD X.K mt alts E ta t) := by
  refine ⟨fun pins s σ H Q I h => ?_⟩
  refine PySem.W.methodCall_KW (pl := pl) (thn (he.run pins s σ H _ I h) fun u s1 ⟨x, H1, I1, rx, C, sp, c, a, dx, fs, mem, ec, ex, ea, l, q⟩ => ?_) ht
  obtain ⟨c', f, fd, ps, ec', hc, hm, hb, F⟩ := (M C sp mem).ex
  rw [ec] at ec'
  cases ec'
  subst ex
  obtain rfl : u = Value.ref a := rx
  refine getmeth_ok I1 ea hc hm l ?_
  refine PySem.W.callWith_K (first := [.ref a]) (h₀ := X.base) I.ok.mod.kin hm.kp (thn (ha.run pos pins s1 σ H1 _ I1 q) fun us s2 ⟨vs, H2, I2, r, q2⟩ => ⟨I2.kIn, ?_⟩) hst hpl
  exact run_fnSD (us := .ref a :: us) (vs := .ref a :: vs) (dvs := []) F hr hb .nil (hx σ) I2 (.cons rfl r) (by rw [List.append_nil]; exact q2)
theorem pe_methD0 {pl : Sem Bool} {ta : TE} {alts : List (Nat × Sp)} {E : L2.St → XK} (he : PE X o ta) (M : ∀ C sp, (C, sp) ∈ alts → MetS X.prog X.w X.K X.mg X.base C mt j sp) (hr : Room j X.A) (hx : ∀ σ, PassesAt (L2.CX X.prog X.w) X σ (E σ))
    (ht : eval (.Call (.Attribute o mt apos) [] [] pos) X.env = (do
      let ov ← eval o X.env
      standAt apos.atName
      let (f, first) ← holding [ov] (getMethod ov mt pl)
      callWith pos f first (backTo pos (starEach [] X.env)) (backToKw pos (keywordEach [] X.env))) := by rfl) :
    PE X (.Call (.Attribute o mt apos) [] [] pos) (tMethD X.K mt alts E ta tNil) := by
  refine ⟨fun pins s σ H Q I h => ?_⟩
  refine PySem.W.methodCall_KW (pl := pl) (thn (he.run pins s σ H _ I h) fun u s1 ⟨x, H1, I1, rx, C, sp, c, a, dx, fs, mem, ec, ex, ea, l, q⟩ => ?_) ht
  obtain ⟨c', f, fd, ps, ec', hc, hm, hb, F⟩ := (M C sp mem).ex
  rw [ec] at ec'
  cases ec'
  subst ex
  obtain rfl : u = Value.ref a := rx
  refine getmeth_ok I1 ea hc hm l ?_
  exact PySem.W.callWith_K0 (first := [.ref a]) I1.kIn hm.kp (run_fnSD (us := [.ref a]) (vs := [.ref a]) (dvs := []) F hr hb .nil (hx σ) I1 (.cons rfl .nil) q)
/-- the alternative by the object's class -/
def altOf {A : Type} (mt : Str) (alts : List (Nat × A)) : Option T → Option A
  | some (.obj C fs) => if (fs.lookup mt).isNone = true then alts.lookup C else none
  | _ => none
theorem lookup_mem {A : Type} {C : Nat} {F : A} : ∀ {l : List (Nat × A)}, l.lookup C = some F → (C, F) ∈ l
  | [], h => by cases h
  | (D, G) :: l, h => by
    rw [List.lookup_cons] at h
    by_cases q : (C == D) = true
    · rw [q] at h
      cases h
      have : C = D := by simpa using q
      rw [this]
      exact List.mem_cons_self
    · have q' : (C == D) = false := by simpa using q
      rw [q'] at h
      exact List.mem_cons_of_mem _ (lookup_mem h)
theorem altOf_ok {A : Type} {alts : List (Nat × A)} {t : Option T} {F : A} (h : altOf mt alts t = some F) : ∃ C fs, t = some (.obj C fs) ∧ (C, F) ∈ alts ∧ (fs.lookup mt).isNone = true := by
  unfold altOf at h
  split at h
  · rename_i C fs
    split at h
    · rename_i c
      exact ⟨C, fs, rfl, lookup_mem h, c⟩
    · cases h
  · cases h
/-- o.m(..), a method that reads cells -/
def fMeR (m : Nat) (mt : Str) (alts : List (Nat × (List T → List T → Res R))) (g : En → Res R) (ga : En → Res (List R)) (env : En) : Res R := (g env).bind fun x => match altOf mt alts (obR env[m]? x) with
  | some F => (ga env).bind fun rs => caR env[m]? F (x :: rs)
  | none => .bad
/-- o.m(..), a method that wants no cells, of several classes -/
def fMeP (m : Nat) (mt : Str) (alts : List (Nat × (List T → Res R))) (g : En → Res R) (ga : En → Res (List R)) (env : En) : Res R := (g env).bind fun x => match altOf mt alts (obR env[m]? x) with
  | some F => (ga env).bind fun rs => callR F (x :: rs)
  | none => .bad
variable {altR : List (Nat × (List T → List T → Res R))} {altP : List (Nat × (List T → Res R))}
theorem ej_meR (m : Nat) (M : ∀ C F, (C, F) ∈ altR → MetS X.prog X.w X.K X.mg X.base C mt j (SpR X.K n F)) (hr : Room k X.A) (hjk : j ≤ k) (hx : ∀ σ, PassesAt (L2.CX X.prog X.w) X σ (EX σ)) (ho : EJ X EX o g) (ha : AJ X EX (e :: es) ga) {pl : Sem Bool} (hn : ∀ env rs, ga env = .ok rs → rs.length + 1 = n)
    (hst : starEach (e :: es) X.env = (false, eval e X.env) :: starEach es X.env := by rfl) (hpl : (backTo pos (starEach es X.env)).any (·.1) = false := by rfl)
    (ht : eval (.Call (.Attribute o mt apos) (e :: es) [] pos) X.env = (do
      let ov ← eval o X.env
      standAt apos.atName
      let (f, first) ← holding [ov] (getMethod ov mt pl)
      callWith pos f first (backTo pos (starEach (e :: es) X.env)) (backToKw pos (keywordEach [] X.env))) := by rfl) :
    EJ X EX (.Call (.Attribute o mt apos) (e :: es) [] pos) (fMeR m mt altR g ga) := by
  obtain ⟨t, pe, i⟩ := ho.ex
  obtain ⟨t', pa, i'⟩ := ha.ex
  refine ⟨⟨_, pe_methD (alts := altR.map fun z => (z.1, SpR X.K n z.2)) pe (fun C sp mem => by
    obtain ⟨z, mz, ez⟩ := List.mem_map.mp mem
    cases ez
    exact M z.1 z.2 mz) (hr.mono hjk) hx pa hst hpl ht, fun B H0 O env σ H Q R p => ?_⟩⟩
  refine i B H0 O env σ H _ R (p.bind.mono (fun _ _ x => x) fun x q v H1 s r1 => ?_)
  split at q
  · rename_i F eF
    obtain ⟨C, fs, eo, mem, cl⟩ := altOf_ok eF
    obtain ⟨a, c, dx, us, ec, rfl, ea, e1, e2⟩ := ob_ok R s r1 eo
    refine ⟨C, _, c, a, dx, us, List.mem_map_of_mem (f := fun z : Nat × (List T → List T → Res Tr.R) => (z.1, SpR X.K n z.2)) mem, ec, rfl, ea, lookup_none e1 cl, ?_⟩
    refine i' B H0 O env σ H1 _ (R.mono s) (((ok_post q).up s).mono (fun _ _ x => x) fun rs z vs H2 s2 r2 => ?_)
    exact caR_core (rs := x :: rs) (vs := .ref a :: vs) R (s.trans s2) ⟨r1.mono s2, r2.down s⟩ (by simp; exact hn env rs z.1) z.2
  · exact q.elim
theorem ej_meR0 (m : Nat) (M : ∀ C F, (C, F) ∈ altR → MetS X.prog X.w X.K X.mg X.base C mt j (SpR X.K 1 F)) (hr : Room k X.A) (hjk : j ≤ k) (hx : ∀ σ, PassesAt (L2.CX X.prog X.w) X σ (EX σ)) (ho : EJ X EX o g) {pl : Sem Bool}
    (ht : eval (.Call (.Attribute o mt apos) [] [] pos) X.env = (do
      let ov ← eval o X.env
      standAt apos.atName
      let (f, first) ← holding [ov] (getMethod ov mt pl)
      callWith pos f first (backTo pos (starEach [] X.env)) (backToKw pos (keywordEach [] X.env))) := by rfl) :
    EJ X EX (.Call (.Attribute o mt apos) [] [] pos) (fMeR m mt altR g fN) := by
  obtain ⟨t, pe, i⟩ := ho.ex
  refine ⟨⟨_, pe_methD0 (alts := altR.map fun z => (z.1, SpR X.K 1 z.2)) pe (fun C sp mem => by
    obtain ⟨z, mz, ez⟩ := List.mem_map.mp mem
    cases ez
    exact M z.1 z.2 mz) (hr.mono hjk) hx ht, fun B H0 O env σ H Q R p => ?_⟩⟩
  refine i B H0 O env σ H _ R (p.bind.mono (fun _ _ x => x) fun x q v H1 s r1 => ?_)
  split at q
  · rename_i F eF
    obtain ⟨C, fs, eo, mem, cl⟩ := altOf_ok eF
    obtain ⟨a, c, dx, us, ec, rfl, ea, e1, e2⟩ := ob_ok R s r1 eo
    refine ⟨C, _, c, a, dx, us, List.mem_map_of_mem (f := fun z : Nat × (List T → List T → Res Tr.R) => (z.1, SpR X.K 1 z.2)) mem, ec, rfl, ea, lookup_none e1 cl, ?_⟩
    exact caR_core (rs := [x]) (vs := [.ref a]) R s ⟨r1, trivial⟩ rfl q
  · exact q.elim
theorem ej_meP (m : Nat) (M : ∀ C F, (C, F) ∈ altP → MetS X.prog X.w X.K X.mg X.base C mt j (SpT X.K n F)) (hr : Room k X.A) (hjk : j ≤ k) (hx : ∀ σ, PassesAt (L2.CX X.prog X.w) X σ (EX σ)) (ho : EJ X EX o g) (ha : AJ X EX (e :: es) ga) {pl : Sem Bool} (hn : ∀ env rs, ga env = .ok rs → rs.length + 1 = n)
    (hst : starEach (e :: es) X.env = (false, eval e X.env) :: starEach es X.env := by rfl) (hpl : (backTo pos (starEach es X.env)).any (·.1) = false := by rfl)
    (ht : eval (.Call (.Attribute o mt apos) (e :: es) [] pos) X.env = (do
      let ov ← eval o X.env
      standAt apos.atName
      let (f, first) ← holding [ov] (getMethod ov mt pl)
      callWith pos f first (backTo pos (starEach (e :: es) X.env)) (backToKw pos (keywordEach [] X.env))) := by rfl) :
    EJ X EX (.Call (.Attribute o mt apos) (e :: es) [] pos) (fMeP m mt altP g ga) := by
  obtain ⟨t, pe, i⟩ := ho.ex
  obtain ⟨t', pa, i'⟩ := ha.ex
  refine ⟨⟨_, pe_methD (alts := altP.map fun z => (z.1, SpT X.K n z.2)) pe (fun C sp mem => by
    obtain ⟨z, mz, ez⟩ := List.mem_map.mp mem
    cases ez
    exact M z.1 z.2 mz) (hr.mono hjk) hx pa hst hpl ht, fun B H0 O env σ H Q R p => ?_⟩⟩
  refine i B H0 O env σ H _ R (p.bind.mono (fun _ _ x => x) fun x q v H1 s r1 => ?_)
  split at q
  · rename_i F eF
    obtain ⟨C, fs, eo, mem, cl⟩ := altOf_ok eF
    obtain ⟨a, c, dx, us, ec, rfl, ea, e1, e2⟩ := ob_ok R s r1 eo
    refine ⟨C, _, c, a, dx, us, List.mem_map_of_mem (f := fun z : Nat × (List T → Res Tr.R) => (z.1, SpT X.K n z.2)) mem, ec, rfl, ea, lookup_none e1 cl, ?_⟩
    refine i' B H0 O env σ H1 _ (R.mono s) (((ok_post q).up s).mono (fun _ _ x => x) fun rs z vs H2 s2 r2 => ?_)
    exact call_core (rs := x :: rs) (vs := .ref a :: vs) R (s.trans s2) ⟨r1.mono s2, r2.down s⟩ (by simp; exact hn env rs z.1) z.2
  · exact q.elim
theorem ej_meP0 (m : Nat) (M : ∀ C F, (C, F) ∈ altP → MetS X.prog X.w X.K X.mg X.base C mt j (SpT X.K 1 F)) (hr : Room k X.A) (hjk : j ≤ k) (hx : ∀ σ, PassesAt (L2.CX X.prog X.w) X σ (EX σ)) (ho : EJ X EX o g) {pl : Sem Bool}
    (ht : eval (.Call (.Attribute o mt apos) [] [] pos) X.env = (do
      let ov ← eval o X.env
      standAt apos.atName
      let (f, first) ← holding [ov] (getMethod ov mt pl)
      callWith pos f first (backTo pos (starEach [] X.env)) (backToKw pos (keywordEach [] X.env))) := by rfl) :
    EJ X EX (.Call (.Attribute o mt apos) [] [] pos) (fMeP m mt altP g fN) := by
  obtain ⟨t, pe, i⟩ := ho.ex
  refine ⟨⟨_, pe_methD0 (alts := altP.map fun z => (z.1, SpT X.K 1 z.2)) pe (fun C sp mem => by
    obtain ⟨z, mz, ez⟩ := List.mem_map.mp mem
    cases ez
    exact M z.1 z.2 mz) (hr.mono hjk) hx ht, fun B H0 O env σ H Q R p => ?_⟩⟩
  refine i B H0 O env σ H _ R (p.bind.mono (fun _ _ x => x) fun x q v H1 s r1 => ?_)
  split at q
  · rename_i F eF
    obtain ⟨C, fs, eo, mem, cl⟩ := altOf_ok eF
    obtain ⟨a, c, dx, us, ec, rfl, ea, e1, e2⟩ := ob_ok R s r1 eo
    refine ⟨C, _, c, a, dx, us, List.mem_map_of_mem (f := fun z : Nat × (List T → Res Tr.R) => (z.1, SpT X.K 1 z.2)) mem, ec, rfl, ea, lookup_none e1 cl, ?_⟩
    exact call_core (rs := [x]) (vs := [.ref a]) R s ⟨r1, trivial⟩ rfl q
  · exact q.elim
end
end Tr
namespace Tr
open PySem L2
/-! ### expressions that change cells -/
def Dom (H H' : Hp) : Prop := ∀ a, H' a = none → H a = none
inductive ResE (A : Type) where
  | ok (a : A) (e : En) | exc (e : En) (c : Nat) (p : Option T) | bad
def ResE.bind {A C : Type} (r : ResE A) (f : A → En → ResE C) : ResE C := match r with
  | .ok a e => f a e
  | .exc e c p => .exc e c p
  | .bad => .bad
/-- what changes nothing -/
def Res.lift {A : Type} (r : Res A) (env : En) : ResE A := match r with
  | .ok a => .ok a env
  | .exc c p => .exc env c p
  | .bad => .bad
def ResE.out {A : Type} (r : ResE A) (k : A → En → Out) : Out := match r with
  | .ok a e => k a e
  | .exc e c p => .exc e c p
  | .bad => .bad
def PostE (K : PySem.W.Frag) (B : Bs) (H0 : Hp) (O : Ow) (EX : L2.St → XK) (σ : L2.St) (H : Hp) {A : Type} (okp : A → En → Ow → Hp → Prop) : ResE A → Prop
  | .ok a e => ∀ O' H', Rel K B H0 O' e σ H' → Keep (Ex B O) H (Ex B O') H' → Dom H H' → okp a e O' H'
  | .exc e c p => ∀ O' H' d a, clsA K c = some a → Rel K B H0 O' e σ H' → Keep (Ex B O) H (Ex B O') H' → XRel K (Ex B O') H' p d → EX σ (.ref a) d H'
  | .bad => False
/-- an expression; a test; arguments -/
structure EWJ (X : Cx) (EX : L2.St → XK) (e : Expr) (f : En → ResE T) : Prop where
  ex : ∃ t : TE, PE X e t ∧ ∀ B H0 O env σ H (Q : VK), Rel X.K B H0 O env σ H → PostE X.K B H0 O EX σ H (fun r _ O' H' => ∀ v, Rp X.K H' (Ex B O') r v → Q v H') (f env) → t σ H Q
structure BWJ (X : Cx) (EX : L2.St → XK) (e : Expr) (f : En → ResE Bool) : Prop where
  ex : ∃ t : TT, PT X e t ∧ ∀ B H0 O env σ H (Q : Bool → Hp → Prop), Rel X.K B H0 O env σ H → PostE X.K B H0 O EX σ H (fun b _ _ H' => Q b H') (f env) → t σ H Q
structure AWJ (X : Cx) (EX : L2.St → XK) (es : List Expr) (f : En → ResE (List T)) : Prop where
  ex : ∃ t : TA, PA X es t ∧ ∀ B H0 O env σ H (Q : List V → Hp → Prop), Rel X.K B H0 O env σ H → PostE X.K B H0 O EX σ H (fun rs _ O' H' => ∀ vs, RpAll X.K H' (Ex B O') rs vs → Q vs H') (f env) → t σ H Q
section
variable {K : PySem.W.Frag} {B : Bs} {H0 H H1 H2 H' : Hp} {O O1 : Ow} {env : En} {σ : L2.St} {m : Nat} {S : List T} {r : R} {v : V} {X X' : Xs} {EX : L2.St → XK}
theorem Dom.same (s : Same H H') : Dom H H' := fun a h => s.free h
theorem Dom.trans (a : Dom H H1) (b : Dom H1 H2) : Dom H H2 := fun x h => a x (b x h)
theorem Dom.refl : Dom H H := fun _ h => h
theorem PostE.up {A : Type} {okp okp' : A → En → Ow → Hp → Prop} {r : ResE A} (h : PostE K B H0 O EX σ H okp r) (k : Keep (Ex B O) H (Ex B O1) H1) (d : Dom H H1) (i : ∀ a e O' H', okp a e O' H' → okp' a e O' H') : PostE K B H0 O1 EX σ H1 okp' r := by
  cases r with
  | ok a e => exact fun O' H' R kp dm => i _ _ _ _ (h O' H' R (k.trans kp) (d.trans dm))
  | exc e c p => exact fun O' H' dd a ea R kp x => h O' H' dd a ea R (k.trans kp) x
  | bad => exact h
theorem PostE.bind {A C : Type} {okp : C → En → Ow → Hp → Prop} {r : ResE A} {f : A → En → ResE C} (h : PostE K B H0 O EX σ H okp (r.bind f)) :
    PostE K B H0 O EX σ H (fun a e O1 H1 => r = .ok a e ∧ PostE K B H0 O1 EX σ H1 okp (f a e)) r := by
  cases r with
  | ok a e => exact fun O' H' R kp dm => ⟨rfl, PostE.up (r := f a e) h kp dm fun _ _ _ _ z => z⟩
  | exc e c p => exact h
  | bad => exact h
theorem PostE.mono {A : Type} {okp okp' : A → En → Ow → Hp → Prop} {r : ResE A} (h : PostE K B H0 O EX σ H okp r) (i : ∀ a e O' H', Rel K B H0 O' e σ H' → Keep (Ex B O) H (Ex B O') H' → Dom H H' → okp a e O' H' → okp' a e O' H') : PostE K B H0 O EX σ H okp' r := by
  cases r with
  | ok a e => exact fun O' H' R kp dm => i _ _ _ _ R kp dm (h O' H' R kp dm)
  | exc e c p => exact h
  | bad => exact h
end
/-- an expression that changes nothing -/
def kpE (r : R) (env : En) : ResE T := if r.kp = true then .ok r.d env else .bad
def kpsE (rs : List R) (env : En) : ResE (List T) := if rs.all R.kp = true then .ok (rs.map R.d) env else .bad
def wE (f : En → Res R) (env : En) : ResE T := ((f env).lift env).bind kpE
def wB (f : En → Res Bool) (env : En) : ResE Bool := (f env).lift env
def wA (f : En → Res (List R)) (env : En) : ResE (List T) := ((f env).lift env).bind kpsE
def wNil (env : En) : ResE (List T) := .ok [] env
def wCons (f : En → ResE T) (g : En → ResE (List T)) (env : En) : ResE (List T) := (f env).bind fun r env => (g env).bind fun rs env => .ok (r :: rs) env
section
variable {X : Cx} {EX : L2.St → XK} {e c : Expr} {es : List Expr} {f : En → Res R} {fe : En → ResE T} {fb : En → Res Bool} {fa : En → Res (List R)} {g : En → ResE (List T)}
theorem ew_of (he : EJ X EX e f) : EWJ X EX e (wE f) := by
  obtain ⟨t, pe, i⟩ := he.ex
  refine ⟨⟨t, pe, fun B H0 O env σ H Q R p => ?_⟩⟩
  refine i B H0 O env σ H Q R ?_
  unfold wE at p
  cases ef : f env with
  | ok r =>
    rw [ef] at p
    intro v H' s rr
    simp only [Res.lift, ResE.bind, kpE] at p
    split at p
    · rename_i kp
      exact p O H' (R.mono s) (Same.keepB s) (Dom.same s) v (rr.rp R kp)
    · exact p.elim
  | exc c pl =>
    rw [ef] at p
    exact fun H' d a ea s x => p O H' d a ea (R.mono s) (Same.keepB s) x
  | bad => rw [ef] at p; exact p.elim
theorem bw_of (hb : BJ X EX c fb) : BWJ X EX c (wB fb) := by
  obtain ⟨t, pe, i⟩ := hb.ex
  refine ⟨⟨t, pe, fun B H0 O env σ H Q R p => ?_⟩⟩
  refine i B H0 O env σ H Q R ?_
  unfold wB at p
  cases ef : fb env with
  | ok r =>
    rw [ef] at p
    exact fun H' s => p O H' (R.mono s) (Same.keepB s) (Dom.same s)
  | exc c pl =>
    rw [ef] at p
    exact fun H' d a ea s x => p O H' d a ea (R.mono s) (Same.keepB s) x
  | bad => rw [ef] at p; exact p.elim
theorem aw_of (ha : AJ X EX es fa) : AWJ X EX es (wA fa) := by
  obtain ⟨t, pe, i⟩ := ha.ex
  refine ⟨⟨t, pe, fun B H0 O env σ H Q R p => ?_⟩⟩
  refine i B H0 O env σ H Q R ?_
  unfold wA at p
  cases ef : fa env with
  | ok r =>
    rw [ef] at p
    intro v H' s rr
    simp only [Res.lift, ResE.bind, kpsE] at p
    split at p
    · rename_i kp
      exact p O H' (R.mono s) (Same.keepB s) (Dom.same s) v (RRs.rp R rr kp)
    · exact p.elim
  | exc c pl =>
    rw [ef] at p
    exact fun H' d a ea s x => p O H' d a ea (R.mono s) (Same.keepB s) x
  | bad => rw [ef] at p; exact p.elim
theorem aw_nil : AWJ X EX [] wNil := ⟨⟨_, pa_nil, fun B H0 O env σ H Q R p => p O H R Keep.refl Dom.refl [] .nil⟩⟩
theorem aw_cons (h : EWJ X EX e fe) (k : AWJ X EX es g) (hs : starEach (e :: es) X.env = (false, eval e X.env) :: starEach es X.env := by rfl) : AWJ X EX (e :: es) (wCons fe g) := by
  obtain ⟨t, pe, i⟩ := h.ex
  obtain ⟨t', pa, i'⟩ := k.ex
  refine ⟨⟨_, pa_cons pe pa hs, fun B H0 O env σ H Q R p => ?_⟩⟩
  refine i B H0 O env σ H _ R (p.bind.mono fun r e1 O1 H1 R1 k1 d1 ⟨_, q⟩ v rv => ?_)
  refine i' B H0 O1 e1 σ H1 _ R1 (q.bind.mono fun rs e2 O2 H2 R2 k2 d2 ⟨_, q2⟩ vs rvs => ?_)
  exact q2 O2 H2 R2 Keep.refl Dom.refl (v :: vs) (.cons (rv.keep k2) rvs)
end
/-! ### calls that change cells -/
def toE (m : Nat) (env : En) : RW → ResE T
  | .ok S r => .ok r (env.set m (.st S))
  | .exc S c p => .exc (env.set m (.st S)) c p
  | .bad => .bad
def caW (m : Nat) (F : List T → List T → RW) (rs : List T) (env : En) : ResE T := match env[m]? with
  | some (.st S) => toE m env (F S (rs))
  | _ => .bad
def wCa (m : Nat) (F : List T → List T → RW) (g : En → ResE (List T)) (env : En) : ResE T := (g env).bind (caW m F)
def wMe (m : Nat) (mt : Str) (alts : List (Nat × (List T → List T → RW))) (f : En → ResE T) (g : En → ResE (List T)) (env : En) : ResE T := (f env).bind fun x env => match altOf mt alts (obT env[m]? x) with
  | some F => (g env).bind fun rs env => caW m F (x :: rs) env
  | none => .bad
/-- C(..): a new cell -/
def mkWo (m : Nat) (env : En) (k : Nat) : RW → ResE T
  | .ok S .non => .ok (.ptr k) (env.set m (.st S))
  | .exc S c p => .exc (env.set m (.st S)) c p
  | _ => .bad
def mkW (m : Nat) (C : Nat) (F : List T → List T → RW) (rs : List T) (env : En) : ResE T := match env[m]? with
  | some (.st S) => mkWo m env S.length (F (S ++ [.obj C []]) (.ptr S.length :: rs))
  | _ => .bad
def wMk (m : Nat) (C : Nat) (F : List T → List T → RW) (g : En → ResE (List T)) (env : En) : ResE T := (g env).bind (mkW m C F)
/-- a class that may be called -/
structure MakS (P : Program) (w : World) (K : PySem.W.Frag) (mg : Str → Option Value) (base : Heap) (x : Str) (C : Nat) (k : Nat) (sp : Sp) : Prop where
  ex : ∃ (c f : Addr) (fd : FuncData) (ps : List Str), clsA K C = some c ∧ mg x = some (.ref c) ∧ Mk K c f ∧ Binds K fd ps [] ∧ FnOk P w K mg base (L2.CX P w) k f fd ps sp
section
variable {K : PySem.W.Frag} {B : Bs} {H0 H H1 H2 H' : Hp} {O O1 : Ow} {env : En} {σ : L2.St} {m : Nat} {S : List T} {v : V} {EX : L2.St → XK}
theorem Cells.wbeg {P : Ow} {A : List Addr} (R0 : Rel K B H0 O env σ H) (C : Cells K B O H S P A) : WBeg K (slP B P) A H S :=
  let F := R0.cellsF C
  ⟨F.th, F.nd, fun a m => (F.new a m).2, C.lA, C.own⟩
/-- the frame behind a call -/
theorem Rel.wend {P : Ow} {A A' : List Addr} {S' : List T} (R0 : Rel K B H0 O env σ H) (es : env[m]? = some (.st S)) (C : Cells K B O H S P A) (w : WEnd K (slP B P) A H S' A' H') :
    ∃ O', Rel K B H0 O' (env.set m (.st S')) σ H' ∧ Keep (Ex B O) H (Ex B O') H' ∧ Dom H H' ∧ Ex B O' = xw (slP B P) A' := by
  obtain ⟨R1, k1, C1⟩ := R0.cellsTo es C w.pre w.len w.nd w.new w.ag w.own
  refine ⟨_, R1, k1, fun a h => ?_, C1.ex⟩
  cases q : H a with
  | none => rfl
  | some o =>
    by_cases c : a ∈ A
    · obtain ⟨j, e⟩ := List.getElem?_of_mem c
      have e' := w.pre j a e
      have hj : j < S'.length := by rw [← w.len]; exact (List.getElem?_eq_some_iff.mp e').1
      obtain ⟨b, ho, z1, z2, _⟩ := w.own j _ (List.getElem?_eq_getElem hj)
      have z1' : A'[j]? = some b := z1
      rw [e'] at z1'
      cases z1'
      rw [h] at z2; cases z2
    · rw [w.ag a o q c] at h; cases h
theorem caW_core {n : Nat} {F : List T → List T → RW} {rs : List T} {vs : List V} {Q : VK} {E : XK} (R0 : Rel K B H0 O env σ H) (ra : RpAll K H (Ex B O) (rs) vs) (hn : rs.length = n)
    (q : PostE K B H0 O (fun _ => E) σ H (fun r _ O' H' => ∀ v, Rp K H' (Ex B O') r v → Q v H') (caW m F rs env)) : SpW K n F vs H Q E := by
  unfold caW at q
  split at q
  · rename_i S es
    obtain ⟨P, A, C⟩ := R0.cells_of es
    refine ⟨S, rs, slP B P, A, C.wbeg R0, C.ex ▸ ra, hn, ?_⟩
    cases eF : F S (rs) with
    | ok S' r =>
      rw [eF] at q
      intro v H' A' we rx
      obtain ⟨O', R1, k1, d1, e1⟩ := R0.wend es C we
      exact q O' H' R1 k1 d1 v (e1.symm ▸ rx)
    | exc S' c p =>
      rw [eF] at q
      intro d a H' A' ea we x
      obtain ⟨O', R1, k1, d1, e1⟩ := R0.wend es C we
      exact q O' H' d a ea R1 k1 (e1.symm ▸ x)
    | bad => rw [eF] at q; exact q.elim
  · exact q.elim
theorem PostE.ex' {A : Type} {okp : A → En → Ow → Hp → Prop} {r : ResE A} (h : PostE K B H0 O EX σ H okp r) : PostE K B H0 O (fun _ => EX σ) σ H okp r := by
  cases r with
  | ok a e => exact h
  | exc e c p => exact h
  | bad => exact h
end
section
variable {X : Cx} {EX : L2.St → XK} {e o : Expr} {es : List Expr} {f : En → ResE T} {g : En → ResE (List T)} {F : List T → List T → RW} {j k n m : Nat} {x mt : Str} {p pos apos : Pos} {C : Nat}
theorem ew_ca (m : Nat) (C : CalS X.prog X.w X.K X.mg X.base x j (SpW X.K n F)) (hr : Room k X.A) (hjk : j ≤ k) (hx : ∀ σ, PassesAt (L2.CX X.prog X.w) X σ (EX σ)) (hg : Gl X x)
    (ha : AWJ X EX (e :: es) g) (hn : ∀ env rs e', g env = .ok rs e' → rs.length = n) (hdb : (x == ("__debug__" : Str)) = false := by decide) (he : starEach (e :: es) X.env = (false, eval e X.env) :: starEach es X.env := by rfl) (hpl : (backTo pos (starEach es X.env)).any (·.1) = false := by rfl) :
    EWJ X EX (.Call (.Name x p) (e :: es) [] pos) (wCa m F g) := by
  obtain ⟨f, fd, ps, h1, h2, h3, h4⟩ := C.ex
  obtain ⟨t, pa, i⟩ := ha.ex
  refine ⟨⟨_, pe_callS h4 (hr.mono hjk) hg h1 h2 h3 hx pa hdb he hpl, fun B H0 O env σ H Q R q => ?_⟩⟩
  refine i B H0 O env σ H _ R (q.bind.mono fun rs e1 O1 H1 R1 k1 d1 ⟨eg, q1⟩ vs rv => ?_)
  exact caW_core R1 rv (hn env rs e1 eg) q1.ex'
theorem ob_okW {K : PySem.W.Frag} {B : Bs} {H0 H : Hp} {O : Ow} {env : En} {σ : L2.St} {r : T} {v : V} (R0 : Rel K B H0 O env σ H) (h : Rp K H (Ex B O) r v) {C : Nat} {fs : List (Str × T)} (e : obT env[m]? r = some (.obj C fs)) :
    ∃ a c dx us, clsA K C = some c ∧ v = .ref a ∧ H a = some (.ins c dx us) ∧ fs.map (·.1) = us.map (·.1) := by
  unfold obT at e
  split at e
  · rename_i k
    cases es : stO env[m]? with
    | none => rw [es] at e; cases e
    | some S =>
      rw [es] at e
      obtain ⟨a, ho, z1, z2, z3⟩ := R0.read es k _ e
      obtain ⟨b, y1, rfl⟩ := rp_ptr h
      rw [z1] at y1
      cases y1
      cases z3 with
      | obj h0 q h2 => exact ⟨a, _, _, _, h0, rfl, z2, q⟩
  · rw [Option.some.inj e] at h
    cases h with
    | obj h0 h1 h2 h3 h4 h5 => exact ⟨_, _, _, _, h0, rfl, h1, h3⟩
variable {altW : List (Nat × (List T → List T → RW))}
theorem ew_me (m : Nat) (M : ∀ C F, (C, F) ∈ altW → MetS X.prog X.w X.K X.mg X.base C mt j (SpW X.K n F)) (hr : Room k X.A) (hjk : j ≤ k) (hx : ∀ σ, PassesAt (L2.CX X.prog X.w) X σ (EX σ)) (ho : EWJ X EX o f) (ha : AWJ X EX (e :: es) g) {pl : Sem Bool} (hn : ∀ env rs e', g env = .ok rs e' → rs.length + 1 = n)
    (hst : starEach (e :: es) X.env = (false, eval e X.env) :: starEach es X.env := by rfl) (hpl : (backTo pos (starEach es X.env)).any (·.1) = false := by rfl)
    (ht : eval (.Call (.Attribute o mt apos) (e :: es) [] pos) X.env = (do
      let ov ← eval o X.env
      standAt apos.atName
      let (f, first) ← holding [ov] (getMethod ov mt pl)
      callWith pos f first (backTo pos (starEach (e :: es) X.env)) (backToKw pos (keywordEach [] X.env))) := by rfl) :
    EWJ X EX (.Call (.Attribute o mt apos) (e :: es) [] pos) (wMe m mt altW f g) := by
  obtain ⟨t, pe, i⟩ := ho.ex
  obtain ⟨t', pa, i'⟩ := ha.ex
  refine ⟨⟨_, pe_methD (alts := altW.map fun z => (z.1, SpW X.K n z.2)) pe (fun C sp mem => by
    obtain ⟨z, mz, ez⟩ := List.mem_map.mp mem
    cases ez
    exact M z.1 z.2 mz) (hr.mono hjk) hx pa hst hpl ht, fun B H0 O env σ H Q R p => ?_⟩⟩
  refine i B H0 O env σ H _ R (p.bind.mono fun x e1 O1 H1 R1 k1 d1 ⟨ex, q⟩ v rv => ?_)
  split at q
  · rename_i F eF
    obtain ⟨C, fs, eo, mem, cl⟩ := altOf_ok eF
    obtain ⟨a, c, dx, us, ec, rfl, ea, ek⟩ := ob_okW R1 rv eo
    refine ⟨C, _, c, a, dx, us, List.mem_map_of_mem (f := fun z : Nat × (List T → List T → RW) => (z.1, SpW X.K n z.2)) mem, ec, rfl, ea, lookup_none ek cl, ?_⟩
    refine i' B H0 O1 e1 σ H1 _ R1 (q.bind.mono fun rs e2 O2 H2 R2 k2 d2 ⟨eg, q2⟩ vs rvs => ?_)
    exact caW_core (rs := x :: rs) (vs := .ref a :: vs) R2 (.cons (rv.keep k2) rvs) (by simp; exact hn e1 rs e2 eg) q2.ex'
  · exact q.elim
theorem ew_me0 (m : Nat) (M : ∀ C F, (C, F) ∈ altW → MetS X.prog X.w X.K X.mg X.base C mt j (SpW X.K 1 F)) (hr : Room k X.A) (hjk : j ≤ k) (hx : ∀ σ, PassesAt (L2.CX X.prog X.w) X σ (EX σ)) (ho : EWJ X EX o f) {pl : Sem Bool}
    (ht : eval (.Call (.Attribute o mt apos) [] [] pos) X.env = (do
      let ov ← eval o X.env
      standAt apos.atName
      let (f, first) ← holding [ov] (getMethod ov mt pl)
      callWith pos f first (backTo pos (starEach [] X.env)) (backToKw pos (keywordEach [] X.env))) := by rfl) :
    EWJ X EX (.Call (.Attribute o mt apos) [] [] pos) (wMe m mt altW f wNil) := by
  obtain ⟨t, pe, i⟩ := ho.ex
  refine ⟨⟨_, pe_methD0 (alts := altW.map fun z => (z.1, SpW X.K 1 z.2)) pe (fun C sp mem => by
    obtain ⟨z, mz, ez⟩ := List.mem_map.mp mem
    cases ez
    exact M z.1 z.2 mz) (hr.mono hjk) hx ht, fun B H0 O env σ H Q R p => ?_⟩⟩
  refine i B H0 O env σ H _ R (p.bind.mono fun x e1 O1 H1 R1 k1 d1 ⟨ex, q⟩ v rv => ?_)
  split at q
  · rename_i F eF
    obtain ⟨C, fs, eo, mem, cl⟩ := altOf_ok eF
    obtain ⟨a, c, dx, us, ec, rfl, ea, ek⟩ := ob_okW R1 rv eo
    refine ⟨C, _, c, a, dx, us, List.mem_map_of_mem (f := fun z : Nat × (List T → List T → RW) => (z.1, SpW X.K 1 z.2)) mem, ec, rfl, ea, lookup_none ek cl, ?_⟩
    exact caW_core (rs := [x]) (vs := [.ref a]) R1 (.cons rv .nil) rfl (show PostE X.K B H0 O1 EX σ H1 _ (caW m F [x] e1) from q).ex'
  · exact q.elim
theorem mkW_core {B H0 O env σ H} {rs : List T} {vs : List V} {Q : VK} {x dx c : Addr} (ec : clsA X.K C = some c) (R0 : Rel X.K B H0 O env σ H) (r : RpAll X.K H (Ex B O) (rs) vs) (hn : rs.length + 1 = n) (nx : H x = none) (ndx : H dx = none) (ne : dx ≠ x)
    (q : PostE X.K B H0 O EX σ H (fun r _ O' H' => ∀ v, Rp X.K H' (Ex B O') r v → Q v H') (mkW m C F rs env)) :
    SpW X.K n F (.ref x :: vs) (upd (upd H dx (.own x)) x (.ins c dx [])) (fun v H2 => v = .non ∧ Q (.ref x) H2) (EX σ) := by
  unfold mkW at q
  split at q
  · rename_i S es
    have s1 : Same H (upd (upd H dx (.own x)) x (.ins c dx [])) := fun b o e => by
      rw [upd_ne (ne_of_none e nx), upd_ne (ne_of_none e ndx)]; exact e
    have hm : m < env.length := (List.getElem?_eq_some_iff.mp es).1
    obtain ⟨O2, R2, k2, cs2⟩ := R0.newC (t := .obj C []) es s1 nx upd_same (.obj ec rfl .nil)
    have es2 : (env.set m (.st (S ++ [.obj C []])))[m]? = some (.st (S ++ [.obj C []])) := by rw [List.getElem?_set, if_pos rfl, if_pos hm]
    refine caW_core (m := m) (rs := .ptr S.length :: rs) R2 (.cons (.ptr cs2) (r.keep k2)) (by simpa using hn) ?_
    unfold caW
    rw [es2]
    simp only
    cases eF : F (S ++ [.obj C []]) (.ptr S.length :: rs) with
    | ok S' r' =>
      rw [eF] at q
      cases r' with
      | non =>
        intro O' H' R3 k3 d3 v rv
        have ee : (env.set m (.st (S ++ [.obj C []]))).set m (.st S') = env.set m (.st S') := by rw [List.set_set]
        refine ⟨rp_non rv, q O' H' (ee ▸ R3) (k2.trans k3) ((Dom.same s1).trans d3) (.ref x) ?_⟩
        exact Rp.ptr (k3.c _ _ cs2)
      | _ => exact q.elim
    | exc S' c p =>
      rw [eF] at q
      intro O' H' d a ea R3 k3 x
      have ee : (env.set m (.st (S ++ [.obj C []]))).set m (.st S') = env.set m (.st S') := by rw [List.set_set]
      exact q O' H' d a ea (ee ▸ R3) (k2.trans k3) x
    | bad => rw [eF] at q; exact q.elim
  · exact q.elim
theorem ew_mk (m : Nat) (M : MakS X.prog X.w X.K X.mg X.base x C j (SpW X.K n F)) (hr : Room k X.A) (hjk : j + 1 ≤ k) (hx : ∀ σ, PassesAt (L2.CX X.prog X.w) X σ (EX σ)) (hg : Gl X x) (ha : AWJ X EX (e :: es) g) (hn : ∀ env rs e', g env = .ok rs e' → rs.length + 1 = n)
    (hdb : (x == ("__debug__" : Str)) = false := by decide) (he : starEach (e :: es) X.env = (false, eval e X.env) :: starEach es X.env := by rfl) (hpl : (backTo pos (starEach es X.env)).any (·.1) = false := by rfl) :
    EWJ X EX (.Call (.Name x p) (e :: es) [] pos) (wMk m C F g) := by
  obtain ⟨cc, f, fd, ps, h0, h1, h2, h3, h4⟩ := M.ex
  obtain ⟨t, pa, i⟩ := ha.ex
  refine ⟨⟨_, pe_makeS h2 h4 (hr.mono hjk) hg h1 h3 hx pa hdb he hpl, fun B H0 O env σ H Q R q => ?_⟩⟩
  refine i B H0 O env σ H _ R (q.bind.mono fun rs e1 O1 H1 R1 k1 d1 ⟨eg, q1⟩ vs rv x dx nx ndx ne => ?_)
  exact mkW_core h0 R1 rv (hn env rs e1 eg) nx ndx ne q1
theorem ew_mk0 (m : Nat) (M : MakS X.prog X.w X.K X.mg X.base x C j (SpW X.K 1 F)) (hr : Room k X.A) (hjk : j + 1 ≤ k) (hx : ∀ σ, PassesAt (L2.CX X.prog X.w) X σ (EX σ)) (hg : Gl X x)
    (hdb : (x == ("__debug__" : Str)) = false := by decide) :
    EWJ X EX (.Call (.Name x p) [] [] pos) (wMk m C F wNil) := by
  obtain ⟨cc, f, fd, ps, h0, h1, h2, h3, h4⟩ := M.ex
  refine ⟨⟨_, pe_makeS0 h2 h4 (hr.mono hjk) hg h1 h3 hx hdb, fun B H0 O env σ H Q R q => ?_⟩⟩
  intro x dx nx ndx ne
  exact mkW_core (rs := []) h0 R .nil rfl nx ndx ne q
end
theorem wNil_len : ∀ (env : En) rs e', wNil env = .ok rs e' → rs.length = 0 := fun env rs e' h => by cases h; rfl
theorem wCons_len {f : En → ResE T} {g : En → ResE (List T)} {n : Nat} (hg : ∀ env rs e', g env = .ok rs e' → rs.length = n) : ∀ env rs e', wCons f g env = .ok rs e' → rs.length = n + 1 := fun env rs e' h => by
  unfold wCons at h
  cases e1 : f env with
  | ok r e2 =>
    rw [e1] at h
    simp only [ResE.bind] at h
    cases e3 : g e2 with
    | ok rs' e4 =>
      rw [e3] at h
      cases h
      simp [hg _ _ _ e3]
    | exc _ _ _ => rw [e3] at h; cases h
    | bad => rw [e3] at h; cases h
  | exc _ _ _ => rw [e1] at h; cases h
  | bad => rw [e1] at h; cases h
theorem wA_len {f : En → Res (List R)} {n : Nat} (hf : ∀ env rs, f env = .ok rs → rs.length = n) : ∀ env rs e', wA f env = .ok rs e' → rs.length = n := fun env rs e' h => by
  unfold wA at h
  cases e1 : f env with
  | ok r =>
    rw [e1] at h
    simp only [Res.lift, ResE.bind, kpsE] at h
    split at h
    · cases h; rw [List.length_map]; exact hf env _ e1
    · cases h
  | exc _ _ => rw [e1] at h; cases h
  | bad => rw [e1] at h; cases h
end Tr
namespace Tr
open PySem L2
/-! ### statements with expressions that change cells -/
def fDropW (f : En → ResE T) (env : En) : Out := (f env).out fun _ env => .nx env
def fSetW (i : Nat) (f : En → ResE T) (env : En) : Out := (f env).out fun t env => .nx (env.set i (.fz t))
def fRetW (f : En → ResE T) (env : En) : Out := (f env).out fun t env => .rm (.sh t) env
def fIfW (c : En → ResE Bool) (f g : En → Out) (env : En) : Out := (c env).out fun b env => if b then f env else g env
section
variable {X : Cx} {EX : L2.St → XK} {e c : Expr} {a b : List Stmt} {f g : En → Out} {u : En → ResE T} {w : En → ResE Bool} {pos pos' : Pos} {x : Str}
theorem eOf_post {A : Type} {B : Bs} {H0 H : Hp} {O : Ow} {σ : L2.St} {D : Ends} {r : ResE A} {k : A → En → Out} (h : SPost X EX B H0 O H D (r.out k)) :
    PostE X.K B H0 O EX σ H (fun a e O' H' => Rel X.K B H0 O' e σ H' ∧ SPost X EX B H0 O' H' D (k a e)) r := by
  cases r with
  | ok a e => exact fun O' H' R kp dm => ⟨R, SPost.up (o := k a e) h kp⟩
  | exc e c p => exact fun O' H' d a ea R kp x => h O' σ H' d a ea R kp x
  | bad => exact h
theorem sj_dropW (he : EWJ X EX e u) (hs : swapsWith e none pos.line X.env = pure false := by rfl) : SJ X EX (.Expr e pos) (fDropW u) := by
  obtain ⟨t, pe, k⟩ := he.ex
  refine ⟨⟨_, ps_expr pe hs, fun B H0 O env σ H D R p => ?_⟩⟩
  exact k B H0 O env σ H _ R ((eOf_post p).mono fun t e O' H' R' k' d' ⟨_, z⟩ v rv => z O' σ H' R' Keep.refl)
theorem sj_setW (i : Nat) (he : EWJ X EX e u) (hN : X.N.Nodup) (hi : X.N[i]? = some x := by rfl) (hx : Loc X.env.scope x := by first | exact Or.inl rfl | exact Or.inr rfl) (hs : swapsWith e (some (.Name x pos')) pos.line X.env = pure false := by rfl)
    (hf : X.fn x = true ∨ X.env.scope.names.lookup x = some .local := by first | exact .inl rfl | exact .inr rfl) : SJ X EX (.Assign [.Name x pos'] e pos) (fSetW i u) := by
  obtain ⟨t, pe, k⟩ := he.ex
  refine ⟨⟨_, ps_set hN hi hx pe hs hf, fun B H0 O env σ H D R p => ?_⟩⟩
  refine k B H0 O env σ H _ R ((eOf_post p).mono fun t e O' H' R' k' d' ⟨_, z⟩ v rv => ?_)
  obtain ⟨O2, R2, k2, _⟩ := R'.store (r := .sh t) (Same.refl _) rv rfl i
  exact z O2 _ H' R2 k2
theorem sj_retW (he : EWJ X EX e u) : SJ X EX (.Return (some e) pos) (fRetW u) := by
  obtain ⟨t, pe, k⟩ := he.ex
  refine ⟨⟨_, ps_ret pe, fun B H0 O env σ H D R p => ?_⟩⟩
  exact k B H0 O env σ H _ R ((eOf_post p).mono fun t e O' H' R' k' d' ⟨_, z⟩ v rv => z O' σ H' v R' Keep.refl rv)
theorem sj_ifW (hc : BWJ X EX c w) (ha : SsJ X EX a f) (hb : SsJ X EX b g) : SJ X EX (.If c a b pos) (fIfW w f g) := by
  obtain ⟨t, pt, k⟩ := hc.ex
  obtain ⟨t1, p1, k1⟩ := ha.ex
  obtain ⟨t2, p2, k2⟩ := hb.ex
  refine ⟨⟨_, ps_if pt p1 p2, fun B H0 O env σ H D R p => ?_⟩⟩
  refine k B H0 O env σ H _ R ((eOf_post p).mono fun t e O' H' R' k' d' ⟨_, z⟩ => ?_)
  cases t with
  | true => exact iteT (k1 B H0 O' e σ H' D R' z)
  | false => exact iteF (k2 B H0 O' e σ H' D R' z)
end
/-! ### statements that change a cell -/
def lstC (S : List T) (x : R) : Option (Nat × List T) := match x with
  | .sh (.ptr k) => (match S[k]? with
    | some (.lst l) => some (k, l)
    | _ => none)
  | _ => none
def anyC (S : List T) (x : R) : Option (Nat × T) := match x with
  | .sh (.ptr k) => (match S[k]? with
    | some t => some (k, t)
    | none => none)
  | _ => none
def objC (S : List T) (x : R) : Option (Nat × Nat × List (Str × T)) := match x with
  | .sh (.ptr k) => (match S[k]? with
    | some (.obj C fs) => some (k, C, fs)
    | _ => none)
  | _ => none
/-- the list in a cell -/
def onLst (m : Nat) (x : R) (env : En) (f : List T → Nat → List T → Out) : Out := match stS env[m]? with
  | some S => (match lstC S x with
    | some (k, l) => f S k l
    | none => .bad)
  | none => .bad
def onObj (m : Nat) (x : R) (env : En) (f : List T → Nat → Nat → List (Str × T) → Out) : Out := match stS env[m]? with
  | some S => (match objC S x with
    | some (k, C, fs) => f S k C fs
    | none => .bad)
  | none => .bad
/-- e.append(x) -/
def fCApp (m : Nat) (g u : En → Res R) (env : En) : Out := (g env).out (fun x env => onLst m x env fun S k l => (u env).out (fun r env => if r.kp = true ∧ l.length < sizeLine then .nx (env.set m (.st (S.set k (.lst (l ++ [r.d]))))) else .bad) env) env
/-- e.extend(x) -/
def fCExt (m : Nat) (g u : En → Res R) (env : En) : Out := (g env).out (fun x env => onLst m x env fun S k l => (u env).out (fun r env => match r.d with
  | .lst q => if l.length + q.length ≤ sizeLine then .nx (env.set m (.st (S.set k (.lst (l ++ q))))) else .bad
  | _ => .bad) env) env
/-- e.clear() -/
def fCClr (m : Nat) (g : En → Res R) (env : En) : Out := (g env).out (fun x env => onLst m x env fun S k _ => .nx (env.set m (.st (S.set k (.lst []))))) env
/-- e[c] = x, a list or a dict -/
def putLO (l : List T) (y : R) (t : T) : Option (List T) := match y.d with
  | .int j => (match ixN l.length j with
    | some q => some (l.set q t)
    | none => none)
  | _ => none
def cPutO (m : Nat) (r x y : R) (env : En) : Out := match stS env[m]? with
  | some S => (match lstC S x with
    | some (k, l) => if r.kp = true then (match putLO l y r.d with
        | some l' => .nx (env.set m (.st (S.set k (.lst l'))))
        | none => .bad) else .bad
    | none => .bad)
  | none => .bad
def fCPut (m : Nat) (u g ci : En → Res R) (env : En) : Out := (u env).out (fun r env => (g env).out (fun x env => (ci env).out (fun y env => cPutO m r x y env) env) env) env
def cPutDO (m : Nat) (r x y : R) (env : En) : Out := match stS env[m]? with
  | some S => (match anyC S x with
    | some (k, d) => if r.kp = true then (match putDO d y.d r.d with
        | some d' => .nx (env.set m (.st (S.set k d')))
        | none => .bad) else .bad
    | none => .bad)
  | none => .bad
def fCPutD (m : Nat) (u g ci : En → Res R) (env : En) : Out := (u env).out (fun r env => (g env).out (fun x env => (ci env).out (fun y env => cPutDO m r x y env) env) env) env
/-- e[c] += x, e[c] -= x: numbers in a list -/
def getLO (l : List T) (y : R) : Option (Nat × Int) := match y.d with
  | .int j => (match ixN l.length j with
    | some q => (match l[q]? with
      | some (.int a) => some (q, a)
      | _ => none)
    | none => none)
  | _ => none
def onGet (l : List T) (y : R) (f : Nat → Int → Out) : Out := match getLO l y with
  | some (q, a) => f q a
  | none => .bad
def onInt (z : R) (f : Int → Out) : Out := match z.d with
  | .int b => f b
  | _ => .bad
def fCAug (m : Nat) (sub : Bool) (g ci u : En → Res R) (env : En) : Out := (g env).out (fun x env => (ci env).out (fun y env => onLst m x env fun S k l => onGet l y fun q a => (u env).out (fun z env => onInt z fun b =>
  .nx (env.set m (.st (S.set k (.lst (l.set q (.int (if sub then a - b else a + b)))))))) env) env) env
/-- e.f = x; e.f = x, x new, a cell from now on -/
def fCPa (m : Nat) (Cs : List Nat) (f : Str) (u g : En → Res R) (env : En) : Out := (u env).out (fun r env => (g env).out (fun x env => onObj m x env fun S k C fs =>
  if r.kp = true ∧ C ∈ Cs ∧ fs.length < 1000 then .nx (env.set m (.st (S.set k (.obj C (putFT f r.d fs))))) else .bad) env) env
def cPnO (m : Nat) (Cs : List Nat) (f : Str) (r x : R) (env : En) : Out := match r with
  | .fr d => onObj m x env fun S k C fs => if C ∈ Cs ∧ fs.length < 1000 then .nx (env.set m (.st ((S ++ [d]).set k (.obj C (putFT f (.ptr S.length) fs))))) else .bad
  | _ => .bad
def fCPn (m : Nat) (Cs : List Nat) (f : Str) (u g : En → Res R) (env : En) : Out := (u env).out (fun r env => (g env).out (fun x env => cPnO m Cs f r x env) env) env
/-- e.f += x, e.f -= x: numbers -/
def onFld (f : Str) (fs : List (Str × T)) (k : Int → Out) : Out := match fs.lookup f with
  | some (.int a) => k a
  | _ => .bad
def fCAga (m : Nat) (sub : Bool) (Cs : List Nat) (f : Str) (g u : En → Res R) (env : En) : Out := (g env).out (fun x env => onObj m x env fun S k C fs => if C ∈ Cs ∧ fs.length < 1000 then onFld f fs fun a => (u env).out (fun z env => onInt z fun b =>
  .nx (env.set m (.st (S.set k (.obj C (putFT f (.int (if sub then a - b else a + b)) fs)))))) env else .bad) env
section
variable {K : PySem.W.Frag} {B : Bs} {H0 H H1 H2 H' : Hp} {O O1 : Ow} {env : En} {σ : L2.St} {m k : Nat} {S l : List T} {x : R} {v : V} {t : T}
theorem stS_some {s : Option Sl} (h : stS s = some S) : s = some (.st S) := by
  cases s with
  | none => cases h
  | some s => cases s <;> cases h <;> rfl
theorem lstC_some (h : lstC S x = some (k, l)) : x = .sh (.ptr k) ∧ S[k]? = some (.lst l) := by
  unfold lstC at h
  split at h
  · split at h
    · rename_i q; cases h; exact ⟨rfl, q⟩
    · cases h
  · cases h
theorem anyC_some (h : anyC S x = some (k, t)) : x = .sh (.ptr k) ∧ S[k]? = some t := by
  unfold anyC at h
  split at h
  · split at h
    · rename_i q; cases h; exact ⟨rfl, q⟩
    · cases h
  · cases h
theorem objC_some {C : Nat} {fs : List (Str × T)} (h : objC S x = some (k, C, fs)) : x = .sh (.ptr k) ∧ S[k]? = some (.obj C fs) := by
  unfold objC at h
  split at h
  · split at h
    · rename_i q; cases h; exact ⟨rfl, q⟩
    · cases h
  · cases h
theorem onLst_post {X : Cx} {EX : L2.St → XK} {D : Ends} {f : List T → Nat → List T → Out} (h : SPost X EX B H0 O H D (onLst m x env f)) :
    ∃ S k l, env[m]? = some (.st S) ∧ x = .sh (.ptr k) ∧ S[k]? = some (.lst l) ∧ SPost X EX B H0 O H D (f S k l) := by
  unfold onLst at h
  split at h
  · rename_i S es
    split at h
    · rename_i k l el
      obtain ⟨e1, e2⟩ := lstC_some el
      exact ⟨S, k, l, stS_some es, e1, e2, h⟩
    · exact h.elim
  · exact h.elim
theorem onObj_post {X : Cx} {EX : L2.St → XK} {D : Ends} {f : List T → Nat → Nat → List (Str × T) → Out} (h : SPost X EX B H0 O H D (onObj m x env f)) :
    ∃ S k C fs, env[m]? = some (.st S) ∧ x = .sh (.ptr k) ∧ S[k]? = some (.obj C fs) ∧ SPost X EX B H0 O H D (f S k C fs) := by
  unfold onObj at h
  split at h
  · rename_i S es
    split at h
    · rename_i k C fs el
      obtain ⟨e1, e2⟩ := objC_some el
      exact ⟨S, k, C, fs, stS_some es, e1, e2, h⟩
    · exact h.elim
  · exact h.elim
theorem Cells.up {P : Ow} {A : List Addr} (C : Cells K B O H S P A) (s : Same H H1) : Cells K B O H1 S P A := ⟨C.eO, C.lP, C.cs, C.act, C.lA, fun j t e => by
  obtain ⟨a, ho, z1, z2, z3⟩ := C.own j t e
  exact ⟨a, ho, z1, s _ _ z2, z3.same s⟩⟩
/-- what a pointer stands for -/
theorem cell_at (R0 : Rel K B H0 O env σ H) (es : env[m]? = some (.st S)) (C : ∃ P A, Cells K B O H S P A) (ek : S[k]? = some t) (h : RR K B O H1 H (.sh (.ptr k)) v) :
    ∃ P A a ho, Cells K B O H S P A ∧ A[k]? = some a ∧ v = .ref a ∧ H a = some ho ∧ OwnRp K H (Ex B O) t ho := by
  obtain ⟨P, A, C⟩ := C
  obtain ⟨a, ho, z1, z2, z3⟩ := C.own k t ek
  obtain ⟨b, y1, rfl⟩ := rp_ptr h
  rw [C.ex] at y1
  have y1' : A[k]? = some b := y1
  rw [z1] at y1'
  cases y1'
  exact ⟨P, A, a, ho, C, z1, rfl, z2, by rw [C.ex]; exact z3⟩
end
section
variable {X : Cx} {EX : L2.St → XK} {o e c : Expr} {g u ci : En → Res R} {p pos pos' apos tpos : Pos} {m : Nat} {f : Str}
theorem sj_cApp (m : Nat) (ho : EJ X EX o g) (he : EJ X EX e u)
    (hst : starEach (e :: []) X.env = (false, eval e X.env) :: starEach [] X.env := by rfl) (hpl : (backTo pos' (starEach [] X.env)).any (·.1) = false := by rfl)
    (hs : swapsWith (.Call (.Attribute o "append" apos) [e] [] pos') none pos.line X.env = pure false := by rfl)
    (hb : attributeBase o "append" X.env (eval o X.env) = eval o X.env := by rfl) (hl : (apos.endLine == pos'.line) = true := by rfl)
    (hfew : ((backTo pos' (starEach (e :: []) X.env)).all (fun x => !x.1) && (backToKw pos' (keywordEach [] X.env)).all (fun x => x.1.isSome)
      && decide ((e :: []).length + ([] : List Keyword).length + (if ([] : List Keyword).isEmpty then 0 else 1) < 30)) = true := by rfl) :
    SJ X EX (.Expr (.Call (.Attribute o "append" apos) [e] [] pos') pos) (fCApp m g u) := by
  obtain ⟨t, pe, kk⟩ := ho.ex
  obtain ⟨t2, pe2, kk2⟩ := he.ex
  refine ⟨⟨_, ps_expr (pe_bm PySem.F.plainAttrs_list PySem.F.slot_list_append PySem.F.type_list_append mt_append pe (pa_cons pe2 pa_nil hst) hb hfew hl hst hpl) hs, fun B H0 O env σ H D R q => ?_⟩⟩
  refine kk B H0 O env σ H _ R ((sOf_post (f := g) (k := fun x env => onLst m x env fun S k l => (u env).out (fun r env => if r.kp = true ∧ l.length < sizeLine then .nx (env.set m (.st (S.set k (.lst (l ++ [r.d]))))) else .bad) env) R q).mono (fun _ _ x => x) fun x q v H1 s r1 => ?_)
  have R1 := R.mono s
  obtain ⟨S, k, l, es, rfl, ek, q⟩ := onLst_post q
  obtain ⟨P, A, a, ho, C, ea, rfl, ha, ow⟩ := cell_at R1 es (R1.cells_of es) ek r1
  cases ow with
  | @lst _ us h4 =>
  refine ⟨tyL ha, kk2 B H0 O env σ H1 _ R1 ((sOf_post (f := u) (k := fun r env => if r.kp = true ∧ l.length < sizeLine then .nx (env.set m (.st (S.set k (.lst (l ++ [r.d]))))) else .bad) R1 (q.up (Same.keepB s))).mono (fun _ _ x => x) fun r q2 w H2 s2 r2 => ?_)⟩
  split at q2
  · rename_i cc
    refine ⟨a, us, w, rfl, rfl, s2 _ _ ha, by rw [← h4.1]; exact cc.2, ?_⟩
    obtain ⟨O', R3, k3⟩ := (R1.mono s2).chgC (t' := .lst (l ++ [r.d])) (ho' := .lst (us ++ [w])) es (C.up s2) ea (fun b o e n => by rw [upd_ne n]; exact e) upd_same (.lst ((h4.same s2).append (.one (r2.rp R1 cc.1))))
    exact q2 O' σ _ R3 ((Same.keepB s2).trans k3)
  · exact q2.elim
theorem sj_cExt (m : Nat) (ho : EJ X EX o g) (he : EJ X EX e u)
    (hst : starEach (e :: []) X.env = (false, eval e X.env) :: starEach [] X.env := by rfl) (hpl : (backTo pos' (starEach [] X.env)).any (·.1) = false := by rfl)
    (hs : swapsWith (.Call (.Attribute o "extend" apos) [e] [] pos') none pos.line X.env = pure false := by rfl)
    (hb : attributeBase o "extend" X.env (eval o X.env) = eval o X.env := by rfl) (hl : (apos.endLine == pos'.line) = true := by rfl)
    (hfew : ((backTo pos' (starEach (e :: []) X.env)).all (fun x => !x.1) && (backToKw pos' (keywordEach [] X.env)).all (fun x => x.1.isSome)
      && decide ((e :: []).length + ([] : List Keyword).length + (if ([] : List Keyword).isEmpty then 0 else 1) < 30)) = true := by rfl) :
    SJ X EX (.Expr (.Call (.Attribute o "extend" apos) [e] [] pos') pos) (fCExt m g u) := by
  obtain ⟨t, pe, kk⟩ := ho.ex
  obtain ⟨t2, pe2, kk2⟩ := he.ex
  refine ⟨⟨_, ps_expr (pe_bm PySem.F.plainAttrs_list PySem.F.slot_list_extend PySem.F.type_list_extend mt_extend pe (pa_cons pe2 pa_nil hst) hb hfew hl hst hpl) hs, fun B H0 O env σ H D R q => ?_⟩⟩
  refine kk B H0 O env σ H _ R ((sOf_post (f := g) (k := fun x env => onLst m x env fun S k l => (u env).out (fun r env => match r.d with
    | .lst q => if l.length + q.length ≤ sizeLine then .nx (env.set m (.st (S.set k (.lst (l ++ q))))) else .bad
    | _ => .bad) env) R q).mono (fun _ _ x => x) fun x q v H1 s r1 => ?_)
  have R1 := R.mono s
  obtain ⟨S, k, l, es, rfl, ek, q⟩ := onLst_post q
  obtain ⟨P, A, a, ho, C, ea, rfl, ha, ow⟩ := cell_at R1 es (R1.cells_of es) ek r1
  cases ow with
  | @lst _ us h4 =>
  refine ⟨tyL ha, kk2 B H0 O env σ H1 _ R1 ((sOf_post (f := u) (k := fun r env => match r.d with
    | .lst q => if l.length + q.length ≤ sizeLine then .nx (env.set m (.st (S.set k (.lst (l ++ q))))) else .bad
    | _ => .bad) R1 (q.up (Same.keepB s))).mono (fun _ _ x => x) fun r q2 w H2 s2 r2 => ?_)⟩
  split at q2
  · rename_i mm em
    split at q2
    · rename_i cc
      obtain ⟨b, ws, e1, e2, e3⟩ := r2.lst em
      refine ⟨a, b, us, ws, rfl, by rw [e1], s2 _ _ ha, e2, by rw [← h4.1, ← e3.1]; exact cc, ?_⟩
      obtain ⟨O', R3, k3⟩ := (R1.mono s2).chgC (t' := .lst (l ++ mm)) (ho' := .lst (us ++ ws)) es (C.up s2) ea (fun b o e n => by rw [upd_ne n]; exact e) upd_same (.lst ((h4.same s2).append e3))
      exact q2 O' σ _ R3 ((Same.keepB s2).trans k3)
    · exact q2.elim
  · exact q2.elim
theorem sj_cClr (m : Nat) (ho : EJ X EX o g)
    (hs : swapsWith (.Call (.Attribute o "clear" apos) [] [] pos') none pos.line X.env = pure false := by rfl)
    (hb : attributeBase o "clear" X.env (eval o X.env) = eval o X.env := by rfl) (hl : (apos.endLine == pos'.line) = true := by rfl) :
    SJ X EX (.Expr (.Call (.Attribute o "clear" apos) [] [] pos') pos) (fCClr m g) := by
  obtain ⟨t, pe, kk⟩ := ho.ex
  refine ⟨⟨_, ps_expr (pe_bm0 PySem.F.plainAttrs_list PySem.F.slot_list_clear PySem.F.type_list_clear mt_clear pe hb hl) hs, fun B H0 O env σ H D R q => ?_⟩⟩
  refine kk B H0 O env σ H _ R ((sOf_post (f := g) (k := fun x env => onLst m x env fun S k _ => .nx (env.set m (.st (S.set k (.lst []))))) R q).mono (fun _ _ x => x) fun x q v H1 s r1 => ?_)
  have R1 := R.mono s
  obtain ⟨S, k, l, es, rfl, ek, q⟩ := onLst_post q
  obtain ⟨P, A, a, ho, C, ea, rfl, ha, ow⟩ := cell_at R1 es (R1.cells_of es) ek r1
  cases ow with
  | @lst _ us h4 =>
  refine ⟨tyL ha, a, us, rfl, rfl, ha, ?_⟩
  obtain ⟨O', R3, k3⟩ := R1.chgC (t' := .lst []) (ho' := .lst []) es C ea (fun b o e n => by rw [upd_ne n]; exact e) upd_same (.lst .nil)
  exact q O' σ _ R3 ((Same.keepB s).trans k3)
theorem sj_cPut (m : Nat) (he : EJ X EX e u) (ho : EJ X EX o g) (hk : EJ X EX c ci)
    (hs : swapsWithSole [.Subscript o c apos] e pos.line X.env = pure false := by rfl) (hw : swappedStores [.Subscript o c apos] e X.env = pure none := by rfl)
    (h1 : (assignEach [.Subscript o c apos] X.env).map (·.2) = [assign (.Subscript o c apos) X.env] := by rfl)
    (ha : ∀ v, assign (.Subscript o c apos) X.env v = (do
      let ov ← holding [v] (eval o X.env)
      let iv ← holding [v, ov] (eval c X.env)
      standAt apos
      holding [v, ov, iv] (setItem ov iv v)
      release [v, ov, iv] []) := by intro _; rfl) :
    SJ X EX (.Assign [.Subscript o c apos] e pos) (fCPut m u g ci) := by
  obtain ⟨t, pe, kk⟩ := he.ex
  obtain ⟨t2, pe2, kk2⟩ := ho.ex
  obtain ⟨t3, pe3, kk3⟩ := hk.ex
  refine ⟨⟨_, ps_asg pe (pg_sub pe2 pe3 set_list ha) hs hw h1, fun B H0 O env σ H D R q => ?_⟩⟩
  refine kk B H0 O env σ H _ R ((sOf_post (f := u) (k := fun r env => (g env).out (fun x env => (ci env).out (fun y env => cPutO m r x y env) env) env) R q).mono (fun _ _ x => x) fun r q v H1 s r1 => ?_)
  have R1 := R.mono s
  refine kk2 B H0 O env σ H1 _ R1 ((sOf_post (f := g) (k := fun x env => (ci env).out (fun y env => cPutO m r x y env) env) R1 (q.up (Same.keepB s))).mono (fun _ _ x => x) fun x q2 w H2 s2 r2 => ?_)
  have R2 := R1.mono s2
  refine kk3 B H0 O env σ H2 _ R2 ((sOf_post (f := ci) (k := fun y env => cPutO m r x y env) R2 (q2.up (Same.keepB s2))).mono (fun _ _ x => x) fun y q3 z H3 s3 r3 => ?_)
  have R3 := R2.mono s3
  unfold cPutO at q3
  split at q3
  · rename_i S es
    have es := stS_some es
    split at q3
    · rename_i k l el
      obtain ⟨rfl, ek⟩ := lstC_some el
      split at q3
      · rename_i kp
        split at q3
        · rename_i l' el'
          obtain ⟨P, A, a, ho, C, ea, rfl, ha, ow⟩ := cell_at R3 es (R3.cells_of es) ek (r2.mono s3)
          unfold putLO at el'
          split at el'
          · rename_i j ej
            split at el'
            · rename_i qq eq
              cases el'
              cases ow with
              | @lst _ us h4 =>
              refine ⟨a, us, j, qq, rfl, r3.int ej, ha, by rw [← h4.1]; exact eq, ?_⟩
              have rv : Rp X.K H3 (Ex B O) r.d v := (r1.mono (s2.trans s3)).rp R kp
              obtain ⟨O', R4, k4⟩ := R3.chgC (t' := .lst (l.set qq r.d)) (ho' := .lst (us.set qq v)) es C ea (fun b o e n => by rw [upd_ne n]; exact e) upd_same (.lst (h4.set rv qq))
              exact q3 O' σ _ R4 ((Same.keepB s3).trans k4)
            · cases el'
          · cases el'
        · exact q3.elim
      · exact q3.elim
    · exact q3.elim
  · exact q3.elim
theorem sj_cPutD (hu : X.A.units + 64 < cLine) (m : Nat) (he : EJ X EX e u) (ho : EJ X EX o g) (hk : EJ X EX c ci)
    (hs : swapsWith e (some (.Subscript o c pos')) pos.line X.env = pure false := by rfl) :
    SJ X EX (.Assign [.Subscript o c pos'] e pos) (fCPutD m u g ci) := by
  obtain ⟨t, pe, kk⟩ := he.ex
  obtain ⟨t2, pe2, kk2⟩ := ho.ex
  obtain ⟨t3, pe3, kk3⟩ := hk.ex
  refine ⟨⟨_, ps_dput (by omega) pe2 pe3 pe hs, fun B H0 O env σ H D R q => ?_⟩⟩
  refine kk B H0 O env σ H _ R ((sOf_post (f := u) (k := fun r env => (g env).out (fun x env => (ci env).out (fun y env => cPutDO m r x y env) env) env) R q).mono (fun _ _ x => x) fun r q v H1 s r1 => ?_)
  have R1 := R.mono s
  refine kk2 B H0 O env σ H1 _ R1 ((sOf_post (f := g) (k := fun x env => (ci env).out (fun y env => cPutDO m r x y env) env) R1 (q.up (Same.keepB s))).mono (fun _ _ x => x) fun x q2 w H2 s2 r2 => ?_)
  have R2 := R1.mono s2
  refine kk3 B H0 O env σ H2 _ R2 ((sOf_post (f := ci) (k := fun y env => cPutDO m r x y env) R2 (q2.up (Same.keepB s2))).mono (fun _ _ x => x) fun y q3 z H3 s3 r3 => ?_)
  have R3 := R2.mono s3
  unfold cPutDO at q3
  split at q3
  · rename_i S es
    have es := stS_some es
    split at q3
    · rename_i k d el
      obtain ⟨rfl, ek⟩ := anyC_some el
      split at q3
      · rename_i kp
        split at q3
        · rename_i d' ed
          obtain ⟨P, A, a, ho, C, ea, rfl, ha, ow⟩ := cell_at R3 es (R3.cells_of es) ek (r2.mono s3)
          have rv : Rp X.K H3 (Ex B O) r.d v := (r1.mono (s2.trans s3)).rp R kp
          unfold putDO at ed
          split at ed
          · rename_i l
            split at ed
            · rename_i hlen
              cases ek : y.d.key with
              | none => rw [ek] at ed; cases ed
              | some k =>
                rw [ek] at ed
                cases ed
                cases ow with
                | dik e4 h4 =>
                  have ew : z = kV k := rp_key r3.rp0 ek
                  refine ⟨a, _, rfl, by rw [ew]; exact DPut.k ha (by rw [← putD_len e4]; exact hlen), ?_⟩
                  obtain ⟨O', R4, k4⟩ := R3.chgC es C ea (fun b o e n => by rw [upd_ne n]; exact e) upd_same (.dik (putD_keys e4 k r.d v) (putD_vals e4 h4 k rv))
                  exact q3 O' σ _ R4 ((Same.keepB s3).trans k4)
            · cases ed
          · rename_i l
            split at ed
            · rename_i ts et
              split at ed
              · rename_i hlen
                cases ek : T.keys ts with
                | none => rw [ek] at ed; cases ed
                | some k =>
                  rw [ek] at ed
                  cases ed
                  cases ow with
                  | dit e4 h4 =>
                    obtain ⟨b, ws, rfl, h5, h6⟩ := r3.tup et
                    rw [keys_vals h6 ek] at h5
                    refine ⟨a, _, rfl, DPut.t ha h5 (by rw [← putD_len e4]; exact hlen), ?_⟩
                    obtain ⟨O', R4, k4⟩ := R3.chgC es C ea (fun b o e n => by rw [upd_ne n]; exact e) upd_same (.dit (putD_keys e4 k r.d v) (putD_vals e4 h4 k rv))
                    exact q3 O' σ _ R4 ((Same.keepB s3).trans k4)
              · cases ed
            · cases ed
          · cases ed
        · exact q3.elim
      · exact q3.elim
    · exact q3.elim
  · exact q3.elim
theorem sj_cPa (m : Nat) (Cs : List Nat) (he : EJ X EX e u) (ho : EJ X EX o g) (hc : ∀ C ∈ Cs, AtOk X.K f C) (hs : swapsWith e (some (.Attribute o f pos')) pos.line X.env = pure false := by rfl) :
    SJ X EX (.Assign [.Attribute o f pos'] e pos) (fCPa m Cs f u g) := by
  obtain ⟨t, pe, kk⟩ := he.ex
  obtain ⟨t2, pe2, kk2⟩ := ho.ex
  refine ⟨⟨_, ps_fld pe2 pe hs, fun B H0 O env σ H D R q => ?_⟩⟩
  refine kk B H0 O env σ H _ R ((sOf_post (f := u) (k := fun r env => (g env).out (fun x env => onObj m x env fun S k C fs =>
    if r.kp = true ∧ C ∈ Cs ∧ fs.length < 1000 then .nx (env.set m (.st (S.set k (.obj C (putFT f r.d fs))))) else .bad) env) R q).mono (fun _ _ x => x) fun r q v H1 s r1 => ?_)
  have R1 := R.mono s
  refine kk2 B H0 O env σ H1 _ R1 ((sOf_post (f := g) (k := fun x env => onObj m x env fun S k C fs =>
    if r.kp = true ∧ C ∈ Cs ∧ fs.length < 1000 then .nx (env.set m (.st (S.set k (.obj C (putFT f r.d fs))))) else .bad) R1 (q.up (Same.keepB s))).mono (fun _ _ x => x) fun x q2 w H2 s2 r2 => ?_)
  have R2 := R1.mono s2
  obtain ⟨S, k, Cn, fs, es, rfl, ek, q2⟩ := onObj_post q2
  obtain ⟨P, A, a, ho, C, ea, rfl, ha, ow⟩ := cell_at R2 es (R2.cells_of es) ek r2
  split at q2
  · rename_i cc
    cases ow with
    | @obj _ c' dx _ us e0 e1 e2 =>
    refine ⟨a, c', dx, us, rfl, ha, (hc Cn cc.2.1).c c' e0, (hc Cn cc.2.1).n c' e0, ?_, ?_⟩
    · have := congrArg List.length e1
      simp at this
      rw [← this]; exact cc.2.2
    · obtain ⟨z1, z2⟩ := put_rel (f := f) ((r1.mono s2).rp R cc.1) e1 e2
      obtain ⟨O', R4, k4⟩ := R2.chgC es C ea (fun b o e n => by rw [upd_ne n]; exact e) upd_same (.obj (dx := dx) e0 z1 z2)
      exact q2 O' σ _ R4 ((Same.keepB s2).trans k4)
  · exact q2.elim
theorem sj_cPn (m : Nat) (Cs : List Nat) (he : EJ X EX e u) (ho : EJ X EX o g) (hc : ∀ C ∈ Cs, AtOk X.K f C) (hs : swapsWith e (some (.Attribute o f pos')) pos.line X.env = pure false := by rfl) :
    SJ X EX (.Assign [.Attribute o f pos'] e pos) (fCPn m Cs f u g) := by
  obtain ⟨t, pe, kk⟩ := he.ex
  obtain ⟨t2, pe2, kk2⟩ := ho.ex
  refine ⟨⟨_, ps_fld pe2 pe hs, fun B H0 O env σ H D R q => ?_⟩⟩
  refine kk B H0 O env σ H _ R ((sOf_post (f := u) (k := fun r env => (g env).out (fun x env => cPnO m Cs f r x env) env) R q).mono (fun _ _ x => x) fun r q v H1 s r1 => ?_)
  have R1 := R.mono s
  refine kk2 B H0 O env σ H1 _ R1 (((sOf_post (f := g) (k := fun x env => cPnO m Cs f r x env) R q).up s).mono (fun _ _ x => x) fun x q2 w H2 s2 r2 => ?_)
  unfold cPnO at q2
  split at q2
  · rename_i d
    obtain ⟨S, k, Cn, fs, es, rfl, ek, q2⟩ := onObj_post q2
    split at q2
    · rename_i cc
      have rv := r1.mono s2
      obtain ⟨p, hp, e1, np, hp1, own⟩ := rv
      obtain ⟨O3, R3, k3, c3⟩ := R.newC es (s.trans s2) np hp1 own
      have hm : m < env.length := (List.getElem?_eq_some_iff.mp es).1
      have es3 : (env.set m (.st (S ++ [d])))[m]? = some (.st (S ++ [d])) := by rw [List.getElem?_set, if_pos rfl, if_pos hm]
      have hk : k < S.length := (List.getElem?_eq_some_iff.mp ek).1
      have ek3 : (S ++ [d])[k]? = some (.obj Cn fs) := by rw [List.getElem?_append_left hk]; exact ek
      have r3 : RR X.K B O3 H2 H2 (.sh (.ptr k)) w := by
        obtain ⟨b, y1, y2⟩ := rp_ptr r2
        rw [y2]
        exact Rp.ptr (k3.c _ _ y1)
      obtain ⟨P, A, a, ho, C, ea, rfl, ha, ow⟩ := cell_at R3 es3 (R3.cells_of es3) ek3 r3
      cases ow with
      | @obj _ c' dx _ us z0 z1 z2 =>
      refine ⟨a, c', dx, us, rfl, ha, (hc Cn cc.1).c c' z0, (hc Cn cc.1).n c' z0, ?_, ?_⟩
      · have := congrArg List.length z1
        simp at this
        rw [← this]; exact cc.2
      · subst e1
        obtain ⟨y1, y2⟩ := put_rel (f := f) (Rp.ptr (K := X.K) (H := H2) c3) z1 z2
        obtain ⟨O', R4, k4⟩ := R3.chgC es3 C ea (fun b o e n => by rw [upd_ne n]; exact e) upd_same (.obj (dx := dx) z0 y1 y2)
        rw [List.set_set] at R4
        exact q2 O' σ _ R4 (k3.trans k4)
    · exact q2.elim
  · exact q2.elim
theorem onGet_post {D : Ends} {B : Bs} {H0 H : Hp} {O : Ow} {l : List T} {y : R} {F : Nat → Int → Out} (h : SPost X EX B H0 O H D (onGet l y F)) :
    ∃ j q a, y.d = .int j ∧ ixN l.length j = some q ∧ l[q]? = some (.int a) ∧ SPost X EX B H0 O H D (F q a) := by
  unfold onGet at h
  split at h
  · rename_i q a e
    unfold getLO at e
    split at e
    · rename_i j ej
      split at e
      · rename_i q' eq
        split at e
        · rename_i a' ea
          cases e
          exact ⟨j, _, _, ej, eq, ea, h⟩
        · cases e
      · cases e
    · cases e
  · exact h.elim
theorem onInt_post {D : Ends} {B : Bs} {H0 H : Hp} {O : Ow} {z : R} {F : Int → Out} (h : SPost X EX B H0 O H D (onInt z F)) : ∃ b, z.d = .int b ∧ SPost X EX B H0 O H D (F b) := by
  unfold onInt at h
  split at h
  · rename_i b e
    exact ⟨b, e, h⟩
  · exact h.elim
theorem onFld_post {D : Ends} {B : Bs} {H0 H : Hp} {O : Ow} {fs : List (Str × T)} {F : Int → Out} (h : SPost X EX B H0 O H D (onFld f fs F)) : ∃ a, fs.lookup f = some (.int a) ∧ SPost X EX B H0 O H D (F a) := by
  unfold onFld at h
  split at h
  · rename_i a e
    exact ⟨a, e, h⟩
  · exact h.elim
theorem get_list : PGet X (rIxL X.K) := by
  intro pins s σ H x y v u Q I rx ry h
  obtain ⟨p, xs, i, z, rfl, rfl, hq, he, q⟩ := h
  cases rx
  obtain ⟨t, rfl⟩ := ry
  obtain ⟨its, r, pl, hz⟩ := I.list hq
  obtain ⟨j, h1, h2, h3, h4, h5⟩ := atI_get he
  obtain ⟨w, ew, rw'⟩ := r.get h2
  have hl := r.length
  have hn := line63
  have fin : EP X pins σ Q w s := ⟨z, H, I, rw', q⟩
  by_cases h0 : 0 ≤ i
  · have hj : i.toNat = j := by
      rw [seqIndex_of h0 h5] at h1
      exact Option.some.inj h1
    exact wpAny_getItem_list pl.isList h0 (by omega) (by rw [hj]; simpa using ew) fin
  · have hj : (i + (its.toArray.size : Int)).toNat = j := by
      rw [seqIndex_neg (by omega) h4] at h1
      rw [List.size_toArray, ← hl]
      exact Option.some.inj h1
    exact wpAny_getItem_list_neg pl.isList (by omega) (by rw [List.size_toArray] <;> omega) (by omega) (by rw [hj]; simpa using ew) fin
theorem aug_core (m : Nat) (sub : Bool) {op : Operator} {tip : TIp} (htip : tip = ipI fun i j => if sub then i - j else i + j) (hop : PIp X op tip) (ho : EJ X EX o g) (hk : EJ X EX c ci) (he : EJ X EX e u)
    (ha : ∀ ov iv new, augStore c ov iv new = (do holding [new, ov, iv] (setItem ov iv new); release [new, ov, iv] []; pure .next)) :
    SJ X EX (.AugAssign (.Subscript o c tpos) op e pos) (fCAug m sub g ci u) := by
  obtain ⟨t, pe, kk⟩ := ho.ex
  obtain ⟨t2, pe2, kk2⟩ := hk.ex
  obtain ⟨t3, pe3, kk3⟩ := he.ex
  refine ⟨⟨_, ps_augS pe pe2 get_list pe3 hop set_list ha, fun B H0 O env σ H D R q => ?_⟩⟩
  refine kk B H0 O env σ H _ R ((sOf_post (f := g) (k := fun x env => (ci env).out (fun y env => onLst m x env fun S k l => onGet l y fun q a => (u env).out (fun z env => onInt z fun b =>
    .nx (env.set m (.st (S.set k (.lst (l.set q (.int (if sub then a - b else a + b)))))))) env) env) R q).mono (fun _ _ x => x) fun x q v H1 s r1 => ?_)
  have R1 := R.mono s
  refine kk2 B H0 O env σ H1 _ R1 ((sOf_post (f := ci) (k := fun y env => onLst m x env fun S k l => onGet l y fun q a => (u env).out (fun z env => onInt z fun b =>
    .nx (env.set m (.st (S.set k (.lst (l.set q (.int (if sub then a - b else a + b)))))))) env) R1 (q.up (Same.keepB s))).mono (fun _ _ x => x) fun y q2 w H2 s2 r2 => ?_)
  have R2 := R1.mono s2
  obtain ⟨S, k, l, es, rfl, ek, q2⟩ := onLst_post q2
  obtain ⟨j, qq, b, ej, eq, eb, q2⟩ := onGet_post q2
  obtain ⟨P, A, a, ho, C, ea, rfl, ha, ow⟩ := cell_at R2 es (R2.cells_of es) ek (r1.mono s2)
  cases ow with
  | @lst _ us h4 =>
  obtain ⟨uu, e1, e2⟩ := h4.get eb
  have euu : uu = .int b := rp_int e2
  subst euu
  refine ⟨a, us, j, .int b, rfl, r2.int ej, SqL.of ha, ?_, ?_⟩
  · unfold atI
    rw [← h4.1, eq]
    exact e1
  refine kk3 B H0 O env σ H2 _ R2 ((sOf_post (f := u) (k := fun z env => onInt z fun bb =>
    .nx (env.set m (.st (S.set k (.lst (l.set qq (.int (if sub then b - bb else b + bb)))))))) R2 (q2.up (Same.keepB s2))).mono (fun _ _ x => x) fun z q3 u3 H3 s3 r3 => ?_)
  obtain ⟨d, ed, q3⟩ := onInt_post q3
  have R3 := R2.mono s3
  subst htip
  refine ⟨b, d, rfl, r3.int ed, ?_⟩
  refine ⟨a, us, j, qq, rfl, r2.int ej, s3 _ _ ha, by rw [← h4.1]; exact eq, ?_⟩
  obtain ⟨O', R4, k4⟩ := R3.chgC (t' := .lst (l.set qq (.int (if sub then b - d else b + d)))) (ho' := .lst (us.set qq (.int (if sub then b - d else b + d)))) es (C.up s3) ea (fun b o e n => by rw [upd_ne n]; exact e) upd_same (.lst ((h4.same s3).set (.int _) qq))
  exact q3 O' σ _ R4 ((Same.keepB s3).trans k4)
theorem sj_cAug (m : Nat) (ho : EJ X EX o g) (hk : EJ X EX c ci) (he : EJ X EX e u)
    (ha : ∀ ov iv new, augStore c ov iv new = (do holding [new, ov, iv] (setItem ov iv new); release [new, ov, iv] []; pure .next) := by intros; rfl) :
    SJ X EX (.AugAssign (.Subscript o c tpos) .Add e pos) (fCAug m false g ci u) := aug_core m false rfl ip_add ho hk he ha
theorem sj_cAugs (m : Nat) (ho : EJ X EX o g) (hk : EJ X EX c ci) (he : EJ X EX e u)
    (ha : ∀ ov iv new, augStore c ov iv new = (do holding [new, ov, iv] (setItem ov iv new); release [new, ov, iv] []; pure .next) := by intros; rfl) :
    SJ X EX (.AugAssign (.Subscript o c tpos) .Sub e pos) (fCAug m true g ci u) := aug_core m true rfl ip_sub ho hk he ha
theorem aga_core (m : Nat) (Cs : List Nat) (sub : Bool) {op : Operator} {rd : V → V → Hp → VK → Prop} (hrd : rd = fun x y H Q => ∃ i j, x = .int i ∧ y = .int j ∧ Q (.int (if sub then i - j else i + j)) H) (hop : InOp X op rd) (ho : EJ X EX o g) (he : EJ X EX e u) (hc : ∀ C ∈ Cs, AtOk X.K f C) :
    SJ X EX (.AugAssign (.Attribute o f tpos) op e pos) (fCAga m sub Cs f g u) := by
  obtain ⟨t, pe, kk⟩ := ho.ex
  obtain ⟨t3, pe3, kk3⟩ := he.ex
  refine ⟨⟨_, ps_fldaug pe pe3 hop, fun B H0 O env σ H D R q => ?_⟩⟩
  refine kk B H0 O env σ H _ R ((sOf_post (f := g) (k := fun x env => onObj m x env fun S k C fs => if C ∈ Cs ∧ fs.length < 1000 then onFld f fs fun a => (u env).out (fun z env => onInt z fun b =>
    .nx (env.set m (.st (S.set k (.obj C (putFT f (.int (if sub then a - b else a + b)) fs)))))) env else .bad) R q).mono (fun _ _ x => x) fun x q v H1 s r1 => ?_)
  have R1 := R.mono s
  obtain ⟨S, k, Cn, fs, es, rfl, ek, q⟩ := onObj_post q
  split at q
  · rename_i cc
    obtain ⟨n, ef, q⟩ := onFld_post q
    obtain ⟨P, A, a, ho, C, ea, rfl, ha, ow⟩ := cell_at R1 es (R1.cells_of es) ek r1
    cases ow with
    | @obj _ c' dx _ us e0 e1 e2 =>
    obtain ⟨uu, z1, z2⟩ := look_rel e1 e2 ef
    obtain rfl : uu = .int n := rp_int z2
    refine ⟨a, c', dx, us, .int n, rfl, ha, (hc Cn cc.1).c c' e0, (hc Cn cc.1).n c' e0, z1, ?_⟩
    refine kk3 B H0 O env σ H1 _ R1 ((sOf_post (f := u) (k := fun z env => onInt z fun bb =>
      .nx (env.set m (.st (S.set k (.obj Cn (putFT f (.int (if sub then n - bb else n + bb)) fs)))))) R1 (q.up (Same.keepB s))).mono (fun _ _ x => x) fun z q3 u3 H3 s3 r3 => ?_)
    obtain ⟨d, ed, q3⟩ := onInt_post q3
    have R3 := R1.mono s3
    subst hrd
    refine ⟨n, d, rfl, r3.int ed, dx, us, s3 _ _ ha, ?_, ?_⟩
    · have := congrArg List.length e1
      simp at this
      rw [← this]; exact cc.2
    · obtain ⟨y1, y2⟩ := put_rel (f := f) (Rp.int (K := X.K) (H := H3) (B := Ex B O) (if sub then n - d else n + d)) e1 (e2.same s3)
      obtain ⟨O', R4, k4⟩ := R3.chgC es (C.up s3) ea (fun b o e n => by rw [upd_ne n]; exact e) upd_same (.obj (dx := dx) e0 y1 y2)
      exact q3 O' σ _ R4 ((Same.keepB s3).trans k4)
  · exact q.elim
theorem sj_cAga (m : Nat) (Cs : List Nat) (ho : EJ X EX o g) (he : EJ X EX e u) (hc : ∀ C ∈ Cs, AtOk X.K f C) : SJ X EX (.AugAssign (.Attribute o f tpos) .Add e pos) (fCAga m false Cs f g u) := aga_core m Cs false rfl in_add ho he hc
theorem sj_cAgas (m : Nat) (Cs : List Nat) (ho : EJ X EX o g) (he : EJ X EX e u) (hc : ∀ C ∈ Cs, AtOk X.K f C) : SJ X EX (.AugAssign (.Attribute o f tpos) .Sub e pos) (fCAga m true Cs f g u) := aga_core m Cs true rfl in_sub ho he hc
end
end Tr
namespace Tr
open PySem L2
/-! ### a pointer followed, all the way -/
def zipF {κ : Type} (ks : List κ) (ws : Option (List T)) (f : List (κ × T) → T) : Option T := ws.map fun ws => f (ks.zip ws)
def dp (S : List T) : Nat → T → Option T
  | 0, t => if t.np = true then some t else none
  | n + 1, t => if t.np = true then some t else match t with
    | .ptr k => (match S[k]? with
      | some t => dp S n t
      | none => none)
    | .tup l => (l.mapM (dp S n)).map .tup
    | .lst l => (l.mapM (dp S n)).map .lst
    | .dik l => zipF (l.map (·.1)) ((l.map (·.2)).mapM (dp S n)) .dik
    | .dit l => zipF (l.map (·.1)) ((l.map (·.2)).mapM (dp S n)) .dit
    | .obj C l => zipF (l.map (·.1)) ((l.map (·.2)).mapM (dp S n)) (.obj C)
    | _ => none
theorem dp_np {S : List T} {t : T} (h : t.np = true) : ∀ n, dp S n t = some t
  | 0 => by unfold dp; rw [if_pos h]
  | n + 1 => by unfold dp; rw [if_pos h]
section
variable {K : PySem.W.Frag} {H : Hp} {X X' : Xs} {S : List T}
theorem mapM_rel {f : T → Option T} : ∀ {l l' : List T} {us : List V}, l.mapM f = some l' → RpAll K H X l us → (∀ t t' v, f t = some t' → Rp K H X t v → Rp K H X' t' v ∧ t'.np = true) → RpAll K H X' l' us ∧ l'.all T.np = true
  | [], l', us, e, h, _ => by
    cases e
    obtain rfl : us = [] := List.length_eq_zero_iff.mp h.1.symm
    exact ⟨.nil, rfl⟩
  | t :: l, l', us, e, h, g => by
    rw [List.mapM_cons] at e
    cases e1 : f t with
    | none => rw [e1] at e; cases e
    | some t' =>
      rw [e1] at e
      cases e2 : l.mapM f with
      | none => rw [e2] at e; cases e
      | some l2 =>
        rw [e2] at e
        cases e
        cases us with
        | nil => cases h.1
        | cons u us =>
          obtain ⟨z1, z2⟩ := g t t' u e1 h.head
          obtain ⟨z3, z4⟩ := mapM_rel e2 h.tail g
          exact ⟨.cons z1 z3, by rw [List.all_cons, z2, z4]; rfl⟩
theorem zip_fst {κ : Type} {ks : List κ} {ws : List T} (h : ks.length = ws.length) : (ks.zip ws).map (·.1) = ks := by
  rw [show ((fun x : κ × T => x.1) = Prod.fst) from rfl, List.map_fst_zip (by omega)]
theorem zip_snd {κ : Type} {ks : List κ} {ws : List T} (h : ks.length = ws.length) : (ks.zip ws).map (·.2) = ws := by
  rw [show ((fun x : κ × T => x.2) = Prod.snd) from rfl, List.map_snd_zip (by omega)]
theorem zipF_some {κ : Type} {ks : List κ} {o : Option (List T)} {f : List (κ × T) → T} {t : T} (h : zipF ks o f = some t) : ∃ ws, o = some ws ∧ t = f (ks.zip ws) := by
  unfold zipF at h
  cases o with
  | none => cases h
  | some ws => cases h; exact ⟨ws, rfl, rfl⟩
/-- dp's law: of a value, of an object -/
theorem dp_ok (hc : CsOk K H X S) (sub : ∀ a, X' a → X a) (nc : ∀ k a, X.cs k = some a → ¬ X' a) : ∀ (n : Nat),
    (∀ t t' v, dp S n t = some t' → Rp K H X t v → Rp K H X' t' v ∧ t'.np = true) ∧ (∀ t t' a ho, dp S n t = some t' → H a = some ho → ¬ X' a → OwnRp K H X t ho → Rp K H X' t' (.ref a) ∧ t'.np = true) := by
  intro n
  have base1 : ∀ {t : T} {v : V}, t.np = true → Rp K H X t v → Rp K H X' t v ∧ t.np = true := fun q h => ⟨h.np sub q, q⟩
  have base2 : ∀ {t : T} {a : Addr} {ho : HO}, t.np = true → H a = some ho → ¬ X' a → OwnRp K H X t ho → Rp K H X' t (.ref a) ∧ t.np = true := fun q e nx h => ⟨(h.np sub q).rp e nx, q⟩
  induction n with
  | zero =>
    refine ⟨fun t t' v e h => ?_, fun t t' a ho e e1 nx h => ?_⟩
    · unfold dp at e
      split at e
      · rename_i q; cases e; exact base1 q h
      · cases e
    · unfold dp at e
      split at e
      · rename_i q; cases e; exact base2 q e1 nx h
      · cases e
  | succ n ih =>
    obtain ⟨i1, i2⟩ := ih
    have lstep : ∀ {l l' : List T} {us : List V}, l.mapM (dp S n) = some l' → RpAll K H X l us → RpAll K H X' l' us ∧ l'.all T.np = true := fun e h => mapM_rel e h i1
    have two : ∀ t t' a ho, dp S (n + 1) t = some t' → H a = some ho → ¬ X' a → OwnRp K H X t ho → Rp K H X' t' (.ref a) ∧ t'.np = true := fun t t' a ho e e1 nx h => by
      unfold dp at e
      split at e
      · rename_i q; cases e; exact base2 q e1 nx h
      · cases h with
        | @lst l us h =>
          simp only at e
          cases em : l.mapM (dp S n) with
          | none => rw [em] at e; cases e
          | some l' =>
            rw [em] at e
            cases e
            obtain ⟨z1, z2⟩ := lstep em h
            exact ⟨(OwnRp.lst z1).rp e1 nx, by rw [T.np, T.nps_all]; exact z2⟩
        | @dik l us ek h =>
          obtain ⟨ws, em, rfl⟩ := zipF_some e
          obtain ⟨z1, z2⟩ := lstep em h
          have ll : (l.map (·.1)).length = ws.length := by rw [z1.1, ← h.1]; simp
          exact ⟨(OwnRp.dik (by rw [zip_fst ll]; exact ek) (by rw [zip_snd ll]; exact z1)).rp e1 nx, by rw [T.np, T.npk_all, zip_snd ll]; exact z2⟩
        | @dit l us ek h =>
          obtain ⟨ws, em, rfl⟩ := zipF_some e
          obtain ⟨z1, z2⟩ := lstep em h
          have ll : (l.map (·.1)).length = ws.length := by rw [z1.1, ← h.1]; simp
          exact ⟨(OwnRp.dit (by rw [zip_fst ll]; exact ek) (by rw [zip_snd ll]; exact z1)).rp e1 nx, by rw [T.np, T.npd_all, zip_snd ll]; exact z2⟩
        | @obj C c dx l us ec ek h =>
          obtain ⟨ws, em, rfl⟩ := zipF_some e
          obtain ⟨z1, z2⟩ := lstep em h
          have ll : (l.map (·.1)).length = ws.length := by rw [z1.1, ← h.1]; simp
          exact ⟨(OwnRp.obj (dx := dx) ec (by rw [zip_fst ll]; exact ek) (by rw [zip_snd ll]; exact z1)).rp e1 nx, by rw [T.np, T.npf_all, zip_snd ll]; exact z2⟩
    refine ⟨fun t t' v e h => ?_, two⟩
    cases h with
    | ptr ek =>
      rename_i k a
      unfold dp at e
      split at e
      · rename_i q; rw [T.np] at q; cases q
      · simp only at e
        split at e
        · rename_i tk es
          obtain ⟨b, ho, z1, z2, z3⟩ := hc k tk es
          rw [ek] at z1
          cases z1
          exact i2 tk t' a ho e z2 (nc k a ek) z3
        · cases e
    | tup hq hn hl hs =>
      rename_i a l us
      unfold dp at e
      split at e
      · rename_i q; cases e; exact base1 q (.tup hq hn hl hs)
      · simp only at e
        cases em : l.mapM (dp S n) with
        | none => rw [em] at e; cases e
        | some l' =>
          rw [em] at e
          cases e
          obtain ⟨z1, z2⟩ := lstep em ⟨hl, hs⟩
          exact ⟨.tup hq (fun z => hn (sub _ z)) z1.1 z1.2, by rw [T.np, T.nps_all]; exact z2⟩
    | lst hq hn hl hs => exact two _ t' _ _ e hq (fun z => hn (sub _ z)) (.lst ⟨hl, hs⟩)
    | dik hq hn hl hz hs => exact two _ t' _ _ e hq (fun z => hn (sub _ z)) (.dik hl ⟨hz, hs⟩)
    | dit hq hn hl hz hs => exact two _ t' _ _ e hq (fun z => hn (sub _ z)) (.dit hl ⟨hz, hs⟩)
    | obj hc' hq hn hl hz hs => exact two _ t' _ _ e hq (fun z => hn (sub _ z)) (.obj hc' hl ⟨hz, hs⟩)
    | non => rw [dp_np (by simp [T.np])] at e; cases e; exact ⟨.non, by simp [T.np]⟩
    | bl b => rw [dp_np (by simp [T.np])] at e; cases e; exact ⟨.bl b, by simp [T.np]⟩
    | int b => rw [dp_np (by simp [T.np])] at e; cases e; exact ⟨.int b, by simp [T.np]⟩
    | str b hb => rw [dp_np (by simp [T.np])] at e; cases e; exact ⟨.str b hb, by simp [T.np]⟩
    | fn b => rw [dp_np (by simp [T.np])] at e; cases e; exact ⟨.fn b, by simp [T.np]⟩
    | scr hq => rw [dp_np (by simp [T.np])] at e; cases e; exact base1 (by simp [T.np]) (.scr hq)
    | ex0 a1 a2 a3 => rw [dp_np (by simp [T.np])] at e; cases e; exact base1 (by simp [T.np]) (.ex0 a1 a2 a3)
    | ex1 a1 a2 a3 a4 a5 a6 =>
      unfold dp at e
      split at e
      · rename_i q; cases e; exact base1 q (.ex1 a1 a2 a3 a4 a5 a6)
      · cases e
end
/-! ### C(..), cells while it is made, none behind -/
def npX : Option T → Bool
  | none => true
  | some t => t.np
def mkOo : RW → Res R
  | .ok S .non => (match dp S 8 (.ptr 0) with
    | some t => .ok (.sh t)
    | none => .bad)
  | .exc _ c p => if npX p = true then .exc c p else .bad
  | _ => .bad
def mkOR (C : Nat) (F : List T → List T → RW) (rs : List R) : Res R := if rs.all (fun r => r.kp && r.d.np) = true then mkOo (F [.obj C []] (.ptr 0 :: rs.map R.d)) else .bad
def fMkO (C : Nat) (F : List T → List T → RW) (ga : En → Res (List R)) (env : En) : Res R := (ga env).bind (mkOR C F)
theorem XRel.np {K : PySem.W.Frag} {H : Hp} {X X' : Xs} {p : Option T} {d : Option Addr} (h : XRel K X H p d) (s : ∀ a, X' a → X a) (q : npX p = true) : XRel K X' H p d := by
  cases p with
  | none => exact h
  | some t =>
    obtain ⟨a, v, z1, z2, z3⟩ := h
    exact ⟨a, v, z1, z2, z3.np s q⟩
theorem all_kp {rs : List R} (h : rs.all (fun r => r.kp && r.d.np) = true) : rs.all R.kp = true ∧ (rs.map R.d).all T.np = true := by
  rw [List.all_eq_true] at h
  constructor
  · rw [List.all_eq_true]
    exact fun r m => (Bool.and_eq_true_iff.mp (h r m)).1
  · rw [List.all_map, List.all_eq_true]
    exact fun r m => (Bool.and_eq_true_iff.mp (h r m)).2
theorem RpAll.np {K : PySem.W.Frag} {H : Hp} {X X' : Xs} {ts : List T} {us : List V} (h : RpAll K H X ts us) (s : ∀ a, X' a → X a) (q : ts.all T.np = true) : RpAll K H X' ts us := ⟨h.1, fun i t u a b => (h.2 i t u a b).np s (np_get q a)⟩
section
variable {X : Cx} {EX : L2.St → XK} {e : Expr} {es : List Expr} {ga : En → Res (List R)} {F : List T → List T → RW} {j k n : Nat} {C : Nat} {c : Addr} {x : Str} {p pos : Pos}
theorem mkO_core {B H0 O env σ H H1} (ec : clsA X.K C = some c) {rs : List R} {vs : List V} {Q : VK} {x dx : Addr} (R0 : Rel X.K B H0 O env σ H) (s : Same H H1) (r : RRs X.K B O H H1 rs vs) (hn : rs.length + 1 = n) (nx : H1 x = none) (ndx : H1 dx = none) (ne : dx ≠ x)
    (q : Post (XC X.K B O EX σ H) (fun r => ∀ v H', Same H H' → RR X.K B O H H' r v → Q v H') (mkOR C F rs)) :
    SpW X.K n F (.ref x :: vs) (upd (upd H1 dx (.own x)) x (.ins c dx [])) (fun v H2 => v = .non ∧ Q (.ref x) H2) (EX σ) := by
  unfold mkOR at q
  split at q
  · rename_i cond
    obtain ⟨kp, np⟩ := all_kp cond
    have ra := RRs.rp R0 r kp
    have s1 : Same H1 (upd (upd H1 dx (.own x)) x (.ins c dx [])) := fun b o e => by
      rw [upd_ne (ne_of_none e nx), upd_ne (ne_of_none e ndx)]; exact e
    have R1 := R0.mono s
    have nB : ¬ Ex B O x := R1.ex_new nx
    have thx : ∀ a, Ex B O a → ∃ o, (upd (upd H1 dx (.own x)) x (.ins c dx [])) a = some o ∧ nTup o := fun a z => by
      obtain ⟨o, e, nt⟩ := R1.ex_ntup z
      exact ⟨o, s1 _ _ e, nt⟩
    have subx : ∀ a, xw (Ex B O).p [x] a → ((Ex B O).add x) a := fun a z => z.imp id fun z => by simpa using z
    have back : ∀ {S' A' H'}, WEnd X.K (Ex B O).p [x] (upd (upd H1 dx (.own x)) x (.ins c dx [])) S' A' H' → Same H H' := fun we b o e => we.ag b o (s1 _ _ (s _ _ e)) fun z => ne_of_none (s _ _ e) nx (by simpa using z)
    refine ⟨[.obj C []], .ptr 0 :: rs.map R.d, (Ex B O).p, [x], ⟨thx, by simp, fun a m => by
        have : a = x := by simpa using m
        rw [this]; exact nB, rfl, fun k t e => ?_⟩, .cons (.ptr rfl) ?_, by simpa using hn, ?_⟩
    · cases k with
      | zero =>
        cases e
        exact ⟨x, _, rfl, upd_same, .obj ec rfl .nil⟩
      | succ k => simp at e
    · have ra1 : RpAll X.K (upd (upd H1 dx (.own x)) x (.ins c dx [])) ((Ex B O).add x) (rs.map R.d) vs := (ra.newB nx).same s1
      exact ra1.np subx np
    · cases ef : F [.obj C []] (.ptr 0 :: rs.map R.d) with
      | ok S' t =>
        rw [ef] at q
        intro v H' A' we rv
        cases t with
        | non =>
          refine ⟨rp_non rv, ?_⟩
          simp only [mkOo] at q
          split at q
          · rename_i t' ed
            have out : ∀ k a, (xw (Ex B O).p A').cs k = some a → ¬ Ex B O a := fun k a e z => by
              rcases we.new a (List.mem_of_getElem? (show A'[k]? = some a from e)) with w | w
              · have : a = x := by simpa using w
                exact nB (this ▸ z)
              · obtain ⟨o, eo, _⟩ := thx a z
                rw [w] at eo; cases eo
            have z := (dp_ok (X' := Ex B O) we.own (fun a z => .inl z) out 8).1 (.ptr 0) t' (.ref x) ed (.ptr (we.pre 0 x rfl))
            exact q (.ref x) H' (back we) z.1
          · exact q.elim
        | _ => exact q.elim
      | exc S' c pl =>
        rw [ef] at q
        intro d a H' A' ea we xx
        simp only [mkOo] at q
        split at q
        · rename_i qn
          exact q H' d a ea (back we) (xx.np (fun a z => .inl z) qn)
        · exact q.elim
      | bad => rw [ef] at q; exact q.elim
  · exact q.elim
theorem ej_mkO (M : MakS X.prog X.w X.K X.mg X.base x C j (SpW X.K n F)) (hr : Room k X.A) (hjk : j + 1 ≤ k) (hx : ∀ σ, PassesAt (L2.CX X.prog X.w) X σ (EX σ)) (hg : Gl X x) (ha : AJ X EX (e :: es) ga) (hn : ∀ env rs, ga env = .ok rs → rs.length + 1 = n)
    (hdb : (x == ("__debug__" : Str)) = false := by decide) (he : starEach (e :: es) X.env = (false, eval e X.env) :: starEach es X.env := by rfl) (hpl : (backTo pos (starEach es X.env)).any (·.1) = false := by rfl) :
    EJ X EX (.Call (.Name x p) (e :: es) [] pos) (fMkO C F ga) := by
  obtain ⟨cc, f, fd, ps, h0, h1, h2, h3, h4⟩ := M.ex
  obtain ⟨t, pa, i⟩ := ha.ex
  refine ⟨⟨_, pe_makeS h2 h4 (hr.mono hjk) hg h1 h3 hx pa hdb he hpl, fun B H0 O env σ H Q R q => ?_⟩⟩
  refine i B H0 O env σ H _ R ((ok_post q).mono (fun _ _ x => x) fun rs z vs H1 s r1 x dx nx ndx ne => ?_)
  exact mkO_core h0 R s r1 (hn env rs z.1) nx ndx ne z.2
end
/-! ### defs with cells of their own -/
def outO : Out → Res R
  | .nx _ => .ok (.sh .non)
  | .rt (.vw _) => .bad
  | .rt r => if r.d.np = true then .ok r else .bad
  | .exc _ c p => if npX p = true then .exc c p else .bad
  | _ => .bad
def runO (m : Nat) (body : En → Out) (ds : List T) : Res R := if ds.all T.np = true then outO (body (begE m ds (.st []))) else .bad
section
variable {P : Program} {w : World} {K : PySem.W.Frag} {mg : Str → Option Value} {base : Heap}
theorem fn_O {x qual : Str} {st : Stmt} {f : Addr} {fd : FuncData} {N ps : List Str} {k n m : Nat} {body : En → Out} (F : Fun K x qual st f fd) (S : FnScope N ps (defScope st)) (hn : ps.length = n) (hm : N.length = m) (hl : n + 1 ≤ m)
    (hb : ∀ (cdv : Value) (A : Around) (outer : List Env) (s : Shared) (H : Hp) (E : XK), Room k (A.deeper (PyProof.Rows.envOfC qual (defScope st) s.heap.objs.size f cdv)) →
      SsJ (cxOf (L2.CX P w) P w K mg base N qual (defScope st) f cdv A outer s H E) (fun _ => E) (defBody st) body) :
    FnOk P w K mg base (L2.CX P w) (k + 1) f fd ps (SpT K n (runO m body)) := by
  subst hn hm
  refine F.okX S (fun vs H Q E h => ?_) (fun cdv A outer s H vs Q E hr h => ?_)
  · obtain ⟨ds, X, _, h2, h3, _⟩ := h
    rw [← h2.1, h3]
  · obtain ⟨ds, X, h1, h2, h3, p⟩ := h
    obtain ⟨t, ps', i⟩ := (hb cdv A outer s H E hr).ex
    refine ⟨t, ps', ?_⟩
    unfold runO at p
    split at p
    · rename_i np
      have eX : Ex ⟨X.p, none, N.length, fun _ => none, H, true⟩ (List.replicate N.length none ++ ([] : List Addr).map some) = ⟨X.p, fun _ => none⟩ := by
        rw [List.map_nil, List.append_nil]
        exact Xs.ext2 (fun a => exRep) fun k => csRep (B := ⟨X.p, none, N.length, fun _ => none, H, true⟩) (n := N.length) k
      have z0 : Rel K ⟨X.p, none, N.length, fun _ => none, H, true⟩ H (List.replicate N.length none ++ ([] : List Addr).map some) (begE N.length ds (.st [])) (L2.start N vs) H :=
        rel_beginC rfl (by omega) eX (h2.np (fun _ z => z) np) (fun a m => nomatch m) .nil (Same.refl _) (Same.refl _) h1 (fun _ => rfl) fun σ => ⟨repN (by omega), by simp, ⟨rfl, fun _ => rfl⟩, fun k t e => by simp at e⟩
      refine i _ H _ _ _ H _ z0 ?_
      cases eb : body (begE N.length ds (.st [])) with
      | nx e =>
        rw [eb] at p
        exact fun O' σ' H' R' _ => p .non H' R'.same (Rp.non)
      | rt r =>
        rw [eb] at p
        cases r with
        | vw d => exact p.elim
        | sh d =>
          simp only [outO] at p
          split at p
          · rename_i q
            exact ⟨.inr q, rfl, fun v H' s' rx => p v H' s' (Rp.np rx (fun _ z => z) q)⟩
          · exact p.elim
        | fr d =>
          simp only [outO] at p
          split at p
          · rename_i q
            exact ⟨.inr q, rfl, fun v H' s' ⟨pp, ho, z1, z2, z3, z4⟩ => p v H' s' ⟨pp, ho, z1, z2, z3, z4.np (fun _ z => z) q⟩⟩
          · exact p.elim
        | bo j d =>
          simp only [outO] at p
          split at p
          · rename_i q
            exact ⟨.inr q, rfl, fun v H' s' rx => rx.elim⟩
          · exact p.elim
      | exc e c pl =>
        rw [eb] at p
        simp only [outO] at p
        split at p
        · rename_i q
          intro O' σ' H' d a ea R' _ x
          exact p H' d a ea R'.same (x.np (fun b z => .inl z) q)
        · exact p.elim
      | rm r e => rw [eb] at p; exact p.elim
      | bk e => rw [eb] at p; exact p.elim
      | ct e => rw [eb] at p; exact p.elim
      | bad => rw [eb] at p; exact p.elim
    · exact p.elim
end
end Tr
namespace Tr
open PySem L2
/-! ### a new list of new lists of numbers; each a cell from now on -/
def T.sc : T → Bool
  | .non => true
  | .bl _ => true
  | .int _ => true
  | .str _ => true
  | _ => false
def XT : Xs := ⟨fun _ => True, fun _ => none⟩
def RRF (K : PySem.W.Frag) (H H' : Hp) (ts : List T) (v : V) : Prop := ∃ (p : Addr) (ps : List Addr), v = .ref p ∧ H p = none ∧ H' p = some (.lst (ps.map V.ref)) ∧ ps.Nodup ∧ p ∉ ps ∧ ps.length = ts.length ∧ (∀ q ∈ ps, H q = none) ∧
  ∀ (i : Nat) (t : T), ts[i]? = some t → ∃ q ho, ps[i]? = some q ∧ H' q = some ho ∧ OwnRp K H' XT t ho
structure EFJ (X : Cx) (EX : L2.St → XK) (e : Expr) (f : En → Res (List T)) : Prop where
  ex : ∃ t : TE, PE X e t ∧ ∀ B H0 O env σ H (Q : VK), Rel X.K B H0 O env σ H → Post (XC X.K B O EX σ H) (fun ts => ∀ v H', Same H H' → RRF X.K H H' ts v → Q v H') (f env) → t σ H Q
def compF (g : T → En → Option En) (tt : En → Res Bool) (te : En → Res R) (env : En) : List T → List T → Res (List T)
  | [], acc => .ok acc
  | t :: ts, acc => match g t env with
    | none => .bad
    | some e1 => match tt e1 with
      | .ok true => (match te e1 with
        | .ok (.fr (.lst l)) => if l.all T.sc = true ∧ acc.length < sizeLine then compF g tt te env ts (acc ++ [.lst l]) else .bad
        | _ => .bad)
      | .ok false => compF g tt te env ts acc
      | _ => .bad
def fCompF (is : List Nat) (f : En → Res (List T)) (g : T → En → Option En) (tt : En → Res Bool) (te : En → Res R) (env : En) : Res (List T) := (f env).bind fun ts =>
  if is.any (fun i => isOw env[i]?) = true then .bad else
  match compF g tt te (wipeE env is) ts [] with
  | .ok l => .ok l
  | _ => .bad
section
variable {K : PySem.W.Frag} {H H1 H' : Hp} {X X' : Xs}
theorem sc_rp {t : T} {v : V} (h : Rp K H X t v) (e : t.sc = true) : Rp K H XT t v := by
  cases h with
  | non => exact .non
  | bl b => exact .bl b
  | int i => exact .int i
  | str x h => exact .str x h
  | _ => cases e
theorem sc_all {ts : List T} {us : List V} (h : RpAll K H X ts us) (e : ts.all T.sc = true) : RpAll K H XT ts us := ⟨h.1, fun i t u a b => sc_rp (h.2 i t u a b) (List.all_eq_true.mp e t (List.mem_of_getElem? a))⟩
theorem OwnRp.any {t : T} {ho : HO} (h : OwnRp K H XT t ho) : OwnRp K H X t ho := h.anti (fun _ _ => trivial) fun k a e => by cases e
theorem XT_same {t : T} {ho : HO} (h : OwnRp K H XT t ho) (s : Same H H') : OwnRp K H' XT t ho := h.same s
end
section
variable {X : Cx} {EX : L2.St → XK} {elt tg iter : Expr} {ifs : List Expr} {scope : Scope} {own : List (Str × Nat)} {is : List Nat} {f : En → Res (List T)} {g : T → En → Option En} {tt : En → Res Bool} {te : En → Res R} {pos : Pos}
theorem compF_core {wi : TI}
    (i : ∀ B H0 O env σ H (Q : It → Hp → Prop), Rel X.K B H0 O env σ H → Post (XC X.K B O EX σ H) (fun ts => ∀ J H', Same H H' → Wk X.K J (Ex B O) B.h H' ts → Q J H') (f env) → wi σ H Q)
    (sub : ∀ j ∈ is, j ∈ own.map (·.2)) (B H0 O env σ H) (Q : VK) (R : Rel X.K B H0 O env σ H)
    (p : Post (XC X.K B O EX σ H) (fun ts => ∀ v H', Same H H' → RRF X.K H H' ts v → Q v H') (fCompF (own.map (·.2)) f g tt te env)) :
    tLc wi (gOf X.K is g) (ttOf X.K EX0 tt) (tOf X.K EX0 te) (own.map (·.2)) σ H Q := by
  obtain ⟨vs, hvs⟩ : ∃ vs, vs = own.map (·.2) := ⟨_, rfl⟩
  rw [← hvs] at p sub ⊢
  refine i B H0 O env σ H _ R (p.bind.mono (fun _ _ x => x) fun ts q J H1 s wk => ?_)
  intro D hD1
  have hD : H D = none := s.free hD1
  split at q
  · exact q.elim
  · rename_i hw
    have hw' : vs.any (fun i => isOw env[i]?) = false := by simpa using hw
    refine ⟨fun n m H' => m = ts.length - n ∧ n ≤ ts.length ∧ ∃ (acc : List T) (ps : List Addr), Same H1 H' ∧ H' D = some (.lst (ps.map V.ref)) ∧ ps.Nodup ∧ D ∉ ps ∧ ps.length = acc.length ∧ (∀ q ∈ ps, H1 q = none) ∧
      (∀ (i : Nat) (t : T), acc[i]? = some t → ∃ q ho, ps[i]? = some q ∧ H' q = some ho ∧ OwnRp X.K H' XT t ho) ∧
      Post (fun _ _ => False) (fun l => ∀ v H'', Same H H'' → RRF X.K H H'' l v → Q v H'') (compF g tt te (wipeE env vs) (ts.drop n) acc),
      ⟨ts.length, by simp, Nat.zero_le _, [], [], Same.new hD1, upd_same, .nil, by simp, rfl, (by simp), fun i t e => by simp at e, ?_⟩, ?_⟩
    · rw [List.drop_zero]
      cases ec : compF g tt te (wipeE env vs) ts [] with
      | ok l => rw [ec] at q; exact q
      | exc c pl => rw [ec] at q; exact q.elim
      | bad => rw [ec] at q; exact q.elim
    · rintro n m H' ⟨rfl, hn, acc, ps, s', hD', nd, nD, len, fre, el, q'⟩
      obtain ⟨w1, w2⟩ := wk n H' ((Ex B O).add D) ⟨fun a o e n => ⟨s' a o e, fun z => z.elim n fun y => by rw [y, hD1] at e; cases e⟩, fun _ _ e => e⟩ ((R.lent.trans R.same).trans (s.trans s')) fun a z => by
        rcases z with z | z
        · obtain ⟨o, e⟩ := R.ex_there z
          exact ⟨o, s' _ _ (s _ _ e)⟩
        · rw [z]; exact ⟨_, hD'⟩
      by_cases hlt : n < ts.length
      · obtain ⟨go, yl⟩ := w1 hlt
        refine .inr ⟨go, fun H2 => ∃ (acc : List T) (ps : List Addr), Same H1 H2 ∧ H2 D = some (.lst (ps.map V.ref)) ∧ ps.Nodup ∧ D ∉ ps ∧ ps.length = acc.length ∧ (∀ q ∈ ps, H1 q = none) ∧
          (∀ (i : Nat) (t : T), acc[i]? = some t → ∃ q ho, ps[i]? = some q ∧ H2 q = some ho ∧ OwnRp X.K H2 XT t ho) ∧
          Post (fun _ _ => False) (fun l => ∀ v H'', Same H H'' → RRF X.K H H'' l v → Q v H'') (compF g tt te (wipeE env vs) (ts.drop (n + 1)) acc), fun H2 z => ⟨ts.length - (n + 1), by omega, rfl, hlt, z⟩, fun x H2 y => ?_⟩
        obtain ⟨s2, rp⟩ := yl x H2 y
        have et : ts[n]? = some ts[n] := List.getElem?_eq_getElem hlt
        have ed : ts.drop n = ts[n] :: ts.drop (n + 1) := List.drop_eq_getElem_cons hlt
        rw [ed] at q'
        unfold compF at q'
        have s02 : Same H H2 := (s.trans s').trans s2
        have hD2 : H2 D = some (.lst (ps.map V.ref)) := s2 _ _ hD'
        have Rb := R.block s02 hD hD2 (ntL _) vs hw'
        have exE : ∀ a, Ex (B.add D) O a ↔ (Ex B O a ∨ a = D) := fun a => ⟨fun z => by
            rcases z with (z | z) | z
            · exact .inl (.inl z)
            · exact .inr z
            · exact .inl (.inr z), fun z => by
            rcases z with (z | z) | z
            · exact .inl (.inl z)
            · exact .inr z
            · exact .inl (.inr z)⟩
        have up : ∀ {Hb : Hp}, Same H2 Hb → ∀ (i : Nat) (t : T), acc[i]? = some t → ∃ q ho, ps[i]? = some q ∧ Hb q = some ho ∧ OwnRp X.K Hb XT t ho := fun sb i t e => by
          obtain ⟨q, ho, z1, z2, z3⟩ := el i t e
          exact ⟨q, ho, z1, sb _ _ (s2 _ _ z2), (z3.same s2).same sb⟩
        refine ⟨_, H0, O, wipeE env vs, ts[n], Rb, (rp _ et).anti fun a z => (exE a).mp z, ?_⟩
        cases eg : g ts[n] (wipeE env vs) with
        | none => rw [eg] at q'; exact q'.elim
        | some e2 =>
          rw [eg] at q'
          intro O2 σ2 R2 k2 w2
          refine ⟨(w2.1 vs sub).trans (by
            apply List.ext_getElem?
            intro j
            rw [wipe_get, wipe_length]
            rw [wipe_get]
            by_cases c : j ∈ vs ∧ j < σ.length
            · rw [if_pos c, if_pos c]
            · rw [if_neg c, if_neg c]), _, H0, O2, e2, R2, ?_⟩
          simp only at q'
          cases eb : tt e2 with
          | bad => rw [eb] at q'; exact q'.elim
          | exc c pl => rw [eb] at q'; exact q'.elim
          | ok b =>
            rw [eb] at q'
            intro H3 s3
            cases b with
            | false =>
              refine iteF ⟨acc, ps, (s'.trans s2).trans s3, s3 _ _ hD2, nd, nD, len, fre, up s3, q'⟩
            | true =>
              refine iteT ⟨_, H0, O2, e2, R2.mono s3, ?_⟩
              simp only at q'
              cases er : te e2 with
              | bad => rw [er] at q'; exact q'.elim
              | exc c pl => rw [er] at q'; exact q'.elim
              | ok r =>
                rw [er] at q'
                intro v H4 s4 r4
                cases r with
                | fr d =>
                  cases d with
                  | lst l =>
                    simp only at q'
                    by_cases c : l.all T.sc = true ∧ acc.length < sizeLine
                    · rw [if_pos c] at q'
                      have st : Same H2 H4 := s3.trans s4
                      have hD4 : H4 D = some (.lst (ps.map V.ref)) := st _ _ hD2
                      obtain ⟨pq, us, rfl, n3, h4, ra⟩ := r4.frlst
                      have npq : pq ∉ ps := fun mm => by
                        obtain ⟨j, e⟩ := List.getElem?_of_mem mm
                        have hj : j < acc.length := by rw [← len]; exact (List.getElem?_eq_some_iff.mp e).1
                        obtain ⟨q, ho, z1, z2, _⟩ := up s3 j _ (List.getElem?_eq_getElem hj)
                        rw [e] at z1
                        cases z1
                        rw [n3] at z2; cases z2
                      have nDq : D ≠ pq := fun z => by rw [← z, s3 _ _ hD2] at n3; cases n3
                      refine ⟨ps.map V.ref, hD4, by rw [List.length_map, len]; exact c.2, acc ++ [.lst l], ps ++ [pq], fun a o e => ?_, ?_, ?_, ?_, ?_, ?_, ?_, q'⟩
                      · rw [upd_ne (ne_of_none e hD1)]
                        exact st _ _ (s2 _ _ (s' _ _ e))
                      · rw [upd_same]; simp
                      · rw [List.nodup_append]
                        exact ⟨nd, by simp, fun a ma b mb => by
                          have : b = pq := by simpa using mb
                          rw [this]
                          exact fun z => npq (z ▸ ma)⟩
                      · intro mm
                        rcases List.mem_append.mp mm with mm | mm
                        · exact nD mm
                        · exact nDq (by simpa using mm)
                      · simp [len]
                      · intro q mm
                        rcases List.mem_append.mp mm with mm | mm
                        · exact fre q mm
                        · have : q = pq := by simpa using mm
                          rw [this]
                          exact ((s'.trans s2).trans s3).free n3
                      · intro i t e
                        have keepX : Same H4 H4 := Same.refl _
                        have nq : ∀ q, q ∈ ps ++ [pq] → q ≠ D := fun q mm z => by
                          rw [z] at mm
                          rcases List.mem_append.mp mm with mm | mm
                          · exact nD mm
                          · exact nDq (by simpa using mm)
                        have ow : ∀ {t ho}, OwnRp X.K H4 XT t ho → OwnRp X.K (upd H4 D (.lst (ps.map V.ref ++ [V.ref pq]))) XT t ho := fun h => h.keep ⟨fun a o e n => (n trivial).elim, fun _ _ e => e⟩
                        by_cases ci : i < acc.length
                        · rw [List.getElem?_append_left ci] at e
                          obtain ⟨q, ho, z1, z2, z3⟩ := up st i t e
                          have mq := List.mem_of_getElem? z1
                          exact ⟨q, ho, by rw [List.getElem?_append_left (by rw [len]; exact ci)]; exact z1, by rw [upd_ne (nq q (List.mem_append_left _ mq))]; exact z2, ow z3⟩
                        · have hi : i < (acc ++ [T.lst l]).length := (List.getElem?_eq_some_iff.mp e).1
                          have ei : i = acc.length := by simp at hi; omega
                          subst ei
                          have e2' : (acc ++ [T.lst l])[acc.length]? = some (.lst l) := by simp
                          rw [e2'] at e
                          cases e
                          exact ⟨pq, .lst us, by rw [← len]; simp, by rw [upd_ne (nq pq (by simp))]; exact h4, ow (.lst (sc_all ra c.1))⟩
                    · rw [if_neg c] at q'; exact q'.elim
                  | _ => exact q'.elim
                | _ => exact q'.elim
      · have e : n = ts.length := by omega
        subst e
        rw [List.drop_length] at q'
        exact .inl ⟨w2 (Nat.le_refl _), q' (.ref D) H' (s.trans s') ⟨D, ps, rfl, hD, hD', nd, nD, len, fun q m => s.free (fre q m), el⟩⟩
theorem ef_comp (own : List (Str × Nat)) (hc : X.calm = true) (hN : X.N.Nodup) (hi : FJ X EX tg iter f) (ok : BlkOk X.N X.env.scope scope own) (sub : ∀ j ∈ is, j ∈ own.map (·.2))
    (hg : ∀ (s : Shared) (H : Hp) (C : Addr) (cl : List (Str × Addr)) (fp : List Addr), GJ (X.blk s H scope (compEnvC scope cl C X.env) fp) tg is g)
    (ht : ∀ (s : Shared) (H : Hp) (C : Addr) (cl : List (Str × Addr)) (fp : List Addr), TsJ (X.blk s H scope (compEnvC scope cl C X.env) fp) EX0 ifs tt)
    (he : ∀ (s : Shared) (H : Hp) (C : Addr) (cl : List (Str × Addr)) (fp : List Addr), EJ (X.blk s H scope (compEnvC scope cl C X.env) fp) EX0 elt te) (hs : ∀ x, foldedSetIterable iter X.env x = pure x := by intro _; rfl) :
    EFJ X EX (.ListComp elt [⟨tg, iter, ifs, 0⟩] scope pos) (fCompF (own.map (·.2)) f g tt te) := by
  obtain ⟨wi, pi, i⟩ := hi.ex
  exact ⟨⟨_, pe_lc (g := gOf X.K is g) (tt := ttOf X.K EX0 tt) (te := tOf X.K EX0 te) hc hN pi ok (fun s H C cl fp => (hg s H C cl fp).pg) (fun s H C cl fp => (ht s H C cl fp).pt) (fun s H C cl fp => (he s H C cl fp).pe) hs, fun B H0 O env σ H Q R p => compF_core i sub B H0 O env σ H Q R p⟩⟩
end
section
variable {K : PySem.W.Frag} {B : Bs} {H0 H H1 H' : Hp} {O : Ow} {env : En} {σ : L2.St} {m : Nat} {S : List T}
/-- objects become cells -/
theorem Rel.newCs (R0 : Rel K B H0 O env σ H) (es : env[m]? = some (.st S)) (s : Same H H1) {ps : List Addr} {ts : List T} (nd : ps.Nodup) (fre : ∀ q ∈ ps, H q = none) (len : ps.length = ts.length)
    (own : ∀ (i : Nat) (t : T), ts[i]? = some t → ∃ q ho, ps[i]? = some q ∧ H1 q = some ho ∧ OwnRp K H1 XT t ho) :
    ∃ O', Rel K B H0 O' (env.set m (.st (S ++ ts))) σ H1 ∧ Keep (Ex B O) H (Ex B O') H1 ∧ (∀ (i : Nat) (q : Addr), ps[i]? = some q → (Ex B O').cs (S.length + i) = some q) ∧ ∀ a, Ex B O' a → Ex B O a ∨ a ∈ ps := by
  obtain ⟨P, A, C⟩ := R0.cells_of es
  have CF := R0.cellsF C
  have fresh : ∀ b o, H b = some o → b ∉ ps := fun b o e m => by rw [fre b m] at e; cases e
  have kx : Keep (xw (slP B P) A) H (xw (slP B P) (A ++ ps)) H1 := ⟨fun b o e n => ⟨s b o e, fun z => by
      rcases z with z | z
      · exact n (.inl z)
      · rcases List.mem_append.mp z with z | z
        · exact n (.inr z)
        · exact fresh b o e z⟩, fun k a e => by
    have e' : A[k]? = some a := e
    show (A ++ ps)[k]? = some a
    rw [List.getElem?_append_left (List.getElem?_eq_some_iff.mp e').1]
    exact e'⟩
  have there : ∀ a ∈ A, ∃ o, H a = some o := fun a ma => by
    obtain ⟨k, e⟩ := List.getElem?_of_mem ma
    have hk : k < S.length := by rw [← C.lA]; exact (List.getElem?_eq_some_iff.mp e).1
    obtain ⟨b, ho, z1, z2, _⟩ := C.own k _ (List.getElem?_eq_getElem hk)
    rw [e] at z1
    cases z1
    exact ⟨ho, z2⟩
  have own' : ∀ (j : Nat) (t' : T), (S ++ ts)[j]? = some t' → ∃ a ho, (A ++ ps)[j]? = some a ∧ H1 a = some ho ∧ OwnRp K H1 (xw (slP B P) (A ++ ps)) t' ho := fun j t' et => by
    by_cases c : j < S.length
    · rw [List.getElem?_append_left c] at et
      obtain ⟨b, ho, z1, z2, z3⟩ := C.own j t' et
      exact ⟨b, ho, by rw [List.getElem?_append_left (List.getElem?_eq_some_iff.mp z1).1]; exact z1, s _ _ z2, z3.keep kx⟩
    · rw [List.getElem?_append_right (by omega)] at et
      obtain ⟨q, ho, z1, z2, z3⟩ := own _ _ et
      exact ⟨q, ho, by rw [List.getElem?_append_right (by rw [C.lA]; omega), C.lA]; exact z1, z2, z3.any⟩
  obtain ⟨R1, k1, C1⟩ := R0.cellsTo (A' := A ++ ps) (S' := S ++ ts) (H1 := H1) es C (fun k a e => by rw [List.getElem?_append_left (List.getElem?_eq_some_iff.mp e).1]; exact e) (by simp [C.lA, len])
    (by
      rw [List.nodup_append]
      exact ⟨CF.nd, nd, fun a ma b mb z => by
        obtain ⟨o, e⟩ := there a ma
        exact fresh a o e (z ▸ mb)⟩)
    (fun a ma => (List.mem_append.mp ma).imp id (fre a))
    (fun b o e n => s b o e) own'
  refine ⟨_, R1, k1, fun i q e => ?_, fun a z => ?_⟩
  · rw [C1.ex]
    show (A ++ ps)[S.length + i]? = some q
    rw [List.getElem?_append_right (by rw [C.lA]; omega), C.lA]
    have : S.length + i - S.length = i := by omega
    rw [this]
    exact e
  · rw [C1.ex] at z
    rw [C.ex]
    rcases z with z | z
    · exact .inl (.inl z)
    · exact (List.mem_append.mp z).imp .inr id
end
def ptrs (n k : Nat) : List T := (List.range k).map fun i => .ptr (n + i)
def fCPf (m : Nat) (Cs : List Nat) (f : Str) (u : En → Res (List T)) (g : En → Res R) (env : En) : Out := (u env).out (fun ts env => (g env).out (fun x env => onObj m x env fun S k C fs =>
  if C ∈ Cs ∧ fs.length < 1000 then .nx (env.set m (.st ((S ++ ts).set k (.obj C (putFT f (.lst (ptrs S.length ts.length)) fs))))) else .bad) env) env
section
variable {X : Cx} {EX : L2.St → XK} {o e : Expr} {g : En → Res R} {u : En → Res (List T)} {pos pos' : Pos} {f : Str}
theorem sj_cPf (m : Nat) (Cs : List Nat) (he : EFJ X EX e u) (ho : EJ X EX o g) (hc : ∀ C ∈ Cs, AtOk X.K f C) (hs : swapsWith e (some (.Attribute o f pos')) pos.line X.env = pure false := by rfl) :
    SJ X EX (.Assign [.Attribute o f pos'] e pos) (fCPf m Cs f u g) := by
  obtain ⟨t, pe, kk⟩ := he.ex
  obtain ⟨t2, pe2, kk2⟩ := ho.ex
  refine ⟨⟨_, ps_fld pe2 pe hs, fun B H0 O env σ H D R q => ?_⟩⟩
  refine kk B H0 O env σ H _ R ((sOf_post (f := u) (k := fun ts env => (g env).out (fun x env => onObj m x env fun S k C fs =>
    if C ∈ Cs ∧ fs.length < 1000 then .nx (env.set m (.st ((S ++ ts).set k (.obj C (putFT f (.lst (ptrs S.length ts.length)) fs))))) else .bad) env) R q).mono (fun _ _ x => x) fun ts q v H1 s r1 => ?_)
  have R1 := R.mono s
  refine kk2 B H0 O env σ H1 _ R1 (((sOf_post (f := g) (k := fun x env => onObj m x env fun S k C fs =>
    if C ∈ Cs ∧ fs.length < 1000 then .nx (env.set m (.st ((S ++ ts).set k (.obj C (putFT f (.lst (ptrs S.length ts.length)) fs))))) else .bad) R q).up s).mono (fun _ _ x => x) fun x q2 w H2 s2 r2 => ?_)
  obtain ⟨S, k, Cn, fs, es, rfl, ek, q2⟩ := onObj_post q2
  split at q2
  · rename_i cc
    obtain ⟨p, ps, e1, np, hp1, nd, nps, len, fre, own⟩ := r1
    obtain ⟨O3, R3, k3, c3, sub3⟩ := R.newCs es (s.trans s2) nd fre len (fun i t e => by
      obtain ⟨q, ho, z1, z2, z3⟩ := own i t e
      exact ⟨q, ho, z1, s2 _ _ z2, z3.same s2⟩)
    have hm : m < env.length := (List.getElem?_eq_some_iff.mp es).1
    have es3 : (env.set m (.st (S ++ ts)))[m]? = some (.st (S ++ ts)) := by rw [List.getElem?_set, if_pos rfl, if_pos hm]
    have hk : k < S.length := (List.getElem?_eq_some_iff.mp ek).1
    have ek3 : (S ++ ts)[k]? = some (.obj Cn fs) := by rw [List.getElem?_append_left hk]; exact ek
    have r3 : RR X.K B O3 H2 H2 (.sh (.ptr k)) w := by
      obtain ⟨b, y1, y2⟩ := rp_ptr r2
      rw [y2]
      exact Rp.ptr (k3.c _ _ y1)
    obtain ⟨P, A, a, ho, C, ea, rfl, ha, ow⟩ := cell_at R3 es3 (R3.cells_of es3) ek3 r3
    cases ow with
    | @obj _ c' dx _ us z0 z1 z2 =>
    refine ⟨a, c', dx, us, rfl, ha, (hc Cn cc.1).c c' z0, (hc Cn cc.1).n c' z0, ?_, ?_⟩
    · have := congrArg List.length z1
      simp at this
      rw [← this]; exact cc.2
    · subst e1
      have rl : Rp X.K H2 (Ex B O3) (.lst (ptrs S.length ts.length)) (.ref p) := by
        refine .lst (s2 _ _ hp1) (fun z => (sub3 p z).elim (R.ex_new np) nps) (by simp [ptrs, len]) fun i t u a b => ?_
        rw [List.getElem?_map] at b
        cases ep : ps[i]? with
        | none => rw [ep] at b; cases b
        | some q =>
          rw [ep] at b
          cases b
          have hi : i < ts.length := by rw [← len]; exact (List.getElem?_eq_some_iff.mp ep).1
          have : (ptrs S.length ts.length)[i]? = some (.ptr (S.length + i)) := by
            unfold ptrs
            rw [List.getElem?_map, List.getElem?_range hi]
            rfl
          rw [this] at a
          cases a
          exact .ptr (c3 i q ep)
      obtain ⟨y1, y2⟩ := put_rel (f := f) rl z1 z2
      obtain ⟨O', R4, k4⟩ := R3.chgC es3 C ea (fun b o e n => by rw [upd_ne n]; exact e) upd_same (.obj (dx := dx) z0 y1 y2)
      rw [List.set_set] at R4
      exact q2 O' σ _ R4 (k3.trans k4)
  · exact q2.elim
end
end Tr
namespace Tr
open PySem L2
section
variable {P : Program} {w : World} {K : PySem.W.Frag} {mg : Str → Option Value} {base : Heap} {mt : Str} {j : Nat} {A : Type} {sp : A → Sp}
theorem alt_one {C : Nat} {F : A} (h : MetS P w K mg base C mt j (sp F)) : ∀ C' F', (C', F') ∈ [(C, F)] → MetS P w K mg base C' mt j (sp F') := fun C' F' m => by
  have : (C', F') = (C, F) := by simpa using m
  cases this
  exact h
theorem alt_cons {C : Nat} {F : A} {l : List (Nat × A)} (h : MetS P w K mg base C mt j (sp F)) (k : ∀ C' F', (C', F') ∈ l → MetS P w K mg base C' mt j (sp F')) : ∀ C' F', (C', F') ∈ (C, F) :: l → MetS P w K mg base C' mt j (sp F') := fun C' F' m => by
  rcases List.mem_cons.mp m with e | m
  · cases e; exact h
  · exact k C' F' m
theorem alt_up {C i : Nat} {s : Sp} (h : MetS P w K mg base C mt i s) (le : i ≤ j) : MetS P w K mg base C mt j s := by
  obtain ⟨c, f, fd, ps, h1, h2, h3, h4, h5⟩ := h.ex
  exact ⟨c, f, fd, ps, h1, h2, h3, h4, h5.mono le⟩
end
/-! ### sorted(d), d a dict of numbers -/
def intKeys : List (Key × T) → Option (List Int)
  | [] => some []
  | (.inl i, _) :: l => (intKeys l).map (i :: ·)
  | (.inr _, _) :: _ => none
def sortDR : List R → Res R
  | [x] => match x.d with
    | .dik l => (match intKeys l with
      | some ks => if ks.length < 64 then .ok (.fr (.lst ((sortI ks).map T.int))) else .bad
      | none => .bad)
    | _ => .bad
  | _ => .bad
section
variable {X : Cx}
theorem intKeys_map : ∀ {l : List (Key × T)} {ks : List Int}, intKeys l = some ks → l.map (·.1) = ks.map Sum.inl
  | [], ks, e => by cases e; rfl
  | (.inl i, t) :: l, ks, e => by
    unfold intKeys at e
    cases q : intKeys l with
    | none => rw [q] at e; cases e
    | some k2 =>
      rw [q] at e
      cases e
      rw [List.map_cons, List.map_cons, intKeys_map q]
  | (.inr i, t) :: l, ks, e => by cases e
theorem calli_sortedD : CallI X (fun xs H Q => ∃ (a : Addr) (kvs : List (Key × V)) (ks : List Int), xs = [.ref a] ∧ Rd H a (.dK kvs) ∧ kvs.map (·.1) = ks.map Sum.inl ∧ ks.length < 64 ∧ ∀ (ys : List Int) (p : Addr), ys.Perm ks → ys.Pairwise (· ≤ ·) → H p = none → Q (.ref p) (upd H p (.lst (ys.map V.int)))) sortDR := by
  intro B H0 O env σ Hs H rs vs Q xc R s rx p
  unfold sortDR at p
  split at p
  · rename_i x
    obtain ⟨v, rfl, r1⟩ := rx.one
    split at p
    · rename_i l el
      split at p
      · rename_i ks ek
        split at p
        · rename_i hl
          obtain ⟨a, us, rfl, ha, e1, e2⟩ := r1.dik el
          refine ⟨a, us, ks, rfl, .inl ha, by rw [← e1]; exact intKeys_map ek, hl, fun ys q h1 h2 nq => ?_⟩
          rw [sortI_is h1 h2]
          exact p _ _ (Same.new nq) (RR.newL R s .ints nq)
        · exact p.elim
      · exact p.elim
    · exact p.elim
  · exact p.elim
end
end Tr
namespace Tr
open PySem L2
/-! ### new cells; displays -/
def newO (m : Nat) (r : R) (env : En) : ResE T := match r, stS env[m]? with
  | .fr d, some S => .ok (.ptr S.length) (env.set m (.st (S ++ [d])))
  | _, _ => .bad
def wNew (m : Nat) (f : En → Res R) (env : En) : ResE T := ((f env).lift env).bind (newO m)
def wTup (g : En → ResE (List T)) (env : En) : ResE T := (g env).bind fun ts env => if ts.length ≤ sizeLine then .ok (.tup ts) env else .bad
section
variable {X : Cx} {EX : L2.St → XK} {e : Expr} {es : List Expr} {f : En → Res R} {g : En → ResE (List T)} {pos : Pos}
theorem ew_new (m : Nat) (he : EJ X EX e f) : EWJ X EX e (wNew m f) := by
  obtain ⟨t, pe, i⟩ := he.ex
  refine ⟨⟨t, pe, fun B H0 O env σ H Q R p => ?_⟩⟩
  refine i B H0 O env σ H Q R ?_
  unfold wNew at p
  cases ef : f env with
  | ok r =>
    rw [ef] at p
    intro v H' s rr
    simp only [Res.lift, ResE.bind, newO] at p
    split at p
    · rename_i d S es
      obtain ⟨q, ho, rfl, nq, h1, own⟩ := rr
      obtain ⟨O2, R2, k2, c2⟩ := R.newC (stS_some es) s nq h1 own
      exact p O2 H' R2 k2 (Dom.same s) (.ref q) (.ptr c2)
    · exact p.elim
  | exc c pl =>
    rw [ef] at p
    exact fun H' d a ea s x => p O H' d a ea (R.mono s) (Same.keepB s) x
  | bad => rw [ef] at p; exact p.elim
theorem ew_tup {x1} (k : AWJ X EX es g) : EWJ X EX (.Tuple es x1 pos) (wTup g) := by
  obtain ⟨t, pa, i⟩ := k.ex
  refine ⟨⟨_, pe_tup pa, fun B H0 O env σ H Q R p => ?_⟩⟩
  refine i B H0 O env σ H _ R (p.bind.mono fun ts e1 O1 H1 R1 k1 d1 ⟨_, q⟩ vs rv => ?_)
  split at q
  · rename_i c
    refine ⟨by rw [← rv.1]; exact c, fun a na => ?_⟩
    have s := Same.new (o := HO.tup vs) na
    exact q O1 _ (R1.mono s) (Same.keepB s) (Dom.same s) (.ref a) (.tup upd_same (R1.ex_new na) rv.1 (rv.same s).2)
  · exact q.elim
end
/-! ### k not in d -/
def dninR (y x : R) : Res R := match dgT x.d y.d with
  | some r => .ok (.sh (.bl (!r.isSome)))
  | none => .bad
section
variable {X : Cx} {EX : L2.St → XK} {a b : Expr} {f g : En → Res R} {pos : Pos}
theorem ej_dnin (hu : X.A.units + 64 < cLine) (ha : EJ X EX a f) (hb : EJ X EX b g) (h1 : behindInMarks .NotIn b = false := by first | exact nobehind _ (by decide) (by decide) | rfl) : EJ X EX (.Compare a [.NotIn] [b] pos) (b2 dninR f g) := by
  obtain ⟨t, pe, i⟩ := ha.ex
  obtain ⟨t', pe', i'⟩ := hb.ex
  refine ⟨⟨_, pe_cmp (pc_dnotin (by omega) pe pe') h1, fun B H0 O env σ H Q R p => ?_⟩⟩
  refine i B H0 O env σ H _ R (p.bind.mono (fun _ _ x => x) fun y q v H1 s r1 => ?_)
  refine i' B H0 O env σ H1 _ (R.mono s) ((q.bind.up s).mono (fun _ _ x => x) fun x q2 w H2 s2 r2 => ?_)
  unfold dninR at q2
  split at q2
  · rename_i r et
    obtain ⟨a, o, rfl, _, dg, z⟩ := dgT_ok r2 (Same.refl _) (r1.mono s2) et
    refine ⟨a, o, rfl, dg, q2 _ H2 (s.trans s2) ?_⟩
    rcases z with ⟨rfl, rfl⟩ | ⟨t2, u, rfl, rfl, ru⟩
    · exact Rp.bl _
    · exact Rp.bl _
  · exact q2.elim
theorem bj_dnin (hu : X.A.units + 64 < cLine) (ha : EJ X EX a f) (hb : EJ X EX b g) (h1 : behindInMarks .NotIn b = false := by first | exact nobehind _ (by decide) (by decide) | rfl) : BJ X EX (.Compare a [.NotIn] [b] pos) (c2 dninR f g) := by
  obtain ⟨t, pe, i⟩ := ha.ex
  obtain ⟨t', pe', i'⟩ := hb.ex
  refine ⟨⟨_, pt_cmp (pc_dnotin (by omega) pe pe') h1, fun B H0 O env σ H Q R p => ?_⟩⟩
  refine i B H0 O env σ H _ R (p.bind.mono (fun _ _ x => x) fun y q v H1 s r1 => ?_)
  refine i' B H0 O env σ H1 _ (R.mono s) ((q.bind.up s).mono (fun _ _ x => x) fun x q2 w H2 s2 r2 => ?_)
  unfold dninR at q2
  split at q2
  · rename_i r et
    obtain ⟨a, o, rfl, _, dg, z⟩ := dgT_ok r2 (Same.refl _) (r1.mono s2) et
    refine ⟨a, o, rfl, dg, (!o.isSome), rfl, ?_⟩
    rcases z with ⟨rfl, rfl⟩ | ⟨t2, u, rfl, rfl, ru⟩
    · exact q2 H2 (s.trans s2)
    · exact q2 H2 (s.trans s2)
  · exact q2.elim
end
end Tr
/-! ### a list of new cells; compare through pointers -/
namespace Tr
open PySem L2
def wLst (g : En → ResE (List T)) (env : En) : ResE T := (g env).bind fun ts env => if ts.length ≤ sizeLine then .ok (.lst ts) env else .bad
section
variable {X : Cx} {EX : L2.St → XK} {e : Expr} {es : List Expr} {f : En → Res R} {g : En → ResE (List T)} {pos : Pos}
theorem ew_lst (k : AWJ X EX es g) : EWJ X EX (.List es pos) (wLst g) := by
  obtain ⟨t, pa, i⟩ := k.ex
  refine ⟨⟨_, pe_lst pa, fun B H0 O env σ H Q R p => ?_⟩⟩
  refine i B H0 O env σ H _ R (p.bind.mono fun ts e1 O1 H1 R1 k1 d1 ⟨_, q⟩ vs rv => ?_)
  split at q
  · rename_i c
    refine ⟨by rw [← rv.1]; exact c, fun a na => ?_⟩
    have s := Same.new (o := HO.lst vs) na
    exact q O1 _ (R1.mono s) (Same.keepB s) (Dom.same s) (.ref a) (.lst upd_same (R1.ex_new na) rv.1 (rv.same s).2)
  · exact q.elim
end
/-- as it stands when all pointers are followed -/
def dpR (m : Nat) (env : En) (r : R) : Res T := if r.d.np = true then .ok r.d else match r, stO env[m]? with
  | .sh d, some S => (match dp S 30 d with
    | some t => .ok t
    | none => .bad)
  | _, _ => .bad
theorem dpR_ok {K : PySem.W.Frag} {B : Bs} {H0 H H1 : Hp} {O : Ow} {env : En} {σ : L2.St} {m : Nat} {r : R} {v : V} {t : T} (R0 : Rel K B H0 O env σ H1) (h : RR K B O H H1 r v) (e : dpR m env r = .ok t) : ∃ X, Rp K H1 X t v := by
  unfold dpR at e
  by_cases c : r.d.np = true
  · rw [if_pos c] at e
    cases e
    exact ⟨_, h.rp0⟩
  · rw [if_neg c] at e
    cases r with
    | sh d =>
      cases es : stO env[m]? with
      | none => rw [es] at e; cases e
      | some S =>
        rw [es] at e
        simp only at e
        cases et : dp S 30 d with
        | none => rw [et] at e; cases e
        | some t' =>
          rw [et] at e
          cases e
          exact ⟨_, ((dp_ok (X' := (Ex B O).bare) (R0.read es) (fun a z => z.elim) (fun k a _ z => z.elim) 30).1 d t v et h).1⟩
    | _ => cases e
def neP (m : Nat) (ng : Bool) (env : En) (x y : R) : Res Bool := match dpR m env x, dpR m env y with
  | .ok a, .ok b => if T.pd 8 a = true ∧ T.pd 8 b = true then .ok (if ng = true then !teq a b else teq a b) else .bad
  | _, _ => .bad
def cNeP (m : Nat) (ng : Bool) (f g : En → Res R) (env : En) : Res Bool := (f env).bind fun x => (g env).bind fun y => neP m ng env x y
theorem neP_ok {K : PySem.W.Frag} {B : Bs} {H0 H H1 : Hp} {O : Ow} {env : En} {σ : L2.St} {m : Nat} {ng : Bool} {x y : R} {v w : V} {P : Bool → Prop} {xc : Addr → Option T → Prop} (R0 : Rel K B H0 O env σ H1) (h : RR K B O H H1 x v) (k : RR K B O H H1 y w)
    (e : Post xc P (neP m ng env x y)) : ∃ a b, Dp K H1 v a.toD ∧ Dp K H1 w b.toD ∧ SeqAt.shaped a.toD = true ∧ SeqAt.shaped b.toD = true ∧ P (if ng = true then !teq a b else teq a b) := by
  unfold neP at e
  split at e
  · rename_i a b ea eb
    split at e
    · rename_i c
      obtain ⟨X, r1⟩ := dpR_ok R0 h ea
      obtain ⟨Y, r2⟩ := dpR_ok R0 k eb
      obtain ⟨d1, c1, e1⟩ := r1.plain 8 c.1
      obtain ⟨d2, c2, e2⟩ := r2.plain 8 c.2
      exact ⟨a, b, d1, d2, shaped_of (t := a) c1 e1, shaped_of (t := b) c2 e2, e⟩
    · exact e.elim
  · exact e.elim
section
variable {X : Cx} {EX : L2.St → XK} {a b : Expr} {f g : En → Res R} {pos : Pos}
theorem bj_neP (hu : X.A.units + 64 < cLine) (m : Nat) (ha : EJ X EX a f) (hb : EJ X EX b g) (hm : behindInMarks .NotEq b = false) : BJ X EX (.Compare a [.NotEq] [b] pos) (cNeP m true f g) := by
  obtain ⟨t, pe, i⟩ := ha.ex
  obtain ⟨t', pe', i'⟩ := hb.ex
  refine ⟨⟨_, pt_cmpR (op_neD hu) pe pe' hm, fun B H0 O env σ H Q R p => ?_⟩⟩
  refine i B H0 O env σ H _ R (p.bind.mono (fun _ _ x => x) fun x q v H1 s r1 => ?_)
  refine i' B H0 O env σ H1 _ (R.mono s) ((q.bind.up s).mono (fun _ _ x => x) fun y q2 w H2 s2 r2 => ?_)
  obtain ⟨a', b', d1, d2, s1, s3, z⟩ := neP_ok (R.mono (s.trans s2)) (r1.mono s2) (r2.down s) q2
  exact ⟨a'.toD, b'.toD, d1, d2, s1, s3, _, rfl, z H2 (s.trans s2)⟩
theorem bj_eqP (hu : X.A.units + 64 < cLine) (m : Nat) (ha : EJ X EX a f) (hb : EJ X EX b g) (hm : behindInMarks .Eq b = false) : BJ X EX (.Compare a [.Eq] [b] pos) (cNeP m false f g) := by
  obtain ⟨t, pe, i⟩ := ha.ex
  obtain ⟨t', pe', i'⟩ := hb.ex
  refine ⟨⟨_, pt_cmpR (op_eqD hu) pe pe' hm, fun B H0 O env σ H Q R p => ?_⟩⟩
  refine i B H0 O env σ H _ R (p.bind.mono (fun _ _ x => x) fun x q v H1 s r1 => ?_)
  refine i' B H0 O env σ H1 _ (R.mono s) ((q.bind.up s).mono (fun _ _ x => x) fun y q2 w H2 s2 r2 => ?_)
  obtain ⟨a', b', d1, d2, s1, s3, z⟩ := neP_ok (R.mono (s.trans s2)) (r1.mono s2) (r2.down s) q2
  exact ⟨a'.toD, b'.toD, d1, d2, s1, s3, _, rfl, z H2 (s.trans s2)⟩
end
@[simp] theorem wLst_eq (g : En → ResE (List T)) (env : En) : wLst g env = (g env).bind fun ts env => if ts.length ≤ sizeLine then .ok (.lst ts) env else .bad := rfl
@[simp] theorem cNeP_eq (m : Nat) (ng : Bool) (f g : En → Res R) (env : En) : cNeP m ng f g env = (f env).bind fun x => (g env).bind fun y => neP m ng env x y := rfl
end Tr
namespace Tr
open PySem L2
/-! ### what the combinators compute -/
section
variable {S l : List T} {s : Option Sl} {r x y z : R} {t : T} {k m n i : Nat} {env e : En} {f g u ci : En → Res R} {ga : En → Res (List R)} {rs : List R} {ex : Addr} {pl : Option T} {mt fld : Str} {C : Nat} {fs : List (Str × T)} {Cs : List Nat}
def drV : Option T → Res R
  | some t => .ok (.vw t)
  | none => .bad
def drB (i : Nat) : Option T → Res R
  | some t => .ok (.bo i t)
  | none => .bad
def drS (s : Option Sl) (n : Nat) (r : R) : Res R := match r with
  | .sh (.ptr k) => (match s with
    | some (.st S) => drB (n + k) S[k]?
    | some (.rd S) => drV S[k]?
    | _ => .bad)
  | r => .ok r
def Res.dr (a : Res R) (s : Option Sl) (n : Nat) : Res R := a.bind (drS s n)
theorem drR_S (m : Nat) (env : En) (r : R) : drR m env r = drS env[m]? env.length r := by
  unfold drR drS
  split
  · rename_i k
    cases h : env[m]? with
    | none => rfl
    | some s =>
      cases s with
      | st S => simp only; cases S[k]? <;> rfl
      | rd S => simp only; cases S[k]? <;> rfl
      | _ => rfl
  · rename_i hh
    first
    | rfl
    | (split
       · rename_i k; exact (hh k rfl).elim
       · rfl)
@[simp] theorem fDr_eq : fDr m f env = (f env).dr env[m]? env.length := by
  unfold fDr Res.dr
  exact congrArg _ (funext fun r => drR_S m env r)
@[simp] theorem dr_ok : (Res.ok r).dr s n = drS s n r := rfl
@[simp] theorem dr_exc : (Res.exc ex pl : Res R).dr s n = .exc ex pl := rfl
@[simp] theorem drS_st : drS (some (.st S)) n (.sh (.ptr k)) = drB (n + k) S[k]? := rfl
@[simp] theorem drS_rd : drS (some (.rd S)) n (.sh (.ptr k)) = drV S[k]? := rfl
@[simp] theorem drB_some : drB i (some t) = .ok (.bo i t) := rfl
@[simp] theorem drV_some : drV (some t) = .ok (.vw t) := rfl
@[simp] theorem stO_st : stO (some (.st S)) = some S := rfl
@[simp] theorem stO_rd : stO (some (.rd S)) = some S := rfl
@[simp] theorem stS_st : stS (some (.st S)) = some S := rfl
@[simp] theorem obR_st : obR (some (.st S)) (.sh (.ptr k)) = S[k]? := rfl
@[simp] theorem obR_rd : obR (some (.rd S)) (.sh (.ptr k)) = S[k]? := rfl
@[simp] theorem obT_st : obT (some (.st S)) (.ptr k) = S[k]? := rfl
@[simp] theorem obT_rd : obT (some (.rd S)) (.ptr k) = S[k]? := rfl
@[simp] theorem obR_obj : obR s (.sh (.obj C fs)) = some (.obj C fs) := rfl
@[simp] theorem obR_objf : obR s (.fr (.obj C fs)) = some (.obj C fs) := rfl
@[simp] theorem obR_objb : obR s (.bo i (.obj C fs)) = some (.obj C fs) := rfl
@[simp] theorem obR_objv : obR s (.vw (.obj C fs)) = some (.obj C fs) := rfl
@[simp] theorem obT_obj : obT s (.obj C fs) = some (.obj C fs) := rfl
@[simp] theorem altOf_obj {A : Type} (alts : List (Nat × A)) : altOf mt alts (some (.obj C fs)) = if (fs.lookup mt).isNone = true then alts.lookup C else none := rfl
def altR (o : Option (List T → List T → Res R)) (s : Option Sl) (x : R) (a : Res (List R)) : Res R := match o with
  | some F => a.bind fun rs => caR s F (x :: rs)
  | none => .bad
def altP (o : Option (List T → Res R)) (x : R) (a : Res (List R)) : Res R := match o with
  | some F => a.bind fun rs => callR F (x :: rs)
  | none => .bad
variable {altsR : List (Nat × (List T → List T → Res R))} {altsP : List (Nat × (List T → Res R))} {altsW : List (Nat × (List T → List T → RW))} {FR : List T → List T → Res R} {FP : List T → Res R} {FW : List T → List T → RW}
@[simp] theorem fMeR_eq : fMeR m mt altsR g ga env = (g env).bind fun x => altR (altOf mt altsR (obR env[m]? x)) env[m]? x (ga env) := rfl
@[simp] theorem fMeP_eq : fMeP m mt altsP g ga env = (g env).bind fun x => altP (altOf mt altsP (obR env[m]? x)) x (ga env) := rfl
@[simp] theorem fCaR_eq : fCaR m FR ga env = (ga env).bind (caR env[m]? FR) := rfl
@[simp] theorem altR_ok : altR (some FR) s x (.ok rs) = caR s FR (x :: rs) := rfl
@[simp] theorem altR_exc : altR (some FR) s x (.exc ex pl) = .exc ex pl := rfl
@[simp] theorem altP_ok : altP (some FP) x (.ok rs) = callR FP (x :: rs) := rfl
@[simp] theorem altP_exc : altP (some FP) x (.exc ex pl) = .exc ex pl := rfl
@[simp] theorem caR_st : caR (some (.st S)) FR rs = if rs.all R.kp = true then FR S (rs.map R.d) else .bad := rfl
@[simp] theorem caR_rd : caR (some (.rd S)) FR rs = if rs.all R.kp = true then FR S (rs.map R.d) else .bad := rfl
/-! cells changed -/
def onLstT (S : List T) (k : Nat) (o : Option T) (h : List T → Nat → List T → Out) : Out := match o with
  | some (.lst l) => h S k l
  | _ => .bad
def onLstS (o : Option (List T)) (x : R) (h : List T → Nat → List T → Out) : Out := match o with
  | some S => (match x with
    | .sh (.ptr k) => onLstT S k S[k]? h
    | _ => .bad)
  | none => .bad
def onObjT (S : List T) (k : Nat) (o : Option T) (h : List T → Nat → Nat → List (Str × T) → Out) : Out := match o with
  | some (.obj C fs) => h S k C fs
  | _ => .bad
def onObjS (o : Option (List T)) (x : R) (h : List T → Nat → Nat → List (Str × T) → Out) : Out := match o with
  | some S => (match x with
    | .sh (.ptr k) => onObjT S k S[k]? h
    | _ => .bad)
  | none => .bad
@[simp] theorem onLst_eq (h : List T → Nat → List T → Out) : onLst m x env h = onLstS (stS env[m]?) x h := by
  unfold onLst onLstS
  cases stS env[m]? with
  | none => rfl
  | some S =>
    simp only
    unfold lstC
    split
    · rename_i kk ll e
      split at e
      · rename_i k
        split at e
        · rename_i l q
          cases e
          show h S kk ll = onLstT S kk S[kk]? h
          rw [q]; rfl
        · cases e
      · cases e
    · rename_i e
      split at e
      · rename_i k
        show Out.bad = onLstT S k S[k]? h
        unfold onLstT
        split
        · rename_i l q
          rw [q] at e; cases e
        · rfl
      · rename_i hh
        first
        | rfl
        | (split
           · rename_i k; exact (hh k rfl).elim
           · rfl)
@[simp] theorem onObj_eq (h : List T → Nat → Nat → List (Str × T) → Out) : onObj m x env h = onObjS (stS env[m]?) x h := by
  unfold onObj onObjS
  cases stS env[m]? with
  | none => rfl
  | some S =>
    simp only
    unfold objC
    split
    · rename_i kk C ll e
      split at e
      · rename_i k
        split at e
        · rename_i C l q
          cases e
          show h S kk _ ll = onObjT S kk S[kk]? h
          rw [q]; rfl
        · cases e
      · cases e
    · rename_i e
      split at e
      · rename_i k
        show Out.bad = onObjT S k S[k]? h
        unfold onObjT
        split
        · rename_i C l q
          rw [q] at e; cases e
        · rfl
      · rename_i hh
        first
        | rfl
        | (split
           · rename_i k; exact (hh k rfl).elim
           · rfl)
@[simp] theorem onLstS_ptr (h : List T → Nat → List T → Out) : onLstS (some S) (.sh (.ptr k)) h = onLstT S k S[k]? h := rfl
@[simp] theorem onObjS_ptr (h : List T → Nat → Nat → List (Str × T) → Out) : onObjS (some S) (.sh (.ptr k)) h = onObjT S k S[k]? h := rfl
@[simp] theorem onLstT_some (h : List T → Nat → List T → Out) : onLstT S k (some (.lst l)) h = h S k l := rfl
@[simp] theorem onObjT_some (h : List T → Nat → Nat → List (Str × T) → Out) : onObjT S k (some (.obj C fs)) h = h S k C fs := rfl
def getI (l : List T) (q : Nat) (o : Option T) (h : Nat → Int → Out) : Out := match o with
  | some (.int a) => h q a
  | _ => .bad
def getT (l : List T) (o : Option Nat) (h : Nat → Int → Out) : Out := match o with
  | some q => getI l q l[q]? h
  | none => .bad
@[simp] theorem onGet_int (j : Int) (h : Nat → Int → Out) (hy : y.d = .int j) : onGet l y h = getT l (ixN l.length j) h := by
  unfold onGet getLO getT
  rw [hy]
  simp only
  cases ixN l.length j with
  | none => rfl
  | some q =>
    simp only
    unfold getI
    cases l[q]? with
    | none => rfl
    | some t => cases t <;> rfl
@[simp] theorem getT_some (q : Nat) (h : Nat → Int → Out) : getT l (some q) h = getI l q l[q]? h := rfl
@[simp] theorem getI_some (q : Nat) (a : Int) (h : Nat → Int → Out) : getI l q (some (.int a)) h = h q a := rfl
@[simp] theorem onInt_sh (b : Int) (h : Int → Out) : onInt (.sh (.int b)) h = h b := rfl
@[simp] theorem fCAug_eq (sub : Bool) : fCAug m sub g ci u env = (g env).out (fun x env => (ci env).out (fun y env => onLst m x env fun S k l => onGet l y fun q a => (u env).out (fun z env => onInt z fun b =>
  .nx (env.set m (.st (S.set k (.lst (l.set q (.int (if sub then a - b else a + b)))))))) env) env) env := rfl
@[simp] theorem fCApp_eq : fCApp m g u env = (g env).out (fun x env => onLst m x env fun S k l => (u env).out (fun r env => if r.kp = true ∧ l.length < sizeLine then .nx (env.set m (.st (S.set k (.lst (l ++ [r.d]))))) else .bad) env) env := rfl
@[simp] theorem fCClr_eq : fCClr m g env = (g env).out (fun x env => onLst m x env fun S k _ => .nx (env.set m (.st (S.set k (.lst []))))) env := rfl
@[simp] theorem fCPa_eq : fCPa m Cs fld u g env = (u env).out (fun r env => (g env).out (fun x env => onObj m x env fun S k C fs =>
  if r.kp = true ∧ C ∈ Cs ∧ fs.length < 1000 then .nx (env.set m (.st (S.set k (.obj C (putFT fld r.d fs))))) else .bad) env) env := rfl
@[simp] theorem fCPn_eq : fCPn m Cs fld u g env = (u env).out (fun r env => (g env).out (fun x env => cPnO m Cs fld r x env) env) env := rfl
@[simp] theorem cPnO_fr : cPnO m Cs fld (.fr t) x env = onObj m x env fun S k C fs => if C ∈ Cs ∧ fs.length < 1000 then .nx (env.set m (.st ((S ++ [t]).set k (.obj C (putFT fld (.ptr S.length) fs))))) else .bad := rfl
@[simp] theorem fCPf_eq (uf : En → Res (List T)) : fCPf m Cs fld uf g env = (uf env).out (fun ts env => (g env).out (fun x env => onObj m x env fun S k C fs =>
  if C ∈ Cs ∧ fs.length < 1000 then .nx (env.set m (.st ((S ++ ts).set k (.obj C (putFT fld (.lst (ptrs S.length ts.length)) fs))))) else .bad) env) env := rfl
/-! expressions that change cells -/
variable {A D : Type} {a : A} {q : A → En → ResE D} {o : A → En → Out} {fw : En → ResE T} {gw : En → ResE (List T)}
@[simp] theorem Ebind_ok : (ResE.ok a env).bind q = q a env := rfl
@[simp] theorem Ebind_exc : (ResE.exc env ex pl : ResE A).bind q = .exc env ex pl := rfl
@[simp] theorem Eout_ok : (ResE.ok a env).out o = o a env := rfl
@[simp] theorem Eout_exc : (ResE.exc env ex pl : ResE A).out o = .exc env ex pl := rfl
@[simp] theorem lift_ok : (Res.ok a).lift env = .ok a env := rfl
@[simp] theorem lift_exc : (Res.exc ex pl : Res A).lift env = .exc env ex pl := rfl
@[simp] theorem wE_eq : wE f env = ((f env).lift env).bind kpE := rfl
@[simp] theorem wA_eq : wA ga env = ((ga env).lift env).bind kpsE := rfl
@[simp] theorem wB_eq (fb : En → Res Bool) : wB fb env = (fb env).lift env := rfl
@[simp] theorem kpE_eq : kpE r env = if r.kp = true then .ok r.d env else .bad := rfl
@[simp] theorem kpsE_eq : kpsE rs env = if rs.all R.kp = true then .ok (rs.map R.d) env else .bad := rfl
@[simp] theorem wNil_eq : wNil env = .ok [] env := rfl
@[simp] theorem wCons_eq : wCons fw gw env = (fw env).bind fun r env => (gw env).bind fun rs env => .ok (r :: rs) env := rfl
@[simp] theorem wTup_eq : wTup gw env = (gw env).bind fun ts env => if ts.length ≤ sizeLine then .ok (.tup ts) env else .bad := rfl
@[simp] theorem wNew_eq : wNew m f env = ((f env).lift env).bind (newO m) := rfl
def newS (t : T) (o : Option (List T)) (m : Nat) (env : En) : ResE T := match o with
  | some S => .ok (.ptr S.length) (env.set m (.st (S ++ [t])))
  | none => .bad
@[simp] theorem newO_fr : newO m (.fr t) env = newS t (stS env[m]?) m env := by
  unfold newO newS
  cases stS env[m]? with
  | none => rfl
  | some s => rfl
@[simp] theorem newS_some : newS t (some S) m env = .ok (.ptr S.length) (env.set m (.st (S ++ [t]))) := rfl
def altW (o : Option (List T → List T → RW)) (m : Nat) (x : T) (a : ResE (List T)) : ResE T := match o with
  | some F => a.bind fun rs env => caW m F (x :: rs) env
  | none => .bad
@[simp] theorem wMe_eq : wMe m mt altsW fw gw env = (fw env).bind fun x env => altW (altOf mt altsW (obT env[m]? x)) m x (gw env) := rfl
@[simp] theorem altW_ok (ts : List T) : altW (some FW) m t (.ok ts env) = caW m FW (t :: ts) env := rfl
@[simp] theorem altW_exc : altW (some FW) m t (.exc env ex pl) = .exc env ex pl := rfl
def caS (o : Option (List T)) (m : Nat) (F : List T → List T → RW) (ts : List T) (env : En) : ResE T := match o with
  | some S => toE m env (F S ts)
  | none => .bad
@[simp] theorem caW_eq (ts : List T) : caW m FW ts env = caS (stS env[m]?) m FW ts env := by
  unfold caW caS
  cases h : env[m]? with
  | none => rfl
  | some s => cases s <;> rfl
@[simp] theorem caS_some (ts : List T) : caS (some S) m FW ts env = toE m env (FW S ts) := rfl
@[simp] theorem toE_ok : toE m env (.ok S t) = .ok t (env.set m (.st S)) := rfl
@[simp] theorem toE_exc : toE m env (.exc S C pl) = .exc (env.set m (.st S)) C pl := rfl
@[simp] theorem wCa_eq : wCa m FW gw env = (gw env).bind (caW m FW) := rfl
def mkS' (o : Option (List T)) (m C : Nat) (F : List T → List T → RW) (ts : List T) (env : En) : ResE T := match o with
  | some S => mkWo m env S.length (F (S ++ [.obj C []]) (.ptr S.length :: ts))
  | none => .bad
@[simp] theorem wMk_eq : wMk m C FW gw env = (gw env).bind (mkW m C FW) := rfl
@[simp] theorem mkW_eq (ts : List T) : mkW m C FW ts env = mkS' (stS env[m]?) m C FW ts env := by
  unfold mkW mkS'
  cases h : env[m]? with
  | none => rfl
  | some s => cases s <;> rfl
@[simp] theorem mkS'_some (ts : List T) : mkS' (some S) m C FW ts env = mkWo m env S.length (FW (S ++ [.obj C []]) (.ptr S.length :: ts)) := rfl
@[simp] theorem mkWo_ok : mkWo m env k (.ok S .non) = .ok (.ptr k) (env.set m (.st S)) := rfl
@[simp] theorem mkWo_exc : mkWo m env k (.exc S C pl) = .exc (env.set m (.st S)) C pl := rfl
@[simp] theorem fDropW_eq : fDropW fw env = (fw env).out fun _ env => .nx env := rfl
@[simp] theorem fSetW_eq : fSetW i fw env = (fw env).out fun t env => .nx (env.set i (.fz t)) := rfl
@[simp] theorem fRetW_eq : fRetW fw env = (fw env).out fun t env => .rm (.sh t) env := rfl
@[simp] theorem fIfW_eq (c : En → ResE Bool) (h h' : En → Out) : fIfW c h h' env = (c env).out fun b env => if b then h env else h' env := rfl
@[simp] theorem outW_nx : outW m (.nx e) = outWr e[m]? (.sh .non) := rfl
@[simp] theorem outW_rm : outW m (.rm r e) = outWr e[m]? r := rfl
@[simp] theorem outW_exc : outW m (.exc e ex pl) = outWx e[m]? ex pl := rfl
@[simp] theorem outWr_st : outWr (some (.st S)) r = if r.kp = true then .ok S r.d else .bad := rfl
@[simp] theorem outWx_st : outWx (some (.st S)) ex pl = .exc S ex pl := rfl
@[simp] theorem fMkO_eq : fMkO C FW ga env = (ga env).bind (mkOR C FW) := rfl
@[simp] theorem mkOR_eq : mkOR C FW rs = if rs.all (fun r => r.kp && r.d.np) = true then mkOo (FW [.obj C []] (.ptr 0 :: rs.map R.d)) else .bad := rfl
@[simp] theorem outO_nx : outO (.nx e) = .ok (.sh .non) := rfl
@[simp] theorem outO_sh : outO (.rt (.sh t)) = if t.np = true then .ok (.sh t) else .bad := rfl
@[simp] theorem outO_fr : outO (.rt (.fr t)) = if t.np = true then .ok (.fr t) else .bad := rfl
@[simp] theorem outO_exc : outO (.exc e ex pl) = if npX pl = true then .exc ex pl else .bad := rfl
@[simp] theorem dninR_I (d : List (Int × Int)) (t : Int) : dninR (.sh (.int t)) (.bo n (.dik (encI d))) = .ok (.sh (.bl (!(fndK d t).isSome))) := by
  show (match (some (fndK (encI d) (.inl t)) : Option (Option T)) with
    | some r => Res.ok (R.sh (.bl (!r.isSome)))
    | none => .bad) = _
  rw [fndK_I]
  cases fndK d t <;> rfl
end
end Tr
namespace PG
open Tr PySem L2
def b_is_whole (env : En) : Out :=
  (fRet (fAndV (fIsa "int" (fV 0)) (fNotV (fIsa "bool" (fV 0))))) env
abbrev F_is_whole : List T → Res R := runF 1 b_is_whole
theorem F_is_whole_eq (a0 : T) : F_is_whole [a0] = (b_is_whole [.fz a0]).res := rfl
def g_turn_count_in_1 (d : T) (env : En) : Option En := (gT 2 (gsC (gN 3) (gsC (gN 4) gsN))) d env
def c_turn_count_in_1 (env : En) : Res Bool := fYes env
def e_turn_count_in_1 (env : En) : Res R := (fB maxR (fA (fC (.int 0)) (fA (b2 addR (b2 subR (fB minR (fA (fV 4) (fA (fV 2) fN))) (fB maxR (fA (fV 3) (fA (fV 1) fN)))) (fC (.int 1))) fN))) env
def b_turn_count_in (env : En) : Out :=
  (fRet (fB sumR (fA (fComp [3, 4] (iL (fV 0)) g_turn_count_in_1 c_turn_count_in_1 e_turn_count_in_1) fN))) env
abbrev F_turn_count_in : List T → Res R := runF 5 b_turn_count_in
theorem F_turn_count_in_eq (a0 a1 a2 : T) : F_turn_count_in [a0, a1, a2] = (b_turn_count_in [.fz a0, .fz a1, .fz a2, .no, .no]).res := rfl
def g_is_name_1 (d : T) (env : En) : Option En := (gN 1) d env
def b_is_name_1 (env : En) : Out := (fFg [1] (fFg [1] (fIfS (fAnd (c2 ninR (fV 1) (fC (.str "abcdefghijklmnopqrstuvwxyz"))) (c2 ninR (fV 1) (fC (.str "0123456789"))))
    (fRet (fC (.bl false)))
    fNx))) env
def b_is_name (env : En) : Out :=
  (fSeq (fIfS (fOr (fNot (fTru (fIsa "str" (fV 0)))) (fNot (cb2 leR leR (fC (.int 1)) (fB lenR (fA (fV 0) fN)) (fC (.int 8)))))
    (fRet (fC (.bl false)))
    fNx)
    (fSeq (fIfS (c2 ninR (b2 ixR (fV 0) (fC (.int 0))) (fC (.str "abcdefghijklmnopqrstuvwxyz")))
    (fRet (fC (.bl false)))
    fNx)
    (fSeq (fFg [0] (fFor (iS (fV 0)) g_is_name_1 b_is_name_1))
    (fRet (fC (.bl true)))))) env
abbrev F_is_name : List T → Res R := runF 2 b_is_name
theorem F_is_name_eq (a0 : T) : F_is_name [a0] = (b_is_name [.fz a0, .no]).res := rfl
def b_is_within (env : En) : Out :=
  (fRet (fAndV (fCall F_is_whole (fA (fV 0) fN)) (ch2 leR leR (fV 1) (fV 0) (fV 2)))) env
abbrev F_is_within : List T → Res R := runF 3 b_is_within
theorem F_is_within_eq (a0 a1 a2 : T) : F_is_within [a0, a1, a2] = (b_is_within [.fz a0, .fz a1, .fz a2]).res := rfl
def b_has_numbers (env : En) : Out :=
  (fSeq (fIfS (fOr (fNot (fTru (fCall F_is_within (fA (b2 ixR (fV 0) (fC (.int 1))) (fA (fC (.int 0)) (fA (fC (.int 1000000000)) fN)))))) (fNot (fTru (fCall F_is_within (fA (b2 ixR (fV 0) (fC (.int 2))) (fA (negF (fC (.int 1))) (fA (fC (.int 10000000000)) fN)))))))
    (fRet (fC (.bl false)))
    fNx)
    (fRet (fAndV (fCall F_is_within (fA (b2 ixR (fV 0) (fC (.int 3))) (fA (fC (.int 1)) (fA (fC (.int 60)) fN)))) (fCall F_is_within (fA (b2 ixR (fV 0) (fC (.int 4))) (fA (fC (.int 1)) (fA (fC (.int 16)) fN))))))) env
abbrev F_has_numbers : List T → Res R := runF 1 b_has_numbers
theorem F_has_numbers_eq (a0 : T) : F_has_numbers [a0] = (b_has_numbers [.fz a0]).res := rfl
def g_check_load_1 (d : T) (env : En) : Option En := (gN 2) d env
def b_check_load_1 (env : En) : Out := (fFg [2] (fSeq (fIfS (fNot (fTru (fCall F_is_name (fA (b2 ixR (fV 2) (fC (.int 0))) fN))))
    (fRs0 13)
    fNx)
    (fSeq (fIfS (c2 inR (b2 ixR (fV 2) (fC (.int 0))) (fV 1))
    (fRs1 20 (b2 ixR (fV 2) (fC (.int 0))))
    fNx)
    (fSeq (fIfS (fNot (fTru (fCall F_has_numbers (fA (fV 2) fN))))
    (fRs0 14)
    fNx)
    (fFg [2] (fApp 1 (b2 ixR (fV 2) (fC (.int 0))))))))) env
def b_check_load (env : En) : Out :=
  (fSeq (fIfS (c2 gtR (fB lenR (fA (fV 0) fN)) (fC (.int 12)))
    (fRs0 17)
    fNx)
    (fSeq (fSet 1 (fLst fN))
    (fSeq (fFg [0, 1] (fFor (iL (fV 0)) g_check_load_1 b_check_load_1))
    (fRet (fC (.bl true)))))) env
abbrev F_check_load : List T → Res R := runF 3 b_check_load
theorem F_check_load_eq (a0 : T) : F_check_load [a0] = (b_check_load [.fz a0, .no, .no]).res := rfl
def b_turns_of (env : En) : Out :=
  (fRet (fB maxR (fA (fC (.int 0)) (fA (b2 addR (b2 subR (b2 ixR (fV 0) (fC (.int 2))) (b2 ixR (fV 0) (fC (.int 1)))) (fC (.int 1))) fN)))) env
abbrev F_turns_of : List T → Res R := runF 1 b_turns_of
theorem F_turns_of_eq (a0 : T) : F_turns_of [a0] = (b_turns_of [.fz a0]).res := rfl
def b_within (env : En) : Out :=
  (fRet (fCall F_turn_count_in (fA (fV 1) (fA (b2 ixR (fV 0) (fC (.int 1))) (fA (b2 ixR (fV 0) (fC (.int 2))) fN))))) env
abbrev F_within : List T → Res R := runF 2 b_within
theorem F_within_eq (a0 a1 : T) : F_within [a0, a1] = (b_within [.fz a0, .fz a1]).res := rfl
def b_outside (env : En) : Out :=
  (fRet (b2 subR (fCall F_turns_of (fA (fV 0) fN)) (fCall F_within (fA (fV 0) (fA (fV 1) fN))))) env
abbrev F_outside : List T → Res R := runF 2 b_outside
theorem F_outside_eq (a0 a1 : T) : F_outside [a0, a1] = (b_outside [.fz a0, .fz a1]).res := rfl
def b_excess (env : En) : Out :=
  (fRet (fB maxR (fA (fC (.int 0)) (fA (b2 subR (b2 ixR (fV 0) (fC (.int 3))) (b2 mulR (b2 ixR (fV 0) (fC (.int 4))) (fCall F_outside (fA (fV 0) (fA (fV 1) fN))))) fN)))) env
abbrev F_excess : List T → Res R := runF 2 b_excess
theorem F_excess_eq (a0 a1 : T) : F_excess [a0, a1] = (b_excess [.fz a0, .fz a1]).res := rfl
def g_Calendar_pieces_1 (d : T) (env : En) : Option En := (gT 2 (gsC (gN 4) (gsC (gN 5) gsN))) d env
def b_Calendar_pieces_1 (env : En) : Out := (fFg [4, 5] (fSeq (fFg [5] (fApp 2 (fTup (fA (fV 3) (fA (b2 subR (b2 addR (fV 3) (fV 4)) (fC (.int 1))) (fA (fV 5) fN))))))
    (fFg [4] (fAug false 3 (fV 4))))) env
def b_Calendar_pieces (env : En) : Out :=
  (fSeq (fSet 2 (fLst fN))
    (fSeq (fSetZ 3 (fC (.int 0)))
    (fSeq (fFor (iL (fAt [0] "strips" (fV 0))) g_Calendar_pieces_1 b_Calendar_pieces_1)
    (fSeq (fFg [0, 1, 3] (fIfS (c2 leR (fV 3) (fV 1))
    (fFg [0, 1, 3] (fApp 2 (fTup (fA (fV 3) (fA (fV 1) (fA (fAt [0] "for_ever" (fV 0)) fN))))))
    fNx))
    (fRet (fV 2)))))) env
abbrev F_Calendar_pieces : List T → Res R := runF 6 b_Calendar_pieces
theorem F_Calendar_pieces_eq (a0 a1 : T) : F_Calendar_pieces [a0, a1] = (b_Calendar_pieces [.fz a0, .fz a1, .no, .no, .no, .no]).res := rfl
def g_Calendar_over_1 (d : T) (env : En) : Option En := (gT 3 (gsC (gN 4) (gsC (gN 5) (gsC (gN 6) gsN)))) d env
def b_Calendar_over_1 (env : En) : Out := (fFg [4, 5, 6] (fFg [4, 5, 6] (fAug false 3 (b2 mulR (fV 6) (fB maxR (fA (fC (.int 0)) (fA (b2 addR (b2 subR (fB minR (fA (fV 5) (fA (fV 2) fN))) (fB maxR (fA (fV 4) (fA (fV 1) fN)))) (fC (.int 1))) fN))))))) env
def b_Calendar_over (env : En) : Out :=
  (fSeq (fSetZ 3 (fC (.int 0)))
    (fSeq (fFg [0, 1, 2] (fFor (iL (fMe 0 "pieces" F_Calendar_pieces (fV 0) (fA (fV 2) fN))) g_Calendar_over_1 b_Calendar_over_1))
    (fRet (fV 3)))) env
abbrev F_Calendar_over : List T → Res R := runF 7 b_Calendar_over
theorem F_Calendar_over_eq (a0 a1 a2 : T) : F_Calendar_over [a0, a1, a2] = (b_Calendar_over [.fz a0, .fz a1, .fz a2, .no, .no, .no, .no]).res := rfl
def g_Calendar_over_spans_1 (d : T) (env : En) : Option En := (gT 2 (gsC (gN 2) (gsC (gN 3) gsN))) d env
def c_Calendar_over_spans_1 (env : En) : Res Bool := fYes env
def e_Calendar_over_spans_1 (env : En) : Res R := (fMe 0 "over" F_Calendar_over (fV 0) (fA (fV 2) (fA (fV 3) fN))) env
def b_Calendar_over_spans (env : En) : Out :=
  (fRet (fB sumR (fA (fComp [2, 3] (iL (fV 1)) g_Calendar_over_spans_1 c_Calendar_over_spans_1 e_Calendar_over_spans_1) fN))) env
abbrev F_Calendar_over_spans : List T → Res R := runF 4 b_Calendar_over_spans
theorem F_Calendar_over_spans_eq (a0 a1 : T) : F_Calendar_over_spans [a0, a1] = (b_Calendar_over_spans [.fz a0, .fz a1, .no, .no]).res := rfl
def g_overflow_1 (d : T) (env : En) : Option En := (gN 3) d env
def c_overflow_1 (env : En) : Res Bool := fYes env
def e_overflow_1 (env : En) : Res R := (fCall F_excess (fA (fV 3) (fA (fV 2) fN))) env
def b_overflow (env : En) : Out :=
  (fSeq (fDrop (fCall F_check_load (fA (fV 0) fN)))
    (fRet (b2 subR (fB sumR (fA (fComp [3] (iL (fV 0)) g_overflow_1 c_overflow_1 e_overflow_1) fN)) (fMe 0 "over_spans" F_Calendar_over_spans (fV 1) (fA (fV 2) fN))))) env
abbrev F_overflow : List T → Res R := runF 4 b_overflow
theorem F_overflow_eq (a0 a1 a2 : T) : F_overflow [a0, a1, a2] = (b_overflow [.fz a0, .fz a1, .fz a2, .no]).res := rfl
def b_is_number (env : En) : Out :=
  (fRet (fAndV (fCall F_is_whole (fA (fV 0) fN)) (ch2 leR leR (fV 1) (fV 0) (fV 2)))) env
abbrev F_is_number : List T → Res R := runF 3 b_is_number
theorem F_is_number_eq (a0 a1 a2 : T) : F_is_number [a0, a1, a2] = (b_is_number [.fz a0, .fz a1, .fz a2]).res := rfl
def b_is_row (env : En) : Out :=
  (fSeq (fIfS (fOr (fNot (fTru (fIsa "tuple" (fV 0)))) (c2 neR (fB lenR (fA (fV 0) fN)) (fC (.int 2))))
    (fRet (fC (.bl false)))
    fNx)
    (fRet (fAndV (fCall F_is_number (fA (b2 ixR (fV 0) (fC (.int 0))) (fA (fC (.int 1)) (fA (fC (.int 1000000)) fN)))) (fCall F_is_number (fA (b2 ixR (fV 0) (fC (.int 1))) (fA (fC (.int 0)) (fA (fC (.int 16)) fN))))))) env
abbrev F_is_row : List T → Res R := runF 1 b_is_row
theorem F_is_row_eq (a0 : T) : F_is_row [a0] = (b_is_row [.fz a0]).res := rfl
def g_tidied_1 (d : T) (env : En) : Option En := (gT 2 (gsC (gN 3) (gsC (gN 4) gsN))) d env
def b_tidied_1 (env : En) : Out := (fFg [3, 4] (fFg [3, 4] (fIfS (fAnd (c2 neR (fV 2) (fLst fN)) (c2 eqR (b2 ixR (b2 ixR (fV 2) (negF (fC (.int 1)))) (fC (.int 1))) (fV 4)))
    (fFg [3, 4] (fPut 2 (fTup (fA (b2 addR (b2 ixR (b2 ixR (fV 2) (negF (fC (.int 1)))) (fC (.int 0))) (fV 3)) (fA (fV 4) fN))) (negF (fC (.int 1)))))
    (fFg [3, 4] (fApp 2 (fTup (fA (fV 3) (fA (fV 4) fN)))))))) env
def b_tidied (env : En) : Out :=
  (fSeq (fSet 2 (fLst fN))
    (fSeq (fFg [0] (fFor (iL (fV 0)) g_tidied_1 b_tidied_1))
    (fSeq (fFg [1] (fIfS (fAnd (c2 neR (fV 2) (fLst fN)) (c2 eqR (b2 ixR (b2 ixR (fV 2) (negF (fC (.int 1)))) (fC (.int 1))) (fV 1)))
    (fPop 2)
    fNx))
    (fRet (fV 2))))) env
abbrev F_tidied : List T → Res R := runF 5 b_tidied
theorem F_tidied_eq (a0 a1 : T) : F_tidied [a0, a1] = (b_tidied [.fz a0, .fz a1, .no, .no, .no]).res := rfl
def b_Calendar_keep (env : En) : Out :=
  (fSeq (fFg [1] (fPa [0] 0 "strips" (fCall F_tidied (fA (fV 1) (fA (fV 2) fN)))))
    (fFg [2] (fPa [0] 0 "for_ever" (fV 2)))) env
abbrev F_Calendar_keep : List T → Res (T × R) := runM 3 b_Calendar_keep
theorem F_Calendar_keep_eq (a0 a1 a2 : T) : F_Calendar_keep [a0, a1, a2] = outM (b_Calendar_keep [.sf a0, .fz a1, .fz a2]) := rfl
def g_Calendar_init_1 (d : T) (env : En) : Option En := (gN 3) d env
def b_Calendar_init_1 (env : En) : Out := (fFg [3] (fFg [3] (fIfS (fNot (fTru (fCall F_is_row (fA (fV 3) fN))))
    (fRs0 15)
    fNx))) env
def b_Calendar_init (env : En) : Out :=
  (fSeq (fIfS (fOr (fNot (fTru (fIsa "list" (fV 1)))) (fOr (c2 gtR (fB lenR (fA (fV 1) fN)) (fC (.int 16))) (fNot (fTru (fCall F_is_number (fA (fV 2) (fA (fC (.int 1)) (fA (fC (.int 16)) fN))))))))
    (fRs0 15)
    fNx)
    (fSeq (fFor (iL (fV 1)) g_Calendar_init_1 b_Calendar_init_1)
    (fSeq (fPa [0] 0 "strips" (fLst fN))
    (fSeq (fPa [0] 0 "for_ever" (fV 2))
    (fFg [1, 2] (fMc 0 "keep" 0 F_Calendar_keep (fA (fV 1) (fA (fV 2) fN)))))))) env
abbrev F_Calendar_init : List T → Res (T × R) := runM 4 b_Calendar_init
theorem F_Calendar_init_eq (a0 a1 a2 : T) : F_Calendar_init [a0, a1, a2] = outM (b_Calendar_init [.sf a0, .fz a1, .fz a2, .no]) := rfl
def b_Calendar_rows (env : En) : Out :=
  (fRet (fB listR (fA (fAt [0] "strips" (fV 0)) fN))) env
abbrev F_Calendar_rows : List T → Res R := runF 1 b_Calendar_rows
theorem F_Calendar_rows_eq (a0 : T) : F_Calendar_rows [a0] = (b_Calendar_rows [.fz a0]).res := rfl
def b_Calendar_rest (env : En) : Out :=
  (fRet (fAt [0] "for_ever" (fV 0))) env
abbrev F_Calendar_rest : List T → Res R := runF 1 b_Calendar_rest
theorem F_Calendar_rest_eq (a0 : T) : F_Calendar_rest [a0] = (b_Calendar_rest [.fz a0]).res := rfl
def g_Calendar_end_1 (d : T) (env : En) : Option En := (gT 2 (gsC (gN 1) (gsC (gN 2) gsN))) d env
def c_Calendar_end_1 (env : En) : Res Bool := fYes env
def e_Calendar_end_1 (env : En) : Res R := (fV 1) env
def b_Calendar_end (env : En) : Out :=
  (fRet (fB sumR (fA (fComp [1, 2] (iL (fAt [0] "strips" (fV 0))) g_Calendar_end_1 c_Calendar_end_1 e_Calendar_end_1) fN))) env
abbrev F_Calendar_end : List T → Res R := runF 3 b_Calendar_end
theorem F_Calendar_end_eq (a0 : T) : F_Calendar_end [a0] = (b_Calendar_end [.fz a0, .no, .no]).res := rfl
def b_Calendar_at (env : En) : Out :=
  fBad env
abbrev F_Calendar_at : List T → Res R := runF 2 b_Calendar_at
theorem F_Calendar_at_eq (a0 a1 : T) : F_Calendar_at [a0, a1] = (b_Calendar_at [.fz a0, .fz a1]).res := rfl
def b_Calendar_changes (env : En) : Out :=
  fBad env
abbrev F_Calendar_changes : List T → Res R := runF 3 b_Calendar_changes
theorem F_Calendar_changes_eq (a0 a1 a2 : T) : F_Calendar_changes [a0, a1, a2] = (b_Calendar_changes [.fz a0, .fz a1, .fz a2]).res := rfl
def b_made (env : En) : Out :=
  (fSeq (fSet 2 (fMk 0 F_Calendar_init (fA (fLst fN) (fA (fC (.int 1)) fN))))
    (fSeq (fFg [0, 1] (fMc 0 "keep" 2 F_Calendar_keep (fA (fV 0) (fA (fV 1) fN))))
    (fRet (fV 2)))) env
abbrev F_made : List T → Res R := runF 3 b_made
theorem F_made_eq (a0 a1 : T) : F_made [a0, a1] = (b_made [.fz a0, .fz a1, .no]).res := rfl
def g_Calendar_changed_2 (d : T) (env : En) : Option En := (gT 2 (gsC (gN 11) (gsC (gN 12) gsN))) d env
def b_Calendar_changed_2 (env : En) : Out := (fFg [11, 12] (fFg [11, 12] (fIfS (c2 gtR (fV 11) (fC (.int 0)))
    (fFg [11, 12] (fApp 4 (fTup (fA (fV 11) (fA (fV 12) fN)))))
    fNx))) env
def g_Calendar_changed_1 (d : T) (env : En) : Option En := (gT 3 (gsC (gN 5) (gsC (gN 6) (gsC (gN 7) gsN)))) d env
def b_Calendar_changed_1 (env : En) : Out := (fFg [5, 6, 7, 8, 9, 10, 11, 12] (fSeq (fSetZ 8 (b2 addR (b2 subR (fB minR (fA (fV 6) (fA (b2 subR (fV 1) (fC (.int 1))) fN))) (fV 5)) (fC (.int 1))))
    (fSeq (fSetZ 9 (b2 addR (b2 subR (fB minR (fA (fV 6) (fA (fV 2) fN))) (fB maxR (fA (fV 5) (fA (fV 1) fN)))) (fC (.int 1))))
    (fSeq (fFg [5, 6] (fSetZ 10 (b2 addR (b2 subR (fV 6) (fB maxR (fA (fV 5) (fA (b2 addR (fV 2) (fC (.int 1))) fN)))) (fC (.int 1)))))
    (fFg [7, 8, 9, 10] (fFor (iL (fLst (fA (fTup (fA (fV 8) (fA (fV 7) fN))) (fA (fTup (fA (fV 9) (fA (fB maxR (fA (fC (.int 0)) (fA (b2 addR (fV 7) (fV 3)) fN))) fN))) (fA (fTup (fA (fV 10) (fA (fV 7) fN))) fN))))) g_Calendar_changed_2 b_Calendar_changed_2)))))) env
def b_Calendar_changed (env : En) : Out :=
  (fSeq (fSet 4 (fLst fN))
    (fSeq (fFg [1, 2, 3] (fFor (iL (fMe 0 "pieces" F_Calendar_pieces (fV 0) (fA (fV 2) fN))) g_Calendar_changed_1 b_Calendar_changed_1))
    (fFg [0, 4] (fFz 4 (fRet (fCall F_made (fA (fV 4) (fA (fAt [0] "for_ever" (fV 0)) fN)))))))) env
abbrev F_Calendar_changed : List T → Res R := runF 13 b_Calendar_changed
theorem F_Calendar_changed_eq (a0 a1 a2 a3 : T) : F_Calendar_changed [a0, a1, a2, a3] = (b_Calendar_changed [.fz a0, .fz a1, .fz a2, .fz a3, .no, .no, .no, .no, .no, .no, .no, .no, .no]).res := rfl
def b_Calendar_fewer (env : En) : Out :=
  (fSeq (fIfS (c2 ltR (fV 2) (fV 1))
    (fRet (fCall F_made (fA (fAt [0] "strips" (fV 0)) (fA (fAt [0] "for_ever" (fV 0)) fN))))
    fNx)
    (fRet (fMe 0 "changed" F_Calendar_changed (fV 0) (fA (fV 1) (fA (fV 2) (fA (b2 subR (fC (.int 0)) (fV 3)) fN)))))) env
abbrev F_Calendar_fewer : List T → Res R := runF 4 b_Calendar_fewer
theorem F_Calendar_fewer_eq (a0 a1 a2 a3 : T) : F_Calendar_fewer [a0, a1, a2, a3] = (b_Calendar_fewer [.fz a0, .fz a1, .fz a2, .fz a3]).res := rfl
def b_Calendar_more (env : En) : Out :=
  (fSeq (fIfS (c2 ltR (fV 2) (fV 1))
    (fRet (fCall F_made (fA (fAt [0] "strips" (fV 0)) (fA (fAt [0] "for_ever" (fV 0)) fN))))
    fNx)
    (fRet (fMe 0 "changed" F_Calendar_changed (fV 0) (fA (fV 1) (fA (fV 2) (fA (fV 3) fN)))))) env
abbrev F_Calendar_more : List T → Res R := runF 4 b_Calendar_more
theorem F_Calendar_more_eq (a0 a1 a2 a3 : T) : F_Calendar_more [a0, a1, a2, a3] = (b_Calendar_more [.fz a0, .fz a1, .fz a2, .fz a3]).res := rfl
def b_Calendar_widened (env : En) : Out :=
  fBad env
abbrev F_Calendar_widened : List T → Res R := runF 2 b_Calendar_widened
theorem F_Calendar_widened_eq (a0 a1 : T) : F_Calendar_widened [a0, a1] = (b_Calendar_widened [.fz a0, .fz a1]).res := rfl
end PG
namespace PG
open Tr PySem L2
@[simp] theorem pd_P (n : Nat) (j : Int × Int) : T.pd (n + 1) (encP j) = true := by simp [encP]
@[simp] theorem fl_P (n : Nat) (j : Int × Int) : T.fl (n + 1) (encP j) = true := by simp [encP]
@[simp] theorem ixP0 (p : Int × Int) : ixT (encP p) (.int 0) = .ok (.sh (.int p.1)) := by simp [encP]
@[simp] theorem ixP1 (p : Int × Int) : ixT (encP p) (.int 1) = .ok (.sh (.int p.2)) := by simp [encP]
@[simp] theorem tyn_P (p : Int × Int) : T.tyn (encP p) = some "tuple" := rfl
@[simp] theorem len_P (p : Int × Int) : lenT (encP p) = .ok (.sh (.int 2)) := rfl
theorem is_whole_int (i : Int) : F_is_whole [.int i] = .ok (.sh (.bl true)) := by
  rw [F_is_whole_eq]
  simp [b_is_whole]
end PG
/-! the calendar's defs as functions of its rows -/
namespace PG
open Tr PySem L2
theorem ks1 : (("for_ever" : Str) == ("strips" : Str)) = false := by decide +kernel
theorem ks2 : (("strips" : Str) == ("for_ever" : Str)) = false := by decide +kernel
theorem ks3 : ¬ (("strips" : Str) = ("for_ever" : Str)) := by decide +kernel
def encCal (s : List (Int × Int)) (r : Int) : T := .obj 0 [("strips", .lst (s.map encP)), ("for_ever", .int r)]
@[simp] theorem cal_strips (s : List (Int × Int)) (r : Int) : atT [0] "strips" (encCal s r) = .ok (.sh (.lst (s.map encP))) := by
  simp [encCal, List.lookup_cons]
@[simp] theorem cal_ever (s : List (Int × Int)) (r : Int) : atT [0] "for_ever" (encCal s r) = .ok (.sh (.int r)) := by
  simp [encCal, List.lookup_cons, ks1]
theorem clT_cal (s : List (Int × Int)) (r : Int) (m : Str) (h1 : (m == ("strips" : Str)) = false := by decide +kernel) (h2 : (m == ("for_ever" : Str)) = false := by decide +kernel) : clT 0 m (encCal s r) = true := by
  simp [encCal, List.lookup_cons, h1, h2]
theorem is_number_eq (a lo hi : Int) : F_is_number [.int a, .int lo, .int hi] = .ok (.sh (.bl (decide (lo ≤ a ∧ a ≤ hi)))) := by
  rw [F_is_number_eq]
  by_cases h1 : lo ≤ a <;> by_cases h2 : a ≤ hi <;> simp [b_is_number, is_whole_int, h1, h2]
theorem is_row_P (p : Int × Int) (h : 1 ≤ p.1 ∧ p.1 ≤ 1000000 ∧ 0 ≤ p.2 ∧ p.2 ≤ 16) : F_is_row [encP p] = .ok (.sh (.bl true)) := by
  rw [F_is_row_eq]
  simp [b_is_row, is_number_eq, h.1, h.2.1, h.2.2.1, h.2.2.2]
/-! rows joined, the last one left out where it is the rest -/
abbrev CS := List (Int × Int) × Option (Int × Int)
def CS.out (s : CS) : List (Int × Int) := s.1 ++ s.2.toList
def cstep (s : CS) (p : Int × Int) : CS := match s.2 with
  | none => (s.1, some p)
  | some q => if q.2 = p.2 then (s.1, some (q.1 + p.1, p.2)) else (s.1 ++ [q], some p)
def cfin (s : CS) (rest : Int) : List (Int × Int) := match s.2 with
  | none => s.1
  | some q => if q.2 = rest then s.1 else s.1 ++ [q]
def tidyC (l : List (Int × Int)) (rest : Int) : List (Int × Int) := cfin (l.foldl cstep ([], none)) rest
theorem cfold_len (l : List (Int × Int)) : ∀ s : CS, (l.foldl cstep s).out.length ≤ s.out.length + l.length := by
  induction l with
  | nil => intro s; simp
  | cons p l ih =>
    intro s
    have h := ih (cstep s p)
    have h2 : (cstep s p).out.length ≤ s.out.length + 1 := by
      obtain ⟨d, c⟩ := s
      cases c with
      | none => simp [cstep, CS.out]
      | some q => by_cases z : q.2 = p.2 <;> simp [cstep, CS.out, z]
    rw [List.foldl_cons, List.length_cons]
    omega
theorem cfold_none (l : List (Int × Int)) : (l.foldl cstep ([], none)).2 = none → (l.foldl cstep ([], none)).1 = [] := by
  have : ∀ (l : List (Int × Int)) (s : CS), (s.2 = none → s.1 = []) → ((l.foldl cstep s).2 = none → (l.foldl cstep s).1 = []) := by
    intro l
    induction l with
    | nil => intro s h; exact h
    | cons p l ih =>
      intro s h
      refine ih _ ?_
      obtain ⟨d, c⟩ := s
      cases c with
      | none => intro z; cases z
      | some q => by_cases e : q.2 = p.2 <;> simp [cstep, e]
  exact this l _ fun _ => rfl
theorem tidied_eq (l : List (Int × Int)) (rest : Int) (h : l.length ≤ 10000) : F_tidied [.lst (l.map encP), .int rest] = .ok (.fr (.lst ((tidyC l rest).map encP))) := by
  rw [F_tidied_eq]
  have L := (forL_fold (g := g_tidied_1) (b := b_tidied_1) encP (fun s : CS => [.fz (.lst (l.map encP)), .fz (.int rest), .ow (.lst (s.out.map encP)), .no, .no]) cstep
    (fun pre s => s.out.length ≤ pre.length ∧ (s.2 = none → s.1 = [])) l [] (fun pre a post s e hp => by
      obtain ⟨done, cur⟩ := s
      obtain ⟨hl, hn⟩ := hp
      have hlen : (done ++ cur.toList).length < 16777216 := by
        have := congrArg List.length e
        simp [CS.out] at this hl ⊢; omega
      cases cur with
      | none =>
        obtain rfl : done = [] := hn rfl
        refine ⟨?_, by simp [cstep, CS.out], fun z => by cases z⟩
        simp [g_tidied_1, b_tidied_1, encP, CS.out, cstep, sizeLine_eq]
      | some q =>
        have hl' : done.length + 1 < 16777216 := by simpa using hlen
        by_cases c : q.2 = a.2
        · refine ⟨?_, by simp [cstep, CS.out, c] at hl ⊢; omega, fun z => by simp [cstep, c] at z⟩
          simp [g_tidied_1, b_tidied_1, CS.out, cstep, sizeLine_eq, c, encP]
        · refine ⟨?_, by simp [cstep, CS.out, c] at hl ⊢; omega, fun z => by simp [cstep, c] at z⟩
          simp [g_tidied_1, b_tidied_1, CS.out, cstep, sizeLine_eq, c, encP, hl']) ([], none) ⟨by simp [CS.out], fun _ => rfl⟩).1
  have L' : forL g_tidied_1 b_tidied_1 (l.map encP) [.fz (.lst (l.map encP)), .fz (.int rest), .ow (.lst []), .no, .no] = .nx [.fz (.lst (l.map encP)), .fz (.int rest), .ow (.lst ((l.foldl cstep ([], none)).out.map encP)), .no, .no] := L
  have hn := cfold_none l
  unfold tidyC
  generalize l.foldl cstep ([], none) = s at L' hn
  obtain ⟨done, cur⟩ := s
  cases cur with
  | none =>
    obtain rfl : done = [] := hn rfl
    simp [b_tidied, sizeLine_eq, L', CS.out, cfin]
  | some q =>
    by_cases c : q.2 = rest
    · simp [b_tidied, sizeLine_eq, L', CS.out, cfin, c]
    · simp [b_tidied, sizeLine_eq, L', CS.out, cfin, c]
theorem putFT_strips (s t : T) (r : T) : putFT "strips" t [(("strips" : Str), s), (("for_ever" : Str), r)] = [(("strips" : Str), t), (("for_ever" : Str), r)] := by
  simp [putFT]
theorem putFT_ever (s t : T) (r : T) : putFT "for_ever" t [(("strips" : Str), s), (("for_ever" : Str), r)] = [(("strips" : Str), s), (("for_ever" : Str), t)] := by
  simp [putFT, ks3]
theorem keep_eq (s r : T) (l : List (Int × Int)) (rest : Int) (h : l.length ≤ 10000) : F_Calendar_keep [.obj 0 [("strips", s), ("for_ever", r)], .lst (l.map encP), .int rest] = .ok (encCal (tidyC l rest) rest, .sh .non) := by
  rw [F_Calendar_keep_eq]
  simp [b_Calendar_keep, tidied_eq l rest h, putFT_strips, putFT_ever, encCal]
theorem clT_two (s r : T) (m : Str) (h1 : (m == ("strips" : Str)) = false := by decide +kernel) (h2 : (m == ("for_ever" : Str)) = false := by decide +kernel) : clT 0 m (.obj 0 [(("strips" : Str), s), (("for_ever" : Str), r)]) = true := by
  simp [List.lookup_cons, h1, h2]
theorem init_eq (l : List (Int × Int)) (rest : Int) (h : l.length ≤ 16) (hp : ∀ p ∈ l, 1 ≤ p.1 ∧ p.1 ≤ 1000000 ∧ 0 ≤ p.2 ∧ p.2 ≤ 16) (hr : 1 ≤ rest ∧ rest ≤ 16) :
    F_Calendar_init [.obj 0 [], .lst (l.map encP), .int rest] = .ok (encCal (tidyC l rest) rest, .sh .non) := by
  rw [F_Calendar_init_eq]
  have L := forL_ok (g := g_Calendar_init_1) (b := b_Calendar_init_1) (env := [.sf (.obj 0 []), .fz (.lst (l.map encP)), .fz (.int rest), .no]) encP l (fun p m => by simp [g_Calendar_init_1, b_Calendar_init_1, is_row_P p (hp p m)])
  have h' : ¬ (16 : Int) < l.length := by omega
  have k := keep_eq (.lst []) (.int rest) l rest (by omega)
  have cl := clT_two (.lst []) (.int rest) "keep"
  have pf1 : putFT "strips" (.lst []) [] = [(("strips" : Str), T.lst [])] := rfl
  have pf2 : putFT "for_ever" (.int rest) [(("strips" : Str), T.lst [])] = [(("strips" : Str), T.lst []), (("for_ever" : Str), .int rest)] := by simp [putFT, ks3]
  simp -implicitDefEqProofs [b_Calendar_init, h', is_number_eq, hr.1, hr.2, L, pf1, pf2, k, cl, -clT_obj]
/-! what is asked of a calendar -/
section
variable (s : List (Int × Int)) (r : Int)
theorem rows_eq : F_Calendar_rows [encCal s r] = .ok (.fr (.lst (s.map encP))) := by
  rw [F_Calendar_rows_eq]
  simp [b_Calendar_rows]
theorem rest_eq : F_Calendar_rest [encCal s r] = .ok (.sh (.int r)) := by
  rw [F_Calendar_rest_eq]
  simp [b_Calendar_rest]
def endC (s : List (Int × Int)) : Int := (s.map (·.1)).sum
theorem end_eq (h : s.length ≤ 10000) : F_Calendar_end [encCal s r] = .ok (.sh (.int (endC s))) := by
  rw [F_Calendar_end_eq]
  have L := compL_map (g := g_Calendar_end_1) (tt := c_Calendar_end_1) (te := e_Calendar_end_1) (env := [.fz (encCal s r), .no, .no]) encP (fun p => T.int p.1) s (by rw [sizeLine_eq]; omega) (fun p _ => by simp [g_Calendar_end_1, c_Calendar_end_1, e_Calendar_end_1, encP])
  have e : s.map (fun p => T.int p.1) = (s.map (·.1)).map T.int := by simp
  rw [e] at L
  simp [-List.map_map, b_Calendar_end, L, endC]
/-- (first, last, machines) -/
structure Pc where
  a : Int
  b : Int
  m : Int
  deriving DecidableEq
def encC (p : Pc) : T := .tup [.int p.a, .int p.b, .int p.m]
@[simp] theorem pd_C (n : Nat) (j : Pc) : T.pd (n + 1) (encC j) = true := by simp [encC]
@[simp] theorem fl_C (n : Nat) (j : Pc) : T.fl (n + 1) (encC j) = true := by simp [encC]
def piecesC : Int → List (Int × Int) → Int → Int → List Pc
  | b, [], r, t => if b ≤ t then [⟨b, t, r⟩] else []
  | b, p :: s, r, t => ⟨b, b + p.1 - 1, p.2⟩ :: piecesC (b + p.1) s r t
theorem piecesC_len (b : Int) (r t : Int) : ∀ s : List (Int × Int), (piecesC b s r t).length ≤ s.length + 1 := by
  intro s
  induction s generalizing b with
  | nil => simp only [piecesC]; split <;> simp
  | cons p s ih => simp only [piecesC, List.length_cons]; have := ih (b + p.1); omega
theorem pieces_eq (t : Int) (h : s.length ≤ 10000) : F_Calendar_pieces [encCal s r, .int t] = .ok (.fr (.lst ((piecesC 0 s r t).map encC))) := by
  rw [F_Calendar_pieces_eq]
  have L := (forL_fold (g := g_Calendar_pieces_1) (b := b_Calendar_pieces_1) encP (fun z : List Pc × Int => [.fz (encCal s r), .fz (.int t), .ow (.lst (z.1.map encC)), .fz (.int z.2), .no, .no]) (fun z p => (z.1 ++ [⟨z.2, z.2 + p.1 - 1, p.2⟩], z.2 + p.1))
    (fun pre z => z.1.length = pre.length) s [] (fun pre a post z e hp => by
      have hlen : z.1.length < 16777216 := by
        have := congrArg List.length e
        simp at this; omega
      refine ⟨?_, by simp [hp]⟩
      simp [g_Calendar_pieces_1, b_Calendar_pieces_1, encP, encC, sizeLine_eq, hlen]) ([], 0) rfl)
  have fold : ∀ (s : List (Int × Int)) (z : List Pc × Int), piecesC z.2 s r t = (s.foldl (fun (z : List Pc × Int) p => (z.1 ++ [(⟨z.2, z.2 + p.1 - 1, p.2⟩ : Pc)], z.2 + p.1)) z).1.drop z.1.length ++ (if (s.foldl (fun (z : List Pc × Int) p => (z.1 ++ [(⟨z.2, z.2 + p.1 - 1, p.2⟩ : Pc)], z.2 + p.1)) z).2 ≤ t then [⟨(s.foldl (fun (z : List Pc × Int) p => (z.1 ++ [(⟨z.2, z.2 + p.1 - 1, p.2⟩ : Pc)], z.2 + p.1)) z).2, t, r⟩] else []) ∧ z.1 <+: (s.foldl (fun (z : List Pc × Int) p => (z.1 ++ [(⟨z.2, z.2 + p.1 - 1, p.2⟩ : Pc)], z.2 + p.1)) z).1 := by
    intro s
    induction s with
    | nil => intro z; by_cases q : z.2 ≤ t <;> simp [piecesC, q]
    | cons p s ih =>
      intro z
      obtain ⟨h1, h2⟩ := ih (z.1 ++ [⟨z.2, z.2 + p.1 - 1, p.2⟩], z.2 + p.1)
      simp only [] at h1 h2
      rw [List.foldl_cons]
      refine ⟨?_, (List.prefix_append _ _).trans h2⟩
      show _ :: piecesC (z.2 + p.1) s r t = _
      rw [h1]
      obtain ⟨w, hw⟩ := h2
      rw [← hw]
      simp
  have F := (fold s ([], 0)).1
  simp only [List.length_nil, List.drop_zero] at F
  rw [F]
  have L1 := L.1
  have L2 := L.2
  generalize s.foldl (fun (z : List Pc × Int) p => (z.1 ++ [(⟨z.2, z.2 + p.1 - 1, p.2⟩ : Pc)], z.2 + p.1)) ([], 0) = z at L1 L2
  have L1' : forL (g_Calendar_pieces_1) (b_Calendar_pieces_1) (s.map encP) [.fz (encCal s r), .fz (.int t), .ow (.lst []), .fz (.int 0), .no, .no] = .nx [.fz (encCal s r), .fz (.int t), .ow (.lst (z.1.map encC)), .fz (.int z.2), .no, .no] := L1
  have hl : z.1.length < 16777216 := by simp at L2; omega
  by_cases q : z.2 ≤ t
  · simp [b_Calendar_pieces, sizeLine_eq, L1', q, hl, encC]
  · simp [b_Calendar_pieces, sizeLine_eq, L1', q]
def atC : Int → List (Int × Int) → Int → Int → Int
  | _, [], r, _ => r
  | b, p :: s, r, t => if t ≤ b + p.1 - 1 then p.2 else atC (b + p.1) s r t
def over1 (first last : Int) (p : Pc) : Int := p.m * max 0 (min p.b last - max p.a first + 1)
def overC (s : List (Int × Int)) (r first last : Int) : Int := ((piecesC 0 s r last).map (over1 first last)).sum
theorem over_eq (f l : Int) (h : s.length ≤ 10000) (hm : ∀ p ∈ s, -(2 ^ 64) < p.2 ∧ p.2 < 2 ^ 64) (hr : -(2 ^ 64) < r ∧ r < 2 ^ 64) : F_Calendar_over [encCal s r, .int f, .int l] = .ok (.sh (.int (overC s r f l))) := by
  rw [F_Calendar_over_eq]
  have hp : ∀ (s : List (Int × Int)) (b : Int), (∀ p ∈ s, -(2 ^ 64) < p.2 ∧ p.2 < 2 ^ 64) → ∀ p ∈ piecesC b s r l, -(2 ^ 64) < p.m ∧ p.m < 2 ^ 64 := by
    intro s
    induction s with
    | nil =>
      intro b _ p m
      simp only [piecesC] at m
      split at m
      · simp at m; rw [m]; exact hr
      · cases m
    | cons q s ih =>
      intro b hs p m
      simp only [piecesC, List.mem_cons] at m
      rcases m with rfl | m
      · exact hs q List.mem_cons_self
      · exact ih _ (fun p m => hs p (List.mem_cons_of_mem _ m)) p m
  have hp0 := hp s 0 hm
  have L := forL_fold0 (g := g_Calendar_over_1) (b := b_Calendar_over_1) encC (fun z : Int => [.fz (encCal s r), .fz (.int f), .fz (.int l), .fz (.int z), .no, .no, .no]) (fun z p => z + over1 f l p) (piecesC 0 s r l) (fun p z m => by
    have k : mulOk p.m (max 0 (min p.b l - max p.a f + 1)) := .inl (hp0 p m)
    simp [g_Calendar_over_1, b_Calendar_over_1, encC, k, over1]) 0
  have pe := pieces_eq s r l h
  have cl := clT_cal s r "pieces"
  have fold : ∀ (l : List Pc) (z f' l' : Int), l.foldl (fun z p => z + over1 f' l' p) z = z + (l.map (over1 f' l')).sum := by
    intro l
    induction l with
    | nil => intro z f' l'; simp
    | cons p l ih => intro z f' l'; simp [ih]; omega
  simp [b_Calendar_over, cl, pe, L, fold, overC, -clT_obj]
theorem over_spans_eq (sp : List (Int × Int)) (h : s.length ≤ 10000) (hl : sp.length ≤ 10000) (hm : ∀ p ∈ s, -(2 ^ 64) < p.2 ∧ p.2 < 2 ^ 64) (hr : -(2 ^ 64) < r ∧ r < 2 ^ 64) : F_Calendar_over_spans [encCal s r, .lst (sp.map encP)] = .ok (.sh (.int (sp.map fun p => overC s r p.1 p.2).sum)) := by
  rw [F_Calendar_over_spans_eq]
  have cl := clT_cal s r "over"
  have L := compL_map (g := g_Calendar_over_spans_1) (tt := c_Calendar_over_spans_1) (te := e_Calendar_over_spans_1) (env := [.fz (encCal s r), .fz (.lst (sp.map encP)), .no, .no]) encP (fun p => T.int (overC s r p.1 p.2)) sp (by rw [sizeLine_eq]; omega) (fun p _ => by
    simp [g_Calendar_over_spans_1, c_Calendar_over_spans_1, e_Calendar_over_spans_1, encP, cl, over_eq s r _ _ h hm hr, -clT_obj])
  have e : sp.map (fun p => T.int (overC s r p.1 p.2)) = (sp.map fun p => overC s r p.1 p.2).map T.int := by simp
  rw [e] at L
  simp [-List.map_map, b_Calendar_over_spans, L]
def chgC : Int → List (Int × Int) → Int → Int → List Int
  | _, [], _, _ => []
  | b, p :: s, f, l => if f < b + p.1 ∧ b + p.1 ≤ l then (b + p.1) :: chgC (b + p.1) s f l else chgC (b + p.1) s f l
/-- the rows of a change -/
def chd1 (first last by' : Int) (p : Pc) : List (Int × Int) :=
  [(min p.b (first - 1) - p.a + 1, p.m), (min p.b last - max p.a first + 1, max 0 (p.m + by')), (p.b - max p.a (last + 1) + 1, p.m)].filter fun q => decide (0 < q.1)
def changedC (s : List (Int × Int)) (r first last by' : Int) : List (Int × Int) := ((piecesC 0 s r last).map (chd1 first last by')).flatten
theorem chd1_len (f l b : Int) (p : Pc) : (chd1 f l b p).length ≤ 3 := by
  unfold chd1
  have := List.length_filter_le (fun q : Int × Int => decide (0 < q.1)) [(min p.b (f - 1) - p.a + 1, p.m), (min p.b l - max p.a f + 1, max 0 (p.m + b)), (p.b - max p.a (l + 1) + 1, p.m)]
  simpa using this
end
end PG
/-! calendars: rows, and what they say turn by turn -/
namespace CalM
open Tr PG
def hd (s : List (Int × Int)) (r : Int) : Int := match s with
  | [] => r
  | q :: _ => q.2
def Pos (s : List (Int × Int)) : Prop := ∀ p ∈ s, 1 ≤ p.1
def Nf : List (Int × Int) → Int → Prop
  | [], _ => True
  | p :: s, r => 1 ≤ p.1 ∧ p.2 ≠ hd s r ∧ Nf s r
theorem Nf.pos : ∀ {s : List (Int × Int)} {r : Int}, Nf s r → Pos s
  | [], _, _ => fun p m => nomatch m
  | q :: s, r, h => fun p m => by
    rcases List.mem_cons.mp m with rfl | m
    · exact h.1
    · exact h.2.2.pos p m
theorem endC_cons (p : Int × Int) (s : List (Int × Int)) : endC (p :: s) = p.1 + endC s := by simp [endC]
theorem endC_nil : endC [] = 0 := rfl
theorem Pos.cons {p : Int × Int} {s : List (Int × Int)} (h : Pos (p :: s)) : 1 ≤ p.1 ∧ Pos s := ⟨h p List.mem_cons_self, fun q m => h q (List.mem_cons_of_mem _ m)⟩
theorem endC_nn {s : List (Int × Int)} (h : Pos s) : 0 ≤ endC s := by
  induction s with
  | nil => simp [endC]
  | cons p s ih =>
    rw [endC_cons]
    have := h.cons
    have := ih this.2
    omega
theorem at_cons_lt {b t r : Int} {p : Int × Int} {s : List (Int × Int)} (h : t < b + p.1) : atC b (p :: s) r t = p.2 := by
  simp only [atC]
  rw [if_pos (by omega)]
theorem at_cons_ge {b t r : Int} {p : Int × Int} {s : List (Int × Int)} (h : b + p.1 ≤ t) : atC b (p :: s) r t = atC (b + p.1) s r t := by
  simp only [atC]
  rw [if_neg (by omega)]
theorem at_ge {r t : Int} : ∀ {s : List (Int × Int)} {b : Int}, Pos s → b + endC s ≤ t → atC b s r t = r
  | [], _, _, _ => rfl
  | p :: s, b, h, ht => by
    have hp := h.cons
    rw [endC_cons] at ht
    have := endC_nn hp.2
    rw [at_cons_ge (by omega)]
    exact at_ge hp.2 (by omega)
theorem at_hd {r : Int} {s : List (Int × Int)} {b : Int} (h : Pos s) : atC b s r b = hd s r := by
  cases s with
  | nil => rfl
  | cons p s => rw [at_cons_lt (by have := h.cons; omega)]; rfl
/-! tidied -/
def tr : Option (Int × Int) → List (Int × Int) → Int → List (Int × Int)
  | none, [], _ => []
  | some q, [], r => if q.2 = r then [] else [q]
  | none, p :: l, r => tr (some p) l r
  | some q, p :: l, r => if q.2 = p.2 then tr (some (q.1 + p.1, p.2)) l r else q :: tr (some p) l r
theorem tidyC_tr : ∀ (l : List (Int × Int)) (d : List (Int × Int)) (c : Option (Int × Int)) (r : Int), cfin (l.foldl cstep (d, c)) r = d ++ tr c l r
  | [], d, none, r => by simp [cfin, tr]
  | [], d, some q, r => by by_cases h : q.2 = r <;> simp [cfin, tr, h]
  | p :: l, d, none, r => by
    rw [List.foldl_cons]
    show cfin (l.foldl cstep (d, some p)) r = _
    rw [tidyC_tr l d (some p) r]
    rfl
  | p :: l, d, some q, r => by
    rw [List.foldl_cons]
    by_cases h : q.2 = p.2
    · have e : cstep (d, some q) p = (d, some (q.1 + p.1, p.2)) := by simp [cstep, h]
      rw [e, tidyC_tr l d _ r]
      simp [tr, h]
    · have e : cstep (d, some q) p = (d ++ [q], some p) := by simp [cstep, h]
      rw [e, tidyC_tr l _ _ r]
      simp [tr, h]
theorem tr_ok {r : Int} : ∀ (l : List (Int × Int)) (q : Int × Int), 1 ≤ q.1 → Pos l → hd (tr (some q) l r) r = q.2 ∧ Nf (tr (some q) l r) r ∧ (∀ b t, atC b (tr (some q) l r) r t = atC b (q :: l) r t) ∧ endC (tr (some q) l r) ≤ q.1 + endC l
  | [], q, hq, _ => by
    by_cases h : q.2 = r
    · have e : tr (some q) [] r = [] := by simp [tr, h]
      rw [e]
      refine ⟨h.symm, trivial, fun b t => ?_, by simp [endC]; omega⟩
      by_cases z : t < b + q.1
      · rw [at_cons_lt z, h]; rfl
      · rw [at_cons_ge (by omega)]; rfl
    · have e : tr (some q) [] r = [q] := by simp [tr, h]
      rw [e]
      exact ⟨rfl, ⟨hq, h, trivial⟩, fun b t => rfl, by simp [endC]⟩
  | p :: l, q, hq, hl => by
    have hp := hl.cons
    by_cases h : q.2 = p.2
    · have e : tr (some q) (p :: l) r = tr (some (q.1 + p.1, p.2)) l r := by simp [tr, h]
      rw [e]
      obtain ⟨i1, i2, i3, i4⟩ := tr_ok l (q.1 + p.1, p.2) (by simp only []; omega) hp.2
      refine ⟨i1.trans h.symm, i2, fun b t => ?_, by rw [endC_cons]; simp only [] at i4; omega⟩
      rw [i3]
      by_cases z : t < b + q.1
      · rw [at_cons_lt z, at_cons_lt (by simp only []; omega)]; exact h.symm
      · rw [at_cons_ge (p := q) (by omega)]
        by_cases z2 : t < b + q.1 + p.1
        · rw [at_cons_lt (by simp only []; omega), at_cons_lt z2]
        · rw [at_cons_ge (by simp only []; omega), at_cons_ge (by omega)]
          simp only []
          rw [Int.add_assoc]
    · have e : tr (some q) (p :: l) r = q :: tr (some p) l r := by simp [tr, h]
      rw [e]
      obtain ⟨i1, i2, i3, i4⟩ := tr_ok l p hp.1 hp.2
      refine ⟨rfl, ⟨hq, by rw [i1]; exact h, i2⟩, fun b t => ?_, by rw [endC_cons, endC_cons]; omega⟩
      by_cases z : t < b + q.1
      · rw [at_cons_lt z, at_cons_lt z]
      · rw [at_cons_ge (by omega), at_cons_ge (by omega), i3]
theorem tidy_ok {r : Int} (l : List (Int × Int)) (h : Pos l) : Nf (tidyC l r) r ∧ (∀ b t, atC b (tidyC l r) r t = atC b l r t) ∧ endC (tidyC l r) ≤ endC l := by
  have e : tidyC l r = tr none l r := by
    have := tidyC_tr l [] none r
    simpa [tidyC] using this
  rw [e]
  cases l with
  | nil => exact ⟨trivial, fun b t => rfl, Int.le_refl _⟩
  | cons p l =>
    have hp := h.cons
    obtain ⟨i1, i2, i3, i4⟩ := tr_ok (r := r) l p hp.1 hp.2
    exact ⟨i2, i3, by rw [endC_cons]; exact i4⟩
/-! changed -/
theorem chd1_at (f l w a e m r t : Int) (X : List (Int × Int)) (hfl : f ≤ l) (hae : a ≤ e) (ht : a ≤ t) :
    atC a (chd1 f l w ⟨a, e, m⟩ ++ X) r t = if t ≤ e then (if f ≤ t ∧ t ≤ l then max 0 (m + w) else m) else atC (e + 1) X r t := by
  have F : ∀ b c : Int, b = c → atC b X r t = atC c X r t := fun b c h => by rw [h]
  unfold chd1
  by_cases c1 : 0 < min e (f - 1) - a + 1 <;> by_cases c2 : 0 < min e l - max a f + 1 <;> by_cases c3 : 0 < e - max a (l + 1) + 1 <;>
    simp only [List.filter_cons, List.filter_nil, c1, c2, c3, decide_true, decide_false, if_true, if_false, Bool.false_eq_true, List.cons_append, List.nil_append, atC] <;>
    (repeat' split) <;> first | rfl | omega | (exact F _ _ (by omega))
theorem chd1_sum (f l w a e m : Int) (hfl : f ≤ l) (hae : a ≤ e) : endC (chd1 f l w ⟨a, e, m⟩) = e - a + 1 ∧ Pos (chd1 f l w ⟨a, e, m⟩) := by
  constructor
  · unfold chd1
    by_cases c1 : 0 < min e (f - 1) - a + 1 <;> by_cases c2 : 0 < min e l - max a f + 1 <;> by_cases c3 : 0 < e - max a (l + 1) + 1 <;>
      simp only [List.filter_cons, List.filter_nil, c1, c2, c3, decide_true, decide_false, if_true, if_false, Bool.false_eq_true, endC, List.map_cons, List.map_nil, List.sum_cons, List.sum_nil] <;> omega
  · intro p hp
    unfold chd1 at hp
    rw [List.mem_filter] at hp
    have := hp.2
    simp at this
    omega
theorem endC_append (s t : List (Int × Int)) : endC (s ++ t) = endC s + endC t := by simp [endC]
theorem changed_at {r f l w : Int} (hfl : f ≤ l) : ∀ (s : List (Int × Int)) (b : Int), Pos s →
    (∀ t, b ≤ t → atC b ((piecesC b s r l).map (chd1 f l w)).flatten r t = if f ≤ t ∧ t ≤ l then max 0 (atC b s r t + w) else atC b s r t) ∧ Pos ((piecesC b s r l).map (chd1 f l w)).flatten ∧ endC ((piecesC b s r l).map (chd1 f l w)).flatten ≤ max (endC s) (l + 1 - b)
  | [], b, _ => by
    by_cases c : b ≤ l
    · have e : piecesC b [] r l = [⟨b, l, r⟩] := by simp [piecesC, c]
      rw [e]
      simp only [List.map_cons, List.map_nil, List.flatten_cons, List.flatten_nil]
      have hs := chd1_sum f l w b l r hfl c
      refine ⟨fun t ht => ?_, by rw [List.append_nil]; exact hs.2, by rw [List.append_nil, hs.1]; simp [endC]; omega⟩
      rw [chd1_at f l w b l r r t [] hfl c ht]
      by_cases z : t ≤ l
      · simp [z, atC]
      · simp [z, atC]
    · have e : piecesC b [] r l = [] := by simp [piecesC, c]
      rw [e]
      simp only [List.map_nil, List.flatten_nil]
      refine ⟨fun t ht => ?_, (show Pos [] from fun p m => nomatch m), by rw [endC_nil]; omega⟩
      have : ¬ (f ≤ t ∧ t ≤ l) := by omega
      rw [if_neg this]
  | p :: s, b, h => by
    have hp := h.cons
    obtain ⟨i1, i2, i3⟩ := changed_at (r := r) (w := w) hfl s (b + p.1) hp.2
    have e : piecesC b (p :: s) r l = ⟨b, b + p.1 - 1, p.2⟩ :: piecesC (b + p.1) s r l := rfl
    rw [e]
    simp only [List.map_cons, List.flatten_cons]
    have hs := chd1_sum f l w b (b + p.1 - 1) p.2 hfl (by omega)
    refine ⟨fun t ht => ?_, fun q m => ?_, by rw [endC_append, hs.1, endC_cons]; omega⟩
    · rw [chd1_at f l w b (b + p.1 - 1) p.2 r t _ hfl (by omega) ht]
      by_cases z : t ≤ b + p.1 - 1
      · rw [if_pos z, at_cons_lt (by omega)]
      · rw [if_neg z, show b + p.1 - 1 + 1 = b + p.1 by omega, i1 t (by omega), at_cons_ge (by omega)]
    · rcases List.mem_append.mp m with m | m
      · exact hs.2 q m
      · exact i2 q m
/-! sums over turns -/
def S (g : Int → Int) (f : Int) (n : Nat) : Int := ((List.range n).map fun i : Nat => g (f + (i : Nat))).sum
theorem S_succ (g : Int → Int) (f : Int) (n : Nat) : S g f (n + 1) = S g f n + g (f + (n : Nat)) := by
  unfold S
  rw [List.range_succ, List.map_append, List.sum_append]
  simp
theorem S_add (g h : Int → Int) (f : Int) : ∀ n, S (fun t => g t + h t) f n = S g f n + S h f n
  | 0 => by simp [S]
  | n + 1 => by rw [S_succ, S_succ, S_succ, S_add g h f n]; omega
theorem S_congr {g h : Int → Int} {f : Int} : ∀ {n : Nat}, (∀ t, f ≤ t → t < f + (n : Nat) → g t = h t) → S g f n = S h f n
  | 0, _ => by simp [S]
  | n + 1, e => by
    rw [S_succ, S_succ, S_congr (n := n) fun t h1 h2 => e t h1 (by omega), e (f + (n : Nat)) (by omega) (by omega)]
theorem S_piece (a e m f : Int) (hae : a ≤ e + 1) : ∀ n : Nat, S (fun t => if a ≤ t ∧ t ≤ e then m else 0) f n = m * max 0 (min e (f + n - 1) - max a f + 1)
  | 0 => by
    have : max 0 (min e (f + ((0 : Nat) : Int) - 1) - max a f + 1) = 0 := by omega
    rw [this]; simp [S]
  | n + 1 => by
    rw [S_succ, S_piece a e m f hae n]
    by_cases c : a ≤ f + (n : Nat) ∧ f + (n : Nat) ≤ e
    · simp only [c, and_self, if_true]
      have h1 : max 0 (min e (f + ((n + 1 : Nat) : Int) - 1) - max a f + 1) = max 0 (min e (f + (n : Nat) - 1) - max a f + 1) + 1 := by omega
      rw [h1, Int.mul_add]; omega
    · simp only [c, if_false]
      have h1 : max 0 (min e (f + ((n + 1 : Nat) : Int) - 1) - max a f + 1) = max 0 (min e (f + (n : Nat) - 1) - max a f + 1) := by omega
      rw [h1]; omega
theorem over_S {r f : Int} {n : Nat} : ∀ (s : List (Int × Int)) (b : Int), Pos s → ((piecesC b s r (f + n - 1)).map (over1 f (f + n - 1))).sum = S (fun t => if b ≤ t then atC b s r t else 0) f n
  | [], b, _ => by
    by_cases c : b ≤ f + n - 1
    · have e : piecesC b [] r (f + n - 1) = [⟨b, f + n - 1, r⟩] := by simp [piecesC, c]
      rw [e]
      simp only [List.map_cons, List.map_nil, List.sum_cons, List.sum_nil, over1, Int.add_zero]
      rw [← S_piece b (f + n - 1) r f (by omega) n]
      refine S_congr fun t h1 h2 => ?_
      by_cases z : b ≤ t
      · rw [if_pos ⟨z, by omega⟩, if_pos z]; rfl
      · rw [if_neg (fun q => z q.1), if_neg z]
    · have e : piecesC b [] r (f + n - 1) = [] := by simp [piecesC, c]
      rw [e]
      have : S (fun t => if b ≤ t then atC b [] r t else 0) f n = S (fun _ => 0) f n := S_congr fun t h1 h2 => by rw [if_neg (by omega)]
      rw [this]
      have z : ∀ n : Nat, S (fun _ => (0 : Int)) f n = 0 := fun n => by
        induction n with
        | zero => simp [S]
        | succ n ih => rw [S_succ, ih]; rfl
      rw [z]; rfl
  | p :: s, b, h => by
    have hp := h.cons
    have ih := over_S (r := r) (f := f) (n := n) s (b + p.1) hp.2
    have e : piecesC b (p :: s) r (f + n - 1) = ⟨b, b + p.1 - 1, p.2⟩ :: piecesC (b + p.1) s r (f + n - 1) := rfl
    rw [e, List.map_cons, List.sum_cons, ih]
    show p.2 * max 0 (min (b + p.1 - 1) (f + n - 1) - max b f + 1) + _ = _
    rw [← S_piece b (b + p.1 - 1) p.2 f (by omega) n, ← S_add]
    refine S_congr fun t h1 h2 => ?_
    by_cases z1 : b ≤ t
    · by_cases z2 : t ≤ b + p.1 - 1
      · rw [if_pos ⟨z1, z2⟩, if_neg (by omega), if_pos z1, at_cons_lt (by omega)]; omega
      · rw [if_neg (fun q => z2 q.2), if_pos (by omega), if_pos z1, at_cons_ge (by omega)]; omega
    · rw [if_neg (fun q => z1 q.1), if_neg (by omega), if_neg z1]; rfl
theorem overC_S {s : List (Int × Int)} {r f : Int} {n : Nat} (h : Pos s) (hf : 0 ≤ f) : overC s r f (f + n - 1) = S (fun t => atC 0 s r t) f n := by
  unfold overC
  rw [over_S s 0 h]
  exact S_congr fun t h1 _ => by rw [if_pos (by omega)]
/-! the turns at which it changes -/
def iv (a : Int) (n : Nat) : List Int := (List.range n).map fun i : Nat => a + (i : Nat)
theorem iv_succ (a : Int) (n : Nat) : iv a (n + 1) = a :: iv (a + 1) n := by
  unfold iv
  rw [List.range_succ_eq_map, List.map_cons, List.map_map]
  congr 1
  · simp
  · apply List.map_congr_left
    intro i _
    simp only [Function.comp]
    omega
theorem mem_iv {a t : Int} {n : Nat} : t ∈ iv a n ↔ a ≤ t ∧ t < a + n := by
  unfold iv
  rw [List.mem_map]
  constructor
  · rintro ⟨i, m, rfl⟩
    have := List.mem_range.mp m
    omega
  · rintro ⟨h1, h2⟩
    exact ⟨(t - a).toNat, List.mem_range.mpr (by omega), by omega⟩
theorem iv_filter {c : Int} {P Q : Int → Bool} (hP : ∀ t, P t = (decide (t = c) || Q t)) (hQ : ∀ t, Q t = true → c < t) : ∀ (n : Nat) (a : Int), (iv a n).filter P = if a ≤ c ∧ c < a + n then c :: (iv a n).filter Q else (iv a n).filter Q
  | 0, a => by
    rw [if_neg (by omega)]
    simp [iv]
  | n + 1, a => by
    have ih := iv_filter hP hQ n (a + 1)
    rw [iv_succ, List.filter_cons, List.filter_cons, ih]
    by_cases e : a = c
    · subst e
      have q : Q a = false := by
        cases z : Q a with
        | false => rfl
        | true => have := hQ a z; omega
      have p : P a = true := by rw [hP]; simp
      rw [p, q, if_neg (show ¬ (a + 1 ≤ a ∧ a < a + 1 + (n : Nat)) by omega), if_pos (show a ≤ a ∧ a < a + ((n + 1 : Nat) : Int) by omega)]
      simp
    · have p : P a = Q a := by rw [hP]; simp [e]
      rw [p]
      by_cases h : a ≤ c ∧ c < a + ((n + 1 : Nat) : Int)
      · have q : Q a = false := by
          cases z : Q a with
          | false => rfl
          | true => have := hQ a z; omega
        rw [q, if_pos (show a + 1 ≤ c ∧ c < a + 1 + (n : Nat) by omega), if_pos h]
        simp
      · rw [if_neg (show ¬ (a + 1 ≤ c ∧ c < a + 1 + (n : Nat)) by omega), if_neg h]
theorem chg_iv {r f : Int} {n : Nat} : ∀ (s : List (Int × Int)) (b : Int), Nf s r → chgC b s f (f + n) = (iv (f + 1) n).filter fun t => decide (b < t) && decide (atC b s r t ≠ atC b s r (t - 1))
  | [], b, _ => by
    simp [chgC, atC]
  | p :: s, b, h => by
    have hpos := h.pos.cons
    have ih := chg_iv (r := r) (f := f) (n := n) s (b + p.1) h.2.2
    have hP : ∀ t, (decide (b < t) && decide (atC b (p :: s) r t ≠ atC b (p :: s) r (t - 1))) = (decide (t = b + p.1) || (decide (b + p.1 < t) && decide (atC (b + p.1) s r t ≠ atC (b + p.1) s r (t - 1)))) := by
      intro t
      by_cases z1 : b < t
      · rcases Int.lt_trichotomy t (b + p.1) with z | z | z
        · rw [at_cons_lt z, at_cons_lt (by omega)]
          have : ¬ t = b + p.1 := by omega
          have : ¬ b + p.1 < t := by omega
          simp [*]
        · subst z
          rw [at_cons_ge (Int.le_refl _), at_cons_lt (by omega), at_hd h.2.2.pos]
          have := h.2.1
          simp [z1, Ne.symm this]
        · rw [at_cons_ge (by omega), at_cons_ge (by omega)]
          have : ¬ t = b + p.1 := by omega
          simp [*]
      · have : ¬ t = b + p.1 := by omega
        have : ¬ b + p.1 < t := by omega
        simp [*]
    rw [iv_filter hP (fun t q => by simp at q; exact q.1) n (f + 1)]
    simp only [chgC]
    rw [ih]
    by_cases c : f < b + p.1 ∧ b + p.1 ≤ f + n
    · rw [if_pos c, if_pos (by omega)]
    · rw [if_neg c, if_neg (by omega)]
end CalM
/-! names -/
namespace PG
open Tr PySem L2
def isL (c : Nat) : Bool := decide (97 ≤ c) && decide (c ≤ 122)
def isD (c : Nat) : Bool := decide (48 ≤ c) && decide (c ≤ 57)
def nameB (l : List Nat) : Bool := match l with
  | [] => false
  | c :: r => decide (r.length ≤ 7) && (isL c && (c :: r).all fun d => isL d || isD d)
theorem letters : ("abcdefghijklmnopqrstuvwxyz" : Str).cps.toList = List.range' 97 26 := by decide +kernel
theorem figures : ("0123456789" : Str).cps.toList = List.range' 48 10 := by decide +kernel
theorem in_letters (c : Nat) : inT (.str ⟨#[c]⟩) (.str ("abcdefghijklmnopqrstuvwxyz" : Str)) = some (isL c) := by
  show some (decide (c ∈ ("abcdefghijklmnopqrstuvwxyz" : Str).cps.toList)) = _
  rw [letters]
  congr 1
  unfold isL
  rw [← Bool.decide_and]
  exact decide_eq_decide.mpr (by rw [List.mem_range'_1]; omega)
theorem in_figures (c : Nat) : inT (.str ⟨#[c]⟩) (.str ("0123456789" : Str)) = some (isD c) := by
  show some (decide (c ∈ ("0123456789" : Str).cps.toList)) = _
  rw [figures]
  congr 1
  unfold isD
  rw [← Bool.decide_and]
  exact decide_eq_decide.mpr (by rw [List.mem_range'_1]; omega)
theorem str_len (s : Str) : s.length = s.cps.toList.length := by simp [Str.length]
theorem is_name_str (s : Str) (h : s.length ≤ 10000) : F_is_name [.str s] = .ok (.sh (.bl (nameB s.cps.toList))) := by
  rw [F_is_name_eq]
  have hz : s.length ≤ 16777216 := by omega
  have e := str_len s
  cases hl : s.cps.toList with
  | nil =>
    rw [hl] at e
    simp at e
    simp [b_is_name, sizeLine_eq, e, nameB]
  | cons c r =>
    rw [hl] at e
    simp only [List.length_cons] at e
    have e0 : ¬ (s.length : Int) ≤ 0 := by omega
    have at0 : atI s.cps.toList 0 = some c := by rw [hl]; simp
    by_cases c8 : s.length ≤ 8
    · have c7 : r.length ≤ 7 := by omega
      have L := forL_all (g := g_is_name_1) (b := b_is_name_1) (env := [.no, .no]) (fun d : Nat => T.str ⟨#[d]⟩) (fun d => isL d || isD d) (.sh (.bl false)) (c :: r) (fun d _ => by
        simp [g_is_name_1, b_is_name_1, in_letters, in_figures]
        cases isL d <;> cases isD d <;> simp)
      have L2 : ∀ s0, forL g_is_name_1 b_is_name_1 ((c :: r).map fun d : Nat => T.str ⟨#[d]⟩) [s0, .no] = if (c :: r).all (fun d => isL d || isD d) then .nx [s0, .no] else .rt (.sh (.bl false)) := fun s0 =>
        forL_all (g := g_is_name_1) (b := b_is_name_1) (env := [s0, .no]) (fun d : Nat => T.str ⟨#[d]⟩) (fun d => isL d || isD d) (.sh (.bl false)) (c :: r) (fun d _ => by
        simp [g_is_name_1, b_is_name_1, in_letters, in_figures]
        cases isL d <;> cases isD d <;> simp)
      have h1 : (1 : Int) ≤ s.length := by omega
      have h8 : (s.length : Int) ≤ 8 := by omega
      cases hc : isL c with
      | false => simp [b_is_name, sizeLine_eq, hz, h1, h8, at0, in_letters, hc, nameB]
      | true =>
        have nb : nameB (c :: r) = (c :: r).all fun d => isL d || isD d := by simp [nameB, c7, hc]
        rw [nb]
        cases ha : (c :: r).all (fun d => isL d || isD d) with
        | false =>
          have L3 := fun s0 => (L2 s0).trans (by rw [ha])
          simp only [List.map_cons] at L3
          simp [b_is_name, sizeLine_eq, hz, h1, h8, at0, in_letters, hc, hl, L3]
        | true =>
          have L3 := fun s0 => (L2 s0).trans (by rw [ha])
          simp only [List.map_cons] at L3
          simp [b_is_name, sizeLine_eq, hz, h1, h8, at0, in_letters, hc, hl, L3]
    · have h8 : ¬ (s.length : Int) ≤ 8 := by omega
      have c7 : ¬ r.length ≤ 7 := by omega
      have h1 : (1 : Int) ≤ s.length := by omega
      simp [b_is_name, sizeLine_eq, hz, h1, h8, nameB, c7]
theorem is_name_other (t : T) (n : String) (h : t.tyn = some n) (hn : n ≠ "str") (hb : n ≠ "bool") : F_is_name [t] = .ok (.sh (.bl false)) := by
  rw [F_is_name_eq]
  have e : isaB n "str" = false := by simp [isaB, hn]
  simp [b_is_name, h, e]
theorem is_name_bool (b : Bool) : F_is_name [.bl b] = .ok (.sh (.bl false)) := by
  rw [F_is_name_eq]
  simp [b_is_name, isaB]
end PG
/-! loads looked through -/
namespace PG
open Tr PySem L2
/-- a job of any five things -/
abbrev Job5 := T × T × T × T × T
def jT (j : Job5) : T := .tup [j.1, j.2.1, j.2.2.1, j.2.2.2.1, j.2.2.2.2]
def nmT : T → Bool
  | .str s => nameB s.cps.toList
  | _ => false
def bndT (lo hi : Int) : T → Bool
  | .int i => decide (lo ≤ i) && decide (i ≤ hi)
  | _ => false
/-- a thing that may be asked whether it is a name -/
def NmOkT (t : T) : Prop := (∃ s : Str, t = .str s ∧ s.length ≤ 10000) ∨ ∃ n : String, t.tyn = some n ∧ n ≠ "str"
def NuOkT (t : T) : Prop := ∃ n : String, t.tyn = some n
theorem is_name_T (t : T) (h : NmOkT t) : F_is_name [t] = .ok (.sh (.bl (nmT t))) := by
  rcases h with ⟨s, rfl, h⟩ | ⟨n, h, hn⟩
  · exact is_name_str s h
  · have e : nmT t = false := by
      cases t <;> first | rfl | (simp at h; exact absurd h.symm hn)
    rw [e]
    by_cases hb : n = "bool"
    · cases t <;> first | (simp at h; subst h; simp at hb; done) | skip
      all_goals first | exact is_name_bool _ | (simp [T.tyn] at h; done) | (simp at h; subst h; exact absurd hb (by decide))
    · exact is_name_other t n h hn hb
theorem is_whole_T (t : T) (h : NuOkT t) : F_is_whole [t] = .ok (.sh (.bl (match t with | .int _ => true | _ => false))) := by
  obtain ⟨n, h⟩ := h
  rw [F_is_whole_eq]
  cases t <;> simp [T.tyn] at h <;> simp [b_is_whole, isaB]
theorem is_within_T (t : T) (lo hi : Int) (h : NuOkT t) : F_is_within [t, .int lo, .int hi] = .ok (.sh (.bl (bndT lo hi t))) := by
  have w := is_whole_T t h
  rw [F_is_within_eq]
  obtain ⟨n, h⟩ := h
  cases t with
  | int i =>
    by_cases c : lo ≤ i <;> simp [b_is_within, w, bndT, c]
  | _ => simp [T.tyn] at h <;> simp [b_is_within, w, bndT]
def numsB (j : Job5) : Bool := bndT 0 1000000000 j.2.1 && bndT (-1) 10000000000 j.2.2.1 && (bndT 1 60 j.2.2.2.1 && bndT 1 16 j.2.2.2.2)
theorem has_numbers_T (j : Job5) (h : NuOkT j.2.1 ∧ NuOkT j.2.2.1 ∧ NuOkT j.2.2.2.1 ∧ NuOkT j.2.2.2.2) : F_has_numbers [jT j] = .ok (.sh (.bl (numsB j))) := by
  have w1 := is_within_T j.2.1 0 1000000000 h.1
  have w2 := is_within_T j.2.2.1 (-1) 10000000000 h.2.1
  have w3 := is_within_T j.2.2.2.1 1 60 h.2.2.1
  have w4 := is_within_T j.2.2.2.2 1 16 h.2.2.2
  rw [F_has_numbers_eq]
  unfold numsB
  cases a1 : bndT 0 1000000000 j.2.1 <;> cases a2 : bndT (-1) 10000000000 j.2.2.1 <;> cases a3 : bndT 1 60 j.2.2.2.1 <;> rw [a1] at w1 <;> rw [a2] at w2 <;> rw [a3] at w3 <;> simp [b_has_numbers, jT, w1, w2, w3, w4]
/-- a text among texts -/
theorem in_strs (s : Str) (l : List Str) : inT (.str s) (.lst (l.map T.str)) = some (decide (s ∈ l)) := by
  have z := Tr.inT_lst (a := .str s) (l := l.map T.str) (by simp) (by simp [List.all_map])
  rw [z]
  rw [any_map_eq (fun u v => teq_str u v)]
/-- the refusal of a load, its jobs gone through; kn: the names ahead -/
def chk : List Str → List Job5 → Option (Nat × Option T)
  | _, [] => none
  | kn, j :: r => match j.1 with
    | .str s => if nameB s.cps.toList = true then (if s ∈ kn then some (20, some (.str s)) else if numsB j = true then chk (kn ++ [s]) r else some (14, none)) else some (13, none)
    | _ => some (13, none)
def chkL (l : List Job5) : Option (Nat × Option T) := if l.length > 12 then some (17, none) else chk [] l
def resC : Option (Nat × Option T) → Res R
  | none => .ok (.sh (.bl true))
  | some (C, p) => .exc C p
def JobOk (j : Job5) : Prop := NmOkT j.1 ∧ NuOkT j.2.1 ∧ NuOkT j.2.2.1 ∧ NuOkT j.2.2.2.1 ∧ NuOkT j.2.2.2.2
theorem jT_at0 (j : Job5) : atI [j.1, j.2.1, j.2.2.1, j.2.2.2.1, j.2.2.2.2] 0 = some j.1 := by simp
theorem check_loop (s0 : Sl) : ∀ (l : List Job5) (kn : List Str), (∀ j ∈ l, JobOk j) → kn.length + l.length ≤ 1000 →
    (match chk kn l with
    | none => ∃ kn' : List Str, forL g_check_load_1 b_check_load_1 (l.map jT) [s0, .ow (.lst (kn.map T.str)), .no] = .nx [s0, .ow (.lst (kn'.map T.str)), .no]
    | some (C, p) => ∃ e : En, forL g_check_load_1 b_check_load_1 (l.map jT) [s0, .ow (.lst (kn.map T.str)), .no] = .exc e C p)
  | [], kn, _, _ => ⟨kn, rfl⟩
  | j :: r, kn, h, hl => by
    have hj := h j (by simp)
    have n1 := is_name_T j.1 hj.1
    have n2 := has_numbers_T j hj.2
    have hl' : kn.length + (r.length + 1) ≤ 1000 := by simpa using hl
    have hz : kn.length < 16777216 := by omega
    have ih := fun s => check_loop s0 r (kn ++ [s]) (fun j m => h j (by simp [m])) (by simp; omega)
    have h1 := hj.1
    obtain ⟨nm, j1, j2, j3, j4⟩ := j
    simp only at n1 h1
    cases nm with
    | str s =>
      have m := in_strs s kn
      have n1' : F_is_name [.str s] = .ok (.sh (.bl (nameB s.cps.toList))) := n1
      cases c1 : nameB s.cps.toList with
      | false =>
        rw [c1] at n1'
        simp only [chk, c1]
        exact ⟨_, by rw [List.map_cons, forL_cons]; simp [g_check_load_1, b_check_load_1, jT, n1']; rfl⟩
      | true =>
        rw [c1] at n1'
        by_cases c2 : s ∈ kn
        · simp only [chk, c1, c2, if_true]
          exact ⟨_, by rw [List.map_cons, forL_cons]; simp [g_check_load_1, b_check_load_1, jT, n1', m, c2]; rfl⟩
        · cases c3 : numsB (.str s, j1, j2, j3, j4) with
          | false =>
            rw [c3] at n2
            simp only [jT] at n2
            simp only [chk, c1, c2, c3, if_true, if_false]
            exact ⟨_, by rw [List.map_cons, forL_cons]; simp [g_check_load_1, b_check_load_1, jT, n1', m, c2, n2]; rfl⟩
          | true =>
            rw [c3] at n2
            simp only [jT] at n2
            have tn : turn g_check_load_1 b_check_load_1 (jT (.str s, j1, j2, j3, j4)) [s0, .ow (.lst (kn.map T.str)), .no] = .nx [s0, .ow (.lst ((kn ++ [s]).map T.str)), .no] := by
              simp [g_check_load_1, b_check_load_1, jT, n1', m, c2, n2, sizeLine_eq, hz]
            have st : forL g_check_load_1 b_check_load_1 ((((.str s, j1, j2, j3, j4) : Job5) :: r).map jT) [s0, .ow (.lst (kn.map T.str)), .no] = forL g_check_load_1 b_check_load_1 (r.map jT) [s0, .ow (.lst ((kn ++ [s]).map T.str)), .no] := by
              rw [List.map_cons, forL_cons, tn]; rfl
            have e : chk kn ((.str s, j1, j2, j3, j4) :: r) = chk (kn ++ [s]) r := by simp [chk, c1, c2, c3]
            rw [e, st]
            exact ih s
    | _ =>
      have n1' := n1
      simp only [nmT] at n1'
      simp only [chk]
      exact ⟨_, by rw [List.map_cons, forL_cons]; simp [g_check_load_1, b_check_load_1, jT, n1']; rfl⟩
theorem check_load_T (l : List Job5) (h : ∀ j ∈ l, JobOk j) (hl : l.length ≤ 1000) : F_check_load [.lst (l.map jT)] = resC (chkL l) := by
  rw [F_check_load_eq]
  have hz : l.length ≤ 16777216 := by omega
  unfold chkL
  by_cases c : l.length > 12
  · have c' : (12 : Int) < (l.length : Int) := by omega
    simp [b_check_load, sizeLine_eq, hz, c, c', resC]
  · have c' : ¬ (12 : Int) < (l.length : Int) := by omega
    rw [if_neg c]
    have L := check_loop (.fz (.lst (l.map jT))) l [] h (by simp; omega)
    cases e : chk [] l with
    | none =>
      rw [e] at L
      obtain ⟨kn, L⟩ := L
      simp only [List.map_nil] at L
      simp [b_check_load, sizeLine_eq, hz, c', L, resC]
    | some z =>
      obtain ⟨C, p⟩ := z
      rw [e] at L
      obtain ⟨en, L⟩ := L
      simp only [List.map_nil] at L
      simp [b_check_load, sizeLine_eq, hz, c', L, resC]
end PG
/-! cells: stretches of like turns -/
namespace CellM
open Tr PG CalM PySem L2
abbrev Jb := Str × Int × Int × Int × Int
def eJ (j : Jb) : Job5 := (.str j.1, .int j.2.1, .int j.2.2.1, .int j.2.2.2.1, .int j.2.2.2.2)
def encJ (j : Jb) : T := .tup [.str j.1, .int j.2.1, .int j.2.2.1, .int j.2.2.2.1, .int j.2.2.2.2]
theorem jT_eJ (j : Jb) : jT (eJ j) = encJ j := rfl
theorem map_eJ (l : List Jb) : (l.map eJ).map jT = l.map encJ := by simp [Function.comp_def, jT_eJ]
def inW (j : Jb) (t : Int) : Bool := decide (j.2.1 ≤ t) && decide (t ≤ j.2.2.1)
def hold (l : List Jb) (t : Int) : List Str := (l.filter fun j => inW j t).map (·.1)
def mks : List Jb → List Int
  | [] => []
  | j :: l => (if j.2.1 ≤ j.2.2.1 then [j.2.1, j.2.2.1 + 1] else []) ++ mks l
theorem mem_mks {l : List Jb} {m : Int} : m ∈ mks l ↔ ∃ j ∈ l, j.2.1 ≤ j.2.2.1 ∧ (m = j.2.1 ∨ m = j.2.2.1 + 1) := by
  induction l with
  | nil => simp [mks]
  | cons j l ih =>
    simp only [mks, List.mem_append, ih, List.exists_mem_cons]
    by_cases z : j.2.1 ≤ j.2.2.1 <;> simp [z]
theorem mks_len (l : List Jb) : (mks l).length ≤ 2 * l.length := by
  induction l with
  | nil => simp [mks]
  | cons j l ih =>
    simp only [mks, List.length_append, List.length_cons]
    split <;> simp <;> omega
def marksM (l : List Jb) : List Int := sorU (mks l)
theorem mem_marks {l : List Jb} {m : Int} : m ∈ marksM l ↔ m ∈ mks l := by
  show m ∈ uniqI ((mks l).mergeSort leI) ↔ _
  rw [uniqI_mem, (List.mergeSort_perm (mks l) leI).mem_iff]
theorem uniqI_len : ∀ l : List Int, (uniqI l).length ≤ l.length
  | [] => Nat.le_refl _
  | a :: l => by
    have ih := uniqI_len l
    show (match uniqI l with
      | [] => [a]
      | b :: m => if a = b then b :: m else a :: b :: m).length ≤ _
    cases e : uniqI l with
    | nil => simp
    | cons b m =>
      rw [e] at ih
      simp only [List.length_cons] at ih ⊢
      split <;> simp <;> omega
theorem marks_len (l : List Jb) : (marksM l).length ≤ 2 * l.length := by
  have h1 := uniqI_len (sortI (mks l))
  have h2 : (sortI (mks l)).length = (mks l).length := (List.mergeSort_perm (mks l) leI).length_eq
  have h3 := mks_len l
  have e : marksM l = uniqI (sortI (mks l)) := rfl
  rw [e]; omega
theorem srtI_up (l : List Int) : (sortI l).Pairwise (· ≤ ·) := by
  have e2 : (sortI l).Pairwise (fun a b => leI a b = true) := List.pairwise_mergeSort (le := leI) (fun a b c h k => by
    simp only [leI, decide_eq_true_eq] at *; omega) (fun a b => by simp only [leI, Bool.or_eq_true, decide_eq_true_eq]; omega) l
  exact e2.imp fun h => by simpa [leI] using h
theorem marks_up (l : List Jb) : (marksM l).Pairwise (· < ·) := uniqI_sorted _ (srtI_up _)
/-- neighbours -/
def prs : List Int → List (Int × Int)
  | a :: b :: l => (a, b) :: prs (b :: l)
  | _ => []
theorem prs_len : ∀ l : List Int, (prs l).length ≤ l.length
  | [] => Nat.le_refl _
  | [_] => Nat.zero_le _
  | a :: b :: l => by
    have := prs_len (b :: l)
    simp only [prs, List.length_cons] at this ⊢; omega
def cellsIn (A : Int → Int) (l : List Int) : List Pc := (prs l).map fun p => ⟨p.1, p.2 - 1, A p.1⟩
def cellsM (l : List Jb) (s : List (Int × Int)) (r : Int) : List Pc :=
  ((prs (marksM l)).map fun p => if (l.any fun j => inW j p.1) = true then cellsIn (atC 0 s r) (p.1 :: (chgC 0 s p.1 (p.2 - 1) ++ [p.2])) else []).flatten
theorem any_hold (l : List Jb) (t : Int) : (l.any fun j => inW j t) = true ↔ hold l t ≠ [] := by
  unfold hold
  rw [List.any_eq_true]
  constructor
  · rintro ⟨j, m, h⟩ e
    have : j ∈ l.filter fun j => inW j t := List.mem_filter.mpr ⟨m, h⟩
    rw [List.map_eq_nil_iff.mp e] at this
    cases this
  · intro h
    cases e : l.filter fun j => inW j t with
    | nil => rw [e] at h; exact absurd rfl h
    | cons j k =>
      have : j ∈ l.filter fun j => inW j t := by rw [e]; exact List.mem_cons_self
      exact ⟨j, (List.mem_filter.mp this).1, (List.mem_filter.mp this).2⟩
theorem hold_same {l : List Jb} {b t : Int} (h : b ≤ t) (no : ∀ m ∈ mks l, ¬ (b < m ∧ m ≤ t)) : hold l t = hold l b := by
  unfold hold
  congr 1
  refine List.filter_congr fun j m => ?_
  unfold inW
  by_cases z : j.2.1 ≤ j.2.2.1
  · have n1 := no j.2.1 (mem_mks.mpr ⟨j, m, z, .inl rfl⟩)
    have n2 := no (j.2.2.1 + 1) (mem_mks.mpr ⟨j, m, z, .inr rfl⟩)
    rw [Bool.eq_iff_iff]
    simp only [Bool.and_eq_true, decide_eq_true_eq]
    omega
  · rw [Bool.eq_iff_iff]
    simp only [Bool.and_eq_true, decide_eq_true_eq]
    omega
theorem hold_none {l : List Jb} {t : Int} (h : (∀ m ∈ mks l, t < m) ∨ ∀ m ∈ mks l, m ≤ t) : hold l t = [] := by
  unfold hold
  rw [List.map_eq_nil_iff, List.filter_eq_nil_iff]
  intro j m q
  simp only [inW, Bool.and_eq_true, decide_eq_true_eq] at q
  have z : j.2.1 ≤ j.2.2.1 := by omega
  rcases h with h | h
  · have := h j.2.1 (mem_mks.mpr ⟨j, m, z, .inl rfl⟩); omega
  · have := h (j.2.2.1 + 1) (mem_mks.mpr ⟨j, m, z, .inr rfl⟩); omega
theorem mem_hold {l : List Jb} (nd : (l.map (·.1)).Nodup) {j : Jb} (m : j ∈ l) (t : Int) : j.1 ∈ hold l t ↔ inW j t = true := by
  unfold hold
  rw [List.mem_map]
  constructor
  · rintro ⟨k, hk, e⟩
    rw [List.mem_filter] at hk
    have : k = j := by
      obtain ⟨i1, h1, e1⟩ := List.getElem_of_mem hk.1
      obtain ⟨i2, h2, e2⟩ := List.getElem_of_mem m
      have : i1 = i2 := by
        rw [List.nodup_iff_pairwise_ne, List.pairwise_iff_getElem] at nd
        rcases Nat.lt_trichotomy i1 i2 with z | z | z
        · exact (nd i1 i2 (by simpa using h1) (by simpa using h2) z (by rw [List.getElem_map, List.getElem_map, e1, e2, e])).elim
        · exact z
        · exact (nd i2 i1 (by simpa using h2) (by simpa using h1) z (by rw [List.getElem_map, List.getElem_map, e1, e2, e])).elim
      subst this
      rw [← e1, ← e2]
    rw [← this]; exact hk.2
  · exact fun h => ⟨j, List.mem_filter.mpr ⟨m, h⟩, rfl⟩
theorem hold_mark {l : List Jb} (nd : (l.map (·.1)).Nodup) {m : Int} (h : m ∈ mks l) : hold l m ≠ hold l (m - 1) := by
  obtain ⟨j, mj, z, e⟩ := mem_mks.mp h
  intro q
  have h1 := mem_hold nd mj m
  have h2 := mem_hold nd mj (m - 1)
  rw [q] at h1
  have h3 := h1.symm.trans h2
  simp only [inW, Bool.and_eq_true, decide_eq_true_eq] at h3
  omega
/-! turn by turn -/
section
variable (H : Int → List Str) (A : Int → Int)
abbrev Sc := List Pc × Option (List Str × Int)
def ext (l : List Pc) (t : Int) (v : Int) : List Pc := match l.getLast? with
  | some c => l.dropLast ++ [⟨c.a, t, v⟩]
  | none => l
def stp (st : Sc) (t : Int) : Sc := (if H t = [] then st.1 else if st.2 = some (H t, A t) then ext st.1 t (A t) else st.1 ++ [⟨t, t, A t⟩], some (H t, A t))
def scan (st : Sc) (b : Int) (n : Nat) : Sc := (iv b n).foldl (stp H A) st
variable {H A}
theorem iv_snoc (a : Int) (n : Nat) : iv a (n + 1) = iv a n ++ [a + (n : Nat)] := by
  unfold iv
  rw [List.range_succ, List.map_append]; rfl
theorem iv_add (a : Int) (n : Nat) : ∀ m : Nat, iv a (n + m) = iv a n ++ iv (a + (n : Nat)) m
  | 0 => by simp [iv]
  | m + 1 => by
    rw [← Nat.add_assoc, iv_snoc, iv_add a n m, iv_snoc, List.append_assoc]
    congr 3
    omega
theorem scan_snoc (st : Sc) (b : Int) (n : Nat) : scan H A st b (n + 1) = stp H A (scan H A st b n) (b + (n : Nat)) := by
  unfold scan
  rw [iv_snoc, List.foldl_append]; rfl
theorem scan_add (st : Sc) (b : Int) (n m : Nat) : scan H A st b (n + m) = scan H A (scan H A st b n) (b + (n : Nat)) m := by
  unfold scan
  rw [iv_add, List.foldl_append]
theorem scan_to (st : Sc) {b c e : Int} (h1 : b ≤ c) (h2 : c ≤ e) : scan H A st b (e - b).toNat = scan H A (scan H A st b (c - b).toNat) c (e - c).toNat := by
  have := scan_add (H := H) (A := A) st b (c - b).toNat (e - c).toNat
  rw [show (c - b).toNat + (e - c).toNat = (e - b).toNat by omega, show b + ((c - b).toNat : Int) = c by omega] at this
  exact this
theorem ext_app (l : List Pc) (c : Pc) (t v : Int) : ext (l ++ [c]) t v = l ++ [⟨c.a, t, v⟩] := by simp [ext]
theorem scan_same {h : List Str} {v : Int} (hn : h ≠ []) (l : List Pc) (a b : Int) : ∀ n : Nat, (∀ t, b ≤ t → t < b + (n : Nat) → H t = h ∧ A t = v) →
    scan H A (l ++ [⟨a, b - 1, v⟩], some (h, v)) b n = (l ++ [⟨a, b + (n : Nat) - 1, v⟩], some (h, v))
  | 0, _ => by simp [scan, iv]
  | n + 1, k => by
    rw [scan_snoc, scan_same hn l a b n fun t h1 h2 => k t h1 (by omega)]
    obtain ⟨k1, k2⟩ := k (b + (n : Nat)) (by omega) (by omega)
    unfold stp
    rw [k1, k2, if_neg hn, if_pos rfl, ext_app]
    simp only [Prod.mk.injEq, List.append_cancel_left_eq, List.cons.injEq, Pc.mk.injEq, and_true, true_and]
    omega
theorem scan_run {h : List Str} {v : Int} (hn : h ≠ []) (st : Sc) (b e : Int) (hbe : b < e) (k : ∀ t, b ≤ t → t < e → H t = h ∧ A t = v) (ne : st.2 ≠ some (h, v)) :
    scan H A st b (e - b).toNat = (st.1 ++ [⟨b, e - 1, v⟩], some (h, v)) := by
  have e1 : (e - b).toNat = 1 + (e - b - 1).toNat := by omega
  rw [e1, scan_add]
  obtain ⟨k1, k2⟩ := k b (Int.le_refl _) hbe
  have e2 : scan H A st b 1 = (st.1 ++ [⟨b, b + ((1 : Nat) : Int) - 1, v⟩], some (h, v)) := by
    have : scan H A st b 1 = stp H A st b := by simp [scan, iv]
    rw [this]
    unfold stp
    rw [k1, k2, if_neg hn, if_neg ne]
    simp
  rw [e2]
  have := scan_same (H := H) (A := A) hn st.1 b (b + ((1 : Nat) : Int)) (e - b - 1).toNat fun t h1 h2 => k t (by omega) (by omega)
  rw [this]
  simp only [Prod.mk.injEq, List.append_cancel_left_eq, List.cons.injEq, Pc.mk.injEq, and_true, true_and]
  omega
theorem scan_none (st : Sc) (b e : Int) (hbe : b ≤ e) (k : ∀ t, b ≤ t → t < e → H t = []) : (scan H A st b (e - b).toNat).1 = st.1 ∧ (b < e → (scan H A st b (e - b).toNat).2 = some ([], A (e - 1))) := by
  have : ∀ n : Nat, (∀ t, b ≤ t → t < b + (n : Nat) → H t = []) → (scan H A st b n).1 = st.1 ∧ (0 < n → (scan H A st b n).2 = some ([], A (b + (n : Nat) - 1))) := by
    intro n
    induction n with
    | zero => intro _; simp [scan, iv]
    | succ n ih =>
      intro k
      have h1 := (ih fun t h1 h2 => k t h1 (by omega)).1
      have h2 := k (b + (n : Nat)) (by omega) (by omega)
      rw [scan_snoc]
      unfold stp
      rw [h2, if_pos rfl]
      refine ⟨h1, fun _ => ?_⟩
      rw [show b + ((n + 1 : Nat) : Int) - 1 = b + (n : Nat) by omega]
  have h := this (e - b).toNat fun t h1 h2 => k t h1 (by omega)
  rw [show b + ((e - b).toNat : Int) = e by omega] at h
  exact ⟨h.1, fun z => h.2 (by omega)⟩
/-- a stretch of like holders -/
theorem scan_cuts {h : List Str} (hn : h ≠ []) : ∀ (C : List Int) (st : Sc) (b e : Int), b < e → (∀ t, b ≤ t → t < e → H t = h) → C.Pairwise (· < ·) → (∀ t, b < t → t < e → (t ∈ C ↔ A t ≠ A (t - 1))) → (∀ t ∈ C, b < t ∧ t < e) → st.2 ≠ some (h, A b) →
    scan H A st b (e - b).toNat = (st.1 ++ cellsIn A (b :: (C ++ [e])), some (h, A (e - 1)))
  | [], st, b, e, hbe, hH, _, hC, _, ne => by
    have hA : ∀ n : Nat, b + (n : Nat) < e → A (b + (n : Nat)) = A b := by
      intro n
      induction n with
      | zero => intro _; simp
      | succ n ih =>
        intro q
        have q1 := ih (by omega)
        have q2 := (hC (b + ((n + 1 : Nat) : Int)) (by omega) q).mpr
        have q3 : A (b + ((n + 1 : Nat) : Int)) = A (b + ((n + 1 : Nat) : Int) - 1) := by
          by_cases z : A (b + ((n + 1 : Nat) : Int)) = A (b + ((n + 1 : Nat) : Int) - 1)
          · exact z
          · cases q2 z
        rw [q3, show b + ((n + 1 : Nat) : Int) - 1 = b + (n : Nat) by omega, q1]
    have hA' : ∀ t, b ≤ t → t < e → A t = A b := fun t h1 h2 => by
      have := hA (t - b).toNat (by omega)
      rw [show b + ((t - b).toNat : Int) = t by omega] at this
      exact this
    rw [scan_run hn st b e hbe (fun t h1 h2 => ⟨hH t h1 h2, hA' t h1 h2⟩) ne, hA' (e - 1) (by omega) (by omega)]
    rfl
  | c :: C, st, b, e, hbe, hH, hp, hC, hm, ne => by
    have hc := hm c List.mem_cons_self
    rw [List.pairwise_cons] at hp
    have hA : ∀ n : Nat, b + (n : Nat) < c → A (b + (n : Nat)) = A b := by
      intro n
      induction n with
      | zero => intro _; simp
      | succ n ih =>
        intro q
        have q1 := ih (by omega)
        have q2 := (hC (b + ((n + 1 : Nat) : Int)) (by omega) (by omega)).mpr
        have q3 : A (b + ((n + 1 : Nat) : Int)) = A (b + ((n + 1 : Nat) : Int) - 1) := by
          by_cases z : A (b + ((n + 1 : Nat) : Int)) = A (b + ((n + 1 : Nat) : Int) - 1)
          · exact z
          · rcases List.mem_cons.mp (q2 z) with q4 | q4
            · omega
            · have := hp.1 _ q4; omega
        rw [q3, show b + ((n + 1 : Nat) : Int) - 1 = b + (n : Nat) by omega, q1]
    have hA' : ∀ t, b ≤ t → t < c → A t = A b := fun t h1 h2 => by
      have := hA (t - b).toNat (by omega)
      rw [show b + ((t - b).toNat : Int) = t by omega] at this
      exact this
    rw [scan_to st (c := c) (by omega) (by omega), scan_run hn st b c hc.1 (fun t h1 h2 => ⟨hH t h1 (by omega), hA' t h1 h2⟩) ne]
    have q := (hC c hc.1 hc.2).mp List.mem_cons_self
    rw [hA' (c - 1) (by omega) (by omega)] at q
    rw [scan_cuts hn C _ c e hc.2 (fun t h1 h2 => hH t (by omega) h2) hp.2 (fun t h1 h2 => by
      rw [← hC t (by omega) h2, List.mem_cons]
      constructor
      · exact .inr
      · rintro (z | z)
        · omega
        · exact z) (fun t m => ⟨hp.1 t m, (hm t (List.mem_cons_of_mem _ m)).2⟩) (fun z => q (by
          have := congrArg (Option.map Prod.snd) z
          simp at this
          exact this.symm))]
    simp only [List.append_assoc, Prod.mk.injEq, and_true]
    rfl
end
theorem chg_pure {s : List (Int × Int)} {r f l : Int} (hn : Nf s r) (hf : 0 ≤ f) (h : f ≤ l) : chgC 0 s f l = (iv (f + 1) (l - f).toNat).filter fun t => decide (atC 0 s r t ≠ atC 0 s r (t - 1)) := by
  have := chg_iv (r := r) (f := f) (n := (l - f).toNat) s 0 hn
  rw [show f + ((l - f).toNat : Int) = l by omega] at this
  rw [this]
  refine List.filter_congr fun t m => ?_
  have := mem_iv.mp m
  have : (0 : Int) < t := by omega
  simp [this]
theorem iv_up (a : Int) : ∀ n : Nat, (iv a n).Pairwise (· < ·)
  | 0 => by simp [iv]
  | n + 1 => by
    rw [iv_snoc, List.pairwise_append]
    refine ⟨iv_up a n, by simp, fun x hx y hy => ?_⟩
    have := mem_iv.mp hx
    rw [List.mem_singleton.mp hy]; omega
/-- the cells, turn by turn -/
theorem scan_marks {l : List Jb} {s : List (Int × Int)} {r : Int} (nd : (l.map (·.1)).Nodup) (hs : Nf s r) : ∀ (M : List Int) (m0 : Int) (st : Sc), (m0 :: M).Pairwise (· < ·) → 0 ≤ m0 → (∀ m ∈ m0 :: M, m ∈ mks l) → (∀ m ∈ mks l, m0 ≤ m → m ∈ m0 :: M) →
    (∀ v, st.2 ≠ some (hold l m0, v) ∨ hold l m0 = []) → ∃ e, m0 ≤ e ∧ (∀ m ∈ m0 :: M, m ≤ e) ∧ e ∈ m0 :: M ∧ (scan (hold l) (atC 0 s r) st m0 (e - m0).toNat).1 = st.1 ++
      ((prs (m0 :: M)).map fun p => if (l.any fun j => inW j p.1) = true then cellsIn (atC 0 s r) (p.1 :: (chgC 0 s p.1 (p.2 - 1) ++ [p.2])) else []).flatten
  | [], m0, st, _, _, _, _, _ => ⟨m0, Int.le_refl _, fun m h => by rw [List.mem_singleton.mp h]; exact Int.le_refl _, List.mem_cons_self, by simp [scan, iv, prs]⟩
  | m1 :: M, m0, st, up, h0, hin, hall, hst => by
    have up' := List.pairwise_cons.mp up
    have lt := up'.1 m1 List.mem_cons_self
    have con : ∀ t, m0 ≤ t → t < m1 → hold l t = hold l m0 := fun t h1 h2 => hold_same h1 fun m hm z => by
      have := hall m hm (by omega)
      rcases List.mem_cons.mp this with q | q
      · omega
      · rcases List.mem_cons.mp q with q | q
        · omega
        · have := (List.pairwise_cons.mp up'.2).1 m q; omega
    have step : ∃ v, (scan (hold l) (atC 0 s r) st m0 (m1 - m0).toNat).1 = st.1 ++ (if (l.any fun j => inW j m0) = true then cellsIn (atC 0 s r) (m0 :: (chgC 0 s m0 (m1 - 1) ++ [m1])) else []) ∧
        (scan (hold l) (atC 0 s r) st m0 (m1 - m0).toNat).2 = some (hold l m0, v) := by
      by_cases z : hold l m0 = []
      · have n0 : (l.any fun j => inW j m0) = false := by
          rw [Bool.eq_false_iff]
          exact fun q => (any_hold l m0).mp q z
        have sn := scan_none (H := hold l) (A := atC 0 s r) st m0 m1 (by omega) fun t h1 h2 => by rw [con t h1 h2, z]
        rw [n0, z]
        exact ⟨_, by simpa using sn.1, sn.2 lt⟩
      · have n0 := (any_hold l m0).mpr z
        rw [if_pos n0]
        have C := chg_pure (f := m0) (l := m1 - 1) hs h0 (by omega)
        have mC : ∀ t, t ∈ chgC 0 s m0 (m1 - 1) ↔ (m0 < t ∧ t < m1) ∧ atC 0 s r t ≠ atC 0 s r (t - 1) := fun t => by
          rw [C, List.mem_filter, mem_iv, decide_eq_true_eq]
          constructor
          · rintro ⟨h1, h2⟩; exact ⟨by omega, h2⟩
          · rintro ⟨h1, h2⟩; exact ⟨by omega, h2⟩
        have sc := scan_cuts (H := hold l) (A := atC 0 s r) z (chgC 0 s m0 (m1 - 1)) st m0 m1 lt con (by rw [C]; exact (iv_up _ _).filter _) (fun t h1 h2 => by
          rw [mC]
          exact ⟨fun q => q.2, fun q => ⟨⟨h1, h2⟩, q⟩⟩) (fun t m => ((mC t).mp m).1) ((hst _).resolve_right z)
        rw [sc]
        exact ⟨_, rfl, rfl⟩
    obtain ⟨v, s1, s2⟩ := step
    have nx : hold l m1 ≠ hold l (m1 - 1) := hold_mark nd (hin m1 (by simp))
    rw [con (m1 - 1) (by omega) (by omega)] at nx
    obtain ⟨e, e1, e2, e3, e4⟩ := scan_marks nd hs M m1 (scan (hold l) (atC 0 s r) st m0 (m1 - m0).toNat) up'.2 (by omega) (fun m hm => hin m (List.mem_cons_of_mem _ hm)) (fun m hm q => by
      rcases List.mem_cons.mp (hall m hm (by omega)) with z | z
      · omega
      · exact z) (fun w => .inl (by
        rw [s2]
        intro q
        have := congrArg (Option.map Prod.fst) q
        simp at this
        exact nx this.symm))
    refine ⟨e, by omega, fun m hm => ?_, List.mem_cons_of_mem _ e3, ?_⟩
    · rcases List.mem_cons.mp hm with rfl | hm
      · omega
      · exact e2 m hm
    · rw [scan_to st (c := m1) (by omega) e1, e4, s1]
      simp only [prs, List.map_cons, List.flatten_cons, List.append_assoc]
theorem cells_scan {l : List Jb} {s : List (Int × Int)} {r lo hi : Int} (nd : (l.map (·.1)).Nodup) (hs : Nf s r) (h0 : 0 ≤ lo) (hlh : lo ≤ hi) (h1 : ∀ m ∈ mks l, lo ≤ m ∧ m ≤ hi) : cellsM l s r = (scan (hold l) (atC 0 s r) ([], none) lo (hi - lo).toNat).1 := by
  cases e : marksM l with
  | nil =>
    have no : ∀ m, m ∉ mks l := fun m hm => by
      have := mem_marks.mpr hm
      rw [e] at this; cases this
    have sn := scan_none (H := hold l) (A := atC 0 s r) ([], none) lo hi hlh fun t _ _ => hold_none (.inl fun m hm => (no m hm).elim)
    rw [sn.1]
    unfold cellsM
    rw [e]; rfl
  | cons m0 M =>
    have up := marks_up l
    rw [e] at up
    have i1 : ∀ m ∈ m0 :: M, m ∈ mks l := fun m hm => mem_marks.mp (by rw [e]; exact hm)
    have i2 : ∀ m ∈ mks l, m ∈ m0 :: M := fun m hm => by rw [← e]; exact mem_marks.mpr hm
    have b0 := h1 m0 (i1 m0 List.mem_cons_self)
    have mn : ∀ m ∈ mks l, m0 ≤ m := fun m hm => by
      rcases List.mem_cons.mp (i2 m hm) with z | z
      · omega
      · have := (List.pairwise_cons.mp up).1 m z; omega
    have sn := scan_none (H := hold l) (A := atC 0 s r) ([], none) lo m0 b0.1 fun t _ z => hold_none (.inl fun m hm => by have := mn m hm; omega)
    obtain ⟨x, e1, e2, e3, e4⟩ := scan_marks nd hs M m0 (scan (hold l) (atC 0 s r) ([], none) lo (m0 - lo).toNat) up (by omega) i1 (fun m hm _ => i2 m hm) (fun v => by
      by_cases z : hold l m0 = []
      · exact .inr z
      · refine .inl ?_
        by_cases q : lo < m0
        · rw [sn.2 q]
          intro y
          have := congrArg (Option.map Prod.fst) y
          simp at this
          exact z this
        · have : m0 = lo := by omega
          subst this
          simp [scan, iv])
    have bx := h1 x (i1 x e3)
    have sl := scan_none (H := hold l) (A := atC 0 s r) (scan (hold l) (atC 0 s r) ([], none) lo (x - lo).toNat) x hi bx.2 fun t z _ => hold_none (.inr fun m hm => by have := e2 m (i2 m hm); omega)
    rw [scan_to ([], none) (c := x) bx.1 bx.2, sl.1, scan_to ([], none) (c := m0) b0.1 e1, e4, sn.1]
    unfold cellsM
    rw [e]; rfl
end CellM
namespace K41
open Tr PG PySem L2
def b_q_cell_at (env : En) : Out :=
  (fSeq (fFg [0, 1] (fIfS (c2 ltR (fV 1) (fB lenR (fA (fV 0) fN)))
    (fRet (b2 ixR (fV 0) (fV 1)))
    fNx))
    (fRet (fC (.int 0)))) env
abbrev F_q_cell_at : List T → Res R := runF 2 b_q_cell_at
theorem F_q_cell_at_eq (a0 a1 : T) : F_q_cell_at [a0, a1] = (b_q_cell_at [.fz a0, .fz a1]).res := rfl
def b_q_whole (env : En) : Out :=
  (fRet (fAndV (fIsa "int" (fV 0)) (fNotV (fIsa "bool" (fV 0))))) env
abbrev F_q_whole : List T → Res R := runF 1 b_q_whole
theorem F_q_whole_eq (a0 : T) : F_q_whole [a0] = (b_q_whole [.fz a0]).res := rfl
def b_q_mixed (env : En) : Out :=
  (fSeq (fFg [0, 1] (fSetZ 2 (b2 modR (b2 mulR (b2 addR (fV 0) (b2 mulR (fC (.int 7919)) (fV 1))) (fC (.int 48271))) (fC (.int 2147483647)))))
    (fSeq (fSetZ 2 (b2 modR (b2 mulR (fV 2) (fV 2)) (fC (.int 2147483629))))
    (fRet (b2 modR (b2 addR (b2 addR (b2 mulR (fV 2) (fV 2)) (b2 mulR (fC (.int 16807)) (fV 2))) (fC (.int 11))) (fC (.int 2147483587)))))) env
abbrev F_q_mixed : List T → Res R := runF 3 b_q_mixed
theorem F_q_mixed_eq (a0 a1 : T) : F_q_mixed [a0, a1] = (b_q_mixed [.fz a0, .fz a1, .no]).res := rfl
def g_q_names_1 (d : T) (env : En) : Option En := (gN 9) d env
def c_q_names_1 (env : En) : Res Bool := fYes env
def e_q_names_1 (env : En) : Res R := (b2 ixR (fV 2) (b2 modR (fCall F_q_mixed (fA (fV 0) (fA (fV 9) fN))) (fC (.int 36)))) env
def g_q_names_2 (d : T) (env : En) : Option En := (gN 7) d env
def c_q_names_2 (env : En) : Res Bool := fYes env
def e_q_names_2 (env : En) : Res R := (b2 addR (fV 4) (fSl (fV 3) fP0 (fP (fV 7)))) env
def g_q_names_3 (d : T) (env : En) : Option En := (gN 7) d env
def b_q_names_3 (env : En) : Out := (fFg [7, 8] (fSeq (fFg [7] (fSetZ 8 (b2 ixR (fV 2) (b2 modR (b2 addR (fV 0) (b2 mulR (fC (.int 7)) (fV 7))) (fC (.int 36))))))
    (fFg [8] (fApp 6 (b2 addR (b2 addR (b2 addR (fV 4) (fSl (fV 3) fP0 (fP (fV 5)))) (fV 8)) (fSl (fV 3) (fP (b2 addR (fV 5) (fC (.int 1)))) fP0)))))) env
def b_q_names (env : En) : Out :=
  (fSeq (fSetZ 2 (fC (.str "abcdefghijklmnopqrstuvwxyz0123456789")))
    (fSeq (fSetZ 3 (stM joiO (fC (.str "")) (fComp [9] (iR1 (fC (.int 7))) g_q_names_1 c_q_names_1 e_q_names_1)))
    (fSeq (fSetZ 4 (b2 ixR (fV 2) (b2 modR (fCall F_q_mixed (fA (fV 0) (fA (fC (.int 8)) fN))) (fC (.int 26)))))
    (fSeq (fIfS (fAnd (c2 eqR (b2 modR (fV 0) (fC (.int 3))) (fC (.int 0))) (c2 ltR (fV 1) (fC (.int 9))))
    (fRet (fComp [7] (iR1 (fV 1)) g_q_names_2 c_q_names_2 e_q_names_2))
    fNx)
    (fSeq (fSetZ 5 (b2 modR (b2 fdivR (fV 0) (fC (.int 3))) (fC (.int 7))))
    (fSeq (fSet 6 (fLst fN))
    (fSeq (fFg [0, 1, 2, 3, 4, 5] (fFor (iR1 (fV 1)) g_q_names_3 b_q_names_3))
    (fRet (fV 6))))))))) env
abbrev F_q_names : List T → Res R := runF 10 b_q_names
theorem F_q_names_eq (a0 a1 : T) : F_q_names [a0, a1] = (b_q_names [.fz a0, .fz a1, .no, .no, .no, .no, .no, .no, .no, .no]).res := rfl
def g_q_rows_1 (d : T) (env : En) : Option En := (gN 3) d env
def b_q_rows_1 (env : En) : Out := (fFg [3, 4] (fSeq (fSetZ 4 (b2 andR (b2 shrR (b2 fdivR (fV 0) (fC (.int 7680))) (b2 mulR (fC (.int 6)) (fV 3))) (fC (.int 63))))
    (fSeq (fFg [3] (fIfS (c2 eqR (b2 modR (b2 fdivR (fV 0) (fC (.int 3840))) (fC (.int 2))) (fC (.int 0)))
    (fFg [3] (fSetZ 4 (fCall F_q_mixed (fA (fV 0) (fA (b2 addR (fC (.int 20)) (fV 3)) fN)))))
    fNx))
    (fFg [4] (fApp 2 (fTup (fA (b2 mulR (fV 1) (b2 addR (fC (.int 1)) (b2 modR (fV 4) (fC (.int 9))))) (fA (b2 modR (b2 fdivR (fV 4) (fC (.int 9))) (fC (.int 5))) fN)))))))) env
def b_q_rows (env : En) : Out :=
  (fSeq (fSetZ 1 (fC (.int 1)))
    (fSeq (fIfS (c2 eqR (b2 modR (b2 fdivR (fV 0) (fC (.int 60))) (fC (.int 8))) (fC (.int 1)))
    (fSetZ 1 (b2 addR (fC (.int 1)) (b2 modR (fCall F_q_mixed (fA (fV 0) (fA (fC (.int 9)) fN))) (fC (.int 90000)))))
    fNx)
    (fSeq (fSet 2 (fLst fN))
    (fSeq (fFor (iR1 (b2 modR (fV 0) (fC (.int 6)))) g_q_rows_1 b_q_rows_1)
    (fSeq (fSetZ 5 (b2 addR (fC (.int 1)) (b2 modR (b2 fdivR (fV 0) (fC (.int 6))) (fC (.int 3)))))
    (fSeq (fFg [0] (fIfS (c2 eqR (b2 modR (b2 fdivR (fV 0) (fC (.int 480))) (fC (.int 8))) (fC (.int 1)))
    (fSetZ 5 (fC (.int 16)))
    fNx))
    (fFg [1, 2, 5] (fFz 2 (fRet (fTup (fA (fV 2) (fA (fV 5) (fA (fV 1) fN))))))))))))) env
abbrev F_q_rows : List T → Res R := runF 6 b_q_rows
theorem F_q_rows_eq (a0 : T) : F_q_rows [a0] = (b_q_rows [.fz a0, .no, .no, .no, .no, .no]).res := rfl
def g_q_load_1 (d : T) (env : En) : Option En := (gN 7) d env
def b_q_load_1 (env : En) : Out := (fFg [7, 8, 9, 10, 11, 12] (fSeq (fSetZ 8 (fCall F_q_cell_at (fA (fV 0) (fA (b2 addR (fC (.int 4)) (fV 7)) fN))))
    (fSeq (fIfS (c2 eqR (b2 modR (b2 fdivR (fV 2) (fC (.int 1024))) (fC (.int 2))) (fC (.int 0)))
    (fSetZ 8 (fCall F_q_mixed (fA (fV 8) (fA (fV 7) fN))))
    fNx)
    (fSeq (fSetZ 9 (b2 addR (fV 4) (b2 mulR (fV 1) (b2 modR (fV 8) (fC (.int 17))))))
    (fSeq (fSetZ 10 (b2 subR (b2 addR (fV 9) (b2 mulR (fV 1) (b2 addR (fC (.int 1)) (b2 modR (b2 fdivR (fV 8) (fC (.int 17))) (fC (.int 11)))))) (fC (.int 1))))
    (fSeq (fIfS (c2 eqR (b2 modR (b2 fdivR (fV 8) (fC (.int 187))) (fC (.int 16))) (fC (.int 1)))
    (fSetZ 10 (b2 subR (fV 9) (fC (.int 1))))
    fNx)
    (fSeq (fSetZ 11 (b2 addR (fC (.int 1)) (b2 modR (b2 fdivR (fV 8) (fC (.int 3000))) (b2 ixR (fLst (fA (fC (.int 4)) (fA (fC (.int 12)) (fA (fC (.int 60)) fN)))) (b2 modR (b2 fdivR (fV 8) (fC (.int 180000))) (fC (.int 3)))))))
    (fSeq (fFg [8] (fSetZ 12 (b2 addR (fC (.int 1)) (b2 modR (b2 fdivR (fV 8) (fC (.int 540000))) (b2 ixR (fLst (fA (fC (.int 1)) (fA (fC (.int 1)) (fA (fC (.int 3)) (fA (fC (.int 16)) fN))))) (b2 modR (b2 fdivR (fV 8) (fC (.int 8640000))) (fC (.int 4))))))))
    (fFg [7, 9, 10, 11, 12] (fApp 6 (fTup (fA (b2 ixR (fV 5) (fV 7)) (fA (fV 9) (fA (fV 10) (fA (fV 11) (fA (fV 12) fN)))))))))))))))) env
def b_q_load (env : En) : Out :=
  (fSeq (fSetZ 2 (fCall F_q_cell_at (fA (fV 0) (fA (fC (.int 1)) fN))))
    (fSeq (fSetZ 3 (b2 modR (fV 2) (fC (.int 8))))
    (fSeq (fIfS (c2 eqR (b2 modR (b2 fdivR (fV 2) (fC (.int 8))) (fC (.int 16))) (fC (.int 1)))
    (fSetZ 3 (fC (.int 12)))
    fNx)
    (fSeq (fSetZ 4 (fC (.int 0)))
    (fSeq (fIfS (c2 eqR (b2 modR (b2 fdivR (fV 2) (fC (.int 128))) (fC (.int 8))) (fC (.int 1)))
    (fSetZ 4 (b2 modR (fCall F_q_mixed (fA (fV 2) (fA (fC (.int 10)) fN))) (b2 mulR (fC (.int 9)) (b2 powR (fC (.int 10)) (fC (.int 8))))))
    fNx)
    (fSeq (fSetZ 5 (fCall F_q_names (fA (fCall F_q_cell_at (fA (fV 0) (fA (fC (.int 2)) fN))) (fA (fV 3) fN))))
    (fSeq (fSet 6 (fLst fN))
    (fSeq (fFg [0, 1, 2, 3, 4, 5] (fFor (iR1 (fV 3)) g_q_load_1 b_q_load_1))
    (fRet (fV 6)))))))))) env
abbrev F_q_load : List T → Res R := runF 13 b_q_load
theorem F_q_load_eq (a0 a1 : T) : F_q_load [a0, a1] = (b_q_load [.fz a0, .fz a1, .no, .no, .no, .no, .no, .no, .no, .no, .no, .no, .no]).res := rfl
def g_q_over_1 (d : T) (env : En) : Option En := (gT 2 (gsC (gN 6) (gsC (gN 7) gsN))) d env
def b_q_over_1 (env : En) : Out := (fFg [6, 7] (fSeq (fFg [7] (fSetZ 4 (b2 addR (fV 4) (b2 mulR (fV 7) (fB maxR (fA (fC (.int 0)) (fA (b2 addR (b2 subR (fB minR (fA (fV 3) (fA (b2 subR (b2 addR (fV 5) (fV 6)) (fC (.int 1))) fN))) (fB maxR (fA (fV 2) (fA (fV 5) fN)))) (fC (.int 1))) fN)))))))
    (fFg [6] (fSetZ 5 (b2 addR (fV 5) (fV 6)))))) env
def b_q_over (env : En) : Out :=
  (fSeq (fSetZ 4 (fC (.int 0)))
    (fSeq (fSetZ 5 (fC (.int 0)))
    (fSeq (fFg [0] (fFor (iL (fV 0)) g_q_over_1 b_q_over_1))
    (fRet (b2 addR (fV 4) (b2 mulR (fV 1) (fB maxR (fA (fC (.int 0)) (fA (b2 addR (b2 subR (fV 3) (fB maxR (fA (fV 2) (fA (fV 5) fN)))) (fC (.int 1))) fN))))))))) env
abbrev F_q_over : List T → Res R := runF 8 b_q_over
theorem F_q_over_eq (a0 a1 a2 a3 : T) : F_q_over [a0, a1, a2, a3] = (b_q_over [.fz a0, .fz a1, .fz a2, .fz a3, .no, .no, .no, .no]).res := rfl
def g_q_inside_1 (d : T) (env : En) : Option En := (gT 2 (gsC (gN 2) (gsC (gN 3) gsN))) d env
def c_q_inside_1 (env : En) : Res Bool := fYes env
def e_q_inside_1 (env : En) : Res R := (fB maxR (fA (fC (.int 0)) (fA (b2 addR (b2 subR (fB minR (fA (b2 ixR (fV 0) (fC (.int 2))) (fA (fV 3) fN))) (fB maxR (fA (b2 ixR (fV 0) (fC (.int 1))) (fA (fV 2) fN)))) (fC (.int 1))) fN))) env
def b_q_inside (env : En) : Out :=
  (fRet (fB sumR (fA (fComp [2, 3] (iL (fV 1)) g_q_inside_1 c_q_inside_1 e_q_inside_1) fN))) env
abbrev F_q_inside : List T → Res R := runF 4 b_q_inside
theorem F_q_inside_eq (a0 a1 : T) : F_q_inside [a0, a1] = (b_q_inside [.fz a0, .fz a1, .no, .no]).res := rfl
def b_q_excess (env : En) : Out :=
  (fSeq (fSetZ 2 (fB maxR (fA (fC (.int 0)) (fA (b2 addR (b2 subR (b2 ixR (fV 0) (fC (.int 2))) (b2 ixR (fV 0) (fC (.int 1)))) (fC (.int 1))) fN))))
    (fRet (fB maxR (fA (fC (.int 0)) (fA (b2 subR (b2 ixR (fV 0) (fC (.int 3))) (b2 mulR (b2 ixR (fV 0) (fC (.int 4))) (b2 subR (fV 2) (fCall F_q_inside (fA (fV 0) (fA (fV 1) fN)))))) fN))))) env
abbrev F_q_excess : List T → Res R := runF 3 b_q_excess
theorem F_q_excess_eq (a0 a1 : T) : F_q_excess [a0, a1] = (b_q_excess [.fz a0, .fz a1, .no]).res := rfl
def g_q_overflow_1 (d : T) (env : En) : Option En := (gN 7) d env
def c_q_overflow_1 (env : En) : Res Bool := fYes env
def e_q_overflow_1 (env : En) : Res R := (fCall F_q_excess (fA (fV 7) (fA (fV 3) fN))) env
def g_q_overflow_2 (d : T) (env : En) : Option En := (gT 2 (gsC (gN 5) (gsC (gN 6) gsN))) d env
def b_q_overflow_2 (env : En) : Out := (fFg [5, 6] (fFg [5, 6] (fSetZ 4 (b2 subR (fV 4) (fCall F_q_over (fA (fV 1) (fA (fV 2) (fA (fV 5) (fA (fV 6) fN))))))))) env
def b_q_overflow (env : En) : Out :=
  (fSeq (fFg [0] (fSetZ 4 (fB sumR (fA (fComp [7] (iL (fV 0)) g_q_overflow_1 c_q_overflow_1 e_q_overflow_1) fN))))
    (fSeq (fFg [1, 2, 3] (fFor (iL (fV 3)) g_q_overflow_2 b_q_overflow_2))
    (fRet (fV 4)))) env
abbrev F_q_overflow : List T → Res R := runF 8 b_q_overflow
theorem F_q_overflow_eq (a0 a1 a2 a3 : T) : F_q_overflow [a0, a1, a2, a3] = (b_q_overflow [.fz a0, .fz a1, .fz a2, .fz a3, .no, .no, .no, .no]).res := rfl
def g_q_spans_1 (d : T) (env : En) : Option En := (gN 5) d env
def b_q_spans_1 (env : En) : Out := (fFg [5, 6, 7, 8] (fSeq (fFg [5] (fSetZ 6 (fCall F_q_mixed (fA (fV 0) (fA (b2 addR (fC (.int 30)) (fV 5)) fN)))))
    (fSeq (fFg [4] (fSetZ 7 (b2 addR (b2 addR (fV 4) (b2 mulR (fV 2) (b2 modR (fV 6) (fC (.int 5))))) (fB intR (fA (b2 neR (fV 3) (fLst fN)) fN)))))
    (fSeq (fFg [6] (fSetZ 8 (b2 subR (b2 addR (fV 7) (b2 mulR (fV 2) (b2 addR (fC (.int 1)) (b2 modR (b2 fdivR (fV 6) (fC (.int 5))) (fC (.int 9)))))) (fC (.int 1)))))
    (fSeq (fFg [7] (fApp 3 (fTup (fA (fV 7) (fA (fV 8) fN)))))
    (fFg [8] (fSetZ 4 (b2 addR (fV 8) (fC (.int 1)))))))))) env
def b_q_spans (env : En) : Out :=
  (fSeq (fSet 3 (fLst fN))
    (fSeq (fFg [1] (fSetZ 4 (fV 1)))
    (fSeq (fFg [0, 2, 4] (fFor (iR1 (b2 modR (fV 0) (fC (.int 7)))) g_q_spans_1 b_q_spans_1))
    (fRet (fV 3))))) env
abbrev F_q_spans : List T → Res R := runF 9 b_q_spans
theorem F_q_spans_eq (a0 a1 a2 : T) : F_q_spans [a0, a1, a2] = (b_q_spans [.fz a0, .fz a1, .fz a2, .no, .no, .no, .no, .no, .no]).res := rfl
def g_q_law_1 (d : T) (env : En) : Option En := (gN 12) d env
def c_q_law_1 (env : En) : Res Bool := fYes env
def e_q_law_1 (env : En) : Res R := (b2 ixR (fV 12) (fC (.int 1))) env
def b_q_law (env : En) : Out :=
  (fSeq (fUnp (gT 3 (gsC (gN 1) (gsC (gN 2) (gsC (gN 3) gsN)))) (fCall F_q_rows (fA (fCall F_q_cell_at (fA (fV 0) (fA (fC (.int 0)) fN))) fN)))
    (fSeq (fSetZ 4 (fCall F_q_load (fA (fV 0) (fA (fV 3) fN))))
    (fSeq (fSetZ 5 (fB min1R (fA (b2 addR (fComp [12] (iL (fV 4)) g_q_law_1 c_q_law_1 e_q_law_1) (fLst (fA (b2 powR (fC (.int 10)) (fC (.int 9))) fN))) fN)))
    (fSeq (fIfS (c2 eqR (fV 4) (fLst fN))
    (fSetZ 5 (fC (.int 0)))
    fNx)
    (fSeq (fFg [0, 3, 5] (fSetZ 6 (fCall F_q_spans (fA (fCall F_q_cell_at (fA (fV 0) (fA (fC (.int 3)) fN))) (fA (fV 5) (fA (fV 3) fN))))))
    (fSeq (fSetZ 7 (fMk 0 F_Calendar_init (fA (fB listR (fA (fV 1) fN)) (fA (fV 2) fN))))
    (fSeq (fSetW 8 (wLst (wCons (wNew 13 (fB listR (fA (fV 4) fN))) (wCons (wNew 13 (fB listR (fA (fV 6) fN))) wNil))))
    (fSeq (fSetZ 9 (fCall F_q_overflow (fA (fV 4) (fA (fV 1) (fA (fV 2) (fA (fV 6) fN))))))
    (fSeq (fSetZ 10 (fCall F_overflow (fA (fDr 13 (b2 ixR (fV 8) (fC (.int 0)))) (fA (fV 7) (fA (fDr 13 (b2 ixR (fV 8) (fC (.int 1)))) fN)))))
    (fSeq (fFg [10] (fIfS (fOr (fNot (fTru (fCall F_q_whole (fA (fV 10) fN)))) (fOr (c2 neR (fV 10) (fV 9)) (cNeP 13 true (fV 8) (fLst (fA (fV 4) (fA (fV 6) fN))))))
    (fRet (fC (.bl false)))
    fNx))
    (fSeq (fSetZ 11 (fCall F_overflow (fA (fDr 13 (b2 ixR (fV 8) (fC (.int 0)))) (fA (fV 7) (fA (fLst fN) fN)))))
    (fSeq (fCClr 13 (b2 ixR (fV 8) (fC (.int 0))))
    (fSeq (fCClr 13 (b2 ixR (fV 8) (fC (.int 1))))
    (fSeq (fFg [1, 2, 8, 11] (fIfS (fOr (c2 neR (fV 11) (fCall F_q_overflow (fA (fV 4) (fA (fV 1) (fA (fV 2) (fA (fLst fN) fN)))))) (fOr (c2 ltR (fV 11) (fC (.int 0))) (c2 neR (fCall F_overflow (fA (fDr 13 (b2 ixR (fV 8) (fC (.int 0)))) (fA (fV 7) (fA (fDr 13 (b2 ixR (fV 8) (fC (.int 1)))) fN)))) (fC (.int 0)))))
    (fRet (fC (.bl false)))
    fNx))
    (fRet (b2 eqR (fCall F_overflow (fA (fB listR (fA (fV 4) fN)) (fA (fV 7) (fA (fB listR (fA (fV 6) fN)) fN)))) (fV 9))))))))))))))))) env
abbrev F_q_law : List T → Res R := runO 14 b_q_law
theorem F_q_law_eq (a0 : T) (h : ([a0] : List T).all T.np = true) : F_q_law [a0] = outO (b_q_law [.fz a0, .no, .no, .no, .no, .no, .no, .no, .no, .no, .no, .no, .no, .st []]) := if_pos h
end K41
namespace K41
open Tr PG PySem L2 SX
/-! ### numbers mixed, names -/
def mx (c k : Int) : Int :=
  let n := (c + 7919 * k) * 48271 % 2147483647
  let m := n * n % 2147483629
  (m * m + 16807 * m + 11) % 2147483587
theorem mx_bd (c k : Int) : 0 ≤ mx c k ∧ mx c k < 2147483587 := by
  unfold mx
  simp only
  omega
theorem mixed_eq (c k : Int) (hk : -1000000 ≤ k ∧ k ≤ 1000000) : F_q_mixed [.int c, .int k] = .ok (.sh (.int (mx c k))) := by
  rw [F_q_mixed_eq]
  have m1 : mulOk 7919 k := .inl (by omega)
  have m2 : mulOk (c + 7919 * k) 48271 := .inr (by omega)
  generalize hn : (c + 7919 * k) * 48271 % 2147483647 = n
  have bn : 0 ≤ n ∧ n < 2147483647 := by omega
  have m3 : mulOk n n := .inl (by omega)
  generalize hm : n * n % 2147483629 = m
  have bm : 0 ≤ m ∧ m < 2147483629 := by omega
  have m4 : mulOk m m := .inl (by omega)
  have m5 : mulOk 16807 m := .inl (by omega)
  simp [b_q_mixed, m1, m2, hn, m3, hm, m4, m5, mx]
def sg : List Nat := List.range' 97 26 ++ List.range' 48 10
theorem sg_str : ("abcdefghijklmnopqrstuvwxyz0123456789" : Str) = S sg := by decide +kernel
theorem sg_len : sg.length = 36 := rfl
def sgn (v : Int) : Nat := sg.getD v.toNat 0
theorem sgn_at {v : Int} (h : 0 ≤ v) (h2 : v < 36) : atI sg v = some (sgn v) := by
  rw [atI_in h (by rw [sg_len]; omega)]
  unfold sgn
  rw [List.getD_eq_getElem?_getD, List.getElem?_eq_getElem (by rw [sg_len]; omega)]
  rfl
theorem sgn_ok : ∀ v : Nat, v < 36 → isL (sgn v) || isD (sgn v) := by decide +kernel
theorem sgn_l : ∀ v : Nat, v < 26 → isL (sgn v) = true := by decide +kernel
theorem sgn_inj : ∀ v : Nat, v < 36 → ∀ w : Nat, w < 36 → sgn v = sgn w → v = w := by decide +kernel
theorem sgn_ok' {v : Int} (h : 0 ≤ v) (h2 : v < 36) : (isL (sgn v) || isD (sgn v)) = true := by
  have := sgn_ok v.toNat (by omega)
  rwa [Int.toNat_of_nonneg h] at this
theorem sgn_l' {v : Int} (h : 0 ≤ v) (h2 : v < 26) : isL (sgn v) = true := by
  have := sgn_l v.toNat (by omega)
  rwa [Int.toNat_of_nonneg h] at this
theorem sgn_inj' {v w : Int} (h : 0 ≤ v) (h2 : v < 36) (k : 0 ≤ w) (k2 : w < 36) (e : sgn v = sgn w) : v = w := by
  have := sgn_inj v.toNat (by omega) w.toNat (by omega) (by rwa [Int.toNat_of_nonneg h, Int.toNat_of_nonneg k])
  omega
def bs (c : Int) : List Nat := (List.range 7).map fun j : Nat => sgn (mx c j % 36)
def f0 (c : Int) : Nat := sgn (mx c 8 % 26)
theorem join_nil : ∀ ys : List Nat, TL.joinL [] (ys.map fun a => [a]) = ys
  | [] => rfl
  | [a] => rfl
  | a :: b :: r => by
    have ih := join_nil (b :: r)
    rw [List.map_cons] at ih
    rw [List.map_cons, List.map_cons]
    show [a] ++ ([] ++ TL.joinL [] ([b] :: r.map fun a => [a])) = _
    rw [ih]
    rfl
def nm1 (c : Int) (k : Nat) : List Nat := f0 c :: (bs c).take k
def nm2 (c : Int) (k : Nat) : List Nat := f0 c :: ((bs c).take (c / 3 % 7).toNat ++ (sgn ((c + 7 * (k : Int)) % 36) :: (bs c).drop ((c / 3 % 7).toNat + 1)))
def nmL (c : Int) (n : Nat) : List (List Nat) := (List.range n).map fun k => if c % 3 = 0 ∧ n < 9 then nm1 c k else nm2 c k
theorem bs_len (c : Int) : (bs c).length = 7 := by simp [bs]
theorem cut_to {a : List Nat} {i : Int} (h : 0 ≤ i) : cutS (S a) none (some i) = S (a.take i.toNat) := (C8.cutS_slice _ _ _).trans (slice_to h)
theorem cut_from {a : List Nat} {i : Int} (h : 0 ≤ i) : cutS (S a) (some i) none = S (a.drop i.toNat) := (C8.cutS_slice _ _ _).trans (slice_from h)
theorem names_eq (c : Int) (n : Nat) (hn : n ≤ 30) : F_q_names [.int c, .int (n : Int)] = .ok (.fr (.lst ((nmL c n).map fun a => T.str (S a)))) := by
  rw [F_q_names_eq]
  have lz : (S sg).length = 36 := by rw [S_len]; rfl
  have tz : (S sg).cps.toList = sg := rfl
  have m8 := mixed_eq c 8 (by omega)
  have b8 := mx_bd c 8
  have a8 := sgn_at (v := mx c 8 % 26) (by omega) (by omega)
  have c1 : ∀ (s2 : Sl), compL g_q_names_1 c_q_names_1 e_q_names_1 [.fz (.int c), .fz (.int (n : Int)), .fz (.str (S sg)), .no, .no, .no, .no, .no, .no, .no] ((List.range 7).map fun i : Nat => T.int (i : Int)) [] = .ok ((List.range 7).map fun j : Nat => T.str (S [sgn (mx c j % 36)])) := fun _ =>
    compL_map (g := g_q_names_1) (tt := c_q_names_1) (te := e_q_names_1) (fun i : Nat => T.int (i : Int)) (fun j : Nat => T.str (S [sgn (mx c j % 36)])) (List.range 7) (by rw [sizeLine_eq]; simp) (fun j m => by
      have hj := List.mem_range.mp m
      have mj := mixed_eq c (j : Int) (by omega)
      have bj := mx_bd c j
      have aj := sgn_at (v := mx c j % 36) (by omega) (by omega)
      simp [g_q_names_1, c_q_names_1, e_q_names_1, mj, lz, aj, sizeLine_eq])
  have eS : ("" : Str) = S [] := by decide +kernel
  have mpS : ((List.range 7).map fun j : Nat => T.str (S [sgn (mx c j % 36)])) = (((bs c).map fun a => [a]).map S).map T.str := by
    simp [bs, Function.comp_def]
  have okS : ∀ l : List Nat, (∀ a ∈ l, a < 0x110000) → PyData.strOk (S l) = true := fun l h => strOk_of h
  have sgb : ∀ v : Int, 0 ≤ v → v < 36 → sgn v < 0x110000 := fun v h h2 => by
    have := sgn_ok' h h2
    simp only [isL, isD, Bool.or_eq_true, Bool.and_eq_true, decide_eq_true_eq] at this
    omega
  have jn : joiT "" (T.strs (.lst ((List.range 7).map fun j : Nat => T.str (S [sgn (mx c j % 36)])))) = .ok (.sh (.str (S (bs c)))) := by
    rw [mpS, strs_lst, eS, joiT_some]
    · rw [join_S, join_nil]
    · have : (((bs c).map fun a => [a]).map S).map (·.length) = List.replicate 7 1 := by
        rw [List.eq_replicate_iff]
        refine ⟨by simp [bs_len], fun b m => ?_⟩
        simp at m
        obtain ⟨a, _, rfl⟩ := m
        rfl
      rw [this]
      simp [bs_len]
      decide
    · rw [join_S, join_nil]
      refine okS _ fun a m => ?_
      obtain ⟨j, mj, rfl⟩ := List.mem_map.mp m
      have bj := mx_bd c j
      exact sgb _ (by omega) (by omega)
  have c1' := c1 .no
  rw [eS] at jn
  have lb : (S (bs c)).length = 7 := by rw [S_len, bs_len]
  have hr : rOk 7 := by decide
  have hr2 : rOk (n : Int) := by show _ ∧ _; omega
  have rn : rngT 0 n = (List.range n).map fun i : Nat => T.int (i : Int) := rng0 n
  have r7 : rngT 0 7 = (List.range 7).map fun i : Nat => T.int (i : Int) := rng0 7
  have fS : (⟨#[sgn (mx c 8 % 26)]⟩ : Str) = S [f0 c] := rfl
  have lf : (S [f0 c]).length = 1 := rfl
  by_cases h : c % 3 = 0 ∧ n < 9
  · have c2 := compL_map (g := g_q_names_2) (tt := c_q_names_2) (te := e_q_names_2) (env := [.fz (.int c), .fz (.int (n : Int)), .fz (.str (S sg)), .fz (.str (S (bs c))), .fz (.str (S [f0 c])), .no, .no, .no, .no, .no]) (fun i : Nat => T.int (i : Int)) (fun k => T.str (S (nm1 c k))) (List.range n) (by rw [sizeLine_eq]; simp; omega) (fun k m => by
      have ct : cutS (S (bs c)) none (some (k : Int)) = S ((bs c).take k) := by
        have := cut_to (a := bs c) (i := (k : Int)) (by omega)
        simpa using this
      have l2 : (S ((bs c).take k)).length ≤ 7 := by rw [S_len, List.length_take, bs_len]; omega
      have l3 : 1 + (S ((bs c).take k)).length ≤ 16777216 := by omega
      have ad : S [f0 c] ++ S ((bs c).take k) = S (nm1 c k) := S_cat _ _
      simp -implicitDefEqProofs [g_q_names_2, c_q_names_2, e_q_names_2, lb, ct, lf, l3, ad, sizeLine_eq])
    have e1 : (nmL c n).map (fun a => T.str (S a)) = (List.range n).map fun k => T.str (S (nm1 c k)) := by
      simp [nmL, h, Function.comp_def]
    have h9 : (n : Int) < 9 := by omega
    rw [e1]
    simp -implicitDefEqProofs [b_q_names, sg_str, hr, hr2, rn, r7, c1', jn, eS, m8, lz, a8, fS, h.1, h9, c2, sizeLine_eq]
  · have e1 : (nmL c n).map (fun a => T.str (S a)) = (List.range n).map fun k => T.str (S (nm2 c k)) := by
      simp [nmL, h, Function.comp_def]
    have bat : 0 ≤ c / 3 % 7 ∧ c / 3 % 7 < 7 := by omega
    generalize hat : c / 3 % 7 = at' at bat
    have L := (forL_fold (g := g_q_names_3) (b := b_q_names_3) (fun i : Nat => T.int (i : Int)) (fun w : List T => [.fz (.int c), .fz (.int (n : Int)), .fz (.str (S sg)), .fz (.str (S (bs c))), .fz (.str (S [f0 c])), .fz (.int at'), .ow (.lst w), .no, .no, .no])
      (fun w k => w ++ [T.str (S (nm2 c k))]) (fun pre w => w.length = pre.length) (List.range n) [] (fun pre k post w e hp => by
        have hl : w.length < 16777216 := by
          have := congrArg List.length e
          simp at this; omega
        have hk : k < n := by
          have : k ∈ List.range n := by rw [← List.nil_append (List.range n), e]; simp
          exact List.mem_range.mp this
        have ct : cutS (S (bs c)) none (some at') = S ((bs c).take at'.toNat) := cut_to bat.1
        have cf : cutS (S (bs c)) (some (at' + 1)) none = S ((bs c).drop (at' + 1).toNat) := cut_from (by omega)
        have tn1 : (at' + 1).toNat = at'.toNat + 1 := by omega
        have m7 : mulOk 7 (k : Int) := .inl (by omega)
        have as := sgn_at (v := (c + 7 * (k : Int)) % 36) (by omega) (by omega)
        have gS : (⟨#[sgn ((c + 7 * (k : Int)) % 36)]⟩ : Str) = S [sgn ((c + 7 * (k : Int)) % 36)] := rfl
        have l2 : (S ((bs c).take at'.toNat)).length = at'.toNat := by rw [S_len, List.length_take, bs_len]; omega
        have ad1 : S [f0 c] ++ S ((bs c).take at'.toNat) = S (f0 c :: (bs c).take at'.toNat) := S_cat _ _
        have l3 : (S (f0 c :: (bs c).take at'.toNat)).length = at'.toNat + 1 := by rw [S_len, List.length_cons, List.length_take, bs_len]; omega
        have ad2 : S (f0 c :: (bs c).take at'.toNat) ++ S [sgn ((c + 7 * (k : Int)) % 36)] = S (f0 c :: ((bs c).take at'.toNat ++ [sgn ((c + 7 * (k : Int)) % 36)])) := S_cat _ _
        have l4 : (S [sgn ((c + 7 * (k : Int)) % 36)]).length = 1 := rfl
        have l5 : (S (f0 c :: ((bs c).take at'.toNat ++ [sgn ((c + 7 * (k : Int)) % 36)]))).length = at'.toNat + 2 := by rw [S_len]; simp [bs_len]; omega
        have l6 : (S ((bs c).drop (at'.toNat + 1))).length ≤ 7 := by rw [S_len, List.length_drop, bs_len]; omega
        have ad3 : S (f0 c :: ((bs c).take at'.toNat ++ [sgn ((c + 7 * (k : Int)) % 36)])) ++ S ((bs c).drop (at'.toNat + 1)) = S (nm2 c k) := by
          rw [S_cat]
          simp [nm2, hat]
        have z1 : 1 + at'.toNat ≤ 16777216 := by omega
        have z2 : at'.toNat + 1 + 1 ≤ 16777216 := by omega
        have z3 : at'.toNat + 2 + (S ((bs c).drop (at'.toNat + 1))).length ≤ 16777216 := by omega
        refine ⟨?_, by simp [hp]⟩
        simp -implicitDefEqProofs [g_q_names_3, b_q_names_3, m7, lz, as, gS, lb, ct, cf, tn1, lf, l2, ad1, l3, l4, ad2, l5, ad3, z1, z2, z3, hl, sizeLine_eq]) [] rfl).1
    have F : ∀ (xs : List Nat) (w : List T), xs.foldl (fun w k => w ++ [T.str (S (nm2 c k))]) w = w ++ xs.map fun k => T.str (S (nm2 c k)) := by
      intro xs
      induction xs with
      | nil => simp
      | cons x xs ih => intro w; rw [List.foldl_cons, ih]; simp
    rw [F] at L
    rw [e1]
    by_cases h3 : c % 3 = 0
    · have h9 : ¬ (n : Int) < 9 := by omega
      simp -implicitDefEqProofs [b_q_names, sg_str, hr, hr2, rn, r7, c1', jn, eS, m8, lz, a8, fS, h3, h9, hat, L, sizeLine_eq]
    · simp -implicitDefEqProofs [b_q_names, sg_str, hr, hr2, rn, r7, c1', jn, eS, m8, lz, a8, fS, h3, hat, L, sizeLine_eq]
theorem nm_name (c : Int) (n : Nat) : ∀ a ∈ nmL c n, nameB a = true := fun a m => by
  obtain ⟨k, mk, rfl⟩ := List.mem_map.mp m
  have hk := List.mem_range.mp mk
  have b8 := mx_bd c 8
  have l0 : isL (f0 c) = true := sgn_l' (by omega) (by omega)
  have bok : ∀ b ∈ bs c, (isL b || isD b) = true := fun b mb => by
    obtain ⟨j, mj, rfl⟩ := List.mem_map.mp mb
    have bj := mx_bd c j
    exact sgn_ok' (by omega) (by omega)
  split
  · rename_i h
    unfold nm1 nameB
    simp only [l0, Bool.true_and, Bool.and_eq_true, decide_eq_true_eq, List.all_eq_true]
    refine ⟨by rw [List.length_take, bs_len]; omega, fun b mb => ?_⟩
    rcases List.mem_cons.mp mb with rfl | mb
    · simp [l0]
    · exact bok b (List.mem_of_mem_take mb)
  · unfold nm2 nameB
    simp only [l0, Bool.true_and, Bool.and_eq_true, decide_eq_true_eq, List.all_eq_true]
    refine ⟨by rw [List.length_append, List.length_take, List.length_cons, List.length_drop, bs_len]; omega, fun b mb => ?_⟩
    rcases List.mem_cons.mp mb with rfl | mb
    · simp [l0]
    · rcases List.mem_append.mp mb with mb | mb
      · exact bok b (List.mem_of_mem_take mb)
      · rcases List.mem_cons.mp mb with rfl | mb
        · exact sgn_ok' (by omega) (by omega)
        · exact bok b (List.mem_of_mem_drop mb)
theorem nm_nd (c : Int) (n : Nat) (hn : n ≤ 30) : (nmL c n).Nodup := by
  unfold nmL
  refine List.pairwise_map.mpr (List.Pairwise.imp_of_mem (fun {a b} ma mb ne e => ?_) List.nodup_range)
  have ha := List.mem_range.mp ma
  have hb := List.mem_range.mp mb
  split at e
  · rename_i h
    have := congrArg List.length e
    simp [nm1, bs_len] at this
    omega
  · have e2 : (bs c).take (c / 3 % 7).toNat ++ (sgn ((c + 7 * (a : Int)) % 36) :: (bs c).drop ((c / 3 % 7).toNat + 1)) = (bs c).take (c / 3 % 7).toNat ++ (sgn ((c + 7 * (b : Int)) % 36) :: (bs c).drop ((c / 3 % 7).toNat + 1)) := (List.cons.inj e).2
    have e3 := (List.cons.inj (List.append_cancel_left e2)).1
    have := sgn_inj' (by omega) (by omega) (by omega) (by omega) e3
    omega
theorem nmL_len (c : Int) (n : Nat) : (nmL c n).length = n := by simp [nmL]
end K41
namespace K41
open Tr PG PySem L2 SX
@[simp] theorem shr_int (i j : Int) : shrR (.sh (.int i)) (.sh (.int j)) = if 0 ≤ j then .ok (.sh (.int (i / 2 ^ j.toNat))) else .bad := rfl
@[simp] theorem and_int (i j : Int) : andR (.sh (.int i)) (.sh (.int j)) = .ok (.sh (.int (PySem.Builtin.bitAnd i j))) := rfl
/-! ### rows drawn -/
structure RowsB (R : List (Int × Int)) (rest by' : Int) : Prop where
  n : R.length ≤ 5
  r : ∀ p ∈ R, 1 ≤ p.1 ∧ p.1 ≤ 9 * by' ∧ 0 ≤ p.2 ∧ p.2 ≤ 4
  b : 1 ≤ by' ∧ by' ≤ 90000
  e : 1 ≤ rest ∧ rest ≤ 16
theorem rows_ok (c : Int) : ∃ R rest by', F_q_rows [.int c] = .ok (.sh (.tup [.lst (R.map encP), .int rest, .int by'])) ∧ RowsB R rest by' := by
  rw [F_q_rows_eq]
  have m9 := mixed_eq c 9 (by omega)
  have b9 := mx_bd c 9
  obtain ⟨by', hby, eby⟩ : ∃ by' : Int, (1 ≤ by' ∧ by' ≤ 90000) ∧ (if c / 60 % 8 = 1 then 1 + mx c 9 % 90000 else 1) = by' := ⟨_, by split <;> omega, rfl⟩
  have hk5 : 0 ≤ c % 6 ∧ c % 6 < 6 := by omega
  have hr : rOk (c % 6) := by show _ ∧ _; omega
  have rn : rngT 0 (c % 6).toNat = (List.range (c % 6).toNat).map fun i : Nat => T.int (i : Int) := rng0 _
  have L : ∃ R, forL g_q_rows_1 b_q_rows_1 ((List.range (c % 6).toNat).map fun i : Nat => T.int (i : Int)) [.fz (.int c), .fz (.int by'), .ow (.lst (([] : List (Int × Int)).map encP)), .no, .no, .no] = .nx [.fz (.int c), .fz (.int by'), .ow (.lst ((R : List (Int × Int)).map encP)), .no, .no, .no] ∧ R.length = (c % 6).toNat ∧ ∀ p ∈ R, 1 ≤ p.1 ∧ p.1 ≤ 9 * by' ∧ 0 ≤ p.2 ∧ p.2 ≤ 4 := by
    refine forL_inv (g := g_q_rows_1) (b := b_q_rows_1) (fun i : Nat => T.int (i : Int)) (fun pre e => ∃ R, e = [.fz (.int c), .fz (.int by'), .ow (.lst ((R : List (Int × Int)).map encP)), .no, .no, .no] ∧ R.length = pre.length ∧ ∀ p ∈ R, 1 ≤ p.1 ∧ p.1 ≤ 9 * by' ∧ 0 ≤ p.2 ∧ p.2 ≤ 4)
      (fun o => ∃ R, o = .nx [.fz (.int c), .fz (.int by'), .ow (.lst ((R : List (Int × Int)).map encP)), .no, .no, .no] ∧ R.length = (c % 6).toNat ∧ ∀ p ∈ R, 1 ≤ p.1 ∧ p.1 ≤ 9 * by' ∧ 0 ≤ p.2 ∧ p.2 ≤ 4)
      (List.range (c % 6).toNat) [] _ (fun pre k post e hp hi => ?_) (fun e hi => ?_) ⟨[], rfl, rfl, fun p m => nomatch m⟩
    · obtain ⟨R, rfl, h1, h2⟩ := hi
      have hk : k < (c % 6).toNat := by
        have : k ∈ List.range (c % 6).toNat := by rw [← List.nil_append (List.range _), hp]; simp
        exact List.mem_range.mp this
      have hl : R.length < 16777216 := by
        have := congrArg List.length hp
        simp at this; omega
      have m6 : mulOk 6 (k : Int) := .inl (by omega)
      have mk := mixed_eq c (20 + (k : Int)) (by omega)
      have m1 : ∀ v : Int, mulOk by' (1 + v % 9) := fun v => .inl (by omega)
      have p0 : (0 : Int) ≤ 6 * (k : Int) := by omega
      obtain ⟨v, hv⟩ : ∃ v : Int, turn g_q_rows_1 b_q_rows_1 (.int (k : Int)) [.fz (.int c), .fz (.int by'), .ow (.lst (R.map encP)), .no, .no, .no] = .nx [.fz (.int c), .fz (.int by'), .ow (.lst ((R ++ [(by' * (1 + v % 9), v / 9 % 5)]).map encP)), .no, .no, .no] := by
        by_cases z : c / 3840 % 2 = 0
        · exact ⟨mx c (20 + (k : Int)), by simp -implicitDefEqProofs [g_q_rows_1, b_q_rows_1, m6, mk, z, m1, p0, encP, hl, sizeLine_eq]⟩
        · exact ⟨PySem.Builtin.bitAnd (c / 7680 / 2 ^ (6 * (k : Int)).toNat) 63, by simp -implicitDefEqProofs [g_q_rows_1, b_q_rows_1, m6, mk, z, m1, p0, encP, hl, sizeLine_eq]⟩
      rw [hv]
      refine ⟨_, rfl, by simp [h1], fun p m => ?_⟩
      rcases List.mem_append.mp m with m | m
      · exact h2 p m
      · obtain rfl : p = (by' * (1 + v % 9), v / 9 % 5) := by simpa using m
        have w : 1 ≤ 1 + v % 9 ∧ 1 + v % 9 ≤ 9 := by omega
        generalize 1 + v % 9 = w' at w
        simp only
        have a1 := Int.mul_le_mul_of_nonneg_left w.2 (show 0 ≤ by' by omega)
        have a2 := Int.mul_le_mul_of_nonneg_left w.1 (show 0 ≤ by' by omega)
        omega
    · obtain ⟨R, rfl, h1, h2⟩ := hi
      exact ⟨R, rfl, by simpa using h1, h2⟩
  obtain ⟨R, L, l1, l2⟩ := L
  obtain ⟨rest, hrest, erest⟩ : ∃ rest : Int, (1 ≤ rest ∧ rest ≤ 16) ∧ (if c / 480 % 8 = 1 then 16 else 1 + c / 6 % 3) = rest := ⟨_, by split <;> omega, rfl⟩
  refine ⟨R, rest, by', ?_, by omega, l2, hby, hrest⟩
  rw [List.map_nil] at L
  by_cases z1 : c / 60 % 8 = 1
  · rw [if_pos z1] at eby
    by_cases z2 : c / 480 % 8 = 1
    · rw [if_pos z2] at erest
      simp -implicitDefEqProofs [b_q_rows, z1, m9, eby, hr, rn, L, z2, ← erest, sizeLine_eq]
    · rw [if_neg z2] at erest
      simp -implicitDefEqProofs [b_q_rows, z1, m9, eby, hr, rn, L, z2, ← erest, sizeLine_eq]
  · rw [if_neg z1] at eby
    subst eby
    by_cases z2 : c / 480 % 8 = 1
    · rw [if_pos z2] at erest
      simp -implicitDefEqProofs [b_q_rows, z1, hr, rn, L, z2, ← erest, sizeLine_eq]
    · rw [if_neg z2] at erest
      simp -implicitDefEqProofs [b_q_rows, z1, hr, rn, L, z2, ← erest, sizeLine_eq]
theorem cell_at_ok (ns : List Int) (k : Nat) (hl : ns.length ≤ 63) : ∃ c : Int, F_q_cell_at [.scr ns, .int (k : Int)] = .ok (.sh (.int c)) := by
  rw [F_q_cell_at_eq]
  by_cases h : k < ns.length
  · have e : atI ns (k : Int) = some ns[k] := atI_ofNat h
    exact ⟨_, by simp [b_q_cell_at, h, e]; rfl⟩
  · exact ⟨0, by simp [b_q_cell_at, h]⟩
end K41
namespace K41
open Tr PG PySem L2 SX CellM CalM
theorem tidyC_len (l : List (Int × Int)) (r : Int) : (tidyC l r).length ≤ l.length := by
  have h := cfold_len l ([], none)
  unfold tidyC cfin
  simp only [CS.out, List.length_append, List.length_nil, Option.toList_none] at h
  split
  · omega
  · rename_i q e
    rw [e] at h
    simp only [Option.toList_some, List.length_cons, List.length_nil] at h
    split
    · omega
    · simp only [List.length_append, List.length_cons, List.length_nil]; omega
theorem atC_bd {r lo hi : Int} (hr : lo ≤ r ∧ r ≤ hi) (t : Int) : ∀ (s : List (Int × Int)) (b : Int), (∀ p ∈ s, lo ≤ p.2 ∧ p.2 ≤ hi) → lo ≤ atC b s r t ∧ atC b s r t ≤ hi
  | [], b, _ => hr
  | p :: s, b, h => by
    show lo ≤ (if t ≤ b + p.1 - 1 then p.2 else atC (b + p.1) s r t) ∧ (if t ≤ b + p.1 - 1 then p.2 else atC (b + p.1) s r t) ≤ hi
    have ih := atC_bd hr t s (b + p.1) fun q m => h q (List.mem_cons_of_mem _ m)
    have := h p List.mem_cons_self
    split
    · exact this
    · exact ih
theorem rows_cal {R : List (Int × Int)} {rest by' : Int} (h : RowsB R rest by') : F_Calendar_init [.obj 0 [], .lst (R.map encP), .int rest] = .ok (encCal (tidyC R rest) rest, .sh .non) := by
  have hn := h.n
  have hb := h.b
  refine init_eq R rest (by omega) (fun p m => ?_) h.e
  have := h.r p m
  omega
structure JG (j : Jb) : Prop where
  n : nameB j.1.cps.toList = true
  b : numsB (eJ j) = true
theorem chk_good : ∀ (l : List Jb) (kn : List Str) (rest : List Job5), (∀ j ∈ l, JG j) → (kn ++ l.map (·.1)).Nodup → chk kn (l.map eJ ++ rest) = chk (kn ++ l.map (·.1)) rest
  | [], kn, rest, _, _ => by simp
  | j :: l, kn, rest, h, nd => by
    have hj := h j List.mem_cons_self
    have nk : j.1 ∉ kn := fun m => by
      have := (List.nodup_append.mp nd).2.2 j.1 m j.1 (by simp)
      exact this rfl
    have nd' : ((kn ++ [j.1]) ++ l.map (·.1)).Nodup := by simpa using nd
    have ih := chk_good l (kn ++ [j.1]) rest (fun k m => h k (List.mem_cons_of_mem _ m)) nd'
    rw [List.map_cons, List.cons_append]
    show (if nameB j.1.cps.toList = true then (if j.1 ∈ kn then _ else if numsB (eJ j) = true then chk (kn ++ [j.1]) (l.map eJ ++ rest) else _) else _) = _
    rw [if_pos hj.n, if_neg nk, if_pos hj.b, ih]
    simp
theorem chk_none (l : List Jb) (h : ∀ j ∈ l, JG j) (nd : (l.map (·.1)).Nodup) (hl : l.length ≤ 12) : chkL (l.map eJ) = none := by
  unfold chkL
  rw [if_neg (by simp; omega)]
  have := chk_good l [] [] h (by simpa using nd)
  simp only [List.append_nil, List.nil_append] at this
  rw [this]; rfl
theorem jok (j : Jb) (h : j.1.length ≤ 10000) : JobOk (eJ j) := ⟨.inl ⟨_, rfl, h⟩, ⟨_, rfl⟩, ⟨_, rfl⟩, ⟨_, rfl⟩, ⟨_, rfl⟩⟩
theorem joks {l : List Jb} (h : ∀ j ∈ l, j.1.length ≤ 10000) : ∀ j ∈ l.map eJ, JobOk j := fun j m => by
  obtain ⟨k, mk, rfl⟩ := List.mem_map.mp m
  exact jok k (h k mk)
theorem name_len {s : Str} (h : nameB s.cps.toList = true) : s.length ≤ 10000 := by
  have e : s.length = s.cps.toList.length := by simp [Str.length]
  rw [e]
  cases hs : s.cps.toList with
  | nil => simp
  | cons a r =>
    rw [hs] at h
    unfold nameB at h
    simp only [Bool.and_eq_true, decide_eq_true_eq] at h
    simp only [List.length_cons] at *
    omega
theorem JG.nums {j : Jb} (h : JG j) : (0 ≤ j.2.1 ∧ j.2.1 ≤ 1000000000) ∧ (-1 ≤ j.2.2.1 ∧ j.2.2.1 ≤ 10000000000) ∧ (1 ≤ j.2.2.2.1 ∧ j.2.2.2.1 ≤ 60) ∧ 1 ≤ j.2.2.2.2 ∧ j.2.2.2.2 ≤ 16 := by
  have b := h.b
  simp only [numsB, eJ, bndT, Bool.and_eq_true, decide_eq_true_eq] at b
  omega
theorem atI_nat {A : Type} {l : List A} {i : Nat} {a : A} (e : l[i]? = some a) : atI l (i : Int) = some a := by
  have h := (List.getElem?_eq_some_iff.mp e).1
  rw [atI_in (by omega) (by omega)]
  simpa using e
end K41
namespace K41
open Tr PG PySem L2 SX CellM
/-! ### loads drawn -/
structure LoadB (l : List Jb) : Prop where
  g : ∀ j ∈ l, JG j
  nd : (l.map (·.1)).Nodup
  n : l.length ≤ 12
theorem ix3 (a b c i : Int) (hi : 0 ≤ i ∧ i < 3) {lo hi' : Int} (ha : lo ≤ a ∧ a ≤ hi') (hb : lo ≤ b ∧ b ≤ hi') (hc : lo ≤ c ∧ c ≤ hi') : ∃ q : Int, (lo ≤ q ∧ q ≤ hi') ∧ atI [T.int a, .int b, .int c] i = some (.int q) := by
  have : i = 0 ∨ i = 1 ∨ i = 2 := by omega
  rcases this with rfl | rfl | rfl
  · exact ⟨a, ha, rfl⟩
  · exact ⟨b, hb, rfl⟩
  · exact ⟨c, hc, rfl⟩
theorem ix4 (a b c d i : Int) (hi : 0 ≤ i ∧ i < 4) {lo hi' : Int} (ha : lo ≤ a ∧ a ≤ hi') (hb : lo ≤ b ∧ b ≤ hi') (hc : lo ≤ c ∧ c ≤ hi') (hd : lo ≤ d ∧ d ≤ hi') : ∃ q : Int, (lo ≤ q ∧ q ≤ hi') ∧ atI [T.int a, .int b, .int c, .int d] i = some (.int q) := by
  have : i = 0 ∨ i = 1 ∨ i = 2 ∨ i = 3 := by omega
  rcases this with rfl | rfl | rfl | rfl
  · exact ⟨a, ha, rfl⟩
  · exact ⟨b, hb, rfl⟩
  · exact ⟨c, hc, rfl⟩
  · exact ⟨d, hd, rfl⟩
theorem nums (by' v : Int) (hb : 1 ≤ by' ∧ by' ≤ 90000) : ∃ x y q3 q4 : Int, mulOk by' (v % 17) ∧ by' * (v % 17) = x ∧ mulOk by' (1 + v / 17 % 11) ∧ by' * (1 + v / 17 % 11) = y ∧
    atI [T.int 4, .int 12, .int 60] (v / 180000 % 3) = some (.int q3) ∧ atI [T.int 1, .int 1, .int 3, .int 16] (v / 8640000 % 4) = some (.int q4) ∧ 0 < q3 ∧ 0 < q4 ∧
    (0 ≤ x ∧ x ≤ 90000 * 16) ∧ (0 ≤ y ∧ y ≤ 90000 * 11) ∧ (1 ≤ 1 + v / 3000 % q3 ∧ 1 + v / 3000 % q3 ≤ 60) ∧ 1 ≤ 1 + v / 540000 % q4 ∧ 1 + v / 540000 % q4 ≤ 16 := by
  obtain ⟨q3, b3, a3⟩ := ix3 4 12 60 (v / 180000 % 3) (by omega) (lo := 1) (hi' := 60) (by omega) (by omega) (by omega)
  obtain ⟨q4, b4, a4⟩ := ix4 1 1 3 16 (v / 8640000 % 4) (by omega) (lo := 1) (hi' := 16) (by omega) (by omega) (by omega) (by omega)
  have n3 := Int.emod_nonneg (v / 3000) (show q3 ≠ 0 by omega)
  have l3 := Int.emod_lt_of_pos (v / 3000) (show 0 < q3 by omega)
  have n4 := Int.emod_nonneg (v / 540000) (show q4 ≠ 0 by omega)
  have l4 := Int.emod_lt_of_pos (v / 540000) (show 0 < q4 by omega)
  have ub : 0 ≤ v % 17 ∧ v % 17 ≤ 16 := by omega
  have wb : 1 ≤ 1 + v / 17 % 11 ∧ 1 + v / 17 % 11 ≤ 11 := by omega
  exact ⟨_, _, q3, q4, .inr (by omega), rfl, .inr (by omega), rfl, a3, a4, by omega, by omega, ⟨Int.mul_nonneg (by omega) ub.1, Int.mul_le_mul hb.2 ub.2 ub.1 (by omega)⟩, ⟨Int.mul_nonneg (by omega) (by omega), Int.mul_le_mul hb.2 wb.2 (by omega) (by omega)⟩, by omega, by omega, by omega⟩
theorem job_ok (ns : List Int) (hns : ns.length ≤ 63) (by' c far : Int) (hb : 1 ≤ by' ∧ by' ≤ 90000) (hf : 0 ≤ far ∧ far < 900000000) (nms : List T) (k : Nat) (hk : k < 13) (nm : List Nat) (hn : atI nms (k : Int) = some (.str (S nm))) (l : List Jb) (hl : l.length < 16777216) (s3 : Sl) :
    ∃ fi la wk br, turn g_q_load_1 b_q_load_1 (.int (k : Int)) [.fz (.scr ns), .fz (.int by'), .fz (.int c), s3, .fz (.int far), .fz (.lst nms), .ow (.lst (l.map encJ)), .no, .no, .no, .no, .no, .no] = .nx [.fz (.scr ns), .fz (.int by'), .fz (.int c), s3, .fz (.int far), .fz (.lst nms), .ow (.lst ((l ++ [(S nm, fi, la, wk, br)]).map encJ)), .no, .no, .no, .no, .no, .no] ∧ (0 ≤ fi ∧ fi ≤ 1000000000) ∧ (-1 ≤ la ∧ la ≤ 10000000000) ∧ (1 ≤ wk ∧ wk ≤ 60) ∧ 1 ≤ br ∧ br ≤ 16 := by
  obtain ⟨c4, h4⟩ := cell_at_ok ns (4 + k) hns
  have h4 : F_q_cell_at [.scr ns, .int (4 + (k : Int))] = .ok (.sh (.int c4)) := by
    have e : ((4 + k : Nat) : Int) = 4 + (k : Int) := by omega
    rw [e] at h4; exact h4
  have mk := mixed_eq c4 (k : Int) (by omega)
  obtain ⟨v, hv⟩ : ∃ v, (if c / 1024 % 2 = 0 then mx c4 k else c4) = v := ⟨_, rfl⟩
  obtain ⟨x, y, q3, q4, m1, hx, m2, hy, a3, a4, p3, p4, xb, yb, wkb, brb⟩ := nums by' v hb
  by_cases z2 : v / 187 % 16 = 1
  · refine ⟨far + x, far + x - 1, 1 + v / 3000 % q3, 1 + v / 540000 % q4, ?_, by omega, by omega, wkb, brb⟩
    by_cases z : c / 1024 % 2 = 0
    · rw [if_pos z] at hv
      simp -implicitDefEqProofs [g_q_load_1, b_q_load_1, h4, mk, z, hv, m1, m2, hx, hy, z2, a3, a4, p3, p4, hn, encJ, hl, sizeLine_eq]
    · rw [if_neg z] at hv
      subst hv
      simp -implicitDefEqProofs [g_q_load_1, b_q_load_1, h4, mk, z, m1, m2, hx, hy, z2, a3, a4, p3, p4, hn, encJ, hl, sizeLine_eq]
  · refine ⟨far + x, far + x + y - 1, 1 + v / 3000 % q3, 1 + v / 540000 % q4, ?_, by omega, by omega, wkb, brb⟩
    by_cases z : c / 1024 % 2 = 0
    · rw [if_pos z] at hv
      simp -implicitDefEqProofs [g_q_load_1, b_q_load_1, h4, mk, z, hv, m1, m2, hx, hy, z2, a3, a4, p3, p4, hn, encJ, hl, sizeLine_eq]
    · rw [if_neg z] at hv
      subst hv
      simp -implicitDefEqProofs [g_q_load_1, b_q_load_1, h4, mk, z, m1, m2, hx, hy, z2, a3, a4, p3, p4, hn, encJ, hl, sizeLine_eq]
theorem load_ok (ns : List Int) (hns : ns.length ≤ 63) (by' : Int) (hb : 1 ≤ by' ∧ by' ≤ 90000) : ∃ l : List Jb, F_q_load [.scr ns, .int by'] = .ok (.fr (.lst (l.map encJ))) ∧ LoadB l := by
  rw [F_q_load_eq]
  obtain ⟨c, h1⟩ := cell_at_ok ns 1 hns
  obtain ⟨c2, h2⟩ := cell_at_ok ns 2 hns
  have h1 : F_q_cell_at [.scr ns, .int 1] = .ok (.sh (.int c)) := h1
  have h2 : F_q_cell_at [.scr ns, .int 2] = .ok (.sh (.int c2)) := h2
  have m10 := mixed_eq c 10 (by omega)
  have m9 : mulOk 9 100000000 := by decide
  obtain ⟨far, hfar, bfar⟩ : ∃ far, (if c / 128 % 8 = 1 then mx c 10 % 900000000 else 0) = far ∧ 0 ≤ far ∧ far < 900000000 := ⟨_, rfl, by split <;> omega, by split <;> omega⟩
  obtain ⟨many, hmany, bmany⟩ : ∃ many : Nat, (if c / 8 % 16 = 1 then 12 else c % 8) = (many : Int) ∧ many ≤ 12 := by
    refine ⟨(if c / 8 % 16 = 1 then 12 else c % 8).toNat, ?_, ?_⟩ <;> split <;> omega
  have nE := names_eq c2 many (by omega)
  have rn : rngT 0 many = (List.range many).map fun i : Nat => T.int (i : Int) := rng0 _
  have rk : rOk (many : Int) := by show _ ∧ _; omega
  have L : ∃ l : List Jb, forL g_q_load_1 b_q_load_1 ((List.range many).map fun i : Nat => T.int (i : Int)) [.fz (.scr ns), .fz (.int by'), .fz (.int c), .fz (.int (many : Int)), .fz (.int far), .fz (.lst ((nmL c2 many).map fun a => T.str (S a))), .ow (.lst (([] : List Jb).map encJ)), .no, .no, .no, .no, .no, .no] = .nx [.fz (.scr ns), .fz (.int by'), .fz (.int c), .fz (.int (many : Int)), .fz (.int far), .fz (.lst ((nmL c2 many).map fun a => T.str (S a))), .ow (.lst (l.map encJ)), .no, .no, .no, .no, .no, .no] ∧ l.map (·.1) = (nmL c2 many).map S ∧ ∀ j ∈ l, JG j := by
    refine forL_inv (g := g_q_load_1) (b := b_q_load_1) (fun i : Nat => T.int (i : Int)) (fun pre e => ∃ l : List Jb, e = [.fz (.scr ns), .fz (.int by'), .fz (.int c), .fz (.int (many : Int)), .fz (.int far), .fz (.lst ((nmL c2 many).map fun a => T.str (S a))), .ow (.lst (l.map encJ)), .no, .no, .no, .no, .no, .no] ∧ l.map (·.1) = ((nmL c2 many).take pre.length).map S ∧ ∀ j ∈ l, JG j)
      (fun o => ∃ l : List Jb, o = .nx [.fz (.scr ns), .fz (.int by'), .fz (.int c), .fz (.int (many : Int)), .fz (.int far), .fz (.lst ((nmL c2 many).map fun a => T.str (S a))), .ow (.lst (l.map encJ)), .no, .no, .no, .no, .no, .no] ∧ l.map (·.1) = (nmL c2 many).map S ∧ ∀ j ∈ l, JG j)
      (List.range many) [] _ (fun pre k post e hp hi => ?_) (fun e hi => ?_) ⟨[], rfl, rfl, fun j m => nomatch m⟩
    · obtain ⟨l, rfl, i1, i2⟩ := hi
      have hp' : List.range many = pre ++ k :: post := by simpa using hp
      have hk : k = pre.length := by
        have e1 : (List.range many)[pre.length]? = some k := by rw [hp']; simp
        have hlt : pre.length < many := by
          have := congrArg List.length hp'
          simp at this; omega
        rw [List.getElem?_range hlt] at e1
        exact (Option.some.inj e1).symm
      have hkm : k < many := by
        have := congrArg List.length hp'
        simp at this; omega
      have nl := nmL_len c2 many
      have hl : l.length = k := by
        have := congrArg List.length i1
        simp [nl] at this; omega
      obtain ⟨nm, hnm⟩ : ∃ nm, (nmL c2 many)[k]? = some nm := ⟨_, List.getElem?_eq_getElem (by omega)⟩
      have hn : atI ((nmL c2 many).map fun a => T.str (S a)) (k : Int) = some (.str (S nm)) := atI_nat (by rw [List.getElem?_map, hnm]; rfl)
      obtain ⟨fi, la, wk, br, e, r1, r2, r3, r4⟩ := job_ok ns hns by' c far hb bfar _ k (by omega) nm hn l (by omega) (.fz (.int (many : Int)))
      rw [e]
      refine ⟨_, rfl, ?_, fun j m => ?_⟩
      · rw [List.map_append, i1, List.length_append, ← hk, List.length_singleton, List.take_add_one, hnm]
        simp
      · rcases List.mem_append.mp m with m | m
        · exact i2 j m
        · obtain rfl : j = (S nm, fi, la, wk, br) := by simpa using m
          refine ⟨nm_name c2 many nm (List.mem_of_getElem? hnm), ?_⟩
          simp only [numsB, eJ, bndT, Bool.and_eq_true, decide_eq_true_eq]
          omega
    · obtain ⟨l, rfl, i1, i2⟩ := hi
      refine ⟨l, rfl, ?_, i2⟩
      rw [i1]
      congr 1
      apply List.take_of_length_le
      rw [nmL_len]; simp
  obtain ⟨l, L, l1, l2⟩ := L
  rw [List.map_nil] at L
  refine ⟨l, ?_, l2, ?_, ?_⟩
  · by_cases z1 : c / 8 % 16 = 1
    · rw [if_pos z1] at hmany
      by_cases z2 : c / 128 % 8 = 1
      · rw [if_pos z2] at hfar
        simp -implicitDefEqProofs [b_q_load, m9, h1, h2, z1, z2, m10, hfar, hmany, nE, rk, rn, L, sizeLine_eq]
      · rw [if_neg z2] at hfar
        subst hfar
        simp -implicitDefEqProofs [b_q_load, m9, h1, h2, z1, z2, hmany, nE, rk, rn, L, sizeLine_eq]
    · rw [if_neg z1] at hmany
      by_cases z2 : c / 128 % 8 = 1
      · rw [if_pos z2] at hfar
        simp -implicitDefEqProofs [b_q_load, m9, h1, h2, z1, z2, m10, hfar, hmany, nE, rk, rn, L, sizeLine_eq]
      · rw [if_neg z2] at hfar
        subst hfar
        simp -implicitDefEqProofs [b_q_load, m9, h1, h2, z1, z2, hmany, nE, rk, rn, L, sizeLine_eq]
  · rw [l1]
    refine List.pairwise_map.mpr (List.Pairwise.imp (fun {a b} ne e => ne ?_) (nm_nd c2 many (by omega)))
    have := congrArg (fun s : Str => s.cps.toList) e
    exact this
  · have := congrArg List.length l1
    simp [nmL_len] at this
    omega
end K41
namespace K41
open Tr PG PySem L2 SX CellM CalM
/-! ### machines over turns -/
def ovQ : Int → List (Int × Int) → Int → Int → Int → Int
  | b, [], r, f, l => r * max 0 (l - max f b + 1)
  | b, p :: s, r, f, l => p.2 * max 0 (min l (b + p.1 - 1) - max f b + 1) + ovQ (b + p.1) s r f l
theorem ovQ_S {r f : Int} {n : Nat} : ∀ (s : List (Int × Int)) (b : Int), CalM.Pos s → ovQ b s r f (f + n - 1) = CalM.S (fun t => if b ≤ t then atC b s r t else 0) f n
  | [], b, _ => by
    show r * max 0 (f + n - 1 - max f b + 1) = _
    by_cases c : b ≤ f + n
    · have := CalM.S_piece b (f + n - 1) r f (by omega) n
      have e : CalM.S (fun t => if b ≤ t then atC b [] r t else 0) f n = CalM.S (fun t => if b ≤ t ∧ t ≤ f + n - 1 then r else 0) f n := CalM.S_congr fun t h1 h2 => by
        by_cases z : b ≤ t
        · rw [if_pos z, if_pos ⟨z, by omega⟩]; rfl
        · rw [if_neg z, if_neg fun q => z q.1]
      rw [e, this]
      congr 2
      omega
    · have e : CalM.S (fun t => if b ≤ t then atC b [] r t else 0) f n = CalM.S (fun t => if b ≤ t ∧ t ≤ b then r else 0) f n := CalM.S_congr fun t h1 h2 => by
        rw [if_neg (by omega), if_neg (by omega)]
      rw [e, CalM.S_piece b b r f (by omega) n]
      congr 1
      omega
  | p :: s, b, h => by
    have hp := h.cons
    have ih := ovQ_S (r := r) (f := f) (n := n) s (b + p.1) hp.2
    show p.2 * max 0 (min (f + n - 1) (b + p.1 - 1) - max f b + 1) + ovQ (b + p.1) s r f (f + n - 1) = _
    have e1 : min (f + (n : Int) - 1) (b + p.1 - 1) - max f b = min (b + p.1 - 1) (f + n - 1) - max b f := by omega
    rw [ih, e1, ← CalM.S_piece b (b + p.1 - 1) p.2 f (by omega) n, ← CalM.S_add]
    refine CalM.S_congr fun t h1 h2 => ?_
    by_cases z1 : b ≤ t
    · by_cases z2 : t ≤ b + p.1 - 1
      · rw [if_pos ⟨z1, z2⟩, if_neg (by omega), if_pos z1, CalM.at_cons_lt (by omega)]; omega
      · rw [if_neg (fun q => z2 q.2), if_pos (by omega), if_pos z1, CalM.at_cons_ge (by omega)]; omega
    · rw [if_neg (fun q => z1 q.1), if_neg (by omega), if_neg z1]; rfl
theorem q_over_eq {R : List (Int × Int)} {rest by' : Int} (h : RowsB R rest by') (f l : Int) : F_q_over [.lst (R.map encP), .int rest, .int f, .int l] = .ok (.sh (.int (ovQ 0 R rest f l))) := by
  rw [F_q_over_eq]
  have L : ∀ (s : List (Int × Int)) (a b : Int) (s0 : Sl), (∀ p ∈ s, 0 ≤ p.2 ∧ p.2 ≤ 4) → ∃ b' v, forL g_q_over_1 b_q_over_1 (s.map encP) [s0, .fz (.int rest), .fz (.int f), .fz (.int l), .fz (.int a), .fz (.int b), .no, .no] = .nx [s0, .fz (.int rest), .fz (.int f), .fz (.int l), .fz (.int v), .fz (.int b'), .no, .no] ∧ v + rest * max 0 (l - max f b' + 1) = a + ovQ b s rest f l := by
    intro s
    induction s with
    | nil => intro a b s0 _; exact ⟨b, a, rfl, rfl⟩
    | cons p s ih =>
      intro a b s0 hs
      have hp := hs p List.mem_cons_self
      have m1 : mulOk p.2 (max 0 (min l (b + p.1 - 1) - max f b + 1)) := .inl (by omega)
      have tn : turn g_q_over_1 b_q_over_1 (encP p) [s0, .fz (.int rest), .fz (.int f), .fz (.int l), .fz (.int a), .fz (.int b), .no, .no] = .nx [s0, .fz (.int rest), .fz (.int f), .fz (.int l), .fz (.int (a + p.2 * max 0 (min l (b + p.1 - 1) - max f b + 1))), .fz (.int (b + p.1)), .no, .no] := by
        simp -implicitDefEqProofs [g_q_over_1, b_q_over_1, encP, m1]
      rw [List.map_cons, forL_cons, tn, loop_nx]
      obtain ⟨b', v, e, q⟩ := ih (a + p.2 * max 0 (min l (b + p.1 - 1) - max f b + 1)) (b + p.1) s0 fun q m => hs q (List.mem_cons_of_mem _ m)
      refine ⟨b', v, e, ?_⟩
      rw [q]
      show _ = a + (p.2 * max 0 (min l (b + p.1 - 1) - max f b + 1) + ovQ (b + p.1) s rest f l)
      omega
  obtain ⟨b', v, e, q⟩ := L R 0 0 (.fz (.lst (R.map encP))) fun p m => by have := h.r p m; omega
  have m2 : mulOk rest (max 0 (l - max f b' + 1)) := .inl (by have := h.e; omega)
  have q : v + rest * max 0 (l - max f b' + 1) = ovQ 0 R rest f l := by rw [q]; omega
  simp -implicitDefEqProofs [b_q_over, e, m2, q]
end K41
namespace K41
open Tr PG PySem L2 SX CellM CalM
/-! the program's overflow -/
abbrev Sps := List (Int × Int)
def insS (sp : Sps) (f l : Int) : Int := (sp.map fun p => max 0 (min p.2 l - max p.1 f + 1)).sum
theorem turn_count_in_eq (sp : Sps) (f l : Int) (h : sp.length ≤ 10000) : F_turn_count_in [.lst (sp.map encP), .int f, .int l] = .ok (.sh (.int (insS sp f l))) := by
  rw [F_turn_count_in_eq]
  have c := compL_map (g := g_turn_count_in_1) (tt := c_turn_count_in_1) (te := e_turn_count_in_1) (env := [.fz (.lst (sp.map encP)), .fz (.int f), .fz (.int l), .no, .no]) encP (fun p => T.int (max 0 (min p.2 l - max p.1 f + 1))) sp (by rw [sizeLine_eq]; omega)
    (fun p _ => by simp [g_turn_count_in_1, c_turn_count_in_1, e_turn_count_in_1, encP])
  have e : (sp.map fun p => T.int (max 0 (min p.2 l - max p.1 f + 1))) = (sp.map fun p => max 0 (min p.2 l - max p.1 f + 1)).map T.int := by simp
  rw [e] at c
  simp [-List.map_map, b_turn_count_in, c, insS]
/-- the job's excess -/
def exc (j : Jb) (sp : Sps) : Int := max 0 (j.2.2.2.1 - j.2.2.2.2 * (max 0 (j.2.2.1 - j.2.1 + 1) - insS sp j.2.1 j.2.2.1))
theorem excess_eq (j : Jb) (sp : Sps) (h : sp.length ≤ 10000) (hb : 1 ≤ j.2.2.2.2 ∧ j.2.2.2.2 ≤ 16) : F_excess [encJ j, .lst (sp.map encP)] = .ok (.sh (.int (exc j sp))) := by
  rw [F_excess_eq]
  have t : F_turns_of [encJ j] = .ok (.sh (.int (max 0 (j.2.2.1 - j.2.1 + 1)))) := by
    rw [F_turns_of_eq]
    simp [b_turns_of, encJ]
  have w : F_within [encJ j, .lst (sp.map encP)] = .ok (.sh (.int (insS sp j.2.1 j.2.2.1))) := by
    rw [F_within_eq]
    have c := turn_count_in_eq sp j.2.1 j.2.2.1 h
    generalize sp.map encP = S at *
    simp [b_within, encJ, c]
  have o : F_outside [encJ j, .lst (sp.map encP)] = .ok (.sh (.int (max 0 (j.2.2.1 - j.2.1 + 1) - insS sp j.2.1 j.2.2.1))) := by
    rw [F_outside_eq]
    generalize sp.map encP = S at *
    generalize encJ j = J at *
    simp [b_outside, t, w]
  have m : mulOk j.2.2.2.2 (max 0 (j.2.2.1 - j.2.1 + 1) - insS sp j.2.1 j.2.2.1) := .inl (by omega)
  have i3 : ixT (encJ j) (.int 3) = .ok (.sh (.int j.2.2.2.1)) := by simp [encJ]
  have i4 : ixT (encJ j) (.int 4) = .ok (.sh (.int j.2.2.2.2)) := by simp [encJ]
  generalize sp.map encP = S at *
  generalize encJ j = J at *
  simp [b_excess, i3, i4, o, m, exc]
def excs (L : List Jb) (sp : Sps) : Int := (L.map fun j => exc j sp).sum
def ovf (L : List Jb) (R : List (Int × Int)) (r : Int) (sp : Sps) : Int := excs L sp - (sp.map fun p => overC R r p.1 p.2).sum
structure Good (L : List Jb) : Prop where
  g : ∀ j ∈ L, JG j
  nd : (L.map (·.1)).Nodup
  n : L.length ≤ 12
theorem Good.check {L : List Jb} (h : Good L) : F_check_load [.lst (L.map encJ)] = .ok (.sh (.bl true)) := by
  have c := check_load_T (L.map eJ) (joks fun j m => name_len (h.g j m).n) (by have := h.n; simp; omega)
  rw [chk_none L h.g h.nd h.n, map_eJ] at c
  exact c
theorem overflow_eq {L : List Jb} (h : Good L) (s : List (Int × Int)) (r : Int) (sp : Sps) (hs : s.length ≤ 100) (hp : sp.length ≤ 100) (hm : ∀ p ∈ s, 0 ≤ p.2 ∧ p.2 ≤ 16) (hr : 0 ≤ r ∧ r ≤ 16) :
    F_overflow [.lst (L.map encJ), encCal s r, .lst (sp.map encP)] = .ok (.sh (.int (ovf L s r sp))) := by
  rw [F_overflow_eq]
  have k := h.check
  have o := over_spans_eq (s := s) (r := r) sp (by omega) (by omega) (fun p m => by have := hm p m; omega) (by omega)
  have c := fun s0 s1 => compL_map (g := g_overflow_1) (tt := c_overflow_1) (te := e_overflow_1) (env := [s0, s1, .fz (.lst (sp.map encP)), .no]) encJ (fun j => T.int (exc j sp)) L (by have := h.n; rw [sizeLine_eq]; omega) (fun j m => by
    have e := excess_eq j sp (by omega) (h.g j m).nums.2.2.2
    generalize sp.map encP = S at *
    generalize encJ j = J at *
    simp [g_overflow_1, c_overflow_1, e_overflow_1, e])
  have e : (L.map fun j => T.int (exc j sp)) = (L.map fun j => exc j sp).map T.int := by simp
  rw [e] at c
  have cl := clT_cal s r "over_spans"
  generalize sp.map encP = S at *
  generalize L.map encJ = LJ at *
  simp [-List.map_map, b_overflow, k, c, o, cl, ovf, excs, -clT_obj]
/-! the law's overflow -/
theorem insS_swap (sp : Sps) (f l : Int) : (sp.map fun p => max 0 (min l p.2 - max f p.1 + 1)).sum = insS sp f l := by
  unfold insS
  congr 1
  refine List.map_congr_left fun p _ => ?_
  omega
theorem q_excess_eq (j : Jb) (sp : Sps) (h : sp.length ≤ 10000) (hb : 1 ≤ j.2.2.2.2 ∧ j.2.2.2.2 ≤ 16) : F_q_excess [encJ j, .lst (sp.map encP)] = .ok (.sh (.int (exc j sp))) := by
  rw [F_q_excess_eq]
  have w : F_q_inside [encJ j, .lst (sp.map encP)] = .ok (.sh (.int (insS sp j.2.1 j.2.2.1))) := by
    rw [F_q_inside_eq]
    have c := fun s1 => compL_map (g := g_q_inside_1) (tt := c_q_inside_1) (te := e_q_inside_1) (env := [.fz (encJ j), s1, .no, .no]) encP (fun p => T.int (max 0 (min j.2.2.1 p.2 - max j.2.1 p.1 + 1))) sp (by rw [sizeLine_eq]; omega)
      (fun p _ => by simp [g_q_inside_1, c_q_inside_1, e_q_inside_1, encP, encJ])
    have e : (sp.map fun p => T.int (max 0 (min j.2.2.1 p.2 - max j.2.1 p.1 + 1))) = (sp.map fun p => max 0 (min j.2.2.1 p.2 - max j.2.1 p.1 + 1)).map T.int := by simp
    rw [e] at c
    have sw := insS_swap sp j.2.1 j.2.2.1
    generalize sp.map encP = S at *
    generalize encJ j = J at *
    simp [-List.map_map, b_q_inside, c, sw]
  have m : mulOk j.2.2.2.2 (max 0 (j.2.2.1 - j.2.1 + 1) - insS sp j.2.1 j.2.2.1) := .inl (by omega)
  have i1 : ixT (encJ j) (.int 1) = .ok (.sh (.int j.2.1)) := by simp [encJ]
  have i2 : ixT (encJ j) (.int 2) = .ok (.sh (.int j.2.2.1)) := by simp [encJ]
  have i3 : ixT (encJ j) (.int 3) = .ok (.sh (.int j.2.2.2.1)) := by simp [encJ]
  have i4 : ixT (encJ j) (.int 4) = .ok (.sh (.int j.2.2.2.2)) := by simp [encJ]
  generalize sp.map encP = S at *
  generalize encJ j = J at *
  simp [b_q_excess, i1, i2, i3, i4, w, m, exc]
def SpG (sp : Sps) : Prop := ∀ p ∈ sp, 0 ≤ p.1 ∧ p.1 ≤ p.2
theorem over_same {R : List (Int × Int)} {rest : Int} (h : Pos R) (f l : Int) (h0 : 0 ≤ f) (h1 : f ≤ l) : overC (tidyC R rest) rest f l = ovQ 0 R rest f l := by
  obtain ⟨n, a, _⟩ := tidy_ok (r := rest) R h
  have e : l = f + ((l - f + 1).toNat : Nat) - 1 := by omega
  have z1 := overC_S (s := tidyC R rest) (r := rest) (f := f) (n := (l - f + 1).toNat) n.pos h0
  have z2 := ovQ_S (r := rest) (f := f) (n := (l - f + 1).toNat) R 0 h
  rw [← e] at z1 z2
  rw [z1, z2]
  refine S_congr fun t h2 _ => ?_
  rw [if_pos (by omega), a 0 t]
theorem q_overflow_eq {L : List Jb} (h : Good L) {R : List (Int × Int)} {rest by' : Int} (hR : RowsB R rest by') (sp : Sps) (hp : sp.length ≤ 100) (hg : SpG sp) :
    F_q_overflow [.lst (L.map encJ), .lst (R.map encP), .int rest, .lst (sp.map encP)] = .ok (.sh (.int (ovf L (tidyC R rest) rest sp))) := by
  rw [F_q_overflow_eq]
  have c := fun s0 s1 s2 => compL_map (g := g_q_overflow_1) (tt := c_q_overflow_1) (te := e_q_overflow_1) (env := [s0, s1, s2, .fz (.lst (sp.map encP)), .no, .no, .no, .no]) encJ (fun j => T.int (exc j sp)) L (by have := h.n; rw [sizeLine_eq]; omega) (fun j m => by
    have e := q_excess_eq j sp (by omega) (h.g j m).nums.2.2.2
    generalize sp.map encP = S at *
    generalize encJ j = J at *
    simp [g_q_overflow_1, c_q_overflow_1, e_q_overflow_1, e])
  have e : (L.map fun j => T.int (exc j sp)) = (L.map fun j => exc j sp).map T.int := by simp
  rw [e] at c
  have pos : Pos R := fun p m => (hR.r p m).1
  have Lp := fun s0 (v : Int) => forL_fold0 (g := g_q_overflow_2) (b := b_q_overflow_2) encP (fun t : Int => [s0, .fz (.lst (R.map encP)), .fz (.int rest), .fz (.lst (sp.map encP)), .fz (.int t), .no, .no, .no]) (fun t p => t - overC (tidyC R rest) rest p.1 p.2) sp (fun p t m => by
    have q := q_over_eq hR p.1 p.2
    rw [← over_same pos p.1 p.2 (hg p m).1 (hg p m).2] at q
    generalize R.map encP = RR at *
    generalize sp.map encP = S at *
    simp [g_q_overflow_2, b_q_overflow_2, encP, q]) v
  have fo : ∀ (l : Sps) (v : Int), l.foldl (fun t p => t - overC (tidyC R rest) rest p.1 p.2) v = v - (l.map fun p => overC (tidyC R rest) rest p.1 p.2).sum := by
    intro l
    induction l with
    | nil => intro v; simp
    | cons a l ih => intro v; rw [List.foldl_cons, ih]; simp; omega
  simp only [fo] at Lp
  generalize sp.map encP = S at *
  generalize R.map encP = RR at *
  generalize L.map encJ = LJ at *
  simp [-List.map_map, b_q_overflow, c, Lp, ovf, excs]
theorem excs_nn (L : List Jb) (sp : Sps) : 0 ≤ excs L sp := by
  unfold excs
  induction L with
  | nil => simp
  | cons j L ih =>
    rw [List.map_cons, List.sum_cons]
    have : 0 ≤ exc j sp := by unfold exc; omega
    omega
end K41
namespace K41
open Tr PG PySem L2 SX CellM CalM
/-! spans drawn -/
theorem spans_ok (c start by' : Int) (h0 : 0 ≤ start) (hb : 1 ≤ by' ∧ by' ≤ 90000) : ∃ sp : Sps, SpG sp ∧ sp.length ≤ 6 ∧ F_q_spans [.int c, .int start, .int by'] = .ok (.fr (.lst (sp.map encP))) := by
  rw [F_q_spans_eq]
  have rk : rOk (c % 7) := ⟨by omega, by omega⟩
  have outer : ∃ (sp : Sps) (a : Int), (SpG sp ∧ sp.length ≤ 6) ∧ forL g_q_spans_1 b_q_spans_1 ((List.range (c % 7).toNat).map fun i : Nat => T.int (i : Int)) [.fz (.int c), .no, .fz (.int by'), .ow (.lst []), .fz (.int start), .no, .no, .no, .no] = .nx [.fz (.int c), .no, .fz (.int by'), .ow (.lst (sp.map encP)), .fz (.int a), .no, .no, .no, .no] := by
    refine forL_inv (g := g_q_spans_1) (b := b_q_spans_1) (fun i : Nat => T.int (i : Int)) (fun pre e => ∃ (sp : Sps) (a : Int), (SpG sp ∧ sp.length = pre.length) ∧ 0 ≤ a ∧ e = [.fz (.int c), .no, .fz (.int by'), .ow (.lst (sp.map encP)), .fz (.int a), .no, .no, .no, .no])
      (fun o => ∃ (sp : Sps) (a : Int), (SpG sp ∧ sp.length ≤ 6) ∧ o = .nx [.fz (.int c), .no, .fz (.int by'), .ow (.lst (sp.map encP)), .fz (.int a), .no, .no, .no, .no]) (List.range (c % 7).toNat) [] _ ?_ ?_ ⟨[], start, ⟨fun p m => (nomatch m), rfl⟩, h0, rfl⟩
    · rintro pre i post e hp ⟨sp, a, ⟨h1, h2⟩, ha, rfl⟩
      have hpl : pre.length < 6 := by
        have := congrArg List.length hp
        simp at this; omega
      have hi : i < 6 := by
        have : i ∈ List.range (c % 7).toNat := by rw [← List.nil_append (List.range _), hp]; simp
        have := List.mem_range.mp this
        omega
      have hz : sp.length < 16777216 := by omega
      have mk := mixed_eq c (30 + (i : Int)) (by omega)
      have mb := mx_bd c (30 + (i : Int))
      generalize mx c (30 + (i : Int)) = v at mk mb
      obtain ⟨x, hx⟩ : ∃ x, by' * (v % 5) = x := ⟨_, rfl⟩
      obtain ⟨y, hy⟩ : ∃ y, by' * (1 + v / 5 % 9) = y := ⟨_, rfl⟩
      have x0 : 0 ≤ x := by rw [← hx]; exact Int.mul_nonneg (by omega) (by omega)
      have y1 : 1 ≤ y := by
        rw [← hy]
        have : 1 * 1 ≤ by' * (1 + v / 5 % 9) := Int.mul_le_mul hb.1 (by omega) (by omega) (by omega)
        omega
      have m1 : mulOk by' (v % 5) := .inl (by omega)
      have m2 : mulOk by' (1 + v / 5 % 9) := .inl (by omega)
      have pd := (show (sp.map encP).all (T.pd 7) = true by simp [List.all_eq_true])
      have fin : ∀ d : Int, 0 ≤ d → turn g_q_spans_1 b_q_spans_1 (.int (i : Int)) [.fz (.int c), .no, .fz (.int by'), .ow (.lst (sp.map encP)), .fz (.int a), .no, .no, .no, .no] = .nx [.fz (.int c), .no, .fz (.int by'), .ow (.lst ((sp ++ [(a + x + d, a + x + d + y - 1)]).map encP)), .fz (.int (a + x + d + y - 1 + 1)), .no, .no, .no, .no] →
          TurnTo (turn g_q_spans_1 b_q_spans_1 (.int (i : Int)) [.fz (.int c), .no, .fz (.int by'), .ow (.lst (sp.map encP)), .fz (.int a), .no, .no, .no, .no]) (fun e => ∃ (sp : Sps) (a : Int), (SpG sp ∧ sp.length = (pre ++ [i]).length) ∧ 0 ≤ a ∧ e = [.fz (.int c), .no, .fz (.int by'), .ow (.lst (sp.map encP)), .fz (.int a), .no, .no, .no, .no])
            (fun o => ∃ (sp : Sps) (a : Int), (SpG sp ∧ sp.length ≤ 6) ∧ o = .nx [.fz (.int c), .no, .fz (.int by'), .ow (.lst (sp.map encP)), .fz (.int a), .no, .no, .no, .no]) := by
        intro d d0 e
        rw [e]
        refine ⟨_, _, ⟨fun p m => ?_, by simp [h2]⟩, by omega, rfl⟩
        rcases List.mem_append.mp m with m | m
        · exact h1 p m
        · rw [List.mem_singleton.mp m]
          simp only
          omega
      cases sp with
      | nil =>
        refine fin 0 (by omega) ?_
        simp -implicitDefEqProofs [g_q_spans_1, b_q_spans_1, mk, m1, m2, hx, hy, sizeLine_eq, encP]
      | cons q sp =>
        refine fin 1 (by omega) ?_
        have ne : teqs ((q :: sp).map encP) [] = false := rfl
        have ln : ((q :: sp).map encP).length < 16777216 := by simp at hz ⊢; omega
        rw [List.map_append]
        generalize (q :: sp).map encP = Q at *
        simp -implicitDefEqProofs [g_q_spans_1, b_q_spans_1, mk, m1, m2, hx, hy, sizeLine_eq, encP, ne, pd, ln]
    · rintro e ⟨sp, a, ⟨h1, h2⟩, _, rfl⟩
      exact ⟨sp, a, ⟨h1, by simp at h2; omega⟩, rfl⟩
  obtain ⟨sp, a, ⟨h1, h2⟩, L⟩ := outer
  refine ⟨sp, h1, h2, ?_⟩
  simp -implicitDefEqProofs [b_q_spans, sizeLine_eq, rk, rng0, L]
end K41
namespace K41
open Tr PG PySem L2 SX CellM CalM
/-! the law is true -/
def Bnd2 (s : CS) : Prop := ∀ p ∈ s.out, 0 ≤ p.2 ∧ p.2 ≤ 16
theorem cfold_bnd : ∀ (l : List (Int × Int)) (s : CS), Bnd2 s → (∀ p ∈ l, 0 ≤ p.2 ∧ p.2 ≤ 16) → Bnd2 (l.foldl cstep s)
  | [], s, h, _ => h
  | p :: l, s, h, hl => by
    refine cfold_bnd l (cstep s p) ?_ fun q m => hl q (List.mem_cons_of_mem _ m)
    have hp := hl p List.mem_cons_self
    obtain ⟨d, c⟩ := s
    cases c with
    | none =>
      intro q m
      simp [cstep, CS.out] at m
      rcases m with m | rfl
      · exact h q (by simp [CS.out, m])
      · exact hp
    | some c =>
      intro q m
      unfold cstep at m
      simp only at m
      split at m
      · simp [CS.out] at m
        rcases m with m | rfl
        · exact h q (by simp [CS.out, m])
        · exact hp
      · simp [CS.out] at m
        rcases m with m | rfl | rfl
        · exact h q (by simp [CS.out, m])
        · exact h q (by simp [CS.out])
        · exact hp
theorem tidy_bnd (l : List (Int × Int)) (r : Int) (h : ∀ p ∈ l, 0 ≤ p.2 ∧ p.2 ≤ 16) : ∀ p ∈ tidyC l r, 0 ≤ p.2 ∧ p.2 ≤ 16 := by
  have b := cfold_bnd l ([], none) (fun p m => by simp [CS.out] at m) h
  unfold tidyC cfin
  split
  · rename_i e
    intro p m
    exact b p (by simp [CS.out, m])
  · rename_i q e
    intro p m
    split at m
    · exact b p (by simp [CS.out, m])
    · rcases List.mem_append.mp m with m | m
      · exact b p (by simp [CS.out, m])
      · exact b p (by simp [CS.out, e, List.mem_singleton.mp m])
theorem fmin_nn : ∀ (l : List Int) (a : Int), 0 ≤ a → (∀ x ∈ l, 0 ≤ x) → 0 ≤ l.foldl min a
  | [], a, h, _ => h
  | b :: l, a, h, hl => fmin_nn l (min a b) (by have := hl b List.mem_cons_self; omega) fun x m => hl x (List.mem_cons_of_mem _ m)
theorem lmin_nn (l : List Int) (h : ∀ x ∈ l, 0 ≤ x) (a : Int) (ha : 0 ≤ a) : ∃ k, lmin (l ++ [a]) = some k ∧ 0 ≤ k := by
  cases l with
  | nil => exact ⟨a, rfl, ha⟩
  | cons b l =>
    refine ⟨_, rfl, fmin_nn _ _ (h b List.mem_cons_self) fun x m => ?_⟩
    rcases List.mem_append.mp m with m | m
    · exact h x (List.mem_cons_of_mem _ m)
    · rw [List.mem_singleton.mp m]; exact ha
theorem teqs_J (l : List Jb) : teqs (l.map encJ) (l.map encJ) = true := by
  induction l with
  | nil => rfl
  | cons a l ih => simp [encJ, ih]
theorem teqs_P (l : Sps) : teqs (l.map encP) (l.map encP) = true := by
  induction l with
  | nil => rfl
  | cons a l ih => simp [encP, ih]
theorem np_J (l : List Jb) : (T.lst (l.map encJ)).np = true := by
  rw [T.np, T.nps_all, List.all_eq_true]
  intro x m
  obtain ⟨j, _, rfl⟩ := List.mem_map.mp m
  simp [encJ, T.np, T.nps]
theorem np_P (l : Sps) : (T.lst (l.map encP)).np = true := by
  rw [T.np, T.nps_all, List.all_eq_true]
  intro x m
  obtain ⟨j, _, rfl⟩ := List.mem_map.mp m
  simp [encP, T.np, T.nps]
theorem pd_J (l : List Jb) (n : Nat) : (l.map encJ).all (T.pd (n + 1)) = true := by simp [List.all_eq_true, encJ]
theorem pd_P (l : Sps) (n : Nat) : (l.map encP).all (T.pd (n + 1)) = true := by simp [List.all_eq_true, encP]
theorem ne_two {A B : T} (e : En) (h : e[13]? = some (.st [A, B])) (a : A.np = true) (b : B.np = true) (pa : A.pd 7 = true) (pb : B.pd 7 = true) (qa : teq A A = true) (qb : teq B B = true) :
    neP 13 true e (.sh (.lst [.ptr 0, .ptr 1])) (.fr (.lst [A, B])) = .ok false := by
  have d : dp [A, B] 30 (.lst [.ptr 0, .ptr 1]) = some (.lst [A, B]) := by
    have x : dp [A, B] 29 (.ptr 0) = some A := by
      show (if T.np (.ptr 0) = true then some (.ptr 0) else dp [A, B] 28 A) = some A
      rw [if_neg (by simp [T.np]), dp_np a]
    have y : dp [A, B] 29 (.ptr 1) = some B := by
      show (if T.np (.ptr 1) = true then some (.ptr 1) else dp [A, B] 28 B) = some B
      rw [if_neg (by simp [T.np]), dp_np b]
    show (if T.np (.lst [.ptr 0, .ptr 1]) = true then some (T.lst [.ptr 0, .ptr 1]) else (List.mapM (dp [A, B] 29) [T.ptr 0, T.ptr 1]).map T.lst) = some (T.lst [A, B])
    rw [if_neg (by simp [T.np, T.nps])]
    simp [List.mapM_cons, x, y]
  have d1 : dpR 13 e (.sh (.lst [.ptr 0, .ptr 1])) = .ok (.lst [A, B]) := by
    unfold dpR
    rw [if_neg (by simp [T.np, T.nps]), h]
    simp only [stO_st]
    rw [d]
  have d2 : dpR 13 e (.fr (.lst [A, B])) = .ok (.lst [A, B]) := by
    unfold dpR
    rw [if_pos (by simp [T.np, T.nps, a, b])]
    rfl
  unfold neP
  rw [d1, d2]
  simp [pa, pb, qa, qb]
theorem whole_eq (a : Int) : F_q_whole [.int a] = .ok (.sh (.bl true)) := by
  rw [F_q_whole_eq]
  simp [b_q_whole]
theorem law_true (ns : List Int) (h : ns.length ≤ 63) : F_q_law [.scr ns] = .ok (.sh (.bl true)) := by
  rw [F_q_law_eq _ (by simp [T.np])]
  obtain ⟨c0, h0⟩ := cell_at_ok ns 0 h
  have h0 : F_q_cell_at [.scr ns, .int 0] = .ok (.sh (.int c0)) := h0
  obtain ⟨c3, h3⟩ := cell_at_ok ns 3 h
  have h3 : F_q_cell_at [.scr ns, .int 3] = .ok (.sh (.int c3)) := h3
  obtain ⟨R, rest, by', hR, RB⟩ := rows_ok c0
  obtain ⟨l, hL, LB⟩ := load_ok ns h by' RB.b
  have G : Good l := ⟨LB.g, LB.nd, LB.n⟩
  have ln := LB.n
  obtain ⟨lo, el, lo0⟩ := lmin_nn (l.map fun j => j.2.1) (fun x m => by
    obtain ⟨j, mj, rfl⟩ := List.mem_map.mp m
    exact (LB.g j mj).nums.1.1) 1000000000 (by omega)
  obtain ⟨at0, hat, at00⟩ : ∃ a : Int, (if l = [] then 0 else lo) = a ∧ 0 ≤ a := ⟨_, rfl, by split <;> omega⟩
  obtain ⟨sp, sg, sl, hS⟩ := spans_ok c3 at0 by' at00 RB.b
  have cm := rows_cal RB
  have m2 := tidy_bnd R rest fun p m => by have := RB.r p m; omega
  have m3 := tidyC_len R rest
  have m4 := RB.n
  have m5 := RB.e
  have o1 := overflow_eq G (tidyC R rest) rest sp (by omega) (by omega) m2 (by omega)
  have o2 := overflow_eq G (tidyC R rest) rest [] (by omega) (by simp) m2 (by omega)
  have o3 := overflow_eq (L := []) ⟨fun j m => (nomatch m), List.nodup_nil, by simp⟩ (tidyC R rest) rest [] (by omega) (by simp) m2 (by omega)
  have q1 := q_overflow_eq G RB sp (by omega) sg
  have q2 := q_overflow_eq G RB [] (by simp) fun p m => nomatch m
  have z0 : ovf [] (tidyC R rest) rest [] = 0 := rfl
  have z1 : 0 ≤ ovf l (tidyC R rest) rest [] := by
    have := excs_nn l []
    unfold ovf
    simp; omega
  rw [z0] at o3
  simp only [List.map_nil] at o2 o3 q2
  have np1 := np_J l
  have np2 := np_P sp
  have pd1 := pd_J l
  have pd2 := pd_P sp
  have t1 := teqs_J l
  have t2 := teqs_P sp
  have cp := fun e : En => fun he : e = [.fz (.scr ns), .fz (.lst (R.map encP)), .fz (.int rest), .fz (.int by'), .fz (.lst (l.map encJ)), .no, .no, .no, .no, .no, .no, .no, .no, .st []] => compL_map (g := g_q_law_1) (tt := c_q_law_1) (te := e_q_law_1) (env := e) encJ (fun j => T.int j.2.1) l (by rw [sizeLine_eq]; omega) (fun j m => by
    subst he
    simp -implicitDefEqProofs [g_q_law_1, c_q_law_1, e_q_law_1, encJ])
  have cp := cp _ rfl
  have ei : (l.map fun j => T.int j.2.1) = (l.map fun j => j.2.1).map T.int := by simp
  rw [ei] at cp
  have its : T.ints (.lst ((l.map fun j => j.2.1).map T.int ++ [.int 1000000000])) = some ((l.map fun j => j.2.1) ++ [1000000000]) := by
    rw [show [T.int 1000000000] = [(1000000000 : Int)].map T.int from rfl, ← List.map_append]
    exact ints_map _
  generalize hJ : l.map encJ = J at *
  generalize hP : sp.map encP = P at *
  generalize hRR : R.map encP = RR at *
  generalize hC : encCal (tidyC R rest) rest = C at *
  have pp : powR (.sh (.int 10)) (.sh (.int 9)) = .ok (.sh (.int 1000000000)) := rfl
  have jl : l.length ≤ 16777215 := by omega
  have eJ : eqT (.lst J) (.lst []) = .ok (.sh (.bl (decide (l = [])))) := by
    rw [eqT_lst, if_pos ⟨pd1 6, rfl⟩, ← hJ]
    cases l <;> rfl
  have z1 := Int.not_lt.mpr z1
  have nb : T.np (.bl true) = true := by simp [T.np]
  have nt := fun (e : En) (he : e[13]? = some (.st [.lst J, .lst P])) => ne_two e he np1 np2 (by rw [pd_lst]; exact pd1 5) (by rw [pd_lst]; exact pd2 5) (by rw [teq_lst]; exact t1) (by rw [teq_lst]; exact t2)
  by_cases z : l = []
  · rw [if_pos z] at hat
    subst hat
    rw [decide_eq_true z] at eJ
    simp -implicitDefEqProofs [-List.map_map, b_q_law, h0, h3, hR, hL, hS, cp, its, el, pp, jl, eJ, cm, o1, o2, o3, q1, q2, nt, z1, nb, whole_eq, sizeLine_eq]
  · rw [if_neg z] at hat
    subst hat
    rw [decide_eq_false z] at eJ
    simp -implicitDefEqProofs [-List.map_map, b_q_law, h0, h3, hR, hL, hS, cp, its, el, pp, jl, eJ, cm, o1, o2, o3, q1, q2, nt, z1, nb, whole_eq, sizeLine_eq]
end K41
namespace K41
open Tr PG PySem L2
def topS (i : Nat) : Stmt := PySem.Challenge.pw_dueyard_k41_overflow.main.body.getD i (.Pass ⟨0, 0, 0, 0⟩)
abbrev s_is_whole : Stmt := topS 9
theorem sc_is_whole : FnScope ["thing"] ["thing"] (defScope s_is_whole) := ⟨rfl, rfl, rfl, by decide +kernel, rfl, by decide +kernel, by decide +kernel⟩
abbrev s_turn_count_in : Stmt := topS 10
theorem sc_turn_count_in : FnScope ["spans", "first", "last", "begin", "end"] ["spans", "first", "last"] (defScope s_turn_count_in) := ⟨rfl, rfl, rfl, by decide +kernel, rfl, by decide +kernel, by decide +kernel⟩
abbrev s_is_name : Stmt := topS 19
theorem sc_is_name : FnScope ["thing", "sign"] ["thing"] (defScope s_is_name) := ⟨rfl, rfl, rfl, by decide +kernel, rfl, by decide +kernel, by decide +kernel⟩
abbrev s_is_within : Stmt := topS 20
theorem sc_is_within : FnScope ["thing", "low", "high"] ["thing", "low", "high"] (defScope s_is_within) := ⟨rfl, rfl, rfl, by decide +kernel, rfl, by decide +kernel, by decide +kernel⟩
abbrev s_has_numbers : Stmt := topS 21
theorem sc_has_numbers : FnScope ["job"] ["job"] (defScope s_has_numbers) := ⟨rfl, rfl, rfl, by decide +kernel, rfl, by decide +kernel, by decide +kernel⟩
abbrev s_check_load : Stmt := topS 22
theorem sc_check_load : FnScope ["load", "known", "job"] ["load"] (defScope s_check_load) := ⟨rfl, rfl, rfl, by decide +kernel, rfl, by decide +kernel, by decide +kernel⟩
abbrev s_turns_of : Stmt := topS 23
theorem sc_turns_of : FnScope ["job"] ["job"] (defScope s_turns_of) := ⟨rfl, rfl, rfl, by decide +kernel, rfl, by decide +kernel, by decide +kernel⟩
abbrev s_within : Stmt := topS 24
theorem sc_within : FnScope ["job", "spans"] ["job", "spans"] (defScope s_within) := ⟨rfl, rfl, rfl, by decide +kernel, rfl, by decide +kernel, by decide +kernel⟩
abbrev s_outside : Stmt := topS 25
theorem sc_outside : FnScope ["job", "spans"] ["job", "spans"] (defScope s_outside) := ⟨rfl, rfl, rfl, by decide +kernel, rfl, by decide +kernel, by decide +kernel⟩
abbrev s_excess : Stmt := topS 26
theorem sc_excess : FnScope ["job", "spans"] ["job", "spans"] (defScope s_excess) := ⟨rfl, rfl, rfl, by decide +kernel, rfl, by decide +kernel, by decide +kernel⟩
abbrev s_Calendar_pieces : Stmt := inClass (topS 36) 5
theorem sc_Calendar_pieces : FnScope ["self", "turn", "found", "begin", "many", "machines"] ["self", "turn"] (defScope s_Calendar_pieces) := ⟨rfl, rfl, rfl, by decide +kernel, rfl, by decide +kernel, by decide +kernel⟩
abbrev s_Calendar_over : Stmt := inClass (topS 36) 7
theorem sc_Calendar_over : FnScope ["self", "first", "last", "total", "begin", "end", "machines"] ["self", "first", "last"] (defScope s_Calendar_over) := ⟨rfl, rfl, rfl, by decide +kernel, rfl, by decide +kernel, by decide +kernel⟩
abbrev s_Calendar_over_spans : Stmt := inClass (topS 36) 8
theorem sc_Calendar_over_spans : FnScope ["self", "spans", "first", "last"] ["self", "spans"] (defScope s_Calendar_over_spans) := ⟨rfl, rfl, rfl, by decide +kernel, rfl, by decide +kernel, by decide +kernel⟩
abbrev s_overflow : Stmt := topS 28
theorem sc_overflow : FnScope ["load", "calendar", "spans", "job"] ["load", "calendar", "spans"] (defScope s_overflow) := ⟨rfl, rfl, rfl, by decide +kernel, rfl, by decide +kernel, by decide +kernel⟩
abbrev s_is_number : Stmt := topS 33
theorem sc_is_number : FnScope ["thing", "low", "high"] ["thing", "low", "high"] (defScope s_is_number) := ⟨rfl, rfl, rfl, by decide +kernel, rfl, by decide +kernel, by decide +kernel⟩
abbrev s_is_row : Stmt := topS 34
theorem sc_is_row : FnScope ["thing"] ["thing"] (defScope s_is_row) := ⟨rfl, rfl, rfl, by decide +kernel, rfl, by decide +kernel, by decide +kernel⟩
abbrev s_tidied : Stmt := topS 35
theorem sc_tidied : FnScope ["rows", "rest", "found", "many", "machines"] ["rows", "rest"] (defScope s_tidied) := ⟨rfl, rfl, rfl, by decide +kernel, rfl, by decide +kernel, by decide +kernel⟩
abbrev s_Calendar_keep : Stmt := inClass (topS 36) 1
theorem sc_Calendar_keep : FnScope ["self", "rows", "rest"] ["self", "rows", "rest"] (defScope s_Calendar_keep) := ⟨rfl, rfl, rfl, by decide +kernel, rfl, by decide +kernel, by decide +kernel⟩
abbrev s_Calendar_init : Stmt := inClass (topS 36) 0
theorem sc_Calendar_init : FnScope ["self", "rows", "rest", "row"] ["self", "rows", "rest"] (defScope s_Calendar_init) := ⟨rfl, rfl, rfl, by decide +kernel, rfl, by decide +kernel, by decide +kernel⟩
abbrev s_Calendar_rows : Stmt := inClass (topS 36) 2
theorem sc_Calendar_rows : FnScope ["self"] ["self"] (defScope s_Calendar_rows) := ⟨rfl, rfl, rfl, by decide +kernel, rfl, by decide +kernel, by decide +kernel⟩
abbrev s_Calendar_rest : Stmt := inClass (topS 36) 3
theorem sc_Calendar_rest : FnScope ["self"] ["self"] (defScope s_Calendar_rest) := ⟨rfl, rfl, rfl, by decide +kernel, rfl, by decide +kernel, by decide +kernel⟩
abbrev s_Calendar_end : Stmt := inClass (topS 36) 4
theorem sc_Calendar_end : FnScope ["self", "many", "machines"] ["self"] (defScope s_Calendar_end) := ⟨rfl, rfl, rfl, by decide +kernel, rfl, by decide +kernel, by decide +kernel⟩
abbrev s_Calendar_at : Stmt := inClass (topS 36) 6
theorem sc_Calendar_at : FnScope ["self", "turn"] ["self", "turn"] (defScope s_Calendar_at) := ⟨rfl, rfl, rfl, by decide +kernel, rfl, by decide +kernel, by decide +kernel⟩
abbrev s_Calendar_changes : Stmt := inClass (topS 36) 9
theorem sc_Calendar_changes : FnScope ["self", "first", "last"] ["self", "first", "last"] (defScope s_Calendar_changes) := ⟨rfl, rfl, rfl, by decide +kernel, rfl, by decide +kernel, by decide +kernel⟩
abbrev s_made : Stmt := topS 37
theorem sc_made : FnScope ["rows", "rest", "found"] ["rows", "rest"] (defScope s_made) := ⟨rfl, rfl, rfl, by decide +kernel, rfl, by decide +kernel, by decide +kernel⟩
abbrev s_Calendar_changed : Stmt := inClass (topS 36) 10
theorem sc_Calendar_changed : FnScope ["self", "first", "last", "by", "rows", "begin", "end", "machines", "before", "here", "behind", "many", "there"] ["self", "first", "last", "by"] (defScope s_Calendar_changed) := ⟨rfl, rfl, rfl, by decide +kernel, rfl, by decide +kernel, by decide +kernel⟩
abbrev s_Calendar_fewer : Stmt := inClass (topS 36) 11
theorem sc_Calendar_fewer : FnScope ["self", "first", "last", "many"] ["self", "first", "last", "many"] (defScope s_Calendar_fewer) := ⟨rfl, rfl, rfl, by decide +kernel, rfl, by decide +kernel, by decide +kernel⟩
abbrev s_Calendar_more : Stmt := inClass (topS 36) 12
theorem sc_Calendar_more : FnScope ["self", "first", "last", "many"] ["self", "first", "last", "many"] (defScope s_Calendar_more) := ⟨rfl, rfl, rfl, by decide +kernel, rfl, by decide +kernel, by decide +kernel⟩
abbrev s_Calendar_widened : Stmt := inClass (topS 36) 13
theorem sc_Calendar_widened : FnScope ["self", "many"] ["self", "many"] (defScope s_Calendar_widened) := ⟨rfl, rfl, rfl, by decide +kernel, rfl, by decide +kernel, by decide +kernel⟩
abbrev s_q_cell_at : Stmt := topS 39
theorem sc_q_cell_at : FnScope ["_law_script", "_law_k"] ["_law_script", "_law_k"] (defScope s_q_cell_at) := ⟨rfl, rfl, rfl, by decide +kernel, rfl, by decide +kernel, by decide +kernel⟩
abbrev s_q_whole : Stmt := topS 40
theorem sc_q_whole : FnScope ["_law_found"] ["_law_found"] (defScope s_q_whole) := ⟨rfl, rfl, rfl, by decide +kernel, rfl, by decide +kernel, by decide +kernel⟩
abbrev s_q_mixed : Stmt := topS 41
theorem sc_q_mixed : FnScope ["_law_cell", "_law_k", "_law_number"] ["_law_cell", "_law_k"] (defScope s_q_mixed) := ⟨rfl, rfl, rfl, by decide +kernel, rfl, by decide +kernel, by decide +kernel⟩
abbrev s_q_names : Stmt := topS 42
theorem sc_q_names : FnScope ["_law_cell", "_law_many", "_law_signs", "_law_base", "_law_first", "_law_at", "_law_names_here", "_law_k", "_law_sign", "_law_j"] ["_law_cell", "_law_many"] (defScope s_q_names) := ⟨rfl, rfl, rfl, by decide +kernel, rfl, by decide +kernel, by decide +kernel⟩
abbrev s_q_rows : Stmt := topS 43
theorem sc_q_rows : FnScope ["_law_cell", "_law_by", "_law_rows_here", "_law_k", "_law_number", "_law_rest"] ["_law_cell"] (defScope s_q_rows) := ⟨rfl, rfl, rfl, by decide +kernel, rfl, by decide +kernel, by decide +kernel⟩
abbrev s_q_load : Stmt := topS 44
theorem sc_q_load : FnScope ["_law_script", "_law_by", "_law_cell", "_law_many", "_law_far", "_law_names_here", "_law_load_here", "_law_k", "_law_number", "_law_first", "_law_last", "_law_work", "_law_breadth"] ["_law_script", "_law_by"] (defScope s_q_load) := ⟨rfl, rfl, rfl, by decide +kernel, rfl, by decide +kernel, by decide +kernel⟩
abbrev s_q_over : Stmt := topS 45
theorem sc_q_over : FnScope ["_law_rows_here", "_law_rest", "_law_first", "_law_last", "_law_total", "_law_begin", "_law_many", "_law_machines"] ["_law_rows_here", "_law_rest", "_law_first", "_law_last"] (defScope s_q_over) := ⟨rfl, rfl, rfl, by decide +kernel, rfl, by decide +kernel, by decide +kernel⟩
abbrev s_q_inside : Stmt := topS 46
theorem sc_q_inside : FnScope ["_law_job", "_law_spans_here", "_law_first", "_law_last"] ["_law_job", "_law_spans_here"] (defScope s_q_inside) := ⟨rfl, rfl, rfl, by decide +kernel, rfl, by decide +kernel, by decide +kernel⟩
abbrev s_q_excess : Stmt := topS 47
theorem sc_q_excess : FnScope ["_law_job", "_law_spans_here", "_law_window"] ["_law_job", "_law_spans_here"] (defScope s_q_excess) := ⟨rfl, rfl, rfl, by decide +kernel, rfl, by decide +kernel, by decide +kernel⟩
abbrev s_q_overflow : Stmt := topS 48
theorem sc_q_overflow : FnScope ["_law_load_here", "_law_rows_here", "_law_rest", "_law_spans_here", "_law_total", "_law_first", "_law_last", "_law_job"] ["_law_load_here", "_law_rows_here", "_law_rest", "_law_spans_here"] (defScope s_q_overflow) := ⟨rfl, rfl, rfl, by decide +kernel, rfl, by decide +kernel, by decide +kernel⟩
abbrev s_q_spans : Stmt := topS 49
theorem sc_q_spans : FnScope ["_law_cell", "_law_start", "_law_by", "_law_spans_here", "_law_at", "_law_k", "_law_number", "_law_first", "_law_last"] ["_law_cell", "_law_start", "_law_by"] (defScope s_q_spans) := ⟨rfl, rfl, rfl, by decide +kernel, rfl, by decide +kernel, by decide +kernel⟩
abbrev s_q_law : Stmt := topS 50
theorem sc_q_law : FnScope ["_law_script", "_law_rows_here", "_law_rest", "_law_by", "_law_load_here", "_law_start", "_law_spans_here", "_law_calendar", "_law_handed", "_law_due", "_law_found", "_law_bare", "_law_job", "#"] ["_law_script"] (defScope s_q_law) := ⟨rfl, rfl, rfl, by decide +kernel, rfl, by decide +kernel, by decide +kernel⟩
abbrev s_xTwice : Stmt := inClass (topS 7) 0
theorem sc_xTwice : FnScope ["self", "name"] ["self", "name"] (defScope s_xTwice) := ⟨rfl, rfl, rfl, by decide +kernel, rfl, by decide +kernel, by decide +kernel⟩
structure Txt (K : PySem.W.Frag) (mg : Str → Option Value) : Prop where
  n_bool : mg "bool" = none
  n_int : mg "int" = none
  n_isinstance : mg "isinstance" = none
  n_len : mg "len" = none
  n_list : mg "list" = none
  n_max : mg "max" = none
  n_min : mg "min" = none
  n_range : mg "range" = none
  n_str : mg "str" = none
  n_sum : mg "sum" = none
  n_tuple : mg "tuple" = none
  c_FIGURES : ∃ t, mg "FIGURES" = some (.str "0123456789" t)
  c_LETTERS : ∃ t, mg "LETTERS" = some (.str "abcdefghijklmnopqrstuvwxyz" t)
  c_MOST_BREADTH : ∃ t, mg "MOST_BREADTH" = some (.int 16 t)
  c_MOST_FIRST : ∃ t, mg "MOST_FIRST" = some (.int 1000000000 t)
  c_MOST_JOBS : ∃ t, mg "MOST_JOBS" = some (.int 12 t)
  c_MOST_LAST : ∃ t, mg "MOST_LAST" = some (.int 10000000000 t)
  c_MOST_MACHINES : ∃ t, mg "MOST_MACHINES" = some (.int 16 t)
  c_MOST_ROWS : ∃ t, mg "MOST_ROWS" = some (.int 16 t)
  c_MOST_TURNS : ∃ t, mg "MOST_TURNS" = some (.int 1000000 t)
  c_MOST_WORK : ∃ t, mg "MOST_WORK" = some (.int 60 t)
  at_Calendar_for_ever : AtOk K "for_ever" 0
  at_Calendar_strips : AtOk K "strips" 0
  x_NoName : XMk0 K mg "NoName" 13
  x_NoNumber : XMk0 K mg "NoNumber" 14
  x_NoCalendar : XMk0 K mg "NoCalendar" 15
  x_TooMany : XMk0 K mg "TooMany" 17
  triv : True
section
variable {P : Program} {w : World} {K : PySem.W.Frag} {mg : Str → Option Value} {base : Heap}
set_option maxHeartbeats 4000000 in
theorem ok_is_whole {f : Addr} {fd : FuncData} (F : Fun K "is_whole" "is_whole" s_is_whole f fd) (T : Txt K mg)  : FnOk P w K mg base (L2.CX P w) 1 f fd ["thing"] (SpT K 1 (runF 1 b_is_whole)) := by
  refine fn_T2 (k := 0) F sc_is_whole rfl rfl (fun cdv A outer s H E hr => ?_)
  conv => enter [3]; whnf
  exact (ssj_one (sj_ret (ej_and (ej_isa rfl T.n_isinstance (by decide +kernel) rfl T.n_int (by decide +kernel) (by decide +kernel) (ej_var 0)) (ej_one (ej_not (ej_isa rfl T.n_isinstance (by decide +kernel) rfl T.n_bool (by decide +kernel) (by decide +kernel) (ej_var 0)))))))
set_option maxHeartbeats 4000000 in
theorem ok_turn_count_in {f : Addr} {fd : FuncData} (F : Fun K "turn_count_in" "turn_count_in" s_turn_count_in f fd) (T : Txt K mg)  : FnOk P w K mg base (L2.CX P w) 1 f fd ["spans", "first", "last"] (SpT K 3 (runF 5 b_turn_count_in)) := by
  refine fn_T2 (k := 0) F sc_turn_count_in rfl rfl (fun cdv A outer s H E hr => ?_)
  conv => enter [3]; whnf
  exact (ssj_one (sj_ret (ej_callB (cr_sum rfl) calli_sum rfl T.n_sum (by decide +kernel) (aj_cons (ej_comp [("begin", 3), ("end", 4)] rfl sc_turn_count_in.nd (fj_list (ej_var 0)) (blkOk_by (by decide +kernel : blkC ["spans", "first", "last", "begin", "end"] (defScope s_turn_count_in) _ _ = true)) (by decide) (fun _ _ _ _ _ => (gj_tup rfl (gsj_cons (gj_name 3 sc_turn_count_in.nd) (gsj_cons (gj_name 4 sc_turn_count_in.nd) gsj_nil)))) (fun _ _ _ _ _ => tsj_nil) (fun _ _ _ _ _ => (ej_callB (call_max2 rfl) calli_max rfl T.n_max (by decide +kernel) (aj_cons ej_int (aj_cons (ej_op opr_add opi_add (ej_op op_sub opi_sub (ej_callB (call_min2 rfl) calli_min rfl T.n_min (by decide +kernel) (aj_cons (ej_var 4) (aj_cons (ej_var 2) aj_nil))) (ej_callB (call_max2 rfl) calli_max rfl T.n_max (by decide +kernel) (aj_cons (ej_var 3) (aj_cons (ej_var 1) aj_nil)))) ej_int) aj_nil))))) aj_nil))))
set_option maxHeartbeats 4000000 in
theorem ok_is_name {f : Addr} {fd : FuncData} (F : Fun K "is_name" "is_name" s_is_name f fd) (T : Txt K mg)  : FnOk P w K mg base (L2.CX P w) 1 f fd ["thing"] (SpT K 1 (runF 2 b_is_name)) := by
  refine fn_T2 (k := 0) F sc_is_name rfl rfl (fun cdv A outer s H E hr => ?_)
  conv => enter [3]; whnf
  exact (ssj_cons (sj_if (WJ.bj (wj_or (bj_not (bj_call (ej_isa rfl T.n_isinstance (by decide +kernel) rfl T.n_str (by decide +kernel) (by decide +kernel) (ej_var 0)))) (wj_or1 (bj_not (bj_chain opr_le opr_le opi_le opi_le ej_int (ej_callB callr_len calli_len rfl T.n_len (by decide +kernel) (aj_cons (ej_var 0) aj_nil)) ej_int)))))
    (ssj_one (sj_ret ej_bl))
    ssj_nil)
    (ssj_cons (sj_if (bj_cmp (opr_nin (hu65 hr)) opi_nin (ej_ix (ej_var 0) ej_int (fun _ _ => rfl)) (ej_gstrE (by decide +kernel) rfl T.c_LETTERS) (by rfl))
    (ssj_one (sj_ret ej_bl))
    ssj_nil)
    (ssj_cons (sj_fg [0] (sj_for poB rfl (fj_str (ej_var 0)) (gj_name 1 sc_is_name.nd)
    (ssj_fg [1] (ssj_one (sj_fg [1] (sj_if (WJ.bj (wj_and (bj_cmp (opr_nin (hu65 hr)) opi_nin (ej_var 1) (ej_gstrE (by decide +kernel) rfl T.c_LETTERS) (by rfl)) (wj_and1 (bj_cmp (opr_nin (hu65 hr)) opi_nin (ej_var 1) (ej_gstrE (by decide +kernel) rfl T.c_FIGURES) (by rfl)))))
    (ssj_one (sj_ret ej_bl))
    ssj_nil))))))
    (ssj_one (sj_ret ej_bl)))))
set_option maxHeartbeats 4000000 in
theorem ok_is_within {f : Addr} {fd : FuncData} (F : Fun K "is_within" "is_within" s_is_within f fd) (T : Txt K mg) (C_is_whole : Cal P w K mg base "is_whole" 1 1 F_is_whole) : FnOk P w K mg base (L2.CX P w) 2 f fd ["thing", "low", "high"] (SpT K 3 (runF 3 b_is_within)) := by
  refine fn_T2 (k := 1) F sc_is_within rfl rfl (fun cdv A outer s H E hr => ?_)
  conv => enter [3]; whnf
  exact (ssj_one (sj_ret (ej_and (ej_cal C_is_whole hr (by decide) hxB rfl (aj_cons (ej_var 0) aj_nil) (fA_len (fun _ _ h => fN_len h))) (ej_one (ej_chain opr_le opr_le opi_le opi_le (ej_var 1) (ej_var 0) (ej_var 2))))))
set_option maxHeartbeats 4000000 in
theorem ok_has_numbers {f : Addr} {fd : FuncData} (F : Fun K "has_numbers" "has_numbers" s_has_numbers f fd) (T : Txt K mg) (C_is_within : Cal P w K mg base "is_within" 2 3 F_is_within) : FnOk P w K mg base (L2.CX P w) 3 f fd ["job"] (SpT K 1 (runF 1 b_has_numbers)) := by
  refine fn_T2 (k := 2) F sc_has_numbers rfl rfl (fun cdv A outer s H E hr => ?_)
  conv => enter [3]; whnf
  exact (ssj_cons (sj_if (WJ.bj (wj_or (bj_not (bj_call (ej_cal C_is_within hr (by decide) hxB rfl (aj_cons (ej_ix (ej_var 0) ej_int (fun _ _ => rfl)) (aj_cons ej_int (aj_cons (ej_gintE rfl T.c_MOST_FIRST) aj_nil))) (fA_len (fA_len (fA_len (fun _ _ h => fN_len h))))))) (wj_or1 (bj_not (bj_call (ej_cal C_is_within hr (by decide) hxB rfl (aj_cons (ej_ix (ej_var 0) ej_int (fun _ _ => rfl)) (aj_cons (ej_neg ej_int) (aj_cons (ej_gintE rfl T.c_MOST_LAST) aj_nil))) (fA_len (fA_len (fA_len (fun _ _ h => fN_len h))))))))))
    (ssj_one (sj_ret ej_bl))
    ssj_nil)
    (ssj_one (sj_ret (ej_and (ej_cal C_is_within hr (by decide) hxB rfl (aj_cons (ej_ix (ej_var 0) ej_int (fun _ _ => rfl)) (aj_cons ej_int (aj_cons (ej_gintE rfl T.c_MOST_WORK) aj_nil))) (fA_len (fA_len (fA_len (fun _ _ h => fN_len h))))) (ej_one (ej_cal C_is_within hr (by decide) hxB rfl (aj_cons (ej_ix (ej_var 0) ej_int (fun _ _ => rfl)) (aj_cons ej_int (aj_cons (ej_gintE rfl T.c_MOST_BREADTH) aj_nil))) (fA_len (fA_len (fA_len (fun _ _ h => fN_len h))))))))))
set_option maxHeartbeats 4000000 in
theorem ok_check_load {f : Addr} {fd : FuncData} (F : Fun K "check_load" "check_load" s_check_load f fd) (T : Txt K mg) (C_is_name : Cal P w K mg base "is_name" 1 1 F_is_name) (C_has_numbers : Cal P w K mg base "has_numbers" 3 1 F_has_numbers) (X_Twice : XMk1 P w K mg base "Twice" 20) : FnOk P w K mg base (L2.CX P w) 4 f fd ["load"] (SpT K 1 (runF 3 b_check_load)) := by
  refine fn_T2 (k := 3) F sc_check_load rfl rfl (fun cdv A outer s H E hr => ?_)
  conv => enter [3]; whnf
  exact (ssj_cons (sj_if (bj_cmp op_gt opi_cmp (ej_callB callr_len calli_len rfl T.n_len (by decide +kernel) (aj_cons (ej_var 0) aj_nil)) (ej_gintE rfl T.c_MOST_JOBS) (nomk _))
    (ssj_one (sj_rs0 T.x_TooMany rfl tkB rfl))
    ssj_nil)
    (ssj_cons (sj_set 1 (ej_lst aj_nil) sc_check_load.nd)
    (ssj_cons (sj_fg [0, 1] (sj_for poB rfl (fj_list (ej_var 0)) (gj_name 2 sc_check_load.nd)
    (ssj_fg [2] (ssj_cons (sj_if (bj_not (bj_call (ej_cal C_is_name hr (by decide) hxB rfl (aj_cons (ej_ix (ej_var 2) ej_int (fun _ _ => rfl)) aj_nil) (fA_len (fun _ _ h => fN_len h)))))
    (ssj_one (sj_rs0 T.x_NoName rfl tkB rfl))
    ssj_nil)
    (ssj_cons (sj_if (bj_cmp (opr_in (hu65 hr)) opi_in (ej_ix (ej_var 2) ej_int (fun _ _ => rfl)) (ej_var 1) (by rfl))
    (ssj_one (sj_rs1 X_Twice rfl tkB hr (by decide) rfl (ej_ix (ej_var 2) ej_int (fun _ _ => rfl))))
    ssj_nil)
    (ssj_cons (sj_if (bj_not (bj_call (ej_cal C_has_numbers hr (by decide) hxB rfl (aj_cons (ej_var 2) aj_nil) (fA_len (fun _ _ h => fN_len h)))))
    (ssj_one (sj_rs0 T.x_NoNumber rfl tkB rfl))
    ssj_nil)
    (ssj_one (sj_fg [2] (sj_app 1 (ej_ix (ej_var 2) ej_int (fun _ _ => rfl)))))))))))
    (ssj_one (sj_ret ej_bl)))))
set_option maxHeartbeats 4000000 in
theorem ok_turns_of {f : Addr} {fd : FuncData} (F : Fun K "turns_of" "turns_of" s_turns_of f fd) (T : Txt K mg)  : FnOk P w K mg base (L2.CX P w) 1 f fd ["job"] (SpT K 1 (runF 1 b_turns_of)) := by
  refine fn_T2 (k := 0) F sc_turns_of rfl rfl (fun cdv A outer s H E hr => ?_)
  conv => enter [3]; whnf
  exact (ssj_one (sj_ret (ej_callB (call_max2 rfl) calli_max rfl T.n_max (by decide +kernel) (aj_cons ej_int (aj_cons (ej_op opr_add opi_add (ej_op op_sub opi_sub (ej_ix (ej_var 0) ej_int (fun _ _ => rfl)) (ej_ix (ej_var 0) ej_int (fun _ _ => rfl))) ej_int) aj_nil)))))
set_option maxHeartbeats 4000000 in
theorem ok_within {f : Addr} {fd : FuncData} (F : Fun K "within" "within" s_within f fd) (T : Txt K mg) (C_turn_count_in : Cal P w K mg base "turn_count_in" 1 3 F_turn_count_in) : FnOk P w K mg base (L2.CX P w) 2 f fd ["job", "spans"] (SpT K 2 (runF 2 b_within)) := by
  refine fn_T2 (k := 1) F sc_within rfl rfl (fun cdv A outer s H E hr => ?_)
  conv => enter [3]; whnf
  exact (ssj_one (sj_ret (ej_cal C_turn_count_in hr (by decide) hxB rfl (aj_cons (ej_var 1) (aj_cons (ej_ix (ej_var 0) ej_int (fun _ _ => rfl)) (aj_cons (ej_ix (ej_var 0) ej_int (fun _ _ => rfl)) aj_nil))) (fA_len (fA_len (fA_len (fun _ _ h => fN_len h)))))))
set_option maxHeartbeats 4000000 in
theorem ok_outside {f : Addr} {fd : FuncData} (F : Fun K "outside" "outside" s_outside f fd) (T : Txt K mg) (C_turns_of : Cal P w K mg base "turns_of" 1 1 F_turns_of) (C_within : Cal P w K mg base "within" 2 2 F_within) : FnOk P w K mg base (L2.CX P w) 3 f fd ["job", "spans"] (SpT K 2 (runF 2 b_outside)) := by
  refine fn_T2 (k := 2) F sc_outside rfl rfl (fun cdv A outer s H E hr => ?_)
  conv => enter [3]; whnf
  exact (ssj_one (sj_ret (ej_op op_sub opi_sub (ej_cal C_turns_of hr (by decide) hxB rfl (aj_cons (ej_var 0) aj_nil) (fA_len (fun _ _ h => fN_len h))) (ej_cal C_within hr (by decide) hxB rfl (aj_cons (ej_var 0) (aj_cons (ej_var 1) aj_nil)) (fA_len (fA_len (fun _ _ h => fN_len h)))))))
set_option maxHeartbeats 4000000 in
theorem ok_excess {f : Addr} {fd : FuncData} (F : Fun K "excess" "excess" s_excess f fd) (T : Txt K mg) (C_outside : Cal P w K mg base "outside" 3 2 F_outside) : FnOk P w K mg base (L2.CX P w) 4 f fd ["job", "spans"] (SpT K 2 (runF 2 b_excess)) := by
  refine fn_T2 (k := 3) F sc_excess rfl rfl (fun cdv A outer s H E hr => ?_)
  conv => enter [3]; whnf
  exact (ssj_one (sj_ret (ej_callB (call_max2 rfl) calli_max rfl T.n_max (by decide +kernel) (aj_cons ej_int (aj_cons (ej_op op_sub opi_sub (ej_ix (ej_var 0) ej_int (fun _ _ => rfl)) (ej_op opr_mul opi_mul (ej_ix (ej_var 0) ej_int (fun _ _ => rfl)) (ej_cal C_outside hr (by decide) hxB rfl (aj_cons (ej_var 0) (aj_cons (ej_var 1) aj_nil)) (fA_len (fA_len (fun _ _ h => fN_len h)))))) aj_nil)))))
set_option maxHeartbeats 4000000 in
theorem ok_Calendar_pieces {f : Addr} {fd : FuncData} (F : Fun K "pieces" "Calendar.pieces" s_Calendar_pieces f fd) (T : Txt K mg)  : FnOk P w K mg base (L2.CX P w) 1 f fd ["self", "turn"] (SpT K 2 (runF 6 b_Calendar_pieces)) := by
  refine fn_T2 (k := 0) F sc_Calendar_pieces rfl rfl (fun cdv A outer s H E hr => ?_)
  conv => enter [3]; whnf
  exact (ssj_cons (sj_set 2 (ej_lst aj_nil) sc_Calendar_pieces.nd)
    (ssj_cons (sj_setZ 3 ej_int sc_Calendar_pieces.nd)
    (ssj_cons (sj_for poB rfl (fj_list (ej_at [0] (ej_var 0) (by simp only [List.mem_cons, List.not_mem_nil, or_false, forall_eq_or_imp, forall_eq]; exact T.at_Calendar_strips))) (gj_tup rfl (gsj_cons (gj_name 4 sc_Calendar_pieces.nd) (gsj_cons (gj_name 5 sc_Calendar_pieces.nd) gsj_nil)))
    (ssj_fg [4, 5] (ssj_cons (sj_fg [5] (sj_app 2 (ej_tup (aj_cons (ej_var 3) (aj_cons (ej_op op_sub opi_sub (ej_op opr_add opi_add (ej_var 3) (ej_var 4)) ej_int) (aj_cons (ej_var 5) aj_nil))))))
    (ssj_one (sj_fg [4] (sj_aug 3 (ej_var 4) sc_Calendar_pieces.nd))))))
    (ssj_cons (sj_fg [0, 1, 3] (sj_if (bj_cmp opr_le opi_le (ej_var 3) (ej_var 1) (nomk _))
    (ssj_one (sj_fg [0, 1, 3] (sj_app 2 (ej_tup (aj_cons (ej_var 3) (aj_cons (ej_var 1) (aj_cons (ej_at [0] (ej_var 0) (by simp only [List.mem_cons, List.not_mem_nil, or_false, forall_eq_or_imp, forall_eq]; exact T.at_Calendar_for_ever)) aj_nil)))))))
    ssj_nil))
    (ssj_one (sj_ret (ej_var 2)))))))
set_option maxHeartbeats 4000000 in
theorem ok_Calendar_over {f : Addr} {fd : FuncData} (F : Fun K "over" "Calendar.over" s_Calendar_over f fd) (T : Txt K mg) (M_Calendar_pieces : Met P w K mg base 0 "pieces" 1 2 F_Calendar_pieces) : FnOk P w K mg base (L2.CX P w) 2 f fd ["self", "first", "last"] (SpT K 3 (runF 7 b_Calendar_over)) := by
  refine fn_T2 (k := 1) F sc_Calendar_over rfl rfl (fun cdv A outer s H E hr => ?_)
  conv => enter [3]; whnf
  exact (ssj_cons (sj_setZ 3 ej_int sc_Calendar_over.nd)
    (ssj_cons (sj_fg [0, 1, 2] (sj_for poB rfl (fj_list (ej_me M_Calendar_pieces hr (by decide) hxB (ej_var 0) (aj_cons (ej_var 2) aj_nil) (fun env rs h => congrArg (· + 1) ((fA_len (fun _ _ h => fN_len h)) env rs h)))) (gj_tup rfl (gsj_cons (gj_name 4 sc_Calendar_over.nd) (gsj_cons (gj_name 5 sc_Calendar_over.nd) (gsj_cons (gj_name 6 sc_Calendar_over.nd) gsj_nil))))
    (ssj_fg [4, 5, 6] (ssj_one (sj_fg [4, 5, 6] (sj_aug 3 (ej_op opr_mul opi_mul (ej_var 6) (ej_callB (call_max2 rfl) calli_max rfl T.n_max (by decide +kernel) (aj_cons ej_int (aj_cons (ej_op opr_add opi_add (ej_op op_sub opi_sub (ej_callB (call_min2 rfl) calli_min rfl T.n_min (by decide +kernel) (aj_cons (ej_var 5) (aj_cons (ej_var 2) aj_nil))) (ej_callB (call_max2 rfl) calli_max rfl T.n_max (by decide +kernel) (aj_cons (ej_var 4) (aj_cons (ej_var 1) aj_nil)))) ej_int) aj_nil)))) sc_Calendar_over.nd))))))
    (ssj_one (sj_ret (ej_var 3)))))
set_option maxHeartbeats 4000000 in
theorem ok_Calendar_over_spans {f : Addr} {fd : FuncData} (F : Fun K "over_spans" "Calendar.over_spans" s_Calendar_over_spans f fd) (T : Txt K mg) (M_Calendar_over : Met P w K mg base 0 "over" 2 3 F_Calendar_over) : FnOk P w K mg base (L2.CX P w) 3 f fd ["self", "spans"] (SpT K 2 (runF 4 b_Calendar_over_spans)) := by
  refine fn_T2 (k := 2) F sc_Calendar_over_spans rfl rfl (fun cdv A outer s H E hr => ?_)
  conv => enter [3]; whnf
  exact (ssj_one (sj_ret (ej_callB (cr_sum rfl) calli_sum rfl T.n_sum (by decide +kernel) (aj_cons (ej_comp [("first", 2), ("last", 3)] rfl sc_Calendar_over_spans.nd (fj_list (ej_var 1)) (blkOk_by (by decide +kernel : blkC ["self", "spans", "first", "last"] (defScope s_Calendar_over_spans) _ _ = true)) (by decide) (fun _ _ _ _ _ => (gj_tup rfl (gsj_cons (gj_name 2 sc_Calendar_over_spans.nd) (gsj_cons (gj_name 3 sc_Calendar_over_spans.nd) gsj_nil)))) (fun _ _ _ _ _ => tsj_nil) (fun _ _ _ _ _ => (ej_me M_Calendar_over hr (by decide) hx0 (ej_var 0) (aj_cons (ej_var 2) (aj_cons (ej_var 3) aj_nil)) (fun env rs h => congrArg (· + 1) ((fA_len (fA_len (fun _ _ h => fN_len h))) env rs h))))) aj_nil))))
set_option maxHeartbeats 4000000 in
theorem ok_overflow {f : Addr} {fd : FuncData} (F : Fun K "overflow" "overflow" s_overflow f fd) (T : Txt K mg) (C_check_load : Cal P w K mg base "check_load" 4 1 F_check_load) (C_excess : Cal P w K mg base "excess" 4 2 F_excess) (M_Calendar_over_spans : Met P w K mg base 0 "over_spans" 3 2 F_Calendar_over_spans) : FnOk P w K mg base (L2.CX P w) 5 f fd ["load", "calendar", "spans"] (SpT K 3 (runF 4 b_overflow)) := by
  refine fn_T2 (k := 4) F sc_overflow rfl rfl (fun cdv A outer s H E hr => ?_)
  conv => enter [3]; whnf
  exact (ssj_cons (sj_drop (ej_cal C_check_load hr (by decide) hxB rfl (aj_cons (ej_var 0) aj_nil) (fA_len (fun _ _ h => fN_len h))))
    (ssj_one (sj_ret (ej_op op_sub opi_sub (ej_callB (cr_sum rfl) calli_sum rfl T.n_sum (by decide +kernel) (aj_cons (ej_comp [("job", 3)] rfl sc_overflow.nd (fj_list (ej_var 0)) (blkOk_by (by decide +kernel : blkC ["load", "calendar", "spans", "job"] (defScope s_overflow) _ _ = true)) (by decide) (fun _ _ _ _ _ => (gj_name 3 sc_overflow.nd)) (fun _ _ _ _ _ => tsj_nil) (fun _ _ _ _ _ => (ej_cal0 C_excess hr (by decide) rfl (aj_cons (ej_var 3) (aj_cons (ej_var 2) aj_nil)) (fA_len (fA_len (fun _ _ h => fN_len h)))))) aj_nil)) (ej_me M_Calendar_over_spans hr (by decide) hxB (ej_var 1) (aj_cons (ej_var 2) aj_nil) (fun env rs h => congrArg (· + 1) ((fA_len (fun _ _ h => fN_len h)) env rs h)))))))
set_option maxHeartbeats 4000000 in
theorem ok_is_number {f : Addr} {fd : FuncData} (F : Fun K "is_number" "is_number" s_is_number f fd) (T : Txt K mg) (C_is_whole : Cal P w K mg base "is_whole" 1 1 F_is_whole) : FnOk P w K mg base (L2.CX P w) 2 f fd ["thing", "low", "high"] (SpT K 3 (runF 3 b_is_number)) := by
  refine fn_T2 (k := 1) F sc_is_number rfl rfl (fun cdv A outer s H E hr => ?_)
  conv => enter [3]; whnf
  exact (ssj_one (sj_ret (ej_and (ej_cal C_is_whole hr (by decide) hxB rfl (aj_cons (ej_var 0) aj_nil) (fA_len (fun _ _ h => fN_len h))) (ej_one (ej_chain opr_le opr_le opi_le opi_le (ej_var 1) (ej_var 0) (ej_var 2))))))
set_option maxHeartbeats 4000000 in
theorem ok_is_row {f : Addr} {fd : FuncData} (F : Fun K "is_row" "is_row" s_is_row f fd) (T : Txt K mg) (C_is_number : Cal P w K mg base "is_number" 2 3 F_is_number) : FnOk P w K mg base (L2.CX P w) 3 f fd ["thing"] (SpT K 1 (runF 1 b_is_row)) := by
  refine fn_T2 (k := 2) F sc_is_row rfl rfl (fun cdv A outer s H E hr => ?_)
  conv => enter [3]; whnf
  exact (ssj_cons (sj_if (WJ.bj (wj_or (bj_not (bj_call (ej_isa rfl T.n_isinstance (by decide +kernel) rfl T.n_tuple (by decide +kernel) (by decide +kernel) (ej_var 0)))) (wj_or1 (bj_cmp (op_neD (hu64 hr)) opi_ne (ej_callB callr_len calli_len rfl T.n_len (by decide +kernel) (aj_cons (ej_var 0) aj_nil)) ej_int (nomk _)))))
    (ssj_one (sj_ret ej_bl))
    ssj_nil)
    (ssj_one (sj_ret (ej_and (ej_cal C_is_number hr (by decide) hxB rfl (aj_cons (ej_ix (ej_var 0) ej_int (fun _ _ => rfl)) (aj_cons ej_int (aj_cons (ej_gintE rfl T.c_MOST_TURNS) aj_nil))) (fA_len (fA_len (fA_len (fun _ _ h => fN_len h))))) (ej_one (ej_cal C_is_number hr (by decide) hxB rfl (aj_cons (ej_ix (ej_var 0) ej_int (fun _ _ => rfl)) (aj_cons ej_int (aj_cons (ej_gintE rfl T.c_MOST_MACHINES) aj_nil))) (fA_len (fA_len (fA_len (fun _ _ h => fN_len h))))))))))
set_option maxHeartbeats 4000000 in
theorem ok_tidied {f : Addr} {fd : FuncData} (F : Fun K "tidied" "tidied" s_tidied f fd) (T : Txt K mg)  : FnOk P w K mg base (L2.CX P w) 1 f fd ["rows", "rest"] (SpT K 2 (runF 5 b_tidied)) := by
  refine fn_T2 (k := 0) F sc_tidied rfl rfl (fun cdv A outer s H E hr => ?_)
  conv => enter [3]; whnf
  exact (ssj_cons (sj_set 2 (ej_lst aj_nil) sc_tidied.nd)
    (ssj_cons (sj_fg [0] (sj_for poB rfl (fj_list (ej_var 0)) (gj_tup rfl (gsj_cons (gj_name 3 sc_tidied.nd) (gsj_cons (gj_name 4 sc_tidied.nd) gsj_nil)))
    (ssj_fg [3, 4] (ssj_one (sj_fg [3, 4] (sj_if (WJ.bj (wj_and (bj_cmp (op_neD (hu64 hr)) opi_ne (ej_var 2) (ej_lst aj_nil) (nomk _)) (wj_and1 (bj_cmp (op_eqD (hu64 hr)) opi_eq (ej_ix (ej_ix (ej_var 2) (ej_neg ej_int) (fun _ _ => rfl)) ej_int (fun _ _ => rfl)) (ej_var 4) (nomk _)))))
    (ssj_one (sj_fg [3, 4] (sj_put 2 (ej_tup (aj_cons (ej_op opr_add opi_add (ej_ix (ej_ix (ej_var 2) (ej_neg ej_int) (fun _ _ => rfl)) ej_int (fun _ _ => rfl)) (ej_var 3)) (aj_cons (ej_var 4) aj_nil))) (ej_neg ej_int))))
    (ssj_one (sj_fg [3, 4] (sj_app 2 (ej_tup (aj_cons (ej_var 3) (aj_cons (ej_var 4) aj_nil))))))))))))
    (ssj_cons (sj_fg [1] (sj_if (WJ.bj (wj_and (bj_cmp (op_neD (hu64 hr)) opi_ne (ej_var 2) (ej_lst aj_nil) (nomk _)) (wj_and1 (bj_cmp (op_eqD (hu64 hr)) opi_eq (ej_ix (ej_ix (ej_var 2) (ej_neg ej_int) (fun _ _ => rfl)) ej_int (fun _ _ => rfl)) (ej_var 1) (nomk _)))))
    (ssj_one (sj_pop 2))
    ssj_nil))
    (ssj_one (sj_ret (ej_var 2))))))
set_option maxHeartbeats 4000000 in
theorem ok_Calendar_keep {f : Addr} {fd : FuncData} (F : Fun K "keep" "Calendar.keep" s_Calendar_keep f fd) (T : Txt K mg) (C_tidied : Cal P w K mg base "tidied" 1 2 F_tidied) : FnOk P w K mg base (L2.CX P w) 2 f fd ["self", "rows", "rest"] (SpM K 3 (runM 3 b_Calendar_keep)) := by
  refine fn_M (k := 1) F sc_Calendar_keep rfl rfl (fun cdv A outer s H E hr => ?_)
  conv => enter [3]; whnf
  exact (ssj_cons (sj_fg [1] (sj_pa [0] 0 (ej_cal C_tidied hr (by decide) hxB rfl (aj_cons (ej_var 1) (aj_cons (ej_var 2) aj_nil)) (fA_len (fA_len (fun _ _ h => fN_len h)))) (by simp only [List.mem_cons, List.not_mem_nil, or_false, forall_eq_or_imp, forall_eq]; exact T.at_Calendar_strips)))
    (ssj_one (sj_fg [2] (sj_pa [0] 0 (ej_var 2) (by simp only [List.mem_cons, List.not_mem_nil, or_false, forall_eq_or_imp, forall_eq]; exact T.at_Calendar_for_ever)))))
set_option maxHeartbeats 4000000 in
theorem ok_Calendar_init {f : Addr} {fd : FuncData} (F : Fun K "__init__" "Calendar.__init__" s_Calendar_init f fd) (T : Txt K mg) (C_is_number : Cal P w K mg base "is_number" 2 3 F_is_number) (C_is_row : Cal P w K mg base "is_row" 3 1 F_is_row) (M_Calendar_keep : MetM P w K mg base 0 "keep" 2 3 F_Calendar_keep) : FnOk P w K mg base (L2.CX P w) 4 f fd ["self", "rows", "rest"] (SpM K 3 (runM 4 b_Calendar_init)) := by
  refine fn_M (k := 3) F sc_Calendar_init rfl rfl (fun cdv A outer s H E hr => ?_)
  conv => enter [3]; whnf
  exact (ssj_cons (sj_if (WJ.bj (wj_or (bj_not (bj_call (ej_isa rfl T.n_isinstance (by decide +kernel) rfl T.n_list (by decide +kernel) (by decide +kernel) (ej_var 1)))) (wj_or (bj_cmp op_gt opi_cmp (ej_callB callr_len calli_len rfl T.n_len (by decide +kernel) (aj_cons (ej_var 1) aj_nil)) (ej_gintE rfl T.c_MOST_ROWS) (nomk _)) (wj_or1 (bj_not (bj_call (ej_cal C_is_number hr (by decide) hxB rfl (aj_cons (ej_var 2) (aj_cons ej_int (aj_cons (ej_gintE rfl T.c_MOST_MACHINES) aj_nil))) (fA_len (fA_len (fA_len (fun _ _ h => fN_len h)))))))))))
    (ssj_one (sj_rs0 T.x_NoCalendar rfl tkB rfl))
    ssj_nil)
    (ssj_cons (sj_for poB rfl (fj_list (ej_var 1)) (gj_name 3 sc_Calendar_init.nd)
    (ssj_fg [3] (ssj_one (sj_fg [3] (sj_if (bj_not (bj_call (ej_cal C_is_row hr (by decide) hxB rfl (aj_cons (ej_var 3) aj_nil) (fA_len (fun _ _ h => fN_len h)))))
    (ssj_one (sj_rs0 T.x_NoCalendar rfl tkB rfl))
    ssj_nil)))))
    (ssj_cons (sj_pa [0] 0 (ej_lst aj_nil) (by simp only [List.mem_cons, List.not_mem_nil, or_false, forall_eq_or_imp, forall_eq]; exact T.at_Calendar_strips))
    (ssj_cons (sj_pa [0] 0 (ej_var 2) (by simp only [List.mem_cons, List.not_mem_nil, or_false, forall_eq_or_imp, forall_eq]; exact T.at_Calendar_for_ever))
    (ssj_one (sj_fg [1, 2] (sj_mc 0 M_Calendar_keep hr (by decide) hxB (aj_cons (ej_var 1) (aj_cons (ej_var 2) aj_nil)) (fun env rs h => congrArg (· + 1) ((fA_len (fA_len (fun _ _ h => fN_len h))) env rs h)))))))))
set_option maxHeartbeats 4000000 in
theorem ok_Calendar_rows {f : Addr} {fd : FuncData} (F : Fun K "rows" "Calendar.rows" s_Calendar_rows f fd) (T : Txt K mg)  : FnOk P w K mg base (L2.CX P w) 1 f fd ["self"] (SpT K 1 (runF 1 b_Calendar_rows)) := by
  refine fn_T2 (k := 0) F sc_Calendar_rows rfl rfl (fun cdv A outer s H E hr => ?_)
  conv => enter [3]; whnf
  exact (ssj_one (sj_ret (ej_callTy call_list_of calli_list rfl T.n_list (by decide +kernel) (aj_cons (ej_at [0] (ej_var 0) (by simp only [List.mem_cons, List.not_mem_nil, or_false, forall_eq_or_imp, forall_eq]; exact T.at_Calendar_strips)) aj_nil))))
set_option maxHeartbeats 4000000 in
theorem ok_Calendar_rest {f : Addr} {fd : FuncData} (F : Fun K "rest" "Calendar.rest" s_Calendar_rest f fd) (T : Txt K mg)  : FnOk P w K mg base (L2.CX P w) 1 f fd ["self"] (SpT K 1 (runF 1 b_Calendar_rest)) := by
  refine fn_T2 (k := 0) F sc_Calendar_rest rfl rfl (fun cdv A outer s H E hr => ?_)
  conv => enter [3]; whnf
  exact (ssj_one (sj_ret (ej_at [0] (ej_var 0) (by simp only [List.mem_cons, List.not_mem_nil, or_false, forall_eq_or_imp, forall_eq]; exact T.at_Calendar_for_ever))))
set_option maxHeartbeats 4000000 in
theorem ok_Calendar_end {f : Addr} {fd : FuncData} (F : Fun K "end" "Calendar.end" s_Calendar_end f fd) (T : Txt K mg)  : FnOk P w K mg base (L2.CX P w) 1 f fd ["self"] (SpT K 1 (runF 3 b_Calendar_end)) := by
  refine fn_T2 (k := 0) F sc_Calendar_end rfl rfl (fun cdv A outer s H E hr => ?_)
  conv => enter [3]; whnf
  exact (ssj_one (sj_ret (ej_callB (cr_sum rfl) calli_sum rfl T.n_sum (by decide +kernel) (aj_cons (ej_comp [("many", 1), ("machines", 2)] rfl sc_Calendar_end.nd (fj_list (ej_at [0] (ej_var 0) (by simp only [List.mem_cons, List.not_mem_nil, or_false, forall_eq_or_imp, forall_eq]; exact T.at_Calendar_strips))) (blkOk_by (by decide +kernel : blkC ["self", "many", "machines"] (defScope s_Calendar_end) _ _ = true)) (by decide) (fun _ _ _ _ _ => (gj_tup rfl (gsj_cons (gj_name 1 sc_Calendar_end.nd) (gsj_cons (gj_name 2 sc_Calendar_end.nd) gsj_nil)))) (fun _ _ _ _ _ => tsj_nil) (fun _ _ _ _ _ => (ej_var 1))) aj_nil))))
set_option maxHeartbeats 4000000 in
theorem ok_Calendar_at {f : Addr} {fd : FuncData} (F : Fun K "at" "Calendar.at" s_Calendar_at f fd) (T : Txt K mg)  : FnOk P w K mg base (L2.CX P w) 1 f fd ["self", "turn"] (SpT K 2 (runF 2 b_Calendar_at)) := by
  refine fn_T2 (k := 0) F sc_Calendar_at rfl rfl (fun cdv A outer s H E hr => ?_)
  conv => enter [3]; whnf
  exact (ssj_one sj_never)
set_option maxHeartbeats 4000000 in
theorem ok_Calendar_changes {f : Addr} {fd : FuncData} (F : Fun K "changes" "Calendar.changes" s_Calendar_changes f fd) (T : Txt K mg)  : FnOk P w K mg base (L2.CX P w) 1 f fd ["self", "first", "last"] (SpT K 3 (runF 3 b_Calendar_changes)) := by
  refine fn_T2 (k := 0) F sc_Calendar_changes rfl rfl (fun cdv A outer s H E hr => ?_)
  conv => enter [3]; whnf
  exact (ssj_one sj_never)
set_option maxHeartbeats 4000000 in
theorem ok_made {f : Addr} {fd : FuncData} (F : Fun K "made" "made" s_made f fd) (T : Txt K mg) (K_Calendar : Mak P w K mg base "Calendar" 0 4 3 F_Calendar_init) (M_Calendar_keep : MetM P w K mg base 0 "keep" 2 3 F_Calendar_keep) : FnOk P w K mg base (L2.CX P w) 6 f fd ["rows", "rest"] (SpT K 2 (runF 3 b_made)) := by
  refine fn_T2 (k := 5) F sc_made rfl rfl (fun cdv A outer s H E hr => ?_)
  conv => enter [3]; whnf
  exact (ssj_cons (sj_set 2 (ej_mk K_Calendar hr (by decide) hxB rfl (aj_cons (ej_lst aj_nil) (aj_cons ej_int aj_nil)) (fun env rs h => congrArg (· + 1) ((fA_len (fA_len (fun _ _ h => fN_len h))) env rs h))) sc_made.nd)
    (ssj_cons (sj_fg [0, 1] (sj_mc 2 M_Calendar_keep hr (by decide) hxB (aj_cons (ej_var 0) (aj_cons (ej_var 1) aj_nil)) (fun env rs h => congrArg (· + 1) ((fA_len (fA_len (fun _ _ h => fN_len h))) env rs h))))
    (ssj_one (sj_ret (ej_var 2)))))
set_option maxHeartbeats 4000000 in
theorem ok_Calendar_changed {f : Addr} {fd : FuncData} (F : Fun K "changed" "Calendar.changed" s_Calendar_changed f fd) (T : Txt K mg) (M_Calendar_pieces : Met P w K mg base 0 "pieces" 1 2 F_Calendar_pieces) (C_made : Cal P w K mg base "made" 6 2 F_made) : FnOk P w K mg base (L2.CX P w) 7 f fd ["self", "first", "last", "by"] (SpT K 4 (runF 13 b_Calendar_changed)) := by
  refine fn_T2 (k := 6) F sc_Calendar_changed rfl rfl (fun cdv A outer s H E hr => ?_)
  conv => enter [3]; whnf
  exact (ssj_cons (sj_set 4 (ej_lst aj_nil) sc_Calendar_changed.nd)
    (ssj_cons (sj_fg [1, 2, 3] (sj_for poB rfl (fj_list (ej_me M_Calendar_pieces hr (by decide) hxB (ej_var 0) (aj_cons (ej_var 2) aj_nil) (fun env rs h => congrArg (· + 1) ((fA_len (fun _ _ h => fN_len h)) env rs h)))) (gj_tup rfl (gsj_cons (gj_name 5 sc_Calendar_changed.nd) (gsj_cons (gj_name 6 sc_Calendar_changed.nd) (gsj_cons (gj_name 7 sc_Calendar_changed.nd) gsj_nil))))
    (ssj_fg [5, 6, 7, 8, 9, 10, 11, 12] (ssj_cons (sj_setZ 8 (ej_op opr_add opi_add (ej_op op_sub opi_sub (ej_callB (call_min2 rfl) calli_min rfl T.n_min (by decide +kernel) (aj_cons (ej_var 6) (aj_cons (ej_op op_sub opi_sub (ej_var 1) ej_int) aj_nil))) (ej_var 5)) ej_int) sc_Calendar_changed.nd)
    (ssj_cons (sj_setZ 9 (ej_op opr_add opi_add (ej_op op_sub opi_sub (ej_callB (call_min2 rfl) calli_min rfl T.n_min (by decide +kernel) (aj_cons (ej_var 6) (aj_cons (ej_var 2) aj_nil))) (ej_callB (call_max2 rfl) calli_max rfl T.n_max (by decide +kernel) (aj_cons (ej_var 5) (aj_cons (ej_var 1) aj_nil)))) ej_int) sc_Calendar_changed.nd)
    (ssj_cons (sj_fg [5, 6] (sj_setZ 10 (ej_op opr_add opi_add (ej_op op_sub opi_sub (ej_var 6) (ej_callB (call_max2 rfl) calli_max rfl T.n_max (by decide +kernel) (aj_cons (ej_var 5) (aj_cons (ej_op opr_add opi_add (ej_var 2) ej_int) aj_nil)))) ej_int) sc_Calendar_changed.nd))
    (ssj_one (sj_fg [7, 8, 9, 10] (sj_for poB rfl (fj_list (ej_lst (aj_cons (ej_tup (aj_cons (ej_var 8) (aj_cons (ej_var 7) aj_nil))) (aj_cons (ej_tup (aj_cons (ej_var 9) (aj_cons (ej_callB (call_max2 rfl) calli_max rfl T.n_max (by decide +kernel) (aj_cons ej_int (aj_cons (ej_op opr_add opi_add (ej_var 7) (ej_var 3)) aj_nil))) aj_nil))) (aj_cons (ej_tup (aj_cons (ej_var 10) (aj_cons (ej_var 7) aj_nil))) aj_nil))))) (gj_tup rfl (gsj_cons (gj_name 11 sc_Calendar_changed.nd) (gsj_cons (gj_name 12 sc_Calendar_changed.nd) gsj_nil)))
    (ssj_fg [11, 12] (ssj_one (sj_fg [11, 12] (sj_if (bj_cmp op_gt opi_cmp (ej_var 11) ej_int (nomk _))
    (ssj_one (sj_fg [11, 12] (sj_app 4 (ej_tup (aj_cons (ej_var 11) (aj_cons (ej_var 12) aj_nil))))))
    ssj_nil)))))))))))))
    (ssj_one (sj_fg [0, 4] (sj_frz 4 (sj_ret (ej_cal C_made hr (by decide) hxB rfl (aj_cons (ej_var 4) (aj_cons (ej_at [0] (ej_var 0) (by simp only [List.mem_cons, List.not_mem_nil, or_false, forall_eq_or_imp, forall_eq]; exact T.at_Calendar_for_ever)) aj_nil)) (fA_len (fA_len (fun _ _ h => fN_len h))))))))))
set_option maxHeartbeats 4000000 in
theorem ok_Calendar_fewer {f : Addr} {fd : FuncData} (F : Fun K "fewer" "Calendar.fewer" s_Calendar_fewer f fd) (T : Txt K mg) (C_made : Cal P w K mg base "made" 6 2 F_made) (M_Calendar_changed : Met P w K mg base 0 "changed" 7 4 F_Calendar_changed) : FnOk P w K mg base (L2.CX P w) 8 f fd ["self", "first", "last", "many"] (SpT K 4 (runF 4 b_Calendar_fewer)) := by
  refine fn_T2 (k := 7) F sc_Calendar_fewer rfl rfl (fun cdv A outer s H E hr => ?_)
  conv => enter [3]; whnf
  exact (ssj_cons (sj_if (bj_cmp op_lt opi_cmp (ej_var 2) (ej_var 1) (nomk _))
    (ssj_one (sj_ret (ej_cal C_made hr (by decide) hxB rfl (aj_cons (ej_at [0] (ej_var 0) (by simp only [List.mem_cons, List.not_mem_nil, or_false, forall_eq_or_imp, forall_eq]; exact T.at_Calendar_strips)) (aj_cons (ej_at [0] (ej_var 0) (by simp only [List.mem_cons, List.not_mem_nil, or_false, forall_eq_or_imp, forall_eq]; exact T.at_Calendar_for_ever)) aj_nil)) (fA_len (fA_len (fun _ _ h => fN_len h))))))
    ssj_nil)
    (ssj_one (sj_ret (ej_me M_Calendar_changed hr (by decide) hxB (ej_var 0) (aj_cons (ej_var 1) (aj_cons (ej_var 2) (aj_cons (ej_op op_sub opi_sub ej_int (ej_var 3)) aj_nil))) (fun env rs h => congrArg (· + 1) ((fA_len (fA_len (fA_len (fun _ _ h => fN_len h)))) env rs h))))))
set_option maxHeartbeats 4000000 in
theorem ok_Calendar_more {f : Addr} {fd : FuncData} (F : Fun K "more" "Calendar.more" s_Calendar_more f fd) (T : Txt K mg) (C_made : Cal P w K mg base "made" 6 2 F_made) (M_Calendar_changed : Met P w K mg base 0 "changed" 7 4 F_Calendar_changed) : FnOk P w K mg base (L2.CX P w) 8 f fd ["self", "first", "last", "many"] (SpT K 4 (runF 4 b_Calendar_more)) := by
  refine fn_T2 (k := 7) F sc_Calendar_more rfl rfl (fun cdv A outer s H E hr => ?_)
  conv => enter [3]; whnf
  exact (ssj_cons (sj_if (bj_cmp op_lt opi_cmp (ej_var 2) (ej_var 1) (nomk _))
    (ssj_one (sj_ret (ej_cal C_made hr (by decide) hxB rfl (aj_cons (ej_at [0] (ej_var 0) (by simp only [List.mem_cons, List.not_mem_nil, or_false, forall_eq_or_imp, forall_eq]; exact T.at_Calendar_strips)) (aj_cons (ej_at [0] (ej_var 0) (by simp only [List.mem_cons, List.not_mem_nil, or_false, forall_eq_or_imp, forall_eq]; exact T.at_Calendar_for_ever)) aj_nil)) (fA_len (fA_len (fun _ _ h => fN_len h))))))
    ssj_nil)
    (ssj_one (sj_ret (ej_me M_Calendar_changed hr (by decide) hxB (ej_var 0) (aj_cons (ej_var 1) (aj_cons (ej_var 2) (aj_cons (ej_var 3) aj_nil))) (fun env rs h => congrArg (· + 1) ((fA_len (fA_len (fA_len (fun _ _ h => fN_len h)))) env rs h))))))
set_option maxHeartbeats 4000000 in
theorem ok_Calendar_widened {f : Addr} {fd : FuncData} (F : Fun K "widened" "Calendar.widened" s_Calendar_widened f fd) (T : Txt K mg)  : FnOk P w K mg base (L2.CX P w) 1 f fd ["self", "many"] (SpT K 2 (runF 2 b_Calendar_widened)) := by
  refine fn_T2 (k := 0) F sc_Calendar_widened rfl rfl (fun cdv A outer s H E hr => ?_)
  conv => enter [3]; whnf
  exact (ssj_one sj_never)
set_option maxHeartbeats 4000000 in
theorem ok_q_cell_at {f : Addr} {fd : FuncData} (F : Fun K "_law_cell_at" "_law_cell_at" s_q_cell_at f fd) (T : Txt K mg)  : FnOk P w K mg base (L2.CX P w) 1 f fd ["_law_script", "_law_k"] (SpT K 2 (runF 2 b_q_cell_at)) := by
  refine fn_T2 (k := 0) F sc_q_cell_at rfl rfl (fun cdv A outer s H E hr => ?_)
  conv => enter [3]; whnf
  exact (ssj_cons (sj_fg [0, 1] (sj_if (bj_cmp op_lt opi_cmp (ej_var 1) (ej_callB callr_len calli_len rfl T.n_len (by decide +kernel) (aj_cons (ej_var 0) aj_nil)) (nomk _))
    (ssj_one (sj_ret (ej_ix (ej_var 0) (ej_var 1) (fun _ _ => rfl))))
    ssj_nil))
    (ssj_one (sj_ret ej_int)))
set_option maxHeartbeats 4000000 in
theorem ok_q_whole {f : Addr} {fd : FuncData} (F : Fun K "_law_whole" "_law_whole" s_q_whole f fd) (T : Txt K mg)  : FnOk P w K mg base (L2.CX P w) 1 f fd ["_law_found"] (SpT K 1 (runF 1 b_q_whole)) := by
  refine fn_T2 (k := 0) F sc_q_whole rfl rfl (fun cdv A outer s H E hr => ?_)
  conv => enter [3]; whnf
  exact (ssj_one (sj_ret (ej_and (ej_isa rfl T.n_isinstance (by decide +kernel) rfl T.n_int (by decide +kernel) (by decide +kernel) (ej_var 0)) (ej_one (ej_not (ej_isa rfl T.n_isinstance (by decide +kernel) rfl T.n_bool (by decide +kernel) (by decide +kernel) (ej_var 0)))))))
set_option maxHeartbeats 4000000 in
theorem ok_q_mixed {f : Addr} {fd : FuncData} (F : Fun K "_law_mixed" "_law_mixed" s_q_mixed f fd) (T : Txt K mg)  : FnOk P w K mg base (L2.CX P w) 1 f fd ["_law_cell", "_law_k"] (SpT K 2 (runF 3 b_q_mixed)) := by
  refine fn_T2 (k := 0) F sc_q_mixed rfl rfl (fun cdv A outer s H E hr => ?_)
  conv => enter [3]; whnf
  exact (ssj_cons (sj_fg [0, 1] (sj_setZ 2 (ej_op op_mod opi_mod (ej_op opr_mul opi_mul (ej_op opr_add opi_add (ej_var 0) (ej_op opr_mul opi_mul ej_int (ej_var 1))) ej_int) ej_int) sc_q_mixed.nd))
    (ssj_cons (sj_setZ 2 (ej_op op_mod opi_mod (ej_op opr_mul opi_mul (ej_var 2) (ej_var 2)) ej_int) sc_q_mixed.nd)
    (ssj_one (sj_ret (ej_op op_mod opi_mod (ej_op opr_add opi_add (ej_op opr_add opi_add (ej_op opr_mul opi_mul (ej_var 2) (ej_var 2)) (ej_op opr_mul opi_mul ej_int (ej_var 2))) ej_int) ej_int)))))
set_option maxHeartbeats 4000000 in
theorem ok_q_names {f : Addr} {fd : FuncData} (F : Fun K "_law_names" "_law_names" s_q_names f fd) (T : Txt K mg) (C_q_mixed : Cal P w K mg base "_law_mixed" 1 2 F_q_mixed) : FnOk P w K mg base (L2.CX P w) 2 f fd ["_law_cell", "_law_many"] (SpT K 2 (runF 10 b_q_names)) := by
  refine fn_T2 (k := 1) F sc_q_names rfl rfl (fun cdv A outer s H E hr => ?_)
  conv => enter [3]; whnf
  exact (ssj_cons (sj_setZ 2 (ej_str (by decide +kernel)) sc_q_names.nd)
    (ssj_cons (sj_setZ 3 (ej_join (ej_str (by decide +kernel)) (ej_comp [("_law_j", 9)] rfl sc_q_names.nd (fj_range1 rfl T.n_range ej_int) (blkOk_by (by decide +kernel : blkC ["_law_cell", "_law_many", "_law_signs", "_law_base", "_law_first", "_law_at", "_law_names_here", "_law_k", "_law_sign", "_law_j"] (defScope s_q_names) _ _ = true)) (by decide) (fun _ _ _ _ _ => (gj_name 9 sc_q_names.nd)) (fun _ _ _ _ _ => tsj_nil) (fun _ _ _ _ _ => (ej_ix (ej_var 2) (ej_op op_mod opi_mod (ej_cal0 C_q_mixed hr (by decide) rfl (aj_cons (ej_var 0) (aj_cons (ej_var 9) aj_nil)) (fA_len (fA_len (fun _ _ h => fN_len h)))) ej_int) (fun _ _ => rfl))))) sc_q_names.nd)
    (ssj_cons (sj_setZ 4 (ej_ix (ej_var 2) (ej_op op_mod opi_mod (ej_cal C_q_mixed hr (by decide) hxB rfl (aj_cons (ej_var 0) (aj_cons ej_int aj_nil)) (fA_len (fA_len (fun _ _ h => fN_len h)))) ej_int) (fun _ _ => rfl)) sc_q_names.nd)
    (ssj_cons (sj_if (WJ.bj (wj_and (bj_cmp (op_eqD (hu64 hr)) opi_eq (ej_op op_mod opi_mod (ej_var 0) ej_int) ej_int (nomk _)) (wj_and1 (bj_cmp op_lt opi_cmp (ej_var 1) ej_int (nomk _)))))
    (ssj_one (sj_ret (ej_comp [("_law_k", 7)] rfl sc_q_names.nd (fj_range1 rfl T.n_range (ej_var 1)) (blkOk_by (by decide +kernel : blkC ["_law_cell", "_law_many", "_law_signs", "_law_base", "_law_first", "_law_at", "_law_names_here", "_law_k", "_law_sign", "_law_j"] (defScope s_q_names) _ _ = true)) (by decide) (fun _ _ _ _ _ => (gj_name 7 sc_q_names.nd)) (fun _ _ _ _ _ => tsj_nil) (fun _ _ _ _ _ => (ej_op opr_add opi_add (ej_var 4) (ej_slice (ej_var 3) oj_none (oj_some (ej_var 7))))))))
    ssj_nil)
    (ssj_cons (sj_setZ 5 (ej_op op_mod opi_mod (ej_op op_fdiv opi_fdiv (ej_var 0) ej_int) ej_int) sc_q_names.nd)
    (ssj_cons (sj_set 6 (ej_lst aj_nil) sc_q_names.nd)
    (ssj_cons (sj_fg [0, 1, 2, 3, 4, 5] (sj_for poB rfl (fj_range1 rfl T.n_range (ej_var 1)) (gj_name 7 sc_q_names.nd)
    (ssj_fg [7, 8] (ssj_cons (sj_fg [7] (sj_setZ 8 (ej_ix (ej_var 2) (ej_op op_mod opi_mod (ej_op opr_add opi_add (ej_var 0) (ej_op opr_mul opi_mul ej_int (ej_var 7))) ej_int) (fun _ _ => rfl)) sc_q_names.nd))
    (ssj_one (sj_fg [8] (sj_app 6 (ej_op opr_add opi_add (ej_op opr_add opi_add (ej_op opr_add opi_add (ej_var 4) (ej_slice (ej_var 3) oj_none (oj_some (ej_var 5)))) (ej_var 8)) (ej_slice (ej_var 3) (oj_some (ej_op opr_add opi_add (ej_var 5) ej_int)) oj_none)))))))))
    (ssj_one (sj_ret (ej_var 6))))))))))
set_option maxHeartbeats 4000000 in
theorem ok_q_rows {f : Addr} {fd : FuncData} (F : Fun K "_law_rows" "_law_rows" s_q_rows f fd) (T : Txt K mg) (C_q_mixed : Cal P w K mg base "_law_mixed" 1 2 F_q_mixed) : FnOk P w K mg base (L2.CX P w) 2 f fd ["_law_cell"] (SpT K 1 (runF 6 b_q_rows)) := by
  refine fn_T2 (k := 1) F sc_q_rows rfl rfl (fun cdv A outer s H E hr => ?_)
  conv => enter [3]; whnf
  exact (ssj_cons (sj_setZ 1 ej_int sc_q_rows.nd)
    (ssj_cons (sj_if (bj_cmp (op_eqD (hu64 hr)) opi_eq (ej_op op_mod opi_mod (ej_op op_fdiv opi_fdiv (ej_var 0) ej_int) ej_int) ej_int (nomk _))
    (ssj_one (sj_setZ 1 (ej_op opr_add opi_add ej_int (ej_op op_mod opi_mod (ej_cal C_q_mixed hr (by decide) hxB rfl (aj_cons (ej_var 0) (aj_cons ej_int aj_nil)) (fA_len (fA_len (fun _ _ h => fN_len h)))) ej_int)) sc_q_rows.nd))
    ssj_nil)
    (ssj_cons (sj_set 2 (ej_lst aj_nil) sc_q_rows.nd)
    (ssj_cons (sj_for poB rfl (fj_range1 rfl T.n_range (ej_op op_mod opi_mod (ej_var 0) ej_int)) (gj_name 3 sc_q_rows.nd)
    (ssj_fg [3, 4] (ssj_cons (sj_setZ 4 (ej_op op_and opi_band (ej_op op_shr opi_shr (ej_op op_fdiv opi_fdiv (ej_var 0) ej_int) (ej_op opr_mul opi_mul ej_int (ej_var 3))) ej_int) sc_q_rows.nd)
    (ssj_cons (sj_fg [3] (sj_if (bj_cmp (op_eqD (hu64 hr)) opi_eq (ej_op op_mod opi_mod (ej_op op_fdiv opi_fdiv (ej_var 0) ej_int) ej_int) ej_int (nomk _))
    (ssj_one (sj_fg [3] (sj_setZ 4 (ej_cal C_q_mixed hr (by decide) hxB rfl (aj_cons (ej_var 0) (aj_cons (ej_op opr_add opi_add ej_int (ej_var 3)) aj_nil)) (fA_len (fA_len (fun _ _ h => fN_len h)))) sc_q_rows.nd)))
    ssj_nil))
    (ssj_one (sj_fg [4] (sj_app 2 (ej_tup (aj_cons (ej_op opr_mul opi_mul (ej_var 1) (ej_op opr_add opi_add ej_int (ej_op op_mod opi_mod (ej_var 4) ej_int))) (aj_cons (ej_op op_mod opi_mod (ej_op op_fdiv opi_fdiv (ej_var 4) ej_int) ej_int) aj_nil))))))))))
    (ssj_cons (sj_setZ 5 (ej_op opr_add opi_add ej_int (ej_op op_mod opi_mod (ej_op op_fdiv opi_fdiv (ej_var 0) ej_int) ej_int)) sc_q_rows.nd)
    (ssj_cons (sj_fg [0] (sj_if (bj_cmp (op_eqD (hu64 hr)) opi_eq (ej_op op_mod opi_mod (ej_op op_fdiv opi_fdiv (ej_var 0) ej_int) ej_int) ej_int (nomk _))
    (ssj_one (sj_setZ 5 ej_int sc_q_rows.nd))
    ssj_nil))
    (ssj_one (sj_fg [1, 2, 5] (sj_frz 2 (sj_ret (ej_tup (aj_cons (ej_var 2) (aj_cons (ej_var 5) (aj_cons (ej_var 1) aj_nil))))))))))))))
set_option maxHeartbeats 4000000 in
theorem ok_q_load {f : Addr} {fd : FuncData} (F : Fun K "_law_load" "_law_load" s_q_load f fd) (T : Txt K mg) (C_q_cell_at : Cal P w K mg base "_law_cell_at" 1 2 F_q_cell_at) (C_q_mixed : Cal P w K mg base "_law_mixed" 1 2 F_q_mixed) (C_q_names : Cal P w K mg base "_law_names" 2 2 F_q_names) : FnOk P w K mg base (L2.CX P w) 3 f fd ["_law_script", "_law_by"] (SpT K 2 (runF 13 b_q_load)) := by
  refine fn_T2 (k := 2) F sc_q_load rfl rfl (fun cdv A outer s H E hr => ?_)
  conv => enter [3]; whnf
  exact (ssj_cons (sj_setZ 2 (ej_cal C_q_cell_at hr (by decide) hxB rfl (aj_cons (ej_var 0) (aj_cons ej_int aj_nil)) (fA_len (fA_len (fun _ _ h => fN_len h)))) sc_q_load.nd)
    (ssj_cons (sj_setZ 3 (ej_op op_mod opi_mod (ej_var 2) ej_int) sc_q_load.nd)
    (ssj_cons (sj_if (bj_cmp (op_eqD (hu64 hr)) opi_eq (ej_op op_mod opi_mod (ej_op op_fdiv opi_fdiv (ej_var 2) ej_int) ej_int) ej_int (nomk _))
    (ssj_one (sj_setZ 3 ej_int sc_q_load.nd))
    ssj_nil)
    (ssj_cons (sj_setZ 4 ej_int sc_q_load.nd)
    (ssj_cons (sj_if (bj_cmp (op_eqD (hu64 hr)) opi_eq (ej_op op_mod opi_mod (ej_op op_fdiv opi_fdiv (ej_var 2) ej_int) ej_int) ej_int (nomk _))
    (ssj_one (sj_setZ 4 (ej_op op_mod opi_mod (ej_cal C_q_mixed hr (by decide) hxB rfl (aj_cons (ej_var 2) (aj_cons ej_int aj_nil)) (fA_len (fA_len (fun _ _ h => fN_len h)))) (ej_op opr_mul opi_mul ej_int (ej_op op_pow opi_pow ej_int ej_int))) sc_q_load.nd))
    ssj_nil)
    (ssj_cons (sj_setZ 5 (ej_cal C_q_names hr (by decide) hxB rfl (aj_cons (ej_cal C_q_cell_at hr (by decide) hxB rfl (aj_cons (ej_var 0) (aj_cons ej_int aj_nil)) (fA_len (fA_len (fun _ _ h => fN_len h)))) (aj_cons (ej_var 3) aj_nil)) (fA_len (fA_len (fun _ _ h => fN_len h)))) sc_q_load.nd)
    (ssj_cons (sj_set 6 (ej_lst aj_nil) sc_q_load.nd)
    (ssj_cons (sj_fg [0, 1, 2, 3, 4, 5] (sj_for poB rfl (fj_range1 rfl T.n_range (ej_var 3)) (gj_name 7 sc_q_load.nd)
    (ssj_fg [7, 8, 9, 10, 11, 12] (ssj_cons (sj_setZ 8 (ej_cal C_q_cell_at hr (by decide) hxB rfl (aj_cons (ej_var 0) (aj_cons (ej_op opr_add opi_add ej_int (ej_var 7)) aj_nil)) (fA_len (fA_len (fun _ _ h => fN_len h)))) sc_q_load.nd)
    (ssj_cons (sj_if (bj_cmp (op_eqD (hu64 hr)) opi_eq (ej_op op_mod opi_mod (ej_op op_fdiv opi_fdiv (ej_var 2) ej_int) ej_int) ej_int (nomk _))
    (ssj_one (sj_setZ 8 (ej_cal C_q_mixed hr (by decide) hxB rfl (aj_cons (ej_var 8) (aj_cons (ej_var 7) aj_nil)) (fA_len (fA_len (fun _ _ h => fN_len h)))) sc_q_load.nd))
    ssj_nil)
    (ssj_cons (sj_setZ 9 (ej_op opr_add opi_add (ej_var 4) (ej_op opr_mul opi_mul (ej_var 1) (ej_op op_mod opi_mod (ej_var 8) ej_int))) sc_q_load.nd)
    (ssj_cons (sj_setZ 10 (ej_op op_sub opi_sub (ej_op opr_add opi_add (ej_var 9) (ej_op opr_mul opi_mul (ej_var 1) (ej_op opr_add opi_add ej_int (ej_op op_mod opi_mod (ej_op op_fdiv opi_fdiv (ej_var 8) ej_int) ej_int)))) ej_int) sc_q_load.nd)
    (ssj_cons (sj_if (bj_cmp (op_eqD (hu64 hr)) opi_eq (ej_op op_mod opi_mod (ej_op op_fdiv opi_fdiv (ej_var 8) ej_int) ej_int) ej_int (nomk _))
    (ssj_one (sj_setZ 10 (ej_op op_sub opi_sub (ej_var 9) ej_int) sc_q_load.nd))
    ssj_nil)
    (ssj_cons (sj_setZ 11 (ej_op opr_add opi_add ej_int (ej_op op_mod opi_mod (ej_op op_fdiv opi_fdiv (ej_var 8) ej_int) (ej_ix (ej_lst (aj_cons ej_int (aj_cons ej_int (aj_cons ej_int aj_nil)))) (ej_op op_mod opi_mod (ej_op op_fdiv opi_fdiv (ej_var 8) ej_int) ej_int) (fun _ _ => rfl)))) sc_q_load.nd)
    (ssj_cons (sj_fg [8] (sj_setZ 12 (ej_op opr_add opi_add ej_int (ej_op op_mod opi_mod (ej_op op_fdiv opi_fdiv (ej_var 8) ej_int) (ej_ix (ej_lst (aj_cons ej_int (aj_cons ej_int (aj_cons ej_int (aj_cons ej_int aj_nil))))) (ej_op op_mod opi_mod (ej_op op_fdiv opi_fdiv (ej_var 8) ej_int) ej_int) (fun _ _ => rfl)))) sc_q_load.nd))
    (ssj_one (sj_fg [7, 9, 10, 11, 12] (sj_app 6 (ej_tup (aj_cons (ej_ix (ej_var 5) (ej_var 7) (fun _ _ => rfl)) (aj_cons (ej_var 9) (aj_cons (ej_var 10) (aj_cons (ej_var 11) (aj_cons (ej_var 12) aj_nil)))))))))))))))))))
    (ssj_one (sj_ret (ej_var 6)))))))))))
set_option maxHeartbeats 4000000 in
theorem ok_q_over {f : Addr} {fd : FuncData} (F : Fun K "_law_over" "_law_over" s_q_over f fd) (T : Txt K mg)  : FnOk P w K mg base (L2.CX P w) 1 f fd ["_law_rows_here", "_law_rest", "_law_first", "_law_last"] (SpT K 4 (runF 8 b_q_over)) := by
  refine fn_T2 (k := 0) F sc_q_over rfl rfl (fun cdv A outer s H E hr => ?_)
  conv => enter [3]; whnf
  exact (ssj_cons (sj_setZ 4 ej_int sc_q_over.nd)
    (ssj_cons (sj_setZ 5 ej_int sc_q_over.nd)
    (ssj_cons (sj_fg [0] (sj_for poB rfl (fj_list (ej_var 0)) (gj_tup rfl (gsj_cons (gj_name 6 sc_q_over.nd) (gsj_cons (gj_name 7 sc_q_over.nd) gsj_nil)))
    (ssj_fg [6, 7] (ssj_cons (sj_fg [7] (sj_setZ 4 (ej_op opr_add opi_add (ej_var 4) (ej_op opr_mul opi_mul (ej_var 7) (ej_callB (call_max2 rfl) calli_max rfl T.n_max (by decide +kernel) (aj_cons ej_int (aj_cons (ej_op opr_add opi_add (ej_op op_sub opi_sub (ej_callB (call_min2 rfl) calli_min rfl T.n_min (by decide +kernel) (aj_cons (ej_var 3) (aj_cons (ej_op op_sub opi_sub (ej_op opr_add opi_add (ej_var 5) (ej_var 6)) ej_int) aj_nil))) (ej_callB (call_max2 rfl) calli_max rfl T.n_max (by decide +kernel) (aj_cons (ej_var 2) (aj_cons (ej_var 5) aj_nil)))) ej_int) aj_nil))))) sc_q_over.nd))
    (ssj_one (sj_fg [6] (sj_setZ 5 (ej_op opr_add opi_add (ej_var 5) (ej_var 6)) sc_q_over.nd)))))))
    (ssj_one (sj_ret (ej_op opr_add opi_add (ej_var 4) (ej_op opr_mul opi_mul (ej_var 1) (ej_callB (call_max2 rfl) calli_max rfl T.n_max (by decide +kernel) (aj_cons ej_int (aj_cons (ej_op opr_add opi_add (ej_op op_sub opi_sub (ej_var 3) (ej_callB (call_max2 rfl) calli_max rfl T.n_max (by decide +kernel) (aj_cons (ej_var 2) (aj_cons (ej_var 5) aj_nil)))) ej_int) aj_nil))))))))))
set_option maxHeartbeats 4000000 in
theorem ok_q_inside {f : Addr} {fd : FuncData} (F : Fun K "_law_inside" "_law_inside" s_q_inside f fd) (T : Txt K mg)  : FnOk P w K mg base (L2.CX P w) 1 f fd ["_law_job", "_law_spans_here"] (SpT K 2 (runF 4 b_q_inside)) := by
  refine fn_T2 (k := 0) F sc_q_inside rfl rfl (fun cdv A outer s H E hr => ?_)
  conv => enter [3]; whnf
  exact (ssj_one (sj_ret (ej_callB (cr_sum rfl) calli_sum rfl T.n_sum (by decide +kernel) (aj_cons (ej_comp [("_law_first", 2), ("_law_last", 3)] rfl sc_q_inside.nd (fj_list (ej_var 1)) (blkOk_by (by decide +kernel : blkC ["_law_job", "_law_spans_here", "_law_first", "_law_last"] (defScope s_q_inside) _ _ = true)) (by decide) (fun _ _ _ _ _ => (gj_tup rfl (gsj_cons (gj_name 2 sc_q_inside.nd) (gsj_cons (gj_name 3 sc_q_inside.nd) gsj_nil)))) (fun _ _ _ _ _ => tsj_nil) (fun _ _ _ _ _ => (ej_callB (call_max2 rfl) calli_max rfl T.n_max (by decide +kernel) (aj_cons ej_int (aj_cons (ej_op opr_add opi_add (ej_op op_sub opi_sub (ej_callB (call_min2 rfl) calli_min rfl T.n_min (by decide +kernel) (aj_cons (ej_ix (ej_var 0) ej_int (fun _ _ => rfl)) (aj_cons (ej_var 3) aj_nil))) (ej_callB (call_max2 rfl) calli_max rfl T.n_max (by decide +kernel) (aj_cons (ej_ix (ej_var 0) ej_int (fun _ _ => rfl)) (aj_cons (ej_var 2) aj_nil)))) ej_int) aj_nil))))) aj_nil))))
set_option maxHeartbeats 4000000 in
theorem ok_q_excess {f : Addr} {fd : FuncData} (F : Fun K "_law_excess" "_law_excess" s_q_excess f fd) (T : Txt K mg) (C_q_inside : Cal P w K mg base "_law_inside" 1 2 F_q_inside) : FnOk P w K mg base (L2.CX P w) 2 f fd ["_law_job", "_law_spans_here"] (SpT K 2 (runF 3 b_q_excess)) := by
  refine fn_T2 (k := 1) F sc_q_excess rfl rfl (fun cdv A outer s H E hr => ?_)
  conv => enter [3]; whnf
  exact (ssj_cons (sj_setZ 2 (ej_callB (call_max2 rfl) calli_max rfl T.n_max (by decide +kernel) (aj_cons ej_int (aj_cons (ej_op opr_add opi_add (ej_op op_sub opi_sub (ej_ix (ej_var 0) ej_int (fun _ _ => rfl)) (ej_ix (ej_var 0) ej_int (fun _ _ => rfl))) ej_int) aj_nil))) sc_q_excess.nd)
    (ssj_one (sj_ret (ej_callB (call_max2 rfl) calli_max rfl T.n_max (by decide +kernel) (aj_cons ej_int (aj_cons (ej_op op_sub opi_sub (ej_ix (ej_var 0) ej_int (fun _ _ => rfl)) (ej_op opr_mul opi_mul (ej_ix (ej_var 0) ej_int (fun _ _ => rfl)) (ej_op op_sub opi_sub (ej_var 2) (ej_cal C_q_inside hr (by decide) hxB rfl (aj_cons (ej_var 0) (aj_cons (ej_var 1) aj_nil)) (fA_len (fA_len (fun _ _ h => fN_len h))))))) aj_nil))))))
set_option maxHeartbeats 4000000 in
theorem ok_q_overflow {f : Addr} {fd : FuncData} (F : Fun K "_law_overflow" "_law_overflow" s_q_overflow f fd) (T : Txt K mg) (C_q_excess : Cal P w K mg base "_law_excess" 2 2 F_q_excess) (C_q_over : Cal P w K mg base "_law_over" 1 4 F_q_over) : FnOk P w K mg base (L2.CX P w) 3 f fd ["_law_load_here", "_law_rows_here", "_law_rest", "_law_spans_here"] (SpT K 4 (runF 8 b_q_overflow)) := by
  refine fn_T2 (k := 2) F sc_q_overflow rfl rfl (fun cdv A outer s H E hr => ?_)
  conv => enter [3]; whnf
  exact (ssj_cons (sj_fg [0] (sj_setZ 4 (ej_callB (cr_sum rfl) calli_sum rfl T.n_sum (by decide +kernel) (aj_cons (ej_comp [("_law_job", 7)] rfl sc_q_overflow.nd (fj_list (ej_var 0)) (blkOk_by (by decide +kernel : blkC ["_law_load_here", "_law_rows_here", "_law_rest", "_law_spans_here", "_law_total", "_law_first", "_law_last", "_law_job"] (defScope s_q_overflow) _ _ = true)) (by decide) (fun _ _ _ _ _ => (gj_name 7 sc_q_overflow.nd)) (fun _ _ _ _ _ => tsj_nil) (fun _ _ _ _ _ => (ej_cal0 C_q_excess hr (by decide) rfl (aj_cons (ej_var 7) (aj_cons (ej_var 3) aj_nil)) (fA_len (fA_len (fun _ _ h => fN_len h)))))) aj_nil)) sc_q_overflow.nd))
    (ssj_cons (sj_fg [1, 2, 3] (sj_for poB rfl (fj_list (ej_var 3)) (gj_tup rfl (gsj_cons (gj_name 5 sc_q_overflow.nd) (gsj_cons (gj_name 6 sc_q_overflow.nd) gsj_nil)))
    (ssj_fg [5, 6] (ssj_one (sj_fg [5, 6] (sj_setZ 4 (ej_op op_sub opi_sub (ej_var 4) (ej_cal C_q_over hr (by decide) hxB rfl (aj_cons (ej_var 1) (aj_cons (ej_var 2) (aj_cons (ej_var 5) (aj_cons (ej_var 6) aj_nil)))) (fA_len (fA_len (fA_len (fA_len (fun _ _ h => fN_len h))))))) sc_q_overflow.nd))))))
    (ssj_one (sj_ret (ej_var 4)))))
set_option maxHeartbeats 4000000 in
theorem ok_q_spans {f : Addr} {fd : FuncData} (F : Fun K "_law_spans" "_law_spans" s_q_spans f fd) (T : Txt K mg) (C_q_mixed : Cal P w K mg base "_law_mixed" 1 2 F_q_mixed) : FnOk P w K mg base (L2.CX P w) 2 f fd ["_law_cell", "_law_start", "_law_by"] (SpT K 3 (runF 9 b_q_spans)) := by
  refine fn_T2 (k := 1) F sc_q_spans rfl rfl (fun cdv A outer s H E hr => ?_)
  conv => enter [3]; whnf
  exact (ssj_cons (sj_set 3 (ej_lst aj_nil) sc_q_spans.nd)
    (ssj_cons (sj_fg [1] (sj_setZ 4 (ej_var 1) sc_q_spans.nd))
    (ssj_cons (sj_fg [0, 2, 4] (sj_for poB rfl (fj_range1 rfl T.n_range (ej_op op_mod opi_mod (ej_var 0) ej_int)) (gj_name 5 sc_q_spans.nd)
    (ssj_fg [5, 6, 7, 8] (ssj_cons (sj_fg [5] (sj_setZ 6 (ej_cal C_q_mixed hr (by decide) hxB rfl (aj_cons (ej_var 0) (aj_cons (ej_op opr_add opi_add ej_int (ej_var 5)) aj_nil)) (fA_len (fA_len (fun _ _ h => fN_len h)))) sc_q_spans.nd))
    (ssj_cons (sj_fg [4] (sj_setZ 7 (ej_op opr_add opi_add (ej_op opr_add opi_add (ej_var 4) (ej_op opr_mul opi_mul (ej_var 2) (ej_op op_mod opi_mod (ej_var 6) ej_int))) (ej_callTy call_int1 calli_int rfl T.n_int (by decide +kernel) (aj_cons (ej_cmp (op_neD (hu64 hr)) opi_ne (ej_var 3) (ej_lst aj_nil) (nomk _)) aj_nil))) sc_q_spans.nd))
    (ssj_cons (sj_fg [6] (sj_setZ 8 (ej_op op_sub opi_sub (ej_op opr_add opi_add (ej_var 7) (ej_op opr_mul opi_mul (ej_var 2) (ej_op opr_add opi_add ej_int (ej_op op_mod opi_mod (ej_op op_fdiv opi_fdiv (ej_var 6) ej_int) ej_int)))) ej_int) sc_q_spans.nd))
    (ssj_cons (sj_fg [7] (sj_app 3 (ej_tup (aj_cons (ej_var 7) (aj_cons (ej_var 8) aj_nil)))))
    (ssj_one (sj_fg [8] (sj_setZ 4 (ej_op opr_add opi_add (ej_var 8) ej_int) sc_q_spans.nd))))))))))
    (ssj_one (sj_ret (ej_var 3))))))
set_option maxHeartbeats 4000000 in
theorem ok_q_law {f : Addr} {fd : FuncData} (F : Fun K "law" "law" s_q_law f fd) (T : Txt K mg) (C_q_cell_at : Cal P w K mg base "_law_cell_at" 1 2 F_q_cell_at) (C_q_rows : Cal P w K mg base "_law_rows" 2 1 F_q_rows) (C_q_load : Cal P w K mg base "_law_load" 3 2 F_q_load) (C_q_spans : Cal P w K mg base "_law_spans" 2 3 F_q_spans) (K_Calendar : Mak P w K mg base "Calendar" 0 4 3 F_Calendar_init) (C_q_overflow : Cal P w K mg base "_law_overflow" 3 4 F_q_overflow) (C_overflow : Cal P w K mg base "overflow" 5 3 F_overflow) (C_q_whole : Cal P w K mg base "_law_whole" 1 1 F_q_whole) : FnOk P w K mg base (L2.CX P w) 6 f fd ["_law_script"] (SpT K 1 (runO 14 b_q_law)) := by
  refine fn_O (k := 5) F sc_q_law rfl rfl (by decide) (fun cdv A outer s H E hr => ?_)
  conv => enter [3]; whnf
  exact (ssj_cons (sj_unp (ej_cal C_q_rows hr (by decide) hxB rfl (aj_cons (ej_cal C_q_cell_at hr (by decide) hxB rfl (aj_cons (ej_var 0) (aj_cons ej_int aj_nil)) (fA_len (fA_len (fun _ _ h => fN_len h)))) aj_nil) (fA_len (fun _ _ h => fN_len h))) (gj_tup rfl (gsj_cons (gj_name 1 sc_q_law.nd) (gsj_cons (gj_name 2 sc_q_law.nd) (gsj_cons (gj_name 3 sc_q_law.nd) gsj_nil)))))
    (ssj_cons (sj_setZ 4 (ej_cal C_q_load hr (by decide) hxB rfl (aj_cons (ej_var 0) (aj_cons (ej_var 3) aj_nil)) (fA_len (fA_len (fun _ _ h => fN_len h)))) sc_q_law.nd)
    (ssj_cons (sj_setZ 5 (ej_callB (cr_min rfl) calli_min1 rfl T.n_min (by decide +kernel) (aj_cons (ej_op opr_add opi_add (ej_comp [("_law_job", 12)] rfl sc_q_law.nd (fj_list (ej_var 4)) (blkOk_by (by decide +kernel : blkC ["_law_script", "_law_rows_here", "_law_rest", "_law_by", "_law_load_here", "_law_start", "_law_spans_here", "_law_calendar", "_law_handed", "_law_due", "_law_found", "_law_bare", "_law_job", "#"] (defScope s_q_law) _ _ = true)) (by decide) (fun _ _ _ _ _ => (gj_name 12 sc_q_law.nd)) (fun _ _ _ _ _ => tsj_nil) (fun _ _ _ _ _ => (ej_ix (ej_var 12) ej_int (fun _ _ => rfl)))) (ej_lst (aj_cons (ej_op op_pow opi_pow ej_int ej_int) aj_nil))) aj_nil)) sc_q_law.nd)
    (ssj_cons (sj_if (bj_cmp (op_eqD (hu64 hr)) opi_eq (ej_var 4) (ej_lst aj_nil) (nomk _))
    (ssj_one (sj_setZ 5 ej_int sc_q_law.nd))
    ssj_nil)
    (ssj_cons (sj_fg [0, 3, 5] (sj_setZ 6 (ej_cal C_q_spans hr (by decide) hxB rfl (aj_cons (ej_cal C_q_cell_at hr (by decide) hxB rfl (aj_cons (ej_var 0) (aj_cons ej_int aj_nil)) (fA_len (fA_len (fun _ _ h => fN_len h)))) (aj_cons (ej_var 5) (aj_cons (ej_var 3) aj_nil))) (fA_len (fA_len (fA_len (fun _ _ h => fN_len h))))) sc_q_law.nd))
    (ssj_cons (sj_setZ 7 (ej_mk K_Calendar hr (by decide) hxB rfl (aj_cons (ej_callTy call_list_of calli_list rfl T.n_list (by decide +kernel) (aj_cons (ej_var 1) aj_nil)) (aj_cons (ej_var 2) aj_nil)) (fun env rs h => congrArg (· + 1) ((fA_len (fA_len (fun _ _ h => fN_len h))) env rs h))) sc_q_law.nd)
    (ssj_cons (sj_setW 8 (ew_lst (aw_cons (ew_new 13 (ej_callTy call_list_of calli_list rfl T.n_list (by decide +kernel) (aj_cons (ej_var 4) aj_nil))) (aw_cons (ew_new 13 (ej_callTy call_list_of calli_list rfl T.n_list (by decide +kernel) (aj_cons (ej_var 6) aj_nil))) aw_nil))) sc_q_law.nd)
    (ssj_cons (sj_setZ 9 (ej_cal C_q_overflow hr (by decide) hxB rfl (aj_cons (ej_var 4) (aj_cons (ej_var 1) (aj_cons (ej_var 2) (aj_cons (ej_var 6) aj_nil)))) (fA_len (fA_len (fA_len (fA_len (fun _ _ h => fN_len h)))))) sc_q_law.nd)
    (ssj_cons (sj_setZ 10 (ej_cal C_overflow hr (by decide) hxB rfl (aj_cons (ej_dr 13 (ej_ix (ej_var 8) ej_int (fun _ _ => rfl))) (aj_cons (ej_var 7) (aj_cons (ej_dr 13 (ej_ix (ej_var 8) ej_int (fun _ _ => rfl))) aj_nil))) (fA_len (fA_len (fA_len (fun _ _ h => fN_len h))))) sc_q_law.nd)
    (ssj_cons (sj_fg [10] (sj_if (WJ.bj (wj_or (bj_not (bj_call (ej_cal C_q_whole hr (by decide) hxB rfl (aj_cons (ej_var 10) aj_nil) (fA_len (fun _ _ h => fN_len h))))) (wj_or (bj_cmp (op_neD (hu64 hr)) opi_ne (ej_var 10) (ej_var 9) (nomk _)) (wj_or1 (bj_neP (hu64 hr) 13 (ej_var 8) (ej_lst (aj_cons (ej_var 4) (aj_cons (ej_var 6) aj_nil))) (nomk _))))))
    (ssj_one (sj_ret ej_bl))
    ssj_nil))
    (ssj_cons (sj_setZ 11 (ej_cal C_overflow hr (by decide) hxB rfl (aj_cons (ej_dr 13 (ej_ix (ej_var 8) ej_int (fun _ _ => rfl))) (aj_cons (ej_var 7) (aj_cons (ej_lst aj_nil) aj_nil))) (fA_len (fA_len (fA_len (fun _ _ h => fN_len h))))) sc_q_law.nd)
    (ssj_cons (sj_cClr 13 (ej_ix (ej_var 8) ej_int (fun _ _ => rfl)))
    (ssj_cons (sj_cClr 13 (ej_ix (ej_var 8) ej_int (fun _ _ => rfl)))
    (ssj_cons (sj_fg [1, 2, 8, 11] (sj_if (WJ.bj (wj_or (bj_cmp (op_neD (hu64 hr)) opi_ne (ej_var 11) (ej_cal C_q_overflow hr (by decide) hxB rfl (aj_cons (ej_var 4) (aj_cons (ej_var 1) (aj_cons (ej_var 2) (aj_cons (ej_lst aj_nil) aj_nil)))) (fA_len (fA_len (fA_len (fA_len (fun _ _ h => fN_len h)))))) (nomk _)) (wj_or (bj_cmp op_lt opi_cmp (ej_var 11) ej_int (nomk _)) (wj_or1 (bj_cmp (op_neD (hu64 hr)) opi_ne (ej_cal C_overflow hr (by decide) hxB rfl (aj_cons (ej_dr 13 (ej_ix (ej_var 8) ej_int (fun _ _ => rfl))) (aj_cons (ej_var 7) (aj_cons (ej_dr 13 (ej_ix (ej_var 8) ej_int (fun _ _ => rfl))) aj_nil))) (fA_len (fA_len (fA_len (fun _ _ h => fN_len h))))) ej_int (nomk _))))))
    (ssj_one (sj_ret ej_bl))
    ssj_nil))
    (ssj_one (sj_ret (ej_cmp (op_eqD (hu64 hr)) opi_eq (ej_cal C_overflow hr (by decide) hxB rfl (aj_cons (ej_callTy call_list_of calli_list rfl T.n_list (by decide +kernel) (aj_cons (ej_var 4) aj_nil)) (aj_cons (ej_var 7) (aj_cons (ej_callTy call_list_of calli_list rfl T.n_list (by decide +kernel) (aj_cons (ej_var 6) aj_nil)) aj_nil))) (fA_len (fA_len (fA_len (fun _ _ h => fN_len h))))) (ej_var 9) (nomk _))))))))))))))))))
end
set_option maxHeartbeats 4000000 in
theorem all_mk {l : PySem.W.OpenLaw} {w : World} {K : PySem.W.Frag} {h : Heap} {mg : Str → Option Value} {fa f0 f1 f2 f3 f4 f5 f6 f7 f8 f9 f10 f11 f12 f13 f14 f15 f16 f17 f18 f19 f20 f21 f22 f23 f24 f25 f26 f27 f28 f29 f30 f31 f32 f33 f34 f35 f36 f37 f38 f39 f40 : Addr} (X : K.In h) (G : h.Ns mainGlobals mg) (hfa : mg "law" = some (.ref fa))
    {od0 an0 od1 an1 od2 an2 od3 an3 od4 an4 od5 an5 od6 an6 od7 an7 od8 an8 od9 an9 od10 an10 od11 an11 od12 an12 od13 an13 od14 an14 od15 an15 od16 an16 od17 an17 od18 an18 od19 an19 od20 an20 od21 an21 od22 an22 od23 an23 od24 an24 od25 an25 od26 an26 od27 an27 od28 an28 od29 an29 od30 an30 od31 an31 od32 an32 od33 an33 od34 an34 od35 an35 od36 an36 od37 an37 od38 an38 od39 an39 od40 an40 : Option Addr} {sl0 sl1 sl2 sl3 sl4 sl5 sl6 sl7 sl8 sl9 sl10 sl11 sl12 sl13 sl14 sl15 sl16 sl17 sl18 sl19 sl20 sl21 sl22 sl23 sl24 sl25 sl26 sl27 sl28 sl29 sl30 sl31 sl32 sl33 sl34 sl35 sl36 sl37 sl38 sl39 sl40 : Array (Option Value)} {cCalendar cNoName cNoNumber cNoCalendar cTooMany cTwice : Addr} {oc0 kV0 dc0 pm0 cd0 ct0 oc1 kV1 dc1 pm1 cd1 ct1 oc2 kV2 dc2 pm2 cd2 ct2 oc3 kV3 dc3 pm3 cd3 ct3 oc4 kV4 dc4 pm4 cd4 ct4 oc5 kV5 dc5 pm5 cd5 ct5 oc6 kV6 dc6 pm6 cd6 ct6 oc7 kV7 dc7 pm7 cd7 ct7 oc8 kV8 dc8 pm8 cd8 ct8 oc9 kV9 dc9 pm9 cd9 ct9 oc10 kV10 dc10 pm10 cd10 ct10 oc11 kV11 dc11 pm11 cd11 ct11 oc12 kV12 dc12 pm12 cd12 ct12 oc13 kV13 dc13 pm13 cd13 ct13 oc14 kV14 dc14 pm14 cd14 ct14 oc15 kV15 dc15 pm15 cd15 ct15 oc16 kV16 dc16 pm16 cd16 ct16 oc17 kV17 dc17 pm17 cd17 ct17 oc18 kV18 dc18 pm18 cd18 ct18 oc19 kV19 dc19 pm19 cd19 ct19 oc20 kV20 dc20 pm20 cd20 ct20 oc21 kV21 dc21 pm21 cd21 ct21 oc22 kV22 dc22 pm22 cd22 ct22 oc23 kV23 dc23 pm23 cd23 ct23 oc24 kV24 dc24 pm24 cd24 ct24 oc25 kV25 dc25 pm25 cd25 ct25 oc26 kV26 dc26 pm26 cd26 ct26 oc27 kV27 dc27 pm27 cd27 ct27 oc28 kV28 dc28 pm28 cd28 ct28 oc29 kV29 dc29 pm29 cd29 ct29 oc30 kV30 dc30 pm30 cd30 ct30 oc31 kV31 dc31 pm31 cd31 ct31 oc32 kV32 dc32 pm32 cd32 ct32 oc33 kV33 dc33 pm33 cd33 ct33 oc34 kV34 dc34 pm34 cd34 ct34 oc35 kV35 dc35 pm35 cd35 ct35 oc36 kV36 dc36 pm36 cd36 ct36 oc37 kV37 dc37 pm37 cd37 ct37 oc38 kV38 dc38 pm38 cd38 ct38 oc39 kV39 dc39 pm39 cd39 ct39 oc40 kV40 dc40 pm40 cd40 ct40 : Value} {tk0 tk1 tk2 tk3 tk4 tk5 tk6 tk7 tk8 tk9 : Tok} {xnmTwice xqTwice : Str} {xNTwice xfTwice : Addr} {xbsTwice xsubTwice xbmTwice : List Value} {xsnTwice : List Str} {xabTwice : Bool} {xcolTwice : Option Bool} {xddTwice xodTwice xanTwice : Option Addr} {xk0Twice xk1Twice xk2Twice xk3Twice xk5Twice : Option Value} {xslTwice : Array (Option Value)} {xocTwice xkVTwice xdcTwice xpmTwice xcdTwice xctTwice : Value}
    (g_Calendar : PySem.W.nsIn K mainGlobals "Calendar" = some (some (.ref cCalendar)))
    (pg_Calendar : PySem.W.plainGet K cCalendar Str.empty = true)
    (hd_Calendar : PySem.W.hasDictIn K cCalendar = true)
    (po_Calendar : PySem.W.plainOver K cCalendar = true)
    (sa_Calendar : PySem.W.findIn K (.ref cCalendar) "__setattr__" = some (some (.builtin "object.__setattr__")))
    (mk_Calendar : PySem.W.makesIn K cCalendar = true)
    (kc_Calendar : PySem.W.keepIn K (.ref cCalendar) = true)
    (g_NoName : PySem.W.nsIn K mainGlobals "NoName" = some (some (.ref cNoName)))
    (xsb_NoName : PySem.W.subIn K (.ref cNoName) (.type "BaseException") = some true)
    (xty_NoName : PySem.W.typeIn K (.ref cNoName) = some (.type "type"))
    (kc_NoName : PySem.W.keepIn K (.ref cNoName) = true)
    (xp_NoName : PySem.W.excIn K cNoName [.type "ValueError", .type "Exception", .type "BaseException", .type "object"] "ValueError.__new__" = true)
    (g_NoNumber : PySem.W.nsIn K mainGlobals "NoNumber" = some (some (.ref cNoNumber)))
    (xsb_NoNumber : PySem.W.subIn K (.ref cNoNumber) (.type "BaseException") = some true)
    (xty_NoNumber : PySem.W.typeIn K (.ref cNoNumber) = some (.type "type"))
    (kc_NoNumber : PySem.W.keepIn K (.ref cNoNumber) = true)
    (xp_NoNumber : PySem.W.excIn K cNoNumber [.type "ValueError", .type "Exception", .type "BaseException", .type "object"] "ValueError.__new__" = true)
    (g_NoCalendar : PySem.W.nsIn K mainGlobals "NoCalendar" = some (some (.ref cNoCalendar)))
    (xsb_NoCalendar : PySem.W.subIn K (.ref cNoCalendar) (.type "BaseException") = some true)
    (xty_NoCalendar : PySem.W.typeIn K (.ref cNoCalendar) = some (.type "type"))
    (kc_NoCalendar : PySem.W.keepIn K (.ref cNoCalendar) = true)
    (xp_NoCalendar : PySem.W.excIn K cNoCalendar [.type "ValueError", .type "Exception", .type "BaseException", .type "object"] "ValueError.__new__" = true)
    (g_TooMany : PySem.W.nsIn K mainGlobals "TooMany" = some (some (.ref cTooMany)))
    (xsb_TooMany : PySem.W.subIn K (.ref cTooMany) (.type "BaseException") = some true)
    (xty_TooMany : PySem.W.typeIn K (.ref cTooMany) = some (.type "type"))
    (kc_TooMany : PySem.W.keepIn K (.ref cTooMany) = true)
    (xp_TooMany : PySem.W.excIn K cTooMany [.type "ValueError", .type "Exception", .type "BaseException", .type "object"] "ValueError.__new__" = true)
    (g_Twice : PySem.W.nsIn K mainGlobals "Twice" = some (some (.ref cTwice)))
    (xsb_Twice : PySem.W.subIn K (.ref cTwice) (.type "BaseException") = some true)
    (xty_Twice : PySem.W.typeIn K (.ref cTwice) = some (.type "type"))
    (kc_Twice : PySem.W.keepIn K (.ref cTwice) = true)
    (xl_Twice : K.lookup cTwice = some (excClassObj xnmTwice xqTwice cTwice xNTwice xbsTwice xbmTwice true xsnTwice xsubTwice xabTwice xcolTwice xddTwice xk0Twice xk1Twice xk2Twice xk3Twice xk5Twice "ValueError.__new__"))
    (xr_Twice : PySem.HandSPX.refsVE xbmTwice = true)
    (xsa_Twice : PySem.W.findIn K (.ref cTwice) "__setattr__" = some (some (.builtin "object.__setattr__")))
    (xno_Twice : PySem.W.findIn K (.ref cTwice) "name" = some none)
    (xin_Twice : PySem.W.findIn K (.ref cTwice) "__init__" = some (some (.ref xfTwice)))
    (xtf_Twice : PySem.W.typeIn K (.ref xfTwice) = some (.type "function"))
    (xli_Twice : K.lookup xfTwice = some ⟨xocTwice, xodTwice, .func (PySem.W.fnOf "__init__" "Twice.__init__" (defArgs s_xTwice) (defBody s_xTwice) (defScope s_xTwice) .none xkVTwice xdcTwice xpmTwice xanTwice xcdTwice xctTwice), xslTwice⟩)
    (xci_Twice : PySem.W.codeIn K xcdTwice "Twice.__init__" = true)
    (xki_Twice : PySem.W.keepIn K (.ref xfTwice) = true)
    (a0 : PySem.W.nsIn K mainGlobals "is_whole" = some (some (.ref f0)))
    (l0 : K.lookup f0 = some ⟨oc0, od0, .func (PySem.W.fnOf "is_whole" "is_whole" (defArgs s_is_whole) (defBody s_is_whole) (defScope s_is_whole) .none kV0 dc0 pm0 an0 cd0 ct0), sl0⟩)
    (c0 : PySem.W.codeIn K cd0 "is_whole" = true)
    (k0 : PySem.W.keepIn K (.ref f0) = true)
    (a1 : PySem.W.nsIn K mainGlobals "turn_count_in" = some (some (.ref f1)))
    (l1 : K.lookup f1 = some ⟨oc1, od1, .func (PySem.W.fnOf "turn_count_in" "turn_count_in" (defArgs s_turn_count_in) (defBody s_turn_count_in) (defScope s_turn_count_in) .none kV1 dc1 pm1 an1 cd1 ct1), sl1⟩)
    (c1 : PySem.W.codeIn K cd1 "turn_count_in" = true)
    (k1 : PySem.W.keepIn K (.ref f1) = true)
    (a2 : PySem.W.nsIn K mainGlobals "is_name" = some (some (.ref f2)))
    (l2 : K.lookup f2 = some ⟨oc2, od2, .func (PySem.W.fnOf "is_name" "is_name" (defArgs s_is_name) (defBody s_is_name) (defScope s_is_name) .none kV2 dc2 pm2 an2 cd2 ct2), sl2⟩)
    (c2 : PySem.W.codeIn K cd2 "is_name" = true)
    (k2 : PySem.W.keepIn K (.ref f2) = true)
    (a3 : PySem.W.nsIn K mainGlobals "is_within" = some (some (.ref f3)))
    (l3 : K.lookup f3 = some ⟨oc3, od3, .func (PySem.W.fnOf "is_within" "is_within" (defArgs s_is_within) (defBody s_is_within) (defScope s_is_within) .none kV3 dc3 pm3 an3 cd3 ct3), sl3⟩)
    (c3 : PySem.W.codeIn K cd3 "is_within" = true)
    (k3 : PySem.W.keepIn K (.ref f3) = true)
    (a4 : PySem.W.nsIn K mainGlobals "has_numbers" = some (some (.ref f4)))
    (l4 : K.lookup f4 = some ⟨oc4, od4, .func (PySem.W.fnOf "has_numbers" "has_numbers" (defArgs s_has_numbers) (defBody s_has_numbers) (defScope s_has_numbers) .none kV4 dc4 pm4 an4 cd4 ct4), sl4⟩)
    (c4 : PySem.W.codeIn K cd4 "has_numbers" = true)
    (k4 : PySem.W.keepIn K (.ref f4) = true)
    (a5 : PySem.W.nsIn K mainGlobals "check_load" = some (some (.ref f5)))
    (l5 : K.lookup f5 = some ⟨oc5, od5, .func (PySem.W.fnOf "check_load" "check_load" (defArgs s_check_load) (defBody s_check_load) (defScope s_check_load) .none kV5 dc5 pm5 an5 cd5 ct5), sl5⟩)
    (c5 : PySem.W.codeIn K cd5 "check_load" = true)
    (k5 : PySem.W.keepIn K (.ref f5) = true)
    (a6 : PySem.W.nsIn K mainGlobals "turns_of" = some (some (.ref f6)))
    (l6 : K.lookup f6 = some ⟨oc6, od6, .func (PySem.W.fnOf "turns_of" "turns_of" (defArgs s_turns_of) (defBody s_turns_of) (defScope s_turns_of) .none kV6 dc6 pm6 an6 cd6 ct6), sl6⟩)
    (c6 : PySem.W.codeIn K cd6 "turns_of" = true)
    (k6 : PySem.W.keepIn K (.ref f6) = true)
    (a7 : PySem.W.nsIn K mainGlobals "within" = some (some (.ref f7)))
    (l7 : K.lookup f7 = some ⟨oc7, od7, .func (PySem.W.fnOf "within" "within" (defArgs s_within) (defBody s_within) (defScope s_within) .none kV7 dc7 pm7 an7 cd7 ct7), sl7⟩)
    (c7 : PySem.W.codeIn K cd7 "within" = true)
    (k7 : PySem.W.keepIn K (.ref f7) = true)
    (a8 : PySem.W.nsIn K mainGlobals "outside" = some (some (.ref f8)))
    (l8 : K.lookup f8 = some ⟨oc8, od8, .func (PySem.W.fnOf "outside" "outside" (defArgs s_outside) (defBody s_outside) (defScope s_outside) .none kV8 dc8 pm8 an8 cd8 ct8), sl8⟩)
    (c8 : PySem.W.codeIn K cd8 "outside" = true)
    (k8 : PySem.W.keepIn K (.ref f8) = true)
    (a9 : PySem.W.nsIn K mainGlobals "excess" = some (some (.ref f9)))
    (l9 : K.lookup f9 = some ⟨oc9, od9, .func (PySem.W.fnOf "excess" "excess" (defArgs s_excess) (defBody s_excess) (defScope s_excess) .none kV9 dc9 pm9 an9 cd9 ct9), sl9⟩)
    (c9 : PySem.W.codeIn K cd9 "excess" = true)
    (k9 : PySem.W.keepIn K (.ref f9) = true)
    (a10 : PySem.W.findIn K (.ref cCalendar) "pieces" = some (some (.ref f10)))
    (i10 : PySem.W.isFn K (.ref f10) = true)
    (l10 : K.lookup f10 = some ⟨oc10, od10, .func (PySem.W.fnOf "pieces" "Calendar.pieces" (defArgs s_Calendar_pieces) (defBody s_Calendar_pieces) (defScope s_Calendar_pieces) .none kV10 dc10 pm10 an10 cd10 ct10), sl10⟩)
    (c10 : PySem.W.codeIn K cd10 "Calendar.pieces" = true)
    (k10 : PySem.W.keepIn K (.ref f10) = true)
    (a11 : PySem.W.findIn K (.ref cCalendar) "over" = some (some (.ref f11)))
    (i11 : PySem.W.isFn K (.ref f11) = true)
    (l11 : K.lookup f11 = some ⟨oc11, od11, .func (PySem.W.fnOf "over" "Calendar.over" (defArgs s_Calendar_over) (defBody s_Calendar_over) (defScope s_Calendar_over) .none kV11 dc11 pm11 an11 cd11 ct11), sl11⟩)
    (c11 : PySem.W.codeIn K cd11 "Calendar.over" = true)
    (k11 : PySem.W.keepIn K (.ref f11) = true)
    (a12 : PySem.W.findIn K (.ref cCalendar) "over_spans" = some (some (.ref f12)))
    (i12 : PySem.W.isFn K (.ref f12) = true)
    (l12 : K.lookup f12 = some ⟨oc12, od12, .func (PySem.W.fnOf "over_spans" "Calendar.over_spans" (defArgs s_Calendar_over_spans) (defBody s_Calendar_over_spans) (defScope s_Calendar_over_spans) .none kV12 dc12 pm12 an12 cd12 ct12), sl12⟩)
    (c12 : PySem.W.codeIn K cd12 "Calendar.over_spans" = true)
    (k12 : PySem.W.keepIn K (.ref f12) = true)
    (a13 : PySem.W.nsIn K mainGlobals "overflow" = some (some (.ref f13)))
    (l13 : K.lookup f13 = some ⟨oc13, od13, .func (PySem.W.fnOf "overflow" "overflow" (defArgs s_overflow) (defBody s_overflow) (defScope s_overflow) .none kV13 dc13 pm13 an13 cd13 ct13), sl13⟩)
    (c13 : PySem.W.codeIn K cd13 "overflow" = true)
    (k13 : PySem.W.keepIn K (.ref f13) = true)
    (a14 : PySem.W.nsIn K mainGlobals "is_number" = some (some (.ref f14)))
    (l14 : K.lookup f14 = some ⟨oc14, od14, .func (PySem.W.fnOf "is_number" "is_number" (defArgs s_is_number) (defBody s_is_number) (defScope s_is_number) .none kV14 dc14 pm14 an14 cd14 ct14), sl14⟩)
    (c14 : PySem.W.codeIn K cd14 "is_number" = true)
    (k14 : PySem.W.keepIn K (.ref f14) = true)
    (a15 : PySem.W.nsIn K mainGlobals "is_row" = some (some (.ref f15)))
    (l15 : K.lookup f15 = some ⟨oc15, od15, .func (PySem.W.fnOf "is_row" "is_row" (defArgs s_is_row) (defBody s_is_row) (defScope s_is_row) .none kV15 dc15 pm15 an15 cd15 ct15), sl15⟩)
    (c15 : PySem.W.codeIn K cd15 "is_row" = true)
    (k15 : PySem.W.keepIn K (.ref f15) = true)
    (a16 : PySem.W.nsIn K mainGlobals "tidied" = some (some (.ref f16)))
    (l16 : K.lookup f16 = some ⟨oc16, od16, .func (PySem.W.fnOf "tidied" "tidied" (defArgs s_tidied) (defBody s_tidied) (defScope s_tidied) .none kV16 dc16 pm16 an16 cd16 ct16), sl16⟩)
    (c16 : PySem.W.codeIn K cd16 "tidied" = true)
    (k16 : PySem.W.keepIn K (.ref f16) = true)
    (a17 : PySem.W.findIn K (.ref cCalendar) "keep" = some (some (.ref f17)))
    (i17 : PySem.W.isFn K (.ref f17) = true)
    (l17 : K.lookup f17 = some ⟨oc17, od17, .func (PySem.W.fnOf "keep" "Calendar.keep" (defArgs s_Calendar_keep) (defBody s_Calendar_keep) (defScope s_Calendar_keep) .none kV17 dc17 pm17 an17 cd17 ct17), sl17⟩)
    (c17 : PySem.W.codeIn K cd17 "Calendar.keep" = true)
    (k17 : PySem.W.keepIn K (.ref f17) = true)
    (a18 : PySem.W.findIn K (.ref cCalendar) "__init__" = some (some (.ref f18)))
    (i18 : PySem.W.isFn K (.ref f18) = true)
    (l18 : K.lookup f18 = some ⟨oc18, od18, .func (PySem.W.fnOf "__init__" "Calendar.__init__" (defArgs s_Calendar_init) (defBody s_Calendar_init) (defScope s_Calendar_init) .none kV18 dc18 pm18 an18 cd18 ct18), sl18⟩)
    (c18 : PySem.W.codeIn K cd18 "Calendar.__init__" = true)
    (k18 : PySem.W.keepIn K (.ref f18) = true)
    (a19 : PySem.W.findIn K (.ref cCalendar) "rows" = some (some (.ref f19)))
    (i19 : PySem.W.isFn K (.ref f19) = true)
    (l19 : K.lookup f19 = some ⟨oc19, od19, .func (PySem.W.fnOf "rows" "Calendar.rows" (defArgs s_Calendar_rows) (defBody s_Calendar_rows) (defScope s_Calendar_rows) .none kV19 dc19 pm19 an19 cd19 ct19), sl19⟩)
    (c19 : PySem.W.codeIn K cd19 "Calendar.rows" = true)
    (k19 : PySem.W.keepIn K (.ref f19) = true)
    (a20 : PySem.W.findIn K (.ref cCalendar) "rest" = some (some (.ref f20)))
    (i20 : PySem.W.isFn K (.ref f20) = true)
    (l20 : K.lookup f20 = some ⟨oc20, od20, .func (PySem.W.fnOf "rest" "Calendar.rest" (defArgs s_Calendar_rest) (defBody s_Calendar_rest) (defScope s_Calendar_rest) .none kV20 dc20 pm20 an20 cd20 ct20), sl20⟩)
    (c20 : PySem.W.codeIn K cd20 "Calendar.rest" = true)
    (k20 : PySem.W.keepIn K (.ref f20) = true)
    (a21 : PySem.W.findIn K (.ref cCalendar) "end" = some (some (.ref f21)))
    (i21 : PySem.W.isFn K (.ref f21) = true)
    (l21 : K.lookup f21 = some ⟨oc21, od21, .func (PySem.W.fnOf "end" "Calendar.end" (defArgs s_Calendar_end) (defBody s_Calendar_end) (defScope s_Calendar_end) .none kV21 dc21 pm21 an21 cd21 ct21), sl21⟩)
    (c21 : PySem.W.codeIn K cd21 "Calendar.end" = true)
    (k21 : PySem.W.keepIn K (.ref f21) = true)
    (a22 : PySem.W.findIn K (.ref cCalendar) "at" = some (some (.ref f22)))
    (i22 : PySem.W.isFn K (.ref f22) = true)
    (l22 : K.lookup f22 = some ⟨oc22, od22, .func (PySem.W.fnOf "at" "Calendar.at" (defArgs s_Calendar_at) (defBody s_Calendar_at) (defScope s_Calendar_at) .none kV22 dc22 pm22 an22 cd22 ct22), sl22⟩)
    (c22 : PySem.W.codeIn K cd22 "Calendar.at" = true)
    (k22 : PySem.W.keepIn K (.ref f22) = true)
    (a23 : PySem.W.findIn K (.ref cCalendar) "changes" = some (some (.ref f23)))
    (i23 : PySem.W.isFn K (.ref f23) = true)
    (l23 : K.lookup f23 = some ⟨oc23, od23, .func (PySem.W.fnOf "changes" "Calendar.changes" (defArgs s_Calendar_changes) (defBody s_Calendar_changes) (defScope s_Calendar_changes) .none kV23 dc23 pm23 an23 cd23 ct23), sl23⟩)
    (c23 : PySem.W.codeIn K cd23 "Calendar.changes" = true)
    (k23 : PySem.W.keepIn K (.ref f23) = true)
    (a24 : PySem.W.nsIn K mainGlobals "made" = some (some (.ref f24)))
    (l24 : K.lookup f24 = some ⟨oc24, od24, .func (PySem.W.fnOf "made" "made" (defArgs s_made) (defBody s_made) (defScope s_made) .none kV24 dc24 pm24 an24 cd24 ct24), sl24⟩)
    (c24 : PySem.W.codeIn K cd24 "made" = true)
    (k24 : PySem.W.keepIn K (.ref f24) = true)
    (a25 : PySem.W.findIn K (.ref cCalendar) "changed" = some (some (.ref f25)))
    (i25 : PySem.W.isFn K (.ref f25) = true)
    (l25 : K.lookup f25 = some ⟨oc25, od25, .func (PySem.W.fnOf "changed" "Calendar.changed" (defArgs s_Calendar_changed) (defBody s_Calendar_changed) (defScope s_Calendar_changed) .none kV25 dc25 pm25 an25 cd25 ct25), sl25⟩)
    (c25 : PySem.W.codeIn K cd25 "Calendar.changed" = true)
    (k25 : PySem.W.keepIn K (.ref f25) = true)
    (a26 : PySem.W.findIn K (.ref cCalendar) "fewer" = some (some (.ref f26)))
    (i26 : PySem.W.isFn K (.ref f26) = true)
    (l26 : K.lookup f26 = some ⟨oc26, od26, .func (PySem.W.fnOf "fewer" "Calendar.fewer" (defArgs s_Calendar_fewer) (defBody s_Calendar_fewer) (defScope s_Calendar_fewer) .none kV26 dc26 pm26 an26 cd26 ct26), sl26⟩)
    (c26 : PySem.W.codeIn K cd26 "Calendar.fewer" = true)
    (k26 : PySem.W.keepIn K (.ref f26) = true)
    (a27 : PySem.W.findIn K (.ref cCalendar) "more" = some (some (.ref f27)))
    (i27 : PySem.W.isFn K (.ref f27) = true)
    (l27 : K.lookup f27 = some ⟨oc27, od27, .func (PySem.W.fnOf "more" "Calendar.more" (defArgs s_Calendar_more) (defBody s_Calendar_more) (defScope s_Calendar_more) .none kV27 dc27 pm27 an27 cd27 ct27), sl27⟩)
    (c27 : PySem.W.codeIn K cd27 "Calendar.more" = true)
    (k27 : PySem.W.keepIn K (.ref f27) = true)
    (a28 : PySem.W.findIn K (.ref cCalendar) "widened" = some (some (.ref f28)))
    (i28 : PySem.W.isFn K (.ref f28) = true)
    (l28 : K.lookup f28 = some ⟨oc28, od28, .func (PySem.W.fnOf "widened" "Calendar.widened" (defArgs s_Calendar_widened) (defBody s_Calendar_widened) (defScope s_Calendar_widened) .none kV28 dc28 pm28 an28 cd28 ct28), sl28⟩)
    (c28 : PySem.W.codeIn K cd28 "Calendar.widened" = true)
    (k28 : PySem.W.keepIn K (.ref f28) = true)
    (a29 : PySem.W.nsIn K mainGlobals "_law_cell_at" = some (some (.ref f29)))
    (l29 : K.lookup f29 = some ⟨oc29, od29, .func (PySem.W.fnOf "_law_cell_at" "_law_cell_at" (defArgs s_q_cell_at) (defBody s_q_cell_at) (defScope s_q_cell_at) .none kV29 dc29 pm29 an29 cd29 ct29), sl29⟩)
    (c29 : PySem.W.codeIn K cd29 "_law_cell_at" = true)
    (k29 : PySem.W.keepIn K (.ref f29) = true)
    (a30 : PySem.W.nsIn K mainGlobals "_law_whole" = some (some (.ref f30)))
    (l30 : K.lookup f30 = some ⟨oc30, od30, .func (PySem.W.fnOf "_law_whole" "_law_whole" (defArgs s_q_whole) (defBody s_q_whole) (defScope s_q_whole) .none kV30 dc30 pm30 an30 cd30 ct30), sl30⟩)
    (c30 : PySem.W.codeIn K cd30 "_law_whole" = true)
    (k30 : PySem.W.keepIn K (.ref f30) = true)
    (a31 : PySem.W.nsIn K mainGlobals "_law_mixed" = some (some (.ref f31)))
    (l31 : K.lookup f31 = some ⟨oc31, od31, .func (PySem.W.fnOf "_law_mixed" "_law_mixed" (defArgs s_q_mixed) (defBody s_q_mixed) (defScope s_q_mixed) .none kV31 dc31 pm31 an31 cd31 ct31), sl31⟩)
    (c31 : PySem.W.codeIn K cd31 "_law_mixed" = true)
    (k31 : PySem.W.keepIn K (.ref f31) = true)
    (a32 : PySem.W.nsIn K mainGlobals "_law_names" = some (some (.ref f32)))
    (l32 : K.lookup f32 = some ⟨oc32, od32, .func (PySem.W.fnOf "_law_names" "_law_names" (defArgs s_q_names) (defBody s_q_names) (defScope s_q_names) .none kV32 dc32 pm32 an32 cd32 ct32), sl32⟩)
    (c32 : PySem.W.codeIn K cd32 "_law_names" = true)
    (k32 : PySem.W.keepIn K (.ref f32) = true)
    (a33 : PySem.W.nsIn K mainGlobals "_law_rows" = some (some (.ref f33)))
    (l33 : K.lookup f33 = some ⟨oc33, od33, .func (PySem.W.fnOf "_law_rows" "_law_rows" (defArgs s_q_rows) (defBody s_q_rows) (defScope s_q_rows) .none kV33 dc33 pm33 an33 cd33 ct33), sl33⟩)
    (c33 : PySem.W.codeIn K cd33 "_law_rows" = true)
    (k33 : PySem.W.keepIn K (.ref f33) = true)
    (a34 : PySem.W.nsIn K mainGlobals "_law_load" = some (some (.ref f34)))
    (l34 : K.lookup f34 = some ⟨oc34, od34, .func (PySem.W.fnOf "_law_load" "_law_load" (defArgs s_q_load) (defBody s_q_load) (defScope s_q_load) .none kV34 dc34 pm34 an34 cd34 ct34), sl34⟩)
    (c34 : PySem.W.codeIn K cd34 "_law_load" = true)
    (k34 : PySem.W.keepIn K (.ref f34) = true)
    (a35 : PySem.W.nsIn K mainGlobals "_law_over" = some (some (.ref f35)))
    (l35 : K.lookup f35 = some ⟨oc35, od35, .func (PySem.W.fnOf "_law_over" "_law_over" (defArgs s_q_over) (defBody s_q_over) (defScope s_q_over) .none kV35 dc35 pm35 an35 cd35 ct35), sl35⟩)
    (c35 : PySem.W.codeIn K cd35 "_law_over" = true)
    (k35 : PySem.W.keepIn K (.ref f35) = true)
    (a36 : PySem.W.nsIn K mainGlobals "_law_inside" = some (some (.ref f36)))
    (l36 : K.lookup f36 = some ⟨oc36, od36, .func (PySem.W.fnOf "_law_inside" "_law_inside" (defArgs s_q_inside) (defBody s_q_inside) (defScope s_q_inside) .none kV36 dc36 pm36 an36 cd36 ct36), sl36⟩)
    (c36 : PySem.W.codeIn K cd36 "_law_inside" = true)
    (k36 : PySem.W.keepIn K (.ref f36) = true)
    (a37 : PySem.W.nsIn K mainGlobals "_law_excess" = some (some (.ref f37)))
    (l37 : K.lookup f37 = some ⟨oc37, od37, .func (PySem.W.fnOf "_law_excess" "_law_excess" (defArgs s_q_excess) (defBody s_q_excess) (defScope s_q_excess) .none kV37 dc37 pm37 an37 cd37 ct37), sl37⟩)
    (c37 : PySem.W.codeIn K cd37 "_law_excess" = true)
    (k37 : PySem.W.keepIn K (.ref f37) = true)
    (a38 : PySem.W.nsIn K mainGlobals "_law_overflow" = some (some (.ref f38)))
    (l38 : K.lookup f38 = some ⟨oc38, od38, .func (PySem.W.fnOf "_law_overflow" "_law_overflow" (defArgs s_q_overflow) (defBody s_q_overflow) (defScope s_q_overflow) .none kV38 dc38 pm38 an38 cd38 ct38), sl38⟩)
    (c38 : PySem.W.codeIn K cd38 "_law_overflow" = true)
    (k38 : PySem.W.keepIn K (.ref f38) = true)
    (a39 : PySem.W.nsIn K mainGlobals "_law_spans" = some (some (.ref f39)))
    (l39 : K.lookup f39 = some ⟨oc39, od39, .func (PySem.W.fnOf "_law_spans" "_law_spans" (defArgs s_q_spans) (defBody s_q_spans) (defScope s_q_spans) .none kV39 dc39 pm39 an39 cd39 ct39), sl39⟩)
    (c39 : PySem.W.codeIn K cd39 "_law_spans" = true)
    (k39 : PySem.W.keepIn K (.ref f39) = true)
    (a40 : PySem.W.nsIn K mainGlobals "law" = some (some (.ref f40)))
    (l40 : K.lookup f40 = some ⟨oc40, od40, .func (PySem.W.fnOf "law" "law" (defArgs s_q_law) (defBody s_q_law) (defScope s_q_law) .none kV40 dc40 pm40 an40 cd40 ct40), sl40⟩)
    (c40 : PySem.W.codeIn K cd40 "law" = true)
    (k40 : PySem.W.keepIn K (.ref f40) = true)
    (z0 : PySem.W.nsIn K mainGlobals "bool" = some none)
    (z1 : PySem.W.nsIn K mainGlobals "int" = some none)
    (z2 : PySem.W.nsIn K mainGlobals "isinstance" = some none)
    (z3 : PySem.W.nsIn K mainGlobals "len" = some none)
    (z4 : PySem.W.nsIn K mainGlobals "list" = some none)
    (z5 : PySem.W.nsIn K mainGlobals "max" = some none)
    (z6 : PySem.W.nsIn K mainGlobals "min" = some none)
    (z7 : PySem.W.nsIn K mainGlobals "range" = some none)
    (z8 : PySem.W.nsIn K mainGlobals "str" = some none)
    (z9 : PySem.W.nsIn K mainGlobals "sum" = some none)
    (z10 : PySem.W.nsIn K mainGlobals "tuple" = some none)
    (y0 : PySem.W.nsIn K mainGlobals "FIGURES" = some (some (.str "0123456789" tk0)))
    (y1 : PySem.W.nsIn K mainGlobals "LETTERS" = some (some (.str "abcdefghijklmnopqrstuvwxyz" tk1)))
    (y2 : PySem.W.nsIn K mainGlobals "MOST_BREADTH" = some (some (.int 16 tk2)))
    (y3 : PySem.W.nsIn K mainGlobals "MOST_FIRST" = some (some (.int 1000000000 tk3)))
    (y4 : PySem.W.nsIn K mainGlobals "MOST_JOBS" = some (some (.int 12 tk4)))
    (y5 : PySem.W.nsIn K mainGlobals "MOST_LAST" = some (some (.int 10000000000 tk5)))
    (y6 : PySem.W.nsIn K mainGlobals "MOST_MACHINES" = some (some (.int 16 tk6)))
    (y7 : PySem.W.nsIn K mainGlobals "MOST_ROWS" = some (some (.int 16 tk7)))
    (y8 : PySem.W.nsIn K mainGlobals "MOST_TURNS" = some (some (.int 1000000 tk8)))
    (y9 : PySem.W.nsIn K mainGlobals "MOST_WORK" = some (some (.int 60 tk9)))
    (na_Calendar_for_ever : PySem.W.findIn K (.ref cCalendar) "for_ever" = some none)
    (na_Calendar_strips : PySem.W.findIn K (.ref cCalendar) "strips" = some none)
    (hF : ∀ ns : List Int, ns.length ≤ 63 → F_q_law [.scr ns] = .ok (.sh (.bl true))) :
    ∃ fd : FuncData, (∀ (s : Shared) (v : Value), BindsTo s fd ⟨[v], []⟩ [("_law_script", v)]) ∧ ∀ base : Heap, K.In base → base.Ns mainGlobals mg → FnOk l.prog w K mg base (L2.CX l.prog w) 6 fa fd ["_law_script"] (spLaw K) := by
  have e := hfa.symm.trans (PySem.W.mg_of X G a40)
  cases e
  have e_Calendar : clsA K 0 = some cCalendar := clsA_of rfl g_Calendar
  have e_NoName : clsA K 13 = some cNoName := clsA_of rfl g_NoName
  have e_NoNumber : clsA K 14 = some cNoNumber := clsA_of rfl g_NoNumber
  have e_NoCalendar : clsA K 15 = some cNoCalendar := clsA_of rfl g_NoCalendar
  have e_TooMany : clsA K 17 = some cTooMany := clsA_of rfl g_TooMany
  have e_Twice : clsA K 20 = some cTwice := clsA_of rfl g_Twice
  have cl_Calendar : Cls K cCalendar := ⟨pg_Calendar, hd_Calendar, po_Calendar, sa_Calendar⟩
  have T : Txt K mg := ⟨PySem.W.mg_none_of X G z0, PySem.W.mg_none_of X G z1, PySem.W.mg_none_of X G z2, PySem.W.mg_none_of X G z3, PySem.W.mg_none_of X G z4, PySem.W.mg_none_of X G z5, PySem.W.mg_none_of X G z6, PySem.W.mg_none_of X G z7, PySem.W.mg_none_of X G z8, PySem.W.mg_none_of X G z9, PySem.W.mg_none_of X G z10, ⟨_, PySem.W.mg_of X G y0⟩, ⟨_, PySem.W.mg_of X G y1⟩, ⟨_, PySem.W.mg_of X G y2⟩, ⟨_, PySem.W.mg_of X G y3⟩, ⟨_, PySem.W.mg_of X G y4⟩, ⟨_, PySem.W.mg_of X G y5⟩, ⟨_, PySem.W.mg_of X G y6⟩, ⟨_, PySem.W.mg_of X G y7⟩, ⟨_, PySem.W.mg_of X G y8⟩, ⟨_, PySem.W.mg_of X G y9⟩, at_of e_Calendar cl_Calendar na_Calendar_for_ever, at_of e_Calendar cl_Calendar na_Calendar_strips, ⟨cNoName, e_NoName, PySem.W.mg_of X G g_NoName, xp_NoName, kc_NoName, xsb_NoName, xty_NoName⟩, ⟨cNoNumber, e_NoNumber, PySem.W.mg_of X G g_NoNumber, xp_NoNumber, kc_NoNumber, xsb_NoNumber, xty_NoNumber⟩, ⟨cNoCalendar, e_NoCalendar, PySem.W.mg_of X G g_NoCalendar, xp_NoCalendar, kc_NoCalendar, xsb_NoCalendar, xty_NoCalendar⟩, ⟨cTooMany, e_TooMany, PySem.W.mg_of X G g_TooMany, xp_TooMany, kc_TooMany, xsb_TooMany, xty_TooMany⟩, trivial⟩
  have Fu0 := fun_mk (st := s_is_whole) l0 c0 k0
  have Fu1 := fun_mk (st := s_turn_count_in) l1 c1 k1
  have Fu2 := fun_mk (st := s_is_name) l2 c2 k2
  have Fu3 := fun_mk (st := s_is_within) l3 c3 k3
  have Fu4 := fun_mk (st := s_has_numbers) l4 c4 k4
  have Fu5 := fun_mk (st := s_check_load) l5 c5 k5
  have Fu6 := fun_mk (st := s_turns_of) l6 c6 k6
  have Fu7 := fun_mk (st := s_within) l7 c7 k7
  have Fu8 := fun_mk (st := s_outside) l8 c8 k8
  have Fu9 := fun_mk (st := s_excess) l9 c9 k9
  have Fu10 := fun_mk (st := s_Calendar_pieces) l10 c10 k10
  have Fu11 := fun_mk (st := s_Calendar_over) l11 c11 k11
  have Fu12 := fun_mk (st := s_Calendar_over_spans) l12 c12 k12
  have Fu13 := fun_mk (st := s_overflow) l13 c13 k13
  have Fu14 := fun_mk (st := s_is_number) l14 c14 k14
  have Fu15 := fun_mk (st := s_is_row) l15 c15 k15
  have Fu16 := fun_mk (st := s_tidied) l16 c16 k16
  have Fu17 := fun_mk (st := s_Calendar_keep) l17 c17 k17
  have Fu18 := fun_mk (st := s_Calendar_init) l18 c18 k18
  have Fu19 := fun_mk (st := s_Calendar_rows) l19 c19 k19
  have Fu20 := fun_mk (st := s_Calendar_rest) l20 c20 k20
  have Fu21 := fun_mk (st := s_Calendar_end) l21 c21 k21
  have Fu22 := fun_mk (st := s_Calendar_at) l22 c22 k22
  have Fu23 := fun_mk (st := s_Calendar_changes) l23 c23 k23
  have Fu24 := fun_mk (st := s_made) l24 c24 k24
  have Fu25 := fun_mk (st := s_Calendar_changed) l25 c25 k25
  have Fu26 := fun_mk (st := s_Calendar_fewer) l26 c26 k26
  have Fu27 := fun_mk (st := s_Calendar_more) l27 c27 k27
  have Fu28 := fun_mk (st := s_Calendar_widened) l28 c28 k28
  have Fu29 := fun_mk (st := s_q_cell_at) l29 c29 k29
  have Fu30 := fun_mk (st := s_q_whole) l30 c30 k30
  have Fu31 := fun_mk (st := s_q_mixed) l31 c31 k31
  have Fu32 := fun_mk (st := s_q_names) l32 c32 k32
  have Fu33 := fun_mk (st := s_q_rows) l33 c33 k33
  have Fu34 := fun_mk (st := s_q_load) l34 c34 k34
  have Fu35 := fun_mk (st := s_q_over) l35 c35 k35
  have Fu36 := fun_mk (st := s_q_inside) l36 c36 k36
  have Fu37 := fun_mk (st := s_q_excess) l37 c37 k37
  have Fu38 := fun_mk (st := s_q_overflow) l38 c38 k38
  have Fu39 := fun_mk (st := s_q_spans) l39 c39 k39
  have Fu40 := fun_mk (st := s_q_law) l40 c40 k40
  refine ⟨PySem.W.fnOf "law" "law" (defArgs s_q_law) (defBody s_q_law) (defScope s_q_law) .none kV40 dc40 pm40 an40 cd40 ct40, fun s v => .of_eq rfl, fun base _ _ => ?_⟩
  have FxTwice := fun_mk (st := s_xTwice) xli_Twice xci_Twice xki_Twice
  have X_Twice : XMk1 l.prog w K mg base "Twice" 20 := ⟨⟨cTwice, xfTwice, _, e_Twice, PySem.W.mg_of X G g_Twice, ⟨⟨_, _, _, _, _, _, _, _, _, _, _, _, _, _, _, xl_Twice, xr_Twice⟩, xsa_Twice, xsb_Twice, xty_Twice, kc_Twice⟩, xno_Twice, xin_Twice, xtf_Twice, (FxTwice.binds (ps := ["self", "name"]) fun _ _ _ _ _ _ us hl => match us, hl with | [_, _], _ => rfl), ok_xi FxTwice sc_xTwice rfl rfl rfl⟩⟩
  have C_is_whole : Cal l.prog w K mg base "is_whole" 1 1 F_is_whole := cal_mk Fu0 (PySem.W.mg_of X G a0) (Fu0.binds (ps := ["thing"]) fun _ _ _ _ _ _ us hl => match us, hl with | [_], _ => rfl) (ok_is_whole Fu0 T )
  have C_turn_count_in : Cal l.prog w K mg base "turn_count_in" 1 3 F_turn_count_in := cal_mk Fu1 (PySem.W.mg_of X G a1) (Fu1.binds (ps := ["spans", "first", "last"]) fun _ _ _ _ _ _ us hl => match us, hl with | [_, _, _], _ => rfl) (ok_turn_count_in Fu1 T )
  have C_is_name : Cal l.prog w K mg base "is_name" 1 1 F_is_name := cal_mk Fu2 (PySem.W.mg_of X G a2) (Fu2.binds (ps := ["thing"]) fun _ _ _ _ _ _ us hl => match us, hl with | [_], _ => rfl) (ok_is_name Fu2 T )
  have C_is_within : Cal l.prog w K mg base "is_within" 2 3 F_is_within := cal_mk Fu3 (PySem.W.mg_of X G a3) (Fu3.binds (ps := ["thing", "low", "high"]) fun _ _ _ _ _ _ us hl => match us, hl with | [_, _, _], _ => rfl) (ok_is_within Fu3 T C_is_whole)
  have C_has_numbers : Cal l.prog w K mg base "has_numbers" 3 1 F_has_numbers := cal_mk Fu4 (PySem.W.mg_of X G a4) (Fu4.binds (ps := ["job"]) fun _ _ _ _ _ _ us hl => match us, hl with | [_], _ => rfl) (ok_has_numbers Fu4 T C_is_within)
  have C_check_load : Cal l.prog w K mg base "check_load" 4 1 F_check_load := cal_mk Fu5 (PySem.W.mg_of X G a5) (Fu5.binds (ps := ["load"]) fun _ _ _ _ _ _ us hl => match us, hl with | [_], _ => rfl) (ok_check_load Fu5 T C_is_name C_has_numbers X_Twice)
  have C_turns_of : Cal l.prog w K mg base "turns_of" 1 1 F_turns_of := cal_mk Fu6 (PySem.W.mg_of X G a6) (Fu6.binds (ps := ["job"]) fun _ _ _ _ _ _ us hl => match us, hl with | [_], _ => rfl) (ok_turns_of Fu6 T )
  have C_within : Cal l.prog w K mg base "within" 2 2 F_within := cal_mk Fu7 (PySem.W.mg_of X G a7) (Fu7.binds (ps := ["job", "spans"]) fun _ _ _ _ _ _ us hl => match us, hl with | [_, _], _ => rfl) (ok_within Fu7 T C_turn_count_in)
  have C_outside : Cal l.prog w K mg base "outside" 3 2 F_outside := cal_mk Fu8 (PySem.W.mg_of X G a8) (Fu8.binds (ps := ["job", "spans"]) fun _ _ _ _ _ _ us hl => match us, hl with | [_, _], _ => rfl) (ok_outside Fu8 T C_turns_of C_within)
  have C_excess : Cal l.prog w K mg base "excess" 4 2 F_excess := cal_mk Fu9 (PySem.W.mg_of X G a9) (Fu9.binds (ps := ["job", "spans"]) fun _ _ _ _ _ _ us hl => match us, hl with | [_, _], _ => rfl) (ok_excess Fu9 T C_outside)
  have M_Calendar_pieces : Met l.prog w K mg base 0 "pieces" 1 2 F_Calendar_pieces := ⟨⟨cCalendar, f10, _, _, e_Calendar, cl_Calendar, ⟨a10, i10, k10⟩, (Fu10.binds (ps := ["self", "turn"]) fun _ _ _ _ _ _ us hl => match us, hl with | [_, _], _ => rfl), (ok_Calendar_pieces Fu10 T )⟩⟩
  have M_Calendar_over : Met l.prog w K mg base 0 "over" 2 3 F_Calendar_over := ⟨⟨cCalendar, f11, _, _, e_Calendar, cl_Calendar, ⟨a11, i11, k11⟩, (Fu11.binds (ps := ["self", "first", "last"]) fun _ _ _ _ _ _ us hl => match us, hl with | [_, _, _], _ => rfl), (ok_Calendar_over Fu11 T M_Calendar_pieces)⟩⟩
  have M_Calendar_over_spans : Met l.prog w K mg base 0 "over_spans" 3 2 F_Calendar_over_spans := ⟨⟨cCalendar, f12, _, _, e_Calendar, cl_Calendar, ⟨a12, i12, k12⟩, (Fu12.binds (ps := ["self", "spans"]) fun _ _ _ _ _ _ us hl => match us, hl with | [_, _], _ => rfl), (ok_Calendar_over_spans Fu12 T M_Calendar_over)⟩⟩
  have C_overflow : Cal l.prog w K mg base "overflow" 5 3 F_overflow := cal_mk Fu13 (PySem.W.mg_of X G a13) (Fu13.binds (ps := ["load", "calendar", "spans"]) fun _ _ _ _ _ _ us hl => match us, hl with | [_, _, _], _ => rfl) (ok_overflow Fu13 T C_check_load C_excess M_Calendar_over_spans)
  have C_is_number : Cal l.prog w K mg base "is_number" 2 3 F_is_number := cal_mk Fu14 (PySem.W.mg_of X G a14) (Fu14.binds (ps := ["thing", "low", "high"]) fun _ _ _ _ _ _ us hl => match us, hl with | [_, _, _], _ => rfl) (ok_is_number Fu14 T C_is_whole)
  have C_is_row : Cal l.prog w K mg base "is_row" 3 1 F_is_row := cal_mk Fu15 (PySem.W.mg_of X G a15) (Fu15.binds (ps := ["thing"]) fun _ _ _ _ _ _ us hl => match us, hl with | [_], _ => rfl) (ok_is_row Fu15 T C_is_number)
  have C_tidied : Cal l.prog w K mg base "tidied" 1 2 F_tidied := cal_mk Fu16 (PySem.W.mg_of X G a16) (Fu16.binds (ps := ["rows", "rest"]) fun _ _ _ _ _ _ us hl => match us, hl with | [_, _], _ => rfl) (ok_tidied Fu16 T )
  have M_Calendar_keep : MetM l.prog w K mg base 0 "keep" 2 3 F_Calendar_keep := ⟨⟨cCalendar, f17, _, _, e_Calendar, cl_Calendar, ⟨a17, i17, k17⟩, (Fu17.binds (ps := ["self", "rows", "rest"]) fun _ _ _ _ _ _ us hl => match us, hl with | [_, _, _], _ => rfl), (ok_Calendar_keep Fu17 T C_tidied)⟩⟩
  have K_Calendar : Mak l.prog w K mg base "Calendar" 0 4 3 F_Calendar_init := ⟨⟨cCalendar, f18, _, _, e_Calendar, PySem.W.mg_of X G g_Calendar, ⟨mk_Calendar, a18, i18, kc_Calendar⟩, (Fu18.binds (ps := ["self", "rows", "rest"]) fun _ _ _ _ _ _ us hl => match us, hl with | [_, _, _], _ => rfl), (ok_Calendar_init Fu18 T C_is_number C_is_row M_Calendar_keep)⟩⟩
  have M_Calendar_rows : Met l.prog w K mg base 0 "rows" 1 1 F_Calendar_rows := ⟨⟨cCalendar, f19, _, _, e_Calendar, cl_Calendar, ⟨a19, i19, k19⟩, (Fu19.binds (ps := ["self"]) fun _ _ _ _ _ _ us hl => match us, hl with | [_], _ => rfl), (ok_Calendar_rows Fu19 T )⟩⟩
  have M_Calendar_rest : Met l.prog w K mg base 0 "rest" 1 1 F_Calendar_rest := ⟨⟨cCalendar, f20, _, _, e_Calendar, cl_Calendar, ⟨a20, i20, k20⟩, (Fu20.binds (ps := ["self"]) fun _ _ _ _ _ _ us hl => match us, hl with | [_], _ => rfl), (ok_Calendar_rest Fu20 T )⟩⟩
  have M_Calendar_end : Met l.prog w K mg base 0 "end" 1 1 F_Calendar_end := ⟨⟨cCalendar, f21, _, _, e_Calendar, cl_Calendar, ⟨a21, i21, k21⟩, (Fu21.binds (ps := ["self"]) fun _ _ _ _ _ _ us hl => match us, hl with | [_], _ => rfl), (ok_Calendar_end Fu21 T )⟩⟩
  have M_Calendar_at : Met l.prog w K mg base 0 "at" 1 2 F_Calendar_at := ⟨⟨cCalendar, f22, _, _, e_Calendar, cl_Calendar, ⟨a22, i22, k22⟩, (Fu22.binds (ps := ["self", "turn"]) fun _ _ _ _ _ _ us hl => match us, hl with | [_, _], _ => rfl), (ok_Calendar_at Fu22 T )⟩⟩
  have M_Calendar_changes : Met l.prog w K mg base 0 "changes" 1 3 F_Calendar_changes := ⟨⟨cCalendar, f23, _, _, e_Calendar, cl_Calendar, ⟨a23, i23, k23⟩, (Fu23.binds (ps := ["self", "first", "last"]) fun _ _ _ _ _ _ us hl => match us, hl with | [_, _, _], _ => rfl), (ok_Calendar_changes Fu23 T )⟩⟩
  have C_made : Cal l.prog w K mg base "made" 6 2 F_made := cal_mk Fu24 (PySem.W.mg_of X G a24) (Fu24.binds (ps := ["rows", "rest"]) fun _ _ _ _ _ _ us hl => match us, hl with | [_, _], _ => rfl) (ok_made Fu24 T K_Calendar M_Calendar_keep)
  have M_Calendar_changed : Met l.prog w K mg base 0 "changed" 7 4 F_Calendar_changed := ⟨⟨cCalendar, f25, _, _, e_Calendar, cl_Calendar, ⟨a25, i25, k25⟩, (Fu25.binds (ps := ["self", "first", "last", "by"]) fun _ _ _ _ _ _ us hl => match us, hl with | [_, _, _, _], _ => rfl), (ok_Calendar_changed Fu25 T M_Calendar_pieces C_made)⟩⟩
  have M_Calendar_fewer : Met l.prog w K mg base 0 "fewer" 8 4 F_Calendar_fewer := ⟨⟨cCalendar, f26, _, _, e_Calendar, cl_Calendar, ⟨a26, i26, k26⟩, (Fu26.binds (ps := ["self", "first", "last", "many"]) fun _ _ _ _ _ _ us hl => match us, hl with | [_, _, _, _], _ => rfl), (ok_Calendar_fewer Fu26 T C_made M_Calendar_changed)⟩⟩
  have M_Calendar_more : Met l.prog w K mg base 0 "more" 8 4 F_Calendar_more := ⟨⟨cCalendar, f27, _, _, e_Calendar, cl_Calendar, ⟨a27, i27, k27⟩, (Fu27.binds (ps := ["self", "first", "last", "many"]) fun _ _ _ _ _ _ us hl => match us, hl with | [_, _, _, _], _ => rfl), (ok_Calendar_more Fu27 T C_made M_Calendar_changed)⟩⟩
  have M_Calendar_widened : Met l.prog w K mg base 0 "widened" 1 2 F_Calendar_widened := ⟨⟨cCalendar, f28, _, _, e_Calendar, cl_Calendar, ⟨a28, i28, k28⟩, (Fu28.binds (ps := ["self", "many"]) fun _ _ _ _ _ _ us hl => match us, hl with | [_, _], _ => rfl), (ok_Calendar_widened Fu28 T )⟩⟩
  have C_q_cell_at : Cal l.prog w K mg base "_law_cell_at" 1 2 F_q_cell_at := cal_mk Fu29 (PySem.W.mg_of X G a29) (Fu29.binds (ps := ["_law_script", "_law_k"]) fun _ _ _ _ _ _ us hl => match us, hl with | [_, _], _ => rfl) (ok_q_cell_at Fu29 T )
  have C_q_whole : Cal l.prog w K mg base "_law_whole" 1 1 F_q_whole := cal_mk Fu30 (PySem.W.mg_of X G a30) (Fu30.binds (ps := ["_law_found"]) fun _ _ _ _ _ _ us hl => match us, hl with | [_], _ => rfl) (ok_q_whole Fu30 T )
  have C_q_mixed : Cal l.prog w K mg base "_law_mixed" 1 2 F_q_mixed := cal_mk Fu31 (PySem.W.mg_of X G a31) (Fu31.binds (ps := ["_law_cell", "_law_k"]) fun _ _ _ _ _ _ us hl => match us, hl with | [_, _], _ => rfl) (ok_q_mixed Fu31 T )
  have C_q_names : Cal l.prog w K mg base "_law_names" 2 2 F_q_names := cal_mk Fu32 (PySem.W.mg_of X G a32) (Fu32.binds (ps := ["_law_cell", "_law_many"]) fun _ _ _ _ _ _ us hl => match us, hl with | [_, _], _ => rfl) (ok_q_names Fu32 T C_q_mixed)
  have C_q_rows : Cal l.prog w K mg base "_law_rows" 2 1 F_q_rows := cal_mk Fu33 (PySem.W.mg_of X G a33) (Fu33.binds (ps := ["_law_cell"]) fun _ _ _ _ _ _ us hl => match us, hl with | [_], _ => rfl) (ok_q_rows Fu33 T C_q_mixed)
  have C_q_load : Cal l.prog w K mg base "_law_load" 3 2 F_q_load := cal_mk Fu34 (PySem.W.mg_of X G a34) (Fu34.binds (ps := ["_law_script", "_law_by"]) fun _ _ _ _ _ _ us hl => match us, hl with | [_, _], _ => rfl) (ok_q_load Fu34 T C_q_cell_at C_q_mixed C_q_names)
  have C_q_over : Cal l.prog w K mg base "_law_over" 1 4 F_q_over := cal_mk Fu35 (PySem.W.mg_of X G a35) (Fu35.binds (ps := ["_law_rows_here", "_law_rest", "_law_first", "_law_last"]) fun _ _ _ _ _ _ us hl => match us, hl with | [_, _, _, _], _ => rfl) (ok_q_over Fu35 T )
  have C_q_inside : Cal l.prog w K mg base "_law_inside" 1 2 F_q_inside := cal_mk Fu36 (PySem.W.mg_of X G a36) (Fu36.binds (ps := ["_law_job", "_law_spans_here"]) fun _ _ _ _ _ _ us hl => match us, hl with | [_, _], _ => rfl) (ok_q_inside Fu36 T )
  have C_q_excess : Cal l.prog w K mg base "_law_excess" 2 2 F_q_excess := cal_mk Fu37 (PySem.W.mg_of X G a37) (Fu37.binds (ps := ["_law_job", "_law_spans_here"]) fun _ _ _ _ _ _ us hl => match us, hl with | [_, _], _ => rfl) (ok_q_excess Fu37 T C_q_inside)
  have C_q_overflow : Cal l.prog w K mg base "_law_overflow" 3 4 F_q_overflow := cal_mk Fu38 (PySem.W.mg_of X G a38) (Fu38.binds (ps := ["_law_load_here", "_law_rows_here", "_law_rest", "_law_spans_here"]) fun _ _ _ _ _ _ us hl => match us, hl with | [_, _, _, _], _ => rfl) (ok_q_overflow Fu38 T C_q_excess C_q_over)
  have C_q_spans : Cal l.prog w K mg base "_law_spans" 2 3 F_q_spans := cal_mk Fu39 (PySem.W.mg_of X G a39) (Fu39.binds (ps := ["_law_cell", "_law_start", "_law_by"]) fun _ _ _ _ _ _ us hl => match us, hl with | [_, _, _], _ => rfl) (ok_q_spans Fu39 T C_q_mixed)
  exact law_T (ok_q_law Fu40 T C_q_cell_at C_q_rows C_q_load C_q_spans K_Calendar C_q_overflow C_overflow C_q_whole) hF
theorem walk {l : PySem.W.OpenLaw} {q : Program} {loose : List Str} {XP : (Str → Option Value) → Heap → Prop} {YP : World → Heap → Prop} {d : DefRec} {K : Params → PySem.W.Frag} (hn : l.most = some 63) (hdf : d.params.defaults = [])
    (hY : ∀ (w : World) (h : Heap), YP w h → (K w.params).In h)
    (F : ∀ (w : World) (mg : Str → Option Value) (fa : Addr) (h : Heap), (K w.params).In h → h.Ns mainGlobals mg → mg d.name = some (.ref fa) →
      ∃ fd : FuncData, (∀ (s : Shared) (u : Value), BindsTo s fd ⟨[u], []⟩ [("_law_script", u)]) ∧ ∀ base : Heap, (K w.params).In base → base.Ns mainGlobals mg → FnOk l.prog w (K w.params) mg base (L2.CX l.prog w) 6 fa fd ["_law_script"] (spLaw (K w.params))) :
    PySem.W.WalkO q loose XP YP l.row.toRowW d [] (fun f vs => PySem.call f vs) :=
  L2.walk_of (n := 63) (k := 6) (x := "_law_script") (CX := fun w => L2.CX l.prog w) (sp := fun w => spLaw (K w.params)) hn (by decide) hdf ⟨rfl, by decide, by decide⟩ hY F (fun _ _ a ns hl _ hS => ⟨a, ns, rfl, hS, hl, fun _ => rfl⟩) fun _ _ _ _ _ z => by
    obtain ⟨_, _, _, _, _, _, _, _, _, _, _, _, z⟩ := z
    exact z.elim
end K41
open PySem PySem.W PyProof.Rows in
set_option maxRecDepth 100000 in
set_option maxHeartbeats 0 in
theorem PySem.Challenge.cw_dueyard_k41_overflow_holds : PySem.Challenge.rw_dueyard_k41_overflow.Holds := by
  w_on; o_law; k_head; (case hw => w_witness2)
  k_fill
  refine K41.walk (l := PySem.Challenge.rw_dueyard_k41_overflow) rfl rfl (fun w h Y => PySem.W.kIn_of Y) ?F
  case F =>
    intro w mg fa h KX G hmg
    refine' K41.all_mk KX G hmg ?g_Calendar ?pg_Calendar ?hd_Calendar ?po_Calendar ?sa_Calendar ?mk_Calendar ?kc_Calendar ?g_NoName ?xsb_NoName ?xty_NoName ?kc_NoName ?xp_NoName ?g_NoNumber ?xsb_NoNumber ?xty_NoNumber ?kc_NoNumber ?xp_NoNumber ?g_NoCalendar ?xsb_NoCalendar ?xty_NoCalendar ?kc_NoCalendar ?xp_NoCalendar ?g_TooMany ?xsb_TooMany ?xty_TooMany ?kc_TooMany ?xp_TooMany ?g_Twice ?xsb_Twice ?xty_Twice ?kc_Twice ?xl_Twice ?xr_Twice ?xsa_Twice ?xno_Twice ?xin_Twice ?xtf_Twice ?xli_Twice ?xci_Twice ?xki_Twice ?a0 ?l0 ?c0 ?k0 ?a1 ?l1 ?c1 ?k1 ?a2 ?l2 ?c2 ?k2 ?a3 ?l3 ?c3 ?k3 ?a4 ?l4 ?c4 ?k4 ?a5 ?l5 ?c5 ?k5 ?a6 ?l6 ?c6 ?k6 ?a7 ?l7 ?c7 ?k7 ?a8 ?l8 ?c8 ?k8 ?a9 ?l9 ?c9 ?k9 ?i10 ?a10 ?l10 ?c10 ?k10 ?i11 ?a11 ?l11 ?c11 ?k11 ?i12 ?a12 ?l12 ?c12 ?k12 ?a13 ?l13 ?c13 ?k13 ?a14 ?l14 ?c14 ?k14 ?a15 ?l15 ?c15 ?k15 ?a16 ?l16 ?c16 ?k16 ?i17 ?a17 ?l17 ?c17 ?k17 ?i18 ?a18 ?l18 ?c18 ?k18 ?i19 ?a19 ?l19 ?c19 ?k19 ?i20 ?a20 ?l20 ?c20 ?k20 ?i21 ?a21 ?l21 ?c21 ?k21 ?i22 ?a22 ?l22 ?c22 ?k22 ?i23 ?a23 ?l23 ?c23 ?k23 ?a24 ?l24 ?c24 ?k24 ?i25 ?a25 ?l25 ?c25 ?k25 ?i26 ?a26 ?l26 ?c26 ?k26 ?i27 ?a27 ?l27 ?c27 ?k27 ?i28 ?a28 ?l28 ?c28 ?k28 ?a29 ?l29 ?c29 ?k29 ?a30 ?l30 ?c30 ?k30 ?a31 ?l31 ?c31 ?k31 ?a32 ?l32 ?c32 ?k32 ?a33 ?l33 ?c33 ?k33 ?a34 ?l34 ?c34 ?k34 ?a35 ?l35 ?c35 ?k35 ?a36 ?l36 ?c36 ?k36 ?a37 ?l37 ?c37 ?k37 ?a38 ?l38 ?c38 ?k38 ?a39 ?l39 ?c39 ?k39 ?a40 ?l40 ?c40 ?k40 ?z0 ?z1 ?z2 ?z3 ?z4 ?z5 ?z6 ?z7 ?z8 ?z9 ?z10 ?y0 ?y1 ?y2 ?y3 ?y4 ?y5 ?y6 ?y7 ?y8 ?y9 ?na_Calendar_for_ever ?na_Calendar_strips ?hF
    (case g_Calendar => k_is)
    (case pg_Calendar => k_is)
    (case hd_Calendar => k_is)
    (case po_Calendar => k_is)
    (case sa_Calendar => k_is)
    (case mk_Calendar => k_is)
    (case kc_Calendar => k_is)
    (case g_NoName => k_is)
    (case xsb_NoName => k_is)
    (case xty_NoName => k_is)
    (case kc_NoName => k_is)
    (case xp_NoName => k_exc)
    (case g_NoNumber => k_is)
    (case xsb_NoNumber => k_is)
    (case xty_NoNumber => k_is)
    (case kc_NoNumber => k_is)
    (case xp_NoNumber => k_exc)
    (case g_NoCalendar => k_is)
    (case xsb_NoCalendar => k_is)
    (case xty_NoCalendar => k_is)
    (case kc_NoCalendar => k_is)
    (case xp_NoCalendar => k_exc)
    (case g_TooMany => k_is)
    (case xsb_TooMany => k_is)
    (case xty_TooMany => k_is)
    (case kc_TooMany => k_is)
    (case xp_TooMany => k_exc)
    (case g_Twice => k_is)
    (case xsb_Twice => k_is)
    (case xty_Twice => k_is)
    (case kc_Twice => k_is)
    (case xl_Twice => k_is)
    (case xr_Twice => decide +kernel)
    (case xsa_Twice => k_is)
    (case xno_Twice => k_is)
    (case xin_Twice => k_is)
    (case xtf_Twice => k_is)
    (case xli_Twice => k_is)
    (case xci_Twice => k_is)
    (case xki_Twice => k_is)
    (case a0 => k_is)
    (case l0 => k_is)
    (case c0 => k_is)
    (case k0 => k_is)
    (case a1 => k_is)
    (case l1 => k_is)
    (case c1 => k_is)
    (case k1 => k_is)
    (case a2 => k_is)
    (case l2 => k_is)
    (case c2 => k_is)
    (case k2 => k_is)
    (case a3 => k_is)
    (case l3 => k_is)
    (case c3 => k_is)
    (case k3 => k_is)
    (case a4 => k_is)
    (case l4 => k_is)
    (case c4 => k_is)
    (case k4 => k_is)
    (case a5 => k_is)
    (case l5 => k_is)
    (case c5 => k_is)
    (case k5 => k_is)
    (case a6 => k_is)
    (case l6 => k_is)
    (case c6 => k_is)
    (case k6 => k_is)
    (case a7 => k_is)
    (case l7 => k_is)
    (case c7 => k_is)
    (case k7 => k_is)
    (case a8 => k_is)
    (case l8 => k_is)
    (case c8 => k_is)
    (case k8 => k_is)
    (case a9 => k_is)
    (case l9 => k_is)
    (case c9 => k_is)
    (case k9 => k_is)
    (case i10 => k_is)
    (case a10 => k_is)
    (case l10 => k_is)
    (case c10 => k_is)
    (case k10 => k_is)
    (case i11 => k_is)
    (case a11 => k_is)
    (case l11 => k_is)
    (case c11 => k_is)
    (case k11 => k_is)
    (case i12 => k_is)
    (case a12 => k_is)
    (case l12 => k_is)
    (case c12 => k_is)
    (case k12 => k_is)
    (case a13 => k_is)
    (case l13 => k_is)
    (case c13 => k_is)
    (case k13 => k_is)
    (case a14 => k_is)
    (case l14 => k_is)
    (case c14 => k_is)
    (case k14 => k_is)
    (case a15 => k_is)
    (case l15 => k_is)
    (case c15 => k_is)
    (case k15 => k_is)
    (case a16 => k_is)
    (case l16 => k_is)
    (case c16 => k_is)
    (case k16 => k_is)
    (case i17 => k_is)
    (case a17 => k_is)
    (case l17 => k_is)
    (case c17 => k_is)
    (case k17 => k_is)
    (case i18 => k_is)
    (case a18 => k_is)
    (case l18 => k_is)
    (case c18 => k_is)
    (case k18 => k_is)
    (case i19 => k_is)
    (case a19 => k_is)
    (case l19 => k_is)
    (case c19 => k_is)
    (case k19 => k_is)
    (case i20 => k_is)
    (case a20 => k_is)
    (case l20 => k_is)
    (case c20 => k_is)
    (case k20 => k_is)
    (case i21 => k_is)
    (case a21 => k_is)
    (case l21 => k_is)
    (case c21 => k_is)
    (case k21 => k_is)
    (case i22 => k_is)
    (case a22 => k_is)
    (case l22 => k_is)
    (case c22 => k_is)
    (case k22 => k_is)
    (case i23 => k_is)
    (case a23 => k_is)
    (case l23 => k_is)
    (case c23 => k_is)
    (case k23 => k_is)
    (case a24 => k_is)
    (case l24 => k_is)
    (case c24 => k_is)
    (case k24 => k_is)
    (case i25 => k_is)
    (case a25 => k_is)
    (case l25 => k_is)
    (case c25 => k_is)
    (case k25 => k_is)
    (case i26 => k_is)
    (case a26 => k_is)
    (case l26 => k_is)
    (case c26 => k_is)
    (case k26 => k_is)
    (case i27 => k_is)
    (case a27 => k_is)
    (case l27 => k_is)
    (case c27 => k_is)
    (case k27 => k_is)
    (case i28 => k_is)
    (case a28 => k_is)
    (case l28 => k_is)
    (case c28 => k_is)
    (case k28 => k_is)
    (case a29 => k_is)
    (case l29 => k_is)
    (case c29 => k_is)
    (case k29 => k_is)
    (case a30 => k_is)
    (case l30 => k_is)
    (case c30 => k_is)
    (case k30 => k_is)
    (case a31 => k_is)
    (case l31 => k_is)
    (case c31 => k_is)
    (case k31 => k_is)
    (case a32 => k_is)
    (case l32 => k_is)
    (case c32 => k_is)
    (case k32 => k_is)
    (case a33 => k_is)
    (case l33 => k_is)
    (case c33 => k_is)
    (case k33 => k_is)
    (case a34 => k_is)
    (case l34 => k_is)
    (case c34 => k_is)
    (case k34 => k_is)
    (case a35 => k_is)
    (case l35 => k_is)
    (case c35 => k_is)
    (case k35 => k_is)
    (case a36 => k_is)
    (case l36 => k_is)
    (case c36 => k_is)
    (case k36 => k_is)
    (case a37 => k_is)
    (case l37 => k_is)
    (case c37 => k_is)
    (case k37 => k_is)
    (case a38 => k_is)
    (case l38 => k_is)
    (case c38 => k_is)
    (case k38 => k_is)
    (case a39 => k_is)
    (case l39 => k_is)
    (case c39 => k_is)
    (case k39 => k_is)
    (case a40 => k_is)
    (case l40 => k_is)
    (case c40 => k_is)
    (case k40 => k_is)
    (case z0 => k_is)
    (case z1 => k_is)
    (case z2 => k_is)
    (case z3 => k_is)
    (case z4 => k_is)
    (case z5 => k_is)
    (case z6 => k_is)
    (case z7 => k_is)
    (case z8 => k_is)
    (case z9 => k_is)
    (case z10 => k_is)
    (case y0 => k_is)
    (case y1 => k_is)
    (case y2 => k_is)
    (case y3 => k_is)
    (case y4 => k_is)
    (case y5 => k_is)
    (case y6 => k_is)
    (case y7 => k_is)
    (case y8 => k_is)
    (case y9 => k_is)
    (case na_Calendar_for_ever => k_is)
    (case na_Calendar_strips => k_is)
    (case hF => exact K41.law_true)
