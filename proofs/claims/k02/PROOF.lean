import PyProof.Rows.All
import Wide.All
import OpenK.AllK
import Wide.FinOn
import PyProof.EqAt
import PyProof.EqKinds
import PyProof.TupleCall
import HandS.ForMost
import HandS.ForExc
import HandS.CallSlots
import HandS.Style
import HandS.IsInst
import HandS.Text
import HandS.SortInts
import HandS.SortRule
import HandS.Deep
import HandS.WordsDict
import HandS.Rev
import HandS.NoneIn
import HandS.Flt
import HandS.FStr
import HandS.RaiseMore
import HandS.Exc
import HandS.ExcInit
import HandS.ExcField
import HandS.ExcIs
import HandS.TryMany
import KE.KTryMore
import KE.KExcIs
import HandS.HotCalls
import HandS.DictEq
import HandS.SetFor
import HandS.Strs
import HandS.Zip
import HandS.Iter
import PyProof.StrBlock2
import PyProof.ListStr
import HandS.Conv
import PySem.Challenge.RW_dueyard_k02_sets_of_turns
set_option Elab.async false
set_option linter.all false
set_option maxRecDepth 100000
namespace Tr
open PySem L2

/-- a value as a tree; scr: the script -/
inductive T where
  | non | bl (b : Bool) | int (i : Int) | str (x : Str)
  | tup (l : List T) | lst (l : List T) | scr (ns : List Int)
  | dik (l : List (Key × T)) | dit (l : List (List Key × T))
  | obj (C : Nat) (fs : List (Str × T))
  | fn (f : Addr)
  /-- the cell k: an object that is changed, known by its number -/
  | ptr (k : Nat)
  /-- an exception: its class, its one field -/
  | ex0 (C : Nat) | ex1 (C : Nat) (t : T)

/-- what is not to be spoken of; where the cells stand -/
structure Xs where
  p : Addr → Prop
  cs : Nat → Option Addr
instance : CoeFun Xs (fun _ => Addr → Prop) := ⟨Xs.p⟩
def Xs.add (X : Xs) (a : Addr) : Xs := ⟨fun b => X.p b ∨ b = a, X.cs⟩
def Xs.bare (X : Xs) : Xs := ⟨fun _ => False, X.cs⟩

/-- the program's classes; in a tree a class is its number -/
def cNames : List Str := ["Calendar", "Walk", "Flow", "Verdict", "Kept", "Full", "Entry", "Standing", "Finished", "Withdrawn", "Yard", "Desk", "YardError", "NoName", "NoNumber", "NoCalendar", "NoSpans", "TooMany", "NoPlan", "NoLine", "Twice", "Taken", "NoJob", "TooLong"]
def refO : Option (Option Value) → Option Addr
  | some (some (.ref a)) => some a
  | _ => none
def clsA (K : PySem.W.Frag) (C : Nat) : Option Addr := match cNames[C]? with
  | some n => refO (PySem.W.nsIn K mainGlobals n)
  | none => none
/-- a list of the written part -/
def WrL (K : PySem.W.Frag) (a : Addr) (xs : List V) : Prop :=
  ∃ (o : Obj) (its : Array Value) (n : Nat), K.lookup a = some o ∧ o.cls = .type "list" ∧ o.dict = none ∧ o.data = .seq its n ∧ its.size ≤ sizeLine ∧ Vals xs its.toList

/-- at a: a caught exception of the class cls, its dict at d -/
def exq (a : Addr) (cls : Value) (d : Option Addr) : HO := .ext fun h => ∃ o vs, h.get? a = some o ∧ o.cls = cls ∧ o.dict = d ∧ o.data = .fields vs
/-- the tree t stands at v; nothing of it at an address of B -/
inductive Rp (K : PySem.W.Frag) (H : Hp) (B : Xs) : T → V → Prop
  | non : Rp K H B .non .non
  | bl (b : Bool) : Rp K H B (.bl b) (.bl b)
  | int (i : Int) : Rp K H B (.int i) (.int i)
  | str (x : Str) : PyData.strOk x = true → Rp K H B (.str x) (.str x)
  | tup {a : Addr} {ts : List T} {us : List V} : H a = some (.tup us) → ¬ B a → ts.length = us.length →
      (∀ (i : Nat) (t : T) (u : V), ts[i]? = some t → us[i]? = some u → Rp K H B t u) → Rp K H B (.tup ts) (.ref a)
  | lst {a : Addr} {ts : List T} {us : List V} : H a = some (.lst us) → ¬ B a → ts.length = us.length →
      (∀ (i : Nat) (t : T) (u : V), ts[i]? = some t → us[i]? = some u → Rp K H B t u) → Rp K H B (.lst ts) (.ref a)
  | scr {a : Addr} {ns : List Int} : ((Rd H a (.lst (ns.map V.int)) ∧ ¬ B a) ∨ WrL K a (ns.map V.int)) → Rp K H B (.scr ns) (.ref a)
  | dik {a : Addr} {ts : List (Key × T)} {us : List (Key × V)} : H a = some (.dK us) → ¬ B a → ts.map (·.1) = us.map (·.1) → (ts.map (·.2)).length = (us.map (·.2)).length →
      (∀ (i : Nat) (t : T) (u : V), (ts.map (·.2))[i]? = some t → (us.map (·.2))[i]? = some u → Rp K H B t u) → Rp K H B (.dik ts) (.ref a)
  | dit {a : Addr} {ts : List (List Key × T)} {us : List (List Key × V)} : H a = some (.dT us) → ¬ B a → ts.map (·.1) = us.map (·.1) → (ts.map (·.2)).length = (us.map (·.2)).length →
      (∀ (i : Nat) (t : T) (u : V), (ts.map (·.2))[i]? = some t → (us.map (·.2))[i]? = some u → Rp K H B t u) → Rp K H B (.dit ts) (.ref a)
  | obj {C : Nat} {c a dx : Addr} {ts : List (Str × T)} {us : List (Str × V)} : clsA K C = some c → H a = some (.ins c dx us) → ¬ B a → ts.map (·.1) = us.map (·.1) → (ts.map (·.2)).length = (us.map (·.2)).length →
      (∀ (i : Nat) (t : T) (u : V), (ts.map (·.2))[i]? = some t → (us.map (·.2))[i]? = some u → Rp K H B t u) → Rp K H B (.obj C ts) (.ref a)
  | fn (f : Addr) : Rp K H B (.fn f) (.ref f)
  | ptr {k : Nat} {a : Addr} : B.cs k = some a → Rp K H B (.ptr k) (.ref a)
  | ex0 {C : Nat} {c a : Addr} : clsA K C = some c → H a = some (exq a (.ref c) none) → ¬ B a → Rp K H B (.ex0 C) (.ref a)
  | ex1 {C : Nat} {c a dd : Addr} {t : T} {v : V} : clsA K C = some c → H a = some (exq a (.ref c) (some dd)) → ¬ B a → H dd = some (.xd [(("name" : Str), v)]) → ¬ B dd → Rp K H B t v → Rp K H B (.ex1 C t) (.ref a)

def RpAll (K : PySem.W.Frag) (H : Hp) (B : Xs) (ts : List T) (us : List V) : Prop :=
  ts.length = us.length ∧ ∀ (i : Nat) (t : T) (u : V), ts[i]? = some t → us[i]? = some u → Rp K H B t u

/-- what is tracked and not at B stays, and does not come to stand at B' -/
structure Keep (B : Xs) (H : Hp) (B' : Xs) (H' : Hp) : Prop where
  k : ∀ a o, H a = some o → ¬ B a → H' a = some o ∧ ¬ B' a
  c : ∀ k a, B.cs k = some a → B'.cs k = some a := by exact fun _ _ e => e

theorem Keep.refl {B : Xs} {H : Hp} : Keep B H B H := ⟨fun _ _ h n => ⟨h, n⟩, fun _ _ e => e⟩
theorem Keep.trans {B B1 B2 : Xs} {H H1 H2 : Hp} (a : Keep B H B1 H1) (b : Keep B1 H1 B2 H2) : Keep B H B2 H2 := ⟨fun c o h n =>
  let ⟨h1, n1⟩ := a.k c o h n
  b.k c o h1 n1, fun k c e => b.c k c (a.c k c e)⟩

section
variable {K : PySem.W.Frag} {H H' : Hp} {B B' : Xs}
theorem Rd.keep {a : Addr} {u : HO} (k : Keep B H B' H') (h : Rd H a u) (n : ¬ B a) : Rd H' a u ∧ ¬ B' a := by
  rcases h with h | ⟨o, h⟩
  · exact ⟨.inl (k.k _ _ h n).1, (k.k _ _ h n).2⟩
  · exact ⟨.inr ⟨o, (k.k _ _ h n).1⟩, (k.k _ _ h n).2⟩
theorem Rp.keep {t : T} {v : V} (h : Rp K H B t v) (k : Keep B H B' H') : Rp K H' B' t v := by
  induction h with
  | non => exact .non
  | bl b => exact .bl b
  | int i => exact .int i
  | str x h => exact .str x h
  | tup h n hl _ ih =>
    have r := k.k _ _ h n
    exact .tup r.1 r.2 hl ih
  | lst h n hl _ ih =>
    have r := k.k _ _ h n
    exact .lst r.1 r.2 hl ih
  | scr hq =>
    refine .scr ?_
    rcases hq with ⟨h, n⟩ | h
    · exact .inl (Rd.keep k h n)
    · exact .inr h
  | dik h n hl hz _ ih =>
    have r := k.k _ _ h n
    exact .dik r.1 r.2 hl hz ih
  | dit h n hl hz _ ih =>
    have r := k.k _ _ h n
    exact .dit r.1 r.2 hl hz ih
  | obj hc h n hl hz _ ih =>
    have r := k.k _ _ h n
    exact .obj hc r.1 r.2 hl hz ih
  | fn f => exact .fn f
  | ptr e => exact .ptr (k.c _ _ e)
  | ex0 hc h n =>
    have r := k.k _ _ h n
    exact .ex0 hc r.1 r.2
  | ex1 hc h n h2 n2 _ ih =>
    have r := k.k _ _ h n
    have r2 := k.k _ _ h2 n2
    exact .ex1 hc r.1 r.2 r2.1 r2.2 ih
mutual
/-- no cell is spoken of -/
def T.np : T → Bool
  | .ptr _ => false
  | .tup l => T.nps l
  | .lst l => T.nps l
  | .dik l => T.npk l
  | .dit l => T.npd l
  | .obj _ l => T.npf l
  | .ex1 _ t => T.np t
  | _ => true
def T.nps : List T → Bool
  | [] => true
  | t :: l => T.np t && T.nps l
def T.npk : List (Key × T) → Bool
  | [] => true
  | (_, t) :: l => T.np t && T.npk l
def T.npd : List (List Key × T) → Bool
  | [] => true
  | (_, t) :: l => T.np t && T.npd l
def T.npf : List (Str × T) → Bool
  | [] => true
  | (_, t) :: l => T.np t && T.npf l
end
theorem T.nps_all : ∀ l : List T, T.nps l = l.all T.np
  | [] => by simp [T.nps]
  | t :: l => by simp [T.nps, T.nps_all l]
theorem T.npk_all : ∀ l : List (Key × T), T.npk l = (l.map (·.2)).all T.np
  | [] => by simp [T.npk]
  | (_, t) :: l => by simp [T.npk, T.npk_all l]
theorem T.npd_all : ∀ l : List (List Key × T), T.npd l = (l.map (·.2)).all T.np
  | [] => by simp [T.npd]
  | (_, t) :: l => by simp [T.npd, T.npd_all l]
theorem T.npf_all : ∀ l : List (Str × T), T.npf l = (l.map (·.2)).all T.np
  | [] => by simp [T.npf]
  | (_, t) :: l => by simp [T.npf, T.npf_all l]
theorem np_get {l : List T} (h : l.all T.np = true) {i : Nat} {t : T} (e : l[i]? = some t) : t.np = true := List.all_eq_true.mp h t (List.mem_of_getElem? e)
/-- where no cell is spoken of, it does not matter where they stand -/
theorem Rp.np {t : T} {v : V} (h : Rp K H B t v) (p : ∀ a, B' a → B a) : t.np = true → Rp K H B' t v := by
  induction h with
  | non => exact fun _ => .non
  | bl b => exact fun _ => .bl b
  | int i => exact fun _ => .int i
  | str x h => exact fun _ => .str x h
  | tup h n hl _ ih => exact fun q => .tup h (fun z => n (p _ z)) hl fun i t u a b => ih i t u a b (np_get (by rw [T.np, T.nps_all] at q; exact q) a)
  | lst h n hl _ ih => exact fun q => .lst h (fun z => n (p _ z)) hl fun i t u a b => ih i t u a b (np_get (by rw [T.np, T.nps_all] at q; exact q) a)
  | scr hq => exact fun _ => .scr (hq.imp (fun z => ⟨z.1, fun y => z.2 (p _ y)⟩) id)
  | dik h n hl hz _ ih => exact fun q => .dik h (fun z => n (p _ z)) hl hz fun i t u a b => ih i t u a b (np_get (by rw [T.np, T.npk_all] at q; exact q) a)
  | dit h n hl hz _ ih => exact fun q => .dit h (fun z => n (p _ z)) hl hz fun i t u a b => ih i t u a b (np_get (by rw [T.np, T.npd_all] at q; exact q) a)
  | obj hc h n hl hz _ ih => exact fun q => .obj hc h (fun z => n (p _ z)) hl hz fun i t u a b => ih i t u a b (np_get (by rw [T.np, T.npf_all] at q; exact q) a)
  | fn f => exact fun _ => .fn f
  | ptr e => exact fun q => by rw [T.np] at q; cases q
  | ex0 hc h n => exact fun _ => .ex0 hc h fun z => n (p _ z)
  | ex1 hc h n h2 n2 _ ih => exact fun q => .ex1 hc h (fun z => n (p _ z)) h2 (fun z => n2 (p _ z)) (ih (by rw [T.np] at q; exact q))
theorem Rp.same {t : T} {v : V} (h : Rp K H B t v) (s : Same H H') : Rp K H' B t v := h.keep ⟨fun a o e n => ⟨s a o e, n⟩, fun _ _ e => e⟩
theorem Rp.anti {t : T} {v : V} (h : Rp K H B t v) (s : ∀ a, B' a → B a) (c : ∀ k a, B.cs k = some a → B'.cs k = some a := by exact fun _ _ e => e) : Rp K H B' t v := h.keep ⟨fun a o e n => ⟨e, fun z => n (s a z)⟩, c⟩
theorem RpAll.keep {ts : List T} {us : List V} (h : RpAll K H B ts us) (k : Keep B H B' H') : RpAll K H' B' ts us := ⟨h.1, fun i t u a b => (h.2 i t u a b).keep k⟩
theorem RpAll.same {ts : List T} {us : List V} (h : RpAll K H B ts us) (s : Same H H') : RpAll K H' B ts us := h.keep ⟨fun a o e n => ⟨s a o e, n⟩, fun _ _ e => e⟩
theorem RpAll.anti {ts : List T} {us : List V} (h : RpAll K H B ts us) (s : ∀ a, B' a → B a) (c : ∀ k a, B.cs k = some a → B'.cs k = some a := by exact fun _ _ e => e) : RpAll K H B' ts us := h.keep ⟨fun a o e n => ⟨e, fun z => n (s a z)⟩, c⟩
/-- a new address is no part of what stands -/
theorem Rp.newB {t : T} {v : V} {p : Addr} (h : Rp K H B t v) (hp : H p = none) : Rp K H (B.add p) t v := h.keep ⟨fun a o e n => ⟨e, fun z => z.elim n fun q => by rw [q, hp] at e; cases e⟩, fun _ _ e => e⟩
theorem RpAll.newB {ts : List T} {us : List V} {p : Addr} (h : RpAll K H B ts us) (hp : H p = none) : RpAll K H (B.add p) ts us := ⟨h.1, fun i t u a b => (h.2 i t u a b).newB hp⟩
theorem RpAll.nil : RpAll K H B [] [] := ⟨rfl, fun i t u a => by simp at a⟩
theorem RpAll.cons {t : T} {v : V} {ts : List T} {us : List V} (h : Rp K H B t v) (r : RpAll K H B ts us) : RpAll K H B (t :: ts) (v :: us) :=
  ⟨by simp [r.1], fun i t' u' a b => by
    cases i with
    | zero => simp at a b; subst a b; exact h
    | succ i => exact r.2 i t' u' (by simpa using a) (by simpa using b)⟩
theorem RpAll.head {t : T} {v : V} {ts : List T} {us : List V} (h : RpAll K H B (t :: ts) (v :: us)) : Rp K H B t v := h.2 0 t v rfl rfl
theorem RpAll.tail {t : T} {v : V} {ts : List T} {us : List V} (h : RpAll K H B (t :: ts) (v :: us)) : RpAll K H B ts us :=
  ⟨by simpa using h.1, fun i t' u' a b => h.2 (i + 1) t' u' (by simpa using a) (by simpa using b)⟩
theorem RpAll.get {ts : List T} {us : List V} {i : Nat} {t : T} (h : RpAll K H B ts us) (e : ts[i]? = some t) : ∃ u, us[i]? = some u ∧ Rp K H B t u := by
  obtain ⟨hi, _⟩ := List.getElem?_eq_some_iff.mp e
  have hj : i < us.length := by rw [← h.1]; exact hi
  exact ⟨us[i], List.getElem?_eq_getElem hj, h.2 i t _ e (List.getElem?_eq_getElem hj)⟩
theorem RpAll.get' {ts : List T} {us : List V} {i : Nat} {u : V} (h : RpAll K H B ts us) (e : us[i]? = some u) : ∃ t, ts[i]? = some t ∧ Rp K H B t u := by
  obtain ⟨hi, _⟩ := List.getElem?_eq_some_iff.mp e
  have hj : i < ts.length := by rw [h.1]; exact hi
  exact ⟨ts[i], List.getElem?_eq_getElem hj, h.2 i _ u (List.getElem?_eq_getElem hj) e⟩
theorem RpAll.append {ts ts' : List T} {us us' : List V} (h : RpAll K H B ts us) (r : RpAll K H B ts' us') : RpAll K H B (ts ++ ts') (us ++ us') :=
  ⟨by simp [h.1, r.1], fun i t u a b => by
    by_cases q : i < ts.length
    · rw [List.getElem?_append_left q] at a
      rw [List.getElem?_append_left (by rw [← h.1]; exact q)] at b
      exact h.2 i t u a b
    · rw [List.getElem?_append_right (by omega)] at a
      rw [List.getElem?_append_right (by rw [← h.1]; omega)] at b
      exact r.2 _ t u a (by rw [h.1]; exact b)⟩
theorem RpAll.one {t : T} {v : V} (h : Rp K H B t v) : RpAll K H B [t] [v] := .cons h .nil
theorem RpAll.set {ts : List T} {us : List V} {t : T} {v : V} (h : RpAll K H B ts us) (r : Rp K H B t v) (i : Nat) : RpAll K H B (ts.set i t) (us.set i v) :=
  ⟨by simp [h.1], fun j t' u' a b => by
    rw [List.getElem?_set] at a b
    by_cases e : i = j
    · subst e
      rw [if_pos rfl] at a b
      by_cases q : i < ts.length
      · rw [if_pos q] at a
        rw [if_pos (by rw [← h.1]; exact q)] at b
        cases a; cases b; exact r
      · rw [if_neg q] at a; cases a
    · rw [if_neg e] at a b
      exact h.2 j t' u' a b⟩
theorem RpAll.take {ts : List T} {us : List V} (h : RpAll K H B ts us) (n : Nat) : RpAll K H B (ts.take n) (us.take n) :=
  ⟨by simp [h.1], fun i t u a b => by
    rw [List.getElem?_take] at a b
    split at a
    · rename_i q
      rw [if_pos q] at b
      exact h.2 i t u a b
    · cases a⟩
theorem RpAll.drop {ts : List T} {us : List V} (h : RpAll K H B ts us) (n : Nat) : RpAll K H B (ts.drop n) (us.drop n) :=
  ⟨by simp [h.1], fun i t u a b => by
    rw [List.getElem?_drop] at a b
    exact h.2 _ t u a b⟩
theorem RpAll.dropLast {ts : List T} {us : List V} (h : RpAll K H B ts us) : RpAll K H B ts.dropLast us.dropLast := by
  rw [List.dropLast_eq_take, List.dropLast_eq_take, h.1]
  exact h.take _
theorem RpAll.eraseIdx {ts : List T} {us : List V} (h : RpAll K H B ts us) (n : Nat) : RpAll K H B (ts.eraseIdx n) (us.eraseIdx n) := by
  rw [List.eraseIdx_eq_take_drop_succ, List.eraseIdx_eq_take_drop_succ]
  exact (h.take n).append (h.drop (n + 1))
theorem RpAll.reverse {ts : List T} {us : List V} (h : RpAll K H B ts us) : RpAll K H B ts.reverse us.reverse :=
  ⟨by simp [h.1], fun i t u a b => by
    have hi : i < ts.length := by
      have q := (List.getElem?_eq_some_iff.mp a).1
      simpa using q
    rw [List.getElem?_reverse hi] at a
    rw [List.getElem?_reverse (by rw [← h.1]; exact hi)] at b
    exact h.2 _ t u a (by rw [h.1]; exact b)⟩
end
end Tr
namespace Tr
open PySem L2

/-- what an expression hands on: a shared value, a new object that nobody else holds, the object that slot i owns -/
inductive R where
  | sh (d : T) | fr (d : T) | bo (i : Nat) (d : T)
  /-- what is lent to be read -/
  | vw (d : T)
def R.d : R → T
  | .sh d => d
  | .fr d => d
  | .bo _ d => d
  | .vw d => d
/-- what a run gives: a value, an exception (its class, its field), or nothing that is known -/
inductive Res (A : Type) where
  | ok (a : A) | exc (c : Addr) (p : Option T) | bad
def Res.bind {A C : Type} (r : Res A) (f : A → Res C) : Res C := match r with
  | .ok a => f a
  | .exc c p => .exc c p
  | .bad => .bad
instance : Monad Res where
  pure a := .ok a
  bind r f := r.bind f
@[simp] theorem bind_ok {A C : Type} (a : A) (f : A → Res C) : (Res.ok a >>= f) = f a := rfl
@[simp] theorem bind_exc {A C : Type} (c : Addr) (p : Option T) (f : A → Res C) : (Res.exc c p >>= f) = .exc c p := rfl
@[simp] theorem bind_bad {A C : Type} (f : A → Res C) : ((Res.bad : Res A) >>= f) = .bad := rfl
@[simp] theorem Rbind_ok {A C : Type} (a : A) (f : A → Res C) : (Res.ok a).bind f = f a := rfl
@[simp] theorem Rbind_exc {A C : Type} (c : Addr) (p : Option T) (f : A → Res C) : (Res.exc c p).bind f = .exc c p := rfl
@[simp] theorem Rbind_bad {A C : Type} (f : A → Res C) : (Res.bad : Res A).bind f = .bad := rfl
@[simp] theorem R_d_sh (d : T) : (R.sh d).d = d := rfl
@[simp] theorem R_d_fr (d : T) : (R.fr d).d = d := rfl
@[simp] theorem R_d_bo (i : Nat) (d : T) : (R.bo i d).d = d := rfl
@[simp] theorem R_d_vw (d : T) : (R.vw d).d = d := rfl

/-- a slot: empty (or not spoken of), a value that stays, an object of one's own, the object whose method this is, what is lent; the cells -/
inductive Sl where
  | no | fz (d : T) | ow (d : T) | sf (d : T) | br (d : T) | st (S : List T)
  /-- cells that are lent -/
  | rd (S : List T)
abbrev En := List Sl

/-- the object o holds the tree; what lies within is not at B -/
inductive OwnRp (K : PySem.W.Frag) (H : Hp) (B : Xs) : T → HO → Prop
  | lst {ts : List T} {us : List V} : RpAll K H B ts us → OwnRp K H B (.lst ts) (.lst us)
  | dik {ts : List (Key × T)} {us : List (Key × V)} : ts.map (·.1) = us.map (·.1) → RpAll K H B (ts.map (·.2)) (us.map (·.2)) → OwnRp K H B (.dik ts) (.dK us)
  | dit {ts : List (List Key × T)} {us : List (List Key × V)} : ts.map (·.1) = us.map (·.1) → RpAll K H B (ts.map (·.2)) (us.map (·.2)) → OwnRp K H B (.dit ts) (.dT us)
  | obj {C : Nat} {c dx : Addr} {ts : List (Str × T)} {us : List (Str × V)} : clsA K C = some c → ts.map (·.1) = us.map (·.1) → RpAll K H B (ts.map (·.2)) (us.map (·.2)) → OwnRp K H B (.obj C ts) (.ins c dx us)

/-- whose the objects are: of the slots, then of the cells -/
abbrev Ow := List (Option Addr)
/-- what is not to be spoken of; the object whose method this is, if it may be changed; how many slots there are; the cells of others; the heap that is lent -/
structure Bs where
  p : Addr → Prop
  z : Option Addr
  n : Nat
  cs : Nat → Option Addr
  h : Hp
  /-- there are cells of this frame -/
  act : Bool
instance : CoeFun Bs (fun _ => Addr → Prop) := ⟨Bs.p⟩
def Bs.add (B : Bs) (D : Addr) : Bs := { B with p := fun a => B.p a ∨ a = D }
/-- of a def: B, the cells -/
def Bs.x (B : Bs) : Xs := ⟨B.p, B.cs⟩
def csOf (B : Bs) (O : Ow) (k : Nat) : Option Addr := match B.cs k with
  | some a => some a
  | none => (O[B.n + k]?).join
def Ex (B : Bs) (O : Ow) : Xs := ⟨fun a => B a ∨ ∃ i : Nat, O[i]? = some (some a), csOf B O⟩

def SlOk (K : PySem.W.Frag) (B : Bs) (O : Ow) (σ : St) (H : Hp) (i : Nat) : Sl → Prop
  | .no => O[i]? = some none
  | .fz d => O[i]? = some none ∧ ∃ v, σ[i]? = some (some v) ∧ Rp K H (Ex B O) d v
  | .ow d => ∃ a ho, O[i]? = some (some a) ∧ σ[i]? = some (some (.ref a)) ∧ H a = some ho ∧ OwnRp K H (Ex B O) d ho
  | .sf d => ∃ a ho, O[i]? = some (some a) ∧ σ[i]? = some (some (.ref a)) ∧ H a = some ho ∧ OwnRp K H (Ex B O) d ho ∧ B.z = some a
  | .br d => O[i]? = some none ∧ ∃ a ho, σ[i]? = some (some (.ref a)) ∧ B.h a = some ho ∧ OwnRp K H (Ex B O) d ho
  | .st S => O[i]? = some none ∧ O.length = B.n + S.length ∧ (B.act = true ∧ ∀ k, B.cs k = none) ∧ ∀ (k : Nat) (t : T), S[k]? = some t → ∃ a ho, O[B.n + k]? = some (some a) ∧ H a = some ho ∧ OwnRp K H (Ex B O) t ho
  | .rd S => O[i]? = some none ∧ ∀ (k : Nat) (t : T), S[k]? = some t → ∃ a ho, B.cs k = some a ∧ B.h a = some ho ∧ OwnRp K H (Ex B O) t ho

/-- no tuple -/
def nTup (o : HO) : Prop := (∀ us, o ≠ .tup us) ∧ ∀ fs, o ≠ .xd fs
/-- the frame's slots are as env tells -/
structure Rel (K : PySem.W.Frag) (B : Bs) (H0 : Hp) (O : Ow) (env : En) (σ : St) (H : Hp) : Prop where
  len : σ.length = env.length
  lenN : env.length = B.n
  lenO : B.n ≤ O.length
  cells : B.act = false → O.length = B.n
  same : Same H0 H
  lent : Same B.h H0
  there : ∀ a, B a → ∃ o, H a = some o ∧ nTup o
  own : ∀ (i : Nat) (a : Addr), O[i]? = some (some a) → H0 a = none ∧ ¬ B a ∧ ∃ ho, H a = some ho ∧ nTup ho
  uniq : ∀ (i j : Nat) (a : Addr), O[i]? = some (some a) → O[j]? = some (some a) → i = j
  slot : ∀ (i : Nat) (s : Sl), env[i]? = some s → SlOk K B O σ H i s
  one : ∀ (i j : Nat) (S S' : List T), env[i]? = some (.st S) → env[j]? = some (.st S') → i = j

/-- what r stands for, at v, made between H and H' -/
def RR (K : PySem.W.Frag) (B : Bs) (O : Ow) (H H' : Hp) (r : R) (v : V) : Prop := match r with
  | .sh d => Rp K H' (Ex B O) d v
  | .fr d => ∃ p ho, v = .ref p ∧ H p = none ∧ H' p = some ho ∧ OwnRp K H' ((Ex B O).add p) d ho
  | .bo i d => ∃ a ho, O[i]? = some (some a) ∧ v = .ref a ∧ H' a = some ho ∧ OwnRp K H' (Ex B O) d ho
  | .vw d => ∃ a ho, B.h a = some ho ∧ v = .ref a ∧ H' a = some ho ∧ OwnRp K H' (Ex B O) d ho
/-- what a def hands back -/
def RX (K : PySem.W.Frag) (X : Xs) (H H' : Hp) (r : R) (v : V) : Prop := match r with
  | .sh d => Rp K H' X d v
  | .fr d => ∃ p ho, v = .ref p ∧ H p = none ∧ H' p = some ho ∧ OwnRp K H' (X.add p) d ho
  | _ => False

/-- an exception's own field -/
def XRel (K : PySem.W.Frag) (B : Xs) (H' : Hp) (p : Option T) (d : Option Addr) : Prop := match p with
  | none => d = none
  | some t => ∃ a v, d = some a ∧ H' a = some (.xd [(("name" : Str), v)]) ∧ Rp K H' B t v

section
variable {K : PySem.W.Frag} {B B' : Bs} {X X' : Xs} {H0 H H1 H2 H' : Hp} {O O' : Ow} {env : En} {σ σ' : St} {d : T} {v : V} {r : R} {ho : HO}
theorem OwnRp.keep (h : OwnRp K H X d ho) (k : Keep X H X' H') : OwnRp K H' X' d ho := by
  cases h with
  | lst h => exact .lst (h.keep k)
  | dik e h => exact .dik e (h.keep k)
  | dit e h => exact .dit e (h.keep k)
  | obj c e h => exact .obj c e (h.keep k)
theorem OwnRp.same (h : OwnRp K H X d ho) (s : Same H H') : OwnRp K H' X d ho := h.keep ⟨fun a o e n => ⟨s a o e, n⟩, fun _ _ e => e⟩
theorem OwnRp.anti (h : OwnRp K H X d ho) (s : ∀ a, X' a → X a) (c : ∀ k a, X.cs k = some a → X'.cs k = some a := by exact fun _ _ e => e) : OwnRp K H X' d ho := h.keep ⟨fun a o e n => ⟨e, fun z => n (s a z)⟩, c⟩
theorem OwnRp.np (h : OwnRp K H X d ho) (p : ∀ a, X' a → X a) (q : d.np = true) : OwnRp K H X' d ho := by
  have all : ∀ {ts : List T} {us : List V}, RpAll K H X ts us → ts.all T.np = true → RpAll K H X' ts us := fun h q => ⟨h.1, fun i t u a b => (h.2 i t u a b).np p (np_get q a)⟩
  cases h with
  | lst h => exact .lst (all h (by rw [T.np, T.nps_all] at q; exact q))
  | dik e h => exact .dik e (all h (by rw [T.np, T.npk_all] at q; exact q))
  | dit e h => exact .dit e (all h (by rw [T.np, T.npd_all] at q; exact q))
  | obj c e h => exact .obj c e (all h (by rw [T.np, T.npf_all] at q; exact q))
theorem OwnRp.rp {p : Addr} (h : OwnRp K H X d ho) (e : H p = some ho) (n : ¬ X p) : Rp K H X d (.ref p) := by
  cases h with
  | lst h => exact .lst e n h.1 h.2
  | dik q h => exact .dik e n q h.1 h.2
  | dit q h => exact .dit e n q h.1 h.2
  | obj c q h => exact .obj c e n q h.1 h.2
theorem Same.keepB (s : Same H H') : Keep X H X H' := ⟨fun a o e n => ⟨s a o e, n⟩, fun _ _ e => e⟩
theorem OwnRp.ntup (h : OwnRp K H X d ho) : nTup ho := by
  cases h <;> exact ⟨fun us e => (by cases e), fun us e => (by cases e)⟩
theorem Rel.lenE (R : Rel K B H0 O env σ H) {i : Nat} (h : i < env.length) : i < O.length := Nat.lt_of_lt_of_le (R.lenN ▸ h) R.lenO
theorem Rel.cs0 (R : Rel K B H0 O env σ H) (h : B.act = false) {k : Nat} : csOf B O k = B.cs k := by
  unfold csOf
  have e : O[B.n + k]? = none := List.getElem?_eq_none (by rw [R.cells h]; omega)
  rw [e]
  cases B.cs k <;> rfl
theorem Rel.ex_ntup (R : Rel K B H0 O env σ H) {a : Addr} (h : Ex B O a) : ∃ o, H a = some o ∧ nTup o := by
  rcases h with h | ⟨i, h⟩
  · exact R.there a h
  · exact (R.own i a h).2.2
theorem Rel.ex_there (R : Rel K B H0 O env σ H) {a : Addr} (h : Ex B O a) : ∃ o, H a = some o :=
  let ⟨o, e, _⟩ := R.ex_ntup h
  ⟨o, e⟩
theorem Rel.ex_new (R : Rel K B H0 O env σ H) {a : Addr} (h : H a = none) : ¬ Ex B O a := fun z => by
  obtain ⟨o, e⟩ := R.ex_there z
  rw [h] at e; cases e
/-- a slot stays as it is -/
theorem SlOk.upB {j : Nat} {s : Sl} (h : SlOk K B O σ H j s) (hb : B'.n = B.n ∧ B'.cs = B.cs ∧ B'.z = B.z ∧ B'.h = B.h ∧ B'.act = B.act) (kp : Keep (Ex B O) H (Ex B' O') H') (eO : O'[j]? = O[j]?) (eσ : σ'[j]? = σ[j]?) (eL : O'.length = O.length) (eC : ∀ k, O'[B.n + k]? = O[B.n + k]?)
    (hH : ∀ m a o, (m = j ∨ ((∃ S, s = .st S) ∧ B.n ≤ m)) → O[m]? = some (some a) → H a = some o → H' a = some o) : SlOk K B' O' σ' H' j s := by
  obtain ⟨b1, b2, b3, b4, b5⟩ := hb
  cases s with
  | no => exact eO.trans h
  | fz d =>
    obtain ⟨h1, v, h2, h3⟩ := h
    exact ⟨eO.trans h1, v, eσ.trans h2, h3.keep kp⟩
  | ow d =>
    obtain ⟨a, ho, h1, h2, h3, h4⟩ := h
    exact ⟨a, ho, eO.trans h1, eσ.trans h2, hH j a ho (.inl rfl) h1 h3, h4.keep kp⟩
  | sf d =>
    obtain ⟨a, ho, h1, h2, h3, h4, h5⟩ := h
    exact ⟨a, ho, eO.trans h1, eσ.trans h2, hH j a ho (.inl rfl) h1 h3, h4.keep kp, by rw [b3]; exact h5⟩
  | br d =>
    obtain ⟨h1, a, ho, h2, h3, h4⟩ := h
    exact ⟨eO.trans h1, a, ho, eσ.trans h2, by rw [b4]; exact h3, h4.keep kp⟩
  | rd S =>
    obtain ⟨h1, h2⟩ := h
    refine ⟨eO.trans h1, fun k t e => ?_⟩
    obtain ⟨a, ho, h3, h4, h5⟩ := h2 k t e
    exact ⟨a, ho, by rw [b2]; exact h3, by rw [b4]; exact h4, h5.keep kp⟩
  | st S =>
    obtain ⟨h1, h2, h3, h4⟩ := h
    refine ⟨eO.trans h1, by rw [eL, b1]; exact h2, by rw [b5, b2]; exact h3, fun k t e => ?_⟩
    obtain ⟨a, ho, h5, h6, h7⟩ := h4 k t e
    exact ⟨a, ho, by rw [b1]; exact (eC k).trans h5, hH (B.n + k) a ho (.inr ⟨⟨S, rfl⟩, Nat.le_add_right _ _⟩) h5 h6, h7.keep kp⟩
theorem SlOk.up {j : Nat} {s : Sl} (h : SlOk K B O σ H j s) (kp : Keep (Ex B O) H (Ex B O') H') (eO : O'[j]? = O[j]?) (eσ : σ'[j]? = σ[j]?) (eL : O'.length = O.length) (eC : ∀ k, O'[B.n + k]? = O[B.n + k]?)
    (hH : ∀ m a o, (m = j ∨ ((∃ S, s = .st S) ∧ B.n ≤ m)) → O[m]? = some (some a) → H a = some o → H' a = some o) : SlOk K B O' σ' H' j s := h.upB ⟨rfl, rfl, rfl, rfl, rfl⟩ kp eO eσ eL eC hH
theorem Rel.mono (R : Rel K B H0 O env σ H) (s : Same H H') : Rel K B H0 O env σ H' where
  len := R.len
  lenN := R.lenN
  lenO := R.lenO
  cells := R.cells
  same := R.same.trans s
  lent := R.lent
  there := fun a h => by
    obtain ⟨o, e, n⟩ := R.there a h
    exact ⟨o, s a o e, n⟩
  own := fun i a e => by
    obtain ⟨h0, nb, ho, h1, nt⟩ := R.own i a e
    exact ⟨h0, nb, ho, s _ _ h1, nt⟩
  uniq := R.uniq
  slot := fun i sl e => (R.slot i sl e).up (Same.keepB s) rfl rfl rfl (fun _ => rfl) fun m a o _ _ h => s a o h
  one := R.one
theorem RR.mono (h : RR K B O H H1 r v) (s : Same H1 H2) : RR K B O H H2 r v := by
  cases r with
  | sh d => exact Rp.same h s
  | fr d =>
    obtain ⟨p, ho, e, n, h1, h2⟩ := h
    exact ⟨p, ho, e, n, s _ _ h1, h2.same s⟩
  | bo i d =>
    obtain ⟨a, ho, e, n, h1, h2⟩ := h
    exact ⟨a, ho, e, n, s _ _ h1, h2.same s⟩
  | vw d =>
    obtain ⟨a, ho, z, e, h1, h2⟩ := h
    exact ⟨a, ho, z, e, s _ _ h1, h2.same s⟩
theorem RR.down (h : RR K B O H1 H2 r v) (s : Same H H1) : RR K B O H H2 r v := by
  cases r with
  | sh d => exact h
  | fr d =>
    obtain ⟨p, ho, e, n, h1, h2⟩ := h
    exact ⟨p, ho, e, s.free n, h1, h2⟩
  | bo i d => exact h
  | vw d => exact h
/-- read as a tree, wherever it stands -/
theorem RR.rp0 (h : RR K B O H H' r v) : Rp K H' (Ex B O).bare r.d v := by
  cases r with
  | sh d => exact Rp.anti h fun _ z => z.elim
  | fr d =>
    obtain ⟨p, ho, e, n, h1, h2⟩ := h
    subst e
    exact (h2.anti (X' := (Ex B O).bare) fun _ z => z.elim).rp h1 fun z => z
  | bo i d =>
    obtain ⟨a, ho, e, n, h1, h2⟩ := h
    subst n
    exact (h2.anti (X' := (Ex B O).bare) fun _ z => z.elim).rp h1 fun z => z
  | vw d =>
    obtain ⟨a, ho, _, n, h1, h2⟩ := h
    subst n
    exact (h2.anti (X' := (Ex B O).bare) fun _ z => z.elim).rp h1 fun z => z
/-- a value that may be kept -/
def R.kp : R → Bool
  | .bo _ _ => false
  | .vw _ => false
  | _ => true
theorem RR.rp (h : RR K B O H H' r v) (R : Rel K B H0 O env σ H) (k : r.kp = true) : Rp K H' (Ex B O) r.d v := by
  cases r with
  | sh d => exact h
  | fr d =>
    obtain ⟨p, ho, e, n, h1, h2⟩ := h
    subst e
    exact (h2.anti (X' := Ex B O) fun _ z => .inl z).rp h1 (R.ex_new n)
  | bo i d => cases k
  | vw d => cases k
theorem rp_int {i : Int} (h : Rp K H X (.int i) v) : v = .int i := by cases h; rfl
theorem rp_str {x : Str} (h : Rp K H X (.str x) v) : v = .str x := by cases h; rfl
theorem rp_bl {x : Bool} (h : Rp K H X (.bl x) v) : v = .bl x := by cases h; rfl
theorem rp_non (h : Rp K H X .non v) : v = .non := by cases h; rfl
theorem RR.int {i : Int} (h : RR K B O H H' r v) (e : r.d = .int i) : v = .int i := rp_int (e ▸ h.rp0)
theorem RR.str {i : Str} (h : RR K B O H H' r v) (e : r.d = .str i) : v = .str i := rp_str (e ▸ h.rp0)
theorem RR.bl {i : Bool} (h : RR K B O H H' r v) (e : r.d = .bl i) : v = .bl i := rp_bl (e ▸ h.rp0)
theorem RR.non (h : RR K B O H H' r v) (e : r.d = .non) : v = .non := rp_non (e ▸ h.rp0)
/-- a list's items, or the script's -/
def T.its : T → Option (List T)
  | .lst l => some l
  | .scr ns => some (ns.map T.int)
  | _ => none
theorem RpAll.ints : ∀ {ns : List Int}, RpAll K H X (ns.map T.int) (ns.map V.int) := fun {ns} =>
  ⟨by simp, fun i t u a b => by
    rw [List.getElem?_map] at a b
    cases q : ns[i]? with
    | none => rw [q] at a; cases a
    | some n => rw [q] at a b; cases a; cases b; exact .int n⟩
theorem RR.lst {ts : List T} (h : RR K B O H H' r v) (e : r.d = .lst ts) : ∃ a us, v = .ref a ∧ H' a = some (.lst us) ∧ RpAll K H' (Ex B O) ts us := by
  cases r with
  | sh d =>
    cases e
    cases h with
    | lst hq hn hl hs => exact ⟨_, _, rfl, hq, hl, hs⟩
  | fr d =>
    cases e
    obtain ⟨p, ho, e, n, h1, h2⟩ := h
    cases h2 with
    | lst h2 => exact ⟨p, _, e, h1, h2.anti fun _ z => .inl z⟩
  | bo i d =>
    cases e
    obtain ⟨a, ho, e, n, h1, h2⟩ := h
    cases h2 with
    | lst h2 => exact ⟨a, _, n, h1, h2⟩
  | vw d =>
    cases e
    obtain ⟨a, ho, _, n, h1, h2⟩ := h
    cases h2 with
    | lst h2 => exact ⟨a, _, n, h1, h2⟩
/-- a list, its items -/
theorem RR.its {ts : List T} (h : RR K B O H H' r v) (e : r.d.its = some ts) : ∃ a us, v = .ref a ∧ SqL K H' a us ∧ RpAll K H' (Ex B O) ts us := by
  cases q : r.d with
  | lst l =>
    rw [q] at e
    cases e
    obtain ⟨a, us, e1, e2, e3⟩ := h.lst q
    exact ⟨a, us, e1, SqL.of e2, e3⟩
  | scr ns =>
    rw [q] at e
    cases e
    cases r with
    | sh d =>
      cases q
      cases h with
      | scr hq => exact ⟨_, _, rfl, hq.elim (fun z => .inl z.1) .inr, .ints⟩
    | fr d =>
      cases q
      obtain ⟨p, ho, e, n, h1, h2⟩ := h
      cases h2
    | bo i d =>
      cases q
      obtain ⟨a, ho, e, n, h1, h2⟩ := h
      cases h2
    | vw d =>
      cases q
      obtain ⟨a, ho, _, n, h1, h2⟩ := h
      cases h2
  | _ => rw [q] at e; cases e
theorem RR.tup {ts : List T} (h : RR K B O H H' r v) (e : r.d = .tup ts) : ∃ a us, v = .ref a ∧ H' a = some (.tup us) ∧ RpAll K H' (Ex B O) ts us := by
  cases r with
  | sh d =>
    cases e
    cases h with
    | tup hq hn hl hs => exact ⟨_, _, rfl, hq, hl, hs⟩
  | fr d =>
    cases e
    obtain ⟨p, ho, e, n, h1, h2⟩ := h
    cases h2
  | bo i d =>
    cases e
    obtain ⟨a, ho, e, n, h1, h2⟩ := h
    cases h2
  | vw d =>
    cases e
    obtain ⟨a, ho, _, n, h1, h2⟩ := h
    cases h2
/-- a list that is tracked and its own -/
theorem RR.frlst {ts : List T} (h : RR K B O H H' (.fr (.lst ts)) v) : ∃ a us, v = .ref a ∧ H a = none ∧ H' a = some (.lst us) ∧ RpAll K H' ((Ex B O).add a) ts us := by
  obtain ⟨p, ho, e, n, h1, h2⟩ := h
  cases h2 with
  | lst h2 => exact ⟨p, _, e, n, h1, h2⟩
/-- a new list of kept things -/
theorem RR.newL {p : Addr} {ts : List T} {us : List V} (R : Rel K B H0 O env σ H) (s : Same H H1) (h : RpAll K H1 (Ex B O) ts us) (n : H1 p = none) : RR K B O H (upd H1 p (.lst us)) (.fr (.lst ts)) (.ref p) := by
  have sm : Same H1 (upd H1 p (.lst us)) := fun b o e => by rw [upd_ne (ne_of_none e n)]; exact e
  exact ⟨p, _, rfl, s.free n, upd_same, .lst ((h.newB n).same sm)⟩
theorem Same.new {p : Addr} {o : HO} (n : H p = none) : Same H (upd H p o) := fun b u e => by rw [upd_ne (ne_of_none e n)]; exact e
end
end Tr
namespace Tr
open PySem L2

/-- what a run's three ends ask -/
def Post {A : Type} (xc : Addr → Option T → Prop) (okp : A → Prop) : Res A → Prop
  | .ok a => okp a
  | .exc c p => xc c p
  | .bad => False
def XC (K : PySem.W.Frag) (B : Bs) (O : Ow) (EX : L2.St → XK) (σ : L2.St) (H : Hp) (c : Addr) (p : Option T) : Prop :=
  ∀ H' d a, clsA K c = some a → Same H H' → XRel K (Ex B O) H' p d → EX σ (.ref a) d H'
theorem Post.bind {A C : Type} {xc : Addr → Option T → Prop} {okp : C → Prop} {r : Res A} {g : A → Res C} (h : Post xc okp (r.bind g)) : Post xc (fun a => Post xc okp (g a)) r := by
  cases r <;> exact h
theorem Post.mono {A : Type} {xc xc' : Addr → Option T → Prop} {okp okp' : A → Prop} {r : Res A} (h : Post xc okp r) (hx : ∀ c p, xc c p → xc' c p) (ho : ∀ a, okp a → okp' a) : Post xc' okp' r := by
  cases r with
  | ok a => exact ho a h
  | exc c p => exact hx c p h
  | bad => exact h
section
variable {K : PySem.W.Frag} {B : Bs} {O : Ow} {EX : L2.St → XK} {σ : L2.St} {H H1 : Hp}
theorem XC.up {c : Addr} {p : Option T} (h : XC K B O EX σ H c p) (s : Same H H1) : XC K B O EX σ H1 c p := fun H' d a ea s' x => h H' d a ea (s.trans s') x
theorem Post.up {A : Type} {okp : A → Prop} {r : Res A} (h : Post (XC K B O EX σ H) okp r) (s : Same H H1) : Post (XC K B O EX σ H1) okp r := h.mono (fun _ _ x => x.up s) fun _ x => x
end

def RRs (K : PySem.W.Frag) (B : Bs) (O : Ow) (H H' : Hp) : List R → List V → Prop
  | [], [] => True
  | r :: rs, v :: vs => RR K B O H H' r v ∧ RRs K B O H H' rs vs
  | _, _ => False

/-- an expression -/
structure EJ (X : Cx) (EX : L2.St → XK) (e : Expr) (f : En → Res R) : Prop where
  ex : ∃ t : TE, PE X e t ∧ ∀ B H0 O env σ H (Q : VK), Rel X.K B H0 O env σ H → Post (XC X.K B O EX σ H) (fun r => ∀ v H', Same H H' → RR X.K B O H H' r v → Q v H') (f env) → t σ H Q
/-- a test -/
structure BJ (X : Cx) (EX : L2.St → XK) (e : Expr) (f : En → Res Bool) : Prop where
  ex : ∃ t : TT, PT X e t ∧ ∀ B H0 O env σ H (Q : Bool → Hp → Prop), Rel X.K B H0 O env σ H → Post (XC X.K B O EX σ H) (fun b => ∀ H', Same H H' → Q b H') (f env) → t σ H Q
structure WJ (X : Cx) (EX : L2.St → XK) (e : Expr) (f : En → Res Bool) : Prop where
  ex : ∃ t : TT, PW X e t ∧ ∀ B H0 O env σ H (Q : Bool → Hp → Prop), Rel X.K B H0 O env σ H → Post (XC X.K B O EX σ H) (fun b => ∀ H', Same H H' → Q b H') (f env) → t σ H Q
/-- arguments -/
structure AJ (X : Cx) (EX : L2.St → XK) (es : List Expr) (f : En → Res (List R)) : Prop where
  ex : ∃ t : TA, PA X es t ∧ ∀ B H0 O env σ H (Q : List V → Hp → Prop), Rel X.K B H0 O env σ H → Post (XC X.K B O EX σ H) (fun rs => ∀ vs H', Same H H' → RRs X.K B O H H' rs vs → Q vs H') (f env) → t σ H Q

section
variable {K : PySem.W.Frag} {B : Bs} {O : Ow} {H0 H H1 H2 : Hp} {env : En} {σ : L2.St}
theorem RRs.mono : ∀ {rs : List R} {vs : List V}, RRs K B O H H1 rs vs → Same H1 H2 → RRs K B O H H2 rs vs
  | [], [], _, _ => trivial
  | _ :: _, _ :: _, h, s => ⟨h.1.mono s, RRs.mono h.2 s⟩
  | [], _ :: _, h, _ => h.elim
  | _ :: _, [], h, _ => h.elim
theorem RRs.down : ∀ {rs : List R} {vs : List V}, RRs K B O H1 H2 rs vs → Same H H1 → RRs K B O H H2 rs vs
  | [], [], _, _ => trivial
  | _ :: _, _ :: _, h, s => ⟨h.1.down s, RRs.down h.2 s⟩
  | [], _ :: _, h, _ => h.elim
  | _ :: _, [], h, _ => h.elim
theorem RRs.rp (R0 : Rel K B H0 O env σ H) : ∀ {rs : List R} {vs : List V}, RRs K B O H H1 rs vs → rs.all R.kp = true → RpAll K H1 (Ex B O) (rs.map R.d) vs
  | [], [], _, _ => .nil
  | r :: rs, v :: vs, h, k => by
    rw [List.all_cons, Bool.and_eq_true] at k
    exact .cons (h.1.rp R0 k.1) (RRs.rp R0 h.2 k.2)
  | [], _ :: _, h, _ => h.elim
  | _ :: _, [], h, _ => h.elim
theorem RRs.length : ∀ {rs : List R} {vs : List V}, RRs K B O H H1 rs vs → rs.length = vs.length
  | [], [], _ => rfl
  | r :: rs, v :: vs, h => by simp [RRs.length h.2]
  | [], _ :: _, h => h.elim
  | _ :: _, [], h => h.elim
end

/-! ### names, constants -/
@[simp] def fC (d : T) (_ : En) : Res R := .ok (.sh d)
def slR (i : Nat) : Sl → Res R
  | .fz d => .ok (.sh d)
  | .ow d => .ok (.bo i d)
  | .sf d => .ok (.bo i d)
  | .br d => .ok (.vw d)
  | .no => .bad
  | .st _ => .bad
  | .rd _ => .bad
def fV (i : Nat) (env : En) : Res R := match env[i]? with
  | some s => slR i s
  | none => .bad
section
variable {X : Cx} {EX : L2.St → XK} {pos : Pos}
theorem ej_const {e : Expr} {d : T} {v : V} (h : PE X e (tC v)) (r : ∀ K H B, Rp K H B d v) : EJ X EX e (fC d) :=
  ⟨⟨_, h, fun B H0 O env σ H Q R p => p v H (Same.refl H) (r _ _ _)⟩⟩
theorem ej_int {i : Int} {j pos} : EJ X EX (.Constant (.int i) j pos) (fC (.int i)) := ej_const pe_int fun _ _ _ => .int i
theorem ej_bl {b : Bool} {j pos} : EJ X EX (.Constant (.bool b) j pos) (fC (.bl b)) := ej_const pe_bl fun _ _ _ => .bl b
theorem ej_non {j pos} : EJ X EX (.Constant .none j pos) (fC .non) := ej_const pe_non fun _ _ _ => .non
theorem ej_str {x : Str} {j pos} (h : PyData.strOk x = true) : EJ X EX (.Constant (.str x) j pos) (fC (.str x)) := ej_const pe_str fun _ _ _ => .str x h
theorem ej_gint {x : Str} {n : Int} {u : Value} (hg : Gl X x) (hm : X.mg x = some u) (r : RelV (.int n) u) (hd : (x == ("__debug__" : Str)) = false := by decide) : EJ X EX (.Name x pos) (fC (.int n)) := ej_const (pe_glob hg hm r hd) fun _ _ _ => .int n
theorem ej_gstr {x : Str} {n : Str} {u : Value} (h : PyData.strOk n = true) (hg : Gl X x) (hm : X.mg x = some u) (r : RelV (.str n) u) (hd : (x == ("__debug__" : Str)) = false := by decide) : EJ X EX (.Name x pos) (fC (.str n)) := ej_const (pe_glob hg hm r hd) fun _ _ _ => .str n h
theorem ej_var (i : Nat) {x : Str} (hN : X.N[i]? = some x := by rfl) (hv : Vis X.env.scope x := by first | exact Or.inl rfl | exact Or.inr (Or.inl rfl) | exact Or.inr (Or.inr rfl)) (hd : (x == ("__debug__" : Str)) = false := by decide)
    (hcd : (x == ("__classdict__" : Str)) = false := by decide) : EJ X EX (.Name x pos) (fV i) := by
  refine ⟨⟨_, pe_var hN hv hd hcd, fun B H0 O env σ H Q R p => ?_⟩⟩
  unfold fV at p
  cases e : env[i]? with
  | none => rw [e] at p; exact p.elim
  | some s =>
    rw [e] at p
    have h := R.slot i s e
    cases s with
    | no => exact p.elim
    | fz d =>
      obtain ⟨_, v, h2, h3⟩ := h
      exact ⟨v, h2, p v H (Same.refl H) h3⟩
    | ow d =>
      obtain ⟨a, ho, h1, h2, h3, h4⟩ := h
      exact ⟨.ref a, h2, p _ H (Same.refl H) ⟨a, ho, h1, rfl, h3, h4⟩⟩
    | sf d =>
      obtain ⟨a, ho, h1, h2, h3, h4, _⟩ := h
      exact ⟨.ref a, h2, p _ H (Same.refl H) ⟨a, ho, h1, rfl, h3, h4⟩⟩
    | br d =>
      obtain ⟨_, a, ho, h2, h3, h4⟩ := h
      exact ⟨.ref a, h2, p _ H (Same.refl H) ⟨a, ho, h3, rfl, R.same _ _ (R.lent _ _ h3), h4⟩⟩
    | st S => exact p.elim
    | rd S => exact p.elim
end

/-! ### arguments -/
@[simp] def fN (_ : En) : Res (List R) := .ok []
def fA (f : En → Res R) (g : En → Res (List R)) (env : En) : Res (List R) := (f env).bind fun r => (g env).bind fun rs => .ok (r :: rs)
section
variable {X : Cx} {EX : L2.St → XK} {e : Expr} {es : List Expr} {f : En → Res R} {g : En → Res (List R)}
theorem aj_nil : AJ X EX [] fN := ⟨⟨_, pa_nil, fun B H0 O env σ H Q R p => p [] H (Same.refl H) trivial⟩⟩
theorem aj_cons (h : EJ X EX e f) (k : AJ X EX es g) (hs : starEach (e :: es) X.env = (false, eval e X.env) :: starEach es X.env := by rfl) : AJ X EX (e :: es) (fA f g) := by
  obtain ⟨t, pe, i⟩ := h.ex
  obtain ⟨t', pa, i'⟩ := k.ex
  refine ⟨⟨_, pa_cons pe pa hs, fun B H0 O env σ H Q R p => ?_⟩⟩
  refine i B H0 O env σ H _ R (p.bind.mono (fun _ _ x => x) fun r q v H1 s r1 => ?_)
  refine i' B H0 O env σ H1 _ (R.mono s) ((q.bind.up s).mono (fun _ _ x => x) fun rs q2 vs H2 s2 r2 => ?_)
  exact q2 (v :: vs) H2 (s.trans s2) ⟨r1.mono s2, r2.down s⟩
end

/-! ### displays -/
def fTup (g : En → Res (List R)) (env : En) : Res R := (g env).bind fun rs => if rs.all R.kp = true ∧ rs.length ≤ sizeLine then .ok (.sh (.tup (rs.map R.d))) else .bad
def fLst (g : En → Res (List R)) (env : En) : Res R := (g env).bind fun rs => if rs.all R.kp = true ∧ rs.length ≤ sizeLine then .ok (.fr (.lst (rs.map R.d))) else .bad
section
variable {X : Cx} {EX : L2.St → XK} {es : List Expr} {g : En → Res (List R)} {pos : Pos}
theorem ej_tup {x1} (k : AJ X EX es g) : EJ X EX (.Tuple es x1 pos) (fTup g) := by
  obtain ⟨t, pa, i⟩ := k.ex
  refine ⟨⟨_, pe_tup pa, fun B H0 O env σ H Q R p => ?_⟩⟩
  refine i B H0 O env σ H _ R (p.bind.mono (fun _ _ x => x) fun rs q vs H1 s r1 => ?_)
  split at q
  · rename_i c
    refine ⟨by rw [← r1.length]; exact c.2, fun a na => q _ _ (s.trans (Same.new na)) ?_⟩
    have z := RRs.rp R r1 c.1
    exact Rp.tup upd_same (Rel.ex_new (R.mono s) na) z.1 fun i t u a b => (z.2 i t u a b).same (Same.new na)
  · exact q.elim
theorem ej_lst (k : AJ X EX es g) : EJ X EX (.List es pos) (fLst g) := by
  obtain ⟨t, pa, i⟩ := k.ex
  refine ⟨⟨_, pe_lst pa, fun B H0 O env σ H Q R p => ?_⟩⟩
  refine i B H0 O env σ H _ R (p.bind.mono (fun _ _ x => x) fun rs q vs H1 s r1 => ?_)
  split at q
  · rename_i c
    exact ⟨by rw [← r1.length]; exact c.2, fun a na => q _ _ (s.trans (Same.new na)) (RR.newL R s (RRs.rp R r1 c.1) na)⟩
  · exact q.elim
end

/-! ### operators by values -/
/-- r (HandS) does what g says -/
def OpI (X : Cx) (r : R2) (g : R → R → Res R) : Prop := ∀ B H0 O env σ Hs H x y v w (Q : VK) xc, Rel X.K B H0 O env σ Hs → Same Hs H → RR X.K B O Hs H x v → RR X.K B O Hs H y w →
  Post xc (fun r => ∀ u H', Same H H' → RR X.K B O Hs H' r u → Q u H') (g x y) → r v w H Q
def b2 (g : R → R → Res R) (f f' : En → Res R) (env : En) : Res R := (f env).bind fun x => (f' env).bind fun y => g x y
def asB (r : R) : Res Bool := match r.d with
  | .bl b => .ok b
  | _ => .bad
def c2 (g : R → R → Res R) (f f' : En → Res R) (env : En) : Res Bool := (f env).bind fun x => (f' env).bind fun y => (g x y).bind asB
/-- a chain of two comparisons -/
def ch2 (g g' : R → R → Res R) (f f' f'' : En → Res R) (env : En) : Res R := (f env).bind fun x => (f' env).bind fun y => (g x y).bind fun z => (asB z).bind fun b => if b then (f'' env).bind fun w => g' y w else .ok (.sh (.bl false))
def cb2 (g g' : R → R → Res R) (f f' f'' : En → Res R) (env : En) : Res Bool := (ch2 g g' f f' f'' env).bind asB
section
variable {X : Cx} {EX : L2.St → XK} {a b c : Expr} {f f' f'' : En → Res R} {g g' : R → R → Res R} {r r' : R2} {pos : Pos}
theorem ej_op {op : Operator} (ho : OpR X (binaryOp op) r) (hg : OpI X r g) (ha : EJ X EX a f) (hb : EJ X EX b f') : EJ X EX (.BinOp a op b pos) (b2 g f f') := by
  obtain ⟨t, pe, i⟩ := ha.ex
  obtain ⟨t', pe', i'⟩ := hb.ex
  refine ⟨⟨_, pe_op ho pe pe', fun B H0 O env σ H Q R p => ?_⟩⟩
  refine i B H0 O env σ H _ R (p.bind.mono (fun _ _ x => x) fun x q v H1 s r1 => ?_)
  refine i' B H0 O env σ H1 _ (R.mono s) ((q.bind.up s).mono (fun _ _ x => x) fun y q2 w H2 s2 r2 => ?_)
  exact hg B H0 O env σ H H2 x y v w Q _ R (s.trans s2) (r1.mono s2) (r2.down s) (q2.mono (fun _ _ x => x) fun z q3 u H' s3 r3 => q3 u H' ((s.trans s2).trans s3) r3)
theorem ej_cmp {op : CmpOp} (ho : OpR X (compareOp op) r) (hg : OpI X r g) (ha : EJ X EX a f) (hb : EJ X EX b f') (hm : behindInMarks op b = false) : EJ X EX (.Compare a [op] [b] pos) (b2 g f f') := by
  obtain ⟨t, pe, i⟩ := ha.ex
  obtain ⟨t', pe', i'⟩ := hb.ex
  refine ⟨⟨_, pe_cmpR ho pe pe' hm, fun B H0 O env σ H Q R p => ?_⟩⟩
  refine i B H0 O env σ H _ R (p.bind.mono (fun _ _ x => x) fun x q v H1 s r1 => ?_)
  refine i' B H0 O env σ H1 _ (R.mono s) ((q.bind.up s).mono (fun _ _ x => x) fun y q2 w H2 s2 r2 => ?_)
  exact hg B H0 O env σ H H2 x y v w Q _ R (s.trans s2) (r1.mono s2) (r2.down s) (q2.mono (fun _ _ x => x) fun z q3 u H' s3 r3 => q3 u H' ((s.trans s2).trans s3) r3)
theorem bj_cmp {op : CmpOp} (ho : OpR X (compareOp op) r) (hg : OpI X r g) (ha : EJ X EX a f) (hb : EJ X EX b f') (hm : behindInMarks op b = false) : BJ X EX (.Compare a [op] [b] pos) (c2 g f f') := by
  obtain ⟨t, pe, i⟩ := ha.ex
  obtain ⟨t', pe', i'⟩ := hb.ex
  refine ⟨⟨_, pt_cmpR ho pe pe' hm, fun B H0 O env σ H Q R p => ?_⟩⟩
  refine i B H0 O env σ H _ R (p.bind.mono (fun _ _ x => x) fun x q v H1 s r1 => ?_)
  refine i' B H0 O env σ H1 _ (R.mono s) ((q.bind.up s).mono (fun _ _ x => x) fun y q2 w H2 s2 r2 => ?_)
  refine hg B H0 O env σ H H2 x y v w _ _ R (s.trans s2) (r1.mono s2) (r2.down s) (q2.bind.mono (fun _ _ x => x) fun z q3 u H' s3 r3 => ?_)
  unfold asB at q3
  cases e : z.d with
  | bl k =>
    rw [e] at q3
    exact ⟨k, r3.bl e, q3 H' ((s.trans s2).trans s3)⟩
  | _ => rw [e] at q3; exact q3.elim
theorem chain_core {t t' t'' : TE} (hg : OpI X r g) (hg' : OpI X r' g')
    (i : ∀ B H0 O env σ H (Q : VK), Rel X.K B H0 O env σ H → Post (XC X.K B O EX σ H) (fun r => ∀ v H', Same H H' → RR X.K B O H H' r v → Q v H') (f env) → t σ H Q)
    (i' : ∀ B H0 O env σ H (Q : VK), Rel X.K B H0 O env σ H → Post (XC X.K B O EX σ H) (fun r => ∀ v H', Same H H' → RR X.K B O H H' r v → Q v H') (f' env) → t' σ H Q)
    (i'' : ∀ B H0 O env σ H (Q : VK), Rel X.K B H0 O env σ H → Post (XC X.K B O EX σ H) (fun r => ∀ v H', Same H H' → RR X.K B O H H' r v → Q v H') (f'' env) → t'' σ H Q)
    (B H0 O env σ H) (Q : VK) (R : Rel X.K B H0 O env σ H) (p : Post (XC X.K B O EX σ H) (fun r => ∀ v H', Same H H' → RR X.K B O H H' r v → Q v H') (ch2 g g' f f' f'' env)) : tChain r r' t t' t'' σ H Q := by
  refine i B H0 O env σ H _ R (p.bind.mono (fun _ _ x => x) fun x q v H1 s r1 => ?_)
  refine i' B H0 O env σ H1 _ (R.mono s) ((q.bind.up s).mono (fun _ _ x => x) fun y q2 w H2 s2 r2 => ?_)
  refine hg B H0 O env σ H H2 x y v w _ _ R (s.trans s2) (r1.mono s2) (r2.down s) (q2.bind.mono (fun _ _ x => x) fun z q3 u H3 s3 r3 => ?_)
  have q4 := q3.bind
  unfold asB at q4
  cases e : z.d with
  | bl k =>
    rw [e] at q4
    have s4 := (s.trans s2).trans s3
    refine ⟨k, r3.bl e, ?_⟩
    cases k with
    | false => exact iteF (q4 _ H3 s4 (Rp.bl false))
    | true =>
      refine iteT (i'' B H0 O env σ H3 _ (R.mono s4) (((show Post _ _ ((f'' env).bind fun w => g' y w) from q4).bind.up s4).mono (fun _ _ x => x) fun w' q5 u' H4 s5 r5 => ?_))
      exact hg' B H0 O env σ H H4 y w' w u' Q _ R (s4.trans s5) ((r2.down s).mono (s3.trans s5)) (r5.down s4) (q5.mono (fun _ _ x => x) fun z q6 u H' s6 r6 => q6 u H' ((s4.trans s5).trans s6) r6)
  | _ => rw [e] at q4; exact q4.elim
theorem ej_chain {op op' : CmpOp} (ho : OpR X (compareOp op) r) (ho' : OpR X (compareOp op') r') (hg : OpI X r g) (hg' : OpI X r' g') (ha : EJ X EX a f) (hb : EJ X EX b f') (hc : EJ X EX c f'')
    (hm : lastMarks [op, op'] [b, c] = false := by with_unfolding_all rfl) : EJ X EX (.Compare a [op, op'] [b, c] pos) (ch2 g g' f f' f'') := by
  obtain ⟨t, pe, i⟩ := ha.ex
  obtain ⟨t', pe', i'⟩ := hb.ex
  obtain ⟨t'', pe'', i''⟩ := hc.ex
  exact ⟨⟨_, pe_chain ho ho' pe pe' pe'' hm, fun B H0 O env σ H Q R p => chain_core hg hg' i i' i'' B H0 O env σ H Q R p⟩⟩
theorem bj_chain {op op' : CmpOp} (ho : OpR X (compareOp op) r) (ho' : OpR X (compareOp op') r') (hg : OpI X r g) (hg' : OpI X r' g') (ha : EJ X EX a f) (hb : EJ X EX b f') (hc : EJ X EX c f'')
    (hm : lastMarks [op, op'] [b, c] = false := by with_unfolding_all rfl) : BJ X EX (.Compare a [op, op'] [b, c] pos) (cb2 g g' f f' f'') := by
  obtain ⟨t, pe, i⟩ := ha.ex
  obtain ⟨t', pe', i'⟩ := hb.ex
  obtain ⟨t'', pe'', i''⟩ := hc.ex
  refine ⟨⟨_, pt_chain ho ho' pe pe' pe'' hm, fun B H0 O env σ H Q R p => chain_core hg hg' i i' i'' B H0 O env σ H _ R (p.bind.mono (fun _ _ x => x) fun z q u H' s r => ?_)⟩⟩
  unfold asB at q
  cases e : z.d with
  | bl k =>
    rw [e] at q
    exact ⟨k, r.bl e, q H' s⟩
  | _ => rw [e] at q; exact q.elim
end

/-! ### tests -/
def fAnd (f g : En → Res Bool) (env : En) : Res Bool := (f env).bind fun b => if b then g env else .ok false
def fOr (f g : En → Res Bool) (env : En) : Res Bool := (f env).bind fun b => if b then .ok true else g env
def fNot (f : En → Res Bool) (env : En) : Res Bool := (f env).bind fun b => .ok (!b)
def fIf {A : Type} (c : En → Res Bool) (f g : En → Res A) (env : En) : Res A := (c env).bind fun b => if b then f env else g env
/-- truth of a value -/
def truR (r : R) : Res Bool := match r.d with
  | .bl b => .ok b
  | .non => .ok false
  | .int i => .ok (i != 0)
  | .lst l => .ok (!l.isEmpty)
  | .str x => if x.length ≤ sizeLine then .ok ((x.length : Int) != 0) else .bad
  | _ => .bad
def fTru (f : En → Res R) (env : En) : Res Bool := (f env).bind truR
/-- a test as a value -/
def fBl (f : En → Res Bool) (env : En) : Res R := (f env).bind fun b => .ok (.sh (.bl b))
def fAndV (f g : En → Res R) (env : En) : Res R := (f env).bind fun x => (asB x).bind fun b => if b then g env else .ok (.sh (.bl false))
def fOrV (f g : En → Res R) (env : En) : Res R := (f env).bind fun x => (asB x).bind fun b => if b then .ok (.sh (.bl true)) else g env
def fNotV (f : En → Res R) (env : En) : Res R := (f env).bind fun x => (asB x).bind fun b => .ok (.sh (.bl (!b)))
section
variable {X : Cx} {EX : L2.St → XK} {a b c : Expr} {rest : List Expr} {f g : En → Res Bool} {u u' : En → Res R} {pos : Pos}
theorem WJ.bj (h : WJ X EX a f) : BJ X EX a f := by
  obtain ⟨t, pw, i⟩ := h.ex
  exact ⟨⟨t, pw.pt, i⟩⟩
theorem wj_and1 (h : BJ X EX a f) : WJ X EX (.BoolOp .And [a] pos) f := by
  obtain ⟨t, pt, i⟩ := h.ex
  exact ⟨⟨t, pw_and1 pt, i⟩⟩
theorem wj_or1 (h : BJ X EX a f) : WJ X EX (.BoolOp .Or [a] pos) f := by
  obtain ⟨t, pt, i⟩ := h.ex
  exact ⟨⟨t, pw_or1 pt, i⟩⟩
theorem wj_and (h : BJ X EX a f) (k : WJ X EX (.BoolOp .And (b :: rest) pos) g) : WJ X EX (.BoolOp .And (a :: b :: rest) pos) (fAnd f g) := by
  obtain ⟨t, pt, i⟩ := h.ex
  obtain ⟨t', pw, i'⟩ := k.ex
  refine ⟨⟨_, pw_and pt pw, fun B H0 O env σ H Q R p => ?_⟩⟩
  refine i B H0 O env σ H _ R (p.bind.mono (fun _ _ x => x) fun k q H1 s => ?_)
  cases k with
  | false => exact iteF (q H1 s)
  | true => exact iteT (i' B H0 O env σ H1 _ (R.mono s) (((show Post _ _ (g env) from q).up s).mono (fun _ _ x => x) fun k' q' H2 s2 => q' H2 (s.trans s2)))
theorem wj_or (h : BJ X EX a f) (k : WJ X EX (.BoolOp .Or (b :: rest) pos) g) : WJ X EX (.BoolOp .Or (a :: b :: rest) pos) (fOr f g) := by
  obtain ⟨t, pt, i⟩ := h.ex
  obtain ⟨t', pw, i'⟩ := k.ex
  refine ⟨⟨_, pw_or pt pw, fun B H0 O env σ H Q R p => ?_⟩⟩
  refine i B H0 O env σ H _ R (p.bind.mono (fun _ _ x => x) fun k q H1 s => ?_)
  cases k with
  | true => exact iteT (q H1 s)
  | false => exact iteF (i' B H0 O env σ H1 _ (R.mono s) (((show Post _ _ (g env) from q).up s).mono (fun _ _ x => x) fun k' q' H2 s2 => q' H2 (s.trans s2)))
theorem bj_not (h : BJ X EX a f) : BJ X EX (.UnaryOp .Not a pos) (fNot f) := by
  obtain ⟨t, pt, i⟩ := h.ex
  refine ⟨⟨_, pt_not pt, fun B H0 O env σ H Q R p => ?_⟩⟩
  exact i B H0 O env σ H _ R (p.bind.mono (fun _ _ x => x) fun k q H1 s => q H1 s)
theorem bj_tru (h : EJ X EX a u) (he : ∀ whole, isTrue a X.env whole = (do let v ← whole; standAt a.pos; holding [v] (truthy v)) := by intro _; rfl) : BJ X EX a (fTru u) := by
  obtain ⟨t, pe, i⟩ := h.ex
  refine ⟨⟨_, pt_truth pe he, fun B H0 O env σ H Q R p => ?_⟩⟩
  refine i B H0 O env σ H _ R (p.bind.mono (fun _ _ x => x) fun x q v H1 s r => ?_)
  unfold truR at q
  cases e : x.d with
  | bl k => rw [e] at q; rw [r.bl e]; exact ⟨k, rfl, q H1 s⟩
  | non => rw [e] at q; rw [r.non e]; exact ⟨false, rfl, q H1 s⟩
  | int k => rw [e] at q; rw [r.int e]; exact ⟨_, rfl, q H1 s⟩
  | str k =>
    rw [e] at q
    simp only at q
    split at q
    · rename_i c
      rw [r.str e]
      exact ⟨_, ⟨c, rfl⟩, q H1 s⟩
    · exact q.elim
  | lst l =>
    rw [e] at q
    obtain ⟨p, us, e1, e2, e3⟩ := r.lst e
    rw [e1]
    refine ⟨_, .inl ⟨us, SqL.of e2, rfl⟩, ?_⟩
    have z : (!us.isEmpty) = !l.isEmpty := by
      have := e3.1
      cases l <;> cases us <;> simp at this ⊢
    rw [z]
    exact q H1 s
  | _ => rw [e] at q; exact q.elim
theorem ej_if (hc : BJ X EX c f) (ha : EJ X EX a u) (hb : EJ X EX b u') : EJ X EX (.IfExp c a b pos) (fIf f u u') := by
  obtain ⟨t, pt, i⟩ := hc.ex
  obtain ⟨t1, pe1, i1⟩ := ha.ex
  obtain ⟨t2, pe2, i2⟩ := hb.ex
  refine ⟨⟨_, pe_ifExp pt pe1 pe2, fun B H0 O env σ H Q R p => ?_⟩⟩
  refine i B H0 O env σ H _ R (p.bind.mono (fun _ _ x => x) fun k q H1 s => ?_)
  cases k with
  | true => exact iteT (i1 B H0 O env σ H1 _ (R.mono s) (((show Post _ _ (u env) from q).up s).mono (fun _ _ x => x) fun r q' v H2 s2 r2 => q' v H2 (s.trans s2) (r2.down s)))
  | false => exact iteF (i2 B H0 O env σ H1 _ (R.mono s) (((show Post _ _ (u' env) from q).up s).mono (fun _ _ x => x) fun r q' v H2 s2 r2 => q' v H2 (s.trans s2) (r2.down s)))
theorem ej_one {op} (h : EJ X EX a u) : EJ X EX (.BoolOp op [a] pos) u := by
  obtain ⟨t, pe, i⟩ := h.ex
  exact ⟨⟨t, pe_one pe, i⟩⟩
theorem ej_and (ha : EJ X EX a u) (hb : EJ X EX (.BoolOp .And (b :: rest) pos) u') : EJ X EX (.BoolOp .And (a :: b :: rest) pos) (fAndV u u') := by
  obtain ⟨t1, pe1, i1⟩ := ha.ex
  obtain ⟨t2, pe2, i2⟩ := hb.ex
  refine ⟨⟨_, pe_and pe1 pe2, fun B H0 O env σ H Q R p => ?_⟩⟩
  refine i1 B H0 O env σ H _ R (p.bind.mono (fun _ _ x => x) fun x q v H1 s r => ?_)
  have q4 := q.bind
  unfold asB at q4
  cases e : x.d with
  | bl k =>
    rw [e] at q4
    refine ⟨k, r.bl e, ?_⟩
    cases k with
    | false => exact iteF (q4 _ H1 s (Rp.bl false))
    | true => exact iteT (i2 B H0 O env σ H1 _ (R.mono s) (((show Post _ _ (u' env) from q4).up s).mono (fun _ _ x => x) fun r q' v H2 s2 r2 => q' v H2 (s.trans s2) (r2.down s)))
  | _ => rw [e] at q4; exact q4.elim
theorem ej_or (ha : EJ X EX a u) (hb : EJ X EX (.BoolOp .Or (b :: rest) pos) u') : EJ X EX (.BoolOp .Or (a :: b :: rest) pos) (fOrV u u') := by
  obtain ⟨t1, pe1, i1⟩ := ha.ex
  obtain ⟨t2, pe2, i2⟩ := hb.ex
  refine ⟨⟨_, pe_or pe1 pe2, fun B H0 O env σ H Q R p => ?_⟩⟩
  refine i1 B H0 O env σ H _ R (p.bind.mono (fun _ _ x => x) fun x q v H1 s r => ?_)
  have q4 := q.bind
  unfold asB at q4
  cases e : x.d with
  | bl k =>
    rw [e] at q4
    refine ⟨k, r.bl e, ?_⟩
    cases k with
    | true => exact iteT (q4 _ H1 s (Rp.bl true))
    | false => exact iteF (i2 B H0 O env σ H1 _ (R.mono s) (((show Post _ _ (u' env) from q4).up s).mono (fun _ _ x => x) fun r q' v H2 s2 r2 => q' v H2 (s.trans s2) (r2.down s)))
  | _ => rw [e] at q4; exact q4.elim
theorem ej_not (ha : EJ X EX a u) : EJ X EX (.UnaryOp .Not a pos) (fNotV u) := by
  obtain ⟨t1, pe1, i1⟩ := ha.ex
  refine ⟨⟨_, pe_not pe1, fun B H0 O env σ H Q R p => ?_⟩⟩
  refine i1 B H0 O env σ H _ R (p.bind.mono (fun _ _ x => x) fun x q v H1 s r => ?_)
  have q4 := q.bind
  unfold asB at q4
  cases e : x.d with
  | bl k =>
    rw [e] at q4
    exact ⟨k, r.bl e, q4 _ H1 s (Rp.bl (!k))⟩
  | _ => rw [e] at q4; exact q4.elim
end
end Tr
namespace Tr
open PySem L2

/-! ### arithmetic -/
def rOr (r r' : R2) : R2 := fun x y H Q => r x y H Q ∨ r' x y H Q
def addR (x y : R) : Res R := match x.d, y.d with
  | .int i, .int j => .ok (.sh (.int (i + j)))
  | .str a, .str b => if a.length + b.length ≤ sizeLine then .ok (.sh (.str (a ++ b))) else .bad
  | .lst l, .lst m => if l.length + m.length ≤ sizeLine then .ok (.fr (.lst (l ++ m))) else .bad
  | _, _ => .bad
def subR (x y : R) : Res R := match x.d, y.d with
  | .int i, .int j => .ok (.sh (.int (i - j)))
  | _, _ => .bad
def mulOk (i j : Int) : Prop := (-(2 ^ 64) < i ∧ i < 2 ^ 64) ∨ (-(2 ^ 64) < j ∧ j < 2 ^ 64)
instance (i j : Int) : Decidable (mulOk i j) := by unfold mulOk; infer_instance
def mulR (x y : R) : Res R := match x.d, y.d with
  | .int i, .int j => if mulOk i j then .ok (.sh (.int (i * j))) else .bad
  | .lst l, .int k => if (-(2 ^ 63) ≤ k ∧ k < 2 ^ 63) ∧ l.length * k.toNat ≤ sizeLine then .ok (.fr (.lst (List.replicate k.toNat l).flatten)) else .bad
  | _, _ => .bad
def fdivR (x y : R) : Res R := match x.d, y.d with
  | .int i, .int j => if 0 < j ∧ j < 1073741824 then .ok (.sh (.int (i / j))) else .bad
  | _, _ => .bad
def modR (x y : R) : Res R := match x.d, y.d with
  | .int i, .int j => if 0 < j then .ok (.sh (.int (i % j))) else .bad
  | _, _ => .bad
def powR (x y : R) : Res R := match x.d, y.d with
  | .int i, .int j => if 0 ≤ j ∧ j ≤ 1000000 ∧ i.natAbs < 2 ^ 64 then .ok (.sh (.int (i ^ j.toNat))) else .bad
  | _, _ => .bad
def shrR (x y : R) : Res R := match x.d, y.d with
  | .int i, .int j => if 0 ≤ j then .ok (.sh (.int (i / 2 ^ j.toNat))) else .bad
  | _, _ => .bad
def andR (x y : R) : Res R := match x.d, y.d with
  | .int i, .int j => .ok (.sh (.int (Builtin.bitAnd i j)))
  | _, _ => .bad
def cmpR (p : Int → Int → Bool) (x y : R) : Res R := match x.d, y.d with
  | .int i, .int j => .ok (.sh (.bl (p i j)))
  | _, _ => .bad
abbrev ltR := cmpR fun i j => decide (i < j)
abbrev gtR := cmpR fun i j => decide (j < i)
abbrev geR := cmpR fun i j => decide (j ≤ i)
def leR (x y : R) : Res R := match x.d, y.d with
  | .int i, .int j => .ok (.sh (.bl (decide (i ≤ j))))
  | .str i, .str j => .ok (.sh (.bl (!decide (j.cps.toList < i.cps.toList))))
  | _, _ => .bad

theorem strOk_app {a b : Str} (h : PyData.strOk a = true) (k : PyData.strOk b = true) : PyData.strOk (a ++ b) = true := by
  show (a.cps ++ b.cps).all _ = true
  rw [Array.all_append, Bool.and_eq_true]
  exact ⟨h, k⟩
theorem RR.strk {K : PySem.W.Frag} {B : Bs} {O : Ow} {H H' : Hp} {r : R} {v : V} {x : Str} (h : RR K B O H H' r v) (e : r.d = .str x) : PyData.strOk x = true := by
  have z := e ▸ h.rp0
  cases z with
  | str _ k => exact k

section
variable {X : Cx}
theorem opi_int {C : Int → Int → Prop} {g : Int → Int → V} {G : R → R → Res R}
    (h : ∀ x y xc (okp : R → Prop), Post xc okp (G x y) → ∃ i j, x.d = .int i ∧ y.d = .int j ∧ C i j ∧ ∃ d, okp (.sh d) ∧ ∀ K H B, Rp K H B d (g i j)) : OpI X (rI C g) G := by
  intro B H0 O env σ Hs H x y v w Q xc R s rx ry p
  obtain ⟨i, j, ei, ej, hc, d, q, rd⟩ := h x y xc _ p
  exact ⟨i, j, rx.int ei, ry.int ej, hc, q _ H (Same.refl H) (rd _ _ _)⟩
theorem opi_int0 {g : Int → Int → V} {G : R → R → Res R}
    (h : ∀ x y xc (okp : R → Prop), Post xc okp (G x y) → ∃ i j, x.d = .int i ∧ y.d = .int j ∧ ∃ d, okp (.sh d) ∧ ∀ K H B, Rp K H B d (g i j)) : OpI X (rI0 g) G := by
  intro B H0 O env σ Hs H x y v w Q xc R s rx ry p
  obtain ⟨i, j, ei, ej, d, q, rd⟩ := h x y xc _ p
  exact ⟨i, j, rx.int ei, ry.int ej, q _ H (Same.refl H) (rd _ _ _)⟩
def rAdd : R2 := fun x y H Q => rI0 (fun i j => .int (i + j)) x y H Q ∨ ((∃ i j, x = .str i ∧ y = .str j ∧ i.length + j.length ≤ sizeLine ∧ Q (.str (i ++ j)) H) ∨ rCat x y H Q)
theorem opr_add : OpR X (binaryOp .Add) rAdd := op_add.or (op_add_str.or op_cat)
theorem opi_add : OpI X rAdd addR := by
  intro B H0 O env σ Hs H x y v w Q xc R s rx ry p
  unfold addR at p
  split at p
  · rename_i i j e1 e2
    exact .inl ⟨i, j, rx.int e1, ry.int e2, p _ H (Same.refl H) (Rp.int _)⟩
  · rename_i i j e1 e2
    split at p
    · rename_i c
      exact .inr (.inl ⟨i, j, rx.str e1, ry.str e2, c, p _ H (Same.refl H) (Rp.str _ (strOk_app (rx.strk e1) (ry.strk e2)))⟩)
    · exact p.elim
  · rename_i l m e1 e2
    split at p
    · rename_i c
      obtain ⟨a, us, ea, ha, ra⟩ := rx.lst e1
      obtain ⟨b, ws, eb, hb, rb⟩ := ry.lst e2
      refine .inr (.inr ⟨a, b, us, ws, ea, eb, ha, hb, by rw [← ra.1, ← rb.1]; exact c, fun q nq => p _ _ (Same.new nq) (RR.newL R s (ra.append rb) nq)⟩)
    · exact p.elim
  · exact p.elim
theorem opi_sub : OpI X (rI0 fun i j => .int (i - j)) subR := opi_int0 fun x y xc okp p => by
  unfold subR at p
  split at p
  · rename_i i j e1 e2
    exact ⟨i, j, e1, e2, _, p, fun _ _ _ => Rp.int _⟩
  · exact p.elim
def rMul : R2 := fun x y H Q => rI CMul (fun i j => .int (i * j)) x y H Q ∨ rRep x y H Q
theorem opr_mul : OpR X (binaryOp .Mult) rMul := op_mul.or op_rep
theorem RpAll.rep {K : PySem.W.Frag} {H : Hp} {B : Xs} {ts : List T} {us : List V} (h : RpAll K H B ts us) : ∀ k : Nat, RpAll K H B (List.replicate k ts).flatten (List.replicate k us).flatten
  | 0 => .nil
  | k + 1 => by
    rw [List.replicate_succ, List.replicate_succ, List.flatten_cons, List.flatten_cons]
    exact h.append (RpAll.rep h k)
theorem opi_mul : OpI X rMul mulR := by
  intro B H0 O env σ Hs H x y v w Q xc R s rx ry p
  unfold mulR at p
  split at p
  · rename_i i j e1 e2
    split at p
    · rename_i c
      exact .inl ⟨i, j, rx.int e1, ry.int e2, c, p _ H (Same.refl H) (Rp.int _)⟩
    · exact p.elim
  · rename_i l k e1 e2
    split at p
    · rename_i c
      obtain ⟨a, us, ea, ha, ra⟩ := rx.lst e1
      exact .inr ⟨a, k, us, ea, ry.int e2, ha, c.1.1, c.1.2, by rw [← ra.1]; exact c.2, fun q nq => p _ _ (Same.new nq) (RR.newL R s (ra.rep _) nq)⟩
    · exact p.elim
  · exact p.elim
theorem opi_fdiv : OpI X (rI CDiv fun i j => .int (i / j)) fdivR := opi_int fun x y xc okp p => by
  unfold fdivR at p
  split at p
  · rename_i i j e1 e2
    split at p
    · rename_i c
      exact ⟨i, j, e1, e2, c, _, p, fun _ _ _ => Rp.int _⟩
    · exact p.elim
  · exact p.elim
theorem opi_mod : OpI X (rI (fun _ j => 0 < j) fun i j => .int (i % j)) modR := opi_int fun x y xc okp p => by
  unfold modR at p
  split at p
  · rename_i i j e1 e2
    split at p
    · rename_i c
      exact ⟨i, j, e1, e2, c, _, p, fun _ _ _ => Rp.int _⟩
    · exact p.elim
  · exact p.elim
theorem opi_pow : OpI X (rI CPow fun i j => .int (i ^ j.toNat)) powR := opi_int fun x y xc okp p => by
  unfold powR at p
  split at p
  · rename_i i j e1 e2
    split at p
    · rename_i c
      exact ⟨i, j, e1, e2, c, _, p, fun _ _ _ => Rp.int _⟩
    · exact p.elim
  · exact p.elim
theorem opi_shr : OpI X (rI (fun _ j => 0 ≤ j) fun i j => .int (i / 2 ^ j.toNat)) shrR := opi_int fun x y xc okp p => by
  unfold shrR at p
  split at p
  · rename_i i j e1 e2
    split at p
    · rename_i c
      exact ⟨i, j, e1, e2, c, _, p, fun _ _ _ => Rp.int _⟩
    · exact p.elim
  · exact p.elim
theorem opi_band : OpI X (rI0 fun i j => .int (Builtin.bitAnd i j)) andR := opi_int0 fun x y xc okp p => by
  unfold andR at p
  split at p
  · rename_i i j e1 e2
    exact ⟨i, j, e1, e2, _, p, fun _ _ _ => Rp.int _⟩
  · exact p.elim
theorem opi_cmp {q : Int → Int → Bool} : OpI X (rI0 fun i j => .bl (q i j)) (cmpR q) := opi_int0 fun x y xc okp p => by
  unfold cmpR at p
  split at p
  · rename_i i j e1 e2
    exact ⟨i, j, e1, e2, _, p, fun _ _ _ => Rp.bl _⟩
  · exact p.elim
def rLe : R2 := fun x y H Q => rI0 (fun i j => .bl (decide (i ≤ j))) x y H Q ∨ (∃ i j, x = .str i ∧ y = .str j ∧ Q (.bl (!decide (j.cps.toList < i.cps.toList))) H)
theorem opr_le : OpR X (compareOp .LtE) rLe := op_le.or op_le_str
theorem opi_le : OpI X rLe leR := by
  intro B H0 O env σ Hs H x y v w Q xc R s rx ry p
  unfold leR at p
  split at p
  · rename_i i j e1 e2
    exact .inl ⟨i, j, rx.int e1, ry.int e2, p _ H (Same.refl H) (Rp.bl _)⟩
  · rename_i i j e1 e2
    exact .inr ⟨i, j, rx.str e1, ry.str e2, p _ H (Same.refl H) (Rp.bl _)⟩
  · exact p.elim
end

/-! ### a minus ahead -/
def negF (f : En → Res R) (env : En) : Res R := (f env).bind fun x => match x.d with
  | .int i => .ok (.sh (.int (-i)))
  | _ => .bad
theorem ej_neg {X : Cx} {EX : L2.St → XK} {a : Expr} {f : En → Res R} {pos : Pos} (ha : EJ X EX a f) : EJ X EX (.UnaryOp .USub a pos) (negF f) := by
  obtain ⟨t1, pe1, i1⟩ := ha.ex
  refine ⟨⟨_, pe_un un_neg pe1, fun B H0 O env σ H Q R p => ?_⟩⟩
  refine i1 B H0 O env σ H _ R (p.bind.mono (fun _ _ x => x) fun x q v H1 s r => ?_)
  split at q
  · rename_i i e
    exact ⟨i, r.int e, q _ H1 s (Rp.int _)⟩
  · exact q.elim

/-! ### equality: data -/
mutual
def T.toD : T → PyData
  | .non => .none
  | .bl b => .bool b
  | .int i => .int i
  | .str x => .str x
  | .tup l => .tuple (T.toDs l)
  | .lst l => .list (T.toDs l)
  | .scr ns => .list (ns.map PyData.int)
  | .dik _ => .none
  | .dit _ => .none
  | .obj _ _ => .none
  | .fn _ => .none
  | .ptr _ => .none
  | .ex0 _ => .none
  | .ex1 _ _ => .none
def T.toDs : List T → List PyData
  | [] => []
  | t :: l => T.toD t :: T.toDs l
end
theorem T.toDs_map : ∀ l : List T, T.toDs l = l.map T.toD
  | [] => by simp [T.toDs]
  | t :: l => by simp [T.toDs, T.toDs_map l]
/-- plain data, at most n deep -/
def T.pd : Nat → T → Bool
  | _, .non => true
  | _, .bl _ => true
  | _, .int _ => true
  | _, .str _ => true
  | n + 1, .tup l => l.all (T.pd n)
  | n + 1, .lst l => l.all (T.pd n)
  | _ + 1, .scr _ => true
  | _, _ => false
theorem depthAll_le {n : Nat} : ∀ {l : List PyData}, (∀ d ∈ l, d.depth ≤ n) → PyData.depthAll l ≤ n
  | [], _ => by simp [PyData.depthAll]
  | d :: l, h => by
    simp only [PyData.depthAll]
    have h1 := h d List.mem_cons_self
    have h2 := depthAll_le (n := n) (l := l) fun x hx => h x (List.mem_cons_of_mem _ hx)
    omega
theorem canAll {l : List PyData} (h : ∀ d ∈ l, d.canLay0 = true) : PyData.canLayAll0 l = true := by
  induction l with
  | nil => simp [PyData.canLayAll0]
  | cons d l ih =>
    simp only [PyData.canLayAll0, Bool.and_eq_true]
    exact ⟨h d List.mem_cons_self, ih fun x hx => h x (List.mem_cons_of_mem _ hx)⟩
theorem dpAll_of {K : PySem.W.Frag} {H : Hp} : ∀ {ts : List T} {us : List V}, ts.length = us.length → (∀ (i : Nat) (t : T) (u : V), ts[i]? = some t → us[i]? = some u → Dp K H u t.toD) → DpAll K H us (T.toDs ts)
  | [], [], _, _ => by simp only [T.toDs]; exact .nil
  | t :: ts, u :: us, e, h => by
    simp only [T.toDs]
    exact .cons (h 0 t u rfl rfl) (dpAll_of (by simpa using e) fun i t' u' a b => h (i + 1) t' u' (by simpa using a) (by simpa using b))
  | [], _ :: _, e, _ => by simp at e
  | _ :: _, [], e, _ => by simp at e
theorem dpAll_ints {K : PySem.W.Frag} {H : Hp} : ∀ {ns : List Int}, DpAll K H (ns.map V.int) (ns.map PyData.int)
  | [] => .nil
  | n :: ns => .cons (.int n) dpAll_ints
theorem Rp.plain {K : PySem.W.Frag} {H : Hp} {B : Xs} {t : T} {v : V} (h : Rp K H B t v) : ∀ n, t.pd n = true → Dp K H v t.toD ∧ t.toD.canLay0 = true ∧ t.toD.depth ≤ n := by
  induction h with
  | non => intro n _; exact ⟨by simp only [T.toD]; exact .non, by simp [T.toD, PyData.canLay0], by simp [T.toD, PyData.depth]⟩
  | bl b => intro n _; exact ⟨by simp only [T.toD]; exact .bl b, by simp [T.toD, PyData.canLay0], by simp [T.toD, PyData.depth]⟩
  | int i => intro n _; exact ⟨by simp only [T.toD]; exact .int i, by simp [T.toD, PyData.canLay0], by simp [T.toD, PyData.depth]⟩
  | str x hx => intro n _; exact ⟨by simp only [T.toD]; exact .str x, by simp [T.toD, PyData.canLay0, hx], by simp [T.toD, PyData.depth]⟩
  | @tup a ts us h1 _ hl hs ih =>
    intro n hp
    cases n with
    | zero => simp [T.pd] at hp
    | succ n =>
      have hp' : ts.all (T.pd n) = true := hp
      have e : ∀ (i : Nat) (t : T), ts[i]? = some t → t.pd n = true := fun i t q => List.all_eq_true.mp hp' t (List.mem_of_getElem? q)
      have all : ∀ d ∈ T.toDs ts, d.canLay0 = true ∧ d.depth ≤ n := fun d hd => by
        rw [T.toDs_map] at hd
        obtain ⟨t, ht, rfl⟩ := List.mem_map.mp hd
        obtain ⟨i, hi⟩ := List.getElem?_of_mem ht
        have hj : i < us.length := by rw [← hl]; exact (List.getElem?_eq_some_iff.mp hi).1
        exact (ih i t _ hi (List.getElem?_eq_getElem hj) n (e i t hi)).2
      refine ⟨?_, ?_, ?_⟩
      · simp only [T.toD]
        exact .tup (SqT.of h1) (dpAll_of hl fun i t u a b => (ih i t u a b n (e i t a)).1)
      · simp only [T.toD, PyData.canLay0]
        exact canAll fun d hd => (all d hd).1
      · simp only [T.toD, PyData.depth]
        have := depthAll_le fun d hd => (all d hd).2
        omega
  | @lst a ts us h1 _ hl hs ih =>
    intro n hp
    cases n with
    | zero => simp [T.pd] at hp
    | succ n =>
      have hp' : ts.all (T.pd n) = true := hp
      have e : ∀ (i : Nat) (t : T), ts[i]? = some t → t.pd n = true := fun i t q => List.all_eq_true.mp hp' t (List.mem_of_getElem? q)
      have all : ∀ d ∈ T.toDs ts, d.canLay0 = true ∧ d.depth ≤ n := fun d hd => by
        rw [T.toDs_map] at hd
        obtain ⟨t, ht, rfl⟩ := List.mem_map.mp hd
        obtain ⟨i, hi⟩ := List.getElem?_of_mem ht
        have hj : i < us.length := by rw [← hl]; exact (List.getElem?_eq_some_iff.mp hi).1
        exact (ih i t _ hi (List.getElem?_eq_getElem hj) n (e i t hi)).2
      refine ⟨?_, ?_, ?_⟩
      · simp only [T.toD]
        exact .lst (SqL.of h1) (dpAll_of hl fun i t u a b => (ih i t u a b n (e i t a)).1)
      · simp only [T.toD, PyData.canLay0]
        exact canAll fun d hd => (all d hd).1
      · simp only [T.toD, PyData.depth]
        have := depthAll_le fun d hd => (all d hd).2
        omega
  | @scr a ns hq =>
    intro n hp
    cases n with
    | zero => simp [T.pd] at hp
    | succ n =>
      refine ⟨?_, ?_, ?_⟩
      · simp only [T.toD]
        exact .lst (hq.elim (fun z => .inl z.1) .inr) dpAll_ints
      · simp only [T.toD, PyData.canLay0]
        exact canAll fun d hd => by
          obtain ⟨k, _, rfl⟩ := List.mem_map.mp hd
          simp [PyData.canLay0]
      · simp only [T.toD, PyData.depth]
        have := depthAll_le (n := n) (l := ns.map PyData.int) fun d hd => by
          obtain ⟨k, _, rfl⟩ := List.mem_map.mp hd
          simp [PyData.depth]
        omega
  | dik => intro n hp; cases n <;> simp [T.pd] at hp
  | dit => intro n hp; cases n <;> simp [T.pd] at hp
  | obj => intro n hp; cases n <;> simp [T.pd] at hp
  | fn => intro n hp; cases n <;> simp [T.pd] at hp
  | ptr => intro n hp; cases n <;> simp [T.pd] at hp
  | ex0 => intro n hp; cases n <;> simp [T.pd] at hp
  | ex1 => intro n hp; cases n <;> simp [T.pd] at hp
def teq (a b : T) : Bool := PyData.eqv a.toD b.toD
def eqR (x y : R) : Res R := if T.pd 8 x.d = true ∧ T.pd 8 y.d = true then .ok (.sh (.bl (teq x.d y.d))) else .bad
def neR (x y : R) : Res R := if T.pd 8 x.d = true ∧ T.pd 8 y.d = true then .ok (.sh (.bl (!teq x.d y.d))) else .bad
section
variable {X : Cx}
theorem shaped_of {t : T} {d : PyData} (h1 : d.canLay0 = true) (h2 : d.depth ≤ 8) : SeqAt.shaped d = true := by
  unfold SeqAt.shaped
  rw [h1, Bool.true_and]
  exact decide_eq_true (by omega)
theorem opi_eq : OpI X (rEqD X.K) eqR := by
  intro B H0 O env σ Hs H x y v w Q xc R s rx ry p
  unfold eqR at p
  split at p
  · rename_i c
    obtain ⟨d1, c1, e1⟩ := rx.rp0.plain 8 c.1
    obtain ⟨d2, c2, e2⟩ := ry.rp0.plain 8 c.2
    exact ⟨_, _, d1, d2, shaped_of (t := x.d) c1 e1, shaped_of (t := y.d) c2 e2, p _ H (Same.refl H) (Rp.bl _)⟩
  · exact p.elim
theorem opi_ne : OpI X (rNeD X.K) neR := by
  intro B H0 O env σ Hs H x y v w Q xc R s rx ry p
  unfold neR at p
  split at p
  · rename_i c
    obtain ⟨d1, c1, e1⟩ := rx.rp0.plain 8 c.1
    obtain ⟨d2, c2, e2⟩ := ry.rp0.plain 8 c.2
    exact ⟨_, _, d1, d2, shaped_of (t := x.d) c1 e1, shaped_of (t := y.d) c2 e2, p _ H (Same.refl H) (Rp.bl _)⟩
  · exact p.elim
end

/-! ### is None, is of truths -/
def T.isNon : T → Bool
  | .non => true
  | _ => false
def isR (x y : R) : Res R := match x.d, y.d with
  | .bl a, .bl b => .ok (.sh (.bl (decide (a = b))))
  | d, .non => .ok (.sh (.bl d.isNon))
  | _, _ => .bad
def isnR (x y : R) : Res R := match x.d, y.d with
  | .bl a, .bl b => .ok (.sh (.bl (!decide (a = b))))
  | d, .non => .ok (.sh (.bl (!d.isNon)))
  | _, _ => .bad
theorem Rp.isNon {K : PySem.W.Frag} {H : Hp} {B : Xs} {t : T} {v : V} (h : Rp K H B t v) : decide (v = .non) = t.isNon := by
  cases h <;> simp [T.isNon]
def rIs : R2 := fun x y H Q => rIsB x y H Q ∨ (y = .non ∧ Q (.bl (decide (x = .non))) H)
def rIsn : R2 := fun x y H Q => rNotB x y H Q ∨ (y = .non ∧ Q (.bl (!decide (x = .non))) H)
section
variable {X : Cx}
theorem opr_is : OpR X (compareOp .Is) rIs := op_isBl.or op_isN
theorem opr_isn : OpR X (compareOp .IsNot) rIsn := op_notBl.or op_notN
theorem opi_is : OpI X rIs isR := by
  intro B H0 O env σ Hs H x y v w Q xc R s rx ry p
  unfold isR at p
  split at p
  · rename_i a b e1 e2
    exact .inl ⟨a, b, rx.bl e1, ry.bl e2, p _ H (Same.refl H) (Rp.bl _)⟩
  · rename_i d _ e2
    refine .inr ⟨ry.non e2, ?_⟩
    rw [rx.rp0.isNon]
    exact p _ H (Same.refl H) (Rp.bl _)
  · exact p.elim
theorem opi_isn : OpI X rIsn isnR := by
  intro B H0 O env σ Hs H x y v w Q xc R s rx ry p
  unfold isnR at p
  split at p
  · rename_i a b e1 e2
    exact .inl ⟨a, b, rx.bl e1, ry.bl e2, p _ H (Same.refl H) (Rp.bl _)⟩
  · rename_i d _ e2
    refine .inr ⟨ry.non e2, ?_⟩
    rw [rx.rp0.isNon]
    exact p _ H (Same.refl H) (Rp.bl _)
  · exact p.elim
end
end Tr
namespace Tr
open PySem L2

/-! ### subscripts -/
def ixR (x y : R) : Res R := match y.d with
  | .int i => match x.d with
    | .lst l => match atI l i with
      | some t => .ok (.sh t)
      | none => .bad
    | .scr ns => match atI ns i with
      | some n => .ok (.sh (.int n))
      | none => .bad
    | .tup l => match atI l i with
      | some t => .ok (.sh t)
      | none => .bad
    | .str z => if z.length ≤ sizeLine then (match atI z.cps.toList i with
      | some c => .ok (.sh (.str ⟨#[c]⟩))
      | none => .bad) else .bad
    | _ => .bad
  | _ => .bad
section
variable {K : PySem.W.Frag} {B : Bs} {O : Ow} {H0 H H' : Hp} {r : R} {v : V}
theorem atI_rel {ts : List T} {us : List V} {i : Int} {t : T} {X : Xs} (h : RpAll K H X ts us) (e : atI ts i = some t) : ∃ u, atI us i = some u ∧ Rp K H X t u := by
  unfold atI at e ⊢
  rw [← h.1]
  cases q : ixN ts.length i with
  | none => rw [q] at e; cases e
  | some j =>
    rw [q] at e
    obtain ⟨u, e1, e2⟩ := h.get (show ts[j]? = some t from e)
    exact ⟨u, e1, e2⟩
theorem atI_ints {ns : List Int} {i : Int} {n : Int} (e : atI ns i = some n) : atI (ns.map V.int) i = some (.int n) := by
  unfold atI at e ⊢
  rw [List.length_map]
  cases q : ixN ns.length i with
  | none => rw [q] at e; cases e
  | some j =>
    rw [q] at e
    show (ns.map V.int)[j]? = _
    rw [List.getElem?_map, show ns[j]? = some n from e]
    rfl
theorem RR.scr {ns : List Int} (h : RR K B O H H' r v) (e : r.d = .scr ns) : ∃ a, v = .ref a ∧ SqL K H' a (ns.map V.int) := by
  have z := e ▸ h.rp0
  cases z with
  | scr hq => exact ⟨_, rfl, hq.elim (fun z => .inl z.1) .inr⟩
theorem strOk_mem {z : Str} (h : PyData.strOk z = true) {c : Nat} (m : c ∈ z.cps.toList) : c < 0x110000 := by
  unfold PyData.strOk at h
  rw [← Array.all_toList] at h
  exact of_decide_eq_true (List.all_eq_true.mp h c m)
theorem strOk_of {l : List Nat} (h : ∀ c ∈ l, c < 0x110000) : PyData.strOk ⟨l.toArray⟩ = true := by
  unfold PyData.strOk
  rw [← Array.all_toList]
  exact List.all_eq_true.mpr fun c m => decide_eq_true (h c (by simpa using m))
theorem atI_mem {A : Type} {l : List A} {i : Int} {c : A} (h : atI l i = some c) : c ∈ l := by
  unfold atI at h
  cases q : ixN l.length i with
  | none => rw [q] at h; cases h
  | some j =>
    rw [q] at h
    exact List.mem_of_getElem? (show l[j]? = some c from h)
end
section
variable {X : Cx} {EX : L2.St → XK} {a b c : Expr} {f f' f'' : En → Res R} {pos : Pos}
theorem opi_ix : OpI X (rIx X.K) ixR := by
  intro B H0 O env σ Hs H x y v w Q xc R s rx ry p
  unfold ixR at p
  split at p
  · rename_i i e1
    have ew := ry.int e1
    split at p
    · rename_i l e2
      split at p
      · rename_i t e3
        obtain ⟨a, us, ea, ha, ra⟩ := rx.lst e2
        obtain ⟨u, h1, h2⟩ := atI_rel ra e3
        exact .inl ⟨a, us, i, u, ea, ew, SqL.of ha, h1, p u H (Same.refl H) h2⟩
      · exact p.elim
    · rename_i ns e2
      split at p
      · rename_i n e3
        obtain ⟨a, ea, ha⟩ := rx.scr e2
        exact .inl ⟨a, _, i, _, ea, ew, ha, atI_ints e3, p _ H (Same.refl H) (Rp.int _)⟩
      · exact p.elim
    · rename_i l e2
      split at p
      · rename_i t e3
        obtain ⟨a, us, ea, ha, ra⟩ := rx.tup e2
        obtain ⟨u, h1, h2⟩ := atI_rel ra e3
        exact .inr (.inl ⟨a, us, i, u, ea, ew, SqT.of ha, h1, p u H (Same.refl H) h2⟩)
      · exact p.elim
    · rename_i z e2
      split at p
      · rename_i hz
        split at p
        · rename_i c e3
          exact .inr (.inr ⟨z, i, c, rx.str e2, ew, hz, e3, p _ H (Same.refl H) (Rp.str _ (strOk_of (l := [c]) fun d hd => by
            obtain rfl : d = c := by simpa using hd
            exact strOk_mem (rx.strk e2) (atI_mem e3)))⟩)
        · exact p.elim
      · exact p.elim
    · exact p.elim
  · exact p.elim
theorem ej_ix (ha : EJ X EX a f) (hb : EJ X EX b f') (hs : PlainIx b) : EJ X EX (.Subscript a b pos) (b2 ixR f f') := by
  obtain ⟨t, pe, i⟩ := ha.ex
  obtain ⟨t', pe', i'⟩ := hb.ex
  refine ⟨⟨_, pe_ix ix_seq pe pe' hs, fun B H0 O env σ H Q R p => ?_⟩⟩
  refine i B H0 O env σ H _ R (p.bind.mono (fun _ _ x => x) fun x q v H1 s r1 => ?_)
  refine i' B H0 O env σ H1 _ (R.mono s) ((q.bind.up s).mono (fun _ _ x => x) fun y q2 w H2 s2 r2 => ?_)
  exact opi_ix B H0 O env σ H H2 x y v w Q _ R (s.trans s2) (r1.mono s2) (r2.down s) (q2.mono (fun _ _ x => x) fun z q3 u H' s3 r3 => q3 u H' ((s.trans s2).trans s3) r3)
end

/-! ### slices -/
def cutL {A : Type} (xs : List A) (lo hi : Option Int) : List A := (xs.drop (HT.sIx xs.length 0 lo)).take (HT.sIx xs.length xs.length hi - HT.sIx xs.length 0 lo)
def cutR (x : R) (lo hi : Option Int) : Res R := match x.d with
  | .lst l => .ok (.fr (.lst (cutL l lo hi)))
  | .scr ns => .ok (.fr (.lst ((cutL ns lo hi).map T.int)))
  | .str z => if z.length ≤ sizeLine then .ok (.sh (.str (cutS z lo hi))) else .bad
  | .tup l => if ¬ (HT.sIx l.length 0 lo = 0 ∧ HT.sIx l.length l.length hi = l.length) then .ok (.sh (.tup (cutL l lo hi))) else .bad
  | _ => .bad
def partR (r : R) : Res (Option Int) := match r.d with
  | .int i => .ok (some i)
  | _ => .bad
def fSl (f : En → Res R) (l h : En → Res (Option Int)) (env : En) : Res R := (f env).bind fun x => (l env).bind fun lo => (h env).bind fun hi => cutR x lo hi
def fP (f : En → Res R) (env : En) : Res (Option Int) := (f env).bind partR
@[simp] def fP0 (_ : En) : Res (Option Int) := .ok none
structure OJ (X : Cx) (EX : L2.St → XK) (e : Option Expr) (f : En → Res (Option Int)) : Prop where
  ex : ∃ t : TO, PO X e t ∧ ∀ B H0 O env σ H (Q : Option Int → Hp → Prop), Rel X.K B H0 O env σ H → Post (XC X.K B O EX σ H) (fun b => ∀ H', Same H H' → Q b H') (f env) → t σ H Q
theorem RpAll.cut {K : PySem.W.Frag} {H : Hp} {B : Xs} {ts : List T} {us : List V} (h : RpAll K H B ts us) (lo hi : Option Int) : RpAll K H B (cutL ts lo hi) (cutV us lo hi) := by
  unfold cutL cutV
  rw [← h.1]
  exact (h.drop _).take _
def rSl (X : Cx) : V → Option Int → Option Int → Hp → VK → Prop := fun x lo hi H Q => rSlL X.K x lo hi H Q ∨ (rSlS x lo hi H Q ∨ rSlT X.K x lo hi H Q)
section
variable {X : Cx} {EX : L2.St → XK} {a b c : Expr} {f : En → Res R} {l h : En → Res (Option Int)} {lo hi : Option Expr} {p2 pos : Pos}
theorem oj_none : OJ X EX none fP0 := ⟨⟨_, po_none, fun B H0 O env σ H Q R p => p H (Same.refl H)⟩⟩
theorem oj_some (ha : EJ X EX a f) : OJ X EX (some a) (fP f) := by
  obtain ⟨t, pe, i⟩ := ha.ex
  refine ⟨⟨_, po_some pe, fun B H0 O env σ H Q R p => ?_⟩⟩
  refine i B H0 O env σ H _ R (p.bind.mono (fun _ _ x => x) fun x q v H1 s r1 => ?_)
  unfold partR at q
  split at q
  · rename_i k e
    exact ⟨k, r1.int e, q H1 s⟩
  · exact q.elim
theorem slr : SlR X (rSl X) := sl_list.or (sl_str.or sl_tup)
theorem ej_slice (ha : EJ X EX a f) (hl : OJ X EX lo l) (hh : OJ X EX hi h) : EJ X EX (.Subscript a (.Slice lo hi none p2) pos) (fSl f l h) := by
  obtain ⟨t, pe, i⟩ := ha.ex
  obtain ⟨t1, pe1, i1⟩ := hl.ex
  obtain ⟨t2, pe2, i2⟩ := hh.ex
  refine ⟨⟨_, pe_slice slr pe pe1 pe2, fun B H0 O env σ H Q R p => ?_⟩⟩
  refine i B H0 O env σ H _ R (p.bind.mono (fun _ _ x => x) fun x q v H1 s r1 => ?_)
  refine i1 B H0 O env σ H1 _ (R.mono s) ((q.bind.up s).mono (fun _ _ x => x) fun y q2 H2 s2 => ?_)
  refine i2 B H0 O env σ H2 _ (R.mono (s.trans s2)) ((q2.bind.up (s.trans s2)).mono (fun _ _ x => x) fun z q3 H3 s3 => ?_)
  have st := (s.trans s2).trans s3
  have rx := r1.mono (s2.trans s3)
  unfold cutR at q3
  split at q3
  · rename_i l e
    obtain ⟨a, us, ea, ha, ra⟩ := rx.lst e
    exact .inl ⟨a, us, ea, SqL.of ha, fun p np => q3 _ _ (st.trans (Same.new np)) (RR.newL R st (ra.cut _ _) np)⟩
  · rename_i ns e
    obtain ⟨a, ea, ha⟩ := rx.scr e
    refine .inl ⟨a, _, ea, ha, fun p np => q3 _ _ (st.trans (Same.new np)) (RR.newL R st ?_ np)⟩
    have z2 : (cutL ns y z).map T.int = cutL (ns.map T.int) y z := by
      unfold cutL
      rw [List.length_map, List.map_take, List.map_drop]
    rw [z2]
    exact RpAll.ints.cut _ _
  · rename_i zz e
    split at q3
    · rename_i hz
      refine .inr (.inl ⟨zz, rx.str e, hz, q3 _ _ st (Rp.str _ ?_)⟩)
      exact strOk_of fun d hd => strOk_mem (rx.strk e) (List.mem_of_mem_drop (List.mem_of_mem_take hd))
    · exact q3.elim
  · rename_i l e
    split at q3
    · rename_i hz
      obtain ⟨a, us, ea, ha, ra⟩ := rx.tup e
      refine .inr (.inr ⟨a, us, ea, SqT.of ha, by rw [← ra.1]; exact hz, fun p np => q3 _ _ (st.trans (Same.new np)) ?_⟩)
      have z := ra.cut y z
      exact Rp.tup upd_same (Rel.ex_new (R.mono st) np) z.1 fun i t u a b => (z.2 i t u a b).same (Same.new np)
    · exact q3.elim
  · exact q3.elim
end

/-! ### in, not in: a list of data, a text -/
def T.fv : T → Option V
  | .non => some .non
  | .bl b => some (.bl b)
  | .int i => some (.int i)
  | .str x => some (.str x)
  | _ => none
def inT (x y : T) : Option Bool := match y with
  | .lst l => if T.pd 8 x = true ∧ T.pd 8 y = true then some (l.any fun z => teq z x) else none
  | .scr l => if T.pd 8 x = true then some (l.any fun z => teq (.int z) x) else none
  | .str z => match x with
    | .str c => match c.cps.toList with
      | [k] => some (decide (k ∈ z.cps.toList))
      | _ => none
    | _ => none
  | .tup l => match x.fv, l.mapM T.fv with
    | some v, some vs => some (inV v vs)
    | _, _ => none
  | _ => none
def inR (x y : R) : Res R := match inT x.d y.d with
  | some b => .ok (.sh (.bl b))
  | none => .bad
def ninR (x y : R) : Res R := match inT x.d y.d with
  | some b => .ok (.sh (.bl (!b)))
  | none => .bad
theorem any_toD (l : List T) (x : T) : ((T.toDs l).any fun z => PyData.eqv z x.toD) = l.any fun z => teq z x := by
  rw [T.toDs_map, List.any_map]
  rfl
theorem fv_rp {K : PySem.W.Frag} {H : Hp} {B : Xs} {t : T} {v u : V} (h : Rp K H B t v) (e : t.fv = some u) : v = u ∧ flatV u = true := by
  cases h <;> simp [T.fv] at e <;> subst e <;> exact ⟨rfl, rfl⟩
theorem fv_all {K : PySem.W.Frag} {H : Hp} {B : Xs} : ∀ {ts : List T} {us vs : List V}, RpAll K H B ts us → ts.mapM T.fv = some vs → us = vs ∧ vs.all flatV = true
  | [], [], vs, _, e => by
    simp at e
    subst e
    exact ⟨rfl, rfl⟩
  | t :: ts, u :: us, vs, h, e => by
    rw [List.mapM_cons] at e
    cases e1 : t.fv with
    | none => rw [e1] at e; cases e
    | some w =>
      cases e2 : ts.mapM T.fv with
      | none => rw [e1, e2] at e; cases e
      | some ws =>
        rw [e1, e2] at e
        cases e
        obtain ⟨z1, z2⟩ := fv_rp h.head e1
        obtain ⟨z3, z4⟩ := fv_all h.tail e2
        rw [z1, z3]
        exact ⟨rfl, by rw [List.all_cons, z2, z4]; rfl⟩
  | [], _ :: _, _, h, _ => by have := h.1; simp at this
  | _ :: _, [], _, h, _ => by have := h.1; simp at this
def rInA (X : Cx) : R2 := fun x y H Q => rInD X.K x y H Q ∨ ((∃ (c : Nat) (z : Str), x = .str ⟨#[c]⟩ ∧ y = .str z ∧ Q (.bl (decide (c ∈ z.cps.toList))) H) ∨ rIn X.K false x y H Q)
def rNinA (X : Cx) : R2 := fun x y H Q => rNotInD X.K x y H Q ∨ ((∃ (c : Nat) (z : Str), x = .str ⟨#[c]⟩ ∧ y = .str z ∧ Q (.bl (!decide (c ∈ z.cps.toList))) H) ∨ rIn X.K true x y H Q)
section
variable {X : Cx}
theorem opr_in (hu : X.A.units + 65 < cLine) : OpR X (compareOp .In) (rInA X) := (op_inD hu).or (op_in_sign.or op_in_seq)
theorem opr_nin (hu : X.A.units + 65 < cLine) : OpR X (compareOp .NotIn) (rNinA X) := (op_notInD hu).or (op_notIn_sign.or op_notIn_seq)
theorem one_sign {c : Str} {k : Nat} (e : c.cps.toList = [k]) : c = ⟨#[k]⟩ := by
  obtain ⟨a⟩ := c
  have : a = #[k] := by
    apply Array.ext'
    exact e
  rw [this]
theorem in_core {B H0 O env σ Hs H x y v w} {b : Bool} (R : Rel X.K B H0 O env σ Hs) (s : Same Hs H) (rx : RR X.K B O Hs H x v) (ry : RR X.K B O Hs H y w) (e : inT x.d y.d = some b) :
    (∃ d ds, Dp X.K H v d ∧ Dp X.K H w (.list ds) ∧ SeqAt.shaped d = true ∧ SeqAt.shaped (.list ds) = true ∧ (ds.any fun z => PyData.eqv z d) = b) ∨
    ((∃ (c : Nat) (z : Str), v = .str ⟨#[c]⟩ ∧ w = .str z ∧ decide (c ∈ z.cps.toList) = b) ∨
     (∃ p xs, w = .ref p ∧ (SqL X.K H p xs ∨ SqT X.K H p xs) ∧ flatV v = true ∧ xs.all flatV = true ∧ inV v xs = b)) := by
  unfold inT at e
  split at e
  · rename_i l el
    split at e
    · rename_i c
      cases e
      obtain ⟨d1, c1, e1⟩ := rx.rp0.plain 8 c.1
      obtain ⟨d2, c2, e2⟩ := ry.rp0.plain 8 c.2
      rw [el] at d2 c2 e2
      simp only [T.toD] at d2 c2 e2
      exact .inl ⟨_, _, d1, d2, shaped_of (t := x.d) c1 e1, shaped_of (t := x.d) c2 e2, any_toD l x.d⟩
    · cases e
  · rename_i l el
    split at e
    · rename_i c
      cases e
      obtain ⟨d1, c1, e1⟩ := rx.rp0.plain 8 c
      obtain ⟨d2, c2, e2⟩ := ry.rp0.plain 8 (by rw [el]; rfl)
      rw [el] at d2 c2 e2
      simp only [T.toD] at d2 c2 e2
      refine .inl ⟨_, _, d1, d2, shaped_of (t := x.d) c1 e1, shaped_of (t := x.d) c2 e2, ?_⟩
      rw [List.any_map]
      rfl
    · cases e
  · rename_i z el
    split at e
    · rename_i c ex
      split at e
      · rename_i k ek
        cases e
        refine .inr (.inl ⟨k, z, ?_, ry.str el, rfl⟩)
        rw [rx.str ex, one_sign ek]
      · cases e
    · cases e
  · rename_i l el
    split at e
    · rename_i u vs e1 e2
      cases e
      obtain ⟨a, us, ea, ha, ra⟩ := ry.tup el
      obtain ⟨z1, z2⟩ := fv_rp rx.rp0 e1
      obtain ⟨z3, z4⟩ := fv_all ra e2
      exact .inr (.inr ⟨a, us, ea, .inr (SqT.of ha), by rw [z1]; exact z2, by rw [z3]; exact z4, by rw [z1, z3]⟩)
    · cases e
  · cases e
theorem opi_in : OpI X (rInA X) inR := by
  intro B H0 O env σ Hs H x y v w Q xc R s rx ry p
  unfold inR at p
  split at p
  · rename_i b e
    have p' := p _ H (Same.refl H) (Rp.bl _)
    rcases in_core R s rx ry e with ⟨d, ds, h1, h2, h3, h4, h5⟩ | ⟨c, z, h1, h2, h3⟩ | ⟨q, xs, h1, h2, h3, h4, h5⟩
    · exact .inl ⟨d, ds, h1, h2, h3, h4, by rw [h5]; exact p'⟩
    · exact .inr (.inl ⟨c, z, h1, h2, by rw [h3]; exact p'⟩)
    · refine .inr (.inr ⟨q, xs, h1, h2, h3, h4, ?_⟩)
      show Q (.bl (inV v xs)) H
      rw [h5]; exact p'
  · exact p.elim
theorem opi_nin : OpI X (rNinA X) ninR := by
  intro B H0 O env σ Hs H x y v w Q xc R s rx ry p
  unfold ninR at p
  split at p
  · rename_i b e
    have p' := p _ H (Same.refl H) (Rp.bl _)
    rcases in_core R s rx ry e with ⟨d, ds, h1, h2, h3, h4, h5⟩ | ⟨c, z, h1, h2, h3⟩ | ⟨q, xs, h1, h2, h3, h4, h5⟩
    · exact .inl ⟨d, ds, h1, h2, h3, h4, by rw [h5]; exact p'⟩
    · exact .inr (.inl ⟨c, z, h1, h2, by rw [h3]; exact p'⟩)
    · refine .inr (.inr ⟨q, xs, h1, h2, h3, h4, ?_⟩)
      show Q (.bl (!inV v xs)) H
      rw [h5]; exact p'
  · exact p.elim
end

/-! ### built-in calls -/
def CallI (X : Cx) (r : List V → Hp → VK → Prop) (g : List R → Res R) : Prop := ∀ B H0 O env σ Hs H rs vs (Q : VK) xc, Rel X.K B H0 O env σ Hs → Same Hs H → RRs X.K B O Hs H rs vs →
  Post xc (fun r => ∀ u H', Same H H' → RR X.K B O Hs H' r u → Q u H') (g rs) → r vs H Q
@[simp] def fB (g : List R → Res R) (f : En → Res (List R)) (env : En) : Res R := (f env).bind g
section
variable {X : Cx} {EX : L2.St → XK} {e : Expr} {es : List Expr} {f : En → Res (List R)} {g : List R → Res R} {r : List V → Hp → VK → Prop} {p pos : Pos} {id : String} {x : Str}
theorem ej_callB (hc : CallR X (.builtin id) r) (hg : CallI X r g) (hgl : Gl X x) (hm : X.mg x = none) (hv : bootBuiltins x = some (.builtin id)) (ha : AJ X EX (e :: es) f) (hn : x ≠ "__name__" := by decide) (hdb : (x == ("__debug__" : Str)) = false := by decide)
    (he : starEach (e :: es) X.env = (false, eval e X.env) :: starEach es X.env := by rfl) (hpl : (backTo pos (starEach es X.env)).any (·.1) = false := by rfl) : EJ X EX (.Call (.Name x p) (e :: es) [] pos) (fB g f) := by
  obtain ⟨t, pa, i⟩ := ha.ex
  refine ⟨⟨_, pe_callB hc hgl hm hv pa hn hdb he hpl, fun B H0 O env σ H Q R q => ?_⟩⟩
  refine i B H0 O env σ H _ R (q.bind.mono (fun _ _ x => x) fun rs q vs H1 s r1 => ?_)
  exact hg B H0 O env σ H H1 rs vs Q _ R s r1 (q.mono (fun _ _ x => x) fun z q3 u H' s3 r3 => q3 u H' (s.trans s3) r3)
theorem ej_callTy (hc : CallR X (.type id) r) (hg : CallI X r g) (hgl : Gl X x) (hm : X.mg x = none) (hv : bootBuiltins x = some (.type id)) (ha : AJ X EX (e :: es) f) (hn : x ≠ "__name__" := by decide) (hdb : (x == ("__debug__" : Str)) = false := by decide)
    (he : starEach (e :: es) X.env = (false, eval e X.env) :: starEach es X.env := by rfl) (hpl : (backTo pos (starEach es X.env)).any (·.1) = false := by rfl) : EJ X EX (.Call (.Name x p) (e :: es) [] pos) (fB g f) := by
  obtain ⟨t, pa, i⟩ := ha.ex
  refine ⟨⟨_, pe_callTy hc hgl hm hv pa hn hdb he hpl, fun B H0 O env σ H Q R q => ?_⟩⟩
  refine i B H0 O env σ H _ R (q.bind.mono (fun _ _ x => x) fun rs q vs H1 s r1 => ?_)
  exact hg B H0 O env σ H H1 rs vs Q _ R s r1 (q.mono (fun _ _ x => x) fun z q3 u H' s3 r3 => q3 u H' (s.trans s3) r3)
end
theorem RRs.one {K : PySem.W.Frag} {B : Bs} {O : Ow} {H H1 : Hp} {r : R} {vs : List V} (h : RRs K B O H H1 [r] vs) : ∃ v, vs = [v] ∧ RR K B O H H1 r v := by
  match vs, h with
  | [v], h => exact ⟨v, rfl, h.1⟩
theorem RRs.two {K : PySem.W.Frag} {B : Bs} {O : Ow} {H H1 : Hp} {r r' : R} {vs : List V} (h : RRs K B O H H1 [r, r'] vs) : ∃ v w, vs = [v, w] ∧ RR K B O H H1 r v ∧ RR K B O H H1 r' w := by
  match vs, h with
  | [v, w], h => exact ⟨v, w, rfl, h.1, h.2.1⟩
/-- len -/
def lenR : List R → Res R
  | [x] => match x.d with
    | .lst l => .ok (.sh (.int l.length))
    | .scr l => .ok (.sh (.int l.length))
    | .tup l => .ok (.sh (.int l.length))
    | .str z => if z.length ≤ sizeLine then .ok (.sh (.int z.length)) else .bad
    | _ => .bad
  | _ => .bad
/-- max, min of two -/
def maxR : List R → Res R
  | [x, y] => match x.d, y.d with
    | .int i, .int j => .ok (.sh (.int (max i j)))
    | _, _ => .bad
  | _ => .bad
def minR : List R → Res R
  | [x, y] => match x.d, y.d with
    | .int i, .int j => .ok (.sh (.int (min i j)))
    | _, _ => .bad
  | _ => .bad
def T.asInt : T → Option Int
  | .int i => some i
  | _ => none
/-- a list of ints -/
def T.ints : T → Option (List Int)
  | .lst l => l.mapM T.asInt
  | .scr ns => some ns
  | _ => none
def sumR : List R → Res R
  | [x] => match x.d.ints with
    | some ns => .ok (.sh (.int ns.sum))
    | none => .bad
  | _ => .bad
def lmax : List Int → Option Int
  | [] => none
  | n :: ns => some (ns.foldl max n)
def lmin : List Int → Option Int
  | [] => none
  | n :: ns => some (ns.foldl min n)
def max1R : List R → Res R
  | [x] => match x.d.ints.bind lmax with
    | some n => .ok (.sh (.int n))
    | none => .bad
  | _ => .bad
def min1R : List R → Res R
  | [x] => match x.d.ints.bind lmin with
    | some n => .ok (.sh (.int n))
    | none => .bad
  | _ => .bad
/-- list(x), tuple(x) -/
def listR : List R → Res R
  | [x] => match x.d with
    | .lst l => .ok (.fr (.lst l))
    | .tup l => .ok (.fr (.lst l))
    | .scr ns => .ok (.fr (.lst (ns.map T.int)))
    | _ => .bad
  | _ => .bad
def tupleR : List R → Res R
  | [x] => match x.d with
    | .lst l => .ok (.sh (.tup l))
    | .tup l => .ok (.sh (.tup l))
    | _ => .bad
  | _ => .bad
def intR : List R → Res R
  | [x] => match x.d with
    | .int i => .ok (.sh (.int i))
    | .bl k => .ok (.sh (.int (if k then 1 else 0)))
    | _ => .bad
  | _ => .bad
/-- the text of a number -/
def numS (i : Int) : Str := toString i
def numOk (i : Int) : Prop := i.natAbs < 2 ^ 1900
theorem strOk_str (s : String) : PyData.strOk (s : Str) = true := by
  show PyData.strOk (Str.ofString s) = true
  rw [Str.ofString_eq_toList]
  refine strOk_of fun c hc => ?_
  obtain ⟨d, _, rfl⟩ := List.mem_map.mp hc
  have h := d.valid
  have z : d.val.toNat = d.toNat := rfl
  rcases h with h | h
  · have : d.val.toNat < 0xd800 := h
    omega
  · have : d.val.toNat < 0x110000 := h.2
    omega
instance (i : Int) : Decidable (numOk i) := by unfold numOk; infer_instance
def strR : List R → Res R
  | [x] => match x.d with
    | .int i => if numOk i then .ok (.sh (.str (numS i))) else .bad
    | _ => .bad
  | _ => .bad
section
variable {K : PySem.W.Frag} {B : Bs} {O : Ow} {H0 H H' : Hp} {r : R} {v : V}
theorem asInt_all {X : Xs} : ∀ {ts : List T} {us : List V} {ns : List Int}, RpAll K H X ts us → ts.mapM T.asInt = some ns → us = ns.map V.int
  | [], [], ns, _, e => by
    simp at e
    subst e
    rfl
  | t :: ts, u :: us, ns, h, e => by
    rw [List.mapM_cons] at e
    cases t with
    | int i =>
      cases e2 : ts.mapM T.asInt with
      | none => rw [e2] at e; cases e
      | some ws =>
        rw [e2] at e
        cases e
        rw [rp_int h.head, asInt_all h.tail e2]
        rfl
    | _ => cases e
  | [], _ :: _, _, h, _ => by have := h.1; simp at this
  | _ :: _, [], _, h, _ => by have := h.1; simp at this
theorem RR.ints {ns : List Int} (h : RR K B O H H' r v) (e : r.d.ints = some ns) : ∃ a, v = .ref a ∧ SqL K H' a (ns.map V.int) := by
  cases q : r.d with
  | lst l =>
    rw [q] at e
    obtain ⟨a, us, e1, e2, e3⟩ := h.lst q
    rw [asInt_all e3 e] at e2
    exact ⟨a, e1, SqL.of e2⟩
  | scr l =>
    rw [q] at e
    cases e
    exact h.scr q
  | _ => rw [q] at e; cases e
theorem fold_max (l : List Int) : ∀ n, n ≤ l.foldl max n ∧ (∀ y ∈ l, y ≤ l.foldl max n) ∧ (l.foldl max n = n ∨ l.foldl max n ∈ l) := by
  induction l with
  | nil => intro n; simp
  | cons a l ih =>
    intro n
    obtain ⟨h1, h2, h3⟩ := ih (max n a)
    simp only [List.foldl_cons, List.mem_cons]
    refine ⟨by omega, ?_, ?_⟩
    · rintro y (rfl | hy)
      · omega
      · exact h2 y hy
    · rcases h3 with h3 | h3
      · rw [h3]; omega
      · exact .inr (.inr h3)
theorem fold_min (l : List Int) : ∀ n, l.foldl min n ≤ n ∧ (∀ y ∈ l, l.foldl min n ≤ y) ∧ (l.foldl min n = n ∨ l.foldl min n ∈ l) := by
  induction l with
  | nil => intro n; simp
  | cons a l ih =>
    intro n
    obtain ⟨h1, h2, h3⟩ := ih (min n a)
    simp only [List.foldl_cons, List.mem_cons]
    refine ⟨by omega, ?_, ?_⟩
    · rintro y (rfl | hy)
      · omega
      · exact h2 y hy
    · rcases h3 with h3 | h3
      · rw [h3]; omega
      · exact .inr (.inr h3)
theorem lmax_is {ns : List Int} {m k : Int} (h : lmax ns = some k) (h1 : m ∈ ns) (h2 : ∀ y ∈ ns, y ≤ m) : m = k := by
  match ns, h with
  | n :: l, h =>
    cases h
    obtain ⟨a, b, c⟩ := fold_max l n
    have c' : l.foldl max n ∈ n :: l := c.elim (fun z => by rw [z]; exact List.mem_cons_self) fun z => List.mem_cons_of_mem _ z
    have := h2 _ c'
    rcases List.mem_cons.mp h1 with rfl | h1
    · omega
    · have := b m h1; omega
theorem lmin_is {ns : List Int} {m k : Int} (h : lmin ns = some k) (h1 : m ∈ ns) (h2 : ∀ y ∈ ns, m ≤ y) : m = k := by
  match ns, h with
  | n :: l, h =>
    cases h
    obtain ⟨a, b, c⟩ := fold_min l n
    have c' : l.foldl min n ∈ n :: l := c.elim (fun z => by rw [z]; exact List.mem_cons_self) fun z => List.mem_cons_of_mem _ z
    have := h2 _ c'
    rcases List.mem_cons.mp h1 with rfl | h1
    · omega
    · have := b m h1; omega
end
section
variable {X : Cx}
theorem calli_len : CallI X (fun xs H Q => (∃ p ys, xs = [.ref p] ∧ (SqL X.K H p ys ∨ SqT X.K H p ys) ∧ Q (.int ys.length) H) ∨ (∃ z, xs = [.str z] ∧ z.length ≤ sizeLine ∧ Q (.int z.length) H)) lenR := by
  intro B H0 O env σ Hs H rs vs Q xc R s rx p
  unfold lenR at p
  split at p
  · rename_i x
    obtain ⟨v, rfl, r1⟩ := rx.one
    split at p
    · rename_i l e
      obtain ⟨a, us, ea, ha, ra⟩ := r1.lst e
      rw [ea]
      refine .inl ⟨a, us, rfl, .inl (SqL.of ha), ?_⟩
      rw [← ra.1]
      exact p _ H (Same.refl H) (Rp.int _)
    · rename_i l e
      obtain ⟨a, ea, ha⟩ := r1.scr e
      rw [ea]
      refine .inl ⟨a, _, rfl, .inl ha, ?_⟩
      rw [List.length_map]
      exact p _ H (Same.refl H) (Rp.int _)
    · rename_i l e
      obtain ⟨a, us, ea, ha, ra⟩ := r1.tup e
      rw [ea]
      refine .inl ⟨a, us, rfl, .inr (SqT.of ha), ?_⟩
      rw [← ra.1]
      exact p _ H (Same.refl H) (Rp.int _)
    · rename_i z e
      split at p
      · rename_i hz
        rw [r1.str e]
        exact .inr ⟨z, rfl, hz, p _ H (Same.refl H) (Rp.int _)⟩
      · exact p.elim
    · exact p.elim
  · exact p.elim
theorem callr_len : CallR X (.builtin "len") (fun xs H Q => (∃ p ys, xs = [.ref p] ∧ (SqL X.K H p ys ∨ SqT X.K H p ys) ∧ Q (.int ys.length) H) ∨ (∃ z, xs = [.str z] ∧ z.length ≤ sizeLine ∧ Q (.int z.length) H)) := call_len_seq.or call_len_str
theorem calli_max : CallI X (fun xs H Q => ∃ i j, xs = [.int i, .int j] ∧ Q (.int (if j > i then j else i)) H) maxR := by
  intro B H0 O env σ Hs H rs vs Q xc R s rx p
  unfold maxR at p
  split at p
  · obtain ⟨v, w, rfl, r1, r2⟩ := rx.two
    split at p
    · rename_i i j e1 e2
      rw [r1.int e1, r2.int e2]
      refine ⟨i, j, rfl, ?_⟩
      have e : (if j > i then j else i) = max i j := by split <;> omega
      rw [e]
      exact p _ H (Same.refl H) (Rp.int _)
    · exact p.elim
  · exact p.elim
theorem calli_min : CallI X (fun xs H Q => ∃ i j, xs = [.int i, .int j] ∧ Q (.int (if j < i then j else i)) H) minR := by
  intro B H0 O env σ Hs H rs vs Q xc R s rx p
  unfold minR at p
  split at p
  · obtain ⟨v, w, rfl, r1, r2⟩ := rx.two
    split at p
    · rename_i i j e1 e2
      rw [r1.int e1, r2.int e2]
      refine ⟨i, j, rfl, ?_⟩
      have e : (if j < i then j else i) = min i j := by split <;> omega
      rw [e]
      exact p _ H (Same.refl H) (Rp.int _)
    · exact p.elim
  · exact p.elim
theorem calli_sum : CallI X (rSum X.K) sumR := by
  intro B H0 O env σ Hs H rs vs Q xc R s rx p
  unfold sumR at p
  split at p
  · obtain ⟨v, rfl, r1⟩ := rx.one
    split at p
    · rename_i ns e
      obtain ⟨a, ea, ha⟩ := r1.ints e
      rw [ea]
      exact ⟨a, ns, rfl, ha, p _ H (Same.refl H) (Rp.int _)⟩
    · exact p.elim
  · exact p.elim
theorem calli_max1 : CallI X (rMax X.K) max1R := by
  intro B H0 O env σ Hs H rs vs Q xc R s rx p
  unfold max1R at p
  split at p
  · rename_i x
    obtain ⟨v, rfl, r1⟩ := rx.one
    split at p
    · rename_i n e
      cases e1 : x.d.ints with
      | none => rw [e1] at e; cases e
      | some ns =>
        rw [e1] at e
        have e' : lmax ns = some n := e
        obtain ⟨a, ea, ha⟩ := r1.ints e1
        rw [ea]
        refine ⟨a, ns, rfl, ha, ?_, fun m h1 h2 => ?_⟩
        · cases ns with
          | nil => cases e'
          | cons _ _ => simp
        · rw [lmax_is e' h1 h2]
          exact p _ H (Same.refl H) (Rp.int _)
    · exact p.elim
  · exact p.elim
theorem calli_min1 : CallI X (rMin X.K) min1R := by
  intro B H0 O env σ Hs H rs vs Q xc R s rx p
  unfold min1R at p
  split at p
  · rename_i x
    obtain ⟨v, rfl, r1⟩ := rx.one
    split at p
    · rename_i n e
      cases e1 : x.d.ints with
      | none => rw [e1] at e; cases e
      | some ns =>
        rw [e1] at e
        have e' : lmin ns = some n := e
        obtain ⟨a, ea, ha⟩ := r1.ints e1
        rw [ea]
        refine ⟨a, ns, rfl, ha, ?_, fun m h1 h2 => ?_⟩
        · cases ns with
          | nil => cases e'
          | cons _ _ => simp
        · rw [lmin_is e' h1 h2]
          exact p _ H (Same.refl H) (Rp.int _)
    · exact p.elim
  · exact p.elim
theorem calli_list : CallI X (fun xs H Q => ∃ p ys, xs = [.ref p] ∧ (SqL X.K H p ys ∨ SqT X.K H p ys) ∧ ∀ l, H l = none → Q (.ref l) (upd H l (.lst ys))) listR := by
  intro B H0 O env σ Hs H rs vs Q xc R s rx p
  unfold listR at p
  split at p
  · obtain ⟨v, rfl, r1⟩ := rx.one
    split at p
    · rename_i l e
      obtain ⟨a, us, ea, ha, ra⟩ := r1.lst e
      rw [ea]
      exact ⟨a, us, rfl, .inl (SqL.of ha), fun q nq => p _ _ (Same.new nq) (RR.newL R s ra nq)⟩
    · rename_i l e
      obtain ⟨a, us, ea, ha, ra⟩ := r1.tup e
      rw [ea]
      exact ⟨a, us, rfl, .inr (SqT.of ha), fun q nq => p _ _ (Same.new nq) (RR.newL R s ra nq)⟩
    · rename_i l e
      obtain ⟨a, ea, ha⟩ := r1.scr e
      rw [ea]
      exact ⟨a, _, rfl, .inl ha, fun q nq => p _ _ (Same.new nq) (RR.newL R s .ints nq)⟩
    · exact p.elim
  · exact p.elim
theorem calli_tuple : CallI X (fun xs H Q => ∃ p ys, xs = [.ref p] ∧ ((SqL X.K H p ys ∧ ∀ l, H l = none → Q (.ref l) (upd H l (.tup ys))) ∨ (SqT X.K H p ys ∧ Q (.ref p) H))) tupleR := by
  intro B H0 O env σ Hs H rs vs Q xc R s rx p
  unfold tupleR at p
  split at p
  · rename_i x
    obtain ⟨v, rfl, r1⟩ := rx.one
    split at p
    · rename_i l e
      obtain ⟨a, us, ea, ha, ra⟩ := r1.lst e
      rw [ea]
      exact ⟨a, us, rfl, .inl ⟨SqL.of ha, fun q nq => p _ _ (Same.new nq) (Rp.tup upd_same (Rel.ex_new (R.mono s) nq) ra.1 fun i t u a b => (ra.2 i t u a b).same (Same.new nq))⟩⟩
    · rename_i l e
      obtain ⟨a, us, ea, ha, ra⟩ := r1.tup e
      rw [ea]
      have rp : Rp X.K H (Ex B O) (.tup l) (.ref a) := by
        cases x with
        | sh d => cases e; rw [← ea]; exact r1
        | fr d => cases e; obtain ⟨_, _, _, _, _, h⟩ := r1; cases h
        | bo i d => cases e; obtain ⟨_, _, _, _, _, h⟩ := r1; cases h
        | vw d => cases e; obtain ⟨_, _, _, _, _, h⟩ := r1; cases h
      exact ⟨a, us, rfl, .inr ⟨SqT.of ha, p _ H (Same.refl H) rp⟩⟩
    · exact p.elim
  · exact p.elim
theorem calli_int : CallI X (fun xs H Q => (∃ i, xs = [.int i] ∧ Q (.int i) H) ∨ ∃ k, xs = [.bl k] ∧ Q (.int (if k then 1 else 0)) H) intR := by
  intro B H0 O env σ Hs H rs vs Q xc R s rx p
  unfold intR at p
  split at p
  · obtain ⟨v, rfl, r1⟩ := rx.one
    split at p
    · rename_i i e
      rw [r1.int e]
      exact .inl ⟨i, rfl, p _ H (Same.refl H) (Rp.int _)⟩
    · rename_i i e
      rw [r1.bl e]
      exact .inr ⟨i, rfl, p _ H (Same.refl H) (Rp.int _)⟩
    · exact p.elim
  · exact p.elim
theorem calli_str : CallI X (fun xs H Q => ∃ i, xs = [.int i] ∧ i.natAbs.log2 < 1920 ∧ Q (.str (toString i)) H) strR := by
  intro B H0 O env σ Hs H rs vs Q xc R s rx p
  unfold strR at p
  split at p
  · obtain ⟨v, rfl, r1⟩ := rx.one
    split at p
    · rename_i i e
      split at p
      · rename_i c
        rw [r1.int e]
        refine ⟨i, rfl, ?_, p _ H (Same.refl H) (Rp.str _ (strOk_str _))⟩
        by_cases z : i.natAbs = 0
        · rw [z]; decide
        · rw [Nat.log2_lt z]
          exact Nat.lt_of_lt_of_le c (Nat.pow_le_pow_right (by decide) (by decide))
      · exact p.elim
    · exact p.elim
  · exact p.elim
end

/-! ### isinstance of built-in classes -/
def T.tyn : T → Option String
  | .non => some "NoneType"
  | .bl _ => some "bool"
  | .int _ => some "int"
  | .str _ => some "str"
  | .tup _ => some "tuple"
  | .lst _ => some "list"
  | .dik _ => some "dict"
  | .dit _ => some "dict"
  | _ => none
def isaB (a c : String) : Bool := a == c || (a == "bool" && c == "int")
def fIsa (c : String) (f : En → Res R) (env : En) : Res R := (f env).bind fun x => match x.d.tyn with
  | some n => .ok (.sh (.bl (isaB n c)))
  | none => .bad
def isaOk (c : String) : Bool := ["NoneType", "bool", "int", "str", "tuple", "list", "dict"].all fun n => kitB n c == some (isaB n c)
theorem tyn_ty {K : PySem.W.Frag} {H : Hp} {B : Xs} {t : T} {v : V} {n : String} (h : Rp K H B t v) (e : t.tyn = some n) : TyX K H v (.type n) ∧ n ∈ ["NoneType", "bool", "int", "str", "tuple", "list", "dict"] := by
  cases h with
  | non => cases e; exact ⟨.base .non, by simp⟩
  | bl b => cases e; exact ⟨.base (.bl b), by simp⟩
  | int b => cases e; exact ⟨.base (.int b), by simp⟩
  | str b => cases e; exact ⟨.base (.str b), by simp⟩
  | tup h1 => cases e; exact ⟨.base (.tup h1), by simp⟩
  | lst h1 => cases e; exact ⟨.base (.lst h1), by simp⟩
  | scr => cases e
  | dik h1 => cases e; exact ⟨.base (.dK h1), by simp⟩
  | dit h1 => cases e; exact ⟨.base (.dT h1), by simp⟩
  | obj => cases e
  | fn => cases e
  | ptr => cases e
  | ex0 => cases e
  | ex1 => cases e
section
variable {X : Cx} {EX : L2.St → XK} {e : Expr} {f : En → Res R} {p p2 pos : Pos} {c : String} {x : Str}
theorem ej_isa (hgl : Gl X "isinstance") (hm : X.mg "isinstance" = none) (hv : bootBuiltins "isinstance" = some (.builtin "isinstance")) (hg2 : Gl X x) (hm2 : X.mg x = none) (hv2 : bootBuiltins x = some (.type c)) (hk : isaOk c = true) (ha : EJ X EX e f)
    (hn : x ≠ "__name__" := by decide) (hdb : (x == ("__debug__" : Str)) = false := by decide)
    (he : starEach [e, .Name x p2] X.env = (false, eval e X.env) :: starEach [.Name x p2] X.env := by rfl) (he2 : starEach [.Name x p2] X.env = (false, eval (.Name x p2) X.env) :: starEach [] X.env := by rfl)
    (hpl : (backTo pos (starEach [.Name x p2] X.env)).any (·.1) = false := by rfl) :
    EJ X EX (.Call (.Name "isinstance" p) [e, .Name x p2] [] pos) (fIsa c f) := by
  obtain ⟨t, pe, i⟩ := ha.ex
  have pb : PE X (.Name x p2) (tC (.ty c)) := pe_bltn hg2 hm2 hv2 rfl hn hdb
  refine ⟨⟨_, pe_callB call_isi hgl hm hv (pa_cons pe (pa_cons pb pa_nil he2) he) (by decide) (by decide) he hpl, fun B H0 O env σ H Q R q => ?_⟩⟩
  refine i B H0 O env σ H _ R (q.bind.mono (fun _ _ x => x) fun x q v H1 s r1 => ?_)
  split at q
  · rename_i n e
    obtain ⟨h1, h2⟩ := tyn_ty r1.rp0 e
    have z := List.all_eq_true.mp hk n h2
    exact ⟨v, .ty c, .type n, .type c, isaB n c, rfl, .ty c, h1, kit_ty (by simpa using z), q _ H1 s (Rp.bl _)⟩
  · exact q.elim
end
end Tr
namespace Tr
open PySem L2

inductive Out where
  | nx (e : En) | rt (r : R) | bk (e : En) | ct (e : En) | exc (e : En) (c : Addr) (p : Option T) | bad
  /-- handed back by a method that changes its object -/
  | rm (r : R) (e : En)
def R.isVw : R → Bool
  | .vw _ => true
  | _ => false
def SPost (X : Cx) (EX : L2.St → XK) (B : Bs) (H0 : Hp) (O : Ow) (H : Hp) (D : Ends) : Out → Prop
  | .nx env' => ∀ O' σ' H', Rel X.K B H0 O' env' σ' H' → Keep (Ex B O) H (Ex B O') H' → D.nx σ' H'
  | .rt r => (B.act = false ∨ r.d.np = true) ∧ r.isVw = false ∧ ∀ v H', Same H0 H' → RX X.K B.x H0 H' r v → D.rt v H'
  | .bk env' => ∀ O' σ' H', Rel X.K B H0 O' env' σ' H' → Keep (Ex B O) H (Ex B O') H' → D.bk σ' H'
  | .ct env' => ∀ O' σ' H', Rel X.K B H0 O' env' σ' H' → Keep (Ex B O) H (Ex B O') H' → D.ct σ' H'
  | .exc env' c p => ∀ O' σ' H' d a, clsA X.K c = some a → Rel X.K B H0 O' env' σ' H' → Keep (Ex B O) H (Ex B O') H' → XRel X.K (Ex B O') H' p d → EX σ' (.ref a) d H'
  | .rm (.sh d) env' => ∀ O' σ' H' v, Rel X.K B H0 O' env' σ' H' → Keep (Ex B O) H (Ex B O') H' → Rp X.K H' (Ex B O') d v → D.rt v H'
  | .rm (.fr d) env' => ∀ O' σ' H' p ho, H0 p = none → Rel X.K (B.add p) (upd H0 p ho) O' env' σ' H' → Keep (Ex B O) H (Ex (B.add p) O') H' → OwnRp X.K H' (Ex (B.add p) O') d ho → D.rt (.ref p) H'
  | .rm _ _ => False
  | .bad => False

/-- a statement, a block -/
structure SJ (X : Cx) (EX : L2.St → XK) (st : Stmt) (f : En → Out) : Prop where
  ex : ∃ t : TS, PS X st t ∧ ∀ B H0 O env σ H (D : Ends), Rel X.K B H0 O env σ H → SPost X EX B H0 O H D (f env) → t D σ H
structure SsJ (X : Cx) (EX : L2.St → XK) (st : List Stmt) (f : En → Out) : Prop where
  ex : ∃ t : TS, PSs X st t ∧ ∀ B H0 O env σ H (D : Ends), Rel X.K B H0 O env σ H → SPost X EX B H0 O H D (f env) → t D σ H

def Res.out {A : Type} (r : Res A) (k : A → En → Out) (env : En) : Out := match r with
  | .ok a => k a env
  | .exc c p => .exc env c p
  | .bad => .bad
def Out.seq (o : Out) (g : En → Out) : Out := match o with
  | .nx e => g e
  | o => o
/-- behind a turn -/
def Out.loop (o : Out) (k : En → Out) : Out := match o with
  | .nx e => k e
  | .ct e => k e
  | .bk e => .nx e
  | .rt r => .rt r
  | .exc e c p => .exc e c p
  | .bad => .bad
  | .rm r e => .rm r e
/-- at the end of a def -/
def Out.res (o : Out) : Res R := match o with
  | .nx _ => .ok (.sh .non)
  | .rt (.vw _) => .bad
  | .rt r => .ok r
  | .exc _ c p => .exc c p
  | _ => .bad
def Out.onE (g : En → En) (o : Out) : Out := match o with
  | .nx e => .nx (g e)
  | .bk e => .bk (g e)
  | .ct e => .ct (g e)
  | .exc e c p => .exc (g e) c p
  | o => o
section
variable {A : Type} (k : A → En → Out) (a : A) (e env : En) (c : Addr) (p : Option T) (g : En → Out) (r : R) (h : En → En)
@[simp] theorem out_ok : (Res.ok a).out k env = k a env := rfl
@[simp] theorem out_exc : (Res.exc c p : Res A).out k env = .exc env c p := rfl
@[simp] theorem out_bad : (Res.bad : Res A).out k env = .bad := rfl
@[simp] theorem seq_nx : (Out.nx e).seq g = g e := rfl
@[simp] theorem seq_rt : (Out.rt r).seq g = .rt r := rfl
@[simp] theorem seq_bk : (Out.bk e).seq g = .bk e := rfl
@[simp] theorem seq_ct : (Out.ct e).seq g = .ct e := rfl
@[simp] theorem seq_exc : (Out.exc e c p).seq g = .exc e c p := rfl
@[simp] theorem seq_bad : Out.bad.seq g = .bad := rfl
@[simp] theorem loop_nx : (Out.nx e).loop g = g e := rfl
@[simp] theorem loop_rt : (Out.rt r).loop g = .rt r := rfl
@[simp] theorem loop_bk : (Out.bk e).loop g = .nx e := rfl
@[simp] theorem loop_ct : (Out.ct e).loop g = g e := rfl
@[simp] theorem loop_exc : (Out.exc e c p).loop g = .exc e c p := rfl
@[simp] theorem seq_rm : (Out.rm r e).seq g = .rm r e := rfl
@[simp] theorem loop_rm : (Out.rm r e).loop g = .rm r e := rfl
@[simp] theorem onE_rm : (Out.rm r e).onE h = .rm r e := rfl
@[simp] theorem loop_bad : Out.bad.loop g = .bad := rfl
@[simp] theorem res_nx : (Out.nx e).res = .ok (.sh .non) := rfl
@[simp] theorem res_rt (d : T) : (Out.rt (.sh d)).res = .ok (.sh d) := rfl
@[simp] theorem res_rtF (d : T) : (Out.rt (.fr d)).res = .ok (.fr d) := rfl
@[simp] theorem res_rtB (i : Nat) (d : T) : (Out.rt (.bo i d)).res = .ok (.bo i d) := rfl
@[simp] theorem res_exc : (Out.exc e c p).res = .exc c p := rfl
@[simp] theorem res_bad : Out.bad.res = .bad := rfl
@[simp] theorem onE_nx : (Out.nx e).onE h = .nx (h e) := rfl
@[simp] theorem onE_rt : (Out.rt r).onE h = .rt r := rfl
@[simp] theorem onE_bk : (Out.bk e).onE h = .bk (h e) := rfl
@[simp] theorem onE_ct : (Out.ct e).onE h = .ct (h e) := rfl
@[simp] theorem onE_exc : (Out.exc e c p).onE h = .exc (h e) c p := rfl
@[simp] theorem onE_bad : Out.bad.onE h = .bad := rfl
end
section
variable {A C : Type} {q : Prop} [Decidable q]
theorem out_ite (x y : Res A) (k : A → En → Out) (env : En) : (if q then x else y).out k env = if q then x.out k env else y.out k env := by split <;> rfl
theorem bind_ite (x y : Res A) (k : A → Res C) : (if q then x else y).bind k = if q then x.bind k else y.bind k := by split <;> rfl
theorem seq_ite (x y : Out) (k : En → Out) : (if q then x else y).seq k = if q then x.seq k else y.seq k := by split <;> rfl
theorem loop_ite (x y : Out) (k : En → Out) : (if q then x else y).loop k = if q then x.loop k else y.loop k := by split <;> rfl
theorem res_ite (x y : Out) : (if q then x else y).res = if q then x.res else y.res := by split <;> rfl
theorem onE_ite (x y : Out) (k : En → En) : (if q then x else y).onE k = if q then x.onE k else y.onE k := by split <;> rfl
end
def sOf {A : Type} (f : En → Res A) (k : A → En → Out) (env : En) : Out := (f env).out k env
section
variable {X : Cx} {EX : L2.St → XK} {B : Bs} {H0 H H1 : Hp} {O O1 : Ow} {D D' : Ends} {env : En} {σ : L2.St} {o : Out}
theorem SPost.up (h : SPost X EX B H0 O H D o) (k : Keep (Ex B O) H (Ex B O1) H1) : SPost X EX B H0 O1 H1 D o := by
  cases o with
  | nx e => exact fun O' σ' H' r q => h O' σ' H' r (k.trans q)
  | rt r => exact h
  | bk e => exact fun O' σ' H' r q => h O' σ' H' r (k.trans q)
  | ct e => exact fun O' σ' H' r q => h O' σ' H' r (k.trans q)
  | exc e c p => exact fun O' σ' H' d a ea r q x => h O' σ' H' d a ea r (k.trans q) x
  | rm r e =>
    cases r with
    | sh d => exact fun O' σ' H' v q1 q2 x => h O' σ' H' v q1 (k.trans q2) x
    | fr d => exact fun O' σ' H' p ho q0 q1 q2 x => h O' σ' H' p ho q0 q1 (k.trans q2) x
    | bo i d => exact h
    | vw d => exact h
  | bad => exact h
theorem SPost.rmD {r : R} {e : En} (h : SPost X EX B H0 O H D (.rm r e)) (q : D'.rt = D.rt) : SPost X EX B H0 O H D' (.rm r e) := by
  cases r with
  | sh d => exact fun O' σ' H' v q1 q2 x => q ▸ h O' σ' H' v q1 q2 x
  | fr d => exact fun O' σ' H' p ho q0 q1 q2 x => q ▸ h O' σ' H' p ho q0 q1 q2 x
  | bo i d => exact h
  | vw d => exact h
theorem sOf_post {A : Type} {f : En → Res A} {k : A → En → Out} (R : Rel X.K B H0 O env σ H) (h : SPost X EX B H0 O H D (sOf f k env)) :
    Post (XC X.K B O EX σ H) (fun a => SPost X EX B H0 O H D (k a env)) (f env) := by
  unfold sOf at h
  cases e : f env with
  | ok a => rw [e] at h; exact h
  | exc c p => rw [e] at h; exact fun H' d a ea s x => h O σ H' d a ea (R.mono s) (Same.keepB s) x
  | bad => rw [e] at h; exact h.elim
end

/-! ### the slots -/
def R.sl : R → Sl
  | .sh d => .fz d
  | .fr d => .ow d
  | _ => .no
section
variable {K : PySem.W.Frag} {B : Bs} {H0 H H1 : Hp} {O : Ow} {env : En} {σ : L2.St} {r : R} {v : V} {i : Nat}
theorem getElem?_set' {A : Type} {l : List A} {i j : Nat} {x y : A} (h : (l.set i x)[j]? = some y) : (i = j ∧ i < l.length ∧ y = x) ∨ (i ≠ j ∧ l[j]? = some y) := by
  rw [List.getElem?_set] at h
  by_cases e : i = j
  · rw [if_pos e] at h
    by_cases q : i < l.length
    · rw [if_pos q] at h
      exact .inl ⟨e, q, (Option.some.inj h).symm⟩
    · rw [if_neg q] at h
      cases h
  · rw [if_neg e] at h
    exact .inr ⟨e, h⟩
theorem cs_set {B : Bs} {O : Ow} {i : Nat} {x : Option Addr} (hi : i < B.n) (k : Nat) : csOf B (O.set i x) k = csOf B O k := by
  unfold csOf
  rw [List.getElem?_set, if_neg (by omega)]
theorem set_cell {B : Bs} {O : Ow} {i : Nat} {x : Option Addr} (hi : i < B.n) (k : Nat) : (O.set i x)[B.n + k]? = O[B.n + k]? := by
  rw [List.getElem?_set, if_neg (by omega)]
def Sl.isSt : Sl → Bool
  | .st _ => true
  | _ => false
theorem one_set {env : En} (h : ∀ (i j : Nat) (S S' : List T), env[i]? = some (.st S) → env[j]? = some (.st S') → i = j) {m : Nat} {s : Sl} (hs : s.isSt = true → ∃ S, env[m]? = some (.st S)) :
    ∀ (i j : Nat) (S S' : List T), (env.set m s)[i]? = some (.st S) → (env.set m s)[j]? = some (.st S') → i = j := by
  have old : ∀ (i : Nat) (S : List T), (env.set m s)[i]? = some (.st S) → ∃ S', env[i]? = some (.st S') := fun i S z => by
    rcases getElem?_set' z with ⟨e1, _, e2⟩ | ⟨_, e2⟩
    · subst e1
      exact hs (by rw [← e2]; rfl)
    · exact ⟨S, e2⟩
  intro i j S S' a b
  obtain ⟨_, a'⟩ := old i S a
  obtain ⟨_, b'⟩ := old j S' b
  exact h i j _ _ a' b'
/-- the slots' owners change at i alone -/
theorem Rel.setO (R0 : Rel K B H0 O env σ H) {i : Nat} (hi : i < env.length) {ow : Option Addr} {s : Sl} {w : Option V} {H1 : Hp} (σ' : L2.St) (hσ' : σ' = σ.set i w ∨ σ' = σ) (sm : Same H0 H1)
    (kp : Keep (Ex B O) H (Ex B (O.set i ow)) H1) (th : ∀ a, B a → ∃ o, H1 a = some o ∧ nTup o)
    (oth : ∀ m a o, m ≠ i → O[m]? = some (some a) → H a = some o → H1 a = some o)
    (new : ∀ a, ow = some a → H0 a = none ∧ ¬ B a ∧ (∃ ho, H1 a = some ho ∧ nTup ho) ∧ ∀ m, m ≠ i → O[m]? ≠ some (some a))
    (hs : s.isSt = true → ∃ S, env[i]? = some (.st S)) (sl : SlOk K B (O.set i ow) σ' H1 i s) : Rel K B H0 (O.set i ow) (env.set i s) σ' H1 := by
  have hn : i < B.n := R0.lenN ▸ hi
  have hO : i < O.length := R0.lenE hi
  refine ⟨?_, by rw [List.length_set]; exact R0.lenN, by rw [List.length_set]; exact R0.lenO, fun h => by rw [List.length_set]; exact R0.cells h, sm, R0.lent, th, fun j a z => ?_, fun j l a z z' => ?_, fun j sl' z => ?_, one_set R0.one hs⟩
  · rcases hσ' with e | e <;> rw [e] <;> simp [R0.len]
  · rcases getElem?_set' z with ⟨_, _, e⟩ | ⟨n, e⟩
    · obtain ⟨h1, h2, h3, _⟩ := new a e.symm
      exact ⟨h1, h2, h3⟩
    · obtain ⟨h0, nb, ho, h1, nt⟩ := R0.own j a e
      exact ⟨h0, nb, ho, oth j a ho (fun q => n q.symm) e h1, nt⟩
  · rcases getElem?_set' z with ⟨e1, _, e2⟩ | ⟨n1, e2⟩
    · rcases getElem?_set' z' with ⟨e3, _, e4⟩ | ⟨n3, e4⟩
      · rw [← e1, ← e3]
      · exact ((new a e2.symm).2.2.2 l (fun q => n3 q.symm) e4).elim
    · rcases getElem?_set' z' with ⟨e3, _, e4⟩ | ⟨n3, e4⟩
      · exact ((new a e4.symm).2.2.2 j (fun q => n1 q.symm) e2).elim
      · exact R0.uniq j l a e2 e4
  · rcases getElem?_set' z with ⟨e1, _, e2⟩ | ⟨n1, e2⟩
    · subst e1
      subst e2
      exact sl
    · have hj : j < env.length := (List.getElem?_eq_some_iff.mp e2).1
      refine (R0.slot j sl' e2).up kp (by rw [List.getElem?_set, if_neg n1]) ?_ (List.length_set ..) (fun k => set_cell hn k) fun m a o hm e3 e4 => oth m a o ?_ e3 e4
      · rcases hσ' with e | e <;> rw [e]
        rw [List.getElem?_set, if_neg n1]
      · rcases hm with e | ⟨_, e⟩
        · rw [e]; exact fun q => n1 q.symm
        · omega
/-- a value goes into a slot -/
theorem Rel.store (R0 : Rel K B H0 O env σ H) (s : Same H H1) (h : RR K B O H H1 r v) (k : r.kp = true) (i : Nat) :
    ∃ O', Rel K B H0 O' (env.set i r.sl) (σ.set i (some v)) H1 ∧ Keep (Ex B O) H (Ex B O') H1 ∧ ∀ j, j ≠ i → O'[j]? = O[j]? := by
  by_cases hi : i < env.length
  · -- the slot's owner from now on
    obtain ⟨ow, how⟩ : ∃ ow : Option Addr, match r with
        | .sh _ => ow = none
        | .fr d => ∃ p ho, ow = some p ∧ v = .ref p ∧ H p = none ∧ H1 p = some ho ∧ OwnRp K H1 ((Ex B O).add p) d ho
        | _ => False := by
      cases r with
      | sh d => exact ⟨none, rfl⟩
      | fr d =>
        obtain ⟨p, ho, e, n, h1, h2⟩ := h
        exact ⟨some p, p, ho, rfl, e, n, h1, h2⟩
      | bo i d => cases k
      | vw d => cases k
    have hn : i < B.n := R0.lenN ▸ hi
    have hO : i < O.length := R0.lenE hi
    have hσ : i < σ.length := by rw [R0.len]; exact hi
    have exs : ∀ a, Ex B (O.set i ow) a → Ex B O a ∨ ow = some a := fun a z => by
      rcases z with z | ⟨j, z⟩
      · exact .inl (.inl z)
      · rcases getElem?_set' z with ⟨_, _, e⟩ | ⟨_, e⟩
        · exact .inr e.symm
        · exact .inl (.inr ⟨j, e⟩)
    have csE : ∀ k a, (Ex B O).cs k = some a → (Ex B (O.set i ow)).cs k = some a := fun k a e => (cs_set hn k).trans e
    have fresh : ∀ a, ow = some a → H a = none := fun a q => by
      cases r with
      | sh d => rw [how] at q; cases q
      | fr d =>
        obtain ⟨p, ho, e1, e2, e3, _⟩ := how
        rw [e1] at q
        cases q
        exact e3
      | bo i d => cases k
      | vw d => cases k
    have kp : Keep (Ex B O) H (Ex B (O.set i ow)) H1 := ⟨fun a o e n => ⟨s a o e, fun z => (exs a z).elim n fun q => by rw [fresh a q] at e; cases e⟩, csE⟩
    refine ⟨O.set i ow, R0.setO hi _ (.inl rfl) (R0.same.trans s) kp (fun a z => ?_) (fun m a o _ _ e => s a o e) (fun a e => ?_) (fun z => ?_) ?_, kp, fun j nj => by rw [List.getElem?_set, if_neg fun q => nj q.symm]⟩
    · obtain ⟨o, e, nt⟩ := R0.there a z
      exact ⟨o, s a o e, nt⟩
    · have hf := fresh a e
      refine ⟨R0.same.free hf, fun z => R0.ex_new hf (.inl z), ?_, fun m _ z => R0.ex_new hf (.inr ⟨m, z⟩)⟩
      cases r with
      | sh d => rw [how] at e; cases e
      | fr d =>
        obtain ⟨p, ho, e1, e2, e3, e4, e5⟩ := how
        rw [e1] at e
        cases e
        exact ⟨ho, e4, e5.ntup⟩
      | bo i d => cases k
      | vw d => cases k
    · cases r <;> cases z
    · have e5 : (O.set i ow)[i]? = some ow := by rw [List.getElem?_set, if_pos rfl, if_pos hO]
      have e6 : (σ.set i (some v))[i]? = some (some v) := by rw [List.getElem?_set, if_pos rfl, if_pos hσ]
      cases r with
      | sh d =>
        have how' : ow = none := how
        subst how'
        exact ⟨e5, v, e6, Rp.anti h (fun a z => (exs a z).elim id fun q => by cases q) csE⟩
      | fr d =>
        obtain ⟨p, ho, e1, e2, e3, e4, e7⟩ := how
        subst e1
        subst e2
        exact ⟨p, ho, e5, e6, e4, e7.anti (fun a z => (exs a z).imp id fun q => (Option.some.inj q).symm) csE⟩
      | bo i d => cases k
      | vw d => cases k
  · have hσ : ¬ i < σ.length := by rw [R0.len]; exact hi
    rw [List.set_eq_of_length_le (by omega), List.set_eq_of_length_le (by omega)]
    exact ⟨O, R0.mono s, Same.keepB s, fun _ _ => rfl⟩
theorem set_self {A : Type} {l : List A} {i : Nat} {x : A} (h : l[i]? = some x) : l.set i x = l := by
  apply List.ext_getElem?
  intro j
  rw [List.getElem?_set]
  by_cases e : i = j
  · subst e
    rw [if_pos rfl, if_pos (List.getElem?_eq_some_iff.mp h).1, h]
  · rw [if_neg e]
/-- what is owned at i is changed, by whomever; all else stays -/
theorem Rel.chg (R0 : Rel K B H0 O env σ H) {i : Nat} {a : Addr} {s : Sl} {ho' : HO} {H1 : Hp} (hi : i < env.length) (ha : O[i]? = some (some a)) (ag : ∀ b o, H b = some o → b ≠ a → H1 b = some o) (h' : H1 a = some ho') (nt : nTup ho')
    (hs : s.isSt = false) (sl : SlOk K B O σ H1 i s) : Rel K B H0 O (env.set i s) σ H1 ∧ Keep (Ex B O) H (Ex B O) H1 := by
  have kp : Keep (Ex B O) H (Ex B O) H1 := ⟨fun b o e n => ⟨ag b o e fun z => n (by rw [z]; exact .inr ⟨i, ha⟩), n⟩, fun _ _ e => e⟩
  have eO : O.set i (some a) = O := set_self ha
  have z := R0.setO (ow := some a) (s := s) (w := none) hi σ (.inr rfl) (H1 := H1) (fun b o e => ?_) (by rw [eO]; exact kp) (fun b z => ?_) (fun m b o hm e1 e2 => ?_) (fun b e => ?_) (fun z => by rw [hs] at z; cases z) (by rw [eO]; exact sl)
  · rw [eO] at z
    exact ⟨z, kp⟩
  · exact ag b o (R0.same b o e) fun q => by rw [q, (R0.own i a ha).1] at e; cases e
  · by_cases n : b = a
    · exact ⟨ho', by rw [n]; exact h', nt⟩
    · obtain ⟨o, e, nt⟩ := R0.there b z
      exact ⟨o, ag b o e n, nt⟩
  · exact ag b o e2 fun q => hm (R0.uniq m i a (by rw [← q]; exact e1) ha)
  · cases e
    obtain ⟨h0, nb, _⟩ := R0.own i a ha
    exact ⟨h0, nb, ⟨ho', h', nt⟩, fun m hm e => hm (R0.uniq m i a e ha)⟩
/-- an own object is changed -/
theorem Rel.change (R0 : Rel K B H0 O env σ H) {a : Addr} {d d' : T} {ho' : HO} (he : env[i]? = some (.ow d)) (ha : O[i]? = some (some a)) (h : OwnRp K H (Ex B O) d' ho') :
    Rel K B H0 O (env.set i (.ow d')) σ (upd H a ho') ∧ Keep (Ex B O) H (Ex B O) (upd H a ho') := by
  obtain ⟨a', ho, h1, h2, h3, h4⟩ := R0.slot i _ he
  rw [ha] at h1
  cases h1
  have kp : Keep (Ex B O) H (Ex B O) (upd H a ho') := ⟨fun b o e n => ⟨by rw [upd_ne (fun z => n (by rw [z]; exact .inr ⟨i, ha⟩))]; exact e, n⟩, fun _ _ e => e⟩
  exact R0.chg (List.getElem?_eq_some_iff.mp he).1 ha (fun b o e n => by rw [upd_ne n]; exact e) upd_same h.ntup rfl ⟨a, ho', ha, h2, upd_same, h.keep kp⟩
/-- the object whose method this is, is changed -/
theorem Rel.changeS (R0 : Rel K B H0 O env σ H) {a : Addr} {d d' : T} {ho' : HO} (he : env[i]? = some (.sf d)) (ha : O[i]? = some (some a)) (h : OwnRp K H (Ex B O) d' ho') :
    Rel K B H0 O (env.set i (.sf d')) σ (upd H a ho') ∧ Keep (Ex B O) H (Ex B O) (upd H a ho') := by
  obtain ⟨a', ho, h1, h2, h3, h4, h5⟩ := R0.slot i _ he
  rw [ha] at h1
  cases h1
  have kp : Keep (Ex B O) H (Ex B O) (upd H a ho') := ⟨fun b o e n => ⟨by rw [upd_ne (fun z => n (by rw [z]; exact .inr ⟨i, ha⟩))]; exact e, n⟩, fun _ _ e => e⟩
  exact R0.chg (List.getElem?_eq_some_iff.mp he).1 ha (fun b o e n => by rw [upd_ne n]; exact e) upd_same h.ntup rfl ⟨a, ho', ha, h2, upd_same, h.keep kp, h5⟩
/-- nobody owns slot i any more -/
theorem Rel.noO (R0 : Rel K B H0 O env σ H) {i : Nat} (hi : i < env.length) {s : Sl} (hs : s.isSt = true → ∃ S, env[i]? = some (.st S)) (sl : (∀ b, Ex B (O.set i none) b → Ex B O b) → (∀ k a, (Ex B O).cs k = some a → (Ex B (O.set i none)).cs k = some a) → (O.set i none)[i]? = some none → SlOk K B (O.set i none) σ H i s) :
    Rel K B H0 (O.set i none) (env.set i s) σ H ∧ Keep (Ex B O) H (Ex B (O.set i none)) H := by
  have hn : i < B.n := R0.lenN ▸ hi
  have hO : i < O.length := R0.lenE hi
  have exs : ∀ b, Ex B (O.set i none) b → Ex B O b := fun b z => by
    rcases z with z | ⟨j, z⟩
    · exact .inl z
    · rcases getElem?_set' z with ⟨_, _, e⟩ | ⟨_, e⟩
      · cases e
      · exact .inr ⟨j, e⟩
  have csE : ∀ k a, (Ex B O).cs k = some a → (Ex B (O.set i none)).cs k = some a := fun k a e => (cs_set hn k).trans e
  have kp : Keep (Ex B O) H (Ex B (O.set i none)) H := ⟨fun b o e n => ⟨e, fun z => n (exs b z)⟩, csE⟩
  exact ⟨R0.setO (w := none) hi σ (.inr rfl) R0.same kp R0.there (fun _ _ _ _ _ e => e) (fun a e => by cases e) hs (sl exs csE (by rw [List.getElem?_set, if_pos rfl, if_pos hO])), kp⟩
/-- a new object is not to be spoken of for a while -/
theorem Rel.temp (R0 : Rel K B H0 O env σ H) (s : Same H H1) {p : Addr} {ho : HO} (hp : H p = none) (h1 : H1 p = some ho) (nt : nTup ho) :
    Rel K (B.add p) (upd H0 p ho) O env σ H1 ∧ Keep (Ex B O) H (Ex (B.add p) O) H1 := by
  have hp0 : H0 p = none := R0.same.free hp
  have kp : Keep (Ex B O) H (Ex (B.add p) O) H1 := ⟨fun b o e n => ⟨s b o e, fun z => by
    rcases z with (z | z) | z
    · exact n (.inl z)
    · rw [z, hp] at e; cases e
    · exact n (.inr z)⟩, fun _ _ e => e⟩
  refine ⟨⟨R0.len, R0.lenN, R0.lenO, R0.cells, fun b o e => ?_, fun b o e => ?_, fun b z => ?_, fun i a e => ?_, R0.uniq, fun j sl e => (R0.slot j sl e).upB ⟨rfl, rfl, rfl, rfl, rfl⟩ kp rfl rfl rfl (fun _ => rfl) fun m a o _ _ h => s a o h, R0.one⟩, kp⟩
  · by_cases q : b = p
    · subst q
      rw [upd_same] at e
      rw [h1]
      exact e
    · rw [upd_ne q] at e
      exact s b o (R0.same b o e)
  · have z := R0.lent b o e
    rw [upd_ne (ne_of_none z hp0)]
    exact z
  · rcases z with z | z
    · obtain ⟨o, e, n⟩ := R0.there b z
      exact ⟨o, s b o e, n⟩
    · rw [z]; exact ⟨ho, h1, nt⟩
  · obtain ⟨h0, nb, o, h2, n⟩ := R0.own i a e
    have ne : a ≠ p := ne_of_none h2 hp
    exact ⟨by rw [upd_ne ne]; exact h0, fun z => z.elim nb ne, o, s a o h2, n⟩
/-- what slot j owns goes out of it -/
theorem Rel.give (R0 : Rel K B H0 O env σ H) {j : Nat} {d : T} (hj : env[j]? = some (.ow d)) : ∃ a ho, O[j]? = some (some a) ∧ σ[j]? = some (some (.ref a)) ∧ H a = some ho ∧ H0 a = none ∧
    Rel K (B.add a) (upd H0 a ho) (O.set j none) (env.set j .no) σ H ∧ Keep (Ex B O) H (Ex (B.add a) (O.set j none)) H ∧ OwnRp K H (Ex (B.add a) (O.set j none)) d ho := by
  obtain ⟨a, ho, h1, h2, h3, h4⟩ := R0.slot j _ hj
  have hi : j < env.length := (List.getElem?_eq_some_iff.mp hj).1
  have hn : j < B.n := R0.lenN ▸ hi
  obtain ⟨R1, k1⟩ := R0.noO hi (s := .no) (fun z => by cases z) fun _ _ e => e
  obtain ⟨h0, nb, _⟩ := R0.own j a h1
  have sub : ∀ b, Ex (B.add a) (O.set j none) b → Ex B O b := fun b z => by
    rcases z with (z | z) | ⟨i, z⟩
    · exact .inl z
    · rw [z]; exact .inr ⟨j, h1⟩
    · rcases getElem?_set' z with ⟨_, _, e⟩ | ⟨_, e⟩
      · cases e
      · exact .inr ⟨i, e⟩
  have csE : ∀ k b, (Ex B O).cs k = some b → (Ex (B.add a) (O.set j none)).cs k = some b := fun k b e => (cs_set hn k).trans e
  have kp : Keep (Ex B O) H (Ex (B.add a) (O.set j none)) H := ⟨fun b o e n => ⟨e, fun z => n (sub b z)⟩, csE⟩
  refine ⟨a, ho, h1, h2, h3, h0, ⟨R1.len, R1.lenN, R1.lenO, R1.cells, fun b o e => ?_, fun b o e => ?_, fun b z => ?_, fun i c e => ?_, R1.uniq, fun i sl e => ?_, R1.one⟩, kp, h4.anti sub csE⟩
  · by_cases q : b = a
    · subst q
      rw [upd_same] at e
      rw [h3]
      exact e
    · rw [upd_ne q] at e
      exact R0.same b o e
  · have z := R0.lent b o e
    rw [upd_ne (ne_of_none z h0)]
    exact z
  · rcases z with z | z
    · exact R0.there b z
    · rw [z]; exact ⟨ho, h3, h4.ntup⟩
  · obtain ⟨z0, z1, z2⟩ := R1.own i c e
    have ne : c ≠ a := fun q => by
      rcases getElem?_set' e with ⟨_, _, e⟩ | ⟨n, e⟩
      · cases e
      · exact n (R0.uniq j i a h1 (by rw [← q]; exact e))
    exact ⟨by rw [upd_ne ne]; exact z0, fun z => z.elim z1 ne, z2⟩
  · rcases getElem?_set' e with ⟨e1, _, e2⟩ | ⟨n1, e2⟩
    · subst e1
      subst e2
      show (O.set j none)[j]? = some none
      rw [List.getElem?_set, if_pos rfl, if_pos (R0.lenE hi)]
    · exact (R0.slot i sl e2).upB ⟨rfl, rfl, rfl, rfl, rfl⟩ kp (by rw [List.getElem?_set, if_neg n1]) rfl (List.length_set ..) (fun k => set_cell hn k) fun m a o _ _ h => h
/-- what one owns is given up: it stays as it is from now on -/
@[simp] def frz (i : Nat) (env : En) : En := match env[i]? with
  | some (.ow d) => env.set i (.fz d)
  | _ => env
theorem Rel.freeze (R0 : Rel K B H0 O env σ H) (i : Nat) : ∃ O', Rel K B H0 O' (frz i env) σ H ∧ Keep (Ex B O) H (Ex B O') H := by
  unfold frz
  split
  · rename_i d he
    obtain ⟨a, ho, h1, h2, h3, h4⟩ := R0.slot i _ he
    have hi : i < env.length := (List.getElem?_eq_some_iff.mp he).1
    have na : ¬ Ex B (O.set i none) a := fun z => by
      rcases z with z | ⟨j, z⟩
      · exact (R0.own i a h1).2.1 z
      · rcases getElem?_set' z with ⟨_, _, e⟩ | ⟨n, e⟩
        · cases e
        · exact n (R0.uniq i j a h1 e)
    exact ⟨_, R0.noO hi (s := .fz d) (fun z => by cases z) fun exs csE eO => ⟨eO, _, h2, (h4.anti exs csE).rp h3 na⟩⟩
  · exact ⟨O, R0, Keep.refl⟩
/-- slot i is not spoken of any more -/
theorem Rel.forget (R0 : Rel K B H0 O env σ H) (i : Nat) : ∃ O', Rel K B H0 O' (env.set i .no) σ H ∧ Keep (Ex B O) H (Ex B O') H := by
  by_cases hi : i < env.length
  · exact ⟨_, R0.noO hi (s := .no) (fun z => by cases z) fun exs csE eO => eO⟩
  · rw [List.set_eq_of_length_le (by omega)]
    exact ⟨O, R0, Keep.refl⟩
@[simp] def fgs (is : List Nat) (env : En) : En := match is with
  | [] => env
  | i :: is => fgs is (env.set i .no)
theorem Rel.forgets : ∀ (is : List Nat) {O : Ow} {env : En}, Rel K B H0 O env σ H → ∃ O', Rel K B H0 O' (fgs is env) σ H ∧ Keep (Ex B O) H (Ex B O') H
  | [], O, _, R => ⟨O, R, Keep.refl⟩
  | i :: is, _, _, R => by
    obtain ⟨O1, R1, k1⟩ := R.forget i
    obtain ⟨O2, R2, k2⟩ := Rel.forgets is R1
    exact ⟨O2, R2, k1.trans k2⟩
end
end Tr
namespace Tr
open PySem L2

/-! ### statements -/
@[simp] def fNx (env : En) : Out := .nx env
@[simp] def fSeq (f g : En → Out) (env : En) : Out := (f env).seq g
def fSet (i : Nat) (f : En → Res R) (env : En) : Out := sOf f (fun r env => if r.kp then .nx (env.set i r.sl) else .bad) env
def fDrop (f : En → Res R) (env : En) : Out := sOf f (fun _ env => .nx env) env
def R.out : R → R
  | .bo _ d => .fr d
  | r => r
def fRet (f : En → Res R) (env : En) : Out := sOf f (fun r _ => .rt r.out) env
@[simp] def fRetN (_ : En) : Out := .rt (.sh .non)
def fIfS (c : En → Res Bool) (f g : En → Out) (env : En) : Out := sOf c (fun b env => if b then f env else g env) env
@[simp] def fBk (env : En) : Out := .bk env
@[simp] def fCt (env : En) : Out := .ct env
section
variable {X : Cx} {EX : L2.St → XK} {st : Stmt} {a b : List Stmt} {e c : Expr} {f g : En → Out} {u : En → Res R} {w : En → Res Bool} {pos pos' : Pos} {i : Nat} {x : Str}
theorem ssj_nil : SsJ X EX [] fNx := ⟨⟨_, pss_nil, fun B H0 O env σ H D R p => p O σ H R Keep.refl⟩⟩
theorem ssj_cons (h : SJ X EX st f) (k : SsJ X EX a g) : SsJ X EX (st :: a) (fSeq f g) := by
  obtain ⟨t, ps, i⟩ := h.ex
  obtain ⟨t', ps', i'⟩ := k.ex
  refine ⟨⟨_, pss_cons ps ps', fun B H0 O env σ H D R p => ?_⟩⟩
  refine i B H0 O env σ H _ R ?_
  unfold fSeq at p
  cases q : f env with
  | nx e =>
    rw [q] at p
    exact fun O' σ' H' R' kp => i' B H0 O' e σ' H' D R' (p.up kp)
  | rt r => rw [q] at p; exact p
  | bk e => rw [q] at p; exact p
  | ct e => rw [q] at p; exact p
  | exc e c' p' => rw [q] at p; exact p
  | rm r e => rw [q] at p; cases r <;> exact p
  | bad => rw [q] at p; exact p
theorem ssj_one (h : SJ X EX st f) : SsJ X EX [st] f := by
  obtain ⟨t, ps, i⟩ := h.ex
  exact ⟨⟨_, pss_one ps, i⟩⟩
/-- a statement ahead of which (behind which) slot i is given up -/
theorem sj_frz0 (j : Nat) (h : SJ X EX st f) : SJ X EX st (fun env => f (frz j env)) := by
  obtain ⟨t, ps, i⟩ := h.ex
  refine ⟨⟨_, ps, fun B H0 O env σ H D R p => ?_⟩⟩
  obtain ⟨O', R', k⟩ := R.freeze j
  exact i B H0 O' _ σ H D R' (p.up k)
@[simp] def fFz (j : Nat) (f : En → Out) (env : En) : Out := f (frz j env)
theorem sj_frz (j : Nat) (h : SJ X EX st f) : SJ X EX st (fFz j f) := sj_frz0 j h
@[simp] def fFg (is : List Nat) (f : En → Out) (env : En) : Out := (f env).onE (fgs is)
theorem fg_post {D : Ends} {B : Bs} {H0 H : Hp} {O : Ow} {is : List Nat} {o : Out} (p : SPost X EX B H0 O H D (o.onE (fgs is))) : SPost X EX B H0 O H D o := by
  cases o with
  | nx e =>
    intro O' σ' H' R k
    obtain ⟨O2, R2, k2⟩ := R.forgets is
    exact p O2 σ' H' R2 (k.trans k2)
  | rt r => exact p
  | bk e =>
    intro O' σ' H' R k
    obtain ⟨O2, R2, k2⟩ := R.forgets is
    exact p O2 σ' H' R2 (k.trans k2)
  | ct e =>
    intro O' σ' H' R k
    obtain ⟨O2, R2, k2⟩ := R.forgets is
    exact p O2 σ' H' R2 (k.trans k2)
  | exc e c pl =>
    intro O' σ' H' d a ea R k x
    obtain ⟨O2, R2, k2⟩ := R.forgets is
    refine p O2 σ' H' d a ea R2 (k.trans k2) ?_
    cases pl with
    | none => exact x
    | some t =>
      obtain ⟨a, v, z1, z2, z3⟩ := x
      exact ⟨a, v, z1, z2, z3.keep k2⟩
  | rm r e => exact p
  | bad => exact p
/-- behind a statement (a block) the slots is are not spoken of any more -/
theorem sj_fg (is : List Nat) (h : SJ X EX st f) : SJ X EX st (fFg is f) := by
  obtain ⟨t, ps, i⟩ := h.ex
  exact ⟨⟨_, ps, fun B H0 O env σ H D R p => i B H0 O _ σ H D R (fg_post p)⟩⟩
theorem ssj_fg (is : List Nat) (h : SsJ X EX a f) : SsJ X EX a (fFg is f) := by
  obtain ⟨t, ps, i⟩ := h.ex
  exact ⟨⟨_, ps, fun B H0 O env σ H D R p => i B H0 O _ σ H D R (fg_post p)⟩⟩
theorem sj_pass : SJ X EX (.Pass pos) fNx := ⟨⟨_, ps_pass, fun B H0 O env σ H D R p => p O σ H R Keep.refl⟩⟩
theorem sj_break : SJ X EX (.Break pos) fBk := ⟨⟨_, ps_break, fun B H0 O env σ H D R p => p O σ H R Keep.refl⟩⟩
theorem sj_continue : SJ X EX (.Continue pos) fCt := ⟨⟨_, ps_continue, fun B H0 O env σ H D R p => p O σ H R Keep.refl⟩⟩
theorem sj_doc {y j} : SJ X EX (.Expr (.Constant (.str y) j pos') pos) fNx := ⟨⟨_, ps_doc, fun B H0 O env σ H D R p => p O σ H R Keep.refl⟩⟩
theorem sj_set (i : Nat) (he : EJ X EX e u) (hN : X.N.Nodup) (hi : X.N[i]? = some x := by rfl) (hx : Loc X.env.scope x := by first | exact Or.inl rfl | exact Or.inr rfl) (hs : swapsWith e (some (.Name x pos')) pos.line X.env = pure false := by rfl)
    (hf : X.fn x = true ∨ X.env.scope.names.lookup x = some .local := by first | exact .inl rfl | exact .inr rfl) : SJ X EX (.Assign [.Name x pos'] e pos) (fSet i u) := by
  obtain ⟨t, pe, k⟩ := he.ex
  refine ⟨⟨_, ps_set hN hi hx pe hs hf, fun B H0 O env σ H D R p => ?_⟩⟩
  refine k B H0 O env σ H _ R ((sOf_post R p).mono (fun _ _ x => x) fun r q v H1 s r1 => ?_)
  split at q
  · rename_i kp
    obtain ⟨O', R', kk, _⟩ := R.store s r1 kp i
    exact q O' _ H1 R' kk
  · exact q.elim
/-- a list that is never changed: it stays as it is from now on -/
def fSetZ (i : Nat) (f : En → Res R) (env : En) : Out := sOf f (fun r env => if r.kp then .nx (env.set i (.fz r.d)) else .bad) env
theorem sj_fzp {D : Ends} {B : Bs} {H0 H : Hp} {O : Ow} {j : Nat} {o : Out} (p : SPost X EX B H0 O H D (o.onE (frz j))) : SPost X EX B H0 O H D o := by
  cases o with
  | nx e =>
    intro O' σ' H' R k
    obtain ⟨O2, R2, k2⟩ := R.freeze j
    exact p O2 σ' H' R2 (k.trans k2)
  | rt r => exact p
  | bk e =>
    intro O' σ' H' R k
    obtain ⟨O2, R2, k2⟩ := R.freeze j
    exact p O2 σ' H' R2 (k.trans k2)
  | ct e =>
    intro O' σ' H' R k
    obtain ⟨O2, R2, k2⟩ := R.freeze j
    exact p O2 σ' H' R2 (k.trans k2)
  | exc e c pl =>
    intro O' σ' H' d a ea R k x
    obtain ⟨O2, R2, k2⟩ := R.freeze j
    refine p O2 σ' H' d a ea R2 (k.trans k2) ?_
    cases pl with
    | none => exact x
    | some t =>
      obtain ⟨a, v, z1, z2, z3⟩ := x
      exact ⟨a, v, z1, z2, z3.keep k2⟩
  | rm r e => exact p
  | bad => exact p
theorem sj_setZ (i : Nat) (he : EJ X EX e u) (hN : X.N.Nodup) (hi : X.N[i]? = some x := by rfl) (hx : Loc X.env.scope x := by first | exact Or.inl rfl | exact Or.inr rfl) (hs : swapsWith e (some (.Name x pos')) pos.line X.env = pure false := by rfl)
    (hf : X.fn x = true ∨ X.env.scope.names.lookup x = some .local := by first | exact .inl rfl | exact .inr rfl) : SJ X EX (.Assign [.Name x pos'] e pos) (fSetZ i u) := by
  obtain ⟨t, ps, k⟩ := (sj_set (EX := EX) (pos' := pos') (pos := pos) i he hN hi hx hs hf).ex
  refine ⟨⟨t, ps, fun B H0 O env σ H D R p => k B H0 O env σ H D R ?_⟩⟩
  unfold fSetZ sOf at p
  unfold fSet sOf
  cases hu : u env with
  | bad => rw [hu] at p; exact p
  | exc c pl => rw [hu] at p; exact p
  | ok r =>
    rw [hu] at p
    simp only [out_ok] at p ⊢
    cases r with
    | sh d => exact p
    | bo j d => exact p
    | vw d => exact p
    | fr d =>
      refine sj_fzp (j := i) ?_
      have e : ∀ env : En, frz i (env.set i (.ow d)) = env.set i (.fz d) := fun env => by
        unfold frz
        by_cases h : i < env.length
        · rw [List.getElem?_set, if_pos rfl, if_pos h]
          simp
        · rw [List.set_eq_of_length_le (by omega)]
          rw [List.getElem?_eq_none (by omega)]
          simp [List.set_eq_of_length_le (show env.length ≤ i by omega)]
      show SPost X EX B H0 O H D (.nx (frz i (env.set i (.ow d))))
      rw [e]
      exact p
theorem sj_drop (he : EJ X EX e u) (hs : swapsWith e none pos.line X.env = pure false := by rfl) : SJ X EX (.Expr e pos) (fDrop u) := by
  obtain ⟨t, pe, k⟩ := he.ex
  refine ⟨⟨_, ps_expr pe hs, fun B H0 O env σ H D R p => ?_⟩⟩
  exact k B H0 O env σ H _ R ((sOf_post R p).mono (fun _ _ x => x) fun r q v H1 s r1 => q O σ H1 (R.mono s) (Same.keepB s))
theorem sj_ret (he : EJ X EX e u) : SJ X EX (.Return (some e) pos) (fRet u) := by
  obtain ⟨t, pe, k⟩ := he.ex
  refine ⟨⟨_, ps_ret pe, fun B H0 O env σ H D R p => ?_⟩⟩
  refine k B H0 O env σ H _ R ((sOf_post R p).mono (fun _ _ x => x) fun r q v H1 s r1 => ?_)
  obtain ⟨ac, nv, q'⟩ : (B.act = false ∨ r.out.d.np = true) ∧ r.out.isVw = false ∧ ∀ v H', Same H0 H' → RX X.K B.x H0 H' r.out v → D.rt v H' := q
  refine q' v H1 (R.same.trans s) ?_
  have sub : ∀ a, B.x a → Ex B O a := fun a z => .inl z
  rcases ac with ac | np
  · have csE : ∀ k a, (Ex B O).cs k = some a → B.x.cs k = some a := fun k a e => (R.cs0 ac).symm.trans e
    cases r with
    | sh d => exact Rp.anti r1 sub csE
    | fr d =>
      obtain ⟨p, ho, e1, e2, e3, e4⟩ := r1
      exact ⟨p, ho, e1, R.same.free e2, e3, e4.anti (fun a z => z.imp (sub a) id) csE⟩
    | bo i d =>
      obtain ⟨p, ho, e1, e2, e3, e4⟩ := r1
      exact ⟨p, ho, e2, (R.own i p e1).1, e3, e4.anti (fun a z => z.elim (sub a) fun e => .inr ⟨i, by rw [e]; exact e1⟩) csE⟩
    | vw d => cases nv
  · cases r with
    | sh d => exact Rp.np r1 sub np
    | fr d =>
      obtain ⟨p, ho, e1, e2, e3, e4⟩ := r1
      exact ⟨p, ho, e1, R.same.free e2, e3, e4.np (fun a z => z.imp (sub a) id) np⟩
    | bo i d =>
      obtain ⟨p, ho, e1, e2, e3, e4⟩ := r1
      exact ⟨p, ho, e2, (R.own i p e1).1, e3, e4.np (fun a z => z.elim (sub a) fun e => .inr ⟨i, by rw [e]; exact e1⟩) np⟩
    | vw d => cases nv
theorem sj_retN : SJ X EX (.Return none pos) fRetN := ⟨⟨_, ps_retN, fun B H0 O env σ H D R p => p.2.2 .non H R.same (Rp.non)⟩⟩
theorem sj_if (hc : BJ X EX c w) (ha : SsJ X EX a f) (hb : SsJ X EX b g) : SJ X EX (.If c a b pos) (fIfS w f g) := by
  obtain ⟨t, pt, k⟩ := hc.ex
  obtain ⟨t1, p1, k1⟩ := ha.ex
  obtain ⟨t2, p2, k2⟩ := hb.ex
  refine ⟨⟨_, ps_if pt p1 p2, fun B H0 O env σ H D R p => ?_⟩⟩
  refine k B H0 O env σ H _ R ((sOf_post R p).mono (fun _ _ x => x) fun r q H1 s => ?_)
  cases r with
  | true => exact iteT (k1 B H0 O env σ H1 D (R.mono s) ((show SPost X EX B H0 O H D (f env) from q).up (Same.keepB s)))
  | false => exact iteF (k2 B H0 O env σ H1 D (R.mono s) ((show SPost X EX B H0 O H D (g env) from q).up (Same.keepB s)))
end

/-! ### what one owns is changed -/
/-- xs.append(e) -/
def fApp (i : Nat) (f : En → Res R) (env : En) : Out := match env[i]? with
  | some (.ow (.lst l)) => sOf f (fun r env => if r.kp = true ∧ l.length < sizeLine then .nx (env.set i (.ow (.lst (l ++ [r.d])))) else .bad) env
  | _ => .bad
/-- xs.extend(e), e a list -/
def fExt (i : Nat) (f : En → Res R) (env : En) : Out := match env[i]? with
  | some (.ow (.lst l)) => sOf f (fun r env => match r.d with
    | .lst m => if l.length + m.length ≤ sizeLine then .nx (env.set i (.ow (.lst (l ++ m)))) else .bad
    | _ => .bad) env
  | _ => .bad
/-- xs[k] = e -/
def fPut (i : Nat) (f k : En → Res R) (env : En) : Out := sOf f (fun r env => match env[i]? with
  | some (.ow (.lst l)) => sOf k (fun y env => match y.d with
    | .int j => (match ixN l.length j with
      | some m => if r.kp = true then .nx (env.set i (.ow (.lst (l.set m r.d)))) else .bad
      | none => .bad)
    | _ => .bad) env
  | _ => .bad) env
/-- xs.pop(), xs.clear() as statements -/
def fPop (i : Nat) (env : En) : Out := match env[i]? with
  | some (.ow (.lst l)) => (match l with
    | [] => .bad
    | _ :: _ => .nx (env.set i (.ow (.lst l.dropLast))))
  | _ => .bad
def fClr (i : Nat) (env : En) : Out := match env[i]? with
  | some (.ow (.lst _)) => .nx (env.set i (.ow (.lst [])))
  | _ => .bad
/-- y = xs.pop(k) -/
def fPopTo (j i : Nat) (k : En → Res R) (env : En) : Out := match env[i]? with
  | some (.ow (.lst l)) => sOf k (fun y env => match y.d with
    | .int n => (match ixN l.length n with
      | some m => (match l[m]? with
        | some t => if -(2 ^ 63) ≤ n ∧ n < 2 ^ 63 then .nx ((env.set i (.ow (.lst (l.eraseIdx m)))).set j (.fz t)) else .bad
        | none => .bad)
      | none => .bad)
    | _ => .bad) env
  | _ => .bad
section
variable {X : Cx} {EX : L2.St → XK} {st : Stmt} {e c : Expr} {u k : En → Res R} {p pos pos' apos : Pos} {i j : Nat} {x y : Str}
theorem own_lst {K : PySem.W.Frag} {B : Bs} {H0 H : Hp} {O : Ow} {env : En} {σ : L2.St} {l : List T} (R : Rel K B H0 O env σ H) (h : env[i]? = some (.ow (.lst l))) :
    ∃ a us, O[i]? = some (some a) ∧ σ[i]? = some (some (.ref a)) ∧ H a = some (.lst us) ∧ RpAll K H (Ex B O) l us := by
  obtain ⟨a, ho, h1, h2, h3, h4⟩ := R.slot i _ h
  cases h4 with
  | lst h4 => exact ⟨a, _, h1, h2, h3, h4⟩
theorem tyL {K : PySem.W.Frag} {H : Hp} {a : Addr} {us : List V} (h : H a = some (.lst us)) : tyV K "list" (.ref a) H := .inl ⟨rfl, _, SqL.of h⟩
theorem sj_app (i : Nat) (he : EJ X EX e u) (hN : X.N[i]? = some x := by rfl) (hv : Vis X.env.scope x := by first | exact Or.inl rfl | exact Or.inr (Or.inl rfl) | exact Or.inr (Or.inr rfl)) (hd : (x == ("__debug__" : Str)) = false := by decide) (hcd : (x == ("__classdict__" : Str)) = false := by decide)
    (hst : starEach (e :: []) X.env = (false, eval e X.env) :: starEach [] X.env := by rfl) (hpl : (backTo pos' (starEach [] X.env)).any (·.1) = false := by rfl)
    (hs : swapsWith (.Call (.Attribute (.Name x p) "append" apos) [e] [] pos') none pos.line X.env = pure false := by rfl)
    (hb : attributeBase (.Name x p) "append" X.env (eval (.Name x p) X.env) = eval (.Name x p) X.env := by rfl) (hl : (apos.endLine == pos'.line) = true := by rfl)
    (hfew : ((backTo pos' (starEach (e :: []) X.env)).all (fun x => !x.1) && (backToKw pos' (keywordEach [] X.env)).all (fun x => x.1.isSome)
      && decide ((e :: []).length + ([] : List Keyword).length + (if ([] : List Keyword).isEmpty then 0 else 1) < 30)) = true := by rfl) :
    SJ X EX (.Expr (.Call (.Attribute (.Name x p) "append" apos) [e] [] pos') pos) (fApp i u) := by
  obtain ⟨t, pe, kk⟩ := he.ex
  have q1 : PE X (.Name x p) (tVar i) := pe_var hN hv hd hcd
  refine ⟨⟨_, ps_expr (pe_bm PySem.F.plainAttrs_list PySem.F.slot_list_append PySem.F.type_list_append mt_append q1 (pa_cons pe pa_nil hst) hb hfew hl hst hpl) hs, fun B H0 O env σ H D R q => ?_⟩⟩
  unfold fApp at q
  split at q
  · rename_i l hl
    obtain ⟨a, us, h1, h2, h3, h4⟩ := own_lst R hl
    refine ⟨_, h2, tyL h3, kk B H0 O env σ H _ R ((sOf_post R q).mono (fun _ _ x => x) fun r q v H1 s r1 => ?_)⟩
    split at q
    · rename_i c
      refine ⟨a, us, v, rfl, rfl, s _ _ h3, by rw [← h4.1]; exact c.2, ?_⟩
      have R1 := R.mono s
      obtain ⟨R2, k2⟩ := R1.change (d' := .lst (l ++ [r.d])) (ho' := .lst (us ++ [v])) hl h1 (.lst ((h4.same s).append (.one (r1.rp R c.1))))
      exact q O σ _ R2 ((Same.keepB s).trans k2)
    · exact q.elim
  · exact q.elim
theorem sj_ext (i : Nat) (he : EJ X EX e u) (hN : X.N[i]? = some x := by rfl) (hv : Vis X.env.scope x := by first | exact Or.inl rfl | exact Or.inr (Or.inl rfl) | exact Or.inr (Or.inr rfl)) (hd : (x == ("__debug__" : Str)) = false := by decide) (hcd : (x == ("__classdict__" : Str)) = false := by decide)
    (hst : starEach (e :: []) X.env = (false, eval e X.env) :: starEach [] X.env := by rfl) (hpl : (backTo pos' (starEach [] X.env)).any (·.1) = false := by rfl)
    (hs : swapsWith (.Call (.Attribute (.Name x p) "extend" apos) [e] [] pos') none pos.line X.env = pure false := by rfl)
    (hb : attributeBase (.Name x p) "extend" X.env (eval (.Name x p) X.env) = eval (.Name x p) X.env := by rfl) (hl : (apos.endLine == pos'.line) = true := by rfl)
    (hfew : ((backTo pos' (starEach (e :: []) X.env)).all (fun x => !x.1) && (backToKw pos' (keywordEach [] X.env)).all (fun x => x.1.isSome)
      && decide ((e :: []).length + ([] : List Keyword).length + (if ([] : List Keyword).isEmpty then 0 else 1) < 30)) = true := by rfl) :
    SJ X EX (.Expr (.Call (.Attribute (.Name x p) "extend" apos) [e] [] pos') pos) (fExt i u) := by
  obtain ⟨t, pe, kk⟩ := he.ex
  have q1 : PE X (.Name x p) (tVar i) := pe_var hN hv hd hcd
  refine ⟨⟨_, ps_expr (pe_bm PySem.F.plainAttrs_list PySem.F.slot_list_extend PySem.F.type_list_extend mt_extend q1 (pa_cons pe pa_nil hst) hb hfew hl hst hpl) hs, fun B H0 O env σ H D R q => ?_⟩⟩
  unfold fExt at q
  split at q
  · rename_i l hl
    obtain ⟨a, us, h1, h2, h3, h4⟩ := own_lst R hl
    refine ⟨_, h2, tyL h3, kk B H0 O env σ H _ R ((sOf_post R q).mono (fun _ _ x => x) fun r q v H1 s r1 => ?_)⟩
    split at q
    · rename_i m em
      split at q
      · rename_i c
        obtain ⟨b, ws, e1, e2, e3⟩ := r1.lst em
        refine ⟨a, b, us, ws, rfl, by rw [e1], s _ _ h3, e2, by rw [← h4.1, ← e3.1]; exact c, ?_⟩
        have R1 := R.mono s
        obtain ⟨R2, k2⟩ := R1.change (d' := .lst (l ++ m)) (ho' := .lst (us ++ ws)) hl h1 (.lst ((h4.same s).append e3))
        exact q O σ _ R2 ((Same.keepB s).trans k2)
      · exact q.elim
    · exact q.elim
  · exact q.elim
theorem sj_put (i : Nat) (he : EJ X EX e u) (hk : EJ X EX c k) (hN : X.N[i]? = some x := by rfl) (hv : Vis X.env.scope x := by first | exact Or.inl rfl | exact Or.inr (Or.inl rfl) | exact Or.inr (Or.inr rfl)) (hd : (x == ("__debug__" : Str)) = false := by decide) (hcd : (x == ("__classdict__" : Str)) = false := by decide)
    (hs : swapsWithSole [.Subscript (.Name x p) c apos] e pos.line X.env = pure false := by rfl) (hw : swappedStores [.Subscript (.Name x p) c apos] e X.env = pure none := by rfl)
    (h1 : (assignEach [.Subscript (.Name x p) c apos] X.env).map (·.2) = [assign (.Subscript (.Name x p) c apos) X.env] := by rfl)
    (ha : ∀ v, assign (.Subscript (.Name x p) c apos) X.env v = (do
      let ov ← holding [v] (eval (.Name x p) X.env)
      let iv ← holding [v, ov] (eval c X.env)
      standAt apos
      holding [v, ov, iv] (setItem ov iv v)
      release [v, ov, iv] []) := by intro _; rfl) :
    SJ X EX (.Assign [.Subscript (.Name x p) c apos] e pos) (fPut i u k) := by
  obtain ⟨t, pe, kk⟩ := he.ex
  obtain ⟨t2, pe2, kk2⟩ := hk.ex
  have q1 : PE X (.Name x p) (tVar i) := pe_var hN hv hd hcd
  refine ⟨⟨_, ps_asg pe (pg_sub q1 pe2 set_list ha) hs hw h1, fun B H0 O env σ H D R q => ?_⟩⟩
  refine kk B H0 O env σ H _ R ((sOf_post R q).mono (fun _ _ x => x) fun r q v H1 s r1 => ?_)
  split at q
  · rename_i l hl
    have R1 := R.mono s
    obtain ⟨a, us, h1, h2, h3, h4⟩ := own_lst R1 hl
    refine ⟨_, h2, ?_⟩
    refine kk2 B H0 O env σ H1 _ R1 ((sOf_post R1 ((show SPost X EX B H0 O H D _ from q).up (Same.keepB s))).mono (fun _ _ x => x) fun y q2 w H2 s2 r2 => ?_)
    split at q2
    · rename_i j ej
      split at q2
      · rename_i m em
        split at q2
        · rename_i c
          refine ⟨a, us, j, m, rfl, r2.int ej, s2 _ _ h3, by rw [← h4.1]; exact em, ?_⟩
          have R2 := R1.mono s2
          obtain ⟨R3, k3⟩ := R2.change (d' := .lst (l.set m r.d)) (ho' := .lst (us.set m v)) hl h1 (.lst ((h4.same s2).set ((r1.mono s2).rp R c) m))
          exact q2 O σ _ R3 ((Same.keepB s2).trans k3)
        · exact q2.elim
      · exact q2.elim
    · exact q2.elim
  · exact q.elim
theorem sj_pop (i : Nat) (hN : X.N[i]? = some x := by rfl) (hv : Vis X.env.scope x := by first | exact Or.inl rfl | exact Or.inr (Or.inl rfl) | exact Or.inr (Or.inr rfl)) (hd : (x == ("__debug__" : Str)) = false := by decide) (hcd : (x == ("__classdict__" : Str)) = false := by decide)
    (hs : swapsWith (.Call (.Attribute (.Name x p) "pop" apos) [] [] pos') none pos.line X.env = pure false := by rfl)
    (hb : attributeBase (.Name x p) "pop" X.env (eval (.Name x p) X.env) = eval (.Name x p) X.env := by rfl) (hl : (apos.endLine == pos'.line) = true := by rfl) :
    SJ X EX (.Expr (.Call (.Attribute (.Name x p) "pop" apos) [] [] pos') pos) (fPop i) := by
  have q1 : PE X (.Name x p) (tVar i) := pe_var hN hv hd hcd
  refine ⟨⟨_, ps_expr (pe_bm0 PySem.F.plainAttrs_list PySem.F.slot_list_pop PySem.F.type_list_pop mt_pop q1 hb hl) hs, fun B H0 O env σ H D R q => ?_⟩⟩
  unfold fPop at q
  split at q
  · rename_i l hl
    obtain ⟨a, us, h1, h2, h3, h4⟩ := own_lst R hl
    split at q
    · exact q.elim
    · rename_i t ts
      have hlen : us.length - 1 < us.length := by
        have := h4.1
        simp at this
        omega
      refine ⟨_, h2, tyL h3, a, us, us[us.length - 1], rfl, rfl, h3, List.getElem?_eq_getElem hlen, ?_⟩
      obtain ⟨R2, k2⟩ := R.change (d' := .lst (t :: ts).dropLast) (ho' := .lst us.dropLast) hl h1 (.lst h4.dropLast)
      exact q O σ _ R2 k2
  · exact q.elim
theorem sj_clr (i : Nat) (hN : X.N[i]? = some x := by rfl) (hv : Vis X.env.scope x := by first | exact Or.inl rfl | exact Or.inr (Or.inl rfl) | exact Or.inr (Or.inr rfl)) (hd : (x == ("__debug__" : Str)) = false := by decide) (hcd : (x == ("__classdict__" : Str)) = false := by decide)
    (hs : swapsWith (.Call (.Attribute (.Name x p) "clear" apos) [] [] pos') none pos.line X.env = pure false := by rfl)
    (hb : attributeBase (.Name x p) "clear" X.env (eval (.Name x p) X.env) = eval (.Name x p) X.env := by rfl) (hl : (apos.endLine == pos'.line) = true := by rfl) :
    SJ X EX (.Expr (.Call (.Attribute (.Name x p) "clear" apos) [] [] pos') pos) (fClr i) := by
  have q1 : PE X (.Name x p) (tVar i) := pe_var hN hv hd hcd
  refine ⟨⟨_, ps_expr (pe_bm0 PySem.F.plainAttrs_list PySem.F.slot_list_clear PySem.F.type_list_clear mt_clear q1 hb hl) hs, fun B H0 O env σ H D R q => ?_⟩⟩
  unfold fClr at q
  split at q
  · rename_i l hl
    obtain ⟨a, us, h1, h2, h3, h4⟩ := own_lst R hl
    refine ⟨_, h2, tyL h3, a, us, rfl, rfl, h3, ?_⟩
    obtain ⟨R2, k2⟩ := R.change (d' := .lst []) (ho' := .lst []) hl h1 (.lst .nil)
    exact q O σ _ R2 k2
  · exact q.elim
theorem ixN_seq' {n : Nat} {i : Int} {j : Nat} (h : ixN n i = some j) : seqIndex? i n = some j := (ixN_seq h).1
theorem sj_popTo (j i : Nat) (hk : EJ X EX c k) (hnd : X.N.Nodup) (hN : X.N[i]? = some x := by rfl) (hv : Vis X.env.scope x := by first | exact Or.inl rfl | exact Or.inr (Or.inl rfl) | exact Or.inr (Or.inr rfl)) (hd : (x == ("__debug__" : Str)) = false := by decide) (hcd : (x == ("__classdict__" : Str)) = false := by decide)
    (hi : X.N[j]? = some y := by rfl) (hx : Loc X.env.scope y := by first | exact Or.inl rfl | exact Or.inr rfl)
    (hst : starEach (c :: []) X.env = (false, eval c X.env) :: starEach [] X.env := by rfl) (hpl : (backTo pos' (starEach [] X.env)).any (·.1) = false := by rfl)
    (hs : swapsWith (.Call (.Attribute (.Name x p) "pop" apos) [c] [] pos') (some (.Name y p2)) pos.line X.env = pure false := by rfl)
    (hf : X.fn y = true ∨ X.env.scope.names.lookup y = some .local := by first | exact .inl rfl | exact .inr rfl)
    (hb : attributeBase (.Name x p) "pop" X.env (eval (.Name x p) X.env) = eval (.Name x p) X.env := by rfl) (hl : (apos.endLine == pos'.line) = true := by rfl)
    (hfew : ((backTo pos' (starEach (c :: []) X.env)).all (fun x => !x.1) && (backToKw pos' (keywordEach [] X.env)).all (fun x => x.1.isSome)
      && decide ((c :: []).length + ([] : List Keyword).length + (if ([] : List Keyword).isEmpty then 0 else 1) < 30)) = true := by rfl) :
    SJ X EX (.Assign [.Name y p2] (.Call (.Attribute (.Name x p) "pop" apos) [c] [] pos') pos) (fPopTo j i k) := by
  obtain ⟨t, pe, kk⟩ := hk.ex
  have q1 : PE X (.Name x p) (tVar i) := pe_var hN hv hd hcd
  refine ⟨⟨_, ps_set hnd hi hx (pe_bm PySem.F.plainAttrs_list PySem.F.slot_list_pop PySem.F.type_list_pop mt_popAt q1 (pa_cons pe pa_nil hst) hb hfew hl hst hpl) hs hf, fun B H0 O env σ H D R q => ?_⟩⟩
  unfold fPopTo at q
  split at q
  · rename_i l hl
    obtain ⟨a, us, h1, h2, h3, h4⟩ := own_lst R hl
    refine ⟨_, h2, tyL h3, kk B H0 O env σ H _ R ((sOf_post R q).mono (fun _ _ x => x) fun r q v H1 s r1 => ?_)⟩
    split at q
    · rename_i n en
      split at q
      · rename_i m em
        split at q
        · rename_i tt et
          split at q
          · rename_i cc
            have R1 := R.mono s
            have h4' := h4.same s
            obtain ⟨w, e1, e2⟩ := h4'.get et
            refine ⟨a, us, n, m, w, rfl, by rw [r1.int en], s _ _ h3, cc.1, cc.2, by rw [← h4.1]; exact ixN_seq' em, e1, ?_⟩
            obtain ⟨R2, k2⟩ := R1.change (d' := .lst (l.eraseIdx m)) (ho' := .lst (us.eraseIdx m)) hl h1 (.lst (h4'.eraseIdx m))
            obtain ⟨O', R3, k3, _⟩ := R2.store (r := .sh tt) (Same.refl _) (show Rp _ _ _ tt w from e2.keep k2) rfl j
            exact q O' _ _ R3 (((Same.keepB s).trans k2).trans k3)
          · exact q.elim
        · exact q.elim
      · exact q.elim
    · exact q.elim
  · exact q.elim
end
end Tr
namespace Tr
open PySem L2

/-! ### targets -/
/-- only the slots is may differ -/
def Wp (is : List Nat) (O O' : Ow) (σ σ' : L2.St) : Prop := (∀ vs, (∀ i ∈ is, i ∈ vs) → wipe σ' vs = wipe σ vs) ∧ ∀ j, j ∉ is → O'[j]? = O[j]?
theorem wipe_get : ∀ (vs : List Nat) (σ : L2.St) (j : Nat), (wipe σ vs)[j]? = if j ∈ vs ∧ j < σ.length then some none else σ[j]?
  | [], σ, j => by simp [wipe]
  | v :: vs, σ, j => by
    show ((wipe σ vs).set v none)[j]? = _
    rw [List.getElem?_set, wipe_length, wipe_get vs σ j]
    by_cases e : v = j
    · subst e
      by_cases q : v < σ.length
      · simp [q]
      · have z : σ[v]? = none := List.getElem?_eq_none (by omega)
        simp [q, z]
    · have e' : ¬ j = v := fun q => e q.symm
      simp [e, e']
theorem Wp.refl {is : List Nat} {O : Ow} {σ : L2.St} : Wp is O O σ σ := ⟨fun _ _ => rfl, fun _ _ => rfl⟩
theorem Wp.trans {is is' : List Nat} {O O1 O2 : Ow} {σ σ1 σ2 : L2.St} (a : Wp is O O1 σ σ1) (b : Wp is' O1 O2 σ1 σ2) : Wp (is ++ is') O O2 σ σ2 := ⟨fun vs h =>
  (b.1 vs fun i m => h i (List.mem_append_right _ m)).trans (a.1 vs fun i m => h i (List.mem_append_left _ m)), fun j h => by
    rw [List.mem_append] at h
    exact (b.2 j fun z => h (.inr z)).trans (a.2 j fun z => h (.inl z))⟩
theorem Wp.set {i : Nat} {O O' : Ow} {σ : L2.St} {v : Option V} (hO : ∀ j, j ≠ i → O'[j]? = O[j]?) : Wp [i] O O' σ (σ.set i v) := ⟨fun vs h => by
  have hi : i ∈ vs := h i (by simp)
  apply List.ext_getElem?
  intro j
  rw [wipe_get, wipe_get, List.length_set, List.getElem?_set]
  by_cases e : i = j
  · subst e
    by_cases q : i < σ.length
    · simp [hi, q]
    · have z : σ[i]? = none := List.getElem?_eq_none (by omega)
      simp [q, z]
  · simp [e], fun j h => hO j fun q => h (by simp [q])⟩
structure GJ (X : Cx) (tg : Expr) (is : List Nat) (g : T → En → Option En) : Prop where
  ex : ∃ t : TG, PG X tg t ∧ ∀ B H0 O env σ H v d (Q : L2.St → Hp → Prop), Rel X.K B H0 O env σ H → Rp X.K H (Ex B O) d v →
    (match g d env with
      | some env' => ∀ O' σ', Rel X.K B H0 O' env' σ' H → Keep (Ex B O) H (Ex B O') H → Wp is O O' σ σ' → Q σ' H
      | none => False) → t v σ H Q
structure GsJ (X : Cx) (tg : List Expr) (is : List Nat) (g : List T → En → Option En) : Prop where
  ex : ∃ t : TGs, PGs X tg t ∧ ∀ B H0 O env σ H vs ds (Q : L2.St → Hp → Prop), Rel X.K B H0 O env σ H → RpAll X.K H (Ex B O) ds vs →
    (match g ds env with
      | some env' => ∀ O' σ', Rel X.K B H0 O' env' σ' H → Keep (Ex B O) H (Ex B O') H → Wp is O O' σ σ' → Q σ' H
      | none => False) → t vs σ H Q
@[simp] def gN (i : Nat) (d : T) (env : En) : Option En := some (env.set i (.fz d))
@[simp] def gsN (ds : List T) (env : En) : Option En := match ds with
  | [] => some env
  | _ => none
def gsC (g : T → En → Option En) (gs : List T → En → Option En) (ds : List T) (env : En) : Option En := match ds with
  | d :: r => (match g d env with
    | some e => gs r e
    | none => none)
  | [] => none
def gT (n : Nat) (gs : List T → En → Option En) (d : T) (env : En) : Option En := match d with
  | .tup l => if l.length = n then gs l env else none
  | _ => none
section
variable {X : Cx} {e : Expr} {es : List Expr} {g : T → En → Option En} {gs : List T → En → Option En} {pos : Pos} {x : Str} {n : Nat}
theorem gj_name (i : Nat) (hN : X.N.Nodup) (hi : X.N[i]? = some x := by rfl) (hx : Loc X.env.scope x := by first | exact Or.inl rfl | exact Or.inr rfl) (hf : X.fn x = true ∨ X.env.scope.names.lookup x = some .local := by first | exact .inl rfl | exact .inr rfl) :
    GJ X (.Name x pos) [i] (gN i) := by
  refine ⟨⟨_, pg_name hN hi hx hf, fun B H0 O env σ H v d Q R r p => ?_⟩⟩
  obtain ⟨O', R', k, hO⟩ := R.store (r := .sh d) (Same.refl H) r rfl i
  exact p O' _ R' k (Wp.set hO)
theorem gsj_nil : GsJ X [] [] gsN := ⟨⟨_, pgs_nil, fun B H0 O env σ H vs ds Q R r p => by
  unfold gsN at p
  cases ds with
  | nil =>
    have : vs = [] := by have := r.1; cases vs <;> simp at this ⊢
    exact ⟨this, p O σ R Keep.refl Wp.refl⟩
  | cons _ _ => exact p.elim⟩⟩
theorem gsj_cons {is js : List Nat} (h : GJ X e is g) (k : GsJ X es js gs) (hs : (assignEach (e :: es) X.env).map (·.2) = assign e X.env :: (assignEach es X.env).map (·.2) := by rfl) : GsJ X (e :: es) (is ++ js) (gsC g gs) := by
  obtain ⟨t, pg, i⟩ := h.ex
  obtain ⟨t', pg', i'⟩ := k.ex
  refine ⟨⟨_, pgs_cons pg pg' hs, fun B H0 O env σ H vs ds Q R r p => ?_⟩⟩
  unfold gsC at p
  cases ds with
  | nil => exact p.elim
  | cons d ds =>
    cases vs with
    | nil => have := r.1; simp at this
    | cons v vs =>
      refine ⟨v, vs, rfl, i B H0 O env σ H v d _ R r.head ?_⟩
      simp only at p
      cases q : g d env with
      | none => rw [q] at p; exact p.elim
      | some e' =>
        rw [q] at p
        exact fun O' σ' R' k' w' => i' B H0 O' e' σ' H vs ds Q R' (r.tail.keep k') (by
          simp only at p
          cases q2 : gs ds e' with
          | none => rw [q2] at p; exact p.elim
          | some e'' =>
            rw [q2] at p
            exact fun O2 σ2 R2 k2 w2 => p O2 σ2 R2 (k'.trans k2) (w'.trans w2))
theorem gj_tup {k : Nat} {is : List Nat} (hc : X.calm = true) (h : GsJ X es is gs) (hn : (assignEach es X.env).length = n := by rfl) (hst : (assignEach es X.env).findIdx? (·.1) = none := by rfl) : GJ X (.Tuple es k pos) is (gT n gs) := by
  obtain ⟨t, pg, i⟩ := h.ex
  refine ⟨⟨_, pg_tup hc pg hn hst, fun B H0 O env σ H v d Q R r p => ?_⟩⟩
  unfold gT at p
  cases d with
  | tup l =>
    cases r with
    | tup h1 h2 h3 h4 =>
      simp only at p
      by_cases c : l.length = n
      · rw [if_pos c] at p
        exact ⟨_, _, rfl, SqT.of h1, by rw [← h3]; exact c, i B H0 O env σ H _ l Q R ⟨h3, h4⟩ p⟩
      · rw [if_neg c] at p; exact p.elim
  | _ => exact p.elim
end
/-- (a, b, ..) = e -/
def fUnp (g : T → En → Option En) (f : En → Res R) (env : En) : Out := sOf f (fun r env => if r.kp = true then (match g r.d env with
  | some e => .nx e
  | none => .bad) else .bad) env
section
variable {X : Cx} {EX : L2.St → XK} {tg e : Expr} {g : T → En → Option En} {u : En → Res R} {pos : Pos}
theorem sj_unp {is : List Nat} (he : EJ X EX e u) (hg : GJ X tg is g) (hs : swapsWithSole [tg] e pos.line X.env = pure false := by rfl) (hw : swappedStores [tg] e X.env = pure none := by rfl)
    (h1 : (assignEach [tg] X.env).map (·.2) = [assign tg X.env] := by rfl) : SJ X EX (.Assign [tg] e pos) (fUnp g u) := by
  obtain ⟨t, pe, k⟩ := he.ex
  obtain ⟨t', pg, i⟩ := hg.ex
  refine ⟨⟨_, ps_asg pe pg hs hw h1, fun B H0 O env σ H D R p => ?_⟩⟩
  refine k B H0 O env σ H _ R ((sOf_post R p).mono (fun _ _ x => x) fun r q v H1 s r1 => ?_)
  split at q
  · rename_i c
    refine i B H0 O env σ H1 v r.d _ (R.mono s) (r1.rp R c) ?_
    cases q2 : g r.d env with
    | none => rw [q2] at q; exact q.elim
    | some e' =>
      rw [q2] at q
      exact fun O' σ' R' k' _ => q O' σ' H1 R' ((Same.keepB s).trans k')
  · exact q.elim
end

/-! ### what is walked -/
/-- J walks through ts, from the heap H1 on, whatever is done to what is at X -/
def Wk (K : PySem.W.Frag) (J : It) (Y : Xs) (L H1 : Hp) (ts : List T) : Prop := ∀ (i : Nat) (H : Hp) (Y' : Xs), Keep Y H1 Y' H → Same L H → (∀ a, Y' a → ∃ o, H a = some o) →
  (i < ts.length → J.go i H ∧ ∀ x H', J.yld i H x H' → Same H H' ∧ ∀ t, ts[i]? = some t → Rp K H' Y' t x) ∧ (ts.length ≤ i → J.stop i H)
structure FJ (X : Cx) (EX : L2.St → XK) (tg iter : Expr) (f : En → Res (List T)) : Prop where
  ex : ∃ wi : TI, PI X tg iter wi ∧ ∀ B H0 O env σ H (Q : It → Hp → Prop), Rel X.K B H0 O env σ H →
    Post (XC X.K B O EX σ H) (fun ts => ∀ J H', Same H H' → Wk X.K J (Ex B O) B.h H' ts → Q J H') (f env) → wi σ H Q
/-- a value that may be walked -/
def R.wk : R → Bool
  | .bo _ _ => false
  | _ => true
def itsR (r : R) : Res (List T) := if r.wk = true then (match r.d.its with
  | some l => .ok l
  | none => .bad) else .bad
def iL (f : En → Res R) (env : En) : Res (List T) := (f env).bind itsR
def rngT (lo : Int) (n : Nat) : List T := (List.range n).map fun i => T.int (lo + (i : Nat))
def rOk (i : Int) : Prop := -(2 ^ 62) ≤ i ∧ i < 2 ^ 62
instance (i : Int) : Decidable (rOk i) := by unfold rOk; infer_instance
def i1R (r : R) : Res (List T) := match r.d with
  | .int j => if rOk j then .ok (rngT 0 j.toNat) else .bad
  | _ => .bad
def i2R (r r' : R) : Res (List T) := match r.d, r'.d with
  | .int i, .int j => if rOk i ∧ rOk j then .ok (rngT i (j - i).toNat) else .bad
  | _, _ => .bad
@[simp] def iR1 (f : En → Res R) (env : En) : Res (List T) := (f env).bind i1R
@[simp] def iR2 (f g : En → Res R) (env : En) : Res (List T) := (f env).bind fun x => (g env).bind fun y => i2R x y
def enumT (k : Nat) : List T → List T
  | [] => []
  | t :: l => .tup [.int k, t] :: enumT (k + 1) l
def iE (f : En → Res R) (env : En) : Res (List T) := (f env).bind fun r => (itsR r).bind fun l => .ok (enumT 0 l)
def zipT (l m : List T) : List T := List.zipWith (fun a b => T.tup [a, b]) l m
def iZ (f g : En → Res R) (env : En) : Res (List T) := (f env).bind fun r => (g env).bind fun r' => (itsR r).bind fun l => (itsR r').bind fun m => .ok (zipT l m)
def iRv (f : En → Res R) (env : En) : Res (List T) := (f env).bind fun r => (itsR r).bind fun l => .ok l.reverse
def iS (f : En → Res R) (env : En) : Res (List T) := (f env).bind fun r => match r.d with
  | .str x => .ok (x.cps.toList.map fun c => T.str ⟨#[c]⟩)
  | _ => .bad
section
variable {X : Cx} {EX : L2.St → XK} {tg e e2 : Expr} {f g : En → Res R} {p pos tpos : Pos} {K : PySem.W.Frag} {H H1 L : Hp} {Y Y' : Xs}
theorem seq_keep {d : T} {v : V} {ts : List T} (h : Rp K H Y d v) (e : d.its = some ts) : ∃ a us, v = .ref a ∧ RpAll K H Y ts us ∧ ∀ H' Y', Keep Y H Y' H' → SqL K H' a us := by
  cases d with
  | lst l =>
    cases e
    cases h with
    | lst h1 n hl hs => exact ⟨_, _, rfl, ⟨hl, hs⟩, fun H' Y' k => SqL.of (k.k _ _ h1 n).1⟩
  | scr ns =>
    cases e
    cases h with
    | scr hq =>
      refine ⟨_, _, rfl, .ints, fun H' Y' k => ?_⟩
      rcases hq with ⟨h, n⟩ | h
      · exact .inl (Rd.keep k h n).1
      · exact .inr h
  | _ => cases e
theorem itsR_ok {B : Bs} {O : Ow} {H0 Hs : Hp} {env : En} {σ : L2.St} {r : R} {v : V} {C : Type} {xc : Addr → Option T → Prop} {okp : C → Prop} {k : List T → Res C} (R0 : Rel K B H0 O env σ Hs) (h : RR K B O Hs H r v) (p : Post xc okp ((itsR r).bind k)) :
    ∃ ts, Post xc okp (k ts) ∧ ∃ a us, v = .ref a ∧ RpAll K H (Ex B O) ts us ∧ ∀ H' Y', Keep (Ex B O) H Y' H' → Same B.h H' → SqL K H' a us := by
  unfold itsR at p
  split at p
  · rename_i c
    split at p
    · rename_i l e
      refine ⟨l, p, ?_⟩
      have go : r.kp = true → ∃ a us, v = .ref a ∧ RpAll K H (Ex B O) l us ∧ ∀ H' Y', Keep (Ex B O) H Y' H' → Same B.h H' → SqL K H' a us := fun c => by
        obtain ⟨a, us, z1, z2, z3⟩ := seq_keep (h.rp R0 c) e
        exact ⟨a, us, z1, z2, fun H' Y' k _ => z3 H' Y' k⟩
      cases r with
      | sh d => exact go rfl
      | fr d => exact go rfl
      | bo i d => cases c
      | vw d =>
        obtain ⟨a, ho, z1, z2, z3, z4⟩ := h
        cases z4 with
        | lst ra =>
          cases e
          exact ⟨a, _, z2, ra, fun H' Y' _ sl => SqL.of (sl _ _ z1)⟩
        | _ => cases e
    · exact p.elim
  · exact p.elim
theorem wk_list {a : Addr} {us : List V} {ts : List T} (r : RpAll K H1 Y ts us) (sq : ∀ H' Y', Keep Y H1 Y' H' → Same L H' → SqL K H' a us) : Wk K (Itl K a) Y L H1 ts := fun i H Y' k sl th => by
  have q := sq H Y' k sl
  refine ⟨fun hi => ?_, fun hi => ⟨us, q, by rw [← r.1]; exact hi⟩⟩
  have hj : i < us.length := by rw [← r.1]; exact hi
  refine ⟨⟨us, us[i], q, List.getElem?_eq_getElem hj⟩, fun x H' y => ?_⟩
  obtain ⟨e, y⟩ := y
  subst e
  exact ⟨Same.refl _, fun t et => (r.2 i t x et (y us q)).keep k⟩
theorem fj_list (he : EJ X EX e f) : FJ X EX tg e (iL f) := by
  obtain ⟨t, pe, i⟩ := he.ex
  refine ⟨⟨_, pi_list pe, fun B H0 O env σ H Q R p => ?_⟩⟩
  refine i B H0 O env σ H _ R (p.bind.mono (fun _ _ x => x) fun r q v H1 s r1 => ?_)
  obtain ⟨ts, q', a, us, ev, ra, sq⟩ := itsR_ok (k := fun l => .ok l) R r1 (by cases h : itsR r <;> rw [h] at q <;> exact q)
  exact ⟨a, ev, ⟨us, sq H1 _ Keep.refl (R.lent.trans (R.same.trans s))⟩, q' _ H1 s (wk_list ra sq)⟩
theorem rng_get {lo : Int} {n i : Nat} {t : T} (h : (rngT lo n)[i]? = some t) : t = .int (lo + (i : Nat)) := by
  unfold rngT at h
  rw [List.getElem?_map] at h
  cases q : (List.range n)[i]? with
  | none => rw [q] at h; cases h
  | some j =>
    rw [q] at h
    have := List.getElem?_eq_some_iff.mp q
    obtain ⟨hj, e⟩ := this
    rw [List.getElem_range] at e
    subst e
    exact (Option.some.inj h).symm
theorem rng_len {lo : Int} {n : Nat} : (rngT lo n).length = n := by simp [rngT]
theorem wk_rng {lo : Int} {n : Nat} : Wk K (Itr lo n) Y L H1 (rngT lo n) := fun i H Y' k sl th => by
  rw [rng_len]
  refine ⟨fun hi => ⟨hi, fun x H' y => ?_⟩, fun hi => hi⟩
  obtain ⟨e, y⟩ := y
  subst e y
  exact ⟨Same.refl _, fun t et => by rw [rng_get et]; exact .int _⟩
theorem fj_range1 (hg : Gl X "range") (hm : X.mg "range" = none) (ha : EJ X EX e f) (hs : starEach [e] X.env = [(false, eval e X.env)] := by rfl) : FJ X EX tg (.Call (.Name "range" p) [e] [] pos) (iR1 f) := by
  obtain ⟨t, pe, i⟩ := ha.ex
  refine ⟨⟨_, pi_range1 hg hm (pa_cons pe pa_nil hs) hs, fun B H0 O env σ H Q R p => ?_⟩⟩
  refine i B H0 O env σ H _ R (p.bind.mono (fun _ _ x => x) fun r q v H1 s r1 => ?_)
  unfold i1R at q
  split at q
  · rename_i j ej
    split at q
    · rename_i c
      exact ⟨j, by rw [r1.int ej], c.1, c.2, q _ H1 s wk_rng⟩
    · exact q.elim
  · exact q.elim
theorem fj_range2 (hg : Gl X "range") (hm : X.mg "range" = none) (ha : EJ X EX e f) (hb : EJ X EX e2 g) (hs : starEach [e, e2] X.env = [(false, eval e X.env), (false, eval e2 X.env)] := by rfl) (hs2 : starEach [e2] X.env = [(false, eval e2 X.env)] := by rfl) :
    FJ X EX tg (.Call (.Name "range" p) [e, e2] [] pos) (iR2 f g) := by
  obtain ⟨t, pe, i⟩ := ha.ex
  obtain ⟨t', pe', i'⟩ := hb.ex
  refine ⟨⟨_, pi_range2 hg hm (pa_cons pe (pa_cons pe' pa_nil hs2) (by rw [hs, hs2])) hs hs2, fun B H0 O env σ H Q R p => ?_⟩⟩
  refine i B H0 O env σ H _ R (p.bind.mono (fun _ _ x => x) fun r q v H1 s r1 => ?_)
  refine i' B H0 O env σ H1 _ (R.mono s) ((q.bind.up s).mono (fun _ _ x => x) fun r' q2 w H2 s2 r2 => ?_)
  unfold i2R at q2
  split at q2
  · rename_i a b ea eb
    split at q2
    · rename_i c
      exact ⟨a, b, by rw [r1.int ea, r2.int eb], ⟨c.1.1, c.1.2, c.2.1, c.2.2⟩, q2 _ H2 (s.trans s2) wk_rng⟩
    · exact q2.elim
  · exact q2.elim
theorem enum_len : ∀ {l : List T} {k : Nat}, (enumT k l).length = l.length
  | [], _ => rfl
  | _ :: l, k => by simp [enumT, enum_len (l := l)]
theorem enum_get : ∀ {l : List T} {k i : Nat} {t : T}, (enumT k l)[i]? = some t → ∃ d, l[i]? = some d ∧ t = .tup [.int ((k + i : Nat) : Int), d]
  | [], _, _, _, h => by simp [enumT] at h
  | a :: l, k, 0, t, h => by
    simp [enumT] at h
    exact ⟨a, rfl, by rw [← h] <;> rfl⟩
  | a :: l, k, i + 1, t, h => by
    simp only [enumT, List.getElem?_cons_succ] at h
    obtain ⟨d, h1, h2⟩ := enum_get h
    exact ⟨d, by simpa using h1, by rw [h2]; congr 3; omega⟩
theorem rp_pair {K : PySem.W.Frag} {H : Hp} {Y : Xs} {a b : T} {x y : V} {q : Addr} (th : ∀ a, Y a → ∃ o, H a = some o) (nq : H q = none) (h1 : Rp K H Y a x) (h2 : Rp K H Y b y) : Rp K (upd H q (.tup [x, y])) Y (.tup [a, b]) (.ref q) := by
  have z : RpAll K (upd H q (.tup [x, y])) Y [a, b] [x, y] := (RpAll.cons h1 (.one h2)).same (Same.new nq)
  exact .tup upd_same (fun m => by obtain ⟨o, e⟩ := th q m; rw [nq] at e; cases e) z.1 z.2
theorem wk_enum {a : Addr} {us : List V} {ts : List T} (r : RpAll K H1 Y ts us) (sq : ∀ H' Y', Keep Y H1 Y' H' → Same L H' → SqL K H' a us) : Wk K (Ite K a) Y L H1 (enumT 0 ts) := fun i H Y' k sl th => by
  have q := sq H Y' k sl
  rw [enum_len]
  refine ⟨fun hi => ?_, fun hi => ⟨us, q, by rw [← r.1]; exact hi⟩⟩
  have hj : i < us.length := by rw [← r.1]; exact hi
  refine ⟨⟨us, us[i], q, List.getElem?_eq_getElem hj⟩, fun v H' y => ?_⟩
  obtain ⟨m, x, ev, nm, eH, y⟩ := y
  subst ev
  subst eH
  refine ⟨Same.new nm, fun t et => ?_⟩
  obtain ⟨d, e1, e2⟩ := enum_get et
  rw [e2, Nat.zero_add]
  exact rp_pair th nm (.int _) ((r.2 i d x e1 (y us q)).keep k)
theorem fj_enum {elts : List Expr} {kk : Nat} (hg : Gl X "enumerate") (hm : X.mg "enumerate" = none) (ha : EJ X EX e f) (hs : starEach [e] X.env = [(false, eval e X.env)] := by rfl) :
    FJ X EX (.Tuple elts kk tpos) (.Call (.Name "enumerate" p) [e] [] pos) (iE f) := by
  obtain ⟨t, pe, i⟩ := ha.ex
  refine ⟨⟨_, pi_enum hg hm (pa_cons pe pa_nil hs) hs, fun B H0 O env σ H Q R p => ?_⟩⟩
  refine i B H0 O env σ H _ R (p.bind.mono (fun _ _ x => x) fun r q v H1 s r1 => ?_)
  obtain ⟨ts, q', a, us, ev, ra, sq⟩ := itsR_ok R r1 q
  exact ⟨a, us, by rw [ev], sq H1 _ Keep.refl (R.lent.trans (R.same.trans s)), q' _ H1 s (wk_enum ra sq)⟩
theorem zip_get {l m : List T} {i : Nat} {t : T} (h : (zipT l m)[i]? = some t) : ∃ a b, l[i]? = some a ∧ m[i]? = some b ∧ t = .tup [a, b] := by
  unfold zipT at h
  rw [List.getElem?_zipWith] at h
  cases e1 : l[i]? with
  | none => rw [e1] at h; cases h
  | some a =>
    cases e2 : m[i]? with
    | none => rw [e1, e2] at h; cases h
    | some b =>
      rw [e1, e2] at h
      exact ⟨a, b, rfl, rfl, (Option.some.inj h).symm⟩
theorem wk_zip {a b : Addr} {us ws : List V} {ts ds : List T} (r : RpAll K H1 Y ts us) (sq : ∀ H' Y', Keep Y H1 Y' H' → Same L H' → SqL K H' a us) (r' : RpAll K H1 Y ds ws) (sq' : ∀ H' Y', Keep Y H1 Y' H' → Same L H' → SqL K H' b ws) :
    Wk K (Itz K a b) Y L H1 (zipT ts ds) := fun i H Y' k sl th => by
  have q := sq H Y' k sl
  have q' := sq' H Y' k sl
  have len : (zipT ts ds).length = min ts.length ds.length := by simp [zipT]
  rw [len]
  refine ⟨fun hi => ?_, fun hi => ⟨us, ws, q, q', by rw [← r.1, ← r'.1]; omega⟩⟩
  have hj : i < us.length := by rw [← r.1]; omega
  have hk : i < ws.length := by rw [← r'.1]; omega
  refine ⟨⟨us, ws, us[i], ws[i], q, q', List.getElem?_eq_getElem hj, List.getElem?_eq_getElem hk⟩, fun v H' y => ?_⟩
  obtain ⟨m, x, z, ev, nm, eH, y, y'⟩ := y
  subst ev
  subst eH
  refine ⟨Same.new nm, fun t et => ?_⟩
  obtain ⟨d, d', e1, e2, e3⟩ := zip_get et
  rw [e3]
  exact rp_pair th nm ((r.2 i d x e1 (y us q)).keep k) ((r'.2 i d' z e2 (y' ws q')).keep k)
theorem fj_zip {elts : List Expr} {kk : Nat} (hg : Gl X "zip") (hm : X.mg "zip" = none) (ha : EJ X EX e f) (hb : EJ X EX e2 g) (hs : starEach [e, e2] X.env = (false, eval e X.env) :: starEach [e2] X.env := by rfl) (hs2 : starEach [e2] X.env = [(false, eval e2 X.env)] := by rfl)
    (hpl : (backTo pos (starEach [e2] X.env)).any (·.1) = false := by rfl) : FJ X EX (.Tuple elts kk tpos) (.Call (.Name "zip" p) [e, e2] [] pos) (iZ f g) := by
  obtain ⟨t, pe, i⟩ := ha.ex
  obtain ⟨t', pe', i'⟩ := hb.ex
  refine ⟨⟨_, pi_zip hg hm (pa_cons pe (pa_cons pe' pa_nil hs2) hs) hs hpl, fun B H0 O env σ H Q R p => ?_⟩⟩
  refine i B H0 O env σ H _ R (p.bind.mono (fun _ _ x => x) fun r q v H1 s r1 => ?_)
  refine i' B H0 O env σ H1 _ (R.mono s) ((q.bind.up s).mono (fun _ _ x => x) fun r' q2 w H2 s2 r2 => ?_)
  obtain ⟨ts, q3, a, us, ev, ra, sq⟩ := itsR_ok R (r1.mono s2) q2
  obtain ⟨ds, q4, b, ws, ew, rb, sq'⟩ := itsR_ok (R.mono s) r2 q3
  exact ⟨a, b, us, ws, by rw [ev, ew], sq H2 _ Keep.refl (R.lent.trans (R.same.trans (s.trans s2))), sq' H2 _ Keep.refl (R.lent.trans (R.same.trans (s.trans s2))), q4 _ H2 (s.trans s2) (wk_zip ra sq rb sq')⟩
theorem wk_rev {a : Addr} {us : List V} {ts : List T} (r : RpAll K H1 Y ts us) (sq : ∀ H' Y', Keep Y H1 Y' H' → Same L H' → SqL K H' a us) : Wk K (Itv K a us.length) Y L H1 ts.reverse := fun i H Y' k sl th => by
  have q := sq H Y' k sl
  rw [List.length_reverse]
  refine ⟨fun hi => ?_, fun hi => by rw [← r.1]; exact hi⟩
  have hj : us.length - 1 - i < us.length := by have := r.1; omega
  refine ⟨⟨by rw [← r.1]; exact hi, us, us[us.length - 1 - i], q, List.getElem?_eq_getElem hj⟩, fun x H' y => ?_⟩
  obtain ⟨e, y⟩ := y
  subst e
  refine ⟨Same.refl _, fun t et => ?_⟩
  rw [List.getElem?_reverse hi] at et
  have yy := y us q
  rw [← r.1] at yy
  exact (r.2 _ t x et yy).keep k
theorem fj_rev (hg : Gl X "reversed") (hm : X.mg "reversed" = none) (ha : EJ X EX e f) (hs : starEach [e] X.env = [(false, eval e X.env)] := by rfl) : FJ X EX tg (.Call (.Name "reversed" p) [e] [] pos) (iRv f) := by
  obtain ⟨t, pe, i⟩ := ha.ex
  refine ⟨⟨_, pi_reversed hg hm (pa_cons pe pa_nil hs) hs, fun B H0 O env σ H Q R p => ?_⟩⟩
  refine i B H0 O env σ H _ R (p.bind.mono (fun _ _ x => x) fun r q v H1 s r1 => ?_)
  obtain ⟨ts, q', a, us, ev, ra, sq⟩ := itsR_ok R r1 q
  exact ⟨a, us, by rw [ev], sq H1 _ Keep.refl (R.lent.trans (R.same.trans s)), q' _ H1 s (wk_rev ra sq)⟩
theorem fj_str (ha : EJ X EX e f) : FJ X EX tg e (iS f) := by
  obtain ⟨t, pe, i⟩ := ha.ex
  refine ⟨⟨_, pi_str pe, fun B H0 O env σ H Q R p => ?_⟩⟩
  refine i B H0 O env σ H _ R (p.bind.mono (fun _ _ x => x) fun r q v H1 s r1 => ?_)
  split at q
  · rename_i x ex
    refine ⟨x, r1.str ex, q _ H1 s fun i H Y' k sl th => ?_⟩
    have len : (x.cps.toList.map fun c => T.str ⟨#[c]⟩).length = x.cps.size := by simp
    rw [len]
    refine ⟨fun hi => ⟨hi, fun y H' z => ?_⟩, fun hi => hi⟩
    obtain ⟨e, c, hc, ev⟩ := z
    subst e ev
    refine ⟨Same.refl _, fun t et => ?_⟩
    rw [List.getElem?_map, Array.getElem?_toList, hc] at et
    cases et
    exact .str _ (strOk_of (l := [c]) fun d hd => by
      obtain rfl : d = c := by simpa using hd
      exact strOk_mem (r1.strk ex) (by
        have := Array.mem_of_getElem? hc
        simpa using this))
  · exact q.elim
end

/-! ### for, while -/
def forL (g : T → En → Option En) (b : En → Out) : List T → En → Out
  | [], env => .nx env
  | t :: ts, env => match g t env with
    | none => .bad
    | some e => (b e).loop (forL g b ts)
def fFor (f : En → Res (List T)) (g : T → En → Option En) (b : En → Out) (env : En) : Out := sOf f (fun ts env => forL g b ts env) env
/-- at most n turns -/
def whL (c : En → Res Bool) (b : En → Out) : Nat → En → Out
  | 0, _ => .bad
  | n + 1, env => match c env with
    | .ok true => (b env).loop (whL c b n)
    | .ok false => .nx env
    | .exc k p => .exc env k p
    | .bad => .bad
@[simp] def fWh (m : En → Nat) (c : En → Res Bool) (b : En → Out) (env : En) : Out := whL c b (m env) env
def whN (_ : En) : Nat := 1000000000
theorem whN_eq (env : En) : whN env = 1000000000 := rfl
section
variable {X : Cx} {EX : L2.St → XK} {tg iter c : Expr} {body : List Stmt} {f : En → Res (List T)} {g : T → En → Option En} {b : En → Out} {w : En → Res Bool} {pos : Pos}
theorem sj_for (hp : PassesOwn (model X.prog X.w) X.A X.env X.xe) (hc : X.calm = true) {is : List Nat} (hi : FJ X EX tg iter f) (hg : GJ X tg is g) (hb : SsJ X EX body b) (hs : ∀ x, foldedSetIterable iter X.env x = pure x := by intro _; rfl) : SJ X EX (.For tg iter body [] pos) (fFor f g b) := by
  obtain ⟨wi, pi, i⟩ := hi.ex
  obtain ⟨tg', pg, ig⟩ := hg.ex
  obtain ⟨tb, pb, ib⟩ := hb.ex
  refine ⟨⟨_, ps_for hp hc pi pg pb hs, fun B H0 O env σ H D R p => ?_⟩⟩
  refine i B H0 O env σ H _ R ((sOf_post R p).mono (fun _ _ x => x) fun ts q J H1 s wk => ?_)
  refine ⟨fun n m σ' H' => m = ts.length - n ∧ n ≤ ts.length ∧ ∃ O' env', Rel X.K B H0 O' env' σ' H' ∧ Keep (Ex B O) H1 (Ex B O') H' ∧ SPost X EX B H0 O' H' D (forL g b (ts.drop n) env'),
    ⟨ts.length, by simp, Nat.zero_le _, O, env, R.mono s, Keep.refl, (show SPost X EX B H0 O H D (forL g b ts env) from q).up (Same.keepB s)⟩, ?_⟩
  rintro n m σ' H' ⟨rfl, hn, O', env', R', k', q'⟩
  obtain ⟨w1, w2⟩ := wk n H' _ k' (R'.lent.trans R'.same) fun a z => R'.ex_there z
  by_cases hlt : n < ts.length
  · obtain ⟨go, yl⟩ := w1 hlt
    refine .inr ⟨go, fun σ2 H2 => ∃ O2 env2, Rel X.K B H0 O2 env2 σ2 H2 ∧ Keep (Ex B O) H1 (Ex B O2) H2 ∧ SPost X EX B H0 O2 H2 D (forL g b (ts.drop (n + 1)) env2), fun σ2 H2 z => ?_, fun x H2 y => ?_⟩
    · obtain ⟨O2, env2, R2, k2, q2⟩ := z
      exact ⟨ts.length - (n + 1), by omega, rfl, hlt, O2, env2, R2, k2, q2⟩
    · obtain ⟨s2, rp⟩ := yl x H2 y
      have et : ts[n]? = some ts[n] := List.getElem?_eq_getElem hlt
      have ed : ts.drop n = ts[n] :: ts.drop (n + 1) := List.drop_eq_getElem_cons hlt
      rw [ed] at q'
      unfold forL at q'
      refine ig B H0 O' env' σ' H2 x ts[n] _ (R'.mono s2) (rp _ et) ?_
      cases eg : g ts[n] env' with
      | none => rw [eg] at q'; exact q'.elim
      | some e2 =>
        rw [eg] at q'
        intro O2 σ2 R2 k2 _
        have kk : Keep (Ex B O') H' (Ex B O2) H2 := (Same.keepB s2).trans k2
        refine ib B H0 O2 e2 σ2 H2 _ R2 ?_
        simp only at q'
        cases eb : b e2 with
        | nx e3 =>
          rw [eb] at q'
          exact fun O3 σ3 H3 R3 k3 => ⟨O3, e3, R3, (k'.trans kk).trans k3, SPost.up q' (kk.trans k3)⟩
        | ct e3 =>
          rw [eb] at q'
          exact fun O3 σ3 H3 R3 k3 => ⟨O3, e3, R3, (k'.trans kk).trans k3, SPost.up q' (kk.trans k3)⟩
        | bk e3 =>
          rw [eb] at q'
          exact fun O3 σ3 H3 R3 k3 => q' O3 σ3 H3 R3 (kk.trans k3)
        | rt r => rw [eb] at q'; exact q'
        | exc e3 c' p' =>
          rw [eb] at q'
          exact fun O3 σ3 H3 d a ea R3 k3 x3 => q' O3 σ3 H3 d a ea R3 (kk.trans k3) x3
        | rm r e3 =>
          rw [eb] at q'
          exact SPost.rmD (SPost.up (show SPost X EX B H0 O' H' D (.rm r e3) from q') kk) rfl
        | bad => rw [eb] at q'; exact q'.elim
  · have e : n = ts.length := by omega
    subst e
    rw [List.drop_length] at q'
    exact .inl ⟨w2 (Nat.le_refl _), q' O' σ' H' R' Keep.refl⟩
theorem sj_while (m : En → Nat) (hp : PassesOwn (model X.prog X.w) X.A X.env X.xe) (hc : BJ X EX c w) (hb : SsJ X EX body b) : SJ X EX (.While c body [] pos) (fWh m w b) := by
  obtain ⟨tc, pc, ic⟩ := hc.ex
  obtain ⟨tb, pb, ib⟩ := hb.ex
  refine ⟨⟨_, ps_while hp pc pb, fun B H0 O env σ H D R p => ?_⟩⟩
  refine ⟨fun n σ' H' => ∃ O' env', Rel X.K B H0 O' env' σ' H' ∧ SPost X EX B H0 O' H' D (whL w b n env'), ⟨m env, O, env, R, p⟩, ?_⟩
  rintro n σ' H' ⟨O', env', R', q'⟩
  cases n with
  | zero => exact q'.elim
  | succ n =>
    unfold whL at q'
    refine ic B H0 O' env' σ' H' _ R' ?_
    cases ew : w env' with
    | bad => rw [ew] at q'; exact q'.elim
    | exc k p => rw [ew] at q'; exact fun H2 d a ea s x => q' O' σ' H2 d a ea (R'.mono s) (Same.keepB s) x
    | ok t =>
      rw [ew] at q'
      cases t with
      | false => exact fun H2 s => iteF (q' O' σ' H2 (R'.mono s) (Same.keepB s))
      | true =>
        intro H2 s
        refine iteT ⟨fun σ3 H3 => ∃ O3 env3, Rel X.K B H0 O3 env3 σ3 H3 ∧ SPost X EX B H0 O3 H3 D (whL w b n env3), fun σ3 H3 z => ⟨n, Nat.lt_succ_self n, z⟩, ?_⟩
        refine ib B H0 O' env' σ' H2 _ (R'.mono s) ?_
        simp only at q'
        have kk : Keep (Ex B O') H' (Ex B O') H2 := Same.keepB s
        cases eb : b env' with
        | nx e3 =>
          rw [eb] at q'
          exact fun O3 σ3 H3 R3 k3 => ⟨O3, e3, R3, SPost.up q' (kk.trans k3)⟩
        | ct e3 =>
          rw [eb] at q'
          exact fun O3 σ3 H3 R3 k3 => ⟨O3, e3, R3, SPost.up q' (kk.trans k3)⟩
        | bk e3 =>
          rw [eb] at q'
          exact fun O3 σ3 H3 R3 k3 => q' O3 σ3 H3 R3 (kk.trans k3)
        | rt r => rw [eb] at q'; exact q'
        | exc e3 c' p' =>
          rw [eb] at q'
          exact fun O3 σ3 H3 d a ea R3 k3 x3 => q' O3 σ3 H3 d a ea R3 (kk.trans k3) x3
        | rm r e3 =>
          rw [eb] at q'
          exact SPost.rmD (SPost.up (show SPost X EX B H0 O' H' D (.rm r e3) from q') kk) rfl
        | bad => rw [eb] at q'; exact q'.elim
end
end Tr
namespace Tr
open PySem L2

/-! ### x += e -/
def fAug (sub : Bool) (i : Nat) (f : En → Res R) (env : En) : Out := match env[i]? with
  | some (.fz (.int n)) => sOf f (fun r env => match r.d with
    | .int m => .nx (env.set i (.fz (.int (if sub then n - m else n + m))))
    | _ => .bad) env
  | _ => .bad
section
variable {X : Cx} {EX : L2.St → XK} {e : Expr} {u : En → Res R} {pos pos' : Pos} {x : Str}
theorem sj_aug (i : Nat) (he : EJ X EX e u) (hN : X.N.Nodup) (hi : X.N[i]? = some x := by rfl) (hx : Loc X.env.scope x := by first | exact Or.inl rfl | exact Or.inr rfl) (hf : X.fn x = true ∨ X.env.scope.names.lookup x = some .local := by first | exact .inl rfl | exact .inr rfl) :
    SJ X EX (.AugAssign (.Name x pos') .Add e pos) (fAug false i u) := by
  obtain ⟨t, pe, k⟩ := he.ex
  refine ⟨⟨_, ps_aug hN hi hx pe ip_add hf, fun B H0 O env σ H D R p => ?_⟩⟩
  unfold fAug at p
  split at p
  · rename_i n hn
    obtain ⟨_, v, h2, h3⟩ := R.slot i _ hn
    refine ⟨v, h2, k B H0 O env σ H _ R ((sOf_post R p).mono (fun _ _ x => x) fun r q w H1 s r1 => ?_)⟩
    split at q
    · rename_i m em
      refine ⟨n, m, rp_int h3, r1.int em, ?_⟩
      obtain ⟨O', R', k', _⟩ := (R.mono s).store (r := .sh (.int (n + m))) (v := .int (n + m)) (Same.refl H1) (Rp.int _) rfl i
      exact q O' _ H1 R' ((Same.keepB s).trans k')
    · exact q.elim
  · exact p.elim
theorem sj_augs (i : Nat) (he : EJ X EX e u) (hN : X.N.Nodup) (hi : X.N[i]? = some x := by rfl) (hx : Loc X.env.scope x := by first | exact Or.inl rfl | exact Or.inr rfl) (hf : X.fn x = true ∨ X.env.scope.names.lookup x = some .local := by first | exact .inl rfl | exact .inr rfl) :
    SJ X EX (.AugAssign (.Name x pos') .Sub e pos) (fAug true i u) := by
  obtain ⟨t, pe, k⟩ := he.ex
  refine ⟨⟨_, ps_aug hN hi hx pe ip_sub hf, fun B H0 O env σ H D R p => ?_⟩⟩
  unfold fAug at p
  split at p
  · rename_i n hn
    obtain ⟨_, v, h2, h3⟩ := R.slot i _ hn
    refine ⟨v, h2, k B H0 O env σ H _ R ((sOf_post R p).mono (fun _ _ x => x) fun r q w H1 s r1 => ?_)⟩
    split at q
    · rename_i m em
      refine ⟨n, m, rp_int h3, r1.int em, ?_⟩
      obtain ⟨O', R', k', _⟩ := (R.mono s).store (r := .sh (.int (n - m))) (v := .int (n - m)) (Same.refl H1) (Rp.int _) rfl i
      exact q O' _ H1 R' ((Same.keepB s).trans k')
    · exact q.elim
  · exact p.elim
end

/-! ### defs -/
/-- what a def is given: trees that stay, what is lent -/
def StOk (K : PySem.W.Frag) (Hl H : Hp) (X : Xs) : Sl → V → Prop
  | .fz d, v => Rp K H X d v
  | .br d, v => ∃ a ho, v = .ref a ∧ Hl a = some ho ∧ OwnRp K H X d ho
  | _, _ => False
def StAll (K : PySem.W.Frag) (Hl H : Hp) (X : Xs) (sl : List Sl) (vs : List V) : Prop := sl.length = vs.length ∧ ∀ (i : Nat) (s : Sl) (u : V), sl[i]? = some s → vs[i]? = some u → StOk K Hl H X s u
/-- a def's promise: it gives what F gives -/
def SpV (K : PySem.W.Frag) (n : Nat) (F : List Sl → Res R) : Sp := fun vs H Q E => ∃ (sl : List Sl) (X : Xs), (∀ a, X a → ∃ o, H a = some o ∧ nTup o) ∧ StAll K H H X sl vs ∧ sl.length = n ∧
  Post (fun c p => ∀ H' d a, clsA K c = some a → Same H H' → XRel K X H' p d → E (.ref a) d H') (fun r => ∀ v H', Same H H' → RX K X H H' r v → Q v H') (F sl)
def SpT (K : PySem.W.Frag) (n : Nat) (F : List T → Res R) : Sp := fun vs H Q E => ∃ (ds : List T) (X : Xs), (∀ a, X a → ∃ o, H a = some o ∧ nTup o) ∧ RpAll K H X ds vs ∧ ds.length = n ∧
  Post (fun c p => ∀ H' d a, clsA K c = some a → Same H H' → XRel K X H' p d → E (.ref a) d H') (fun r => ∀ v H', Same H H' → RX K X H H' r v → Q v H') (F ds)
/-- a body as a function: n names -/
def runF (n : Nat) (body : En → Out) (ds : List T) : Res R := (body (ds.map Sl.fz ++ List.replicate (n - ds.length) .no)).res
def runV (n : Nat) (body : En → Out) (sl : List Sl) : Res R := (body (sl ++ List.replicate (n - sl.length) .no)).res
theorem runV_F (n : Nat) (body : En → Out) (ds : List T) : runV n body (ds.map Sl.fz) = runF n body ds := by unfold runV runF; rw [List.length_map]
section
variable {P : Program} {w : World} {K : PySem.W.Frag} {mg : Str → Option Value} {base : Heap}
theorem StAll.fz {Hl H : Hp} {X : Xs} {ds : List T} {vs : List V} (h : RpAll K H X ds vs) : StAll K Hl H X (ds.map Sl.fz) vs := ⟨by simp [h.1], fun i s u a b => by
  rw [List.getElem?_map] at a
  cases q : ds[i]? with
  | none => rw [q] at a; cases a
  | some d => rw [q] at a; cases a; exact h.2 i d u q b⟩
theorem noneO {n i : Nat} {a : Addr} : (List.replicate n (none : Option Addr))[i]? ≠ some (some a) := fun z => by
  rw [List.getElem?_replicate] at z
  split at z <;> cases z
theorem exRep {B : Bs} {n : Nat} {a : Addr} : Ex B (List.replicate n none) a ↔ B a := by
  constructor
  · intro z
    rcases z with z | ⟨i, z⟩
    · exact z
    · exact (noneO z).elim
  · exact Or.inl
theorem csRep {B : Bs} {n : Nat} (k : Nat) : csOf B (List.replicate n none) k = B.cs k := by
  unfold csOf
  have e : ((List.replicate n (none : Option Addr))[B.n + k]?).join = none := by
    rw [List.getElem?_replicate]
    split <;> rfl
  rw [e]
  cases B.cs k <;> rfl
/-- how a frame begins; `last`: the cells' slot, if there is one -/
theorem rel_begin {H : Hp} {X : Xs} {sl : List Sl} {vs : List V} {n : Nat} {B : Bs} {last : List Sl} (hX : ∀ a, X a → ∃ o, H a = some o ∧ nTup o) (h : StAll K H H X sl vs) (hn : sl.length + last.length ≤ n)
    (hB : B.x = X ∧ B.n = n ∧ B.h = H) (hl : last = [] ∨ (last = [.st []] ∧ B.act = true ∧ ∀ k, B.cs k = none)) :
    Rel K B H (List.replicate n none) (sl ++ (List.replicate (n - sl.length - last.length) .no ++ last)) (vs.map some ++ List.replicate (n - vs.length) none) H := by
  have e1 := h.1
  obtain ⟨rfl, hBn, hBh⟩ := hB
  have hN : ∀ i, i < n → (List.replicate n (none : Option Addr))[i]? = some none := fun i hi => by rw [List.getElem?_replicate, if_pos hi]
  have lastSt : ∀ (i : Nat) (s : Sl), (sl ++ (List.replicate (n - sl.length - last.length) Sl.no ++ last))[i]? = some s → (i < sl.length ∧ sl[i]? = some s) ∨ (sl.length ≤ i ∧ i < n ∧ (s = .no ∨ (s = .st [] ∧ i + 1 = n ∧ last = [.st []]))) := fun i s e => by
    have hi : i < n := by
      have q := (List.getElem?_eq_some_iff.mp e).1
      simp at q
      omega
    by_cases c : i < sl.length
    · rw [List.getElem?_append_left c] at e
      exact .inl ⟨c, e⟩
    · rw [List.getElem?_append_right (by omega)] at e
      refine .inr ⟨by omega, hi, ?_⟩
      by_cases c2 : i - sl.length < n - sl.length - last.length
      · rw [List.getElem?_append_left (by rw [List.length_replicate]; exact c2), List.getElem?_replicate, if_pos c2] at e
        cases e
        exact .inl rfl
      · rw [List.getElem?_append_right (by rw [List.length_replicate]; omega)] at e
        rcases hl with hl | ⟨hl, _⟩
        · rw [hl] at e; simp at e
        · have hl2 := hl
          rw [hl] at e
          rw [hl] at c2 hn
          simp only [List.length_replicate, List.length_singleton] at e c2 hn
          have : i - sl.length - (n - sl.length - 1) = 0 := by omega
          rw [this] at e
          cases e
          exact .inr ⟨rfl, by omega, hl2⟩
  have exE : ∀ a, Ex B (List.replicate n none) a → B.x a := fun a z => exRep.mp z
  have csE : ∀ k a, B.x.cs k = some a → (Ex B (List.replicate n none)).cs k = some a := fun k a e => (csRep k).trans e
  refine ⟨by simp only [List.length_append, List.length_map, List.length_replicate]; rw [← e1]; omega, by simp only [List.length_append, List.length_replicate]; omega, by rw [hBn, List.length_replicate]; exact Nat.le_refl _, fun _ => by rw [hBn, List.length_replicate], Same.refl H, by rw [hBh]; exact Same.refl H, hX, fun i a e => (noneO e).elim, fun i j a e => (noneO e).elim, fun i s e => ?_, fun i j S S' e e' => ?_⟩
  · rcases lastSt i s e with ⟨c, e⟩ | ⟨c, hi, e⟩
    · have hj : i < vs.length := by rw [← e1]; exact c
      have z := h.2 i s _ e (List.getElem?_eq_getElem hj)
      have eσ : (vs.map some ++ List.replicate (n - vs.length) none)[i]? = some (some vs[i]) := by
        rw [List.getElem?_append_left (by rw [List.length_map]; exact hj), List.getElem?_map, List.getElem?_eq_getElem hj]
        rfl
      have hi : i < n := by omega
      cases s with
      | fz d => exact ⟨hN i hi, _, eσ, Rp.anti z exE csE⟩
      | br d =>
        obtain ⟨a, ho, z1, z2, z3⟩ := z
        exact ⟨hN i hi, a, ho, by rw [eσ, z1], by rw [hBh]; exact z2, z3.anti exE csE⟩
      | _ => exact z.elim
    · rcases e with rfl | ⟨rfl, e1, e2⟩
      · exact hN i hi
      · rcases hl with hl | ⟨_, hact⟩
        · rw [hl] at e2; cases e2
        · exact ⟨hN i hi, by simp [hBn], hact, fun k t e => by simp at e⟩
  · have all : ∀ (i : Nat) (S : List T), (sl ++ (List.replicate (n - sl.length - last.length) Sl.no ++ last))[i]? = some (.st S) → i + 1 = n := fun i S e => by
      rcases lastSt i _ e with ⟨c, e⟩ | ⟨c, hi, e⟩
      · have hj : i < vs.length := by rw [← e1]; exact c
        exact (h.2 i _ _ e (List.getElem?_eq_getElem hj)).elim
      · rcases e with e | ⟨_, e, _⟩
        · cases e
        · exact e
    have := all i S e
    have := all j S' e'
    omega
theorem rel_start {H : Hp} {X : Xs} {sl : List Sl} {vs : List V} {n : Nat} (hX : ∀ a, X a → ∃ o, H a = some o ∧ nTup o) (h : StAll K H H X sl vs) (hn : sl.length ≤ n) :
    Rel K ⟨X.p, none, n, X.cs, H, false⟩ H (List.replicate n none) (sl ++ List.replicate (n - sl.length) .no) (vs.map some ++ List.replicate (n - vs.length) none) H := by
  have z := rel_begin (n := n) (B := ⟨X.p, none, n, X.cs, H, false⟩) (last := []) hX h (by simpa using hn) ⟨rfl, rfl, rfl⟩ (.inl rfl)
  simpa using z
/-- THE RULE for a def -/
theorem fn_V {x qual : Str} {st : Stmt} {f : Addr} {fd : FuncData} {N ps : List Str} {k : Nat} {body : En → Out} (F : Fun K x qual st f fd) (S : FnScope N ps (defScope st))
    (hb : ∀ (cdv : Value) (A : Around) (outer : List Env) (s : Shared) (H : Hp) (E : XK), Room k (A.deeper (PyProof.Rows.envOfC qual (defScope st) s.heap.objs.size f cdv)) →
      SsJ (cxOf (L2.CX P w) P w K mg base N qual (defScope st) f cdv A outer s H E) (fun _ => E) (defBody st) body) :
    FnOk P w K mg base (L2.CX P w) (k + 1) f fd ps (SpV K ps.length (runV N.length body)) := by
  refine F.okX S (fun vs H Q E h => ?_) (fun cdv A outer s H vs Q E hr h => ?_)
  · obtain ⟨ds, X, _, h2, h3, _⟩ := h
    rw [← h2.1, h3]
  · obtain ⟨ds, X, h1, h2, h3, p⟩ := h
    obtain ⟨t, ps', i⟩ := (hb cdv A outer s H E hr).ex
    refine ⟨t, ps', ?_⟩
    have hpl : ps.length ≤ N.length := by have := congrArg List.length S.pre; rw [List.length_take] at this; omega
    have z0 : Rel K ⟨X.p, none, N.length, X.cs, H, false⟩ H (List.replicate N.length none) (ds ++ List.replicate (N.length - ds.length) .no) (L2.start N vs) H := rel_start (n := N.length) h1 h2 (by omega)
    refine i _ H _ _ _ H _ z0 ?_
    unfold runV Out.res at p
    split at p
    · rename_i e q
      rw [q]
      exact fun O' σ' H' R' _ => p .non H' R'.same (Rp.non)
    · exact p.elim
    · rename_i r nv q
      rw [q]
      refine ⟨.inl rfl, ?_, p⟩
      cases r with
      | vw d => exact (nv d rfl).elim
      | _ => rfl
    · rename_i e c pl q
      rw [q]
      exact fun O' σ' H' d a ea R' _ x => p H' d a ea R'.same (by
        cases pl with
        | none => exact x
        | some t =>
          obtain ⟨a, v, z1, z2, z3⟩ := x
          exact ⟨a, v, z1, z2, z3.anti (fun b zb => .inl zb) fun k a e => (R'.cs0 rfl).symm.trans e⟩)
    · exact p.elim
theorem fnV_T {k n : Nat} {f : Addr} {fd : FuncData} {ps : List Str} {m : Nat} {body : En → Out} (h : FnOk P w K mg base (L2.CX P w) k f fd ps (SpV K n (runV m body))) : FnOk P w K mg base (L2.CX P w) k f fd ps (SpT K n (runF m body)) := by
  have up : ∀ vs H Q E, SpT K n (runF m body) vs H Q E → SpV K n (runV m body) vs H Q E := fun vs H Q E ⟨ds, X, h1, h2, h3, p⟩ => ⟨ds.map .fz, X, h1, .fz h2, by simpa using h3, by rw [runV_F]; exact p⟩
  exact h.imp up
theorem fn_T {x qual : Str} {st : Stmt} {f : Addr} {fd : FuncData} {N ps : List Str} {k : Nat} {body : En → Out} (F : Fun K x qual st f fd) (S : FnScope N ps (defScope st))
    (hb : ∀ (cdv : Value) (A : Around) (outer : List Env) (s : Shared) (H : Hp) (E : XK), Room k (A.deeper (PyProof.Rows.envOfC qual (defScope st) s.heap.objs.size f cdv)) →
      SsJ (cxOf (L2.CX P w) P w K mg base N qual (defScope st) f cdv A outer s H E) (fun _ => E) (defBody st) body) :
    FnOk P w K mg base (L2.CX P w) (k + 1) f fd ps (SpT K ps.length (runF N.length body)) := fnV_T (fn_V F S hb)
end

/-! ### calls of defs -/
/-- no list, dict, object within -/
def T.fl : Nat → T → Bool
  | _, .non => true
  | _, .bl _ => true
  | _, .int _ => true
  | _, .str _ => true
  | n + 1, .tup l => l.all (T.fl n)
  | _, _ => false
def T.flR : R → Bool
  | .sh d => T.fl 8 d
  | .fr (.lst l) => l.all (T.fl 8)
  | _ => false
def T.flX : Option T → Bool
  | none => true
  | some t => T.fl 8 t
def callR (F : List T → Res R) (rs : List R) : Res R := match F (rs.map R.d) with
  | .ok r => if rs.all R.kp = true ∨ T.flR r = true then .ok r else .bad
  | .exc c p => if rs.all R.kp = true ∨ T.flX p = true then .exc c p else .bad
  | .bad => .bad
@[simp] def fCall (F : List T → Res R) (f : En → Res (List R)) (env : En) : Res R := (f env).bind (callR F)
theorem Rp.flat {K : PySem.W.Frag} {H : Hp} {B B' : Xs} {t : T} {v : V} (h : Rp K H B t v) (th : ∀ a, B' a → ∀ us, H a ≠ some (.tup us)) : ∀ n, T.fl n t = true → Rp K H B' t v := by
  induction h with
  | non => exact fun _ _ => .non
  | bl b => exact fun _ _ => .bl b
  | int i => exact fun _ _ => .int i
  | str x h => exact fun _ _ => .str x h
  | tup h n hl _ ih =>
    intro m hm
    cases m with
    | zero => simp [T.fl] at hm
    | succ m =>
      have hm' : List.all _ (T.fl m) = true := hm
      exact .tup h (fun z => th _ z _ h) hl fun i t u a b => ih i t u a b m (List.all_eq_true.mp hm' t (List.mem_of_getElem? a))
  | _ => intro m hm; cases m <;> simp [T.fl] at hm
section
variable {X : Cx} {EX : L2.St → XK} {e : Expr} {es : List Expr} {g : En → Res (List R)} {F : List T → Res R} {k n : Nat} {f : Addr} {fd : FuncData} {ps : List Str} {x : Str} {p pos : Pos}
theorem RRs.rp0 {K : PySem.W.Frag} {B : Bs} {O : Ow} {H H1 : Hp} : ∀ {rs : List R} {vs : List V}, RRs K B O H H1 rs vs → RpAll K H1 (Ex B O).bare (rs.map R.d) vs
  | [], [], _ => .nil
  | r :: rs, v :: vs, h => .cons h.1.rp0 (RRs.rp0 h.2)
  | [], _ :: _, h => h.elim
  | _ :: _, [], h => h.elim
theorem XRel.flat {K : PySem.W.Frag} {X X' : Xs} {H : Hp} {p : Option T} {d : Option Addr} (h : XRel K X H p d) (th : ∀ a, X' a → ∀ us, H a ≠ some (.tup us)) (hp : T.flX p = true) : XRel K X' H p d := by
  cases p with
  | none => exact h
  | some t =>
    obtain ⟨a, v, z1, z2, z3⟩ := h
    exact ⟨a, v, z1, z2, z3.flat th 8 hp⟩
theorem RX.rr {K : PySem.W.Frag} {B : Bs} {O : Ow} {H H1 H2 : Hp} {r : R} {v : V} (h : RX K (Ex B O) H1 H2 r v) (s : Same H H1) : RR K B O H H2 r v := by
  cases r with
  | sh d => exact h
  | fr d =>
    obtain ⟨pp, ho, z1, z2, z3, z4⟩ := h
    exact ⟨pp, ho, z1, s.free z2, z3, z4⟩
  | bo i d => exact h.elim
  | vw d => exact h.elim
theorem Rel.th {K : PySem.W.Frag} {B : Bs} {H0 H H' : Hp} {O : Ow} {env : En} {σ : L2.St} (R0 : Rel K B H0 O env σ H) (s : Same H H') : ∀ a, Ex B O a → ∀ us, H' a ≠ some (.tup us) := fun a z us e => by
  obtain ⟨o, e1, nt⟩ := R0.ex_ntup z
  have e2 := s _ _ e1
  rw [e2] at e
  exact nt.1 us (Option.some.inj e)
theorem call_core {B H0 O env σ H H1} {rs : List R} {vs : List V} {Q : VK} (R0 : Rel X.K B H0 O env σ H) (s : Same H H1) (r1 : RRs X.K B O H H1 rs vs) (hn : rs.length = n)
    (q : Post (XC X.K B O EX σ H) (fun r => ∀ v H', Same H H' → RR X.K B O H H' r v → Q v H') (callR F rs)) : SpT X.K n F vs H1 Q (EX σ) := by
  unfold callR at q
  by_cases kp : rs.all R.kp = true
  · refine ⟨rs.map R.d, Ex B O, fun a z => ?_, RRs.rp R0 r1 kp, by rw [List.length_map]; exact hn, ?_⟩
    · obtain ⟨o, e, nt⟩ := R0.ex_ntup z
      exact ⟨o, s a o e, nt⟩
    · cases ef : F (rs.map R.d) with
      | ok r =>
        rw [ef] at q
        simp only [kp, true_or, if_true] at q
        intro v H' s' rr
        exact q v H' (s.trans s') (rr.rr s)
      | exc c pl =>
        rw [ef] at q
        simp only [kp, true_or, if_true] at q
        exact fun H' d a ea s' xx => q H' d a ea (s.trans s') xx
      | bad => rw [ef] at q; exact q.elim
  · refine ⟨rs.map R.d, (Ex B O).bare, fun a z => z.elim, RRs.rp0 r1, by rw [List.length_map]; exact hn, ?_⟩
    cases ef : F (rs.map R.d) with
    | ok r =>
      rw [ef] at q
      by_cases fl : T.flR r = true
      · simp only [fl, or_true, if_true] at q
        intro v H' s' rr
        refine q v H' (s.trans s') ?_
        have th := R0.th (s.trans s')
        cases r with
        | sh d => exact Rp.flat rr th 8 fl
        | fr d =>
          obtain ⟨pp, ho, z1, z2, z3, z4⟩ := rr
          refine ⟨pp, ho, z1, s.free z2, z3, ?_⟩
          cases z4 with
          | @lst l us z4 =>
            have fl' : l.all (T.fl 8) = true := fl
            refine .lst ⟨z4.1, fun i t u a b => (z4.2 i t u a b).flat (fun c z us' ec => ?_) 8 (List.all_eq_true.mp fl' t (List.mem_of_getElem? a))⟩
            rcases z with z | z
            · exact th c z us' ec
            · rw [z, z3] at ec; cases ec
          | _ => cases fl
        | bo i d => cases fl
        | vw d => cases fl
      · simp only [fl, kp, or_self, if_false] at q
        exact q.elim
    | exc c pl =>
      rw [ef] at q
      by_cases fl : T.flX pl = true
      · simp only [fl, or_true, if_true] at q
        exact fun H' d a ea s' xx => q H' d a ea (s.trans s') (xx.flat (R0.th (s.trans s')) fl)
      · simp only [fl, kp, or_self, if_false] at q
        exact q.elim
    | bad => rw [ef] at q; exact q.elim
/-- as it is handed in -/
def R.arg : R → Sl
  | .sh d => .fz d
  | .fr d => .fz d
  | .bo _ d => .br d
  | .vw d => .br d
theorem RRs.arg {K : PySem.W.Frag} {B : Bs} {O : Ow} {H0 H H1 : Hp} {env : En} {σ : L2.St} (R0 : Rel K B H0 O env σ H) : ∀ {rs : List R} {vs : List V}, RRs K B O H H1 rs vs → StAll K H1 H1 (Ex B O) (rs.map R.arg) vs
  | [], [], _ => ⟨rfl, fun i s u a => by simp at a⟩
  | r :: rs, v :: vs, h => by
    obtain ⟨l, g⟩ := RRs.arg R0 h.2
    refine ⟨by simp [l], fun i s u a b => ?_⟩
    cases i with
    | zero =>
      simp at a b
      subst a b
      cases r with
      | sh d => exact h.1
      | fr d => exact h.1.rp R0 rfl
      | bo i d =>
        obtain ⟨a, ho, e1, e2, e3, e4⟩ := h.1
        exact ⟨a, ho, e2, e3, e4⟩
      | vw d =>
        obtain ⟨a, ho, e1, e2, e3, e4⟩ := h.1
        exact ⟨a, ho, e2, e3, e4⟩
    | succ i => exact g i s u (by simpa using a) (by simpa using b)
  | [], _ :: _, h => h.elim
  | _ :: _, [], h => h.elim
@[simp] def fCallV (F : List Sl → Res R) (f : En → Res (List R)) (env : En) : Res R := (f env).bind fun rs => F (rs.map R.arg)
theorem callV_core {F : List Sl → Res R} {B H0 O env σ H H1} {rs : List R} {vs : List V} {Q : VK} (R0 : Rel X.K B H0 O env σ H) (s : Same H H1) (r1 : RRs X.K B O H H1 rs vs) (hn : rs.length = n)
    (q : Post (XC X.K B O EX σ H) (fun r => ∀ v H', Same H H' → RR X.K B O H H' r v → Q v H') (F (rs.map R.arg))) : SpV X.K n F vs H1 Q (EX σ) := by
  refine ⟨rs.map R.arg, Ex B O, fun a z => ?_, RRs.arg R0 r1, by rw [List.length_map]; exact hn, q.mono (fun c p x H' d a ea s' xx => x H' d a ea (s.trans s') xx) fun r x v H' s' rr => x v H' (s.trans s') (rr.rr s)⟩
  obtain ⟨o, e, nt⟩ := R0.ex_ntup z
  exact ⟨o, s a o e, nt⟩
theorem aj_len : True := trivial
theorem ej_call {CXt : CXT} (F' : FnOk X.prog X.w X.K X.mg X.base CXt k f fd ps (SpT X.K n F)) (hr : Room k X.A) (hg : Gl X x) (hm : X.mg x = some (.ref f)) (hk : PySem.W.keepIn X.K (.ref f) = true) (hb : Binds X.K fd ps []) (hx : ∀ σ, PassesAt CXt X σ (EX σ))
    (ha : AJ X EX (e :: es) g) (hn : ∀ env rs, g env = .ok rs → rs.length = n) (hdb : (x == ("__debug__" : Str)) = false := by decide) (he : starEach (e :: es) X.env = (false, eval e X.env) :: starEach es X.env := by rfl) (hpl : (backTo pos (starEach es X.env)).any (·.1) = false := by rfl) :
    EJ X EX (.Call (.Name x p) (e :: es) [] pos) (fCall F g) := by
  obtain ⟨t, pa, i⟩ := ha.ex
  refine ⟨⟨_, pe_callS F' hr hg hm hk hb hx pa hdb he hpl, fun B H0 O env σ H Q R q => ?_⟩⟩
  have q' : Post (XC X.K B O EX σ H) (fun rs => g env = .ok rs ∧ Post (XC X.K B O EX σ H) (fun r => ∀ v H', Same H H' → RR X.K B O H H' r v → Q v H') (callR F rs)) (g env) := by
    have z := q.bind
    cases eg : g env with
    | ok rs => rw [eg] at z; exact ⟨rfl, z⟩
    | exc c p => rw [eg] at z; exact z
    | bad => rw [eg] at z; exact z
  refine i B H0 O env σ H _ R (q'.mono (fun _ _ x => x) fun rs z vs H1 s r1 => ?_)
  exact call_core R s r1 (hn env rs z.1) z.2
end
theorem fN_len {env : En} {rs : List R} (h : fN env = .ok rs) : rs.length = 0 := by cases h; rfl
theorem fA_len {f : En → Res R} {g : En → Res (List R)} {n : Nat} (hg : ∀ env rs, g env = .ok rs → rs.length = n) : ∀ env rs, fA f g env = .ok rs → rs.length = n + 1 := fun env rs h => by
  unfold fA at h
  cases e1 : f env with
  | ok r =>
    rw [e1] at h
    cases e2 : g env with
    | ok rs' =>
      rw [e2] at h
      have h' : (Res.ok (r :: rs') : Res (List R)) = .ok rs := h
      cases h'
      simp [hg env rs' e2]
    | exc c p => rw [e2] at h; cases h
    | bad => rw [e2] at h; cases h
  | exc c p => rw [e1] at h; cases h
  | bad => rw [e1] at h; cases h

/-! ### comprehensions -/
/-- the canonical readings -/
def tOf (K : PySem.W.Frag) (EX : L2.St → XK) (f : En → Res R) : TE := fun σ H Q => ∃ B H0 O env, Rel K B H0 O env σ H ∧ Post (XC K B O EX σ H) (fun r => ∀ v H', Same H H' → RR K B O H H' r v → Q v H') (f env)
def ttOf (K : PySem.W.Frag) (EX : L2.St → XK) (f : En → Res Bool) : TT := fun σ H Q => ∃ B H0 O env, Rel K B H0 O env σ H ∧ Post (XC K B O EX σ H) (fun b => ∀ H', Same H H' → Q b H') (f env)
def gOf (K : PySem.W.Frag) (is : List Nat) (g : T → En → Option En) : TG := fun v σ H Q => ∃ B H0 O env d, Rel K B H0 O env σ H ∧ Rp K H (Ex B O) d v ∧
  match g d env with
    | some env' => ∀ O' σ', Rel K B H0 O' env' σ' H → Keep (Ex B O) H (Ex B O') H → Wp is O O' σ σ' → Q σ' H
    | none => False
section
variable {X : Cx} {EX : L2.St → XK} {e : Expr} {f : En → Res R} {w : En → Res Bool} {is : List Nat} {g : T → En → Option En}
theorem EJ.pe (h : EJ X EX e f) : PE X e (tOf X.K EX f) := by
  obtain ⟨t, pe, i⟩ := h.ex
  exact ⟨fun pins s σ H Q I ⟨B, H0, O, env, R, p⟩ => pe.run pins s σ H Q I (i B H0 O env σ H Q R p)⟩
theorem BJ.pt (h : BJ X EX e w) : PT X e (ttOf X.K EX w) := by
  obtain ⟨t, pe, i⟩ := h.ex
  exact ⟨fun pins s σ H Q I ⟨B, H0, O, env, R, p⟩ => pe.run pins s σ H Q I (i B H0 O env σ H Q R p)⟩
theorem GJ.pg (h : GJ X e is g) : PG X e (gOf X.K is g) := by
  obtain ⟨t, pe, i⟩ := h.ex
  exact ⟨fun pins s σ H v u Q I r ⟨B, H0, O, env, d, R, rp, p⟩ => pe.run pins s σ H v u Q I r (i B H0 O env σ H v d Q R rp p)⟩
end
/-- the tests of a clause -/
structure TsJ (X : Cx) (EX : L2.St → XK) (es : List Expr) (f : En → Res Bool) : Prop where
  pt : PTs X es (ttOf X.K EX f)
@[simp] def fYes (_ : En) : Res Bool := .ok true
theorem tsj_nil {X : Cx} {EX : L2.St → XK} : TsJ X EX [] fYes := ⟨⟨fun pins s σ H Q I ⟨B, H0, O, env, R, p⟩ => pts_nil.run pins s σ H Q I (p H (Same.refl H))⟩⟩
theorem tsj_one {X : Cx} {EX : L2.St → XK} {e : Expr} {f : En → Res Bool} (h : BJ X EX e f) : TsJ X EX [e] f := ⟨pts_one h.pt⟩
def isOw : Option Sl → Bool
  | some (.ow _) => true
  | some (.sf _) => true
  | some (.st _) => true
  | none => true
  | _ => false
def wipeE (env : En) : List Nat → En
  | [] => env
  | v :: vs => (wipeE env vs).set v .no
def compL (g : T → En → Option En) (tt : En → Res Bool) (te : En → Res R) (env : En) : List T → List T → Res (List T)
  | [], acc => .ok acc
  | t :: ts, acc => match g t env with
    | none => .bad
    | some e1 => match tt e1 with
      | .ok true => (match te e1 with
        | .ok r => if r.kp = true ∧ acc.length < sizeLine then compL g tt te env ts (acc ++ [r.d]) else .bad
        | _ => .bad)
      | .ok false => compL g tt te env ts acc
      | _ => .bad
def fComp (is : List Nat) (f : En → Res (List T)) (g : T → En → Option En) (tt : En → Res Bool) (te : En → Res R) (env : En) : Res R := (f env).bind fun ts =>
  if is.any (fun i => isOw env[i]?) = true then .bad else
  match compL g tt te (wipeE env is) ts [] with
  | .ok l => .ok (.fr (.lst l))
  | _ => .bad
abbrev EX0 : L2.St → XK := fun _ _ _ _ => False
theorem wipeE_get : ∀ (vs : List Nat) (env : En) (j : Nat), (wipeE env vs)[j]? = if j ∈ vs ∧ j < env.length then some .no else env[j]?
  | [], env, j => by simp [wipeE]
  | v :: vs, env, j => by
    have len : ∀ (us : List Nat), (wipeE env us).length = env.length := fun us => by
      induction us with
      | nil => rfl
      | cons a us ih => show ((wipeE env us).set a .no).length = _; rw [List.length_set, ih]
    show ((wipeE env vs).set v .no)[j]? = _
    rw [List.getElem?_set, len, wipeE_get vs env j]
    by_cases e : v = j
    · subst e
      by_cases q : v < env.length
      · simp [q]
      · have z : env[v]? = none := List.getElem?_eq_none (by omega)
        simp [q, z]
    · have e' : ¬ j = v := fun q => e q.symm
      simp [e, e']
theorem wipeE_len (env : En) : ∀ vs : List Nat, (wipeE env vs).length = env.length
  | [] => rfl
  | v :: vs => by show ((wipeE env vs).set v .no).length = _; rw [List.length_set, wipeE_len env vs]
theorem ntL (us : List V) : nTup (.lst us) := ⟨fun _ z => (by cases z), fun _ z => (by cases z)⟩
section
variable {K : PySem.W.Frag} {B : Bs} {H0 H H1 : Hp} {O : Ow} {env : En} {σ : L2.St}
/-- the block of a comprehension: its own names empty, the new list at D not to be spoken of -/
theorem Rel.block (R : Rel K B H0 O env σ H) (s : Same H H1) {D : Addr} {o : HO} (hD : H D = none) (hD1 : H1 D = some o) (nt : nTup o) (is : List Nat) (hw : is.any (fun i => isOw env[i]?) = false) :
    Rel K (B.add D) H0 O (wipeE env is) (wipe σ is) H1 where
  len := by rw [wipe_length, wipeE_len]; exact R.len
  lenN := by rw [wipeE_len]; exact R.lenN
  lenO := R.lenO
  cells := R.cells
  same := R.same.trans s
  lent := R.lent
  there := fun a z => by
    rcases z with z | z
    · obtain ⟨o, e, n⟩ := R.there a z
      exact ⟨o, s a o e, n⟩
    · rw [z]; exact ⟨o, hD1, nt⟩
  own := fun i a e => by
    obtain ⟨h0, nb, ho, h1, n⟩ := R.own i a e
    refine ⟨h0, fun z => ?_, ho, s _ _ h1, n⟩
    rcases z with z | z
    · exact nb z
    · rw [z, hD] at h1
      cases h1
  uniq := R.uniq
  slot := fun i sl e => by
    rw [wipeE_get] at e
    have sub : ∀ a, Ex (B.add D) O a → Ex B O a ∨ a = D := fun a z => by
      rcases z with (z | z) | z
      · exact .inl (.inl z)
      · exact .inr z
      · exact .inl (.inr z)
    have k : Keep (Ex B O) H (Ex (B.add D) O) H1 := ⟨fun b o e n => ⟨s b o e, fun z => (sub b z).elim n fun q => by rw [q, hD] at e; cases e⟩, fun _ _ e => e⟩
    by_cases c : i ∈ is ∧ i < env.length
    · rw [if_pos c] at e
      cases e
      have z : isOw env[i]? = false := by
        cases q : isOw env[i]? with
        | false => rfl
        | true =>
          have : is.any (fun i => isOw env[i]?) = true := List.any_eq_true.mpr ⟨i, c.1, q⟩
          rw [hw] at this
          cases this
      have es : env[i]? = some env[i] := List.getElem?_eq_getElem c.2
      have h := R.slot i _ es
      rw [es] at z
      cases q : env[i] with
      | no => rw [q] at h; exact h
      | fz d => rw [q] at h; exact h.1
      | br d => rw [q] at h; exact h.1
      | rd d => rw [q] at h; exact h.1
      | ow d => rw [q] at z; cases z
      | sf d => rw [q] at z; cases z
      | st d => rw [q] at z; cases z
    · rw [if_neg c] at e
      have h := R.slot i sl e
      have hi : i < env.length := (List.getElem?_eq_some_iff.mp e).1
      have ni : i ∉ is := fun z => c ⟨z, hi⟩
      exact h.upB ⟨rfl, rfl, rfl, rfl, rfl⟩ k rfl (by rw [wipe_get, if_neg (fun z => ni z.1)]) rfl (fun _ => rfl) fun m a o _ _ h => s a o h
  one := fun i j S S' e e' => by
    rw [wipeE_get] at e e'
    split at e
    · cases e
    · split at e'
      · cases e'
      · exact R.one i j S S' e e'
end
section
variable {X : Cx} {EX : L2.St → XK} {elt tg iter : Expr} {ifs : List Expr} {scope : Scope} {own : List (Str × Nat)} {is : List Nat} {f : En → Res (List T)} {g : T → En → Option En} {tt : En → Res Bool} {te : En → Res R} {pos : Pos}
theorem comp_core {wi : TI}
    (i : ∀ B H0 O env σ H (Q : It → Hp → Prop), Rel X.K B H0 O env σ H → Post (XC X.K B O EX σ H) (fun ts => ∀ J H', Same H H' → Wk X.K J (Ex B O) B.h H' ts → Q J H') (f env) → wi σ H Q)
    (sub : ∀ j ∈ is, j ∈ own.map (·.2)) (B H0 O env σ H) (Q : VK) (R : Rel X.K B H0 O env σ H)
    (p : Post (XC X.K B O EX σ H) (fun r => ∀ v H', Same H H' → RR X.K B O H H' r v → Q v H') (fComp (own.map (·.2)) f g tt te env)) :
    tLc wi (gOf X.K is g) (ttOf X.K EX0 tt) (tOf X.K EX0 te) (own.map (·.2)) σ H Q := by
  obtain ⟨vs, hvs⟩ : ∃ vs, vs = own.map (·.2) := ⟨_, rfl⟩
  rw [← hvs] at p sub ⊢
  refine i B H0 O env σ H _ R (p.bind.mono (fun _ _ x => x) fun ts q J H1 s wk => ?_)
  intro D hD1
  have hD : H D = none := s.free hD1
  split at q
  · exact q.elim
  · rename_i hw
    have hw' : vs.any (fun i => isOw env[i]?) = false := by simpa using hw
    refine ⟨fun n m H' => m = ts.length - n ∧ n ≤ ts.length ∧ ∃ acc us, Same H1 H' ∧ H' D = some (.lst us) ∧ RpAll X.K H' ((Ex B O).add D) acc us ∧
      Post (fun _ _ => False) (fun l => ∀ v H'', Same H H'' → RR X.K B O H H'' (.fr (.lst l)) v → Q v H'') (compL g tt te (wipeE env vs) (ts.drop n) acc),
      ⟨ts.length, by simp, Nat.zero_le _, [], [], Same.new hD1, upd_same, .nil, ?_⟩, ?_⟩
    · rw [List.drop_zero]
      cases ec : compL g tt te (wipeE env vs) ts [] with
      | ok l => rw [ec] at q; exact q
      | exc c pl => rw [ec] at q; exact q.elim
      | bad => rw [ec] at q; exact q.elim
    · rintro n m H' ⟨rfl, hn, acc, us, s', hD', ra, q'⟩
      have kp : Keep (Ex B O) H1 (Ex B O) H' := ⟨fun a o e n => ⟨s' a o e, n⟩, fun _ _ e => e⟩
      obtain ⟨w1, w2⟩ := wk n H' ((Ex B O).add D) ⟨fun a o e n => ⟨s' a o e, fun z => z.elim n fun y => by rw [y, hD1] at e; cases e⟩, fun _ _ e => e⟩ ((R.lent.trans R.same).trans (s.trans s')) fun a z => by
        rcases z with z | z
        · obtain ⟨o, e⟩ := R.ex_there z
          exact ⟨o, s' _ _ (s _ _ e)⟩
        · rw [z]; exact ⟨_, hD'⟩
      by_cases hlt : n < ts.length
      · obtain ⟨go, yl⟩ := w1 hlt
        refine .inr ⟨go, fun H2 => ∃ acc us, Same H1 H2 ∧ H2 D = some (.lst us) ∧ RpAll X.K H2 ((Ex B O).add D) acc us ∧
          Post (fun _ _ => False) (fun l => ∀ v H'', Same H H'' → RR X.K B O H H'' (.fr (.lst l)) v → Q v H'') (compL g tt te (wipeE env vs) (ts.drop (n + 1)) acc), fun H2 z => ⟨ts.length - (n + 1), by omega, rfl, hlt, z⟩, fun x H2 y => ?_⟩
        obtain ⟨s2, rp⟩ := yl x H2 y
        have et : ts[n]? = some ts[n] := List.getElem?_eq_getElem hlt
        have ed : ts.drop n = ts[n] :: ts.drop (n + 1) := List.drop_eq_getElem_cons hlt
        rw [ed] at q'
        unfold compL at q'
        have s02 : Same H H2 := (s.trans s').trans s2
        have hD2 : H2 D = some (.lst us) := s2 _ _ hD'
        have Rb := R.block s02 hD hD2 (ntL us) vs hw'
        have exE : ∀ a, Ex (B.add D) O a ↔ (Ex B O a ∨ a = D) := fun a => ⟨fun z => by
            rcases z with (z | z) | z
            · exact .inl (.inl z)
            · exact .inr z
            · exact .inl (.inr z), fun z => by
            rcases z with (z | z) | z
            · exact .inl (.inl z)
            · exact .inr z
            · exact .inl (.inr z)⟩
        refine ⟨_, H0, O, wipeE env vs, ts[n], Rb, (rp _ et).anti fun a z => (exE a).mp z, ?_⟩
        cases eg : g ts[n] (wipeE env vs) with
        | none => rw [eg] at q'; exact q'.elim
        | some e2 =>
          rw [eg] at q'
          intro O2 σ2 R2 k2 w2
          refine ⟨(w2.1 vs sub).trans (by
            apply List.ext_getElem?
            intro j
            rw [wipe_get, wipe_length]
            rw [wipe_get]
            by_cases c : j ∈ vs ∧ j < σ.length
            · rw [if_pos c, if_pos c]
            · rw [if_neg c, if_neg c]), _, H0, O2, e2, R2, ?_⟩
          have lt : ∀ j ∈ vs, j < B.n := fun j m => by
            rw [← R.lenN]
            apply Classical.byContradiction
            intro c
            have : vs.any (fun i => isOw env[i]?) = true := List.any_eq_true.mpr ⟨j, m, by rw [List.getElem?_eq_none (by omega)]; rfl⟩
            rw [hw'] at this
            cases this
          have csE : ∀ k a, (Ex (B.add D) O2).cs k = some a → ((Ex B O).add D).cs k = some a := fun k a e => by
            have q := w2.2 (B.n + k) fun m => by have := lt _ (sub _ m); omega
            have e' : csOf (B.add D) O2 k = some a := e
            show csOf B O k = some a
            unfold csOf at e' ⊢
            have q' : O2[(B.add D).n + k]? = O[B.n + k]? := q
            rw [q'] at e'
            exact e'
          simp only at q'
          cases eb : tt e2 with
          | bad => rw [eb] at q'; exact q'.elim
          | exc c pl => rw [eb] at q'; exact q'.elim
          | ok b =>
            rw [eb] at q'
            intro H3 s3
            cases b with
            | false =>
              refine iteF ⟨acc, us, (s'.trans s2).trans s3, s3 _ _ hD2, (ra.same s2).same s3, q'⟩
            | true =>
              refine iteT ⟨_, H0, O2, e2, R2.mono s3, ?_⟩
              simp only at q'
              cases er : te e2 with
              | bad => rw [er] at q'; exact q'.elim
              | exc c pl => rw [er] at q'; exact q'.elim
              | ok r =>
                rw [er] at q'
                intro v H4 s4 r4
                simp only at q'
                by_cases c : r.kp = true ∧ acc.length < sizeLine
                · rw [if_pos c] at q'
                  have st : Same H2 H4 := s3.trans s4
                  have hD4 : H4 D = some (.lst us) := st _ _ hD2
                  have ra4 := (ra.same s2).same st
                  refine ⟨us, hD4, by rw [← ra4.1]; exact c.2, acc ++ [r.d], us ++ [v], fun a o e => ?_, upd_same, ?_, q'⟩
                  · rw [upd_ne (ne_of_none e hD1)]
                    exact st _ _ (s2 _ _ (s' _ _ e))
                  · -- what is made does not hold what is owned at the entry
                    have rpD : Rp X.K H4 (Ex (B.add D) O2) r.d v := r4.rp (R2.mono s3) c.1
                    have rpO : Rp X.K H4 ((Ex B O).add D) r.d v := by
                      refine rpD.anti (fun a z => ?_) csE
                      rcases z with (z | ⟨j, z⟩) | z
                      · exact .inl (.inl z)
                      · -- owned at the entry: owned in the block as well
                        have nj : j ∉ is := fun m => by
                          have hj := sub j m
                          have hl : j < env.length := by rw [R.lenN]; exact lt j hj
                          have es : env[j]? = some env[j] := List.getElem?_eq_getElem hl
                          have h := R.slot j _ es
                          have no : isOw env[j]? = true → False := fun q => by
                            have : vs.any (fun i => isOw env[i]?) = true := List.any_eq_true.mpr ⟨j, hj, q⟩
                            rw [hw'] at this
                            cases this
                          cases q : env[j] with
                          | no => rw [q] at h; rw [show O[j]? = some none from h] at z; cases z
                          | fz d => rw [q] at h; rw [h.1] at z; cases z
                          | br d => rw [q] at h; rw [h.1] at z; cases z
                          | rd d => rw [q] at h; rw [h.1] at z; cases z
                          | _ => exact no (by rw [es, q]; rfl)
                        have hO : O2[j]? = some (some a) := (w2.2 j nj).trans z
                        exact .inr ⟨j, hO⟩
                      · exact .inl (.inr z)
                    have all := ra4.append (.one rpO)
                    exact all.keep ⟨fun a o e n => ⟨by rw [upd_ne (fun z => n (.inr z))]; exact e, n⟩, fun _ _ e => e⟩
                · rw [if_neg c] at q'; exact q'.elim
      · have e : n = ts.length := by omega
        subst e
        rw [List.drop_length] at q'
        refine .inl ⟨w2 (Nat.le_refl _), q' (.ref D) H' (s.trans s') ⟨D, _, rfl, hD, hD', .lst ra⟩⟩
end
end Tr
namespace Tr
open PySem L2

/-! ### what the proof never comes to -/
@[simp] def fBad (_ : En) : Out := .bad
theorem sj_never {X : Cx} {EX : L2.St → XK} {st : Stmt} : SJ X EX st fBad := ⟨⟨_, ps_never, fun B H0 O env σ H D R p => p.elim⟩⟩
theorem ssj_never {X : Cx} {EX : L2.St → XK} {st : List Stmt} : SsJ X EX st fBad := ⟨⟨_, pss_never, fun B H0 O env σ H D R p => p.elim⟩⟩

/-! ### comprehensions, the rules -/
section
variable {X : Cx} {EX : L2.St → XK} {elt tg iter : Expr} {ifs : List Expr} {scope : Scope} {is : List Nat} {f : En → Res (List T)} {g : T → En → Option En} {tt : En → Res Bool} {te : En → Res R} {pos py spos : Pos} {y : Str}
theorem ej_comp (own : List (Str × Nat)) (hc : X.calm = true) (hN : X.N.Nodup) (hi : FJ X EX tg iter f) (ok : BlkOk X.N X.env.scope scope own) (sub : ∀ j ∈ is, j ∈ own.map (·.2))
    (hg : ∀ (s : Shared) (H : Hp) (C : Addr) (cl : List (Str × Addr)) (fp : List Addr), GJ (X.blk s H scope (compEnvC scope cl C X.env) fp) tg is g)
    (ht : ∀ (s : Shared) (H : Hp) (C : Addr) (cl : List (Str × Addr)) (fp : List Addr), TsJ (X.blk s H scope (compEnvC scope cl C X.env) fp) EX0 ifs tt)
    (he : ∀ (s : Shared) (H : Hp) (C : Addr) (cl : List (Str × Addr)) (fp : List Addr), EJ (X.blk s H scope (compEnvC scope cl C X.env) fp) EX0 elt te) (hs : ∀ x, foldedSetIterable iter X.env x = pure x := by intro _; rfl) :
    EJ X EX (.ListComp elt [⟨tg, iter, ifs, 0⟩] scope pos) (fComp (own.map (·.2)) f g tt te) := by
  obtain ⟨wi, pi, i⟩ := hi.ex
  exact ⟨⟨_, pe_lc (g := gOf X.K is g) (tt := ttOf X.K EX0 tt) (te := tOf X.K EX0 te) hc hN pi ok (fun s H C cl fp => (hg s H C cl fp).pg) (fun s H C cl fp => (ht s H C cl fp).pt) (fun s H C cl fp => (he s H C cl fp).pe) hs, fun B H0 O env σ H Q R p => comp_core i sub B H0 O env σ H Q R p⟩⟩
theorem sj_setcomp (j : Nat) (own : List (Str × Nat)) (hc : X.calm = true) (hN : X.N.Nodup) (hsw : swapsWith (.ListComp elt [⟨tg, iter, ifs, 0⟩] scope pos) (some (.Name y py)) spos.line X.env = pure true) (hi : FJ X EX tg iter f) (ok : BlkOk X.N X.env.scope scope own) (sub : ∀ j ∈ is, j ∈ own.map (·.2))
    (hg : ∀ (s : Shared) (H : Hp) (C : Addr) (cl : List (Str × Addr)) (fp : List Addr), GJ (X.blk s H scope (compEnvC scope cl C X.env) fp) tg is g)
    (ht : ∀ (s : Shared) (H : Hp) (C : Addr) (cl : List (Str × Addr)) (fp : List Addr), TsJ (X.blk s H scope (compEnvC scope cl C X.env) fp) EX0 ifs tt)
    (he : ∀ (s : Shared) (H : Hp) (C : Addr) (cl : List (Str × Addr)) (fp : List Addr), EJ (X.blk s H scope (compEnvC scope cl C X.env) fp) EX0 elt te)
    (hy : X.N[j]? = some y := by rfl) (hyl : X.env.scope.names.lookup y = some .local := by rfl) (hs : ∀ x, foldedSetIterable iter X.env x = pure x := by intro _; rfl) :
    SJ X EX (.Assign [.Name y py] (.ListComp elt [⟨tg, iter, ifs, 0⟩] scope pos) spos) (fSet j (fComp (own.map (·.2)) f g tt te)) := by
  obtain ⟨wi, pi, i⟩ := hi.ex
  refine ⟨⟨_, ps_setLc (g := gOf X.K is g) (tt := ttOf X.K EX0 tt) (te := tOf X.K EX0 te) hc hN hy hyl hsw pi ok (fun s H C cl fp => (hg s H C cl fp).pg) (fun s H C cl fp => (ht s H C cl fp).pt) (fun s H C cl fp => (he s H C cl fp).pe) hs, fun B H0 O env σ H D R p => ?_⟩⟩
  refine comp_core i sub B H0 O env σ H _ R ((sOf_post R p).mono (fun _ _ x => x) fun r q v H1 s r1 => ?_)
  split at q
  · rename_i kp
    obtain ⟨O', R', kk, _⟩ := R.store s r1 kp j
    exact q O' _ H1 R' kk
  · exact q.elim
end

section
variable {X : Cx} {EX : L2.St → XK} {elt tg iter : Expr} {ifs : List Expr} {scope : Scope} {is : List Nat} {f : En → Res (List T)} {g : T → En → Option En} {tt : En → Res Bool} {te : En → Res R} {pos py spos : Pos} {y : Str}
theorem sj_setcompZ (j : Nat) (own : List (Str × Nat)) (hc : X.calm = true) (hN : X.N.Nodup) (hsw : swapsWith (.ListComp elt [⟨tg, iter, ifs, 0⟩] scope pos) (some (.Name y py)) spos.line X.env = pure true) (hi : FJ X EX tg iter f) (ok : BlkOk X.N X.env.scope scope own) (sub : ∀ j ∈ is, j ∈ own.map (·.2))
    (hg : ∀ (s : Shared) (H : Hp) (C : Addr) (cl : List (Str × Addr)) (fp : List Addr), GJ (X.blk s H scope (compEnvC scope cl C X.env) fp) tg is g)
    (ht : ∀ (s : Shared) (H : Hp) (C : Addr) (cl : List (Str × Addr)) (fp : List Addr), TsJ (X.blk s H scope (compEnvC scope cl C X.env) fp) EX0 ifs tt)
    (he : ∀ (s : Shared) (H : Hp) (C : Addr) (cl : List (Str × Addr)) (fp : List Addr), EJ (X.blk s H scope (compEnvC scope cl C X.env) fp) EX0 elt te)
    (hy : X.N[j]? = some y := by rfl) (hyl : X.env.scope.names.lookup y = some .local := by rfl) (hs : ∀ x, foldedSetIterable iter X.env x = pure x := by intro _; rfl) :
    SJ X EX (.Assign [.Name y py] (.ListComp elt [⟨tg, iter, ifs, 0⟩] scope pos) spos) (fSetZ j (fComp (own.map (·.2)) f g tt te)) := by
  obtain ⟨t, ps, k⟩ := (sj_setcomp (EX := EX) j own hc hN hsw hi ok sub hg ht he hy hyl hs).ex
  refine ⟨⟨t, ps, fun B H0 O env σ H D R p => k B H0 O env σ H D R ?_⟩⟩
  unfold fSetZ sOf at p
  unfold fSet sOf
  cases hu : fComp (own.map (·.2)) f g tt te env with
  | bad => rw [hu] at p; exact p
  | exc c pl => rw [hu] at p; exact p
  | ok r =>
    rw [hu] at p
    simp only [out_ok] at p ⊢
    cases r with
    | sh d => exact p
    | bo j d => exact p
    | vw d => exact p
    | fr d =>
      refine sj_fzp (j := j) ?_
      have e : ∀ env : En, frz j (env.set j (.ow d)) = env.set j (.fz d) := fun env => by
        unfold frz
        by_cases h : j < env.length
        · rw [List.getElem?_set, if_pos rfl, if_pos h]
          simp
        · rw [List.set_eq_of_length_le (by omega)]
          rw [List.getElem?_eq_none (by omega)]
          simp [List.set_eq_of_length_le (show env.length ≤ j by omega)]
      show SPost X EX B H0 O H D (.nx (frz j (env.set j (.ow d))))
      rw [e]
      exact p
end

/-! ### sorted -/
def leI (a b : Int) : Bool := decide (a ≤ b)
def sortI (l : List Int) : List Int := l.mergeSort leI
def leP (p q : Int × Int) : Bool := !SrtO.lexB q p
def sortP (l : List (Int × Int)) : List (Int × Int) := l.mergeSort leP
def encP (p : Int × Int) : T := .tup [.int p.1, .int p.2]
def T.asPair : T → Option (Int × Int)
  | .tup [.int a, .int b] => some (a, b)
  | _ => none
def T.pairs : T → Option (List (Int × Int))
  | .lst l => l.mapM T.asPair
  | _ => none
def sortR : List R → Res R
  | [x] => match x.d.ints with
    | some ns => .ok (.fr (.lst ((sortI ns).map T.int)))
    | none => match x.d.pairs with
      | some ps => .ok (.fr (.lst ((sortP ps).map encP)))
      | none => .bad
  | _ => .bad
theorem sortI_is {a ns : List Int} (h1 : a.Perm ns) (h2 : a.Pairwise (· ≤ ·)) : a = sortI ns := by
  have e1 : (sortI ns).Perm ns := List.mergeSort_perm ns leI
  have e2 : (sortI ns).Pairwise (fun a b => leI a b = true) := List.pairwise_mergeSort (le := leI) (fun a b c h k => by
    simp only [leI, decide_eq_true_eq] at *; omega) (fun a b => by simp only [leI, Bool.or_eq_true, decide_eq_true_eq]; omega) ns
  exact PySem.W.ksm_same (h1.trans e1.symm) h2 (e2.imp fun h => by simpa [leI] using h)
theorem leP_iff {p q : Int × Int} : leP p q = true ↔ ¬ (q.1 < p.1 ∨ (q.1 = p.1 ∧ q.2 < p.2)) := by
  unfold leP
  rw [Bool.not_eq_true', SrtO.lexB_no]
theorem sortP_is {a ps : List (Int × Int)} (h1 : a.Perm ps) (h2 : a.Pairwise fun p q => SrtO.lexB q p = false) : a = sortP ps := by
  have e1 : (sortP ps).Perm ps := List.mergeSort_perm ps leP
  have e2 : (sortP ps).Pairwise (fun a b => leP a b = true) := List.pairwise_mergeSort (le := leP) (fun a b c h k => by
    rw [leP_iff] at *; omega) (fun a b => by rw [Bool.or_eq_true, leP_iff, leP_iff]; omega) ps
  refine List.Perm.eq_of_pairwise (le := fun p q => leP p q = true) (fun x y _ _ h k => ?_) (h2.imp fun h => by
    unfold leP
    rw [h]
    rfl) e2 (h1.trans e1.symm)
  rw [leP_iff] at h k
  exact Prod.ext (by omega) (by omega)
section
variable {K : PySem.W.Frag} {H : Hp} {X : Xs}
def kOf (H : Hp) (v : V) : Int × Int := match v with
  | .ref t => match H t with
    | some (.tup [.int a, .int b]) => (a, b)
    | _ => (0, 0)
  | _ => (0, 0)
theorem pair_of {t : T} {v : V} {p : Int × Int} (h : Rp K H X t v) (e : t.asPair = some p) : t = encP p ∧ (∃ a, v = .ref a ∧ H a = some (.tup [.int p.1, .int p.2])) ∧ kOf H v = p := by
  unfold T.asPair at e
  split at e
  · rename_i a b
    cases e
    cases h with
    | @tup ad _ us h1 h2 h3 h4 =>
      match us, h3 with
      | [u, w], _ =>
        have e1 := rp_int (h4 0 _ u rfl rfl)
        have e2 := rp_int (h4 1 _ w rfl rfl)
        subst e1 e2
        refine ⟨rfl, ⟨ad, rfl, h1⟩, ?_⟩
        unfold kOf
        simp only [h1]
  · cases e
theorem pairs_of : ∀ {ts : List T} {us : List V} {ps : List (Int × Int)}, RpAll K H X ts us → ts.mapM T.asPair = some ps →
    ts = ps.map encP ∧ us.map (kOf H) = ps ∧ ∀ u ∈ us, Rp K H X (encP (kOf H u)) u ∧ ∃ a, u = .ref a ∧ H a = some (.tup [.int (kOf H u).1, .int (kOf H u).2])
  | [], [], ps, _, e => by
    simp at e
    subst e
    exact ⟨rfl, rfl, fun u m => nomatch m⟩
  | t :: ts, u :: us, ps, h, e => by
    rw [List.mapM_cons] at e
    cases e1 : t.asPair with
    | none => rw [e1] at e; cases e
    | some p =>
      cases e2 : ts.mapM T.asPair with
      | none => rw [e1, e2] at e; cases e
      | some qs =>
        rw [e1, e2] at e
        cases e
        obtain ⟨z1, z2, z3⟩ := pair_of h.head e1
        obtain ⟨y1, y2, y3⟩ := pairs_of h.tail e2
        refine ⟨by rw [z1, y1]; rfl, by rw [List.map_cons, z3, y2], fun w m => ?_⟩
        rcases List.mem_cons.mp m with m | m
        · subst m
          rw [z3]
          exact ⟨z1 ▸ h.head, z2⟩
        · exact y3 w m
  | [], _ :: _, _, h, _ => by have := h.1; simp at this
  | _ :: _, [], _, h, _ => by have := h.1; simp at this
end
section
variable {X : Cx}
def rSrt (X : Cx) : List V → Hp → VK → Prop := fun vs H Q => rSortedI X.K vs H Q ∨ rSortedPO X.K vs H Q
theorem callr_sorted : CallR X (.builtin "sorted") (rSrt X) := cr_sortedI.or cr_sortedPO
theorem calli_sorted : CallI X (rSrt X) sortR := by
  intro B H0 O env σ Hs H rs vs Q xc R s rx p
  unfold sortR at p
  split at p
  · rename_i x
    obtain ⟨v, rfl, r1⟩ := rx.one
    split at p
    · rename_i ns e
      obtain ⟨a, ea, ha⟩ := r1.ints e
      rw [ea]
      refine .inl ⟨a, ns, rfl, ha, fun ns' q h1 h2 nq => ?_⟩
      rw [sortI_is h1 h2]
      exact p _ _ (Same.new nq) (RR.newL R s .ints nq)
    · split at p
      · rename_i ps e
        cases ex : x.d with
        | lst l =>
          rw [ex] at e
          obtain ⟨a, us, ea, ha, ra⟩ := r1.lst ex
          rw [ea]
          obtain ⟨z1, z2, z3⟩ := pairs_of ra e
          refine .inr ⟨a, us, kOf H, rfl, SqL.of ha, fun u m => (z3 u m).2, fun ys q h1 h2 nq => ?_⟩
          have pm : (ys.map (kOf H)).Perm ps := by rw [← z2]; exact h2.perm.map _
          have e2 : ys.map (kOf H) = sortP ps := sortP_is pm (List.pairwise_map.mpr h1)
          have ra2 : RpAll X.K H (Ex B O) ((sortP ps).map encP) ys := by
            rw [← e2]
            refine ⟨by simp, fun i t u a b => ?_⟩
            rw [List.map_map, List.getElem?_map, b] at a
            cases a
            exact (z3 u (h2.perm.mem_iff.mp (List.mem_of_getElem? b))).1
          exact p _ _ (Same.new nq) (RR.newL R s ra2 nq)
        | _ => rw [ex] at e; cases e
      · exact p.elim
  · exact p.elim
end

/-! ### the law -/
def spLaw (K : PySem.W.Frag) : Sp := fun vs H Q _ => ∃ (a : Addr) (ns : List Int), vs = [.ref a] ∧ SqL K H a (ns.map V.int) ∧ ns.length ≤ 63 ∧ ∀ H', Q (.bl true) H'
theorem law_T {P : Program} {w : World} {K : PySem.W.Frag} {mg : Str → Option Value} {base : Heap} {CX : CXT} {k : Nat} {f : Addr} {fd : FuncData} {ps : List Str} {F : List T → Res R} (h : FnOk P w K mg base CX k f fd ps (SpT K 1 F))
    (hF : ∀ ns : List Int, ns.length ≤ 63 → F [.scr ns] = .ok (.sh (.bl true))) : FnOk P w K mg base CX k f fd ps (spLaw K) := h.imp fun vs H Q E q => by
  obtain ⟨a, ns, rfl, hS, hl, q⟩ := q
  refine ⟨[.scr ns], ⟨fun _ => False, fun _ => none⟩, fun _ z => z.elim, .one (.scr ?_), rfl, ?_⟩
  · rcases hS with h | h
    · exact .inl ⟨h, fun z => z⟩
    · exact .inr h
  · rw [hF ns hl]
    intro v H' s r
    rw [rp_bl r]
    exact q H'
end Tr
namespace Tr
open PySem L2

/-! ### a op b op c op d -/
def tChain3 (r r' r'' : R2) (ta tb tc td : TE) : TE := fun σ H Q => ta σ H fun x H1 => tb σ H1 fun y H2 => r x y H2 fun z H3 => ∃ k, z = .bl k ∧
  (if k = true then tc σ H3 fun w' H4 => r' y w' H4 fun z2 H5 => ∃ k2, z2 = .bl k2 ∧ (if k2 = true then td σ H5 fun w2 H6 => r'' w' w2 H6 Q else Q (.bl false) H5) else Q (.bl false) H3)
def ch3 (g g' g'' : R → R → Res R) (f f' f'' f3 : En → Res R) (env : En) : Res R := (f env).bind fun x => (f' env).bind fun y => (g x y).bind fun z => (asB z).bind fun b =>
  if b then (f'' env).bind fun w => (g' y w).bind fun z2 => (asB z2).bind fun b2 => if b2 then (f3 env).bind fun w2 => g'' w w2 else .ok (.sh (.bl false)) else .ok (.sh (.bl false))
section
variable {X : Cx} {EX : L2.St → XK} {a b c d : Expr} {f f' f'' f3 : En → Res R} {g g' g'' : R → R → Res R} {r r' r'' : R2} {pos : Pos} {ta tb tc td : TE}
theorem pe_chain3 {op op' op'' : CmpOp} (ho : OpR X (compareOp op) r) (ho' : OpR X (compareOp op') r') (ho'' : OpR X (compareOp op'') r'') (ha : PE X a ta) (hb : PE X b tb) (hc : PE X c tc) (hd : PE X d td)
    (hm : lastMarks [op, op', op''] [b, c, d] = false := by with_unfolding_all rfl) : PE X (.Compare a [op, op', op''] [b, c, d] pos) (tChain3 r r' r'' ta tb tc td) := by
  refine ⟨fun pins s σ H Q I h => ?_⟩
  refine PyProof.Rows.Compare_chain (thn (ha.run pins s σ H _ I h) fun v s1 hv => PyProof.Rows.chain_link ?_) hm
  obtain ⟨x, H1, I1, r1, q1⟩ := hv
  refine thn (hb.run pins s1 σ H1 _ I1 q1) fun u s2 hu => ?_
  obtain ⟨y, H2, I2, r2, q2⟩ := hu
  refine thn (ho pins s2 σ H2 x y v u _ I2 r1 r2 q2) fun e s3 he => ?_
  obtain ⟨z, H3, I3, r3, k, ez, q3⟩ := he
  subst ez
  cases r3
  refine wpAny_truthy_bool ?_
  cases k with
  | false => exact PyProof.Rows.ite_ff ⟨.bl false, H3, I3, rfl, q3⟩
  | true =>
    refine PyProof.Rows.ite_tt (PyProof.Rows.chain_link ?_)
    refine thn (hc.run pins s3 σ H3 _ I3 q3) fun u2 s4 hu2 => ?_
    obtain ⟨y2, H4, I4, r4, q4⟩ := hu2
    refine thn (ho' pins s4 σ H4 y y2 u u2 _ I4 r2 r4 q4) fun e s5 he => ?_
    obtain ⟨z, H5, I5, r5, k, ez, q5⟩ := he
    subst ez
    cases r5
    refine wpAny_truthy_bool ?_
    cases k with
    | false => exact PyProof.Rows.ite_ff ⟨.bl false, H5, I5, rfl, q5⟩
    | true =>
      refine PyProof.Rows.ite_tt (PyProof.Rows.chain_last ?_)
      refine thn (hd.run pins s5 σ H5 _ I5 q5) fun u3 s6 hu3 => ?_
      obtain ⟨y3, H6, I6, r6, q6⟩ := hu3
      exact ho'' pins s6 σ H6 y2 y3 u2 u3 Q I6 r4 r6 q6
theorem ej_chain3 {op op' op'' : CmpOp} (ho : OpR X (compareOp op) r) (ho' : OpR X (compareOp op') r') (ho'' : OpR X (compareOp op'') r'') (hg : OpI X r g) (hg' : OpI X r' g') (hg'' : OpI X r'' g'')
    (ha : EJ X EX a f) (hb : EJ X EX b f') (hc : EJ X EX c f'') (hd : EJ X EX d f3)
    (hm : lastMarks [op, op', op''] [b, c, d] = false := by with_unfolding_all rfl) : EJ X EX (.Compare a [op, op', op''] [b, c, d] pos) (ch3 g g' g'' f f' f'' f3) := by
  obtain ⟨t, pe, i⟩ := ha.ex
  obtain ⟨t', pe', i'⟩ := hb.ex
  obtain ⟨t'', pe'', i''⟩ := hc.ex
  obtain ⟨t3, pe3, i3⟩ := hd.ex
  refine ⟨⟨_, pe_chain3 ho ho' ho'' pe pe' pe'' pe3 hm, fun B H0 O env σ H Q R p => ?_⟩⟩
  refine i B H0 O env σ H _ R (p.bind.mono (fun _ _ x => x) fun x q v H1 s r1 => ?_)
  refine i' B H0 O env σ H1 _ (R.mono s) ((q.bind.up s).mono (fun _ _ x => x) fun y q2 w H2 s2 r2 => ?_)
  refine hg B H0 O env σ H H2 x y v w _ _ R (s.trans s2) (r1.mono s2) (r2.down s) (q2.bind.mono (fun _ _ x => x) fun z q3 u H3 s3 r3 => ?_)
  have q4 := q3.bind
  unfold asB at q4
  cases e : z.d with
  | bl k =>
    rw [e] at q4
    have s4 := (s.trans s2).trans s3
    refine ⟨k, r3.bl e, ?_⟩
    cases k with
    | false => exact iteF (q4 _ H3 s4 (Rp.bl false))
    | true =>
      simp only [if_true] at q4
      refine iteT (i'' B H0 O env σ H3 _ (R.mono s4) ((Post.bind q4).up s4 |>.mono (fun _ _ x => x) fun w' q5 u' H4 s5 r5 => ?_))
      refine hg' B H0 O env σ H H4 y w' w u' _ _ R (s4.trans s5) ((r2.down s).mono (s3.trans s5)) (r5.down s4) (q5.bind.mono (fun _ _ x => x) fun z2 q6 u2 H5 s6 r6 => ?_)
      have q7 := q6.bind
      unfold asB at q7
      cases e2 : z2.d with
      | bl k2 =>
        rw [e2] at q7
        have s7 := (s4.trans s5).trans s6
        refine ⟨k2, r6.bl e2, ?_⟩
        cases k2 with
        | false => exact iteF (q7 _ H5 s7 (Rp.bl false))
        | true =>
          simp only [if_true] at q7
          refine iteT (i3 B H0 O env σ H5 _ (R.mono s7) ((Post.bind q7).up s7 |>.mono (fun _ _ x => x) fun w2 q8 u3 H6 s8 r8 => ?_))
          exact hg'' B H0 O env σ H H6 w' w2 u' u3 Q _ R (s7.trans s8) ((r5.down s4).mono (s6.trans s8)) (r8.down s7) (q8.mono (fun _ _ x => x) fun z q9 u H' s9 r9 => q9 u H' ((s7.trans s8).trans s9) r9)
      | _ => rw [e2] at q7; exact q7.elim
  | _ => rw [e] at q4; exact q4.elim
end

/-! ### a def that may be called -/
structure Cal (P : Program) (w : World) (K : PySem.W.Frag) (mg : Str → Option Value) (base : Heap) (x : Str) (k n : Nat) (F : List T → Res R) : Prop where
  ex : ∃ (f : Addr) (fd : FuncData) (ps : List Str), mg x = some (.ref f) ∧ PySem.W.keepIn K (.ref f) = true ∧ Binds K fd ps [] ∧ FnOk P w K mg base (L2.CX P w) k f fd ps (SpT K n F)
section
variable {X : Cx} {EX : L2.St → XK} {e : Expr} {es : List Expr} {g : En → Res (List R)} {F : List T → Res R} {j k n : Nat} {x : Str} {p pos : Pos}
theorem ej_cal (C : Cal X.prog X.w X.K X.mg X.base x j n F) (hr : Room k X.A) (hjk : j ≤ k) (hx : ∀ σ, PassesAt (L2.CX X.prog X.w) X σ (EX σ)) (hg : Gl X x)
    (ha : AJ X EX (e :: es) g) (hn : ∀ env rs, g env = .ok rs → rs.length = n) (hdb : (x == ("__debug__" : Str)) = false := by decide) (he : starEach (e :: es) X.env = (false, eval e X.env) :: starEach es X.env := by rfl) (hpl : (backTo pos (starEach es X.env)).any (·.1) = false := by rfl) :
    EJ X EX (.Call (.Name x p) (e :: es) [] pos) (fCall F g) := by
  obtain ⟨f, fd, ps, h1, h2, h3, h4⟩ := C.ex
  exact ej_call h4 (hr.mono hjk) hg h1 h2 h3 hx ha hn hdb he hpl
theorem hx0 : ∀ σ, PassesAt (L2.CX X.prog X.w) X σ (EX0 σ) := fun σ pins H s e s' _ h => by
  obtain ⟨_, _, _, _, _, _, _, _, _, _, _, _, z⟩ := h
  exact z.elim
end
section
variable {P : Program} {w : World} {K : PySem.W.Frag} {mg : Str → Option Value} {base : Heap} {N : List Str} {qual : Str} {sc : Scope} {f : Addr} {cdv : Value} {A : Around} {outer : List Env} {s : Shared} {H : Hp} {E : XK}
theorem tkB : Takes (cxOf (L2.CX P w) P w K mg base N qual sc f cdv A outer s H E) (fun cls d _ H => E cls d H) := takes_of rfl rfl rfl rfl
theorem hxB : ∀ σ : L2.St, PassesAt (L2.CX P w) (cxOf (L2.CX P w) P w K mg base N qual sc f cdv A outer s H E) σ ((fun _ => E : L2.St → XK) σ) := fun σ pins H' s' e s'' I c =>
  passes_call tkB (fun _ _ _ _ h => h) pins σ H' s' e s'' I c
theorem poB : PassesOwn (model P w) (cxOf (L2.CX P w) P w K mg base N qual sc f cdv A outer s H E).A (cxOf (L2.CX P w) P w K mg base N qual sc f cdv A outer s H E).env (cxOf (L2.CX P w) P w K mg base N qual sc f cdv A outer s H E).xe := passes_of rfl
end
section
variable {A : Around} {k : Nat}
theorem hu65 (hr : Room k A) : A.units + 65 < cLine := by have := hr.un; omega
theorem hu64 (hr : Room k A) : A.units + 64 < cLine := by have := hr.un; omega
theorem hu1 (hr : Room k A) : A.units + 1 < cLine := by have := hr.un; omega
end
theorem fn_T2 {P : Program} {w : World} {K : PySem.W.Frag} {mg : Str → Option Value} {base : Heap} {x qual : Str} {st : Stmt} {f : Addr} {fd : FuncData} {N ps : List Str} {k n m : Nat} {body : En → Out} (F : Fun K x qual st f fd) (S : FnScope N ps (defScope st)) (hn : ps.length = n) (hm : N.length = m)
    (hb : ∀ (cdv : Value) (A : Around) (outer : List Env) (s : Shared) (H : Hp) (E : XK), Room k (A.deeper (PyProof.Rows.envOfC qual (defScope st) s.heap.objs.size f cdv)) →
      SsJ (cxOf (L2.CX P w) P w K mg base N qual (defScope st) f cdv A outer s H E) (fun _ => E) (defBody st) body) :
    FnOk P w K mg base (L2.CX P w) (k + 1) f fd ps (SpT K n (runF m body)) := by
  subst hn hm
  exact fn_T F S hb
theorem cal_mk {P : Program} {w : World} {K : PySem.W.Frag} {mg : Str → Option Value} {base : Heap} {x qual : Str} {st : Stmt} {f : Addr} {fd : FuncData} {ps : List Str} {k n : Nat} {F : List T → Res R} (F0 : Fun K x qual st f fd) (hm : mg x = some (.ref f)) (b : Binds K fd ps [])
    (h : FnOk P w K mg base (L2.CX P w) k f fd ps (SpT K n F)) : Cal P w K mg base x k n F := ⟨f, fd, ps, hm, F0.kp, b, h⟩
end Tr
namespace Tr
open PySem L2
theorem nomk {op : CmpOp} (b : Expr) (h : (op == .In || op == .NotIn) = false := by rfl) : behindInMarks op b = false := by
  unfold behindInMarks
  split
  · rename_i elts k p
    rw [h, Bool.and_false, Bool.false_and]
  · rfl
section
variable {X : Cx} {EX : L2.St → XK} {e : Expr} {es : List Expr} {f : En → Res R} {g : En → Res (List R)} {F : List T → Res R} {j k n : Nat} {x : Str} {p pos : Pos}
theorem bj_call {fn : Expr} {args : List Expr} {kw : List Keyword} (h : EJ X EX (.Call fn args kw pos) f) : BJ X EX (.Call fn args kw pos) (fTru f) := bj_tru h
theorem bj_name (h : EJ X EX (.Name x pos) f) : BJ X EX (.Name x pos) (fTru f) := bj_tru h
theorem bj_sub {a b : Expr} (h : EJ X EX (.Subscript a b pos) f) : BJ X EX (.Subscript a b pos) (fTru f) := bj_tru h
theorem bj_attr {a : Expr} {y : Str} (h : EJ X EX (.Attribute a y pos) f) : BJ X EX (.Attribute a y pos) (fTru f) := bj_tru h
theorem ej_gintE {n : Int} (hg : Gl X x) (hm : ∃ t, X.mg x = some (.int n t)) (hd : (x == ("__debug__" : Str)) = false := by decide) : EJ X EX (.Name x pos) (fC (.int n)) := by
  obtain ⟨t, h⟩ := hm
  exact ej_gint hg h ⟨t, rfl⟩ hd
theorem ej_gstrE {n : Str} (hk : PyData.strOk n = true) (hg : Gl X x) (hm : ∃ t, X.mg x = some (.str n t)) (hd : (x == ("__debug__" : Str)) = false := by decide) : EJ X EX (.Name x pos) (fC (.str n)) := by
  obtain ⟨t, h⟩ := hm
  exact ej_gstr hk hg h ⟨t, rfl⟩ hd
theorem ej_cal0 (C : Cal X.prog X.w X.K X.mg X.base x j n F) (hr : Room k X.A) (hjk : j ≤ k) (hg : Gl X x)
    (ha : AJ X EX0 (e :: es) g) (hn : ∀ env rs, g env = .ok rs → rs.length = n) (hdb : (x == ("__debug__" : Str)) = false := by decide) (he : starEach (e :: es) X.env = (false, eval e X.env) :: starEach es X.env := by rfl) (hpl : (backTo pos (starEach es X.env)).any (·.1) = false := by rfl) :
    EJ X EX0 (.Call (.Name x p) (e :: es) [] pos) (fCall F g) := ej_cal C hr hjk hx0 hg ha hn hdb he hpl
theorem sw_tru2 {elt : Expr} {gens : List Comprehension} {scope : Scope} {pos py : Pos} {y : Str} {ln : Nat} {env : Env} (h1 : env.blockKind = .function) (h2 : env.kindOf y = some .local) (h3 : (py.line == pos.line) = true)
    (h4 : (scope.names.any fun p => p.1 == y && (p.2 == .local || p.2 == .cell)) = false) : swapsWith (.ListComp elt gens scope pos) (some (.Name y py)) ln env = pure true := by
  unfold swapsWith
  simp only [h1, h2]
  show pure (_ && _ && (py.line == pos.line) && !(scope.names.any fun p => p.1 == y && (p.2 == .local || p.2 == .cell))) = _
  rw [h3, h4]
  rfl
end
end Tr
namespace Tr
open PySem L2
/-! ### a, b = a list -/
def gL (n : Nat) (gs : List T → En → Option En) (d : T) (env : En) : Option En := match d with
  | .lst l => if l.length = n then gs l env else none
  | _ => none
theorem gj_lst {X : Cx} {es : List Expr} {gs : List T → En → Option En} {pos : Pos} {n k : Nat} {is : List Nat} (hc : X.calm = true) (h : GsJ X es is gs) (hn : (assignEach es X.env).length = n := by rfl) (hst : (assignEach es X.env).findIdx? (·.1) = none := by rfl) : GJ X (.Tuple es k pos) is (gL n gs) := by
  obtain ⟨t, pg, i⟩ := h.ex
  refine ⟨⟨_, pg_unl hc pg hn hst, fun B H0 O env σ H v d Q R r p => ?_⟩⟩
  unfold gL at p
  cases d with
  | lst l =>
    cases r with
    | lst h1 h2 h3 h4 =>
      simp only at p
      by_cases c : l.length = n
      · rw [if_pos c] at p
        exact ⟨_, _, rfl, SqL.of h1, by rw [← h3]; exact c, i B H0 O env σ H _ l Q R ⟨h3, h4⟩ p⟩
      · rw [if_neg c] at p; exact p.elim
  | _ => exact p.elim
/-! ### dicts: displays -/
def T.key : T → Option Key
  | .int i => some (.inl i)
  | .str x => some (.inr x)
  | _ => none
def fDk0 (_ : En) : Res R := .ok (.fr (.dik []))
def fDt0 (_ : En) : Res R := .ok (.fr (.dit []))
def dk1O (k : Option Key) (v : R) : Res R := match k with
  | some k => if v.kp = true then .ok (.fr (.dik [(k, v.d)])) else .bad
  | none => .bad
def fDk1 (f g : En → Res R) (env : En) : Res R := (f env).bind fun k => (g env).bind fun v => dk1O k.d.key v
theorem rp_key {K : PySem.W.Frag} {H : Hp} {B : Xs} {t : T} {v : V} {k : Key} (h : Rp K H B t v) (e : t.key = some k) : v = kV k := by
  cases h <;> cases e <;> rfl
section
variable {X : Cx} {EX : L2.St → XK} {a b : Expr} {f g : En → Res R} {pos : Pos}
theorem ej_dk0 : EJ X EX (.Dict [] [] pos) fDk0 := by
  refine ⟨⟨_, pe_dnewK, fun B H0 O env σ H Q R p q nq => ?_⟩⟩
  exact p _ _ (Same.new nq) ⟨q, _, rfl, nq, upd_same, .dik rfl .nil⟩
theorem ej_dt0 : EJ X EX (.Dict [] [] pos) fDt0 := by
  refine ⟨⟨_, pe_dnewT, fun B H0 O env σ H Q R p q nq => ?_⟩⟩
  exact p _ _ (Same.new nq) ⟨q, _, rfl, nq, upd_same, .dit rfl .nil⟩
theorem ej_dk1 (ha : EJ X EX a f) (hb : EJ X EX b g) : EJ X EX (.Dict [some a] [b] pos) (fDk1 f g) := by
  obtain ⟨t, pe, i⟩ := ha.ex
  obtain ⟨t', pe', i'⟩ := hb.ex
  refine ⟨⟨_, pe_disp (pps_cons pe pe' pps_nil) rfl rfl (by simp) (by simp), fun B H0 O env σ H Q R p D hD => ?_⟩⟩
  have s0 : Same H (upd H D (.dK [])) := Same.new hD
  have Rb := R.block s0 hD upd_same (⟨fun us z => (by cases z), fun us z => (by cases z)⟩) [] (by simp)
  have exE : ∀ a, Ex (B.add D) O a ↔ (Ex B O a ∨ a = D) := fun a => ⟨fun z => by
      rcases z with (z | z) | z
      · exact .inl (.inl z)
      · exact .inr z
      · exact .inl (.inr z), fun z => by
      rcases z with (z | z) | z
      · exact .inl (.inl z)
      · exact .inr z
      · exact .inl (.inr z)⟩
  have xc : ∀ {H1 : Hp}, Same H H1 → ∀ c pl, XC X.K B O EX σ H c pl → XC X.K (B.add D) O EX σ H1 c pl := fun s c pl x H' d a ea s' z => x H' d a ea (s.trans s') (by
    cases pl with
    | none => exact z
    | some t =>
      obtain ⟨a, v, z1, z2, z3⟩ := z
      exact ⟨a, v, z1, z2, z3.anti fun b zb => (exE b).mpr (.inl zb)⟩)
  refine i _ H0 O env σ _ _ Rb (p.bind.mono (xc s0) fun x q v H1 s1 r1 => ?_)
  have s01 := s0.trans s1
  refine i' _ H0 O env σ H1 _ (Rb.mono s1) (q.bind.mono (xc s01) fun y q2 w H2 s2 r2 => ?_)
  have s02 := s01.trans s2
  have hD2 : H2 D = some (.dK []) := s2 _ _ (s1 _ _ upd_same)
  unfold dk1O at q2
  split at q2
  · rename_i k ek
    split at q2
    · rename_i kp
      have ev : v = kV k := rp_key r1.rp0 ek
      have rw' := r2.rp (Rb.mono s1) kp
      refine ⟨hD2, [(k, w)], by rw [ev]; rfl, by simp, ?_⟩
      have sm : Same H (upd H2 D (.dK [(k, w)])) := fun b o e => by rw [upd_ne (ne_of_none e hD)]; exact s02 _ _ e
      refine q2 (.ref D) _ sm ⟨D, _, rfl, hD, upd_same, ?_⟩
      refine .dik rfl ?_
      have all : RpAll X.K H2 ((Ex B O).add D) [y.d] [w] := .one (rw'.anti fun a z => (exE a).mpr z)
      exact all.keep ⟨fun a o e n => ⟨by rw [upd_ne (fun z => n (.inr z))]; exact e, n⟩, fun _ _ e => e⟩
    · exact q2.elim
  · exact q2.elim
end
end Tr
namespace Tr
open PySem L2
/-! ### objects: their attributes -/
section
variable {K : PySem.W.Frag} {H H' : Hp} {X : Xs}
theorem look_rel {f : Str} : ∀ {fs : List (Str × T)} {us : List (Str × V)} {t : T}, fs.map (·.1) = us.map (·.1) → RpAll K H X (fs.map (·.2)) (us.map (·.2)) → fs.lookup f = some t → ∃ u, us.lookup f = some u ∧ Rp K H X t u
  | [], _, _, _, _, h => by cases h
  | (g, t0) :: fs, [], _, e, _, _ => by simp at e
  | (g, t0) :: fs, (g', u0) :: us, t, e, r, h => by
    simp only [List.map_cons, List.cons.injEq] at e
    obtain ⟨rfl, e⟩ := e
    rw [List.lookup_cons] at h
    rw [List.lookup_cons]
    by_cases q : (f == g) = true
    · rw [q] at h ⊢
      cases h
      exact ⟨u0, rfl, r.head⟩
    · have q' : (f == g) = false := by simpa using q
      rw [q'] at h ⊢
      exact look_rel e r.tail h
/-- an attribute stored -/
def putFT (f : Str) (t : T) : List (Str × T) → List (Str × T)
  | [] => [(f, t)]
  | (g, x) :: r => if g = f then (g, t) :: r else (g, x) :: putFT f t r
theorem put_rel {f : Str} {t : T} {u : V} (ht : Rp K H X t u) : ∀ {fs : List (Str × T)} {us : List (Str × V)}, fs.map (·.1) = us.map (·.1) → RpAll K H X (fs.map (·.2)) (us.map (·.2)) →
    (putFT f t fs).map (·.1) = (putF f u us).map (·.1) ∧ RpAll K H X ((putFT f t fs).map (·.2)) ((putF f u us).map (·.2))
  | [], [], _, _ => ⟨rfl, .one ht⟩
  | (g, t0) :: fs, [], e, _ => by simp at e
  | [], (g, u0) :: us, e, _ => by simp at e
  | (g, t0) :: fs, (g', u0) :: us, e, r => by
    simp only [List.map_cons, List.cons.injEq] at e
    obtain ⟨rfl, e⟩ := e
    by_cases q : g = f
    · have e1 : putFT f t ((g, t0) :: fs) = (g, t) :: fs := by show (if g = f then _ else _) = _; rw [if_pos q]
      have e2 : putF f u ((g, u0) :: us) = (g, u) :: us := by show (if g = f then _ else _) = _; rw [if_pos q]
      rw [e1, e2]
      exact ⟨by simp [e], .cons ht r.tail⟩
    · have e1 : putFT f t ((g, t0) :: fs) = (g, t0) :: putFT f t fs := by show (if g = f then _ else _) = _; rw [if_neg q]
      have e2 : putF f u ((g, u0) :: us) = (g, u0) :: putF f u us := by show (if g = f then _ else _) = _; rw [if_neg q]
      obtain ⟨i1, i2⟩ := put_rel (f := f) ht e r.tail
      rw [e1, e2]
      exact ⟨by simp [i1], .cons r.head i2⟩
end
section
variable {K : PySem.W.Frag} {B : Bs} {O : Ow} {H H' : Hp} {r : R} {v : V}
theorem RR.obj {C : Nat} {fs : List (Str × T)} (h : RR K B O H H' r v) (e : r.d = .obj C fs) : ∃ a c dx us, clsA K C = some c ∧ v = .ref a ∧ H' a = some (.ins c dx us) ∧ fs.map (·.1) = us.map (·.1) ∧ RpAll K H' (Ex B O) (fs.map (·.2)) (us.map (·.2)) := by
  cases r with
  | sh d =>
    cases e
    cases h with
    | obj h0 h1 h2 h3 h4 h5 => exact ⟨_, _, _, _, h0, rfl, h1, h3, h4, h5⟩
  | fr d =>
    cases e
    obtain ⟨p, ho, e, n, h1, h2⟩ := h
    cases h2 with
    | obj h0 q h2 => exact ⟨p, _, _, _, h0, e, h1, q, h2.anti fun _ z => .inl z⟩
  | bo i d =>
    cases e
    obtain ⟨a, ho, e, n, h1, h2⟩ := h
    cases h2 with
    | obj h0 q h2 => exact ⟨a, _, _, _, h0, n, h1, q, h2⟩
  | vw d =>
    cases e
    obtain ⟨a, ho, _, n, h1, h2⟩ := h
    cases h2 with
    | obj h0 q h2 => exact ⟨a, _, _, _, h0, n, h1, q, h2⟩
end
def atO (o : Option T) : Res R := match o with
  | some t => .ok (.sh t)
  | none => .bad
def atT (Cs : List Nat) (f : Str) (t : T) : Res R := match t with
  | .obj C fs => if C ∈ Cs then atO (fs.lookup f) else .bad
  | _ => .bad
def fAt (Cs : List Nat) (f : Str) (g : En → Res R) (env : En) : Res R := (g env).bind fun x => atT Cs f x.d
structure AtOk (K : PySem.W.Frag) (f : Str) (C : Nat) : Prop where
  c : ∀ c, clsA K C = some c → Cls K c
  n : ∀ c, clsA K C = some c → NoAttr K c f
section
variable {X : Cx} {EX : L2.St → XK} {e o : Expr} {es : List Expr} {g : En → Res R} {ga : En → Res (List R)} {f m : Str} {p pos apos pos' : Pos} {Cs : List Nat} {st : Stmt}
theorem ej_at (Cs : List Nat) (he : EJ X EX e g) (hc : ∀ C ∈ Cs, AtOk X.K f C) (hb : attributeBase e f X.env (eval e X.env) = eval e X.env := by rfl) : EJ X EX (.Attribute e f pos) (fAt Cs f g) := by
  obtain ⟨t, pe, i⟩ := he.ex
  refine ⟨⟨_, pe_fld pe hb, fun B H0 O env σ H Q R p => ?_⟩⟩
  refine i B H0 O env σ H _ R (p.bind.mono (fun _ _ x => x) fun x q v H1 s r1 => ?_)
  unfold atT at q
  split at q
  · rename_i C fs ex
    split at q
    · rename_i mem
      unfold atO at q
      split at q
      · rename_i t el
        obtain ⟨a, c, dx, us, ec, ev, ea, e1, e2⟩ := r1.obj ex
        obtain ⟨u, lu, ru⟩ := look_rel e1 e2 el
        exact ⟨a, c, dx, us, u, ev, ea, (hc C mem).c c ec, (hc C mem).n c ec, lu, q u H1 s ru⟩
      · exact q.elim
    · exact q.elim
  · exact q.elim
/-- what an object's slot holds -/
def obS : Option Sl → Option (Bool × T)
  | some (.ow d) => some (false, d)
  | some (.sf d) => some (true, d)
  | _ => none
def mkS (b : Bool) (d : T) : Sl := if b = true then .sf d else .ow d
/-- x.f = e -/
def paT (Cs : List Nat) (f : Str) (b : Bool) (d : T) (r : R) (i : Nat) (env : En) : Out := match d with
  | .obj C fs => if r.kp = true ∧ C ∈ Cs ∧ fs.length < 1000 then .nx (env.set i (mkS b (.obj C (putFT f r.d fs)))) else .bad
  | _ => .bad
def paS (s : Option Sl) (Cs : List Nat) (f : Str) (r : R) (i : Nat) (env : En) : Out := match obS s with
  | some (b, d) => paT Cs f b d r i env
  | none => .bad
def fPa (Cs : List Nat) (i : Nat) (f : Str) (u : En → Res R) (env : En) : Out := (u env).out (fun r env => paS env[i]? Cs f r i env) env
/-- an object in a slot is changed by somebody -/
theorem Rel.swap {K : PySem.W.Frag} {B : Bs} {H0 H H' : Hp} {O : Ow} {env : En} {σ : L2.St} {i : Nat} (R0 : Rel K B H0 O env σ H) {a : Addr} {b : Bool} {d d' : T} {ho' : HO} (he : env[i]? = some (mkS b d)) (ha : O[i]? = some (some a))
    (ag : ∀ b o, H b = some o → b ≠ a → H' b = some o) (h' : H' a = some ho') (h : OwnRp K H' (Ex B O) d' ho') :
    Rel K B H0 O (env.set i (mkS b d')) σ H' ∧ Keep (Ex B O) H (Ex B O) H' := by
  have hi : i < env.length := (List.getElem?_eq_some_iff.mp he).1
  have h0 := R0.slot i _ he
  cases b with
  | false =>
    obtain ⟨a', ho, h1, h2, h3, h4⟩ := h0
    rw [ha] at h1
    cases h1
    exact R0.chg (s := .ow d') hi ha ag h' h.ntup rfl ⟨a, ho', ha, h2, h', h⟩
  | true =>
    obtain ⟨a', ho, h1, h2, h3, h4, h5⟩ := h0
    rw [ha] at h1
    cases h1
    exact R0.chg (s := .sf d') hi ha ag h' h.ntup rfl ⟨a, ho', ha, h2, h', h, h5⟩
/-- an object in a slot is changed and not spoken of any more -/
theorem Rel.lost {K : PySem.W.Frag} {B : Bs} {H0 H H' : Hp} {O : Ow} {env : En} {σ : L2.St} {i : Nat} (R0 : Rel K B H0 O env σ H) {a : Addr} {d : T} (hi : i < env.length) (ha : O[i]? = some (some a)) (ag : ∀ b o, H b = some o → b ≠ a → H' b = some o) :
    Rel K B H0 (O.set i none) (env.set i .no) σ H' ∧ Keep (Ex B O) H (Ex B (O.set i none)) H' := by
  have hn : i < B.n := R0.lenN ▸ hi
  have exs : ∀ b, Ex B (O.set i none) b → Ex B O b := fun b z => by
    rcases z with z | ⟨j, z⟩
    · exact .inl z
    · rcases getElem?_set' z with ⟨_, _, e⟩ | ⟨_, e⟩
      · cases e
      · exact .inr ⟨j, e⟩
  have kp : Keep (Ex B O) H (Ex B (O.set i none)) H' := ⟨fun b o e n => ⟨ag b o e fun z => n (by rw [z]; exact .inr ⟨i, ha⟩), fun z => n (exs b z)⟩, fun k a e => (cs_set hn k).trans e⟩
  refine ⟨R0.setO (s := .no) (w := none) hi σ (.inr rfl) (fun b o e => ag b o (R0.same b o e) fun q => by rw [q, (R0.own i a ha).1] at e; cases e) kp (fun b z => ?_) (fun m b o hm e1 e2 => ag b o e2 fun q => hm (R0.uniq m i a (by rw [← q]; exact e1) ha)) (fun _ e => by cases e) (fun z => by cases z) (by rw [SlOk, List.getElem?_set, if_pos rfl, if_pos (R0.lenE hi)]), kp⟩
  obtain ⟨o, e, nt⟩ := R0.there b z
  exact ⟨o, ag b o e fun q => (R0.own i a ha).2.1 (by rw [← q]; exact z), nt⟩
theorem obS_some {s : Option Sl} {b : Bool} {d : T} (h : obS s = some (b, d)) : s = some (mkS b d) := by
  cases s with
  | none => cases h
  | some s => cases s <;> cases h <;> rfl
/-- what stands in an object's slot -/
theorem obj_slot {K : PySem.W.Frag} {B : Bs} {H0 H : Hp} {O : Ow} {env : En} {σ : L2.St} {i : Nat} {b : Bool} {d : T} (R0 : Rel K B H0 O env σ H) (h : env[i]? = some (mkS b d)) : ∃ a ho, O[i]? = some (some a) ∧ σ[i]? = some (some (.ref a)) ∧ H a = some ho ∧ OwnRp K H (Ex B O) d ho := by
  have h0 := R0.slot i _ h
  cases b with
  | false => exact h0
  | true =>
    obtain ⟨a, ho, h1, h2, h3, h4, h5⟩ := h0
    exact ⟨a, ho, h1, h2, h3, h4⟩
theorem sj_pa (Cs : List Nat) (i : Nat) {x : Str} {u : En → Res R} {pn : Pos} (he : EJ X EX e u) (hc : ∀ C ∈ Cs, AtOk X.K f C) (hN : X.N[i]? = some x := by rfl) (hv : Vis X.env.scope x := by first | exact Or.inl rfl | exact Or.inr (Or.inl rfl) | exact Or.inr (Or.inr rfl)) (hd : (x == ("__debug__" : Str)) = false := by decide) (hcd : (x == ("__classdict__" : Str)) = false := by decide)
    (hs : swapsWith e (some (.Attribute (.Name x pn) f pos')) pos.line X.env = pure false := by rfl) : SJ X EX (.Assign [.Attribute (.Name x pn) f pos'] e pos) (fPa Cs i f u) := by
  obtain ⟨t, pe, k⟩ := he.ex
  have q1 : PE X (.Name x pn) (tVar i) := pe_var hN hv hd hcd
  refine ⟨⟨_, ps_fld q1 pe hs, fun B H0 O env σ H D R p => ?_⟩⟩
  refine k B H0 O env σ H _ R ((sOf_post (k := fun r env => paS env[i]? Cs f r i env) R p).mono (fun _ _ x => x) fun r q v H1 s r1 => ?_)
  unfold paS at q
  split at q
  · rename_i b d eo
    have R1 := R.mono s
    have es := obS_some eo
    obtain ⟨a, ho, h1, h2, h3, h4⟩ := obj_slot R1 es
    unfold paT at q
    split at q
    · rename_i C fs
      split at q
      · rename_i c
        cases h4 with
        | @obj _ cc dx _ us e0 e1 e2 =>
          refine ⟨.ref a, h2, a, cc, dx, us, rfl, h3, (hc C c.2.1).c cc e0, (hc C c.2.1).n cc e0, ?_, ?_⟩
          · have := congrArg List.length e1
            simp at this
            rw [← this]; exact c.2.2
          · obtain ⟨z1, z2⟩ := put_rel (f := f) (r1.rp R c.1) e1 e2
            have ag : ∀ b o, H1 b = some o → b ≠ a → (upd H1 a (.ins cc dx (putF f v us))) b = some o := fun b o e n => by rw [upd_ne n]; exact e
            have own : OwnRp X.K (upd H1 a (.ins cc dx (putF f v us))) (Ex B O) (.obj C (putFT f r.d fs)) (.ins cc dx (putF f v us)) :=
              .obj e0 z1 (z2.keep ⟨fun b o e n => ⟨ag b o e fun z => n (by rw [z]; exact .inr ⟨i, h1⟩), n⟩, fun _ _ e => e⟩)
            obtain ⟨R2, k2⟩ := R1.swap es h1 ag upd_same own
            exact q O σ _ R2 ((Same.keepB s).trans k2)
      · exact q.elim
    · exact q.elim
  · exact q.elim
end

/-! ### methods that change nothing -/
section
variable {X : Cx} {E : L2.St → XK} {CXt : CXT} {k : Nat} {f C : Addr} {fd : FuncData} {ps : List Str} {ds : List Value} {dvs : List V} {sp : Sp} {o e : Expr} {es : List Expr} {ta : TE} {t : TA} {m x : Str} {apos pos p : Pos}
def tMethS (C : Addr) (m : Str) (sp : Sp) (E : L2.St → XK) (ta : TE) (t : TA) : TE := fun σ H Q => ta σ H fun x H1 => ∃ a dx fs, x = .ref a ∧ H1 a = some (.ins C dx fs) ∧ fs.lookup m = none ∧ t σ H1 fun vs H2 => sp (x :: vs) H2 Q (E σ)
theorem pe_methS {pl : Sem Bool} (he : PE X o ta) (c : Cls X.K C) (hm : Meth X.K C m f) (F : FnOk X.prog X.w X.K X.mg X.base CXt k f fd ps sp) (hr : Room k X.A) (hb : Binds X.K fd ps []) (hx : ∀ σ, PassesAt CXt X σ (E σ)) (ha : PA X (e :: es) t)
    (hst : starEach (e :: es) X.env = (false, eval e X.env) :: starEach es X.env := by rfl) (hpl : (backTo pos (starEach es X.env)).any (·.1) = false := by rfl)
    (ht : eval (.Call (.Attribute o m apos) (e :: es) [] pos) X.env = (do
      let ov ← eval o X.env
      standAt apos.atName
      let (f, first) ← holding [ov] (getMethod ov m pl)
      callWith pos f first (backTo pos (starEach (e :: es) X.env)) (backToKw pos (keywordEach [] X.env))) := by rfl) :
    PE X (.Call (.Attribute o m apos) (e :: es) [] pos) (tMethS C m sp E ta t) := by
  refine ⟨fun pins s σ H Q I h => ?_⟩
  refine PySem.W.methodCall_KW (pl := pl) (thn (he.run pins s σ H _ I h) fun u s1 ⟨x, H1, I1, rx, a, dx, fs, ex, ea, l, q⟩ => ?_) ht
  subst ex
  obtain rfl : u = Value.ref a := rx
  refine getmeth_ok I1 ea c hm l ?_
  refine PySem.W.callWith_K (first := [.ref a]) (h₀ := X.base) I.ok.mod.kin hm.kp (thn (ha.run pos pins s1 σ H1 _ I1 q) fun us s2 ⟨vs, H2, I2, r, q2⟩ => ⟨I2.kIn, ?_⟩) hst hpl
  exact run_fnSD (us := .ref a :: us) (vs := .ref a :: vs) (dvs := []) F hr hb .nil (hx σ) I2 (.cons rfl r) (by rw [List.append_nil]; exact q2)
theorem pe_methS0 {pl : Sem Bool} (he : PE X o ta) (c : Cls X.K C) (hm : Meth X.K C m f) (F : FnOk X.prog X.w X.K X.mg X.base CXt k f fd ps sp) (hr : Room k X.A) (hb : Binds X.K fd ps []) (hx : ∀ σ, PassesAt CXt X σ (E σ))
    (ht : eval (.Call (.Attribute o m apos) [] [] pos) X.env = (do
      let ov ← eval o X.env
      standAt apos.atName
      let (f, first) ← holding [ov] (getMethod ov m pl)
      callWith pos f first (backTo pos (starEach [] X.env)) (backToKw pos (keywordEach [] X.env))) := by rfl) :
    PE X (.Call (.Attribute o m apos) [] [] pos) (tMethS C m sp E ta tNil) := by
  refine ⟨fun pins s σ H Q I h => ?_⟩
  refine PySem.W.methodCall_KW (pl := pl) (thn (he.run pins s σ H _ I h) fun u s1 ⟨x, H1, I1, rx, a, dx, fs, ex, ea, l, q⟩ => ?_) ht
  subst ex
  obtain rfl : u = Value.ref a := rx
  refine getmeth_ok I1 ea c hm l ?_
  exact PySem.W.callWith_K0 (first := [.ref a]) I1.kIn hm.kp (run_fnSD (us := [.ref a]) (vs := [.ref a]) (dvs := []) F hr hb .nil (hx σ) I1 (.cons rfl .nil) q)
end
/-- a method that may be called -/
structure Met (P : Program) (w : World) (K : PySem.W.Frag) (mg : Str → Option Value) (base : Heap) (C : Nat) (m : Str) (k n : Nat) (F : List T → Res R) : Prop where
  ex : ∃ (c f : Addr) (fd : FuncData) (ps : List Str), clsA K C = some c ∧ Cls K c ∧ Meth K c m f ∧ Binds K fd ps [] ∧ FnOk P w K mg base (L2.CX P w) k f fd ps (SpT K n F)
def clT (C : Nat) (m : Str) (t : T) : Bool := match t with
  | .obj D fs => decide (D = C) && (fs.lookup m).isNone
  | _ => false
/-- o.m(..) -/
def fMe (C : Nat) (m : Str) (F : List T → Res R) (g : En → Res R) (ga : En → Res (List R)) (env : En) : Res R := (g env).bind fun x => if clT C m x.d = true then (ga env).bind fun rs => callR F (x :: rs) else .bad
section
variable {X : Cx} {EX : L2.St → XK} {o e : Expr} {es : List Expr} {g : En → Res R} {ga : En → Res (List R)} {F : List T → Res R} {j k n : Nat} {C : Nat} {m : Str} {apos pos : Pos}
theorem lookup_none {f : Str} : ∀ {fs : List (Str × T)} {us : List (Str × V)}, fs.map (·.1) = us.map (·.1) → (fs.lookup f).isNone = true → us.lookup f = none
  | [], [], _, _ => rfl
  | (g, t0) :: fs, [], e, _ => by simp at e
  | [], (g, u0) :: us, e, _ => by simp at e
  | (g, t0) :: fs, (g', u0) :: us, e, h => by
    simp only [List.map_cons, List.cons.injEq] at e
    obtain ⟨rfl, e⟩ := e
    rw [List.lookup_cons] at h ⊢
    by_cases q : (f == g) = true
    · rw [q] at h; cases h
    · have q' : (f == g) = false := by simpa using q
      rw [q'] at h ⊢
      exact lookup_none e h
theorem me_core {B : Bs} {O : Ow} {H H' : Hp} {x : R} {v : V} {c : Addr} (ec : clsA X.K C = some c) (h : clT C m x.d = true) (r : RR X.K B O H H' x v) : ∃ a dx fs, v = .ref a ∧ H' a = some (.ins c dx fs) ∧ fs.lookup m = none := by
  unfold clT at h
  split at h
  · rename_i D fs ex
    rw [Bool.and_eq_true, decide_eq_true_eq] at h
    obtain ⟨rfl, h2⟩ := h
    obtain ⟨a, c', dx, us, ec', ev, ea, e1, e2⟩ := r.obj ex
    rw [ec] at ec'
    cases ec'
    exact ⟨a, dx, us, ev, ea, lookup_none e1 h2⟩
  · cases h
theorem ej_me (M : Met X.prog X.w X.K X.mg X.base C m j n F) (hr : Room k X.A) (hjk : j ≤ k) (hx : ∀ σ, PassesAt (L2.CX X.prog X.w) X σ (EX σ)) (ho : EJ X EX o g) (ha : AJ X EX (e :: es) ga) {pl : Sem Bool} (hn : ∀ env rs, ga env = .ok rs → rs.length + 1 = n)
    (hst : starEach (e :: es) X.env = (false, eval e X.env) :: starEach es X.env := by rfl) (hpl : (backTo pos (starEach es X.env)).any (·.1) = false := by rfl)
    (ht : eval (.Call (.Attribute o m apos) (e :: es) [] pos) X.env = (do
      let ov ← eval o X.env
      standAt apos.atName
      let (f, first) ← holding [ov] (getMethod ov m pl)
      callWith pos f first (backTo pos (starEach (e :: es) X.env)) (backToKw pos (keywordEach [] X.env))) := by rfl) :
    EJ X EX (.Call (.Attribute o m apos) (e :: es) [] pos) (fMe C m F g ga) := by
  obtain ⟨cc, f, fd, ps, h0, h1, h2, h3, h4⟩ := M.ex
  obtain ⟨t, pe, i⟩ := ho.ex
  obtain ⟨t', pa, i'⟩ := ha.ex
  refine ⟨⟨_, pe_methS pe h1 h2 h4 (hr.mono hjk) h3 hx pa hst hpl ht, fun B H0 O env σ H Q R p => ?_⟩⟩
  refine i B H0 O env σ H _ R (p.bind.mono (fun _ _ x => x) fun x q v H1 s r1 => ?_)
  split at q
  · rename_i c
    obtain ⟨a, dx, fs, e1, e2, e3⟩ := me_core h0 c r1
    refine ⟨a, dx, fs, e1, e2, e3, ?_⟩
    have q' : Post (XC X.K B O EX σ H) (fun rs => ga env = .ok rs ∧ Post (XC X.K B O EX σ H) (fun r => ∀ v H', Same H H' → RR X.K B O H H' r v → Q v H') (callR F (x :: rs))) (ga env) := by
      have z := q.bind
      cases eg : ga env with
      | ok rs => rw [eg] at z; exact ⟨rfl, z⟩
      | exc c p => rw [eg] at z; exact z
      | bad => rw [eg] at z; exact z
    refine i' B H0 O env σ H1 _ (R.mono s) ((q'.up s).mono (fun _ _ x => x) fun rs z vs H2 s2 r2 => ?_)
    exact call_core (rs := x :: rs) (vs := v :: vs) R (s.trans s2) ⟨r1.mono s2, r2.down s⟩ (by simp; exact hn env rs z.1) z.2
  · exact q.elim
theorem ej_me0 (M : Met X.prog X.w X.K X.mg X.base C m j 1 F) (hr : Room k X.A) (hjk : j ≤ k) (hx : ∀ σ, PassesAt (L2.CX X.prog X.w) X σ (EX σ)) (ho : EJ X EX o g) {pl : Sem Bool}
    (ht : eval (.Call (.Attribute o m apos) [] [] pos) X.env = (do
      let ov ← eval o X.env
      standAt apos.atName
      let (f, first) ← holding [ov] (getMethod ov m pl)
      callWith pos f first (backTo pos (starEach [] X.env)) (backToKw pos (keywordEach [] X.env))) := by rfl) :
    EJ X EX (.Call (.Attribute o m apos) [] [] pos) (fMe C m F g fN) := by
  obtain ⟨cc, f, fd, ps, h0, h1, h2, h3, h4⟩ := M.ex
  obtain ⟨t, pe, i⟩ := ho.ex
  refine ⟨⟨_, pe_methS0 pe h1 h2 h4 (hr.mono hjk) h3 hx ht, fun B H0 O env σ H Q R p => ?_⟩⟩
  refine i B H0 O env σ H _ R (p.bind.mono (fun _ _ x => x) fun x q v H1 s r1 => ?_)
  split at q
  · rename_i c
    obtain ⟨a, dx, fs, e1, e2, e3⟩ := me_core h0 c r1
    exact ⟨a, dx, fs, e1, e2, e3, call_core (rs := [x]) (vs := [v]) R s ⟨r1, trivial⟩ rfl q⟩
  · exact q.elim
end
end Tr
namespace Tr
open PySem L2
/-! ### methods that change their object -/
/-- the heap without the object at a -/
def wo (H : Hp) (a : Addr) : Hp := fun b => if b = a then none else H b
theorem wo_ne {H : Hp} {a b : Addr} {o : HO} (e : H b = some o) (n : b ≠ a) : wo H a b = some o := by unfold wo; rw [if_neg n]; exact e
theorem of_wo {H : Hp} {a b : Addr} {o : HO} (e : wo H a b = some o) : H b = some o ∧ b ≠ a := by
  unfold wo at e
  split at e
  · cases e
  · rename_i n
    exact ⟨e, n⟩
theorem wo_same {H H' : Hp} {a : Addr} (s : Same (wo H a) H') : ∀ b o, H b = some o → b ≠ a → H' b = some o := fun b o e n => s b o (wo_ne e n)
def SpMV (K : PySem.W.Frag) (n : Nat) (F : List Sl → Res (T × R)) : Sp := fun vs H Q E => ∃ (d : T) (sl : List Sl) (X : Xs) (a : Addr) (ho : HO) (ws : List V), vs = .ref a :: ws ∧ (∀ b, X b → ∃ o, H b = some o ∧ nTup o) ∧ H a = some ho ∧ ¬ X a ∧
  OwnRp K H (X.add a) d ho ∧ StAll K (wo H a) H (X.add a) sl ws ∧ sl.length + 1 = n ∧
  Post (fun c p => ∀ H' dd ca, clsA K c = some ca → (∀ b o, H b = some o → b ≠ a → H' b = some o) → XRel K X H' p dd → E (.ref ca) dd H')
    (fun r => ∀ v H' ho', (∀ b o, H b = some o → b ≠ a → H' b = some o) → H' a = some ho' → OwnRp K H' (X.add a) r.1 ho' → RX K (X.add a) H H' r.2 v → Q v H') (F (.sf d :: sl))
def SpM (K : PySem.W.Frag) (n : Nat) (F : List T → Res (T × R)) : Sp := fun vs H Q E => ∃ (d : T) (ds : List T) (X : Xs) (a : Addr) (ho : HO) (ws : List V), vs = .ref a :: ws ∧ (∀ b, X b → ∃ o, H b = some o ∧ nTup o) ∧ H a = some ho ∧ ¬ X a ∧
  OwnRp K H (X.add a) d ho ∧ RpAll K H (X.add a) ds ws ∧ ds.length + 1 = n ∧
  Post (fun c p => ∀ H' dd ca, clsA K c = some ca → (∀ b o, H b = some o → b ≠ a → H' b = some o) → XRel K X H' p dd → E (.ref ca) dd H')
    (fun r => ∀ v H' ho', (∀ b o, H b = some o → b ≠ a → H' b = some o) → H' a = some ho' → OwnRp K H' (X.add a) r.1 ho' → RX K (X.add a) H H' r.2 v → Q v H') (F (d :: ds))
def outM (o : Out) : Res (T × R) := match o with
  | .nx (e : List Sl) => (match e[0]? with
    | some (Sl.sf d) => .ok (d, .sh .non)
    | _ => .bad)
  | .rm r (e : List Sl) => (match e[0]? with
    | some (Sl.sf d) => if r.kp = true then .ok (d, r) else .bad
    | _ => .bad)
  | .exc _ c p => .exc c p
  | _ => .bad
def runM (n : Nat) (body : En → Out) (ds : List T) : Res (T × R) := match ds with
  | d :: r => outM (body (.sf d :: (r.map Sl.fz ++ List.replicate (n - 1 - r.length) .no)))
  | [] => .bad
def runMV (n : Nat) (body : En → Out) (sl : List Sl) : Res (T × R) := match sl with
  | d :: r => outM (body (d :: (r ++ List.replicate (n - 1 - r.length) .no)))
  | [] => .bad
theorem runMV_M (n : Nat) (body : En → Out) (d : T) (ds : List T) : runMV n body (.sf d :: ds.map Sl.fz) = runM n body (d :: ds) := by
  show outM _ = outM _
  rw [List.length_map]
section
variable {P : Program} {w : World} {K : PySem.W.Frag} {mg : Str → Option Value} {base : Heap}
theorem oneO {n : Nat} {a : Addr} (i : Nat) (b : Addr) (e : (some a :: List.replicate n none)[i]? = some (some b)) : i = 0 ∧ b = a := by
  cases i with
  | zero => simp at e; exact ⟨rfl, e.symm⟩
  | succ i =>
    rw [List.getElem?_cons_succ] at e
    exact (noneO e).elim
theorem ex_self {B : Bs} {a b : Addr} {n : Nat} : Ex B (some a :: List.replicate n none) b ↔ B b ∨ b = a := by
  constructor
  · intro z
    rcases z with z | ⟨i, z⟩
    · exact .inl z
    · exact .inr (oneO i b z).2
  · rintro (z | z)
    · exact .inl z
    · exact .inr ⟨0, by rw [z]; rfl⟩
theorem rel_startM {X : Xs} {H : Hp} {d : T} {ds : List Sl} {a : Addr} {ho : HO} {ws : List V} {n : Nat} (hB : ∀ b, X b → ∃ o, H b = some o ∧ nTup o) (ha : H a = some ho) (hn : ¬ X a) (ow : OwnRp K H (X.add a) d ho) (h : StAll K (wo H a) H (X.add a) ds ws) (hl : ds.length ≤ n) :
    Rel K ⟨X.p, some a, n + 1, X.cs, wo H a, false⟩ (wo H a) (some a :: List.replicate n none) (.sf d :: (ds ++ List.replicate (n - ds.length) .no)) (some (.ref a) :: (ws.map some ++ List.replicate (n - ws.length) none)) H := by
  have e1 := h.1
  have hN : ∀ i, i < n → (List.replicate n (none : Option Addr))[i]? = some none := fun i hi => by rw [List.getElem?_replicate, if_pos hi]
  have exE : ∀ b, Ex ⟨X.p, some a, n + 1, X.cs, wo H a, false⟩ (some a :: List.replicate n none) b → X.add a b := fun b z => ex_self.mp z
  have csE : ∀ k b, (X.add a).cs k = some b → (Ex ⟨X.p, some a, n + 1, X.cs, wo H a, false⟩ (some a :: List.replicate n none)).cs k = some b := fun k b e => by
    have e' : X.cs k = some b := e
    show csOf _ _ k = some b
    unfold csOf
    show (match X.cs k with | some a => some a | none => _) = some b
    rw [e']
  have slots : ∀ (i : Nat) (s : Sl), (Sl.sf d :: (ds ++ List.replicate (n - ds.length) Sl.no))[i]? = some s → (i = 0 ∧ s = .sf d) ∨ ∃ j, i = j + 1 ∧ j < n ∧ ((∃ u, ds[j]? = some s ∧ ws[j]? = some u) ∨ s = .no) := fun i s e => by
    cases i with
    | zero => simp at e; exact .inl ⟨rfl, e.symm⟩
    | succ j =>
      rw [List.getElem?_cons_succ] at e
      have hi : j < n := by
        have q := (List.getElem?_eq_some_iff.mp e).1
        simp at q
        omega
      refine .inr ⟨j, rfl, hi, ?_⟩
      by_cases c : j < ds.length
      · rw [List.getElem?_append_left c] at e
        exact .inl ⟨ws[j], e, List.getElem?_eq_getElem (by rw [← e1]; exact c)⟩
      · rw [List.getElem?_append_right (by omega), List.getElem?_replicate] at e
        split at e
        · cases e; exact .inr rfl
        · cases e
  refine ⟨by simp only [List.length_cons, List.length_append, List.length_map, List.length_replicate]; rw [← e1], by simp only [List.length_cons, List.length_append, List.length_replicate]; omega, by simp, fun _ => by simp, fun b o e => (of_wo e).1, Same.refl _, hB, fun i b e => ?_, fun i j b e e' => by rw [(oneO i b e).1, (oneO j b e').1], fun i s e => ?_, fun i j S S' e e' => ?_⟩
  · obtain ⟨_, rfl⟩ := oneO i b e
    exact ⟨by simp [wo], hn, ho, ha, ow.ntup⟩
  · rcases slots i s e with ⟨rfl, rfl⟩ | ⟨j, rfl, hj, ⟨u, e2, e3⟩ | rfl⟩
    · exact ⟨a, ho, rfl, rfl, ha, ow.anti exE csE, rfl⟩
    · have z := h.2 j s u e2 e3
      have c : j < ws.length := (List.getElem?_eq_some_iff.mp e3).1
      have eσ : (some (V.ref a) :: (ws.map some ++ List.replicate (n - ws.length) none))[j + 1]? = some (some u) := by
        rw [List.getElem?_cons_succ, List.getElem?_append_left (by rw [List.length_map]; exact c), List.getElem?_map, e3]
        rfl
      cases s with
      | fz d => exact ⟨hN j hj, u, eσ, Rp.anti z exE csE⟩
      | br d =>
        obtain ⟨b, ho', z1, z2, z3⟩ := z
        exact ⟨hN j hj, b, ho', by rw [eσ, z1], z2, z3.anti exE csE⟩
      | _ => exact z.elim
    · exact hN j hj
  · rcases slots i _ e with ⟨_, z⟩ | ⟨j, _, _, ⟨u, e2, e3⟩ | z⟩
    · cases z
    · exact (h.2 j _ u e2 e3).elim
    · cases z
/-- what the object is at the end -/
theorem self_end {B : Bs} {H0 H' : Hp} {O : Ow} {env : En} {σ : L2.St} {a : Addr} {d : T} (hz : B.z = some a) (ac : B.act = false) (R : Rel K B H0 O env σ H') (e : env[0]? = some (.sf d)) : ∃ ho', O[0]? = some (some a) ∧ H' a = some ho' ∧ OwnRp K H' (B.x.add a) d ho' := by
  obtain ⟨b, ho, h1, h2, h3, h4, h5⟩ := R.slot 0 _ e
  rw [hz] at h5
  cases h5
  refine ⟨ho, h1, h3, h4.anti (fun b z => ?_) fun k c e => (R.cs0 ac).symm.trans e⟩
  rcases z with z | z
  · exact .inl z
  · exact .inr ⟨0, by rw [z]; exact h1⟩
theorem fn_MV {x qual : Str} {st : Stmt} {f : Addr} {fd : FuncData} {N ps : List Str} {k n m : Nat} {body : En → Out} (F : Fun K x qual st f fd) (S : FnScope N ps (defScope st)) (hn : ps.length = n) (hm : N.length = m)
    (hb : ∀ (cdv : Value) (A : Around) (outer : List Env) (s : Shared) (H : Hp) (E : XK), Room k (A.deeper (PyProof.Rows.envOfC qual (defScope st) s.heap.objs.size f cdv)) →
      SsJ (cxOf (L2.CX P w) P w K mg base N qual (defScope st) f cdv A outer s H E) (fun _ => E) (defBody st) body) :
    FnOk P w K mg base (L2.CX P w) (k + 1) f fd ps (SpMV K n (runMV m body)) := by
  subst hn hm
  refine F.okX S (fun vs H Q E h => ?_) (fun cdv A outer s H vs Q E hr h => ?_)
  · obtain ⟨d, ds, B, a, ho, ws, rfl, _, _, _, _, h2, h3, _⟩ := h
    rw [List.length_cons, ← h2.1, h3]
  · obtain ⟨d, ds, Y, a, ho, ws, rfl, hB, ha, hn, ow, h2, h3, p⟩ := h
    obtain ⟨t, ps', i⟩ := (hb cdv A outer s H E hr).ex
    refine ⟨t, ps', ?_⟩
    have hpl : ps.length ≤ N.length := by have := congrArg List.length S.pre; rw [List.length_take] at this; omega
    have hN1 : N.length - 1 + 1 = N.length := by omega
    have z0 := rel_startM (n := N.length - 1) hB ha hn ow h2 (by omega)
    have st0 : L2.start N (.ref a :: ws) = some (.ref a) :: (ws.map some ++ List.replicate (N.length - 1 - ws.length) none) := by
      show (V.ref a :: ws).map some ++ List.replicate (N.length - (V.ref a :: ws).length) none = _
      simp only [List.map_cons, List.cons_append, List.length_cons]
      congr 3
      omega
    rw [st0]
    refine i _ _ _ _ _ H _ z0 ?_
    unfold runMV outM at p
    simp only at p
    split at p
    · rename_i e q
      rw [q]
      split at p
      · rename_i d' e0
        intro O' σ' H' R' _
        obtain ⟨ho', h1, h4, h5⟩ := self_end rfl rfl R' e0
        exact p .non H' ho' (wo_same R'.same) h4 h5 Rp.non
      · exact p.elim
    · rename_i r e q
      rw [q]
      split at p
      · rename_i d' e0
        cases r with
        | sh dd =>
          intro O' σ' H' v R' _ x
          obtain ⟨ho', h1, h4, h5⟩ := self_end rfl rfl R' e0
          refine p v H' ho' (wo_same R'.same) h4 h5 ?_
          exact Rp.anti x (fun b z => z.elim .inl fun z => .inr ⟨0, by rw [z]; exact h1⟩) fun k c e => (R'.cs0 rfl).symm.trans e
        | fr dd =>
          intro O' σ' H' pp hh h0 R' _ x
          obtain ⟨ho', h1, h4, h5⟩ := self_end rfl rfl R' e0
          have npa : pp ≠ a := fun z => (R'.own 0 a h1).2.1 (.inr z.symm)
          have hp : H pp = none := by
            have z := h0
            simp only [wo, if_neg npa] at z
            exact z
          refine p (.ref pp) H' ho' (fun b o e n => R'.same b o ?_) h4 (h5.anti fun b z => z.elim (fun z => .inl (.inl z)) .inr) ⟨pp, hh, rfl, hp, R'.same pp hh upd_same, ?_⟩
          · rw [upd_ne (ne_of_none e hp)]
            exact wo_ne e n
          · refine x.anti (fun b z => ?_) fun k c e => (R'.cs0 rfl).symm.trans e
            rcases z with (z | z) | z
            · exact .inl (.inl z)
            · exact .inr ⟨0, by rw [z]; exact h1⟩
            · exact .inl (.inr z)
        | bo j dd => exact (show False from p).elim
        | vw dd => exact (show False from p).elim
      · exact p.elim
    · rename_i e c pl q
      rw [q]
      intro O' σ' H' dd ca ea R' _ x
      refine p H' dd ca ea (wo_same R'.same) ?_
      cases pl with
      | none => exact x
      | some t =>
        obtain ⟨b, v, z1, z2, z3⟩ := x
        exact ⟨b, v, z1, z2, z3.anti (fun b zb => .inl zb) fun k c e => (R'.cs0 rfl).symm.trans e⟩
    · exact p.elim
theorem fnMV_M {k n m : Nat} {f : Addr} {fd : FuncData} {ps : List Str} {body : En → Out} (h : FnOk P w K mg base (L2.CX P w) k f fd ps (SpMV K n (runMV m body))) : FnOk P w K mg base (L2.CX P w) k f fd ps (SpM K n (runM m body)) :=
  h.imp fun vs H Q E ⟨d, ds, X, a, ho, ws, h1, h2, h3, h4, h5, h6, h7, p⟩ => ⟨d, ds.map .fz, X, a, ho, ws, h1, h2, h3, h4, h5, .fz h6, by simpa using h7, by rw [runMV_M]; exact p⟩
theorem fn_M {x qual : Str} {st : Stmt} {f : Addr} {fd : FuncData} {N ps : List Str} {k n m : Nat} {body : En → Out} (F : Fun K x qual st f fd) (S : FnScope N ps (defScope st)) (hn : ps.length = n) (hm : N.length = m)
    (hb : ∀ (cdv : Value) (A : Around) (outer : List Env) (s : Shared) (H : Hp) (E : XK), Room k (A.deeper (PyProof.Rows.envOfC qual (defScope st) s.heap.objs.size f cdv)) →
      SsJ (cxOf (L2.CX P w) P w K mg base N qual (defScope st) f cdv A outer s H E) (fun _ => E) (defBody st) body) :
    FnOk P w K mg base (L2.CX P w) (k + 1) f fd ps (SpM K n (runM m body)) := fnMV_M (fn_MV F S hn hm hb)
end

/-! ### return of such a method -/
def rmS (r : R) (env : En) : Out := match r with
  | .sh d => .rm (.sh d) env
  | .fr d => .rm (.fr d) env
  | .bo j d => match env[j]? with
    | some (.ow d) => .rm (.fr d) (env.set j .no)
    | _ => .bad
  | .vw _ => .bad
def fRetM (u : En → Res R) (env : En) : Out := (u env).out (fun r env => rmS r env) env
def fRetMN (env : En) : Out := .rm (.sh .non) env
section
variable {X : Cx} {EX : L2.St → XK} {e : Expr} {u : En → Res R} {pos : Pos}
theorem sj_retMN : SJ X EX (.Return none pos) fRetMN := ⟨⟨_, ps_retN, fun B H0 O env σ H D R p => p O σ H .non R Keep.refl Rp.non⟩⟩
theorem sj_retM (he : EJ X EX e u) : SJ X EX (.Return (some e) pos) (fRetM u) := by
  obtain ⟨t, pe, k⟩ := he.ex
  refine ⟨⟨_, ps_ret pe, fun B H0 O env σ H D R p => ?_⟩⟩
  refine k B H0 O env σ H _ R ((sOf_post (k := fun r env => rmS r env) R p).mono (fun _ _ x => x) fun r q v H1 s r1 => ?_)
  have R1 := R.mono s
  cases r with
  | sh d => exact q O σ H1 v R1 (Same.keepB s) r1
  | fr d =>
    obtain ⟨pp, ho, z1, z2, z3, z4⟩ := r1
    subst z1
    obtain ⟨R2, k2⟩ := R.temp s z2 z3 z4.ntup
    exact q O σ H1 pp ho (R.same.free z2) R2 k2 (z4.anti fun b z => by
      rcases z with (z | z) | z
      · exact .inl (.inl z)
      · exact .inr z
      · exact .inl (.inr z))
  | bo j d =>
    unfold rmS at q
    simp only at q
    split at q
    · rename_i dd ej
      obtain ⟨a, ho, z1, z2, z3, z4⟩ := r1
      obtain ⟨a', ho', y1, y2, y3, y4, R2, k2, y5⟩ := R1.give ej
      rw [z1] at y1
      cases y1
      subst z2
      exact q _ σ H1 a ho' y4 R2 ((Same.keepB s).trans k2) y5
    · exact q.elim
  | vw d => exact q.elim
end

/-! ### x.m(..) as a statement, the object changed -/
structure MetM (P : Program) (w : World) (K : PySem.W.Frag) (mg : Str → Option Value) (base : Heap) (C : Nat) (m : Str) (k n : Nat) (F : List T → Res (T × R)) : Prop where
  ex : ∃ (c f : Addr) (fd : FuncData) (ps : List Str), clsA K C = some c ∧ Cls K c ∧ Meth K c m f ∧ Binds K fd ps [] ∧ FnOk P w K mg base (L2.CX P w) k f fd ps (SpM K n F)
def mcO (i : Nat) (b : Bool) (o : Res (T × R)) (env : En) : Out := match o with
  | .ok (d, _) => .nx (env.set i (mkS b d))
  | .exc c p => .exc (env.set i .no) c p
  | .bad => .bad
def mcS (C : Nat) (m : Str) (F : List T → Res (T × R)) (s : Option Sl) (a : Res (List R)) (i : Nat) (env : En) : Out := match obS s with
  | some (b, d) => if clT C m d = true then a.out (fun rs env => if rs.all R.kp = true then mcO i b (F (d :: rs.map R.d)) env else .bad) env else .bad
  | none => .bad
def fMc (C : Nat) (m : Str) (i : Nat) (F : List T → Res (T × R)) (ga : En → Res (List R)) (env : En) : Out := mcS C m F env[i]? (ga env) i env
section
variable {X : Cx} {EX : L2.St → XK} {e : Expr} {es : List Expr} {ga : En → Res (List R)} {F : List T → Res (T × R)} {j k n : Nat} {C : Nat} {m x : Str} {apos pos pos' pn : Pos}
theorem cl_slot {K : PySem.W.Frag} {H : Hp} {Y : Xs} {d : T} {ho : HO} {c : Addr} (ec : clsA K C = some c) (h : clT C m d = true) (r : OwnRp K H Y d ho) : ∃ dx fs, ho = .ins c dx fs ∧ fs.lookup m = none := by
  unfold clT at h
  split at h
  · rename_i D fs
    rw [Bool.and_eq_true, decide_eq_true_eq] at h
    obtain ⟨rfl, h2⟩ := h
    cases r with
    | obj e0 e1 e2 =>
      rw [ec] at e0
      cases e0
      exact ⟨_, _, rfl, lookup_none e1 h2⟩
  · cases h
/-- what is not to be spoken of, less the object at a -/
def Xs.less (X : Xs) (a : Addr) : Xs := ⟨fun b => X b ∧ b ≠ a, X.cs⟩
theorem xs_less {X : Xs} {a : Addr} (h : X a) (b : Addr) : (X.less a).add a b ↔ X b := by
  constructor
  · rintro (z | z)
    · exact z.1
    · rw [z]; exact h
  · intro z
    by_cases q : b = a
    · exact .inr q
    · exact .inl ⟨z, q⟩
theorem mc_core {B H0 O env σ H H2} {rs : List R} {vs : List V} {i : Nat} {b : Bool} {d : T} {a : Addr} {ho : HO} {D : Ends} (R0 : Rel X.K B H0 O env σ H) (s : Same H H2) (hs : env[i]? = some (mkS b d)) (h1 : O[i]? = some (some a)) (h3 : H a = some ho) (h4 : OwnRp X.K H (Ex B O) d ho)
    (hk : rs.all R.kp = true) (hr : RpAll X.K H2 (Ex B O) (rs.map R.d) vs) (hn : rs.length + 1 = n) (q : SPost X EX B H0 O H D (mcO i b (F (d :: rs.map R.d)) env)) : SpM X.K n F (.ref a :: vs) H2 (fun _ H' => D.nx σ H') (EX σ) := by
  have R2 := R0.mono s
  have xa : Ex B O a := .inr ⟨i, h1⟩
  have bl := xs_less xa
  refine ⟨d, rs.map R.d, (Ex B O).less a, a, ho, vs, rfl, fun b z => R2.ex_ntup z.1, s _ _ h3, fun z => z.2 rfl, (h4.same s).anti fun b z => (bl b).mp z, hr.anti fun b z => (bl b).mp z, by simpa using hn, ?_⟩
  cases ef : F (d :: rs.map R.d) with
  | ok r =>
    obtain ⟨d', r'⟩ := r
    rw [ef] at q
    intro v H' ho' ag h' ow _
    obtain ⟨R3, k3⟩ := R2.swap hs h1 ag h' (ow.anti fun b z => (bl b).mpr z)
    exact q O σ H' R3 ((Same.keepB s).trans k3)
  | exc c pl =>
    rw [ef] at q
    intro H' dd ca ea ag x
    have hi : i < env.length := (List.getElem?_eq_some_iff.mp hs).1
    obtain ⟨R3, k3⟩ := R2.lost (d := d) hi h1 ag
    refine q _ σ H' dd ca ea R3 ((Same.keepB s).trans k3) ?_
    have sub : ∀ b, Ex B (O.set i none) b → (Ex B O).less a b := fun b z => by
      refine ⟨?_, ?_⟩
      · rcases z with z | ⟨l, z⟩
        · exact .inl z
        · rcases getElem?_set' z with ⟨_, _, e⟩ | ⟨_, e⟩
          · cases e
          · exact .inr ⟨l, e⟩
      · rintro rfl
        rcases z with z | ⟨l, z⟩
        · exact (R0.own i _ h1).2.1 z
        · rcases getElem?_set' z with ⟨_, _, e⟩ | ⟨n, e⟩
          · cases e
          · exact n (R0.uniq i l _ h1 e)
    cases pl with
    | none => exact x
    | some t =>
      obtain ⟨b, v, z1, z2, z3⟩ := x
      exact ⟨b, v, z1, z2, z3.anti sub fun k c e => (cs_set (R0.lenN ▸ hi) k).trans e⟩
  | bad => rw [ef] at q; exact q.elim
theorem sj_mc (i : Nat) (M : MetM X.prog X.w X.K X.mg X.base C m j n F) (hr : Room k X.A) (hjk : j ≤ k) (hx : ∀ σ, PassesAt (L2.CX X.prog X.w) X σ (EX σ)) (ha : AJ X EX (e :: es) ga) {pl : Sem Bool} (hn : ∀ env rs, ga env = .ok rs → rs.length + 1 = n)
    (hN : X.N[i]? = some x := by rfl) (hv : Vis X.env.scope x := by first | exact Or.inl rfl | exact Or.inr (Or.inl rfl) | exact Or.inr (Or.inr rfl)) (hd : (x == ("__debug__" : Str)) = false := by decide) (hcd : (x == ("__classdict__" : Str)) = false := by decide)
    (hs : swapsWith (.Call (.Attribute (.Name x pn) m apos) (e :: es) [] pos') none pos.line X.env = pure false := by rfl)
    (hst : starEach (e :: es) X.env = (false, eval e X.env) :: starEach es X.env := by rfl) (hpl : (backTo pos' (starEach es X.env)).any (·.1) = false := by rfl)
    (ht : eval (.Call (.Attribute (.Name x pn) m apos) (e :: es) [] pos') X.env = (do
      let ov ← eval (.Name x pn) X.env
      standAt apos.atName
      let (f, first) ← holding [ov] (getMethod ov m pl)
      callWith pos' f first (backTo pos' (starEach (e :: es) X.env)) (backToKw pos' (keywordEach [] X.env))) := by rfl) :
    SJ X EX (.Expr (.Call (.Attribute (.Name x pn) m apos) (e :: es) [] pos') pos) (fMc C m i F ga) := by
  obtain ⟨cc, f, fd, ps, h0, h1, h2, h3, h4⟩ := M.ex
  obtain ⟨t', pa, i'⟩ := ha.ex
  have q1 : PE X (.Name x pn) (tVar i) := pe_var hN hv hd hcd
  refine ⟨⟨_, ps_expr (pe_methS q1 h1 h2 h4 (hr.mono hjk) h3 hx pa hst hpl ht) hs, fun B H0 O env σ H D Rl p => ?_⟩⟩
  unfold fMc mcS at p
  split at p
  · rename_i b d eo
    have es := obS_some eo
    obtain ⟨a, ho, o1, o2, o3, o4⟩ := obj_slot Rl es
    split at p
    · rename_i cl
      have p' := sOf_post (X := X) (EX := EX) (f := ga) (k := fun rs env => if rs.all R.kp = true then mcO i b (F (d :: rs.map R.d)) env else .bad) Rl p
      obtain ⟨dx, fs, eh, el⟩ := cl_slot h0 cl o4
      subst eh
      refine ⟨_, o2, a, dx, fs, rfl, o3, el, ?_⟩
      have p2 : Post (XC X.K B O EX σ H) (fun rs => ga env = .ok rs ∧ SPost X EX B H0 O H D (if rs.all R.kp = true then mcO i b (F (d :: rs.map R.d)) env else .bad)) (ga env) := by
        cases eg : ga env with
        | ok rs => rw [eg] at p'; exact ⟨rfl, p'⟩
        | exc c p => rw [eg] at p'; exact p'
        | bad => rw [eg] at p'; exact p'
      refine i' B H0 O env σ H _ Rl (p2.mono (fun _ _ x => x) fun rs z vs H2 s2 r2 => ?_)
      obtain ⟨eg, z⟩ := z
      split at z
      · rename_i c
        exact mc_core Rl s2 es o1 o3 o4 c (RRs.rp Rl r2 c) (hn env rs eg) z
      · exact z.elim
    · exact p.elim
  · exact p.elim
end

/-! ### f(..).append(e): a new list that nobody keeps -/
def fAppT (u v : En → Res R) (env : En) : Out := (u env).out (fun r env => match r with
  | .fr (.lst l) => (v env).out (fun _ env => if l.length < sizeLine then .nx env else .bad) env
  | _ => .bad) env
section
variable {X : Cx} {EX : L2.St → XK} {o e : Expr} {u v : En → Res R} {pos pos' apos : Pos}
theorem sj_appT (ho : EJ X EX o u) (he : EJ X EX e v) (hst : starEach (e :: []) X.env = (false, eval e X.env) :: starEach [] X.env := by rfl) (hpl : (backTo pos' (starEach [] X.env)).any (·.1) = false := by rfl)
    (hs : swapsWith (.Call (.Attribute o "append" apos) [e] [] pos') none pos.line X.env = pure false := by rfl)
    (hb : attributeBase o "append" X.env (eval o X.env) = eval o X.env := by rfl) (hl : (apos.endLine == pos'.line) = true := by rfl)
    (hfew : ((backTo pos' (starEach (e :: []) X.env)).all (fun x => !x.1) && (backToKw pos' (keywordEach [] X.env)).all (fun x => x.1.isSome)
      && decide ((e :: []).length + ([] : List Keyword).length + (if ([] : List Keyword).isEmpty then 0 else 1) < 30)) = true := by rfl) :
    SJ X EX (.Expr (.Call (.Attribute o "append" apos) [e] [] pos') pos) (fAppT u v) := by
  obtain ⟨t, pe, k⟩ := ho.ex
  obtain ⟨t2, pe2, k2⟩ := he.ex
  refine ⟨⟨_, ps_expr (pe_bm PySem.F.plainAttrs_list PySem.F.slot_list_append PySem.F.type_list_append mt_append pe (pa_cons pe2 pa_nil hst) hb hfew hl hst hpl) hs, fun B H0 O env σ H D R q => ?_⟩⟩
  refine k B H0 O env σ H _ R ((sOf_post (k := fun r env => match r with
    | .fr (.lst l) => (v env).out (fun _ env => if l.length < sizeLine then .nx env else .bad) env
    | _ => .bad) R q).mono (fun _ _ x => x) fun r q w H1 s r1 => ?_)
  split at q
  · rename_i l
    obtain ⟨p, us, rfl, h2, h3, h4⟩ := r1.frlst
    refine ⟨tyL h3, k2 B H0 O env σ H1 _ (R.mono s) (((sOf_post (f := v) (k := fun _ env => if l.length < sizeLine then .nx env else .bad) R q).up s).mono (fun _ _ x => x) fun r' q2 w' H2 s2 r2 => ?_)⟩
    split at q2
    · rename_i c
      refine ⟨p, us, w', rfl, rfl, s2 _ _ h3, by rw [← h4.1]; exact c, ?_⟩
      have sm : Same H (upd H2 p (.lst (us ++ [w']))) := fun b o e => by rw [upd_ne (ne_of_none e h2)]; exact s2 _ _ (s _ _ e)
      exact q2 O σ _ (R.mono sm) (Same.keepB sm)
    · exact q2.elim
  · exact q.elim
end

/-! ### C(..) -/
section
variable {X : Cx} {E : L2.St → XK} {CXt : CXT} {k : Nat} {f C : Addr} {fd : FuncData} {ps : List Str} {sp : Sp} {e : Expr} {es : List Expr} {t : TA} {x : Str} {p pos : Pos}
def tMakeS (C : Addr) (sp : Sp) (E : L2.St → XK) (t : TA) : TE := fun σ H Q => t σ H fun vs H1 => ∀ x dx, H1 x = none → H1 dx = none → dx ≠ x → sp (.ref x :: vs) (upd (upd H1 dx (.own x)) x (.ins C dx [])) (fun v H2 => v = .non ∧ Q (.ref x) H2) (E σ)
theorem run_makeS {pins : List (Addr × Obj)} {σ : L2.St} {H : Hp} {s : Shared} {Q : VK} {us : List Value} {vs : List V} (M : Mk X.K C f) (F : FnOk X.prog X.w X.K X.mg X.base CXt k f fd ps sp) (hr : Room (k + 1) X.A) (hb : Binds X.K fd ps [])
    (hx : PassesAt CXt X σ (E σ)) (I : Inv X pins σ H s) (r : Vals vs us)
    (h : ∀ x dx, H x = none → H dx = none → dx ≠ x → sp (.ref x :: vs) (upd (upd H dx (.own x)) x (.ins C dx [])) (fun v H2 => v = .non ∧ Q (.ref x) H2) (E σ)) :
    wpAny (model X.prog X.w) X.A (call (.ref C) us) (EP X pins σ Q) X.xe s := by
  have hq := h (s.heap.objs.size + 1) s.heap.objs.size (I.hok.fresh (Nat.le_succ _)) (I.hok.fresh (Nat.le_refl _)) (Nat.ne_of_lt (Nat.lt_succ_self _))
  have I2 := Inv.made (C := C) I
  have r2 : Vals (V.ref (s.heap.objs.size + 1) :: (vs ++ [])) (Value.ref (s.heap.objs.size + 1) :: (us ++ [])) := .cons rfl (r.append .nil)
  have ev : vs ++ [] = vs := List.append_nil vs
  have eu : us ++ [] = us := List.append_nil us
  rw [ev, eu] at r2
  have hl : (Value.ref (s.heap.objs.size + 1) :: us ++ []).length = ps.length := by
    have e := r2.length
    rw [F.len _ _ _ _ hq] at e
    rw [List.append_nil]
    exact e.symm
  have hbb := hb _ (Value.ref (s.heap.objs.size + 1) :: us) I2.kIn hl
  rw [List.append_nil] at hbb
  refine wpAny_call (make_map (f := f) I.kIn M.makes M.init (beq_iff_eq.mp M.fn) (codeAny_mono (F.run _ X.stack _ _ ⟨Value.ref (s.heap.objs.size + 1) :: us, []⟩ (Value.ref (s.heap.objs.size + 1) :: us) _ _ (E σ) (hr.make C us [])
    (I2.env0.make C us []) hbb r2 hq) fun r s' hq' => ?_))
  cases r with
  | error e => exact hx pins _ _ e s' I2 hq'
  | ok fl =>
    cases fl with
    | ret u =>
      obtain ⟨v, H', I3, rv, ev, q3⟩ := I2.after hq'
      subst ev
      exact ⟨rv, ⟨V.ref (s.heap.objs.size + 1), H', I3, rfl, q3⟩⟩
    | next => exact False.elim hq'
    | brk => exact False.elim hq'
    | cont => exact False.elim hq'
theorem pe_makeS (M : Mk X.K C f) (F : FnOk X.prog X.w X.K X.mg X.base CXt k f fd ps sp) (hr : Room (k + 1) X.A) (hg : Gl X x) (hm : X.mg x = some (.ref C)) (hb : Binds X.K fd ps []) (hx : ∀ σ, PassesAt CXt X σ (E σ))
    (ha : PA X (e :: es) t) (hdb : (x == ("__debug__" : Str)) = false := by decide) (he : starEach (e :: es) X.env = (false, eval e X.env) :: starEach es X.env := by rfl) (hpl : (backTo pos (starEach es X.env)).any (·.1) = false := by rfl) :
    PE X (.Call (.Name x p) (e :: es) [] pos) (tMakeS C sp E t) := by
  refine ⟨fun pins s σ H Q I h => ?_⟩
  refine wpAny_Call_Name_kw (ld_glob I hg hm ?_ hdb)
  refine PySem.W.callWith_K (h₀ := X.base) I.ok.mod.kin M.kp (thn (ha.run pos pins s σ H _ I h) fun us s1 ⟨vs, H1, I1, r, q⟩ => ⟨I1.kIn, ?_⟩) he hpl
  exact run_makeS M F hr hb (hx σ) I1 r q
theorem pe_makeS0 (M : Mk X.K C f) (F : FnOk X.prog X.w X.K X.mg X.base CXt k f fd ps sp) (hr : Room (k + 1) X.A) (hg : Gl X x) (hm : X.mg x = some (.ref C)) (hb : Binds X.K fd ps []) (hx : ∀ σ, PassesAt CXt X σ (E σ))
    (hdb : (x == ("__debug__" : Str)) = false := by decide) : PE X (.Call (.Name x p) [] [] pos) (tMakeS C sp E tNil) := by
  refine ⟨fun pins s σ H Q I h => ?_⟩
  refine wpAny_Call_Name_kw (ld_glob I hg hm ?_ hdb)
  exact PySem.W.callWith_K0 I.kIn M.kp (run_makeS (us := []) M F hr hb (hx σ) I .nil h)
end
/-- a class that may be called; F: its __init__, from the empty object on -/
structure Mak (P : Program) (w : World) (K : PySem.W.Frag) (mg : Str → Option Value) (base : Heap) (x : Str) (C : Nat) (k n : Nat) (F : List T → Res (T × R)) : Prop where
  ex : ∃ (c f : Addr) (fd : FuncData) (ps : List Str), clsA K C = some c ∧ mg x = some (.ref c) ∧ Mk K c f ∧ Binds K fd ps [] ∧ FnOk P w K mg base (L2.CX P w) k f fd ps (SpM K n F)
def mkO (o : Res (T × R)) : Res R := match o with
  | .ok (d, .sh .non) => .ok (.fr d)
  | .exc c p => .exc c p
  | _ => .bad
def mkR (C : Nat) (F : List T → Res (T × R)) (rs : List R) : Res R := if rs.all R.kp = true then mkO (F (.obj C [] :: rs.map R.d)) else .bad
def fMk (C : Nat) (F : List T → Res (T × R)) (ga : En → Res (List R)) (env : En) : Res R := (ga env).bind (mkR C F)
section
variable {X : Cx} {EX : L2.St → XK} {e : Expr} {es : List Expr} {ga : En → Res (List R)} {F : List T → Res (T × R)} {j k n : Nat} {C : Nat} {c : Addr} {x : Str} {p pos : Pos}
theorem mk_core {B H0 O env σ H H1} (ec : clsA X.K C = some c) {rs : List R} {vs : List V} {Q : VK} {x dx : Addr} (R0 : Rel X.K B H0 O env σ H) (s : Same H H1) (r : RRs X.K B O H H1 rs vs) (hn : rs.length + 1 = n) (nx : H1 x = none) (ndx : H1 dx = none) (ne : dx ≠ x)
    (q : Post (XC X.K B O EX σ H) (fun r => ∀ v H', Same H H' → RR X.K B O H H' r v → Q v H') (mkR C F rs)) :
    SpM X.K n F (.ref x :: vs) (upd (upd H1 dx (.own x)) x (.ins c dx [])) (fun v H2 => v = .non ∧ Q (.ref x) H2) (EX σ) := by
  unfold mkR at q
  split at q
  · rename_i kp
    have ra := RRs.rp R0 r kp
    have s1 : Same H1 (upd (upd H1 dx (.own x)) x (.ins c dx [])) := fun b o e => by
      rw [upd_ne (ne_of_none e nx), upd_ne (ne_of_none e ndx)]; exact e
    have R1 := R0.mono s
    have nB : ¬ Ex B O x := R1.ex_new nx
    have kB : ∀ {t : T} {v : V}, Rp X.K H1 (Ex B O) t v → Rp X.K (upd (upd H1 dx (.own x)) x (.ins c dx [])) ((Ex B O).add x) t v := fun h => (h.newB nx).same s1
    refine ⟨.obj C [], rs.map R.d, Ex B O, x, .ins c dx [], vs, rfl, fun b z => ?_, upd_same, nB, .obj ec rfl .nil, ⟨ra.1, fun i t u a b => kB (ra.2 i t u a b)⟩, by simpa using hn, ?_⟩
    · obtain ⟨o, e, nt⟩ := R1.ex_ntup z
      exact ⟨o, s1 _ _ e, nt⟩
    · have back : ∀ {H' : Hp}, (∀ b o, (upd (upd H1 dx (.own x)) x (.ins c dx [])) b = some o → b ≠ x → H' b = some o) → Same H H' := fun ag b o e => ag b o (s1 _ _ (s _ _ e)) (ne_of_none (s _ _ e) nx)
      cases ef : F (.obj C [] :: rs.map R.d) with
      | ok z =>
        obtain ⟨d, r'⟩ := z
        rw [ef] at q
        intro v H' ho' ag h' ow rr
        cases r' with
        | sh dd =>
          cases dd with
          | non =>
            refine ⟨rp_non rr, q (.ref x) H' (back ag) ⟨x, ho', rfl, s.free nx, h', ow.anti fun b z => ?_⟩⟩
            exact z
          | _ => exact q.elim
        | _ => exact q.elim
      | exc c pl =>
        rw [ef] at q
        intro H' dd ca ea ag xx
        refine q H' dd ca ea (back ag) ?_
        cases pl with
        | none => exact xx
        | some t =>
          obtain ⟨a, v, z1, z2, z3⟩ := xx
          exact ⟨a, v, z1, z2, z3⟩
      | bad => rw [ef] at q; exact q.elim
  · exact q.elim
theorem ej_mk (M : Mak X.prog X.w X.K X.mg X.base x C j n F) (hr : Room k X.A) (hjk : j + 1 ≤ k) (hx : ∀ σ, PassesAt (L2.CX X.prog X.w) X σ (EX σ)) (hg : Gl X x) (ha : AJ X EX (e :: es) ga) (hn : ∀ env rs, ga env = .ok rs → rs.length + 1 = n)
    (hdb : (x == ("__debug__" : Str)) = false := by decide) (he : starEach (e :: es) X.env = (false, eval e X.env) :: starEach es X.env := by rfl) (hpl : (backTo pos (starEach es X.env)).any (·.1) = false := by rfl) :
    EJ X EX (.Call (.Name x p) (e :: es) [] pos) (fMk C F ga) := by
  obtain ⟨cc, f, fd, ps, h0, h1, h2, h3, h4⟩ := M.ex
  obtain ⟨t, pa, i⟩ := ha.ex
  refine ⟨⟨_, pe_makeS h2 h4 (hr.mono hjk) hg h1 h3 hx pa hdb he hpl, fun B H0 O env σ H Q R q => ?_⟩⟩
  have q' : Post (XC X.K B O EX σ H) (fun rs => ga env = .ok rs ∧ Post (XC X.K B O EX σ H) (fun r => ∀ v H', Same H H' → RR X.K B O H H' r v → Q v H') (mkR C F rs)) (ga env) := by
    have z := q.bind
    cases eg : ga env with
    | ok rs => rw [eg] at z; exact ⟨rfl, z⟩
    | exc c p => rw [eg] at z; exact z
    | bad => rw [eg] at z; exact z
  refine i B H0 O env σ H _ R (q'.mono (fun _ _ x => x) fun rs z vs H1 s r1 x dx nx ndx ne => ?_)
  exact mk_core h0 R s r1 (hn env rs z.1) nx ndx ne z.2
end
end Tr
namespace Tr
open PySem L2

/-! ### small facts for simp -/
@[simp] theorem kp_sh (d : T) : (R.sh d).kp = true := rfl
@[simp] theorem kp_fr (d : T) : (R.fr d).kp = true := rfl
@[simp] theorem kp_bo (i : Nat) (d : T) : (R.bo i d).kp = false := rfl
@[simp] theorem kp_vw (d : T) : (R.vw d).kp = false := rfl
@[simp] theorem out_vw (d : T) : (R.vw d).out = .vw d := rfl
@[simp] theorem sl_sh (d : T) : (R.sh d).sl = .fz d := rfl
@[simp] theorem sl_fr (d : T) : (R.fr d).sl = .ow d := rfl
@[simp] theorem out_sh (d : T) : (R.sh d).out = .sh d := rfl
@[simp] theorem out_fr (d : T) : (R.fr d).out = .fr d := rfl
@[simp] theorem out_bo (i : Nat) (d : T) : (R.bo i d).out = .fr d := rfl
@[simp] theorem its_lst (l : List T) : T.its (.lst l) = some l := rfl
@[simp] theorem its_scr (l : List Int) : T.its (.scr l) = some (l.map T.int) := rfl
@[simp] theorem isNon_non : T.isNon .non = true := rfl
@[simp] theorem isNon_int (i : Int) : T.isNon (.int i) = false := rfl
@[simp] theorem isNon_str (i : Str) : T.isNon (.str i) = false := rfl
@[simp] theorem isNon_bl (i : Bool) : T.isNon (.bl i) = false := rfl
@[simp] theorem isNon_tup (l : List T) : T.isNon (.tup l) = false := rfl
@[simp] theorem isNon_lst (l : List T) : T.isNon (.lst l) = false := rfl
@[simp] theorem tyn_non : T.tyn .non = some "NoneType" := rfl
@[simp] theorem tyn_bl (b : Bool) : T.tyn (.bl b) = some "bool" := rfl
@[simp] theorem tyn_int (b : Int) : T.tyn (.int b) = some "int" := rfl
@[simp] theorem tyn_str (b : Str) : T.tyn (.str b) = some "str" := rfl
@[simp] theorem tyn_tup (b : List T) : T.tyn (.tup b) = some "tuple" := rfl
@[simp] theorem tyn_lst (b : List T) : T.tyn (.lst b) = some "list" := rfl
@[simp] theorem tyn_dik (b : List (Key × T)) : T.tyn (.dik b) = some "dict" := rfl
@[simp] theorem tyn_dit (b : List (List Key × T)) : T.tyn (.dit b) = some "dict" := rfl
@[simp] theorem isaB_same (a : String) : isaB a a = true := by simp [isaB]
@[simp] theorem isaB1 : isaB "bool" "int" = true := by decide
@[simp] theorem isaB2 : isaB "int" "bool" = false := by decide
@[simp] theorem isaB3 : isaB "int" "str" = false := by decide
@[simp] theorem isaB4 : isaB "int" "list" = false := by decide
@[simp] theorem isaB5 : isaB "int" "tuple" = false := by decide
@[simp] theorem isaB6 : isaB "str" "int" = false := by decide
@[simp] theorem isaB7 : isaB "list" "tuple" = false := by decide
@[simp] theorem isaB8 : isaB "tuple" "list" = false := by decide
@[simp] theorem bind_eq_rb {A C : Type} (r : Res A) (f : A → Res C) : (r >>= f) = r.bind f := rfl
@[simp] theorem isOw_no : isOw (some .no) = false := rfl
@[simp] theorem isOw_fz (d : T) : isOw (some (.fz d)) = false := rfl
@[simp] theorem isOw_ow (d : T) : isOw (some (.ow d)) = true := rfl
@[simp] theorem isOw_sf (d : T) : isOw (some (.sf d)) = true := rfl
@[simp] theorem isOw_none : isOw none = true := rfl
@[simp] theorem isOw_br (d : T) : isOw (some (.br d)) = false := rfl
@[simp] theorem wipeE_nil (env : En) : wipeE env [] = env := rfl
@[simp] theorem wipeE_cons (env : En) (v : Nat) (vs : List Nat) : wipeE env (v :: vs) = (wipeE env vs).set v .no := rfl
@[simp] theorem asInt_int (i : Int) : T.asInt (.int i) = some i := rfl
@[simp] theorem asPair_p (a b : Int) : T.asPair (.tup [.int a, .int b]) = some (a, b) := rfl
theorem mapM_some {A C : Type} {f : A → Option C} {g : C → A} (h : ∀ c, f (g c) = some c) : ∀ l : List C, (l.map g).mapM f = some l
  | [] => rfl
  | c :: l => by
    rw [List.map_cons, List.mapM_cons, h c, mapM_some h l]
    rfl
@[simp] theorem ints_map (l : List Int) : T.ints (.lst (l.map T.int)) = some l := mapM_some (f := T.asInt) (g := T.int) (fun _ => rfl) l
@[simp] theorem ints_scr (l : List Int) : T.ints (.scr l) = some l := rfl
@[simp] theorem pairs_map (l : List (Int × Int)) : T.pairs (.lst (l.map encP)) = some l := mapM_some (f := T.asPair) (g := encP) (fun _ => rfl) l
theorem ints_map_pair {l : List (Int × Int)} (h : l ≠ []) : T.ints (.lst (l.map encP)) = none := by
  cases l with
  | nil => exact (h rfl).elim
  | cons p l => rfl
theorem sortP_nil : sortP [] = [] := by simp [sortP]
theorem sortI_nil : sortI [] = [] := by simp [sortI]
theorem sort_pairs' (r : R) (l : List (Int × Int)) (h : r.d = .lst (l.map encP)) : sortR [r] = .ok (.fr (.lst ((sortP l).map encP))) := by
  unfold sortR
  simp only [h]
  cases l with
  | nil =>
    have e : T.ints (.lst ([].map encP)) = some [] := ints_map []
    rw [e, sortP_nil]; simp [sortI_nil]
  | cons p l => rw [ints_map_pair (by simp), pairs_map]
set_option exponentiation.threshold 3000 in
theorem numOk_of {i : Int} (h : -(2 ^ 64) < i ∧ i < 2 ^ 64) : numOk i := by
  have : i.natAbs < 2 ^ 64 := by omega
  exact Nat.lt_of_lt_of_le this (Nat.pow_le_pow_right (by decide) (by decide))
theorem ixN_int {n : Nat} {i : Int} : ixN n i = if 0 ≤ i then (if i < n then some i.toNat else none) else if -(n : Int) ≤ i then some (i + n).toNat else none := rfl
theorem atI_map {A C : Type} (f : A → C) (l : List A) (i : Int) : atI (l.map f) i = (atI l i).map f := by
  unfold atI
  rw [List.length_map]
  cases ixN l.length i with
  | none => rfl
  | some j => simp
@[simp] theorem atI_lit0 {A : Type} (a : A) (l : List A) : atI (a :: l) 0 = some a := by
  have : ixN (a :: l).length 0 = some 0 := by simp [ixN]; try omega
  unfold atI; rw [this]; rfl
@[simp] theorem atI_lit1 {A : Type} (a b : A) (l : List A) : atI (a :: b :: l) 1 = some b := by
  have : ixN (a :: b :: l).length 1 = some 1 := by simp [ixN]; try omega
  unfold atI; rw [this]; rfl
@[simp] theorem atI_lit2 {A : Type} (a b c : A) (l : List A) : atI (a :: b :: c :: l) 2 = some c := by
  have : ixN (a :: b :: c :: l).length 2 = some 2 := by simp [ixN]; try omega
  unfold atI; rw [this]; rfl
@[simp] theorem atI_lit3 {A : Type} (a b c d : A) (l : List A) : atI (a :: b :: c :: d :: l) 3 = some d := by
  have : ixN (a :: b :: c :: d :: l).length 3 = some 3 := by simp [ixN]; try omega
  unfold atI; rw [this]; rfl
@[simp] theorem atI_lit4 {A : Type} (a b c d e : A) (l : List A) : atI (a :: b :: c :: d :: e :: l) 4 = some e := by
  have : ixN (a :: b :: c :: d :: e :: l).length 4 = some 4 := by simp [ixN]; try omega
  unfold atI; rw [this]; rfl
theorem atI_ofNat {A : Type} {l : List A} {j : Nat} (h : j < l.length) : atI l (j : Int) = some l[j] := by
  have : ixN l.length (j : Int) = some j := by unfold ixN; rw [if_pos (by omega), if_pos (by omega)]; simp
  simp [atI, this, h]
theorem atI_in {A : Type} {l : List A} {i : Int} (h0 : 0 ≤ i) (h : i < l.length) : atI l i = l[i.toNat]? := by
  have : ixN l.length i = some i.toNat := by unfold ixN; rw [if_pos h0, if_pos h]
  simp [atI, this]
theorem atI_neg1 {A : Type} {l : List A} (h : l ≠ []) : atI l (-1) = l.getLast? := by
  have hl : 0 < l.length := by cases l <;> simp at h ⊢
  have : ixN l.length (-1) = some (l.length - 1) := by
    unfold ixN
    rw [if_neg (by omega), if_pos (by omega)]
    congr 1; omega
  simp [atI, this, List.getLast?_eq_getElem?]
@[simp] theorem atI_app1 {A : Type} (l : List A) (a : A) : atI (l ++ [a]) (-1) = some a := by rw [atI_neg1 (by simp)]; simp
@[simp] theorem ixN_neg1 (n : Nat) : ixN (n + 1) (-1) = some n := by
  unfold ixN
  rw [if_neg (by omega), if_pos (by omega)]
  congr 1; omega

/-! ### equality of data -/
@[simp] theorem teq_int (a b : Int) : teq (.int a) (.int b) = decide (a = b) := by simp [teq, T.toD, PyData.eqv]; rfl
@[simp] theorem teq_bl (a b : Bool) : teq (.bl a) (.bl b) = decide (a = b) := by cases a <;> cases b <;> rfl
@[simp] theorem teq_str (a b : Str) : teq (.str a) (.str b) = decide (a = b) := by simp [teq, T.toD, PyData.eqv]; rfl
@[simp] theorem teq_non : teq .non .non = true := by simp [teq, T.toD, PyData.eqv]
def teqs : List T → List T → Bool
  | [], [] => true
  | a :: l, b :: m => teq a b && teqs l m
  | _, _ => false
theorem teqs_eq : ∀ l m : List T, PyData.eqvAll (T.toDs l) (T.toDs m) = teqs l m
  | [], [] => by simp [T.toDs, PyData.eqvAll, teqs]
  | a :: l, b :: m => by simp [T.toDs, PyData.eqvAll, teqs, teqs_eq l m, teq]
  | [], _ :: _ => by simp [T.toDs, PyData.eqvAll, teqs]
  | _ :: _, [] => by simp [T.toDs, PyData.eqvAll, teqs]
@[simp] theorem teq_tup (l m : List T) : teq (.tup l) (.tup m) = teqs l m := by simp [teq, T.toD, PyData.eqv, teqs_eq]
@[simp] theorem teq_lst (l m : List T) : teq (.lst l) (.lst m) = teqs l m := by simp [teq, T.toD, PyData.eqv, teqs_eq]
@[simp] theorem teqs_nil : teqs [] [] = true := rfl
@[simp] theorem teqs_cons (a b : T) (l m : List T) : teqs (a :: l) (b :: m) = (teq a b && teqs l m) := rfl
@[simp] theorem teqs_cn (a : T) (l : List T) : teqs (a :: l) [] = false := rfl
@[simp] theorem teqs_nc (a : T) (l : List T) : teqs [] (a :: l) = false := rfl
@[simp] theorem teq_non_int (a : Int) : teq .non (.int a) = false := by simp [teq, T.toD, PyData.eqv]
@[simp] theorem teq_int_non (a : Int) : teq (.int a) .non = false := by simp [teq, T.toD, PyData.eqv]
@[simp] theorem teq_non_str (a : Str) : teq .non (.str a) = false := by simp [teq, T.toD, PyData.eqv]
@[simp] theorem teq_str_non (a : Str) : teq (.str a) .non = false := by simp [teq, T.toD, PyData.eqv]
mutual
theorem eqv_self : ∀ t : T, PyData.eqv t.toD t.toD = true
  | .non => by simp [T.toD, PyData.eqv]
  | .bl b => by simp [T.toD, PyData.eqv]
  | .int i => by simp [T.toD, PyData.eqv]
  | .str x => by simp [T.toD, PyData.eqv]
  | .tup l => by simp only [T.toD, PyData.eqv]; exact eqvs_self l
  | .lst l => by simp only [T.toD, PyData.eqv]; exact eqvs_self l
  | .scr ns => by
    simp only [T.toD, PyData.eqv]
    induction ns with
    | nil => simp [PyData.eqvAll]
    | cons n ns ih => simp [PyData.eqvAll, PyData.eqv, ih]
  | .dik _ => by simp [T.toD, PyData.eqv]
  | .dit _ => by simp [T.toD, PyData.eqv]
  | .obj _ _ => by simp [T.toD, PyData.eqv]
  | .fn _ => by simp [T.toD, PyData.eqv]
  | .ptr _ => by simp [T.toD, PyData.eqv]
  | .ex0 _ => by simp [T.toD, PyData.eqv]
  | .ex1 _ _ => by simp [T.toD, PyData.eqv]
theorem eqvs_self : ∀ l : List T, PyData.eqvAll (T.toDs l) (T.toDs l) = true
  | [] => by simp [T.toDs, PyData.eqvAll]
  | t :: l => by simp only [T.toDs, PyData.eqvAll, eqv_self t, eqvs_self l, Bool.and_self]
end
@[simp] theorem teq_self (t : T) : teq t t = true := eqv_self t
@[simp] theorem teqs_self (l : List T) : teqs l l = true := by rw [← teqs_eq]; exact eqvs_self l
theorem teqs_map {A : Type} [DecidableEq A] {enc : A → T} (h : ∀ a b, teq (enc a) (enc b) = decide (a = b)) : ∀ l m : List A, teqs (l.map enc) (m.map enc) = decide (l = m)
  | [], [] => rfl
  | [], _ :: _ => rfl
  | _ :: _, [] => rfl
  | a :: l, b :: m => by simp [h, teqs_map h l m]
@[simp] theorem teq_encP (p q : Int × Int) : teq (encP p) (encP q) = decide (p = q) := by
  obtain ⟨a, b⟩ := p
  obtain ⟨c, d⟩ := q
  simp [encP]
@[simp] theorem teqs_ints (l m : List Int) : teqs (l.map T.int) (m.map T.int) = decide (l = m) := teqs_map (fun a b => teq_int a b) l m
@[simp] theorem teqs_pairs (l m : List (Int × Int)) : teqs (l.map encP) (m.map encP) = decide (l = m) := teqs_map teq_encP l m
@[simp] theorem teqs_strs (l m : List Str) : teqs (l.map T.str) (m.map T.str) = decide (l = m) := teqs_map (fun a b => teq_str a b) l m
@[simp] theorem teqs_nil_iff {A : Type} (f : A → T) (l : List A) : teqs (l.map f) [] = l.isEmpty := by cases l <;> rfl
@[simp] theorem pd_int (n : Nat) (i : Int) : T.pd n (.int i) = true := by cases n <;> rfl
@[simp] theorem pd_bl (n : Nat) (i : Bool) : T.pd n (.bl i) = true := by cases n <;> rfl
@[simp] theorem pd_str (n : Nat) (i : Str) : T.pd n (.str i) = true := by cases n <;> rfl
@[simp] theorem pd_non (n : Nat) : T.pd n .non = true := by cases n <;> rfl
@[simp] theorem pd_tup (n : Nat) (l : List T) : T.pd (n + 1) (.tup l) = l.all (T.pd n) := rfl
@[simp] theorem pd_lst (n : Nat) (l : List T) : T.pd (n + 1) (.lst l) = l.all (T.pd n) := rfl
theorem pd_map {A : Type} {enc : A → T} {n : Nat} (h : ∀ a, T.pd n (enc a) = true) (l : List A) : T.pd (n + 1) (.lst (l.map enc)) = true := by
  rw [pd_lst, List.all_map]
  exact List.all_eq_true.mpr fun a _ => h a

/-! ### flat -/
@[simp] theorem fl_int (n : Nat) (i : Int) : T.fl n (.int i) = true := by cases n <;> rfl
@[simp] theorem fl_bl (n : Nat) (i : Bool) : T.fl n (.bl i) = true := by cases n <;> rfl
@[simp] theorem fl_str (n : Nat) (i : Str) : T.fl n (.str i) = true := by cases n <;> rfl
@[simp] theorem fl_non (n : Nat) : T.fl n .non = true := by cases n <;> rfl
@[simp] theorem fl_tup (n : Nat) (l : List T) : T.fl (n + 1) (.tup l) = l.all (T.fl n) := rfl
@[simp] theorem flR_sh (d : T) : T.flR (.sh d) = T.fl 8 d := rfl
@[simp] theorem flR_lst (l : List T) : T.flR (.fr (.lst l)) = l.all (T.fl 8) := rfl

/-! ### the operators, by trees -/
section
variable (x y : R) (a b : T) (i j : Int) (s t : Str) (l m : List T) (p q : Bool) (ns : List Int)
def Sl.get (i : Nat) (s : Option Sl) : Res R := match s with
  | some s => slR i s
  | none => .bad
@[simp] theorem slget_fz (n : Nat) : Sl.get n (some (.fz a)) = .ok (.sh a) := rfl
@[simp] theorem slget_ow (n : Nat) : Sl.get n (some (.ow a)) = .ok (.bo n a) := rfl
@[simp] theorem slget_sf (n : Nat) : Sl.get n (some (.sf a)) = .ok (.bo n a) := rfl
@[simp] theorem slget_no (n : Nat) : Sl.get n (some .no) = .bad := rfl
@[simp] theorem fV_eq (n : Nat) (env : En) : fV n env = Sl.get n env[n]? := rfl
def addT (a b : T) : Res R := addR (.sh a) (.sh b)
@[simp] theorem addR_eq : addR x y = addT x.d y.d := rfl
@[simp] theorem addT_int : addT (.int i) (.int j) = .ok (.sh (.int (i + j))) := rfl
@[simp] theorem addT_str : addT (.str s) (.str t) = if s.length + t.length ≤ sizeLine then .ok (.sh (.str (s ++ t))) else .bad := rfl
@[simp] theorem addT_lst : addT (.lst l) (.lst m) = if l.length + m.length ≤ sizeLine then .ok (.fr (.lst (l ++ m))) else .bad := rfl
def subT (a b : T) : Res R := subR (.sh a) (.sh b)
@[simp] theorem subR_eq : subR x y = subT x.d y.d := rfl
@[simp] theorem subT_int : subT (.int i) (.int j) = .ok (.sh (.int (i - j))) := rfl
def mulT (a b : T) : Res R := mulR (.sh a) (.sh b)
@[simp] theorem mulR_eq : mulR x y = mulT x.d y.d := rfl
@[simp] theorem mulT_int : mulT (.int i) (.int j) = if mulOk i j then .ok (.sh (.int (i * j))) else .bad := rfl
@[simp] theorem mulT_lst : mulT (.lst l) (.int j) = if (-(2 ^ 63) ≤ j ∧ j < 2 ^ 63) ∧ l.length * j.toNat ≤ sizeLine then .ok (.fr (.lst (List.replicate j.toNat l).flatten)) else .bad := rfl
def fdivT (a b : T) : Res R := fdivR (.sh a) (.sh b)
@[simp] theorem fdivR_eq : fdivR x y = fdivT x.d y.d := rfl
@[simp] theorem fdivT_int : fdivT (.int i) (.int j) = if 0 < j ∧ j < 1073741824 then .ok (.sh (.int (i / j))) else .bad := rfl
def modT (a b : T) : Res R := modR (.sh a) (.sh b)
@[simp] theorem modR_eq : modR x y = modT x.d y.d := rfl
@[simp] theorem modT_int : modT (.int i) (.int j) = if 0 < j then .ok (.sh (.int (i % j))) else .bad := rfl
def powT (a b : T) : Res R := powR (.sh a) (.sh b)
@[simp] theorem powR_eq : powR x y = powT x.d y.d := rfl
@[simp] theorem powT_int : powT (.int i) (.int j) = if 0 ≤ j ∧ j ≤ 1000000 ∧ i.natAbs < 2 ^ 64 then .ok (.sh (.int (i ^ j.toNat))) else .bad := rfl
def cmpT (f : Int → Int → Bool) (a b : T) : Res R := cmpR f (.sh a) (.sh b)
@[simp] theorem cmpR_eq (f : Int → Int → Bool) : cmpR f x y = cmpT f x.d y.d := rfl
@[simp] theorem cmpT_int (f : Int → Int → Bool) : cmpT f (.int i) (.int j) = .ok (.sh (.bl (f i j))) := rfl
def leT (a b : T) : Res R := leR (.sh a) (.sh b)
@[simp] theorem leR_eq : leR x y = leT x.d y.d := rfl
@[simp] theorem leT_int : leT (.int i) (.int j) = .ok (.sh (.bl (decide (i ≤ j)))) := rfl
theorem leT_str : leT (.str s) (.str t) = .ok (.sh (.bl (!decide (t.cps.toList < s.cps.toList)))) := rfl
def eqT (a b : T) : Res R := eqR (.sh a) (.sh b)
@[simp] theorem eqR_eq : eqR x y = eqT x.d y.d := rfl
theorem eqT_eq (h : T.pd 8 a = true) (k : T.pd 8 b = true) : eqT a b = .ok (.sh (.bl (teq a b))) := by
  unfold eqT eqR
  rw [if_pos ⟨h, k⟩]
  rfl
@[simp] theorem eqT_int : eqT (.int i) (.int j) = .ok (.sh (.bl (decide (i = j)))) := by rw [eqT_eq _ _ (by cases i <;> rfl) (by cases j <;> rfl), teq_int]
@[simp] theorem eqT_str : eqT (.str s) (.str t) = .ok (.sh (.bl (decide (s = t)))) := by rw [eqT_eq _ _ rfl rfl, teq_str]
@[simp] theorem eqT_bl : eqT (.bl p) (.bl q) = .ok (.sh (.bl (decide (p = q)))) := by rw [eqT_eq _ _ rfl rfl, teq_bl]
@[simp] theorem eqT_lst : eqT (.lst l) (.lst m) = if l.all (T.pd 7) = true ∧ m.all (T.pd 7) = true then .ok (.sh (.bl (teqs l m))) else .bad := by
  unfold eqT eqR
  simp only [R_d_sh, pd_lst, teq_lst]
@[simp] theorem eqT_tup : eqT (.tup l) (.tup m) = if l.all (T.pd 7) = true ∧ m.all (T.pd 7) = true then .ok (.sh (.bl (teqs l m))) else .bad := by
  unfold eqT eqR
  simp only [R_d_sh, pd_tup, teq_tup]
def neT (a b : T) : Res R := neR (.sh a) (.sh b)
@[simp] theorem neR_eq : neR x y = neT x.d y.d := rfl
theorem neT_eq (h : T.pd 8 a = true) (k : T.pd 8 b = true) : neT a b = .ok (.sh (.bl (!teq a b))) := by
  unfold neT neR
  rw [if_pos ⟨h, k⟩]
  rfl
@[simp] theorem neT_int : neT (.int i) (.int j) = .ok (.sh (.bl (!decide (i = j)))) := by rw [neT_eq _ _ (by cases i <;> rfl) (by cases j <;> rfl), teq_int]
@[simp] theorem neT_str : neT (.str s) (.str t) = .ok (.sh (.bl (!decide (s = t)))) := by rw [neT_eq _ _ rfl rfl, teq_str]
@[simp] theorem neT_lst : neT (.lst l) (.lst m) = if l.all (T.pd 7) = true ∧ m.all (T.pd 7) = true then .ok (.sh (.bl (!teqs l m))) else .bad := by
  unfold neT neR
  simp only [R_d_sh, pd_lst, teq_lst]
@[simp] theorem neT_tup : neT (.tup l) (.tup m) = if l.all (T.pd 7) = true ∧ m.all (T.pd 7) = true then .ok (.sh (.bl (!teqs l m))) else .bad := by
  unfold neT neR
  simp only [R_d_sh, pd_tup, teq_tup]
def isT (a b : T) : Res R := isR (.sh a) (.sh b)
@[simp] theorem isR_eq : isR x y = isT x.d y.d := rfl
@[simp] theorem isT_non : isT a .non = .ok (.sh (.bl a.isNon)) := by unfold isT isR; cases a <;> rfl
@[simp] theorem isT_bl : isT (.bl p) (.bl q) = .ok (.sh (.bl (decide (p = q)))) := rfl
def isnT (a b : T) : Res R := isnR (.sh a) (.sh b)
@[simp] theorem isnR_eq : isnR x y = isnT x.d y.d := rfl
@[simp] theorem isnT_non : isnT a .non = .ok (.sh (.bl (!a.isNon))) := by unfold isnT isnR; cases a <;> rfl
@[simp] theorem isnT_bl : isnT (.bl p) (.bl q) = .ok (.sh (.bl (!decide (p = q)))) := rfl
def asBT (a : T) : Res Bool := asB (.sh a)
@[simp] theorem asB_eq : asB x = asBT x.d := rfl
@[simp] theorem asBT_bl : asBT (.bl p) = .ok p := rfl
def truT (a : T) : Res Bool := truR (.sh a)
@[simp] theorem truR_eq : truR x = truT x.d := rfl
@[simp] theorem truT_bl : truT (.bl p) = .ok p := rfl
@[simp] theorem truT_int : truT (.int i) = .ok (i != 0) := rfl
@[simp] theorem truT_non : truT .non = .ok false := rfl
@[simp] theorem truT_lst : truT (.lst l) = .ok (!l.isEmpty) := rfl
def ixT (a b : T) : Res R := ixR (.sh a) (.sh b)
def Option.sh (o : Option T) : Res R := match o with
  | some t => .ok (.sh t)
  | none => .bad
@[simp] theorem osh_some : Option.sh (some a) = .ok (.sh a) := rfl
@[simp] theorem ixR_eq : ixR x y = ixT x.d y.d := rfl
@[simp] theorem ixT_lst : ixT (.lst l) (.int i) = Option.sh (atI l i) := by
  show (match atI l i with
    | some t => Res.ok (R.sh t)
    | none => .bad) = _
  cases atI l i <;> rfl
@[simp] theorem ixT_tup : ixT (.tup l) (.int i) = Option.sh (atI l i) := by
  show (match atI l i with
    | some t => Res.ok (R.sh t)
    | none => .bad) = _
  cases atI l i <;> rfl
@[simp] theorem ixT_scr : ixT (.scr ns) (.int i) = Option.sh ((atI ns i).map T.int) := by
  show (match atI ns i with
    | some n => Res.ok (R.sh (.int n))
    | none => .bad) = _
  cases atI ns i <;> rfl
@[simp] theorem ixT_str : ixT (.str s) (.int i) = if s.length ≤ sizeLine then Option.sh ((atI s.cps.toList i).map fun c => T.str ⟨#[c]⟩) else .bad := by
  show (if s.length ≤ sizeLine then (match atI s.cps.toList i with
      | some c => Res.ok (R.sh (.str ⟨#[c]⟩))
      | none => .bad) else .bad) = _
  split
  · cases atI s.cps.toList i <;> rfl
  · rfl
def cutT (a : T) (lo hi : Option Int) : Res R := cutR (.sh a) lo hi
@[simp] theorem cutR_eq (lo hi : Option Int) : cutR x lo hi = cutT x.d lo hi := rfl
@[simp] theorem cutT_lst (lo hi : Option Int) : cutT (.lst l) lo hi = .ok (.fr (.lst (cutL l lo hi))) := rfl
@[simp] theorem cutT_scr (lo hi : Option Int) : cutT (.scr ns) lo hi = .ok (.fr (.lst ((cutL ns lo hi).map T.int))) := rfl
@[simp] theorem cutT_str (lo hi : Option Int) : cutT (.str s) lo hi = if s.length ≤ sizeLine then .ok (.sh (.str (cutS s lo hi))) else .bad := rfl
theorem cutL_map {A C : Type} (f : A → C) (l : List A) (lo hi : Option Int) : cutL (l.map f) lo hi = (cutL l lo hi).map f := by
  unfold cutL
  simp [List.map_take, List.map_drop]
theorem cutL_len {A : Type} (l : List A) (lo hi : Option Int) : (cutL l lo hi).length ≤ l.length := by
  unfold cutL
  simp
  omega
def partT (a : T) : Res (Option Int) := partR (.sh a)
@[simp] theorem partR_eq : partR x = partT x.d := rfl
@[simp] theorem partT_int : partT (.int i) = .ok (some i) := rfl
def Option.bl (o : Option Bool) : Res R := match o with
  | some t => .ok (.sh (.bl t))
  | none => .bad
@[simp] theorem obl_some : Option.bl (some p) = .ok (.sh (.bl p)) := rfl
@[simp] theorem inR_eq : inR x y = Option.bl (inT x.d y.d) := by unfold inR; cases inT x.d y.d <;> rfl
@[simp] theorem ninR_eq : ninR x y = Option.bl ((inT x.d y.d).map Bool.not) := by unfold ninR; cases inT x.d y.d <;> rfl
theorem inT_lst (h : T.pd 8 a = true) (k : l.all (T.pd 7) = true) : inT a (.lst l) = some (l.any fun z => teq z a) := by
  show (if _ then _ else none) = _
  rw [if_pos ⟨h, k⟩]
theorem any_map_eq {A : Type} [DecidableEq A] {enc : A → T} (h : ∀ u v, teq (enc u) (enc v) = decide (u = v)) (u : A) : ∀ l : List A, ((l.map enc).any fun z => teq z (enc u)) = decide (u ∈ l)
  | [] => rfl
  | v :: l => by
    simp only [List.map_cons, List.any_cons, h, any_map_eq h u l, List.mem_cons, Bool.decide_or]
    congr 1
    exact decide_eq_decide.mpr ⟨Eq.symm, Eq.symm⟩
def lenT (a : T) : Res R := lenR [.sh a]
@[simp] theorem lenR_eq : lenR [x] = lenT x.d := rfl
@[simp] theorem lenT_lst : lenT (.lst l) = .ok (.sh (.int l.length)) := rfl
@[simp] theorem lenT_tup : lenT (.tup l) = .ok (.sh (.int l.length)) := rfl
@[simp] theorem lenT_scr : lenT (.scr ns) = .ok (.sh (.int ns.length)) := rfl
@[simp] theorem lenT_str : lenT (.str s) = if s.length ≤ sizeLine then .ok (.sh (.int s.length)) else .bad := rfl
def maxT (a b : T) : Res R := maxR [.sh a, .sh b]
@[simp] theorem maxR_eq : maxR [x, y] = maxT x.d y.d := rfl
@[simp] theorem maxT_int : maxT (.int i) (.int j) = .ok (.sh (.int (max i j))) := rfl
def minT (a b : T) : Res R := minR [.sh a, .sh b]
@[simp] theorem minR_eq : minR [x, y] = minT x.d y.d := rfl
@[simp] theorem minT_int : minT (.int i) (.int j) = .ok (.sh (.int (min i j))) := rfl
def sumT (o : Option (List Int)) : Res R := match o with
  | some ns => .ok (.sh (.int ns.sum))
  | none => .bad
@[simp] theorem sumR_eq : sumR [x] = sumT x.d.ints := by
  show (match x.d.ints with
    | some ns => Res.ok (R.sh (.int ns.sum))
    | none => .bad) = _
  cases x.d.ints <;> rfl
@[simp] theorem sumT_some : sumT (some ns) = .ok (.sh (.int ns.sum)) := rfl
def mxT (o : Option Int) : Res R := match o with
  | some n => .ok (.sh (.int n))
  | none => .bad
@[simp] theorem max1R_eq : max1R [x] = mxT (x.d.ints.bind lmax) := by
  show (match x.d.ints.bind lmax with
    | some n => Res.ok (R.sh (.int n))
    | none => .bad) = _
  cases x.d.ints.bind lmax <;> rfl
@[simp] theorem min1R_eq : min1R [x] = mxT (x.d.ints.bind lmin) := by
  show (match x.d.ints.bind lmin with
    | some n => Res.ok (R.sh (.int n))
    | none => .bad) = _
  cases x.d.ints.bind lmin <;> rfl
@[simp] theorem mxT_some : mxT (some i) = .ok (.sh (.int i)) := rfl
def listT (a : T) : Res R := listR [.sh a]
@[simp] theorem listR_eq : listR [x] = listT x.d := rfl
@[simp] theorem listT_lst : listT (.lst l) = .ok (.fr (.lst l)) := rfl
@[simp] theorem listT_tup : listT (.tup l) = .ok (.fr (.lst l)) := rfl
@[simp] theorem listT_scr : listT (.scr ns) = .ok (.fr (.lst (ns.map T.int))) := rfl
def tupleT (a : T) : Res R := tupleR [.sh a]
@[simp] theorem tupleR_eq : tupleR [x] = tupleT x.d := rfl
@[simp] theorem tupleT_lst : tupleT (.lst l) = .ok (.sh (.tup l)) := rfl
@[simp] theorem tupleT_tup : tupleT (.tup l) = .ok (.sh (.tup l)) := rfl
def intT (a : T) : Res R := intR [.sh a]
@[simp] theorem intR_eq : intR [x] = intT x.d := rfl
@[simp] theorem intT_int : intT (.int i) = .ok (.sh (.int i)) := rfl
@[simp] theorem intT_bl : intT (.bl p) = .ok (.sh (.int (if p then 1 else 0))) := rfl
def strT (a : T) : Res R := strR [.sh a]
@[simp] theorem strR_eq : strR [x] = strT x.d := rfl
@[simp] theorem strT_int : strT (.int i) = if numOk i then .ok (.sh (.str (numS i))) else .bad := rfl
def Option.its (o : Option (List T)) : Res (List T) := match o with
  | some l => .ok l
  | none => .bad
@[simp] theorem oits_some : Option.its (some l) = .ok l := rfl
@[simp] theorem wk_sh (d : T) : (R.sh d).wk = true := rfl
@[simp] theorem wk_fr (d : T) : (R.fr d).wk = true := rfl
@[simp] theorem wk_bo (i : Nat) (d : T) : (R.bo i d).wk = false := rfl
@[simp] theorem wk_vw (d : T) : (R.vw d).wk = true := rfl
@[simp] theorem itsR_eq : itsR x = if x.wk = true then Option.its x.d.its else .bad := by
  unfold itsR
  split
  · cases x.d.its <;> rfl
  · rfl
def i1T (a : T) : Res (List T) := i1R (.sh a)
@[simp] theorem i1R_eq : i1R x = i1T x.d := rfl
@[simp] theorem i1T_int : i1T (.int j) = if rOk j then .ok (rngT 0 j.toNat) else .bad := rfl
def i2T (a b : T) : Res (List T) := i2R (.sh a) (.sh b)
@[simp] theorem i2R_eq : i2R x y = i2T x.d y.d := rfl
@[simp] theorem i2T_int : i2T (.int i) (.int j) = if rOk i ∧ rOk j then .ok (rngT i (j - i).toNat) else .bad := rfl
def Res.call (r : Res R) (k : Bool) : Res R := match r with
  | .ok r => if k = true ∨ T.flR r = true then .ok r else .bad
  | .exc c p => if k = true ∨ T.flX p = true then .exc c p else .bad
  | .bad => .bad
@[simp] theorem callR_eq (F : List T → Res R) (rs : List R) : callR F rs = (F (rs.map R.d)).call (rs.all R.kp) := rfl
@[simp] theorem call_true (r : Res R) : r.call true = r := by
  cases r with
  | ok a =>
    show (if true = true ∨ T.flR a = true then Res.ok a else .bad) = _
    rw [if_pos (.inl rfl)]
  | exc c p =>
    show (if true = true ∨ T.flX p = true then Res.exc c p else .bad) = _
    rw [if_pos (.inl rfl)]
  | bad => rfl
@[simp] theorem call_false (r : R) : (Res.ok r).call false = if T.flR r = true then .ok r else .bad := by
  show (if false = true ∨ T.flR r = true then Res.ok r else .bad) = _
  simp
def sortT (a : T) : Res R := sortR [.sh a]
@[simp] theorem sortR_eq : sortR [x] = sortT x.d := rfl
@[simp] theorem sortT_ints : sortT (.lst (ns.map T.int)) = .ok (.fr (.lst ((sortI ns).map T.int))) := by
  show (match T.ints (.lst (ns.map T.int)) with
    | some ns => Res.ok (R.fr (.lst ((sortI ns).map T.int)))
    | none => match T.pairs (.lst (ns.map T.int)) with
      | some ps => .ok (.fr (.lst ((sortP ps).map encP)))
      | none => .bad) = _
  rw [ints_map]
@[simp] theorem sortT_nil : sortT (.lst []) = .ok (.fr (.lst [])) := by
  have := sortT_ints []
  simpa [sortI_nil] using this
@[simp] theorem sortT_pairs (ps : List (Int × Int)) : sortT (.lst (ps.map encP)) = .ok (.fr (.lst ((sortP ps).map encP))) := sort_pairs' _ ps rfl
end

/-! ### the forms, argument by argument -/
section
variable {A : Type} (f f' f'' f3 : En → Res R) (fl : En → Res (List R)) (c c' : En → Res Bool) (env e : En) (r r' : R) (rs : List R) (g g' g'' : R → R → Res R) (b : Bool) (k : Res R) (kb : Res Bool) (ex : Addr) (pl : Option T) (u v : En → Out) (i j : Nat) (l : List T)
def Res.cons (a : Res R) (b : Res (List R)) : Res (List R) := a.bind fun r => b.bind fun rs => .ok (r :: rs)
@[simp] theorem fA_eq : fA f fl env = (f env).cons (fl env) := rfl
@[simp] theorem cons_ok : (Res.ok r).cons (.ok rs) = .ok (r :: rs) := rfl
@[simp] theorem cons_exc (x : Res (List R)) : (Res.exc ex pl : Res R).cons x = .exc ex pl := rfl
@[simp] theorem cons_exc2 : (Res.ok r).cons (.exc ex pl) = .exc ex pl := rfl
def Res.tup (a : Res (List R)) : Res R := a.bind fun rs => if rs.all R.kp = true ∧ rs.length ≤ sizeLine then .ok (.sh (.tup (rs.map R.d))) else .bad
def Res.lstR (a : Res (List R)) : Res R := a.bind fun rs => if rs.all R.kp = true ∧ rs.length ≤ sizeLine then .ok (.fr (.lst (rs.map R.d))) else .bad
@[simp] theorem fTup_eq : fTup fl env = (fl env).tup := rfl
@[simp] theorem fLst_eq : fLst fl env = (fl env).lstR := rfl
@[simp] theorem tup_ok : (Res.ok rs).tup = if rs.all R.kp = true ∧ rs.length ≤ sizeLine then .ok (.sh (.tup (rs.map R.d))) else .bad := rfl
@[simp] theorem lstR_ok : (Res.ok rs).lstR = if rs.all R.kp = true ∧ rs.length ≤ sizeLine then .ok (.fr (.lst (rs.map R.d))) else .bad := rfl
def Res.op2 (g : R → R → Res R) (a b : Res R) : Res R := a.bind fun x => b.bind fun y => g x y
@[simp] theorem b2_eq : b2 g f f' env = Res.op2 g (f env) (f' env) := rfl
@[simp] theorem op2_ok : Res.op2 g (.ok r) (.ok r') = g r r' := rfl
@[simp] theorem op2_exc : Res.op2 g (.exc ex pl) k = .exc ex pl := rfl
@[simp] theorem op2_exc2 : Res.op2 g (.ok r) (.exc ex pl) = .exc ex pl := rfl
def Res.asB (a : Res R) : Res Bool := a.bind Tr.asB
@[simp] theorem rasB_ok : (Res.ok r).asB = asBT r.d := rfl
@[simp] theorem rasB_exc : (Res.exc ex pl : Res R).asB = .exc ex pl := rfl
@[simp] theorem c2_eq : c2 g f f' env = (Res.op2 g (f env) (f' env)).asB := by
  unfold c2 Res.op2 Res.asB
  cases f env <;> cases f' env <;> rfl
def Res.andR (a : Res Bool) (k : Res R) : Res R := a.bind fun b => if b = true then k else .ok (.sh (.bl false))
def Res.orR (a : Res Bool) (k : Res R) : Res R := a.bind fun b => if b = true then .ok (.sh (.bl true)) else k
def Res.notR (a : Res Bool) : Res R := a.bind fun b => .ok (.sh (.bl (!b)))
@[simp] theorem andR_ok : (Res.ok b).andR k = if b = true then k else .ok (.sh (.bl false)) := rfl
@[simp] theorem orR_ok : (Res.ok b).orR k = if b = true then .ok (.sh (.bl true)) else k := rfl
@[simp] theorem notR_ok : (Res.ok b).notR = .ok (.sh (.bl (!b))) := rfl
@[simp] theorem andR_exc : (Res.exc ex pl : Res Bool).andR k = .exc ex pl := rfl
@[simp] theorem orR_exc : (Res.exc ex pl : Res Bool).orR k = .exc ex pl := rfl
@[simp] theorem notR_exc : (Res.exc ex pl : Res Bool).notR = .exc ex pl := rfl
@[simp] theorem fAndV_eq : fAndV f f' env = (f env).asB.andR (f' env) := by
  unfold fAndV Res.andR Res.asB
  cases f env <;> rfl
@[simp] theorem fOrV_eq : fOrV f f' env = (f env).asB.orR (f' env) := by
  unfold fOrV Res.orR Res.asB
  cases f env <;> rfl
@[simp] theorem fNotV_eq : fNotV f env = (f env).asB.notR := by
  unfold fNotV Res.notR Res.asB
  cases f env <;> rfl
def Res.ch2 (g g' : R → R → Res R) (a b c : Res R) : Res R := a.bind fun x => b.bind fun y => (g x y).asB.andR (Res.op2 g' (.ok y) c)
@[simp] theorem ch2_eq : ch2 g g' f f' f'' env = Res.ch2 g g' (f env) (f' env) (f'' env) := by
  unfold ch2 Res.ch2
  cases f env with
  | ok x =>
    cases f' env with
    | ok y =>
      show (g x y).bind _ = ((g x y).bind _).bind _
      cases g x y <;> rfl
    | _ => rfl
  | _ => rfl
@[simp] theorem rch2_ok : Res.ch2 g g' (.ok r) (.ok r') k = (g r r').asB.andR (Res.op2 g' (.ok r') k) := rfl
@[simp] theorem cb2_eq : cb2 g g' f f' f'' env = (Res.ch2 g g' (f env) (f' env) (f'' env)).asB := by
  rw [← ch2_eq]; rfl
def Res.ch3 (g g' g'' : R → R → Res R) (a b c d : Res R) : Res R := a.bind fun x => b.bind fun y => (g x y).asB.andR (Res.ch2 g' g'' (.ok y) c d)
@[simp] theorem ch3_eq : ch3 g g' g'' f f' f'' f3 env = Res.ch3 g g' g'' (f env) (f' env) (f'' env) (f3 env) := by
  unfold ch3 Res.ch3
  cases f env with
  | ok x =>
    cases f' env with
    | ok y =>
      show (g x y).bind _ = ((g x y).bind Tr.asB).bind _
      cases g x y with
      | ok z =>
        show (Tr.asB z).bind _ = (Tr.asB z).bind _
        cases Tr.asB z with
        | ok b =>
          cases b with
          | false => rfl
          | true =>
            show (f'' env).bind _ = (f'' env).bind _
            cases f'' env with
            | ok w =>
              show (g' y w).bind _ = ((g' y w).bind Tr.asB).bind _
              cases g' y w with
              | ok z2 =>
                show (Tr.asB z2).bind _ = (Tr.asB z2).bind _
                cases Tr.asB z2 <;> rfl
              | _ => rfl
            | _ => rfl
        | _ => rfl
      | _ => rfl
    | _ => rfl
  | _ => rfl
@[simp] theorem rch3_ok (k2 : Res R) : Res.ch3 g g' g'' (.ok r) (.ok r') k k2 = (g r r').asB.andR (Res.ch2 g' g'' (.ok r') k k2) := rfl
def Res.andB (a k : Res Bool) : Res Bool := a.bind fun b => if b = true then k else .ok false
def Res.orB (a k : Res Bool) : Res Bool := a.bind fun b => if b = true then .ok true else k
def Res.notB (a : Res Bool) : Res Bool := a.bind fun b => .ok (!b)
@[simp] theorem fAnd_eq : fAnd c c' env = (c env).andB (c' env) := rfl
@[simp] theorem fOr_eq : fOr c c' env = (c env).orB (c' env) := rfl
@[simp] theorem fNot_eq : fNot c env = (c env).notB := rfl
@[simp] theorem andB_ok : (Res.ok b).andB kb = if b = true then kb else .ok false := rfl
@[simp] theorem orB_ok : (Res.ok b).orB kb = if b = true then .ok true else kb := rfl
@[simp] theorem notB_ok : (Res.ok b).notB = .ok (!b) := rfl
@[simp] theorem andB_exc : (Res.exc ex pl : Res Bool).andB kb = .exc ex pl := rfl
@[simp] theorem orB_exc : (Res.exc ex pl : Res Bool).orB kb = .exc ex pl := rfl
@[simp] theorem notB_exc : (Res.exc ex pl : Res Bool).notB = .exc ex pl := rfl
def Res.ifR {A : Type} (a : Res Bool) (x y : Res A) : Res A := a.bind fun b => if b = true then x else y
@[simp] theorem fIf_eq (x y : En → Res A) : fIf c x y env = (c env).ifR (x env) (y env) := rfl
@[simp] theorem ifR_ok (x y : Res A) : (Res.ok b).ifR x y = if b = true then x else y := rfl
def Res.tru (a : Res R) : Res Bool := a.bind truR
@[simp] theorem fTru_eq : fTru f env = (f env).tru := rfl
@[simp] theorem tru_ok : (Res.ok r).tru = truT r.d := rfl
@[simp] theorem tru_exc : (Res.exc ex pl : Res R).tru = .exc ex pl := rfl
def Res.blR (a : Res Bool) : Res R := a.bind fun b => .ok (.sh (.bl b))
@[simp] theorem fBl_eq : fBl c env = (c env).blR := rfl
@[simp] theorem blR_ok : (Res.ok b).blR = .ok (.sh (.bl b)) := rfl
def negT (a : T) : Res R := match a with
  | .int i => .ok (.sh (.int (-i)))
  | _ => .bad
@[simp] theorem negT_int (n : Int) : negT (.int n) = .ok (.sh (.int (-n))) := rfl
def Res.neg (a : Res R) : Res R := a.bind fun x => negT x.d
@[simp] theorem negF_eq : negF f env = (f env).neg := by
  unfold negF Res.neg
  cases f env with
  | ok x => show (match x.d with
      | .int i => Res.ok (R.sh (.int (-i)))
      | _ => .bad) = negT x.d
            cases x.d <;> rfl
  | _ => rfl
@[simp] theorem neg_ok : (Res.ok r).neg = negT r.d := rfl
def Res.sl (a : Res R) (l h : Res (Option Int)) : Res R := a.bind fun x => l.bind fun lo => h.bind fun hi => cutR x lo hi
@[simp] theorem fSl_eq (x y : En → Res (Option Int)) : fSl f x y env = (f env).sl (x env) (y env) := rfl
@[simp] theorem rsl_ok (lo hi : Option Int) : (Res.ok r).sl (.ok lo) (.ok hi) = cutT r.d lo hi := rfl
def Res.part (a : Res R) : Res (Option Int) := a.bind partR
@[simp] theorem fP_eq : fP f env = (f env).part := rfl
@[simp] theorem part_ok : (Res.ok r).part = partT r.d := rfl
def isaO (c : String) (o : Option String) : Res R := match o with
  | some n => .ok (.sh (.bl (isaB n c)))
  | none => .bad
@[simp] theorem isaO_some (s t : String) : isaO s (some t) = .ok (.sh (.bl (isaB t s))) := rfl
def Res.isa (a : Res R) (c : String) : Res R := a.bind fun x => isaO c x.d.tyn
@[simp] theorem fIsa_eq (s : String) : fIsa s f env = (f env).isa s := by
  unfold fIsa Res.isa
  cases f env with
  | ok x => show (match x.d.tyn with
      | some n => Res.ok (R.sh (.bl (isaB n s)))
      | none => .bad) = isaO s x.d.tyn
            cases x.d.tyn <;> rfl
  | _ => rfl
@[simp] theorem isa_ok (s : String) : (Res.ok r).isa s = isaO s r.d.tyn := rfl
@[simp] theorem isa_exc (s : String) : (Res.exc ex pl : Res R).isa s = .exc ex pl := rfl
def Res.dk1 (a b : Res R) : Res R := a.bind fun k => b.bind fun v => dk1O k.d.key v
@[simp] theorem fDk1_eq : fDk1 f f' env = (f env).dk1 (f' env) := rfl
@[simp] theorem dk1_ok : (Res.ok r).dk1 (.ok r') = dk1O r.d.key r' := rfl
@[simp] theorem dk1O_some (k : Key) : dk1O (some k) r = if r.kp = true then .ok (.fr (.dik [(k, r.d)])) else .bad := rfl
@[simp] theorem key_int (n : Int) : T.key (.int n) = some (.inl n) := rfl
@[simp] theorem key_str (s : Str) : T.key (.str s) = some (.inr s) := rfl
@[simp] theorem fDk0_eq : fDk0 env = .ok (.fr (.dik [])) := rfl
@[simp] theorem fDt0_eq : fDt0 env = .ok (.fr (.dit [])) := rfl
-- statements
def Res.setS (a : Res R) (i : Nat) (env : En) : Out := a.out (fun r env => if r.kp then .nx (env.set i r.sl) else .bad) env
@[simp] theorem fSet_eq : fSet i f env = (f env).setS i env := rfl
@[simp] theorem setS_ok : (Res.ok r).setS i env = if r.kp = true then .nx (env.set i r.sl) else .bad := rfl
@[simp] theorem setS_exc : (Res.exc ex pl : Res R).setS i env = .exc env ex pl := rfl
def Res.setZ (a : Res R) (i : Nat) (env : En) : Out := a.out (fun r env => if r.kp then .nx (env.set i (.fz r.d)) else .bad) env
@[simp] theorem fSetZ_eq : fSetZ i f env = (f env).setZ i env := rfl
@[simp] theorem setZ_ok : (Res.ok r).setZ i env = if r.kp = true then .nx (env.set i (.fz r.d)) else .bad := rfl
@[simp] theorem setZ_exc : (Res.exc ex pl : Res R).setZ i env = .exc env ex pl := rfl
def Res.dropS (a : Res R) (env : En) : Out := a.out (fun _ env => .nx env) env
@[simp] theorem fDrop_eq : fDrop f env = (f env).dropS env := rfl
@[simp] theorem dropS_ok : (Res.ok r).dropS env = .nx env := rfl
@[simp] theorem dropS_exc : (Res.exc ex pl : Res R).dropS env = .exc env ex pl := rfl
def Res.retS (a : Res R) (env : En) : Out := a.out (fun r _ => .rt r.out) env
@[simp] theorem fRet_eq : fRet f env = (f env).retS env := rfl
@[simp] theorem retS_ok : (Res.ok r).retS env = .rt r.out := rfl
@[simp] theorem retS_exc : (Res.exc ex pl : Res R).retS env = .exc env ex pl := rfl
def Res.ifS (a : Res Bool) (u v : En → Out) (env : En) : Out := a.out (fun b env => if b then u env else v env) env
@[simp] theorem fIfS_eq : fIfS c u v env = (c env).ifS u v env := rfl
@[simp] theorem ifS_ok : (Res.ok b).ifS u v env = if b = true then u env else v env := rfl
@[simp] theorem ifS_exc : (Res.exc ex pl : Res Bool).ifS u v env = .exc env ex pl := rfl
def appS (s : Option Sl) (a : Res R) (i : Nat) (env : En) : Out := match s with
  | some (.ow (.lst l)) => a.out (fun r env => if r.kp = true ∧ l.length < sizeLine then .nx (env.set i (.ow (.lst (l ++ [r.d])))) else .bad) env
  | _ => .bad
@[simp] theorem fApp_eq : fApp i f env = appS env[i]? (f env) i env := rfl
@[simp] theorem appS_ok : appS (some (.ow (.lst l))) (.ok r) i env = if r.kp = true ∧ l.length < sizeLine then .nx (env.set i (.ow (.lst (l ++ [r.d])))) else .bad := rfl
def extT (l : List T) (a : T) (i : Nat) (env : En) : Out := match a with
  | .lst m => if l.length + m.length ≤ sizeLine then .nx (env.set i (.ow (.lst (l ++ m)))) else .bad
  | _ => .bad
@[simp] theorem extT_lst (m : List T) : extT l (.lst m) i env = if l.length + m.length ≤ sizeLine then .nx (env.set i (.ow (.lst (l ++ m)))) else .bad := rfl
def extS (s : Option Sl) (a : Res R) (i : Nat) (env : En) : Out := match s with
  | some (.ow (.lst l)) => a.out (fun r env => extT l r.d i env) env
  | _ => .bad
@[simp] theorem fExt_eq : fExt i f env = extS env[i]? (f env) i env := by
  unfold fExt extS extT
  rfl
@[simp] theorem extS_ok : extS (some (.ow (.lst l))) (.ok r) i env = extT l r.d i env := rfl
def putO (o : Option Nat) (l : List T) (r : R) (i : Nat) (env : En) : Out := match o with
  | some m => if r.kp = true then .nx (env.set i (.ow (.lst (l.set m r.d)))) else .bad
  | none => .bad
@[simp] theorem putO_some : putO (some j) l r i env = if r.kp = true then .nx (env.set i (.ow (.lst (l.set j r.d)))) else .bad := rfl
def putT (l : List T) (r : R) (y : T) (i : Nat) (env : En) : Out := match y with
  | .int j => putO (ixN l.length j) l r i env
  | _ => .bad
@[simp] theorem putT_int (n : Int) : putT l r (.int n) i env = putO (ixN l.length n) l r i env := rfl
def putS (s : Option Sl) (a b : Res R) (i : Nat) (env : En) : Out := a.out (fun r env => match s with
  | some (.ow (.lst l)) => b.out (fun y env => putT l r y.d i env) env
  | _ => .bad) env
@[simp] theorem fPut_eq : fPut i f f' env = putS env[i]? (f env) (f' env) i env := by
  unfold fPut putS sOf putT putO
  rfl
@[simp] theorem putS_ok : putS (some (.ow (.lst l))) (.ok r) (.ok r') i env = putT l r r'.d i env := rfl
def popS (s : Option Sl) (i : Nat) (env : En) : Out := match s with
  | some (.ow (.lst l)) => (match l with
    | [] => .bad
    | _ :: _ => .nx (env.set i (.ow (.lst l.dropLast))))
  | _ => .bad
@[simp] theorem fPop_eq : fPop i env = popS env[i]? i env := rfl
theorem popS_ok (h : l ≠ []) : popS (some (.ow (.lst l))) i env = .nx (env.set i (.ow (.lst l.dropLast))) := by
  cases l with
  | nil => exact (h rfl).elim
  | cons a m => rfl
@[simp] theorem popS_snoc (t : T) : popS (some (.ow (.lst (l ++ [t])))) i env = .nx (env.set i (.ow (.lst l))) := by
  rw [popS_ok _ _ _ (by simp)]; simp
def clrS (s : Option Sl) (i : Nat) (env : En) : Out := match s with
  | some (.ow (.lst _)) => .nx (env.set i (.ow (.lst [])))
  | _ => .bad
@[simp] theorem fClr_eq : fClr i env = clrS env[i]? i env := rfl
@[simp] theorem clrS_ok : clrS (some (.ow (.lst l))) i env = .nx (env.set i (.ow (.lst []))) := rfl
def unpO (o : Option En) : Out := match o with
  | some e => .nx e
  | none => .bad
@[simp] theorem unpO_some : unpO (some e) = .nx e := rfl
def Res.unpS (a : Res R) (h : T → En → Option En) (env : En) : Out := a.out (fun r env => if r.kp = true then unpO (h r.d env) else .bad) env
@[simp] theorem fUnp_eq (h : T → En → Option En) : fUnp h f env = (f env).unpS h env := by
  unfold fUnp Res.unpS unpO
  rfl
@[simp] theorem unpS_ok (h : T → En → Option En) : (Res.ok r).unpS h env = if r.kp = true then unpO (h r.d env) else .bad := rfl
def gsO (o : Option En) (gs : List T → En → Option En) (l : List T) : Option En := match o with
  | some e => gs l e
  | none => none
@[simp] theorem gsO_some (gs : List T → En → Option En) : gsO (some e) gs l = gs l e := rfl
@[simp] theorem gsC_cons (h : T → En → Option En) (gs : List T → En → Option En) (t : T) : gsC h gs (t :: l) env = gsO (h t env) gs l := rfl
@[simp] theorem gT_tup (n : Nat) (gs : List T → En → Option En) : gT n gs (.tup l) env = if l.length = n then gs l env else none := rfl
@[simp] theorem gL_lst (n : Nat) (gs : List T → En → Option En) : gL n gs (.lst l) env = if l.length = n then gs l env else none := rfl
def Res.forS (a : Res (List T)) (h : T → En → Option En) (u : En → Out) (env : En) : Out := a.out (fun ts env => forL h u ts env) env
@[simp] theorem fFor_eq (it : En → Res (List T)) (h : T → En → Option En) : fFor it h u env = (it env).forS h u env := rfl
@[simp] theorem forS_ok (h : T → En → Option En) : (Res.ok l).forS h u env = forL h u l env := rfl
@[simp] theorem iL_eq : iL f env = (f env).bind itsR := rfl
def Res.mapL (a : Res (List T)) (h : List T → List T) : Res (List T) := a.bind fun l => .ok (h l)
@[simp] theorem mapL_ok (h : List T → List T) : (Res.ok l).mapL h = .ok (h l) := rfl
@[simp] theorem iE_eq : iE f env = ((f env).bind itsR).mapL (enumT 0) := by
  unfold iE Res.mapL
  cases f env <;> rfl
@[simp] theorem iRv_eq : iRv f env = ((f env).bind itsR).mapL List.reverse := by
  unfold iRv Res.mapL
  cases f env <;> rfl
def Res.zipL (a b : Res (List T)) : Res (List T) := a.bind fun l => b.bind fun m => .ok (zipT l m)
@[simp] theorem zipL_ok (m : List T) : (Res.ok l).zipL (.ok m) = .ok (zipT l m) := rfl
def Res.zip2 (a b : Res R) : Res (List T) := a.bind fun r => b.bind fun r' => (itsR r).zipL (itsR r')
@[simp] theorem iZ_eq : iZ f f' env = (f env).zip2 (f' env) := rfl
@[simp] theorem zip2_ok : (Res.ok r).zip2 (.ok r') = (itsR r).zipL (itsR r') := rfl
def iST (a : T) : Res (List T) := match a with
  | .str x => .ok (x.cps.toList.map fun c => T.str ⟨#[c]⟩)
  | _ => .bad
@[simp] theorem iST_str (s : Str) : iST (.str s) = .ok (s.cps.toList.map fun c => T.str ⟨#[c]⟩) := rfl
def Res.iS (a : Res R) : Res (List T) := a.bind fun r => iST r.d
@[simp] theorem iS_eq : iS f env = (f env).iS := by
  unfold iS Res.iS
  cases f env with
  | ok x => show (match x.d with
      | .str x => Res.ok (x.cps.toList.map fun c => T.str ⟨#[c]⟩)
      | _ => .bad) = iST x.d
            cases x.d <;> rfl
  | _ => rfl
@[simp] theorem riS_ok : (Res.ok r).iS = iST r.d := rfl
def augT (sub : Bool) (n : Int) (a : T) (i : Nat) (env : En) : Out := match a with
  | .int m => .nx (env.set i (.fz (.int (if sub then n - m else n + m))))
  | _ => .bad
@[simp] theorem augT_add (n m : Int) : augT false n (.int m) i env = .nx (env.set i (.fz (.int (n + m)))) := rfl
@[simp] theorem augT_sub (n m : Int) : augT true n (.int m) i env = .nx (env.set i (.fz (.int (n - m)))) := rfl
def augS (sub : Bool) (s : Option Sl) (a : Res R) (i : Nat) (env : En) : Out := match s with
  | some (.fz (.int n)) => a.out (fun r env => augT sub n r.d i env) env
  | _ => .bad
@[simp] theorem fAug_eq (sub : Bool) : fAug sub i f env = augS sub env[i]? (f env) i env := by
  unfold fAug augS augT
  rfl
@[simp] theorem augS_ok (sub : Bool) (n : Int) : augS sub (some (.fz (.int n))) (.ok r) i env = augT sub n r.d i env := rfl
def compO (a : Res (List T)) : Res R := match a with
  | .ok l => .ok (.fr (.lst l))
  | _ => .bad
@[simp] theorem compO_ok : compO (.ok l) = .ok (.fr (.lst l)) := rfl
def Res.compR (a : Res (List T)) (is : List Nat) (h : T → En → Option En) (tt : En → Res Bool) (te : En → Res R) (env : En) : Res R := a.bind fun ts =>
  if is.any (fun i => isOw env[i]?) = true then .bad else compO (compL h tt te (wipeE env is) ts [])
@[simp] theorem fComp_eq (is : List Nat) (it : En → Res (List T)) (h : T → En → Option En) (tt : En → Res Bool) (te : En → Res R) : fComp is it h tt te env = (it env).compR is h tt te env := by
  unfold fComp Res.compR compO
  rfl
@[simp] theorem compR_ok (is : List Nat) (h : T → En → Option En) (tt : En → Res Bool) (te : En → Res R) : (Res.ok l).compR is h tt te env = if is.any (fun i => isOw env[i]?) = true then .bad else compO (compL h tt te (wipeE env is) l []) := rfl
end
section
variable (Cs : List Addr) (C D : Addr) (f m : Str) (g : En → Res R) (ga : En → Res (List R)) (F : List T → Res R) (FM : List T → Res (T × R)) (env e : En) (r : R) (rs : List R) (i : Nat) (fs : List (Str × T)) (d : T) (ex : Addr) (pl : Option T)
def Res.at (a : Res R) (Cs : List Addr) (f : Str) : Res R := a.bind fun x => atT Cs f x.d
@[simp] theorem fAt_eq : fAt Cs f g env = (g env).at Cs f := rfl
@[simp] theorem rat_ok : (Res.ok r).at Cs f = atT Cs f r.d := rfl
@[simp] theorem atT_obj : atT Cs f (.obj C fs) = if C ∈ Cs then atO (fs.lookup f) else .bad := rfl
@[simp] theorem atO_some (t : T) : atO (some t) = .ok (.sh t) := rfl
def Res.paS (a : Res R) (s : Option Sl) (Cs : List Addr) (f : Str) (i : Nat) (env : En) : Out := a.out (fun r env => Tr.paS env[i]? Cs f r i env) env
@[simp] theorem fPa_eq : fPa Cs i f g env = (g env).paS env[i]? Cs f i env := by
  unfold fPa Res.paS
  rfl
@[simp] theorem rpaS_ok (s : Option Sl) : (Res.ok r).paS s Cs f i env = Tr.paS env[i]? Cs f r i env := rfl
@[simp] theorem paS_ow (Cs : List Addr) (r : R) : Tr.paS (some (.ow (.obj C fs))) Cs f r i env = if r.kp = true ∧ C ∈ Cs ∧ fs.length < 1000 then .nx (env.set i (.ow (.obj C (putFT f r.d fs)))) else .bad := rfl
@[simp] theorem paS_sf (Cs : List Addr) (r : R) : Tr.paS (some (.sf (.obj C fs))) Cs f r i env = if r.kp = true ∧ C ∈ Cs ∧ fs.length < 1000 then .nx (env.set i (.sf (.obj C (putFT f r.d fs)))) else .bad := rfl
@[simp] theorem clT_obj : clT C m (.obj D fs) = (decide (D = C) && (fs.lookup m).isNone) := rfl
def meR (C : Addr) (m : Str) (F : List T → Res R) (x : R) (a : Res (List R)) : Res R := if clT C m x.d = true then a.bind fun rs => callR F (x :: rs) else .bad
@[simp] theorem meR_ok (x : R) : meR C m F x (.ok rs) = if clT C m x.d = true then callR F (x :: rs) else .bad := rfl
def Res.me (a : Res R) (C : Addr) (m : Str) (F : List T → Res R) (b : Res (List R)) : Res R := a.bind fun x => meR C m F x b
@[simp] theorem fMe_eq : fMe C m F g ga env = (g env).me C m F (ga env) := rfl
@[simp] theorem rme_ok (b : Res (List R)) : (Res.ok r).me C m F b = meR C m F r b := rfl
@[simp] theorem fMk_eq : fMk C FM ga env = (ga env).bind (mkR C FM) := rfl
@[simp] theorem mkR_eq : mkR C FM rs = if rs.all R.kp = true then mkO (FM (.obj C [] :: rs.map R.d)) else .bad := rfl
@[simp] theorem mkO_ok : mkO (.ok (d, .sh .non)) = .ok (.fr d) := rfl
def mcT (C : Addr) (m : Str) (F : List T → Res (T × R)) (b : Bool) (d : T) (a : Res (List R)) (i : Nat) (env : En) : Out := if clT C m d = true then a.out (fun rs env => if rs.all R.kp = true then mcO i b (F (d :: rs.map R.d)) env else .bad) env else .bad
@[simp] theorem fMc_eq : fMc C m i FM ga env = mcS C m FM env[i]? (ga env) i env := rfl
@[simp] theorem mcS_ow (a : Res (List R)) : mcS C m FM (some (.ow d)) a i env = mcT C m FM false d a i env := rfl
@[simp] theorem mcS_sf (a : Res (List R)) : mcS C m FM (some (.sf d)) a i env = mcT C m FM true d a i env := rfl
@[simp] theorem mcT_ok (b : Bool) : mcT C m FM b d (.ok rs) i env = if clT C m d = true then (if rs.all R.kp = true then mcO i b (FM (d :: rs.map R.d)) env else .bad) else .bad := rfl
@[simp] theorem mcO_f (x : R) : mcO i false (.ok (d, x)) env = .nx (env.set i (.ow d)) := rfl
@[simp] theorem mcO_t (x : R) : mcO i true (.ok (d, x)) env = .nx (env.set i (.sf d)) := rfl
def Res.retM (a : Res R) (env : En) : Out := a.out (fun r env => rmS r env) env
@[simp] theorem fRetM_eq : fRetM g env = (g env).retM env := rfl
@[simp] theorem retM_ok : (Res.ok r).retM env = rmS r env := rfl
@[simp] theorem rmS_sh : rmS (.sh d) env = .rm (.sh d) env := rfl
@[simp] theorem rmS_fr : rmS (.fr d) env = .rm (.fr d) env := rfl
@[simp] theorem fRetMN_eq : fRetMN env = .rm (.sh .non) env := rfl
@[simp] theorem outM_nx (s : En) : outM (.nx (.sf d :: s)) = .ok (d, .sh .non) := rfl
@[simp] theorem outM_rm (s : En) : outM (.rm (.sh r') (.sf d :: s)) = .ok (d, .sh r') := rfl
@[simp] theorem outM_rmF (s : En) : outM (.rm (.fr r') (.sf d :: s)) = .ok (d, .fr r') := rfl
def appTT (a : R) (b : Res R) (env : En) : Out := match a with
  | .fr (.lst l) => b.out (fun _ env => if l.length < sizeLine then .nx env else .bad) env
  | _ => .bad
def Res.appT (a : Res R) (b : Res R) (env : En) : Out := a.out (fun r env => appTT r b env) env
@[simp] theorem fAppT_eq (u v : En → Res R) : fAppT u v env = (u env).appT (v env) env := rfl
@[simp] theorem rappT_ok (b : Res R) : (Res.ok r).appT b env = appTT r b env := rfl
@[simp] theorem appTT_ok (l : List T) : appTT (.fr (.lst l)) (.ok r) env = if l.length < sizeLine then .nx env else .bad := rfl
end
@[simp] theorem teqs_r (l : List T) : teqs l [] = l.isEmpty := by cases l <;> rfl
@[simp] theorem teqs_l (l : List T) : teqs [] l = l.isEmpty := by cases l <;> rfl

/-! ### loops -/
/-- one turn -/
def turnO (o : Option En) (b : En → Out) : Out := match o with
  | none => Out.bad
  | some e => b e
@[simp] theorem turnO_some (e : En) (b : En → Out) : turnO (some e) b = b e := rfl
@[simp] def turn (g : T → En → Option En) (b : En → Out) (t : T) (env : En) : Out := turnO (g t env) b
def Out.cont : Out → Option En
  | .nx e => some e
  | .ct e => some e
  | _ => none
@[simp] theorem cont_nx (e : En) : (Out.nx e).cont = some e := rfl
@[simp] theorem cont_ct (e : En) : (Out.ct e).cont = some e := rfl
theorem cont_loop {o : Out} {e : En} (h : o.cont = some e) (k : En → Out) : o.loop k = k e := by
  cases o <;> simp [Out.cont] at h <;> subst h <;> rfl
section
variable {g : T → En → Option En} {b : En → Out} {env : En}
@[simp] theorem forL_nil : forL g b [] env = .nx env := rfl
theorem forL_cons (t : T) (ts : List T) : forL g b (t :: ts) env = (turn g b t env).loop (forL g b ts) := by
  show (match g t env with
    | none => Out.bad
    | some e => (b e).loop (forL g b ts)) = _
  unfold turn turnO
  cases g t env <;> rfl
/-- a loop that goes to its end: a fold -/
theorem forL_fold {A S : Type} (enc : A → T) (emb : S → En) (step : S → A → S) (P : List A → S → Prop) :
    ∀ (xs pre : List A), (∀ pre' a post s, pre ++ xs = pre' ++ a :: post → P pre' s → (turn g b (enc a) (emb s)).cont = some (emb (step s a)) ∧ P (pre' ++ [a]) (step s a)) →
    ∀ s, P pre s → forL g b (xs.map enc) (emb s) = .nx (emb (xs.foldl step s)) ∧ P (pre ++ xs) (xs.foldl step s)
  | [], pre, _, s, p => by simpa using p
  | a :: xs, pre, h, s, p => by
    obtain ⟨h1, h2⟩ := h pre a xs s rfl p
    rw [List.map_cons, forL_cons, cont_loop h1]
    have z := forL_fold enc emb step P xs (pre ++ [a]) (fun pre' a' post s' e => h pre' a' post s' (by simpa using e)) (step s a) h2
    simpa using z
theorem forL_fold0 {A S : Type} (enc : A → T) (emb : S → En) (step : S → A → S) (xs : List A) (h : ∀ a s, a ∈ xs → (turn g b (enc a) (emb s)).cont = some (emb (step s a))) (s : S) :
    forL g b (xs.map enc) (emb s) = .nx (emb (xs.foldl step s)) :=
  (forL_fold enc emb step (fun _ _ => True) xs [] (fun pre' a post s e _ => ⟨h a s (by rw [← List.nil_append xs, e]; simp), trivial⟩) s trivial).1
/-- a loop that searches -/
theorem forL_find {A : Type} (enc : A → T) (p : A → Bool) (o : A → R) : ∀ (xs : List A), (∀ a, a ∈ xs → turn g b (enc a) env = if p a then .rt (o a) else .nx env) →
    forL g b (xs.map enc) env = match xs.find? p with
      | some a => .rt (o a)
      | none => .nx env
  | [], _ => rfl
  | a :: xs, h => by
    rw [List.map_cons, forL_cons, h a List.mem_cons_self, List.find?_cons]
    cases e : p a with
    | true => simp
    | false => simpa using forL_find enc p o xs fun a m => h a (List.mem_cons_of_mem _ m)
theorem forL_all {A : Type} (enc : A → T) (p : A → Bool) (o : R) (xs : List A) (h : ∀ a, a ∈ xs → turn g b (enc a) env = if p a then .nx env else .rt o) :
    forL g b (xs.map enc) env = if xs.all p then .nx env else .rt o := by
  rw [forL_find enc (fun a => !p a) (fun _ => o) xs fun a m => by rw [h a m]; cases p a <;> rfl]
  cases e : xs.find? (fun a => !p a) with
  | none =>
    have : xs.all p = true := List.all_eq_true.mpr fun a m => by
      have := List.find?_eq_none.mp e a m
      simpa using this
    rw [this]; rfl
  | some a =>
    have h1 := List.find?_some e
    have h2 := List.mem_of_find?_eq_some e
    have : xs.all p = false := by
      apply Bool.eq_false_iff.mpr
      intro z
      have := List.all_eq_true.mp z a h2
      simp [this] at h1
    rw [this]; rfl
theorem forL_any {A : Type} (enc : A → T) (p : A → Bool) (o : R) (xs : List A) (h : ∀ a, a ∈ xs → turn g b (enc a) env = if p a then .rt o else .nx env) :
    forL g b (xs.map enc) env = if xs.any p then .rt o else .nx env := by
  rw [forL_all enc (fun a => !p a) o xs fun a m => by rw [h a m]; cases p a <;> rfl]
  have e : (xs.all fun a => !p a) = !xs.any p := by
    clear h
    induction xs with
    | nil => rfl
    | cons a l ih => simp only [List.all_cons, List.any_cons, ih, Bool.not_or]
  rw [e]
  cases xs.any p <;> rfl
theorem forL_ok {A : Type} (enc : A → T) (xs : List A) (h : ∀ a, a ∈ xs → (turn g b (enc a) env).cont = some env) : forL g b (xs.map enc) env = .nx env := by
  have := forL_fold0 (g := g) (b := b) enc (fun _ : Unit => env) (fun _ _ => ()) xs (fun a s m => h a m) ()
  exact this
/-- by an invariant -/
def TurnTo (o : Out) (N : En → Prop) (Q : Out → Prop) : Prop := match o with
  | .nx e => N e
  | .ct e => N e
  | .bk e => Q (.nx e)
  | o => Q o
@[simp] theorem tt_nx (e : En) (N : En → Prop) (Q : Out → Prop) : TurnTo (.nx e) N Q = N e := rfl
@[simp] theorem tt_ct (e : En) (N : En → Prop) (Q : Out → Prop) : TurnTo (.ct e) N Q = N e := rfl
@[simp] theorem tt_bk (e : En) (N : En → Prop) (Q : Out → Prop) : TurnTo (.bk e) N Q = Q (.nx e) := rfl
@[simp] theorem tt_rt (r : R) (N : En → Prop) (Q : Out → Prop) : TurnTo (.rt r) N Q = Q (.rt r) := rfl
theorem forL_inv {A : Type} (enc : A → T) (I : List A → En → Prop) (Q : Out → Prop) : ∀ (xs pre : List A) (env : En),
    (∀ pre' a post e, pre ++ xs = pre' ++ a :: post → I pre' e → TurnTo (turn g b (enc a) e) (I (pre' ++ [a])) Q) → (∀ e, I (pre ++ xs) e → Q (.nx e)) → I pre env → Q (forL g b (xs.map enc) env)
  | [], pre, env, _, he, h0 => he env (by simpa using h0)
  | a :: xs, pre, env, hs, he, h0 => by
    rw [List.map_cons, forL_cons]
    have h1 := hs pre a xs env rfl h0
    have go : ∀ e, I (pre ++ [a]) e → Q (forL g b (xs.map enc) e) := fun e he' =>
      forL_inv enc I Q xs (pre ++ [a]) e (fun pre' a' post e e1 => hs pre' a' post e (by simpa using e1)) (fun e => by simpa using he e) he'
    cases ht : turn g b (enc a) env <;> rw [ht] at h1
    · exact go _ h1
    · exact h1
    · exact h1
    · exact go _ h1
    · exact h1
    · exact h1
    · exact h1
/-- while by a measure -/
theorem whL_rule {c : En → Res Bool} (Q : Out → Prop) (I : Nat → En → Prop) (hs : ∀ m e, I m e → (c e = .ok false ∧ Q (.nx e)) ∨ (c e = .ok true ∧ TurnTo (b e) (fun e' => ∃ m', m' < m ∧ I m' e') Q)) :
    ∀ (n m : Nat) (env : En), m < n → I m env → Q (whL c b n env)
  | 0, _, _, h, _ => absurd h (Nat.not_lt_zero _)
  | n + 1, m, env, h, i => by
    show Q (match c env with
    | .ok true => (b env).loop (whL c b n)
    | .ok false => .nx env
    | .exc k p => .exc env k p
    | .bad => .bad)
    rcases hs m env i with ⟨h1, h2⟩ | ⟨h1, h2⟩
    · rw [h1]; exact h2
    · rw [h1]
      have go : ∀ e, (∃ m', m' < m ∧ I m' e) → Q (whL c b n e) := fun e ⟨m', h3, h4⟩ => whL_rule Q I hs n m' e (by omega) h4
      show Q ((b env).loop (whL c b n))
      cases hb : b env <;> rw [hb] at h2
      · exact go _ h2
      · exact h2
      · exact h2
      · exact go _ h2
      · exact h2
      · exact h2
      · exact h2
end
/-! ### comprehensions -/
def keepO (a : Res R) : Res (Option T) := a.bind fun r => if r.kp = true then .ok (some r.d) else .bad
@[simp] theorem keepO_ok (r : R) : keepO (.ok r) = if r.kp = true then .ok (some r.d) else .bad := rfl
def ctt (a : Res Bool) (r : Res R) : Res (Option T) := a.bind fun b => if b = true then keepO r else .ok none
@[simp] theorem ctt_ok (b : Bool) (r : Res R) : ctt (.ok b) r = if b = true then keepO r else .ok none := rfl
def cturnO (o : Option En) (tt : En → Res Bool) (te : En → Res R) : Res (Option T) := match o with
  | none => .bad
  | some e => ctt (tt e) (te e)
@[simp] theorem cturnO_some (e : En) (tt : En → Res Bool) (te : En → Res R) : cturnO (some e) tt te = ctt (tt e) (te e) := rfl
@[simp] def cturn (g : T → En → Option En) (tt : En → Res Bool) (te : En → Res R) (t : T) (env : En) : Res (Option T) := cturnO (g t env) tt te
theorem compL_step {g : T → En → Option En} {tt : En → Res Bool} {te : En → Res R} {env : En} {t : T} {ts acc : List T} {o : Option T} (h : cturn g tt te t env = .ok o) (hl : acc.length < sizeLine) :
    compL g tt te env (t :: ts) acc = compL g tt te env ts (acc ++ o.toList) := by
  unfold cturn cturnO ctt keepO at h
  show (match g t env with
    | none => Res.bad
    | some e1 => match tt e1 with
      | .ok true => (match te e1 with
        | .ok r => if r.kp = true ∧ acc.length < sizeLine then compL g tt te env ts (acc ++ [r.d]) else .bad
        | _ => .bad)
      | .ok false => compL g tt te env ts acc
      | _ => .bad) = _
  cases e1 : g t env with
  | none => rw [e1] at h; cases h
  | some e =>
    rw [e1] at h
    simp only at h ⊢
    cases e2 : tt e with
    | bad => rw [e2] at h; cases h
    | exc c p => rw [e2] at h; cases h
    | ok b =>
      rw [e2] at h
      cases b with
      | false =>
        simp at h
        subst h
        simp
      | true =>
        simp only [Rbind_ok, if_true] at h ⊢
        cases e3 : te e with
        | bad => rw [e3] at h; cases h
        | exc c p => rw [e3] at h; cases h
        | ok r =>
          rw [e3] at h
          simp only [Rbind_ok] at h ⊢
          by_cases k : r.kp = true
          · rw [if_pos k] at h
            cases h
            rw [if_pos ⟨k, hl⟩]
            rfl
          · rw [if_neg k] at h; cases h
theorem compL_fm {A : Type} {g : T → En → Option En} {tt : En → Res Bool} {te : En → Res R} {env : En} (enc : A → T) (f : A → Option T) : ∀ (xs : List A) (acc : List T), acc.length + xs.length ≤ sizeLine →
    (∀ a, a ∈ xs → cturn g tt te (enc a) env = .ok (f a)) → compL g tt te env (xs.map enc) acc = .ok (acc ++ xs.filterMap f)
  | [], acc, _, _ => by simp [compL]
  | a :: xs, acc, hl, h => by
    simp only [List.length_cons] at hl
    rw [List.map_cons, compL_step (h a List.mem_cons_self) (by omega), compL_fm enc f xs _ (by
      rw [List.length_append]
      have : (f a).toList.length ≤ 1 := by cases f a <;> simp
      omega) fun b m => h b (List.mem_cons_of_mem _ m)]
    rw [List.filterMap_cons]
    cases f a <;> simp
theorem compL_map {A : Type} {g : T → En → Option En} {tt : En → Res Bool} {te : En → Res R} {env : En} (enc : A → T) (f : A → T) (xs : List A) (hl : xs.length ≤ sizeLine)
    (h : ∀ a, a ∈ xs → cturn g tt te (enc a) env = .ok (some (f a))) : compL g tt te env (xs.map enc) [] = .ok (xs.map f) := by
  rw [compL_fm enc (fun a => some (f a)) xs [] (by simpa using hl) h]
  simp
theorem compL_flt {A : Type} {g : T → En → Option En} {tt : En → Res Bool} {te : En → Res R} {env : En} (enc : A → T) (p : A → Bool) (f : A → T) (xs : List A) (hl : xs.length ≤ sizeLine)
    (h : ∀ a, a ∈ xs → cturn g tt te (enc a) env = .ok (if p a = true then some (f a) else none)) : compL g tt te env (xs.map enc) [] = .ok ((xs.filter p).map f) := by
  rw [compL_fm enc (fun a => if p a = true then some (f a) else none) xs [] (by simpa using hl) h]
  simp only [List.nil_append]
  congr 1
  clear h hl
  induction xs with
  | nil => rfl
  | cons a xs ih => by_cases q : p a = true <;> simp [q, ih]
theorem compL_ex {A : Type} {g : T → En → Option En} {tt : En → Res Bool} {te : En → Res R} {env : En} (enc : A → T) (P : T → Prop) : ∀ (xs : List A) (acc : List T), acc.length + xs.length ≤ sizeLine → (∀ t ∈ acc, P t) →
    (∀ a, a ∈ xs → ∃ t, cturn g tt te (enc a) env = .ok (some t) ∧ P t) → ∃ l, compL g tt te env (xs.map enc) acc = .ok l ∧ l.length = acc.length + xs.length ∧ ∀ t ∈ l, P t
  | [], acc, _, hp, _ => ⟨acc, by simp [compL], by simp, hp⟩
  | a :: xs, acc, hl, hp, h => by
    simp only [List.length_cons] at hl
    obtain ⟨t, e, pt⟩ := h a List.mem_cons_self
    obtain ⟨l, e2, e3, e4⟩ := compL_ex enc P xs (acc ++ [t]) (by simp; omega) (fun u m => by
      rcases List.mem_append.mp m with m | m
      · exact hp u m
      · obtain rfl : u = t := by simpa using m
        exact pt) fun b m => h b (List.mem_cons_of_mem _ m)
    refine ⟨l, ?_, by simp at e3 ⊢; omega, e4⟩
    rw [List.map_cons, compL_step e (by omega)]
    exact e2
theorem rng_map (lo : Int) (n : Nat) : rngT lo n = (List.range n).map (fun i => T.int (lo + (i : Nat))) := rfl
theorem rng0 (n : Nat) : rngT 0 n = (List.range n).map (fun i => T.int ((i : Nat) : Int)) := by simp [rngT]
end Tr
/-! sorted: rows of two whole numbers and a text -/
namespace Tr
abbrev Tri := Int × Int × PySem.Str
def ltS (a b : PySem.Str) : Bool := decide (a.cps.toList < b.cps.toList)
theorem ltS_irr (a : PySem.Str) : ltS a a = false := by
  unfold ltS
  rw [decide_eq_false_iff_not]
  exact List.lt_irrefl _
theorem ltS_asym {a b : PySem.Str} (h : ltS a b = true) : ltS b a = false := by
  unfold ltS at *
  rw [decide_eq_true_eq] at h
  rw [decide_eq_false_iff_not]
  exact List.lt_asymm h
theorem ltS_anti {a b : PySem.Str} (h : ltS a b = false) (k : ltS b a = false) : a = b := by
  unfold ltS at *
  rw [decide_eq_false_iff_not] at h k
  have e := List.le_antisymm (Std.not_lt.mp k) (Std.not_lt.mp h)
  cases a; cases b
  congr 1
  exact Array.toList_inj.mp e
theorem ltS_tr {a b c : PySem.Str} (h : ltS b a = false) (k : ltS c b = false) : ltS c a = false := by
  unfold ltS at *
  rw [decide_eq_false_iff_not] at *
  exact Std.not_lt.mpr (List.le_trans (Std.not_lt.mp h) (Std.not_lt.mp k))
def ltTr (p q : Tri) : Bool := if p.1 = q.1 then (if p.2.1 = q.2.1 then ltS p.2.2 q.2.2 else decide (p.2.1 < q.2.1)) else decide (p.1 < q.1)
theorem ltTr_yes {p q : Tri} : ltTr p q = true ↔ p.1 < q.1 ∨ (p.1 = q.1 ∧ (p.2.1 < q.2.1 ∨ (p.2.1 = q.2.1 ∧ ltS p.2.2 q.2.2 = true))) := by
  unfold ltTr
  by_cases e : p.1 = q.1
  · rw [if_pos e]
    by_cases e2 : p.2.1 = q.2.1
    · rw [if_pos e2]
      constructor
      · intro h; exact .inr ⟨e, .inr ⟨e2, h⟩⟩
      · rintro (h | ⟨_, h | ⟨_, h⟩⟩)
        · omega
        · omega
        · exact h
    · rw [if_neg e2, decide_eq_true_eq]
      constructor
      · intro h; exact .inr ⟨e, .inl h⟩
      · rintro (h | ⟨_, h | ⟨h, _⟩⟩) <;> omega
  · rw [if_neg e, decide_eq_true_eq]
    constructor
    · intro h; exact .inl h
    · rintro (h | ⟨h, _⟩) <;> omega
theorem ltTr_no {p q : Tri} : ltTr p q = false ↔ ¬ (p.1 < q.1 ∨ (p.1 = q.1 ∧ (p.2.1 < q.2.1 ∨ (p.2.1 = q.2.1 ∧ ltS p.2.2 q.2.2 = true)))) := by
  rw [← ltTr_yes]
  cases ltTr p q <;> simp
theorem ltTr_asym (x y : Tri) (h : ltTr x y = true) : ltTr y x = false := by
  have a := ltTr_yes.mp h
  refine ltTr_no.mpr ?_
  rintro (b | ⟨b1, b | ⟨b2, b⟩⟩)
  · omega
  · omega
  · rcases a with a | ⟨_, a | ⟨_, a⟩⟩
    · omega
    · omega
    · rw [ltS_asym a] at b; cases b
theorem ltTr_tr (x y z : Tri) (h1 : ltTr y x = false) (h2 : ltTr z y = false) : ltTr z x = false := by
  have a := ltTr_no.mp h1
  have b := ltTr_no.mp h2
  have e1 : x.1 ≤ y.1 := by omega
  have e2 : y.1 ≤ z.1 := by omega
  refine ltTr_no.mpr ?_
  rintro (c | ⟨c1, c | ⟨c2, c⟩⟩)
  · omega
  · omega
  · have d1 : ltS y.2.2 x.2.2 = false := by
      cases q : ltS y.2.2 x.2.2 with
      | false => rfl
      | true => exact (a (.inr ⟨by omega, .inr ⟨by omega, q⟩⟩)).elim
    have d2 : ltS z.2.2 y.2.2 = false := by
      cases q : ltS z.2.2 y.2.2 with
      | false => rfl
      | true => exact (b (.inr ⟨by omega, .inr ⟨by omega, q⟩⟩)).elim
    rw [ltS_tr d1 d2] at c
    cases c
theorem swo_tr {α : Type} (k : α → Tri) : SrtO.Swo fun v u => ltTr (k v) (k u) := ⟨fun x y h => ltTr_asym _ _ h, fun x y z h1 h2 => ltTr_tr _ _ _ h1 h2⟩
theorem ltTr_anti {p q : Tri} (h : ltTr p q = false) (k : ltTr q p = false) : p = q := by
  have a := ltTr_no.mp h
  have b := ltTr_no.mp k
  have e1 : p.1 = q.1 := by omega
  have e2 : p.2.1 = q.2.1 := by omega
  refine Prod.ext e1 (Prod.ext e2 (ltS_anti ?_ ?_))
  · cases z : ltS p.2.2 q.2.2 with
    | false => rfl
    | true => exact (a (.inr ⟨e1, .inr ⟨e2, z⟩⟩)).elim
  · cases z : ltS q.2.2 p.2.2 with
    | false => rfl
    | true => exact (b (.inr ⟨e1.symm, .inr ⟨e2.symm, z⟩⟩)).elim
def leTr (p q : Tri) : Bool := !ltTr q p
def sortTr (l : List Tri) : List Tri := l.mergeSort leTr
theorem sortTr_is {a ps : List Tri} (h1 : a.Perm ps) (h2 : a.Pairwise fun p q => ltTr q p = false) : a = sortTr ps := by
  have e1 : (sortTr ps).Perm ps := List.mergeSort_perm ps leTr
  have e2 : (sortTr ps).Pairwise (fun a b => leTr a b = true) := List.pairwise_mergeSort (le := leTr) (fun a b c h k => by
    unfold leTr at *
    rw [Bool.not_eq_true'] at *
    exact ltTr_tr _ _ _ h k) (fun a b => by
    unfold leTr
    cases z : ltTr b a with
    | false => rfl
    | true => rw [ltTr_asym _ _ z]; rfl) ps
  refine List.Perm.eq_of_pairwise (le := fun p q => leTr p q = true) (fun x y _ _ h k => ?_) (h2.imp fun h => by
    unfold leTr
    rw [h]
    rfl) e2 (h1.trans e1.symm)
  unfold leTr at h k
  rw [Bool.not_eq_true'] at h k
  exact ltTr_anti k h
end Tr
namespace SrtT
open PySem PyProof.Rows Srt SrtO Tr
section
variable {prog : Program} {w : World} {A : Around} {E : Value → Shared → Prop} {s : Shared}
def IsTri (h : Heap) (v : Value) (p : Tri) : Prop := ∃ a o t u r n, v = .ref a ∧ h.get? a = some o ∧ o.cls = .type "tuple" ∧ o.data = .seq #[.int p.1 t, .int p.2.1 u, .str p.2.2 r] n
theorem IsTri.keeps {h h' : Heap} {v : Value} {p : Tri} (q : IsTri h v p) (k : ∀ b o, h.get? b = some o → o.cls = .type "tuple" → h'.get? b = some o) : IsTri h' v p := by
  obtain ⟨a, o, t, u, r, n, e, ho, hc, hd⟩ := q
  exact ⟨a, o, t, u, r, n, e, k _ _ ho hc, hc, hd⟩
theorem firsts3 {h : Heap} : ∀ {vs : List Value}, (∀ v ∈ vs, ∃ p, IsTri h v p) → ∃ fs : List Value, PySem.W.KatTups h vs fs ∧ fs.length = vs.length ∧ ∀ f ∈ fs, ∃ x t, f = Value.int x t
  | [], _ => ⟨[], PySem.W.KatTups.nil, rfl, fun _ hm => by simp at hm⟩
  | v :: vs, hp => by
    obtain ⟨fs, h1, h2, h3⟩ := firsts3 (vs := vs) fun v' hm => hp v' (List.mem_cons_of_mem _ hm)
    obtain ⟨p, a, o, t, u, r, n, e, ho, hc, hd⟩ := hp v (List.mem_cons_self ..)
    subst e
    refine ⟨.int p.1 t :: fs, PySem.W.KatTups.cons ho hc hd rfl h1, by rw [List.length_cons, List.length_cons, h2], fun f hm => ?_⟩
    rcases List.mem_cons.mp hm with rfl | hm
    · exact ⟨p.1, t, rfl⟩
    · exact h3 f hm
theorem tri_cmp {vs : List Value} {k : Value → Tri} (hp : ∀ v ∈ vs, IsTri s.heap v (k v)) : Cmp prog w A s (tuples' true) (fun p => p.1 ∈ vs) (lt2 fun v u => ltTr (k v) (k u)) := by
  intro p q hm hm'
  have h1 := hp _ hm
  have h2 := hp _ hm'
  show wpAny (model prog w) A (keyLt' (tuples' true) p.1 q.1) (fun r s' => s' = s ∧ r = ltTr (k p.1) (k q.1)) (fun _ _ => False) s
  unfold ltTr
  generalize k p.1 = x at h1 ⊢
  generalize k q.1 = x' at h2 ⊢
  obtain ⟨x, y, z⟩ := x
  obtain ⟨x', y', z'⟩ := x'
  obtain ⟨a, o, t, u, r, n, e, ho, hc, hd⟩ := h1
  obtain ⟨a', o', t', u', r', n', e', ho', hc', hd'⟩ := h2
  rw [e, e']
  simp only [] at *
  refine PySem.W.kat_lt ho hd ho' hd' ?_
  show PySem.W.KatLex prog w A true (decide (3 < 3)) _ [(.int x t, .int x' t'), (.int y u, .int y' u'), (.str z r, .str z' r')] 0 s
  refine PySem.W.kat_cons (SeqAt.EqAt.int_int x t x' t' prog w _ _ ?_)
  refine PySem.W.kat_go (fun e1 => ?_) (fun e1 => ?_)
  · have ex : x = x' := by simpa using e1
    rw [if_pos ex]
    refine PySem.W.kat_yes (PySem.W.kat_cons (SeqAt.EqAt.int_int y u y' u' prog w _ _ ?_))
    refine PySem.W.kat_go (fun e2 => ?_) (fun e2 => ?_)
    · have ey : y = y' := by simpa using e2
      rw [if_pos ey]
      refine PySem.W.kat_yes (PySem.W.kat_cons (SeqAt.EqAt.str_str z r z' r' prog w _ _ ?_))
      refine PySem.W.kat_go (fun e3 => ?_) (fun e3 => ?_)
      · have ez : z = z' := by simpa using e3
        exact PySem.W.kat_yes (PySem.W.kat_nil ⟨rfl, by rw [ez, ltS_irr]; rfl⟩)
      · refine PySem.W.kat_no (PySem.W.kat_one _ _ (PyProof.Rows.lt_str ?_))
        exact ⟨rfl, rfl⟩
    · have ey : ¬ y = y' := by simpa using e2
      rw [if_neg ey]
      refine PySem.W.kat_no (PySem.W.kat_one _ _ (PyProof.Rows.lt_int ?_))
      exact ⟨rfl, rfl⟩
  · have ex : ¬ x = x' := by simpa using e1
    rw [if_neg ex]
    exact PySem.W.kat_no (oneLt_int ⟨rfl, rfl⟩)
theorem tri_sortable {a : Addr} {vs : List Value} {k : Value → Tri} (h0 : 0 < vs.length) (hp : ∀ v ∈ vs, IsTri s.heap v (k v)) (ha : ∀ o, s.heap.get? a = some o → o.cls ≠ .type "tuple") : SortableO prog w A s a vs fun v u => ltTr (k v) (k u) := by
  intro h' keep
  have hp' : ∀ v ∈ vs, IsTri h' v (k v) := fun v hm => (hp v hm).keeps fun b o e c => keep b o (fun z => by subst z; exact ha o e c) e
  obtain ⟨fs, h1, h2, h3⟩ := firsts3 fun v hm => ⟨_, hp' v hm⟩
  refine ⟨tuples' true, fun Q E hq => ?_, tri_cmp hp'⟩
  refine PySem.W.kat_kind (T := .type "int") h1 (by omega) (fun f hm => ?_) (by rfl) ?_
  · obtain ⟨x, t, rfl⟩ := h3 f hm
    exact PySem.W.Looks.now
  · have e : (Value.type "int" != Value.type "tuple") = true := by first | decide +kernel | rfl | decide
    rw [e]
    exact hq
theorem sorted_tri {l : Addr} {vs : List Value} {k : Value → Tri} {Q : Value → Shared → Prop} (hl : s.heap.IsList l vs.toArray) (hz : vs.length ≤ sizeLine) (hp : ∀ v ∈ vs, IsTri s.heap v (k v))
    (h : ∀ (h' : Heap) (d : Addr) (out : List Value), Srtd (fun v u => ltTr (k v) (k u)) out → Stb (fun v u => ltTr (k v) (k u)) out vs → (∀ b o, s.heap.get? b = some o → h'.get? b = some o) → s.heap.objs.size ≤ d → (∃ n, h'.get? d = some (seqObj "list" out.toArray n)) → Q (.ref d) { s with heap := h' }) :
    wpAny (model prog w) A (call (.builtin "sorted") [.ref l]) Q E s := by
  refine sorted_ord (swo_tr k) hl hz (fun h2 h₁ a ha kk => ?_) fun out hs hb => ?_
  · refine tri_sortable (s := { s with heap := h₁ }) (by omega) (fun v hm => (hp v hm).keeps fun b o e _ => (kk b o e).2) fun o e => ?_
    have e' : some o = some (seqObj "list" vs.toArray 0) := e.symm.trans ha
    cases e'
    intro c
    exact absurd (Value.type.inj c) (by decide)
  · exact h _ _ out hs hb (fun b o e => sortedAll_old e) (Nat.le_succ _) (sortedAll_at s.heap vs out.toArray)
end
end SrtT
namespace Tr
open PySem L2
def encTr (p : Tri) : T := .tup [.int p.1, .int p.2.1, .str p.2.2]
def T.asTri : T → Option Tri
  | .tup [.int a, .int b, .str c] => some (a, b, c)
  | _ => none
def T.tris : T → Option (List Tri)
  | .lst l => l.mapM T.asTri
  | _ => none
def sortR3 : List R → Res R
  | [x] => match x.d.tris with
    | some ps => .ok (.fr (.lst ((sortTr ps).map encTr)))
    | none => .bad
  | _ => .bad
section
variable {K : PySem.W.Frag} {H : Hp} {X : Xs}
def kT (H : Hp) (v : V) : Tri := match v with
  | .ref t => match H t with
    | some (.tup [.int a, .int b, .str c]) => (a, b, c)
    | _ => (0, 0, ⟨#[]⟩)
  | _ => (0, 0, ⟨#[]⟩)
theorem tri_of {t : T} {v : V} {p : Tri} (h : Rp K H X t v) (e : t.asTri = some p) : t = encTr p ∧ (∃ a, v = .ref a ∧ H a = some (.tup [.int p.1, .int p.2.1, .str p.2.2])) ∧ kT H v = p := by
  unfold T.asTri at e
  split at e
  · rename_i a b c
    cases e
    cases h with
    | @tup ad _ us h1 h2 h3 h4 =>
      match us, h3 with
      | [u, w, z], _ =>
        have e1 := rp_int (h4 0 _ u rfl rfl)
        have e2 := rp_int (h4 1 _ w rfl rfl)
        have e3 := rp_str (h4 2 _ z rfl rfl)
        subst e1 e2 e3
        refine ⟨rfl, ⟨ad, rfl, h1⟩, ?_⟩
        unfold kT
        simp only [h1]
  · cases e
theorem tris_of : ∀ {ts : List T} {us : List V} {ps : List Tri}, RpAll K H X ts us → ts.mapM T.asTri = some ps →
    ts = ps.map encTr ∧ us.map (kT H) = ps ∧ ∀ u ∈ us, Rp K H X (encTr (kT H u)) u ∧ ∃ a, u = .ref a ∧ H a = some (.tup [.int (kT H u).1, .int (kT H u).2.1, .str (kT H u).2.2])
  | [], [], ps, _, e => by
    simp at e
    subst e
    exact ⟨rfl, rfl, fun u m => nomatch m⟩
  | t :: ts, u :: us, ps, h, e => by
    rw [List.mapM_cons] at e
    cases e1 : t.asTri with
    | none => rw [e1] at e; cases e
    | some p =>
      cases e2 : ts.mapM T.asTri with
      | none => rw [e1, e2] at e; cases e
      | some qs =>
        rw [e1, e2] at e
        cases e
        obtain ⟨z1, z2, z3⟩ := tri_of h.head e1
        obtain ⟨y1, y2, y3⟩ := tris_of h.tail e2
        refine ⟨by rw [z1, y1]; rfl, by rw [List.map_cons, z3, y2], fun w m => ?_⟩
        rcases List.mem_cons.mp m with m | m
        · subst m
          rw [z3]
          exact ⟨z1 ▸ h.head, z2⟩
        · exact y3 w m
  | [], _ :: _, _, h, _ => by have := h.1; simp at this
  | _ :: _, [], _, h, _ => by have := h.1; simp at this
end
section
variable {X : Cx}
def rSortedTr (K : PySem.W.Frag) : List V → Hp → VK → Prop := fun vs H Q => ∃ (a : Addr) (xs : List V) (k : V → Tri), vs = [V.ref a] ∧ SqL K H a xs ∧ (∀ x ∈ xs, ∃ t, x = V.ref t ∧ H t = some (.tup [.int (k x).1, .int (k x).2.1, .str (k x).2.2])) ∧
  ∀ ys p, SrtO.Srtd (fun v u => ltTr (k v) (k u)) ys → SrtO.Stb (fun v u => ltTr (k v) (k u)) ys xs → H p = none → Q (.ref p) (upd H p (.lst ys))
theorem vals_tri {x y z : V} {us : List Value} (r : Vals [x, y, z] us) : ∃ u v t, us = [u, v, t] ∧ RelV x u ∧ RelV y v ∧ RelV z t := by
  cases r with
  | cons r1 r2 =>
    obtain ⟨v, t, rfl, r3, r4⟩ := vals2 r2
    exact ⟨_, v, t, rfl, r1, r3, r4⟩
theorem cr_sortedTr : CallR X (.builtin "sorted") (rSortedTr X.K) := by
  intro pins s σ H vs us Q I r h
  obtain ⟨a, xs, k, rfl, hs, hx, q⟩ := h
  obtain ⟨its, rv, hl, hz⟩ := I.list hs
  obtain ⟨u, rfl, ru⟩ := vals1 r
  obtain rfl : u = Value.ref a := ru
  obtain ⟨e1, e2⟩ := refs_back rv fun x m => by
    obtain ⟨t, e, _⟩ := hx x m
    exact ⟨t, e⟩
  refine SrtT.sorted_tri (k := fun u => k (backV u)) hl.isList (by rw [← rv.length]; exact hz) (fun v hv => ?_) fun h' d out h1 h2 kp hd hn => ?_
  · obtain ⟨t, rfl⟩ := e2 v hv
    have hm : V.ref t ∈ xs := by rw [e1]; exact List.mem_map.mpr ⟨_, hv, rfl⟩
    obtain ⟨t', e, ht⟩ := hx _ hm
    cases e
    obtain ⟨_, its2, r2, o, ho, hc, n, hd⟩ := I.hok _ _ ht
    obtain ⟨u1, u2, u3, rfl, ri, rj, rk⟩ := vals_tri r2
    obtain ⟨t1, rfl⟩ := ri
    obtain ⟨t2, rfl⟩ := rj
    obtain ⟨t3, rfl⟩ := rk
    exact ⟨t, o, t1, t2, t3, n, rfl, ho, hc, hd⟩
  · have h3 : ∀ u ∈ out, ∃ a, u = Value.ref a := fun u hu => e2 u (h2.perm.mem_iff.mp hu)
    obtain ⟨n, hn⟩ := hn
    have hb : SrtO.Stb (fun v u => ltTr (k v) (k u)) (out.map backV) xs := by
      rw [e1]
      exact SrtO.Stb.map (swo_tr k) backV h2
    refine ⟨.ref d, upd H d (.lst (out.map backV)), I.laid (t' := s.toks) kp hd ⟨?_, out, n, vals_back h3, hn⟩, rfl, q _ d (SrtO.srtd_map h1) hb (I.hok.fresh hd)⟩
    rw [hb.len]
    exact hz
theorem callr_sorted3 : CallR X (.builtin "sorted") (rSortedTr X.K) := cr_sortedTr
theorem calli_sorted3 : CallI X (rSortedTr X.K) sortR3 := by
  intro B H0 O env σ Hs H rs vs Q xc R s rx p
  unfold sortR3 at p
  split at p
  · rename_i x
    obtain ⟨v, rfl, r1⟩ := rx.one
    split at p
    · rename_i ps e
      cases ex : x.d with
      | lst l =>
        rw [ex] at e
        obtain ⟨a, us, ea, ha, ra⟩ := r1.lst ex
        rw [ea]
        obtain ⟨z1, z2, z3⟩ := tris_of ra e
        refine ⟨a, us, kT H, rfl, SqL.of ha, fun u m => (z3 u m).2, fun ys q h1 h2 nq => ?_⟩
        have pm : (ys.map (kT H)).Perm ps := by rw [← z2]; exact h2.perm.map _
        have e2 : ys.map (kT H) = sortTr ps := sortTr_is pm (List.pairwise_map.mpr h1)
        have ra2 : RpAll X.K H (Ex B O) ((sortTr ps).map encTr) ys := by
          rw [← e2]
          refine ⟨by simp, fun i t u a b => ?_⟩
          rw [List.map_map, List.getElem?_map, b] at a
          cases a
          exact (z3 u (h2.perm.mem_iff.mp (List.mem_of_getElem? b))).1
        exact p _ _ (Same.new nq) (RR.newL R s ra2 nq)
      | _ => rw [ex] at e; cases e
    · exact p.elim
  · exact p.elim
end

/-! divmod, the least of three -/
def dvR : List R → Res R
  | [x, y] => match x.d, y.d with
    | .int i, .int j => if 0 < j ∧ j < 1073741824 then .ok (.sh (.tup [.int (i / j), .int (i % j)])) else .bad
    | _, _ => .bad
  | _ => .bad
def min3R : List R → Res R
  | [x, y, z] => match x.d, y.d, z.d with
    | .int i, .int j, .int k => .ok (.sh (.int (min (min i j) k)))
    | _, _, _ => .bad
  | _ => .bad
theorem RRs.three {K : PySem.W.Frag} {B : Bs} {O : Ow} {H H1 : Hp} {r r' r'' : R} {vs : List V} (h : RRs K B O H H1 [r, r', r''] vs) : ∃ v w z, vs = [v, w, z] ∧ RR K B O H H1 r v ∧ RR K B O H H1 r' w ∧ RR K B O H H1 r'' z := by
  match vs, h with
  | [v, w, z], h => exact ⟨v, w, z, rfl, h.1, h.2.1, h.2.2.1⟩
section
variable {X : Cx}
theorem calli_divmod : CallI X (fun xs H Q => ∃ i j, xs = [.int i, .int j] ∧ CDiv i j ∧ ∀ p, H p = none → Q (.ref p) (upd H p (.tup [.int (i / j), .int (i % j)]))) dvR := by
  intro B H0 O env σ Hs H rs vs Q xc R s rx p
  unfold dvR at p
  split at p
  · obtain ⟨v, w, rfl, r1, r2⟩ := rx.two
    split at p
    · rename_i i j e1 e2
      rw [r1.int e1, r2.int e2]
      split at p
      · rename_i c
        refine ⟨i, j, rfl, c, fun a na => p _ _ (Same.new na) ?_⟩
        refine Rp.tup (us := [.int (i / j), .int (i % j)]) upd_same (Rel.ex_new (R.mono s) na) rfl fun n t u a b => ?_
        match n with
        | 0 => cases a; cases b; exact Rp.int _
        | 1 => cases a; cases b; exact Rp.int _
        | n + 2 => simp at a
      · exact p.elim
    · exact p.elim
  · exact p.elim
theorem nuMin3_int (i j k : Int) : nuMin3 (.int i) (.int j) (.int k) = some (.int (min (min i j) k)) := by
  have e : ∀ i j : Int, nuMin2 (.int i) (.int j) = some (.int (min i j)) := fun i j => by
    show some (if decide (j < i) = true then V.int j else V.int i) = _
    by_cases h : j < i
    · have : min i j = j := by omega
      simp [h, this]
    · have : min i j = i := by omega
      simp [h, this]
  show (nuMin2 (.int i) (.int j)).bind (fun m => nuMin2 m (.int k)) = _
  rw [e]
  exact e _ _
theorem calli_min3 : CallI X (rNuC3 nuMin3) min3R := by
  intro B H0 O env σ Hs H rs vs Q xc R s rx p
  unfold min3R at p
  split at p
  · obtain ⟨v, w, z, rfl, r1, r2, r3⟩ := rx.three
    split at p
    · rename_i i j k e1 e2 e3
      rw [r1.int e1, r2.int e2, r3.int e3]
      exact ⟨_, _, _, _, rfl, nuMin3_int i j k, p _ H (Same.refl H) (Rp.int _)⟩
    · exact p.elim
  · exact p.elim
end
def dvT (a b : T) : Res R := dvR [.sh a, .sh b]
@[simp] theorem dvR_eq (x y : R) : dvR [x, y] = dvT x.d y.d := rfl
@[simp] theorem dvT_int (i j : Int) : dvT (.int i) (.int j) = if 0 < j ∧ j < 1073741824 then .ok (.sh (.tup [.int (i / j), .int (i % j)])) else .bad := rfl
def min3T (a b c : T) : Res R := min3R [.sh a, .sh b, .sh c]
@[simp] theorem min3R_eq (x y z : R) : min3R [x, y, z] = min3T x.d y.d z.d := rfl
@[simp] theorem min3T_int (i j k : Int) : min3T (.int i) (.int j) (.int k) = .ok (.sh (.int (min (min i j) k))) := rfl
def sort3T (a : T) : Res R := sortR3 [.sh a]
@[simp] theorem sortR3_eq (x : R) : sortR3 [x] = sort3T x.d := rfl
theorem tris_enc : ∀ l : List Tri, (l.map encTr).mapM T.asTri = some l
  | [] => rfl
  | p :: l => by
    rw [List.map_cons, List.mapM_cons, tris_enc l]
    rfl
@[simp] theorem sort3T_tris (l : List Tri) : sort3T (.lst (l.map encTr)) = .ok (.fr (.lst ((sortTr l).map encTr))) := by
  show (match (l.map encTr).mapM T.asTri with
    | some ps => Res.ok (R.fr (.lst ((sortTr ps).map encTr)))
    | none => .bad) = _
  rw [tris_enc]
theorem sortTr_nil : sortTr [] = [] := by simp [sortTr]
@[simp] theorem sort3T_nil : sort3T (.lst []) = .ok (.fr (.lst [])) := by
  have := sort3T_tris []
  simpa [sortTr_nil] using this
theorem sortTr_perm (l : List Tri) : (sortTr l).Perm l := List.mergeSort_perm l leTr
end Tr
/-! texts: split, join, f'..', str of a text, int of a text -/
namespace Tr
open PySem L2
def T.asStr : T → Option Str
  | .str s => some s
  | _ => none
theorem strs_back {K : PySem.W.Frag} {H : Hp} {B : Xs} : ∀ {ts : List T} {us : List V} {ys : List Str}, RpAll K H B ts us → ts.mapM T.asStr = some ys → us = ys.map V.str
  | [], [], ys, _, e => by
    simp at e
    subst e
    rfl
  | t :: ts, u :: us, ys, h, e => by
    rw [List.mapM_cons] at e
    cases e1 : t.asStr with
    | none => rw [e1] at e; cases e
    | some y =>
      cases e2 : ts.mapM T.asStr with
      | none => rw [e1, e2] at e; cases e
      | some zs =>
        rw [e1, e2] at e
        cases e
        cases t with
        | str x =>
          cases e1
          have := rp_str h.head
          rw [this, strs_back h.tail e2]
          rfl
        | _ => cases e1
  | [], _ :: _, _, h, _ => by have := h.1; simp at this
  | _ :: _, [], _, h, _ => by have := h.1; simp at this
theorem strs_all {K : PySem.W.Frag} {H : Hp} {B : Xs} {ys : List Str} (h : ys.all PyData.strOk = true) : RpAll K H B (ys.map T.str) (ys.map V.str) := by
  refine ⟨by simp, fun i t u a b => ?_⟩
  rw [List.getElem?_map] at a b
  cases e : ys[i]? with
  | none => rw [e] at a; cases a
  | some y =>
    rw [e] at a b
    cases a
    cases b
    exact .str y (List.all_eq_true.mp h y (List.mem_of_getElem? e))
def splO (a : Str) (y : R) : Res R := match y.d with
  | .str b => if (b.length == 0) = false ∧ a.length + 2 ≤ sizeLine ∧ (Txt.split a b).all PyData.strOk = true then .ok (.fr (.lst ((Txt.split a b).map T.str))) else .bad
  | _ => .bad
def T.strs : T → Option (List Str)
  | .lst l => l.mapM T.asStr
  | _ => none
def joiO (a : Str) (y : R) : Res R := match y.d.strs with
  | some ys => if (ys.map (·.length)).sum + ys.length * a.length ≤ 16777216 ∧ PyData.strOk (Txt.join a ys) = true then .ok (.sh (.str (Txt.join a ys))) else .bad
  | none => .bad
def stM (h : Str → R → Res R) (f g : En → Res R) (env : En) : Res R := (f env).bind fun r => match r.d with
  | .str a => (g env).bind (h a)
  | _ => .bad
section
variable {X : Cx} {EX : L2.St → XK} {o e : Expr} {f g : En → Res R} {apos pos : Pos}
theorem stM_core {r : V → List V → Hp → VK → Prop} {h : Str → R → Res R} {t t' : TE} (i : ∀ B H0 O env σ H (Q : VK), Rel X.K B H0 O env σ H → Post (XC X.K B O EX σ H) (fun r => ∀ v H', Same H H' → RR X.K B O H H' r v → Q v H') (f env) → t σ H Q)
    (i' : ∀ B H0 O env σ H (Q : VK), Rel X.K B H0 O env σ H → Post (XC X.K B O EX σ H) (fun r => ∀ v H', Same H H' → RR X.K B O H H' r v → Q v H') (g env) → t' σ H Q)
    (k : ∀ B H0 O env σ H H2 (Q : VK) (a : Str) (r2 : R) (w : V), Rel X.K B H0 O env σ H → Same H H2 → (∃ H1, Same H H1 ∧ Same H1 H2 ∧ RR X.K B O H1 H2 r2 w) → Post (XC X.K B O EX σ H) (fun r => ∀ v H', Same H H' → RR X.K B O H H' r v → Q v H') (h a r2) → r (.str a) [w] H2 Q) :
    ∀ B H0 O env σ H (Q : VK), Rel X.K B H0 O env σ H → Post (XC X.K B O EX σ H) (fun r => ∀ v H', Same H H' → RR X.K B O H H' r v → Q v H') (stM h f g env) → tM1 r t t' σ H Q := by
  intro B H0 O env σ H Q R p
  unfold stM at p
  refine i B H0 O env σ H _ R (p.bind.mono (fun _ _ x => x) fun z q v H1 s r1 => ?_)
  cases ed : z.d with
  | str a =>
    rw [ed] at q
    simp only [] at q
    refine ⟨⟨a, r1.str ed⟩, i' B H0 O env σ H1 _ (R.mono s) ((q.bind.up s).mono (fun _ _ x => x) fun r2 q2 w H2 s2 rr2 => ?_)⟩
    rw [r1.str ed]
    exact k B H0 O env σ H H2 Q a r2 w R (s.trans s2) ⟨H1, s, s2, rr2⟩ q2
  | _ => rw [ed] at q; exact q.elim
theorem ej_split (ho : EJ X EX o f) (he : EJ X EX e g) (hs : starEach [e] X.env = [(false, eval e X.env)] := by rfl) (hbase : attributeBase o "split" X.env (eval o X.env) = eval o X.env := by rfl) (hline : (apos.endLine == pos.line) = true := by rfl) :
    EJ X EX (.Call (.Attribute o "split" apos) [e] [] pos) (stM splO f g) := by
  obtain ⟨t, pe, i⟩ := ho.ex
  obtain ⟨t', pe', i'⟩ := he.ex
  refine ⟨⟨_, pe_split pe pe' hs hbase hline, stM_core i i' fun B H0 O env σ H H2 Q a r2 w R s ⟨H1, s1, s2, rr⟩ p => ?_⟩⟩
  unfold splO at p
  split at p
  · rename_i b e2
    split at p
    · rename_i c
      exact ⟨a, b, rfl, by rw [rr.str e2], c.1, c.2.1, fun q nq => p _ _ (s.trans (Same.new nq)) (RR.newL R s (strs_all c.2.2) nq)⟩
    · exact p.elim
  · exact p.elim
theorem ej_join (ho : EJ X EX o f) (he : EJ X EX e g) (hs : starEach [e] X.env = [(false, eval e X.env)] := by rfl) (hbase : attributeBase o "join" X.env (eval o X.env) = eval o X.env := by rfl) (hline : (apos.endLine == pos.line) = true := by rfl) :
    EJ X EX (.Call (.Attribute o "join" apos) [e] [] pos) (stM joiO f g) := by
  obtain ⟨t, pe, i⟩ := ho.ex
  obtain ⟨t', pe', i'⟩ := he.ex
  refine ⟨⟨_, pe_join pe pe' hs hbase hline, stM_core i i' fun B H0 O env σ H H2 Q a r2 w R s ⟨H1, s1, s2, rr⟩ p => ?_⟩⟩
  unfold joiO at p
  split at p
  · rename_i ys e2
    split at p
    · rename_i c
      cases ex : r2.d with
      | lst l =>
        rw [ex] at e2
        obtain ⟨ad, us, ea, ha, ra⟩ := rr.lst ex
        have eu := strs_back ra e2
        subst eu
        exact ⟨a, ad, ys, rfl, by rw [ea], .inl (SqL.of ha), c.1, p _ H2 s (Rp.str _ c.2)⟩
      | _ => rw [ex] at e2; cases e2
    · exact p.elim
  · exact p.elim
end
/-! f'..' -/
def fFm (f : En → Res R) (env : En) : Res R := (f env).bind fun r => match r.d with
  | .str y => if y.length ≤ sizeLine then .ok (.sh (.str y)) else .bad
  | .int i => if numOk i then .ok (.sh (.str (numS i))) else .bad
  | _ => .bad
def fJs : List (En → Res R) → Str → En → Res R
  | [], acc, _ => .ok (.sh (.str acc))
  | f :: fs, acc, env => (f env).bind fun r => match r.d with
    | .str y => if (acc ++ y).length ≤ sizeLine then fJs fs (acc ++ y) env else .bad
    | _ => .bad
theorem numOk_log {i : Int} (c : numOk i) : i.natAbs.log2 < 1920 := by
  by_cases z : i.natAbs = 0
  · rw [z]; decide
  · rw [Nat.log2_lt z]
    exact Nat.lt_of_lt_of_le c (Nat.pow_le_pow_right (by decide) (by decide))
inductive JsJ (X : Cx) (EX : L2.St → XK) : List Expr → List (En → Res R) → Prop where
  | nil : JsJ X EX [] []
  | cons {e : Expr} {f : En → Res R} {es : List Expr} {fs : List (En → Res R)} (h : EJ X EX e f) (r : JsJ X EX es fs) : JsJ X EX (e :: es) (f :: fs)
section
variable {X : Cx} {EX : L2.St → XK} {e : Expr} {f : En → Res R} {pos : Pos}
theorem ej_fmt (he : EJ X EX e f) : EJ X EX (.FormattedValue e (-1) none pos) (fFm f) := by
  obtain ⟨t, pe, i⟩ := he.ex
  refine ⟨⟨_, pe_fmt pe, fun B H0 O env σ H Q R p => ?_⟩⟩
  unfold fFm at p
  refine i B H0 O env σ H _ R (p.bind.mono (fun _ _ x => x) fun r q v H1 s r1 => ?_)
  cases ed : r.d with
  | str y =>
    rw [ed] at q
    simp only [] at q
    split at q
    · rename_i c
      exact .inl ⟨y, r1.str ed, c, q _ H1 s (Rp.str _ (r1.strk ed))⟩
    · exact q.elim
  | int i =>
    rw [ed] at q
    simp only [] at q
    split at q
    · rename_i c
      exact .inr ⟨i, r1.int ed, numOk_log c, q _ H1 s (Rp.str _ (strOk_str _))⟩
    · exact q.elim
  | _ => rw [ed] at q; exact q.elim
theorem js_ex {es : List Expr} {fs : List (En → Res R)} (h : JsJ X EX es fs) : ∃ ts, PJ X es ts ∧ ∀ B H0 O env σ H (Q : VK) (acc : Str), PyData.strOk acc = true → Rel X.K B H0 O env σ H →
    Post (XC X.K B O EX σ H) (fun r => ∀ v H', Same H H' → RR X.K B O H H' r v → Q v H') (fJs fs acc env) → tJs ts acc σ H fun out H1 => Q (.str out) H1 := by
  induction h with
  | nil => exact ⟨[], .nil, fun B H0 O env σ H Q acc ok R p => p _ H (Same.refl H) (Rp.str _ ok)⟩
  | cons he hr ih =>
    obtain ⟨t, pe, i⟩ := he.ex
    obtain ⟨ts, pj, j⟩ := ih
    refine ⟨t :: ts, .cons pe pj, fun B H0 O env σ H Q acc ok R p => ?_⟩
    unfold fJs at p
    refine i B H0 O env σ H _ R (p.bind.mono (fun _ _ x => x) fun r q v H1 s r1 => ?_)
    cases ed : r.d with
    | str y =>
      rw [ed] at q
      simp only [] at q
      split at q
      · rename_i c
        refine ⟨y, r1.str ed, c, ?_⟩
        exact j B H0 O env σ H1 Q (acc ++ y) (strOk_app ok (r1.strk ed)) (R.mono s) ((q.up s).mono (fun _ _ x => x) fun r2 q2 w H2 s2 rr2 => q2 w H2 (s.trans s2) (rr2.down s))
      · exact q.elim
    | _ => rw [ed] at q; exact q.elim
theorem ej_joined {v1 v2 : Expr} {rest : List Expr} {fs : List (En → Res R)} (h : JsJ X EX (v1 :: v2 :: rest) fs) : EJ X EX (.JoinedStr (v1 :: v2 :: rest) pos) (fJs fs Str.empty) := by
  obtain ⟨ts, pj, j⟩ := js_ex h
  exact ⟨⟨_, pe_joined pj, fun B H0 O env σ H Q R p => j B H0 O env σ H Q Str.empty (by decide +kernel) R p⟩⟩
end
/-! str of a number or a text, int of a number or a text -/
def strR2 : List R → Res R
  | [x] => match x.d with
    | .int i => if numOk i then .ok (.sh (.str (numS i))) else .bad
    | .str a => .ok (.sh (.str a))
    | _ => .bad
  | _ => .bad
def intR2 : List R → Res R
  | [x] => match x.d with
    | .int i => .ok (.sh (.int i))
    | .str a => if a.length ≤ 640 then (match PySem.intText? a with
      | some n => .ok (.sh (.int n))
      | none => .bad) else .bad
    | _ => .bad
  | _ => .bad
section
variable {X : Cx}
theorem callr_str2 : CallR X (.type "str") (fun xs H Q => (∃ i, xs = [.int i] ∧ i.natAbs.log2 < 1920 ∧ Q (.str (toString i)) H) ∨ (∃ a, xs = [.str a] ∧ Q (.str a) H)) := call_str_int.or SkE.call_str_str
theorem calli_str2 : CallI X (fun xs H Q => (∃ i, xs = [.int i] ∧ i.natAbs.log2 < 1920 ∧ Q (.str (toString i)) H) ∨ (∃ a, xs = [.str a] ∧ Q (.str a) H)) strR2 := by
  intro B H0 O env σ Hs H rs vs Q xc R s rx p
  unfold strR2 at p
  split at p
  · obtain ⟨v, rfl, r1⟩ := rx.one
    split at p
    · rename_i i e
      split at p
      · rename_i c
        rw [r1.int e]
        exact .inl ⟨i, rfl, numOk_log c, p _ H (Same.refl H) (Rp.str _ (strOk_str _))⟩
      · exact p.elim
    · rename_i a e
      rw [r1.str e]
      exact .inr ⟨a, rfl, p _ H (Same.refl H) (Rp.str _ (r1.strk e))⟩
    · exact p.elim
  · exact p.elim
theorem callr_int2 : CallR X (.type "int") (fun xs H Q => ((∃ i, xs = [.int i] ∧ Q (.int i) H) ∨ ∃ k, xs = [.bl k] ∧ Q (.int (if k then 1 else 0)) H) ∨ (∃ a n, xs = [.str a] ∧ PySem.intText? a = some n ∧ a.length ≤ 640 ∧ Q (.int n) H)) := call_int1.or call_int_str
theorem calli_int2 : CallI X (fun xs H Q => ((∃ i, xs = [.int i] ∧ Q (.int i) H) ∨ ∃ k, xs = [.bl k] ∧ Q (.int (if k then 1 else 0)) H) ∨ (∃ a n, xs = [.str a] ∧ PySem.intText? a = some n ∧ a.length ≤ 640 ∧ Q (.int n) H)) intR2 := by
  intro B H0 O env σ Hs H rs vs Q xc R s rx p
  unfold intR2 at p
  split at p
  · obtain ⟨v, rfl, r1⟩ := rx.one
    split at p
    · rename_i i e
      rw [r1.int e]
      exact .inl (.inl ⟨i, rfl, p _ H (Same.refl H) (Rp.int _)⟩)
    · rename_i a e
      split at p
      · rename_i c
        split at p
        · rename_i n en
          rw [r1.str e]
          exact .inr ⟨a, n, rfl, en, c, p _ H (Same.refl H) (Rp.int _)⟩
        · exact p.elim
      · exact p.elim
    · exact p.elim
  · exact p.elim
end
/-! what these compute -/
def stT (a : T) (h : Str → R → Res R) (v : Res R) : Res R := match a with
  | .str s => v.bind (h s)
  | _ => .bad
@[simp] theorem stT_str (s : Str) (h : Str → R → Res R) (v : Res R) : stT (.str s) h v = v.bind (h s) := rfl
@[simp] theorem stM_eq (h : Str → R → Res R) (f g : En → Res R) (env : En) : stM h f g env = (f env).bind fun r => stT r.d h (g env) := by
  unfold stM
  congr 1
def splT (a : Str) (y : T) : Res R := match y with
  | .str b => if (b.length == 0) = false ∧ a.length + 2 ≤ sizeLine ∧ (Txt.split a b).all PyData.strOk = true then .ok (.fr (.lst ((Txt.split a b).map T.str))) else .bad
  | _ => .bad
@[simp] theorem splO_eq (a : Str) (y : R) : splO a y = splT a y.d := rfl
theorem splT_str (a b : Str) (h : (b.length == 0) = false) (h2 : a.length + 2 ≤ sizeLine) (h3 : (Txt.split a b).all PyData.strOk = true) : splT a (.str b) = .ok (.fr (.lst ((Txt.split a b).map T.str))) := if_pos ⟨h, h2, h3⟩
theorem strs_map : ∀ l : List Str, (l.map T.str).mapM T.asStr = some l
  | [] => rfl
  | a :: l => by
    rw [List.map_cons, List.mapM_cons, strs_map l]
    rfl
def joiT (a : Str) (o : Option (List Str)) : Res R := match o with
  | some ys => if (ys.map (·.length)).sum + ys.length * a.length ≤ 16777216 ∧ PyData.strOk (Txt.join a ys) = true then .ok (.sh (.str (Txt.join a ys))) else .bad
  | none => .bad
@[simp] theorem joiO_eq (a : Str) (y : R) : joiO a y = joiT a y.d.strs := rfl
@[simp] theorem strs_lst (l : List Str) : T.strs (.lst (l.map T.str)) = some l := strs_map l
theorem joiT_some (a : Str) (ys : List Str) (h : (ys.map (·.length)).sum + ys.length * a.length ≤ 16777216) (h2 : PyData.strOk (Txt.join a ys) = true) : joiT a (some ys) = .ok (.sh (.str (Txt.join a ys))) := if_pos ⟨h, h2⟩
def fmT (a : T) : Res R := match a with
  | .str y => if y.length ≤ sizeLine then .ok (.sh (.str y)) else .bad
  | .int i => if numOk i then .ok (.sh (.str (numS i))) else .bad
  | _ => .bad
@[simp] theorem fFm_eq (f : En → Res R) (env : En) : fFm f env = (f env).bind fun r => fmT r.d := by
  unfold fFm fmT
  congr 1
@[simp] theorem fmT_str (y : Str) : fmT (.str y) = if y.length ≤ sizeLine then .ok (.sh (.str y)) else .bad := rfl
@[simp] theorem fmT_int (i : Int) : fmT (.int i) = if numOk i then .ok (.sh (.str (numS i))) else .bad := rfl
def jsT (a : T) (acc : Str) (k : Str → Res R) : Res R := match a with
  | .str y => if (acc ++ y).length ≤ sizeLine then k (acc ++ y) else .bad
  | _ => .bad
@[simp] theorem jsT_str (y acc : Str) (k : Str → Res R) : jsT (.str y) acc k = if (acc ++ y).length ≤ sizeLine then k (acc ++ y) else .bad := rfl
@[simp] theorem fJs_nil (acc : Str) (env : En) : fJs [] acc env = .ok (.sh (.str acc)) := rfl
@[simp] theorem fJs_cons (f : En → Res R) (fs : List (En → Res R)) (acc : Str) (env : En) : fJs (f :: fs) acc env = (f env).bind fun r => jsT r.d acc fun s => fJs fs s env := by
  rw [fJs]
  congr 1
def str2T (a : T) : Res R := strR2 [.sh a]
@[simp] theorem strR2_eq (x : R) : strR2 [x] = str2T x.d := rfl
@[simp] theorem str2T_int (i : Int) : str2T (.int i) = if numOk i then .ok (.sh (.str (numS i))) else .bad := rfl
@[simp] theorem str2T_str (s : Str) : str2T (.str s) = .ok (.sh (.str s)) := rfl
def int2T (a : T) : Res R := intR2 [.sh a]
@[simp] theorem intR2_eq (x : R) : intR2 [x] = int2T x.d := rfl
@[simp] theorem int2T_int (i : Int) : int2T (.int i) = .ok (.sh (.int i)) := rfl
theorem int2T_str (a : Str) (n : Int) (h : a.length ≤ 640) (e : PySem.intText? a = some n) : int2T (.str a) = .ok (.sh (.int n)) := by
  show (if a.length ≤ 640 then (match PySem.intText? a with
    | some n => Res.ok (R.sh (T.int n))
    | none => .bad) else .bad) = _
  rw [if_pos h, e]
/-! tuples joined -/
def addR2 (x y : R) : Res R := match x.d, y.d with
  | .tup l, .tup m => if l ≠ [] ∧ m ≠ [] ∧ l.length + m.length ≤ sizeLine then .ok (.sh (.tup (l ++ m))) else .bad
  | _, _ => addR x y
section
variable {X : Cx}
theorem opr_add2 : OpR X (binaryOp .Add) (fun x y H Q => rAdd x y H Q ∨ rCatT X.K x y H Q) := opr_add.or op_catT
theorem opi_add2 : OpI X (fun x y H Q => rAdd x y H Q ∨ rCatT X.K x y H Q) addR2 := by
  intro B H0 O env σ Hs H x y v w Q xc R s rx ry p
  unfold addR2 at p
  split at p
  · rename_i l m e1 e2
    split at p
    · rename_i c
      obtain ⟨a, us, ea, ha, ra⟩ := rx.tup e1
      obtain ⟨b, ws, eb, hb, rb⟩ := ry.tup e2
      refine .inr ⟨a, b, us, ws, ea, eb, SqT.of ha, SqT.of hb, ?_, by rw [← ra.1, ← rb.1]; exact c.2.2, fun z => ?_, fun _ q nq => ?_⟩
      · intro z; rw [z] at ra; exact c.1 (List.length_eq_zero_iff.mp ra.1)
      · rw [z] at rb; exact (c.2.1 (List.length_eq_zero_iff.mp rb.1)).elim
      · exact p _ _ (Same.new nq) (Rp.tup upd_same (Rel.ex_new (R.mono s) nq) (ra.append rb).1 fun i t u a' b' => ((ra.append rb).2 i t u a' b').same (Same.new nq))
    · exact p.elim
  · exact .inl (opi_add _ _ _ _ _ _ _ _ _ _ _ _ xc R s rx ry p)
end
/-! a tuple walked -/
def iTt (f : En → Res R) (env : En) : Res (List T) := (f env).bind fun r => match r.d with
  | .tup l => .ok l
  | _ => .bad
section
variable {X : Cx} {EX : L2.St → XK} {tg e : Expr} {f : En → Res R}
theorem RR.tupK {K : PySem.W.Frag} {B : Bs} {O : Ow} {H H' : Hp} {r : R} {v : V} {ts : List T} (h : RR K B O H H' r v) (e : r.d = .tup ts) : ∃ a us, v = .ref a ∧ H' a = some (.tup us) ∧ ¬ Ex B O a ∧ RpAll K H' (Ex B O) ts us := by
  cases r with
  | sh d =>
    cases e
    cases h with
    | tup hq hn hl hs => exact ⟨_, _, rfl, hq, hn, hl, hs⟩
  | fr d =>
    cases e
    obtain ⟨p, ho, e, n, h1, h2⟩ := h
    cases h2
  | bo i d =>
    cases e
    obtain ⟨a, ho, e, n, h1, h2⟩ := h
    cases h2
  | vw d =>
    cases e
    obtain ⟨a, ho, _, n, h1, h2⟩ := h
    cases h2
theorem fj_tup (he : EJ X EX e f) : FJ X EX tg e (iTt f) := by
  obtain ⟨t, pe, i⟩ := he.ex
  refine ⟨⟨_, pi_tup pe, fun B H0 O env σ H Q R p => ?_⟩⟩
  refine i B H0 O env σ H _ R (p.bind.mono (fun _ _ x => x) fun r q v H1 s r1 => ?_)
  cases ed : r.d with
  | tup l =>
    rw [ed] at q
    obtain ⟨a, us, ev, ha, na, ra⟩ := r1.tupK ed
    refine ⟨a, ev, ⟨us, SqT.of ha⟩, q _ H1 s fun i H Y' k sl th => ?_⟩
    have sq : SqT X.K H a us := SqT.of (k.k _ _ ha na).1
    refine ⟨fun hi => ?_, fun hi => ⟨us, sq, by rw [← ra.1]; exact hi⟩⟩
    have hj : i < us.length := by rw [← ra.1]; exact hi
    refine ⟨⟨us, us[i], sq, List.getElem?_eq_getElem hj⟩, fun x H' y => ?_⟩
    obtain ⟨e, y⟩ := y
    subst e
    exact ⟨Same.refl _, fun t et => (ra.2 i t x et (y us sq)).keep k⟩
  | _ => rw [ed] at q; exact q.elim
end
def itT (a : T) : Res (List T) := match a with
  | .tup l => .ok l
  | _ => .bad
@[simp] theorem itT_tup (l : List T) : itT (.tup l) = .ok l := rfl
@[simp] theorem iTt_eq (f : En → Res R) (env : En) : iTt f env = (f env).bind fun r => itT r.d := by
  unfold iTt
  congr 1
end Tr
namespace Tr
open PySem L2

/-! ### a caught exception is an object like others: the try statement -/
theorem exq_ok {P : Program} {w : World} {H : Hp} {h : Heap} {a : Addr} {cls : Value} {d : Option Addr} {o : Obj} {vs : Array Value} (e : h.get? a = some o) (e1 : o.cls = cls) (e2 : o.dict = d) (e3 : o.data = .fields vs) : ObjOk P w H h a (exq a cls d) :=
  ⟨⟨o, vs, e, e1, e2, e3⟩, ⟨o, e⟩, fun h1 h2 z k => by
    obtain ⟨o', vs', q1, q2⟩ := z
    exact ⟨o', vs', k _ q1, q2⟩⟩
section
variable {X : Cx} {pins : List (Addr × Obj)} {σ : L2.St} {H : Hp} {s : Shared}
/-- an object that nobody tracked is tracked from now on -/
theorem inv_track (I : Inv X pins σ H s) {a : Addr} {u : HO} (na : H a = none) (hu : ObjOk X.prog X.w (upd H a u) s.heap a u) (n0 : X.s_0.heap.get? a = none) (nL : a ≠ X.env.locals)
    (nC : ∀ x c, X.env.cells.lookup x = some c → c ≠ a) (nP : ∀ p ∈ X.pn ++ pins, p.1 ≠ a) : Inv X pins σ (upd H a u) s := by
  have old : ∀ {b : Addr} {o : Obj}, X.s_0.heap.get? b = some o → b ≠ a := fun e z => by rw [z, n0] at e; cases e
  have oldH : ∀ {b : Addr} {o : HO}, H b = some o → b ≠ a := fun e z => by rw [z, na] at e; cases e
  refine ⟨I.ok, I.os, I.bare, ⟨I.base.keep, I.base.slot, fun b o e n hx => ?_, I.base.there, fun b xs e => ?_, fun b o xs e => ?_, fun b ps e => ?_⟩, I.loc, I.cell, ?_, fun x c e => ?_, fun p hp => ?_, fun b o e => ?_, I.len⟩
  · rw [upd_ne (old e)]; exact I.base.free b o e n hx
  · have z := I.base.tups b xs e
    rw [upd_ne (oldH z)]; exact z
  · have z := I.base.frzs b o xs e
    rw [upd_ne (oldH z)]; exact z
  · obtain ⟨m, z⟩ := I.base.tbls b ps e
    exact ⟨m, by rw [upd_ne (oldH z)]; exact z⟩
  · rw [upd_ne (Ne.symm nL)]; exact I.free
  · rw [upd_ne (nC x c e)]; exact I.freeC x c e
  · obtain ⟨z1, z2, z3⟩ := I.pin p hp
    exact ⟨z1, by rw [upd_ne (nP p hp)]; exact z2, z3⟩
  · by_cases q : b = a
    · subst q
      rw [upd_same] at e
      cases e
      exact hu
    · rw [upd_ne q] at e
      exact (I.hok b o e).stay (fun _ _ _ r => r) (fun c r => by rw [upd_ne (oldH r)]; exact r) fun c xs r => by rw [upd_ne (oldH r)]; exact r
/-- into a suite, and out of it -/
theorem inv_suite (I : Inv X pins σ H s) (a : Addr) : Inv (X.suite a (X.pn ++ pins)) [] σ H s :=
  ⟨I.ok.suite a _, I.os, I.bare, I.base, I.loc, I.cell, I.free, I.freeC, fun p hp => I.pin p (by simpa using hp), I.hok, I.len⟩
theorem inv_back {a : Addr} {pn' : List (Addr × Obj)} (I : Inv (X.suite a (X.pn ++ pins)) pn' σ H s) (ok : X.Ok) : Inv X pins σ H s :=
  ⟨ok, I.os, I.bare, I.base, I.loc, I.cell, I.free, I.freeC, fun p hp => I.pin p (List.mem_append_left _ hp), I.hok, I.len⟩
end
/-- a clause: its class (its two classes), the slot of its name, its suite -/
inductive Cl where
  | one (c : Value) (nm : Option Nat) (ts : TS)
def nameD (nm : Option Nat) (D : Ends) : Ends := match nm with
  | none => D
  | some i => { nx := fun σ' H' => D.nx (σ'.set i none) H', rt := D.rt, bk := fun σ' H' => D.bk (σ'.set i none) H', ct := fun σ' H' => D.ct (σ'.set i none) H' }
def nameS (nm : Option Nat) (a : Addr) (σ : L2.St) : L2.St := match nm with
  | none => σ
  | some i => σ.set i (some (.ref a))
def wT (K : PySem.W.Frag) (Wout : WX) (D : Ends) : List Cl → WX
  | [] => Wout
  | .one c nm ts :: r => fun cls d σ H => ∃ b, PySem.W.exmOne K cls c = some b ∧ (b = true → ∀ a, H a = none → ts (nameD nm D) (nameS nm a σ) (upd H a (exq a cls d))) ∧ (b = false → wT K Wout D r cls d σ H)
inductive NmOk (X : Cx) : Option Str → Option Nat → Prop
  | no : NmOk X none none
  | yes (i : Nat) {n : Str} : X.N.Nodup → X.N[i]? = some n → X.env.kindOf n = some .local → NmOk X (some n) (some i)
inductive HdT (X : Cx) : List ExceptHandler → List Cl → Prop
  | nil : HdT X [] []
  | one {x : Str} {c : Value} {n : Option Str} {nm : Option Nat} {ts : TS} {b₀ : Stmt} {suite : List Stmt} {np pos' : Pos} {hds : List ExceptHandler} {l : List Cl} (hc : Names X x c) (hn : NmOk X n nm)
      (hsu : ∀ (a : Addr) (pn : List (Addr × Obj)), PSs (X.suite a pn) (b₀ :: suite) ts) (r : HdT X hds l) :
      HdT X (.ExceptHandler (some (.Name x np)) n (b₀ :: suite) pos' :: hds) (.one c nm ts :: l)
section
variable {X : Cx} {pins : List (Addr × Obj)} {σ : L2.St} {H : Hp} {s : Shared} {D : Ends}
/-- a suite runs, its exception tracked -/
theorem suite_run {a : Addr} {B : Heap} {cls : Value} {d : Option Addr} {n : Option Str} {nm : Option Nat} {ts : TS} {b₀ : Stmt} {suite : List Stmt} {pos' : Pos} (ok : X.Ok) (hn : NmOk X n nm) (hf : X.env.frame = some X.env.locals)
    (hsu : ∀ (a : Addr) (pn : List (Addr × Obj)), PSs (X.suite a pn) (b₀ :: suite) ts) (fl : HandSPX.FlyingZ B (X.env :: X.outer) a (Zc cls d) s.heap) (na : H a = none)
    (J : ∀ h', HandSPX.FlyingZ B (X.env :: X.outer) a (Zc cls d) h' → s.heap.UpToSlots h' → Inv X pins σ H { s with heap := h' } ∧ Inv X pins σ (upd H a (exq a cls d)) { s with heap := h' })
    (q : ts (nameD nm D) (nameS nm a σ) (upd H a (exq a cls d))) :
    codeAny (model X.prog X.w) (X.A.mark (some (.ref a))) (.handlers (.ref a) [.ExceptHandler none n (b₀ :: suite) pos'] X.env) (fun r s₂ => match r with
      | .ok f => (match (generalizing := false) n with
        | none => SP X pins D f s₂
        | some n => wpAny (model X.prog X.w) X.A (do bindName X.env n .none; unbindBehindTheSuite X.env n pos') (fun _ s₃ => SP X pins D f s₃) X.xe s₂)
      | .error x => cameBackBy (model X.prog X.w) X.A X.env X.xe x s₂) s := by
  cases hn with
  | no =>
    refine codeAny_handlers_suite (HandSPX.lands_againZ fl fun h4 fl4 up4 => ?_)
    have S4 := inv_suite (J h4 fl4 up4).2 a
    refine wpAny_mono ((hsu a (X.pn ++ pins)).run [] _ _ _ _ S4 q) (fun f s6 z => ?_) (fun _ _ z => z.elim)
    cases f with
    | ret u =>
      obtain ⟨v, σ6, H6, J6, r6, q6⟩ := z
      exact ⟨v, σ6, H6, inv_back J6 ok, r6, q6⟩
    | next => obtain ⟨σ6, H6, J6, q6⟩ := z; exact ⟨σ6, H6, inv_back J6 ok, q6⟩
    | brk => obtain ⟨σ6, H6, J6, q6⟩ := z; exact ⟨σ6, H6, inv_back J6 ok, q6⟩
    | cont => obtain ⟨σ6, H6, J6, q6⟩ := z; exact ⟨σ6, H6, inv_back J6 ok, q6⟩
  | @yes i n hN hi hl =>
    refine codeAny_handlers_suite_as (HandSPX.lands_againZ fl fun h4 fl4 up4 => ?_)
    have S4 := inv_suite (J h4 fl4 up4).2 a
    refine store_ok (X := X.suite a (X.pn ++ pins)) (v := .ref a) S4 hN hi (.inl hl) rfl (fun s5 S5 => ?_) (.inr hl)
    refine wpAny_mono ((hsu a (X.pn ++ pins)).run [] _ _ _ _ S5 q) (fun f s6 z => ?_) (fun _ _ z => z.elim)
    have fin : ∀ {σ6 : L2.St} {H6 : Hp} {P : Shared → Prop}, Inv (X.suite a (X.pn ++ pins)) [] σ6 H6 s6 → (∀ s7, Inv X pins (σ6.set i none) H6 s7 → P s7) → wpAny (model X.prog X.w) X.A (do bindName X.env n .none; unbindBehindTheSuite X.env n pos') (fun _ s7 => P s7) X.xe s6 :=
      fun J6 k => gone_ok (inv_back J6 ok) hN hi hl k
    cases f with
    | ret u =>
      obtain ⟨v, σ6, H6, J6, r6, q6⟩ := z
      exact fin J6 fun s7 J7 => ⟨v, _, H6, J7, r6, q6⟩
    | next => obtain ⟨σ6, H6, J6, q6⟩ := z; exact fin J6 fun s7 J7 => ⟨_, H6, J7, q6⟩
    | brk => obtain ⟨σ6, H6, J6, q6⟩ := z; exact fin J6 fun s7 J7 => ⟨_, H6, J7, q6⟩
    | cont => obtain ⟨σ6, H6, J6, q6⟩ := z; exact fin J6 fun s7 J7 => ⟨_, H6, J7, q6⟩

/-- the names of an except clause, in the suite's surroundings -/
theorem name_in_suite {a : Addr} {x : Str} {c : Value} {np : Pos} {Q : Value → Shared → Prop} {E : Value → Shared → Prop} (hc : Names X x c) (S : Inv (X.suite a (X.pn ++ pins)) [] σ H s) (q : Q c s) :
    wpAny (model X.prog X.w) (X.A.mark (some (.ref a))) (eval (.Name x np) X.env) Q E s := by
  rcases hc with ⟨g, dbg, m | ⟨m, v, nn⟩⟩
  · exact ld_glob S g m q dbg
  · exact ld_blt S g m v q nn dbg
/-- where it was caught: its frames' facts -/
structure Cgt (X : Cx) (pins : List (Addr × Obj)) (B : Heap) (a : Addr) (cls : Value) (d : Option Addr) (σ : L2.St) (H : Hp) (s : Shared) : Prop where
  fl : HandSPX.FlyingZ B (X.env :: X.outer) a (Zc cls d) s.heap
  na : H a = none
  inv : ∀ h', HandSPX.FlyingZ B (X.env :: X.outer) a (Zc cls d) h' → s.heap.UpToSlots h' → Inv X pins σ H { s with heap := h' }
  new : X.s_0.heap.get? a = none ∧ a ≠ X.env.locals ∧ (∀ x c, X.env.cells.lookup x = some c → c ≠ a) ∧ ∀ p ∈ X.pn ++ pins, p.1 ≠ a
theorem Cgt.trk {B : Heap} {a : Addr} {cls : Value} {d : Option Addr} (c : Cgt X pins B a cls d σ H s) {h' : Heap} (fl : HandSPX.FlyingZ B (X.env :: X.outer) a (Zc cls d) h') (up : s.heap.UpToSlots h') :
    Inv X pins σ (upd H a (exq a cls d)) { s with heap := h' } := by
  obtain ⟨o, vs, e, z, dd⟩ := fl.there
  exact inv_track (c.inv h' fl up) c.na (exq_ok e z.1 z.2 dd) c.new.1 c.new.2.1 c.new.2.2.1 c.new.2.2.2
theorem Cgt.i0 {B : Heap} {a : Addr} {cls : Value} {d : Option Addr} (c : Cgt X pins B a cls d σ H s) : Inv X pins σ H s := c.inv s.heap c.fl (Heap.UpToSlots.refl _)
theorem Cgt.lt {B : Heap} {a : Addr} {cls : Value} {d : Option Addr} (c : Cgt X pins B a cls d σ H s) {M : Model} : PySem.W.Looks M s.heap (typeOf (.ref a)) cls := by
  obtain ⟨o, vs, e, z, dd⟩ := c.fl.there
  exact fun A Q E s k q => wpAny_typeOf_ref (k _ _ e) (by rw [z.1]; exact q)
open PySem.Spec PyProof.Rows in
/-- the clauses, one after the other -/
theorem hands_go {Wout : WX} {a : Addr} {B : Heap} {cls : Value} {d : Option Addr} {sI : Shared} (ok : X.Ok) (hs : X.stack = X.env :: X.outer) (hf : X.env.frame = some X.env.locals) (tk : Takes X Wout) (c : Cgt X pins B a cls d σ H s)
    (J : Inv X pins σ H sI) (nb : ∀ b o, sI.heap.get? b = some o → b ∉ frs X.stack → B.get? b = some o) (up : sI.heap.UpToSlots s.heap) (os : s.os = sI.os) (ag : AllBare s.gens) :
    ∀ {hds : List ExceptHandler} {l : List Cl}, HdT X hds l → wT X.K Wout D l cls d σ H → wpAny (model X.prog X.w) X.A (handleBy (.ref a) X.env hds) (SP X pins D) X.xe s := by
  intro hds l hk
  induction hk with
  | nil =>
    intro w
    refine wpAny_handleBy_nil ?_
    have fl3 := c.fl
    obtain ⟨k1, k2, k3, oe, vs, T, oT, ts', he, hz, hd, h1, hr⟩ := id fl3
    unfold PySem.passOn
    refine wpAny_bind (wpAny_field he hd h1 ?_)
    rw [if_neg (show ¬ ((Value.ref T == Value.none) = true) from by simp)]
    have fin : wpAny (model X.prog X.w) X.A (setFlight (.ref a) X.env.frame) (fun _ s4 => wpAny (model X.prog X.w) X.A (throw (.ref a) : Sem Flow) (SP X pins D) X.xe s4) X.xe s := by
      rw [hf]
      refine HandSPX.setFlight_upZ fl3 fun h4 hh4 up4 => wpAny_throw (tk _ _ ?_)
      exact ⟨a, B, sI, pins, σ, H, cls, d, rfl, J, nb, up.trans up4, .inr (.inr (by rw [hs]; exact hh4)), c.na, os, ag, w⟩
    first
      | exact wpAny_bind (wpAny_pure (wpAny_bind fin))
      | exact wpAny_bind fin
  | @one x cc n nm ts b₀ suite np pos' hds2 l2 hc hn hsu r ih =>
    intro w
    obtain ⟨b, hb1, hyes, hno⟩ := w
    refine wpAny_handleBy_cons (codeAny_handlers_test ?_) (by intro q; cases q)
    have LM := PySem.W.exm_one (M := model X.prog X.w) (c.i0.kIn) c.lt hb1
    have S3 := inv_suite (c.trk c.fl (Heap.UpToSlots.refl _)) a
    refine name_in_suite hc S3 (LM.here ?_)
    cases b with
    | true => exact suite_run ok hn hf hsu c.fl c.na (fun h' fl' up' => ⟨c.inv h' fl' up', c.trk fl' up'⟩) (hyes rfl a c.na)
    | false =>
      show wpAny _ X.A (handleBy (.ref a) X.env hds2) _ _ _
      exact ih (hno rfl)
end
section
variable {X : Cx} {body : List Stmt} {h₀ : ExceptHandler} {hds : List ExceptHandler} {l : List Cl} {pos : Pos} {tb : WX → TS} {Wout : WX}
theorem ps_tryT (hs : X.stack = X.env :: X.outer) (hf : X.env.frame = some X.env.locals) (hex : X.ex = []) (tk : Takes X Wout)
    (hb : ∀ (W : WX) (pn : List (Addr × Obj)) (xe : Value → Shared → Prop), Takes (X.tr pn xe) W → PassesOwn (model X.prog X.w) X.A X.env xe → PSs (X.tr pn xe) body (tb W))
    (hh : HdT X (h₀ :: hds) l) : PS X (.Try body (h₀ :: hds) [] [] pos) (fun D σ H => tb (wT X.K Wout D l) D σ H) := by
  refine ⟨fun pins s σ H D I h => ?_⟩
  have ok := I.ok
  have hfr : X.A.frames = some (X.env :: X.outer) := by rw [ok.frames, hs]
  refine wpAny_Try_except ?_
  refine wpAny_mono ((hb (wT X.K Wout D l) (X.pn ++ pins) (fun e s₁ => wpAny (model X.prog X.w) X.A (noteFrame e X.env) (fun _ s₂ => wpAny (model X.prog X.w) X.A (setFlight e none) (fun _ s₃ =>
    wpAny (model X.prog X.w) X.A (handleBy e X.env (h₀ :: hds)) (SP X pins D) X.xe s₃) X.xe s₂) X.xe s₁) (fun u s' xx => ?_) PassesOwn.looking).run [] s σ H D (I.toTry _) h) (fun f s1 hsp => ?_) (fun e s1 he => he)
  · obtain ⟨a, B, sI, pins', σ', H', cls, d, rfl, J', nb, up, sky, na, os, ag, w⟩ := xx
    have J : Inv X pins σ' H' sI := J'.ofTry ok
    have sky' : Sky B (X.env :: X.outer) a (Zc cls d) X.env.locals s'.heap := by rw [← hs]; exact sky
    show wpAny (model X.prog X.w) X.A (noteFrame (.ref a) X.env) _ _ _
    refine Sky.land Zc.steady hfr hf sky' fun h3 fl3 up3 => ?_
    have inv : ∀ h', HandSPX.FlyingZ B (X.env :: X.outer) a (Zc cls d) h' → h3.UpToSlots h' → Inv X pins σ' H' { s' with heap := h' } := fun h' fl' up' => J.landed nb fl'.1 ((up.trans up3).trans up') os ag
    obtain ⟨oe3, vs3, he3, hz3, hd3⟩ := fl3.there
    have nfr : a ∉ frs (X.env :: X.outer) := fun hm => by
      obtain ⟨_, o', e', hnf⟩ := fl3.2.2.1.mem hm
      rw [he3] at e'; cases e'
      exact hnf _ hd3
    have nL : a ≠ X.env.locals := fun z => nfr (List.mem_filterMap.mpr ⟨X.env, List.mem_cons_self, by rw [hf, z]⟩)
    have J3 := inv h3 fl3 (Heap.UpToSlots.refl _)
    have nC : ∀ x c, X.env.cells.lookup x = some c → c ≠ a := fun x c e z => by
      subst z
      obtain ⟨v, hv⟩ := J3.cell x c e
      obtain ⟨o, e1, e2⟩ := hv
      rw [he3] at e1
      cases e1
      rw [hd3] at e2
      cases e2
    have nI : sI.heap.get? a = none := by
      cases q : sI.heap.get? a with
      | none => rfl
      | some o =>
        have z := nb a o q (by rw [hs]; exact nfr)
        rw [fl3.2.1] at z; cases z
    have n0 : X.s_0.heap.get? a = none := by
      cases q : X.s_0.heap.get? a with
      | none => rfl
      | some o =>
        obtain ⟨o', z⟩ := J.base.there a o q (by rw [hex]; simp)
        rw [nI] at z; cases z
    have nP : ∀ p ∈ X.pn ++ pins, p.1 ≠ a := fun p hp z => by
      have q := (J.pin p hp).1
      rw [z, nI] at q; cases q
    exact hands_go (s := { s' with heap := h3 }) ok hs hf tk ⟨fl3, na, inv, n0, nL, nC, nP⟩ J nb (up.trans up3) os ag hh w
  · cases f with
    | next =>
      obtain ⟨σ', H', J', q⟩ := hsp
      exact wpAny_execs_nil ⟨σ', H', J'.ofTry ok, q⟩
    | brk =>
      obtain ⟨σ', H', J', q⟩ := hsp
      exact ⟨σ', H', J'.ofTry ok, q⟩
    | cont =>
      obtain ⟨σ', H', J', q⟩ := hsp
      exact ⟨σ', H', J'.ofTry ok, q⟩
    | ret u =>
      obtain ⟨v, σ', H', J', r, q⟩ := hsp
      exact ⟨v, σ', H', J'.ofTry ok, r, q⟩
end
end Tr
namespace Tr
open PySem L2

/-! ### exceptions in functions of trees -/
/-- whether the class number c stands under d -/
def subC (c d : Nat) : Bool := c == d || (d == 12 && decide (13 ≤ c) && decide (c ≤ 23)) || (d == 3 && (c == 4 || c == 5)) || (d == 6 && decide (7 ≤ c) && decide (c ≤ 9))
def exT (c : Nat) : Option T → T
  | none => .ex0 c
  | some t => .ex1 c t
abbrev Hd := List Nat × Option Nat × (En → Out)
def hOut : Out → Out
  | .exc _ _ _ => .bad
  | o => o
def disp : List Hd → En → Nat → Option T → Out
  | [], e, c, p => .exc e c p
  | (ds, nm, f) :: r, e, c, p => if ds.any (subC c) = true then (match nm with
    | none => hOut (f e)
    | some i => hOut ((f (e.set i (.fz (exT c p)))).onE fun e => e.set i .no)) else disp r e c p
def fTry (Cs : List Nat) (hs : List Hd) (fb : En → Out) (env : En) : Out := match fb env with
  | .exc e c p => if c ∈ Cs then disp hs e c p else .bad
  | o => o
def fRs0 (C : Nat) (env : En) : Out := .exc env C none
def fRs1 (C : Nat) (u : En → Res R) (env : En) : Out := sOf u (fun r env => if r.kp = true then .exc env C (some r.d) else .bad) env

/-! ### raise -/
/-- an exception's own __init__: self.name = name -/
def spXi (K : PySem.W.Frag) : Sp := fun vs H Q _ => ∃ (a C : Addr) (v : V), vs = [.ref a, v] ∧ OexC K C ∧ PySem.W.findIn K (.ref C) "name" = some none ∧ H a = some (exo a C none) ∧
  ∀ d, H d = none → d ≠ a → Q .non (upd (upd H d (exd d [(("name" : Str), v)])) a (exo a C (some d)))
theorem ok_xi {P : Program} {w : World} {K : PySem.W.Frag} {mg : Str → Option Value} {base : Heap} {qual : Str} {st : Stmt} {f : Addr} {fd : FuncData} {p1 p2 p3 p4 : Pos} (F : Fun K "__init__" qual st f fd) (S : FnScope ["self", "name"] ["self", "name"] (defScope st))
    (hb : defBody st = [.Assign [.Attribute (.Name "self" p1) "name" p2] (.Name "name" p3) p4])
    (h1 : (defScope st).names.lookup ("self" : Str) = some NameKind.local) (h2 : (defScope st).names.lookup ("name" : Str) = some NameKind.local) :
    FnOk P w K mg base (L2.CX P w) 1 f fd ["self", "name"] (spXi K) := by
  refine F.okX (k := 0) S (fun vs H Q E h => ?_) (fun cdv A outer s H vs Q E hr h => ?_)
  · obtain ⟨a, C, v, rfl, _⟩ := h
    rfl
  · obtain ⟨a, C, v, rfl, T, hno, ea, q⟩ := h
    rw [hb]
    have e0 : PE (cxOf (L2.CX P w) P w K mg base ["self", "name"] qual (defScope st) f cdv A outer s H E) (.Name "self" p1) (tVar 0) := pe_var rfl (.inl h1)
    have e1 : PE (cxOf (L2.CX P w) P w K mg base ["self", "name"] qual (defScope st) f cdv A outer s H E) (.Name "name" p3) (tVar 1) := pe_var rfl (.inl h2)
    exact ⟨_, pss_one (ps_ost e0 e1), v, rfl, .ref a, rfl, a, C, rfl, T, hno, .inl ⟨ea, fun d nd nda => q d nd nda⟩⟩
/-- an exception's class with such an __init__ -/
structure XMk1 (P : Program) (w : World) (K : PySem.W.Frag) (mg : Str → Option Value) (base : Heap) (x : Str) (C : Nat) : Prop where
  ex : ∃ (c f : Addr) (fd : FuncData), clsA K C = some c ∧ mg x = some (.ref c) ∧ OexC K c ∧ PySem.W.findIn K (.ref c) "name" = some none ∧ PySem.W.findIn K (.ref c) "__init__" = some (some (.ref f)) ∧
    PySem.W.typeIn K (.ref f) = some (.type "function") ∧ Binds K fd ["self", "name"] [] ∧ FnOk P w K mg base (L2.CX P w) 1 f fd ["self", "name"] (spXi K)
/-- one without -/
structure XMk0 (K : PySem.W.Frag) (mg : Str → Option Value) (x : Str) (C : Nat) : Prop where
  ex : ∃ c : Addr, clsA K C = some c ∧ mg x = some (.ref c) ∧ PySem.W.excIn K c [.type "ValueError", .type "Exception", .type "BaseException", .type "object"] "ValueError.__new__" = true ∧ PySem.W.keepIn K (.ref c) = true ∧
    PySem.W.subIn K (.ref c) (.type "BaseException") = some true ∧ PySem.W.typeIn K (.ref c) = some (.type "type")
section
variable {X : Cx} {EX : L2.St → XK} {e : Expr} {u : En → Res R} {C k : Nat} {x m : Str} {p p2 pos pos2 : Pos}
theorem sj_rs0 {j} (M : XMk0 X.K X.mg x C) (hc : X.calm = true) (tk : Takes X (fun cls d σ H => EX σ cls d H)) (hg : Gl X x) (hdb : (x == ("__debug__" : Str)) = false := by decide) :
    SJ X EX (.Raise (some (.Call (.Name x p) [.Constant (.str m) j p2] [] pos)) none pos2) (fRs0 C) := by
  obtain ⟨c, h0, h1, h2, h3, h4, h5⟩ := M.ex
  exact ⟨⟨_, ps_raise hc tk (pmk_own PySem.F.excBase_ValueError h2 h1 h3 (raises_own h4 h5) hg hdb), fun B H0 O env σ H D R q => q O σ H none c h0 R Keep.refl rfl⟩⟩
theorem sj_rs1 (M : XMk1 X.prog X.w X.K X.mg X.base x C) (hc : X.calm = true) (tk : Takes X (fun cls d σ H => EX σ cls d H)) (hr : Room k X.A) (hk : 2 ≤ k) (hg : Gl X x) (he : EJ X EX e u) (hdb : (x == ("__debug__" : Str)) = false := by decide)
    (hst : starEach (e :: []) X.env = (false, eval e X.env) :: starEach [] X.env := by rfl) (hpl : (backTo pos (starEach [] X.env)).any (·.1) = false := by rfl) :
    SJ X EX (.Raise (some (.Call (.Name x p) [e] [] pos)) none pos2) (fRs1 C u) := by
  obtain ⟨c, f, fd, h0, h1, h2, h3, h4, h5, h6, h7⟩ := M.ex
  obtain ⟨t, pe, i⟩ := he.ex
  have hx : Passes (L2.CX X.prog X.w) X (fun _ _ _ => False) := fun pins σ H s e s' _ h => by
    obtain ⟨_, _, _, _, _, _, _, _, _, _, _, _, z⟩ := h
    exact z.elim
  refine ⟨⟨_, ps_raise hc tk (pmk_oex (dvs := []) (ds := []) h2 h4 h5 h7 (hr.mono hk) h6 .nil hx hg h1 (pa_cons pe pa_nil hst) hdb hst hpl), fun B H0 O env σ H D R q => ?_⟩⟩
  refine i B H0 O env σ H _ R ((sOf_post R q).mono (fun _ _ x => x) fun r q v H1 s r1 => ?_)
  split at q
  · rename_i kp
    refine ⟨by simp, fun a na => ⟨a, c, v, rfl, h2, h3, upd_same, fun d nd nda => ⟨rfl, d, [(("name" : Str), v)], upd_same, ?_, ?_, ?_⟩⟩⟩
    · rw [upd_ne nda]; exact upd_same
    · rw [upd_ne nda] at nd; exact nd
    · have nd1 : H1 d = none := by rw [upd_ne nda] at nd; exact nd
      have e : upd (L2.del (upd (upd (upd H1 a (exo a c none)) d (exd d [(("name" : Str), v)])) a (exo a c (some d))) a) d (.xd [(("name" : Str), v)]) = upd H1 d (.xd [(("name" : Str), v)]) := by
        funext b
        by_cases q1 : b = d
        · rw [q1, upd_same, upd_same]
        · rw [upd_ne q1, upd_ne q1]
          by_cases q2 : b = a
          · rw [q2, del_same, na]
          · rw [del_ne q2, upd_ne q2, upd_ne q1, upd_ne q2]
      rw [e]
      have s2 : Same H1 (upd H1 d (.xd [(("name" : Str), v)])) := Same.new nd1
      exact q O σ _ (some d) c h0 ((R.mono s).mono s2) (Same.keepB (s.trans s2)) ⟨d, v, rfl, upd_same, (r1.rp R kp).same s2⟩
  · exact q.elim
end

/-! ### try -/
/-- the canonical readings -/
def tsOf (K : PySem.W.Frag) (P : Bs → Hp → Ow → Hp → Ends → Out → Prop) (f : En → Out) : TS := fun D σ H => ∃ B H0 O env, Rel K B H0 O env σ H ∧ P B H0 O H D (f env)
theorem SsJ.pss {X : Cx} {EX : L2.St → XK} {st : List Stmt} {f : En → Out} (h : SsJ X EX st f) : PSs X st (tsOf X.K (SPost X EX) f) := by
  obtain ⟨t, ps, i⟩ := h.ex
  exact ⟨fun pins s σ H D I ⟨B, H0, O, env, R, p⟩ => ps.run pins s σ H D I (i B H0 O env σ H D R p)⟩
theorem Rel.gone {K : PySem.W.Frag} {B : Bs} {H0 H : Hp} {O : Ow} {env : En} {σ : L2.St} (R0 : Rel K B H0 O env σ H) (i : Nat) : ∃ O', Rel K B H0 O' (env.set i .no) (σ.set i none) H ∧ Keep (Ex B O) H (Ex B O') H := by
  by_cases hi : i < env.length
  · have hn : i < B.n := R0.lenN ▸ hi
    have hO : i < O.length := R0.lenE hi
    have exs : ∀ b, Ex B (O.set i none) b → Ex B O b := fun b z => by
      rcases z with z | ⟨j, z⟩
      · exact .inl z
      · rcases getElem?_set' z with ⟨_, _, e⟩ | ⟨_, e⟩
        · cases e
        · exact .inr ⟨j, e⟩
    have kp : Keep (Ex B O) H (Ex B (O.set i none)) H := ⟨fun b o e n => ⟨e, fun z => n (exs b z)⟩, fun k a e => (cs_set hn k).trans e⟩
    exact ⟨_, R0.setO (w := none) hi _ (.inl rfl) R0.same kp R0.there (fun _ _ _ _ _ e => e) (fun a e => by cases e) (fun z => by cases z) (by show (O.set i none)[i]? = some none; rw [List.getElem?_set, if_pos rfl, if_pos hO]), kp⟩
  · have hσ : ¬ i < σ.length := by rw [R0.len]; exact hi
    rw [List.set_eq_of_length_le (by omega), List.set_eq_of_length_le (by omega)]
    exact ⟨O, R0, Keep.refl⟩
inductive HdJ (X : Cx) (Cs : List Nat) : List ExceptHandler → List Hd → Prop
  | nil : HdJ X Cs [] []
  | one {x : Str} {D : Nat} {d : Addr} {n : Option Str} {nm : Option Nat} {f : En → Out} {b₀ : Stmt} {suite : List Stmt} {np pos' : Pos} {hds : List ExceptHandler} {l : List Hd} (hD : clsA X.K D = some d) (hc : Names X x (.ref d))
      (hm : ∀ C ∈ Cs, ∀ c, clsA X.K C = some c → PySem.W.exmOne X.K (.ref c) (.ref d) = some (subC C D)) (hn : NmOk X n nm) (hsu : ∀ (a : Addr) (pn : List (Addr × Obj)), SsJ (X.suite a pn) EX0 (b₀ :: suite) f) (r : HdJ X Cs hds l) :
      HdJ X Cs (.ExceptHandler (some (.Name x np)) n (b₀ :: suite) pos' :: hds) (([D], nm, f) :: l)
section
variable {X : Cx} {EX : L2.St → XK} {Cs : List Nat}
theorem hOut_post {B : Bs} {H0 H : Hp} {O : Ow} {D : Ends} {o : Out} (h : SPost X EX B H0 O H D (hOut o)) : SPost X EX0 B H0 O H D o := by
  cases o with
  | nx e => exact h
  | rt r => exact h
  | bk e => exact h
  | ct e => exact h
  | exc e c p => exact h.elim
  | bad => exact h.elim
  | rm r e => cases r <;> exact h
theorem hOut_onE {o : Out} {g : En → En} (h : hOut (o.onE g) = hOut (o.onE g)) : True := trivial
theorem named_post {B : Bs} {H0 H : Hp} {O : Ow} {D : Ends} {o : Out} {i : Nat} (h : SPost X EX B H0 O H D (hOut (o.onE fun e => e.set i .no))) : SPost X EX0 B H0 O H (nameD (some i) D) o := by
  cases o with
  | nx e =>
    intro O' σ' H' R k
    obtain ⟨O2, R2, k2⟩ := R.gone i
    exact h O2 _ H' R2 (k.trans k2)
  | rt r => exact h
  | bk e =>
    intro O' σ' H' R k
    obtain ⟨O2, R2, k2⟩ := R.gone i
    exact h O2 _ H' R2 (k.trans k2)
  | ct e =>
    intro O' σ' H' R k
    obtain ⟨O2, R2, k2⟩ := R.gone i
    exact h O2 _ H' R2 (k.trans k2)
  | exc e c p => exact h.elim
  | bad => exact h.elim
  | rm r e => cases r <;> exact h
theorem ex_rp {B : Bs} {H0 H : Hp} {O : Ow} {env : En} {σ : L2.St} {C : Nat} {c a : Addr} {p : Option T} {d : Option Addr} (R : Rel X.K B H0 O env σ H) (hc : clsA X.K C = some c) (na : H a = none) (x : XRel X.K (Ex B O) H p d) :
    Rp X.K (upd H a (exq a (.ref c) d)) (Ex B O) (exT C p) (.ref a) := by
  have R1 := R.mono (Same.new (o := exq a (.ref c) d) na)
  cases p with
  | none =>
    have e : d = none := x
    subst e
    exact .ex0 hc upd_same (R.ex_new na)
  | some t =>
    obtain ⟨dd, v, e, h1, h2⟩ := x
    subst e
    have n1 : ¬ Ex B O dd := fun z => by
      obtain ⟨o, e1, nt⟩ := R.ex_ntup z
      rw [h1] at e1
      cases e1
      exact nt.2 _ rfl
    exact .ex1 hc upd_same (R.ex_new na) (by rw [upd_ne (ne_of_none h1 na)]; exact h1) n1 (h2.same (Same.new na))
theorem HdJ.hdt {hds : List ExceptHandler} {l : List Hd} (h : HdJ X Cs hds l) : ∃ l', HdT X hds l' ∧ ∀ {B : Bs} {H0 H : Hp} {O : Ow} {env : En} {σ : L2.St} {D : Ends} {C : Nat} {c : Addr} {p : Option T} {d : Option Addr},
    Rel X.K B H0 O env σ H → clsA X.K C = some c → C ∈ Cs → XRel X.K (Ex B O) H p d → SPost X EX B H0 O H D (disp l env C p) → wT X.K (fun cls d σ H => EX σ cls d H) D l' (.ref c) d σ H := by
  induction h with
  | nil => exact ⟨[], .nil, fun {B H0 H O env σ D C c p d} R hc _ x q => q O σ H d c hc R Keep.refl x⟩
  | @one x D0 d0 n nm f b₀ suite np pos' hds l hD hc hm hn hsu r ih =>
    obtain ⟨l', h1, h2⟩ := ih
    refine ⟨.one (.ref d0) nm (tsOf X.K (SPost X EX0) f) :: l', .one hc hn (fun a pn => (hsu a pn).pss) h1, fun {B H0 H O env σ D C c p d} R ec mem xr q => ⟨subC C D0, hm C mem c ec, fun hb a na => ?_, fun hb => ?_⟩⟩
    · have q' : SPost X EX B H0 O H D (match (generalizing := false) nm with
          | none => hOut (f env)
          | some i => hOut ((f (env.set i (.fz (exT C p)))).onE fun e => e.set i .no)) := by
        unfold disp at q
        rw [if_pos (by simp [hb])] at q
        exact q
      have sm : Same H (upd H a (exq a (.ref c) d)) := Same.new na
      cases nm with
      | none => exact ⟨B, H0, O, env, R.mono sm, (hOut_post q').up (Same.keepB sm)⟩
      | some i =>
        obtain ⟨O', R', k', _⟩ := (R.mono sm).store (r := .sh (exT C p)) (v := .ref a) (Same.refl _) (ex_rp R ec na xr) rfl i
        exact ⟨B, H0, O', _, R', (named_post q').up ((Same.keepB sm).trans k')⟩
    · unfold disp at q
      rw [if_neg (by simp [hb])] at q
      exact h2 R ec mem xr q
theorem sj_try {body : List Stmt} {h₀ : ExceptHandler} {hds : List ExceptHandler} {l : List Hd} {pos : Pos} {fb : En → Out} (hs : X.stack = X.env :: X.outer) (hf : X.env.frame = some X.env.locals) (hex : X.ex = []) (tk : Takes X (fun cls d σ H => EX σ cls d H))
    (hh : HdJ X Cs (h₀ :: hds) l)
    (hb : ∀ (W : WX) (pn : List (Addr × Obj)) (xe : Value → Shared → Prop), Takes (X.tr pn xe) W → PassesOwn (model X.prog X.w) X.A X.env xe → SsJ (X.tr pn xe) (WE W) body fb) : SJ X EX (.Try body (h₀ :: hds) [] [] pos) (fTry Cs l fb) := by
  obtain ⟨l', h1, h2⟩ := hh.hdt (EX := EX)
  refine ⟨⟨_, ps_tryT hs hf hex tk (tb := fun W => tsOf X.K (SPost X (WE W)) fb) (fun W pn xe t1 t2 => (hb W pn xe t1 t2).pss) h1, fun B H0 O env σ H D R q => ⟨B, H0, O, env, R, ?_⟩⟩⟩
  unfold fTry at q
  cases e : fb env with
  | nx e1 => rw [e] at q; exact q
  | rt r => rw [e] at q; exact q
  | bk e1 => rw [e] at q; exact q
  | ct e1 => rw [e] at q; exact q
  | bad => rw [e] at q; exact q.elim
  | rm r e1 => rw [e] at q; cases r <;> exact q
  | exc e1 C p =>
    rw [e] at q
    simp only at q
    split at q
    · rename_i mem
      exact fun O' σ' H' d a ea R' k' x => h2 R' ea mem x (q.up k')
    · exact q.elim
end

/-! ### an exception's field -/
structure XfOk (K : PySem.W.Frag) (C : Nat) : Prop where
  x : ∀ c, clsA K C = some c → XfC K c ∧ PySem.W.findIn K (.ref c) "name" = some none
def fAtX (Cs : List Nat) (g : En → Res R) (env : En) : Res R := (g env).bind fun x => match x.d with
  | .ex1 C t => if C ∈ Cs then .ok (.sh t) else .bad
  | _ => .bad
theorem RR.ex1 {K : PySem.W.Frag} {B : Bs} {O : Ow} {H H' : Hp} {r : R} {v : V} {C : Nat} {t : T} (h : RR K B O H H' r v) (e : r.d = .ex1 C t) : ∃ c a dd u, clsA K C = some c ∧ v = .ref a ∧ H' a = some (exq a (.ref c) (some dd)) ∧ H' dd = some (.xd [(("name" : Str), u)]) ∧ Rp K H' (Ex B O) t u := by
  cases r with
  | sh d =>
    cases e
    cases h with
    | ex1 h0 h1 _ h2 _ h3 => exact ⟨_, _, _, _, h0, rfl, h1, h2, h3⟩
  | fr d =>
    cases e
    obtain ⟨p, ho, e, n, h1, h2⟩ := h
    cases h2
  | bo i d =>
    cases e
    obtain ⟨a, ho, e, n, h1, h2⟩ := h
    cases h2
  | vw d =>
    cases e
    obtain ⟨a, ho, _, n, h1, h2⟩ := h
    cases h2
theorem RR.ex0 {K : PySem.W.Frag} {B : Bs} {O : Ow} {H H' : Hp} {r : R} {v : V} {C : Nat} (h : RR K B O H H' r v) (e : r.d = .ex0 C) : ∃ c a, clsA K C = some c ∧ v = .ref a ∧ H' a = some (exq a (.ref c) none) := by
  cases r with
  | sh d =>
    cases e
    cases h with
    | ex0 h0 h1 _ => exact ⟨_, _, h0, rfl, h1⟩
  | fr d =>
    cases e
    obtain ⟨p, ho, e, n, h1, h2⟩ := h
    cases h2
  | bo i d =>
    cases e
    obtain ⟨a, ho, e, n, h1, h2⟩ := h
    cases h2
  | vw d =>
    cases e
    obtain ⟨a, ho, _, n, h1, h2⟩ := h
    cases h2
section
variable {X : Cx} {EX : L2.St → XK} {e : Expr} {g : En → Res R} {pos : Pos}
open PySem.Spec PyProof.Rows in
theorem ej_atX (Cs : List Nat) (he : EJ X EX e g) (hT : ∀ C ∈ Cs, XfOk X.K C) (hb : attributeBase e "name" X.env (eval e X.env) = eval e X.env := by rfl) : EJ X EX (.Attribute e "name" pos) (fAtX Cs g) := by
  obtain ⟨t, pe, i⟩ := he.ex
  let tX : TE := fun σ H Q => t σ H fun x H1 => ∃ (a c dd : Addr) (u : V), XfC X.K c ∧ PySem.W.findIn X.K (.ref c) "name" = some none ∧ x = .ref a ∧ H1 a = some (exq a (.ref c) (some dd)) ∧ H1 dd = some (.xd [(("name" : Str), u)]) ∧ Q u H1
  have pX : PE X (.Attribute e "name" pos) tX := by
    refine ⟨fun pins s σ H Q I h => ?_⟩
    refine attr_of hb (thn (pe.run pins s σ H _ I h) fun u s1 hh => ?_)
    obtain ⟨x, H1, I1, rx, a, c, dd, v, T, hno, ex, ea, ed, q⟩ := hh
    subst ex
    obtain rfl : u = Value.ref a := rx
    obtain ⟨⟨oe, vs, e1, e2, e3, e4⟩, _⟩ := (show ObjOk X.prog X.w H1 s1.heap a (exq a (.ref c) (some dd)) from I1.hok a _ ea)
    obtain ⟨mA, hns, hr⟩ := (show ObjOk X.prog X.w H1 s1.heap dd (.xd [(("name" : Str), v)]) from I1.hok dd _ ed)
    obtain ⟨od, ho, hl⟩ := lookIn_ns hns
    have l : List.lookup ("name" : Str) [(("name" : Str), v)] = some v := by simp [List.lookup]
    obtain ⟨u, hu, ru⟩ := RelO.some_of (v := v) (o := mA "name") (by rw [← l]; exact hr "name")
    have J : PySem.W.InstAt s1.heap a oe c (some od) := ⟨e1, e2, by unfold PySem.W.notCls; rw [e4] <;> rfl, by rw [e3]; exact ho⟩
    exact HandSPX.exc_get I1.kIn J T.ga T.gg T.exC (PySem.W.findObj_own T.hdC hno rfl (by rw [hl, hu])) (handed_of ru) ⟨v, H1, I1.tok _, ru, q⟩
  refine ⟨⟨_, pX, fun B H0 O env σ H Q R p => ?_⟩⟩
  refine i B H0 O env σ H _ R (p.bind.mono (fun _ _ x => x) fun x q v H1 s r1 => ?_)
  split at q
  · rename_i C tt ex
    split at q
    · rename_i mem
      obtain ⟨c, a, dd, u, h0, ev, h1, h2, h3⟩ := r1.ex1 ex
      obtain ⟨y1, y2⟩ := (hT C mem).x c h0
      exact ⟨a, c, dd, u, y1, y2, ev, h1, h2, q u H1 s h3⟩
    · exact q.elim
  · exact q.elim
end

/-! ### isinstance of own classes -/
/-- what the exceptions' class C must say -/
structure ExTy (K : PySem.W.Frag) (c : Addr) : Prop where
  cl : (PySem.W.clsIn K c).isSome = true
  ga : PySem.W.findIn K (.ref c) "__getattribute__" = some (some (.builtin "BaseException.__getattribute__"))
  gg : PySem.W.findIn K (.ref c) "__getattr__" = some none
  sb : PySem.W.subIn K (.ref c) (.type "BaseException") = some true
  ha : PySem.W.findIn K (.ref c) "__class__" = some (some (.builtin "object.__class__"))
  hn : PySem.W.specialIn K (.builtin "object.__class__") "__get__" = some (some (.builtin "getset_descriptor.__get__"))
  ht : PySem.W.takesIn K (.builtin "object.__class__") = some true
  hm : PySem.W.mroIn K c (.type "object") = some true
/-- what an object's class must say -/
structure ObTy (K : PySem.W.Frag) (c : Addr) : Prop where
  cl : Cls K c
  ha : PySem.W.findIn K (.ref c) "__class__" = some (some (.builtin "object.__class__"))
  hn : PySem.W.specialIn K (.builtin "object.__class__") "__get__" = some (some (.builtin "getset_descriptor.__get__"))
  ht : PySem.W.takesIn K (.builtin "object.__class__") = some true
  hm : PySem.W.mroIn K c (.type "object") = some true
def rIsX (K : PySem.W.Frag) : List V → Hp → VK → Prop := fun xs H Q => ∃ (a c : Addr) (dd : Option Addr) (c2 : V) (cv : Value) (b : Bool), xs = [.ref a, c2] ∧ (∀ u, RelV c2 u → u = cv) ∧ H a = some (exq a (.ref c) dd) ∧ (∀ x, dd = some x → ∃ fs, H x = some (.xd fs)) ∧
  ExTy K c ∧ PySem.W.kitOne K (.ref c) cv = some b ∧ Q (.bl b) H
section
variable {X : Cx}
theorem call_isX : CallR X (.builtin "isinstance") (rIsX X.K) := by
  intro pins s σ H xs us Q I r h
  obtain ⟨a, c, dd, c2, cv, b, rfl, hcv, ea, ed, C, e, q⟩ := h
  obtain ⟨u1, u2, rfl, r1, r2⟩ := vals2 r
  obtain rfl : u1 = Value.ref a := r1
  have e2 := hcv _ r2
  subst e2
  obtain ⟨⟨oe, vs, e1, e2, e3, e4⟩, _⟩ := (show ObjOk X.prog X.w H s.heap a (exq a (.ref c) dd) from I.hok a _ ea)
  cases dd with
  | none =>
    have J : PySem.W.InstAt s.heap a oe c none := ⟨e1, e2, by unfold PySem.W.notCls; rw [e4] <;> rfl, by rw [e3]; trivial⟩
    exact PySem.W.kia_one (PySem.W.kitx_exc C.cl C.ga C.gg C.sb C.ha C.hn C.ht C.hm) I.kIn J e (fun z => nomatch z) fun tk => ⟨.bl b, H, I.tok tk, rfl, q⟩
  | some x =>
    obtain ⟨fs, ex⟩ := ed x rfl
    obtain ⟨mA, hns, hr⟩ := (show ObjOk X.prog X.w H s.heap x (.xd fs) from I.hok x _ ex)
    obtain ⟨od, ho, hl⟩ := lookIn_ns hns
    have J : PySem.W.InstAt s.heap a oe c (some od) := ⟨e1, e2, by unfold PySem.W.notCls; rw [e4] <;> rfl, by rw [e3]; exact ho⟩
    exact PySem.W.kia_one (PySem.W.kitx_exc C.cl C.ga C.gg C.sb C.ha C.hn C.ht C.hm) I.kIn J e (fun z => nomatch z) fun tk => ⟨.bl b, H, I.tok tk, rfl, q⟩
end
/-- the classes whose instances may be asked: Es exceptions', Os objects'; g: the answer -/
def fIsaC (Es Os : List Nat) (non : Bool) (g : Nat → Bool) (f : En → Res R) (env : En) : Res R := (f env).bind fun x => match x.d with
  | .ex0 C => if C ∈ Es then .ok (.sh (.bl (g C))) else .bad
  | .ex1 C _ => if C ∈ Es then .ok (.sh (.bl (g C))) else .bad
  | .obj C _ => if C ∈ Os then .ok (.sh (.bl (g C))) else .bad
  | .non => if non = true then .ok (.sh (.bl false)) else .bad
  | _ => .bad
structure IsOk (K : PySem.W.Frag) (Es Os : List Nat) (non : Bool) (g : Nat → Bool) (cv : Value) : Prop where
  e : ∀ C ∈ Es, ∀ c, clsA K C = some c → ExTy K c ∧ PySem.W.kitOne K (.ref c) cv = some (g C)
  o : ∀ C ∈ Os, ∀ c, clsA K C = some c → ObTy K c ∧ PySem.W.kitOne K (.ref c) cv = some (g C)
  n : non = true → PySem.W.kitOne K (.type "NoneType") cv = some false
section
variable {X : Cx} {EX : L2.St → XK} {e e2 : Expr} {f : En → Res R} {p p2 pos : Pos} {Es Os : List Nat} {non : Bool} {g : Nat → Bool} {c2 : V} {cv : Value}
theorem ej_isaC (hgl : Gl X "isinstance") (hm : X.mg "isinstance" = none) (hv : bootBuiltins "isinstance" = some (.builtin "isinstance")) (pb : PE X e2 (tC c2)) (hcl : ClsV c2 cv) (K : IsOk X.K Es Os non g cv) (ha : EJ X EX e f)
    (he : starEach [e, e2] X.env = (false, eval e X.env) :: starEach [e2] X.env := by rfl) (he2 : starEach [e2] X.env = (false, eval e2 X.env) :: starEach [] X.env := by rfl)
    (hpl : (backTo pos (starEach [e2] X.env)).any (·.1) = false := by rfl) :
    EJ X EX (.Call (.Name "isinstance" p) [e, e2] [] pos) (fIsaC Es Os non g f) := by
  obtain ⟨t, pe, i⟩ := ha.ex
  refine ⟨⟨_, pe_callB (call_isi.or call_isX) hgl hm hv (pa_cons pe (pa_cons pb pa_nil he2) he) (by decide) (by decide) he hpl, fun B H0 O env σ H Q R q => ?_⟩⟩
  refine i B H0 O env σ H _ R (q.bind.mono (fun _ _ x => x) fun x q v H1 s r1 => ?_)
  split at q
  · rename_i C ex
    split at q
    · rename_i mem
      obtain ⟨c, a, h0, ev, h1⟩ := r1.ex0 ex
      obtain ⟨y1, y2⟩ := K.e C mem c h0
      exact .inr ⟨a, c, none, c2, cv, g C, by rw [ev], fun _ z => hcl.eq z, h1, fun _ z => (by cases z), y1, y2, q _ H1 s (Rp.bl _)⟩
    · exact q.elim
  · rename_i C tt ex
    split at q
    · rename_i mem
      obtain ⟨c, a, dd, u, h0, ev, h1, h2, _⟩ := r1.ex1 ex
      obtain ⟨y1, y2⟩ := K.e C mem c h0
      exact .inr ⟨a, c, some dd, c2, cv, g C, by rw [ev], fun _ z => hcl.eq z, h1, fun x z => (by cases z; exact ⟨_, h2⟩), y1, y2, q _ H1 s (Rp.bl _)⟩
    · exact q.elim
  · rename_i C fs ex
    split at q
    · rename_i mem
      obtain ⟨a, c, dx, us, h0, ev, h1, _, _⟩ := r1.obj ex
      obtain ⟨y1, y2⟩ := K.o C mem c h0
      exact .inl ⟨v, c2, .ref c, cv, g C, rfl, hcl, by rw [ev]; exact .base (.ins h1 y1.cl y1.ha y1.hn y1.ht y1.hm), y2, q _ H1 s (Rp.bl _)⟩
    · exact q.elim
  · rename_i ex
    split at q
    · rename_i hnon
      exact .inl ⟨v, c2, .type "NoneType", cv, false, rfl, hcl, by rw [r1.non ex]; exact .base .non, K.n hnon, q _ H1 s (Rp.bl _)⟩
    · exact q.elim
  · exact q.elim
end
end Tr
namespace Tr
open PySem L2
open L2H (RoomH roomH_of)
theorem roomW {k : Nat} {A : Around} (r : Room k A) (h : Option Value) : RoomH k (A.mark h) := ⟨r.dp, r.un⟩

/-! ### defs that run while an exception is handled (they raise nothing themselves) -/
structure FnW (P : Program) (w : World) (K : PySem.W.Frag) (mg : Str → Option Value) (base : Heap) (k : Nat) (f : Addr) (fd : FuncData) (ps : List Str) (sp : Sp) : Prop where
  len : ∀ vs H Q E, sp vs H Q E → vs.length = ps.length
  go : ∀ (A : Around) (outer : List Env) (s : Shared) (H : Hp) (args : Args) (us : List Value) (vs : List V) (Q : VK) (E : XK), RoomH k A → Env0 P w K mg base A outer s H → BindsTo s fd args (ps.zip us) → Vals vs us → sp vs H Q E →
    PySem.codeAny (model P w) A (.call (.ref f) args) (CR (L2.CX P w) outer P w H s Q E) s
/-- the context of such a def's body -/
abbrev cxW (P : Program) (w : World) (K : PySem.W.Frag) (mg : Str → Option Value) (base : Heap) (N : List Str) (qual : Str) (scope : Scope) (f : Addr) (cd : Value) (A : Around) (outer : List Env) (s : Shared) (H : Hp) (E : XK) : Cx :=
  { cxOf (L2.CX P w) P w K mg base N qual scope f cd A outer s H E with calm := false }
section
variable {P : Program} {w : World} {K : PySem.W.Frag} {mg : Str → Option Value} {base : Heap}
/-- out of the context where nothing is handled -/
theorem inv_toW {N : List Str} {qual : Str} {scope : Scope} {f : Addr} {cd : Value} {A : Around} {outer : List Env} {s s1 : Shared} {H H1 : Hp} {E : XK} {σ : L2.St}
    (I : Inv (cxOf (L2.CX P w) P w K mg base N qual scope f cd { A with handled := none } outer s H E) [] σ H1 s1) (fr : A.frames = some outer) : Inv (cxW P w K mg base N qual scope f cd A outer s H E) [] σ H1 s1 := by
  have o := I.ok
  exact ⟨⟨o.mod, o.kind, o.glob, o.blt, o.above, o.inj, o.has, o.cab, (fun z => Bool.noConfusion z), Around.frames_deeper fr, o.stk, o.exf, o.bs, o.bsz, o.noex, o.exfs, o.funs, o.frf⟩, I.os, I.bare, I.base, I.loc, I.cell, I.free, I.freeC, I.pin, I.hok, I.len⟩
theorem fnW_of {x qual : Str} {st : Stmt} {f : Addr} {fd : FuncData} {N ps : List Str} {k : Nat} {sp : Sp} (F : Fun K x qual st f fd) (S : FnScope N ps (defScope st)) (len : ∀ vs H Q E, sp vs H Q E → vs.length = ps.length)
    (hb : ∀ (cdv : Value) (A : Around) (outer : List Env) (s : Shared) (H : Hp) (vs : List V) (Q : VK) (E : XK), RoomH k (A.deeper (PyProof.Rows.envOfC qual (defScope st) s.heap.objs.size f cdv)) → sp vs H Q E →
      ∃ t, PSs (cxW P w K mg base N qual (defScope st) f cdv A outer s H E) (defBody st) t ∧ t { nx := fun _ H' => Q .non H', rt := Q } (L2.start N vs) H) : FnW P w K mg base (k + 1) f fd ps sp := by
  obtain ⟨oc, od, kV, doc, pm, an, cdv, ct, osl, rfl, lk, hcd⟩ := F.ex
  constructor
  · exact len
  · intro A outer s H args us vs Q E hr e0 hbd r hsp
    have old : ∀ b o, base.get? b = some o → s.heap.get? b = some o := fun b o e => (e0.bs b o e).1
    have kin : K.In s.heap := e0.mod.kin.keeps old
    have nol : s.heap.NoLimit := e0.mod.nolimit.keeps old
    have kinds : ∀ y ∈ ps.zip us, (defScope st).names.lookup y.1 = some .local ∨ ((defScope st).names.lookup y.1 = some .cell ∧ ((PySem.cellsFrom (s.heap.objs.size + 1) (defScope st).names []).lookup y.1).isSome = true) := by
      rintro ⟨n, v⟩ hy
      exact (S.par n (List.of_mem_zip hy).1).imp id fun q => ⟨q, PySem.W.cellsFrom_some _ _ _ (.inl q)⟩
    apply PySem.codeAny_call_function hr.depth (kin _ _ lk) rfl S.co S.gen rfl (PySem.W.codeRec_of kin hcd)
    apply hbd
    apply PySem.wpAny_newFunctionEnv_cells S.kind kinds
    intro env he s1 x
    subst he
    refine ⟨nol.keeps x.toInCall.keep, PySem.codeAny_func ?_⟩
    obtain ⟨t, ht, hq⟩ := hb cdv A outer s H vs Q E (hr.deeper _) hsp
    have e1 : Env0 P w K mg base { A with handled := none } outer s H := ⟨e0.frames, e0.mod, e0.bs, e0.bsz, e0.funs, e0.frf, e0.hok, e0.bare⟩
    have I := inv_toW (inv_start (CX := L2.CX P w) (E := E) S (A := { A with handled := none }) rfl e1 (len _ _ _ _ hsp) r x) e0.frames
    apply PySem.wpAny_mono (ht.run [] s1 (L2.start N vs) H _ I hq)
    · rintro (_ | _ | _ | u) s' z
      · obtain ⟨σ', H', J, q⟩ := z
        exact ⟨.non, H', J.os, J.bare, J.base, J.hok, rfl, q⟩
      all_goals first
        | (obtain ⟨v, σ', H', J, rv, q⟩ := z
           exact ⟨v, H', J.os, J.bare, J.base, J.hok, rv, q⟩)
        | (obtain ⟨_, _, _, q⟩ := z
           exact q.elim)
    · exact fun _ _ z => z

theorem fn_TW {x qual : Str} {st : Stmt} {f : Addr} {fd : FuncData} {N ps : List Str} {k n m : Nat} {body : En → Out} (F : Fun K x qual st f fd) (S : FnScope N ps (defScope st)) (hn : ps.length = n) (hm : N.length = m)
    (hb : ∀ (cdv : Value) (A : Around) (outer : List Env) (s : Shared) (H : Hp) (E : XK), RoomH k (A.deeper (PyProof.Rows.envOfC qual (defScope st) s.heap.objs.size f cdv)) →
      SsJ (cxW P w K mg base N qual (defScope st) f cdv A outer s H E) (fun _ => E) (defBody st) body) :
    FnW P w K mg base (k + 1) f fd ps (SpT K n (runF m body)) := by
  subst hn hm
  refine fnW_of F S (fun vs H Q E h => ?_) (fun cdv A outer s H vs Q E hr h => ?_)
  · obtain ⟨ds, X, _, h2, h3, _⟩ := h
    rw [← h2.1, h3]
  · obtain ⟨ds, X, h1, h2, h3, p⟩ := h
    obtain ⟨t, ps', i⟩ := (hb cdv A outer s H E hr).ex
    refine ⟨t, ps', ?_⟩
    have hpl : ps.length ≤ N.length := by have z := congrArg List.length S.pre; rw [List.length_take] at z; omega
    have z0 : Rel K ⟨X.p, none, N.length, X.cs, H, false⟩ H (List.replicate N.length none) (ds.map Sl.fz ++ List.replicate (N.length - (ds.map Sl.fz).length) .no) (L2.start N vs) H := rel_start (n := N.length) h1 (.fz h2) (by simp; omega)
    rw [List.length_map] at z0
    refine i _ H _ _ _ H _ z0 ?_
    unfold runF Out.res at p
    split at p
    · rename_i e q
      rw [q]
      exact fun O' σ' H' R' _ => p .non H' R'.same (Rp.non)
    · exact p.elim
    · rename_i r nv q
      rw [q]
      refine ⟨.inl rfl, ?_, p⟩
      cases r with
      | vw d => exact (nv d rfl).elim
      | _ => rfl
    · rename_i e c pl q
      rw [q]
      exact fun O' σ' H' d a ea R' _ x => p H' d a ea R'.same (by
        cases pl with
        | none => exact x
        | some t =>
          obtain ⟨a, v, z1, z2, z3⟩ := x
          exact ⟨a, v, z1, z2, z3.anti (fun b zb => .inl zb) fun k a e => (R'.cs0 rfl).symm.trans e⟩)
    · exact p.elim
end
/-- a def that may be called there -/
structure CalW (P : Program) (w : World) (K : PySem.W.Frag) (mg : Str → Option Value) (base : Heap) (x : Str) (k n : Nat) (F : List T → Res R) : Prop where
  ex : ∃ (f : Addr) (fd : FuncData) (ps : List Str), mg x = some (.ref f) ∧ PySem.W.keepIn K (.ref f) = true ∧ Binds K fd ps [] ∧ FnW P w K mg base k f fd ps (SpT K n F)
section
variable {X : Cx} {EX : L2.St → XK} {e : Expr} {es : List Expr} {g : En → Res (List R)} {F : List T → Res R} {j k n : Nat} {x : Str} {p pos : Pos}
theorem ej_calW (C : CalW X.prog X.w X.K X.mg X.base x j n F) (hr : RoomH k X.A) (hjk : j ≤ k) (hx : ∀ σ, PassesAt (L2.CX X.prog X.w) X σ (EX σ)) (hg : Gl X x)
    (ha : AJ X EX (e :: es) g) (hn : ∀ env rs, g env = .ok rs → rs.length = n) (hdb : (x == ("__debug__" : Str)) = false := by decide) (he : starEach (e :: es) X.env = (false, eval e X.env) :: starEach es X.env := by rfl) (hpl : (backTo pos (starEach es X.env)).any (·.1) = false := by rfl) :
    EJ X EX (.Call (.Name x p) (e :: es) [] pos) (fCall F g) := by
  obtain ⟨f, fd, ps, h1, h2, h3, h4⟩ := C.ex
  obtain ⟨t, pa, i⟩ := ha.ex
  have pc : PE X (.Call (.Name x p) (e :: es) [] pos) (tCallS (SpT X.K n F) EX t) := by
    constructor
    intro pins s σ H Q I h
    apply PySem.wpAny_Call_Name_kw (ld_glob I hg h1 ?_ hdb)
    apply PySem.W.callWith_K (h₀ := X.base) I.ok.mod.kin h2 (thn (pa.run pos pins s σ H _ I h) fun us s1 ⟨vs, H1, I1, r, q⟩ => ⟨I1.kIn, ?_⟩) he hpl
    have hl : us.length = ps.length := by rw [← r.length]; exact h4.len _ _ _ _ q
    have b := h3 s1 us I1.kIn (by rw [List.append_nil]; exact hl)
    rw [List.append_nil] at b
    apply PySem.wpAny_call (PySem.codeAny_mono (h4.go X.A X.stack s1 H1 ⟨us, []⟩ us vs Q (EX σ) ⟨by have := hr.dp; omega, by have := hr.un; omega⟩ I1.env0 b r q) ?_)
    rintro (er | fl) s' z
    · exact hx σ pins H1 s1 er s' I1 z
    · cases fl with
      | ret u => exact I1.after z
      | next => exact z.elim
      | brk => exact z.elim
      | cont => exact z.elim
  refine ⟨⟨_, pc, fun B H0 O env σ H Q R q => ?_⟩⟩
  have q' : Post (XC X.K B O EX σ H) (fun rs => g env = .ok rs ∧ Post (XC X.K B O EX σ H) (fun r => ∀ v H', Same H H' → RR X.K B O H H' r v → Q v H') (callR F rs)) (g env) := by
    have z := q.bind
    cases eg : g env with
    | ok rs => rw [eg] at z; exact ⟨rfl, z⟩
    | exc c p => rw [eg] at z; exact z
    | bad => rw [eg] at z; exact z
  refine i B H0 O env σ H _ R (q'.mono (fun _ _ x => x) fun rs z vs H1 s r1 => ?_)
  exact call_core R s r1 (hn env rs z.1) z.2
end

/-! ### for the generated terms -/
section
variable {A : Around} {k : Nat}
theorem hu65W (hr : RoomH k A) : A.units + 65 < cLine := by have := hr.un; omega
theorem hu64W (hr : RoomH k A) : A.units + 64 < cLine := by have := hr.un; omega
theorem hu1W (hr : RoomH k A) : A.units + 1 < cLine := by have := hr.un; omega
end
/-- a class that an except clause names -/
structure HdOk (K : PySem.W.Frag) (mg : Str → Option Value) (Cs : List Nat) (x : Str) (D : Nat) : Prop where
  ex : ∃ d : Addr, clsA K D = some d ∧ mg x = some (.ref d) ∧ ∀ C ∈ Cs, ∀ c, clsA K C = some c → PySem.W.exmOne K (.ref c) (.ref d) = some (subC C D)
theorem hd_one {X : Cx} {Cs : List Nat} {x : Str} {D : Nat} {n : Option Str} {nm : Option Nat} {f : En → Out} {b₀ : Stmt} {suite : List Stmt} {np pos' : Pos} {hds : List ExceptHandler} {l : List Hd} (h : HdOk X.K X.mg Cs x D) (hg : Gl X x) (hn : NmOk X n nm)
    (hsu : ∀ (a : Addr) (pn : List (Addr × Obj)), SsJ (X.suite a pn) EX0 (b₀ :: suite) f) (r : HdJ X Cs hds l) (hdb : (x == ("__debug__" : Str)) = false := by decide) :
    HdJ X Cs (.ExceptHandler (some (.Name x np)) n (b₀ :: suite) pos' :: hds) (([D], nm, f) :: l) := by
  obtain ⟨d, h1, h2, h3⟩ := h.ex
  exact .one h1 ⟨hg, hdb, .inl h2⟩ h3 hn hsu r
/-- a class that isinstance names -/
structure IsD (K : PySem.W.Frag) (mg : Str → Option Value) (Es Os : List Nat) (non : Bool) (x : Str) (D : Nat) : Prop where
  ex : ∃ d : Addr, mg x = some (.ref d) ∧ IsOk K Es Os non (fun C => subC C D) (.ref d)
section
variable {X : Cx} {EX : L2.St → XK} {e : Expr} {f : En → Res R} {p p2 pos : Pos} {Es Os : List Nat} {non : Bool} {x : Str} {D : Nat}
theorem ej_isaO (h : IsD X.K X.mg Es Os non x D) (hgl : Gl X "isinstance") (hm : X.mg "isinstance" = none) (hg2 : Gl X x) (ha : EJ X EX e f) (hdb : (x == ("__debug__" : Str)) = false := by decide)
    (he : starEach [e, .Name x p2] X.env = (false, eval e X.env) :: starEach [.Name x p2] X.env := by rfl) (he2 : starEach [.Name x p2] X.env = (false, eval (.Name x p2) X.env) :: starEach [] X.env := by rfl)
    (hpl : (backTo pos (starEach [.Name x p2] X.env)).any (·.1) = false := by rfl) :
    EJ X EX (.Call (.Name "isinstance" p) [e, .Name x p2] [] pos) (fIsaC Es Os non (fun C => subC C D) f) := by
  obtain ⟨d, h1, h2⟩ := h.ex
  exact ej_isaC hgl hm (by decide +kernel) (c2 := .ref d) (pe_glob hg2 h1 rfl hdb) (.own d) h2 ha he he2 hpl
theorem ej_isaV (h : IsOk X.K Es [] false (fun _ => true) (.type "ValueError")) (hgl : Gl X "isinstance") (hm : X.mg "isinstance" = none) (hg2 : Gl X "ValueError") (hm2 : X.mg "ValueError" = none) (ha : EJ X EX e f)
    (he : starEach [e, .Name "ValueError" p2] X.env = (false, eval e X.env) :: starEach [.Name "ValueError" p2] X.env := by rfl) (he2 : starEach [.Name "ValueError" p2] X.env = (false, eval (.Name "ValueError" p2) X.env) :: starEach [] X.env := by rfl)
    (hpl : (backTo pos (starEach [.Name "ValueError" p2] X.env)).any (·.1) = false := by rfl) :
    EJ X EX (.Call (.Name "isinstance" p) [e, .Name "ValueError" p2] [] pos) (fIsaC Es [] false (fun _ => true) f) :=
  ej_isaC hgl hm (by decide +kernel) (c2 := .ty "ValueError") (pe_bltn hg2 hm2 (by decide +kernel) rfl) (.ty _) h ha he he2 hpl
end
theorem clsA_of {K : PySem.W.Frag} {C : Nat} {n : Str} {c : Addr} (h : cNames[C]? = some n) (g : PySem.W.nsIn K mainGlobals n = some (some (.ref c))) : clsA K C = some c := by
  unfold clsA
  rw [h]
  show refO (PySem.W.nsIn K mainGlobals n) = some c
  rw [g]
  rfl
theorem at_of {K : PySem.W.Frag} {C : Nat} {c : Addr} {f : Str} (e : clsA K C = some c) (h : Cls K c) (n : NoAttr K c f) : AtOk K f C := ⟨fun _ e' => by rw [e] at e'; cases e'; exact h, fun _ e' => by rw [e] at e'; cases e'; exact n⟩
/-- of one class: for all that bear its number -/
theorem all_cls {K : PySem.W.Frag} {C : Nat} {c : Addr} {P : Addr → Prop} (e : clsA K C = some c) (h : P c) : ∀ c', clsA K C = some c' → P c' := fun _ e' => by rw [e] at e'; cases e'; exact h
theorem mem_nil {P : Nat → Prop} : ∀ C ∈ ([] : List Nat), P C := fun _ h => nomatch h
theorem mem_cons {P : Nat → Prop} {c : Nat} {l : List Nat} (h : P c) (r : ∀ C ∈ l, P C) : ∀ C ∈ c :: l, P C := fun C m => by
  rcases List.mem_cons.mp m with e | m
  · rw [e]; exact h
  · exact r C m
end Tr
namespace Tr
open PySem L2

/-! ### comparing what is not all plain data: surely alike -/
def all2 (f : T → T → Bool) : List T → List T → Bool
  | [], [] => true
  | a :: l, b :: m => f a b && all2 f l m
  | _, _ => false
def deqT : Nat → T → T → Bool
  | 0, _, _ => false
  | n + 1, t, u => (T.pd n t && T.pd n u && teq t u) || (match t, u with
    | .dik [], .dik [] => true
    | .lst l, .lst m => all2 (deqT n) l m
    | .tup l, .tup m => all2 (deqT n) l m
    | _, _ => false)
/-- x != y, x and y lists -/
def neR2 (x y : R) : Res R := match x.d, y.d with
  | .lst l, .lst m => if l.length ≠ m.length then .ok (.sh (.bl true)) else if all2 (deqT 8) l m = true then .ok (.sh (.bl false)) else .bad
  | _, _ => .bad
theorem all2_get {f : T → T → Bool} : ∀ {l m : List T}, all2 f l m = true → l.length = m.length ∧ ∀ (i : Nat) (t u : T), l[i]? = some t → m[i]? = some u → f t u = true
  | [], [], _ => ⟨rfl, fun i t u a => by simp at a⟩
  | a :: l, b :: m, h => by
    have h' : (f a b && all2 f l m) = true := h
    rw [Bool.and_eq_true] at h'
    obtain ⟨e, g⟩ := all2_get h'.2
    refine ⟨by simp [e], fun i t u p q => ?_⟩
    cases i with
    | zero => simp at p q; rw [← p, ← q]; exact h'.1
    | succ i => exact g i t u (by simpa using p) (by simpa using q)
  | [], _ :: _, h => by cases h
  | _ :: _, [], h => by cases h
section
variable {X : Cx} {pins : List (Addr × Obj)} {σ : L2.St} {H : Hp} {s : Shared}
theorem all_true {n : Nat} : (List.range n).all (fun _ => true) = true := by simp
open PySem.SeqAt in
theorem deq_at (I : Inv X pins σ H s) : ∀ (n : Nat) (t u : T), deqT n t u = true → ∀ (B B' : Xs) (v w : V) (v' w' : Value), Rp X.K H B t v → Rp X.K H B' u w → RelV v v' → RelV w w' → ∀ A : Around, A.units + n < cLine → EqAt A s v' w' true
  | 0, _, _, h => by cases h
  | n + 1, t, u, h => by
    intro B B' v w v' w' rt ru rv rw' A hu
    unfold deqT at h
    rw [Bool.or_eq_true] at h
    rcases h with h | h
    · rw [Bool.and_eq_true, Bool.and_eq_true] at h
      obtain ⟨⟨h1, h2⟩, h3⟩ := h
      obtain ⟨d1, c1, e1⟩ := rt.plain n h1
      obtain ⟨d2, c2, e2⟩ := ru.plain n h2
      obtain ⟨as, r1⟩ := Dp.reads I _ _ _ d1 rv
      obtain ⟨bs, r2⟩ := Dp.reads I _ _ _ d2 rw'
      have z := eqAt_reads _ _ A s _ _ _ _ r1 r2 c1 c2 (by have := Nat.min_le_left t.toD.depth u.toD.depth; omega)
      have h3' : PyData.eqv t.toD u.toD = true := h3
      rw [h3'] at z
      exact z
    · split at h
      · cases rt with
        | @dik a ts us ea _ ek _ _ =>
          cases ru with
          | @dik b ts2 us2 eb _ ek2 _ _ =>
            have z1 : us = [] := by cases us with
              | nil => rfl
              | cons _ _ => simp at ek
            have z2 : us2 = [] := by cases us2 with
              | nil => rfl
              | cons _ _ => simp at ek2
            subst z1 z2
            cases (show v' = Value.ref a from rv)
            cases (show w' = Value.ref b from rw')
            by_cases e : a = b
            · subst e; exact EqAt.same _
            · obtain ⟨_, na, xa, ka, da⟩ := (show ObjOk X.prog X.w H s.heap a (.dK []) from I.hok a _ ea)
              obtain ⟨_, nb, xb, kb, db⟩ := (show ObjOk X.prog X.w H s.heap b (.dK []) from I.hok b _ eb)
              have xa0 : xa = [] := by cases ka; rfl
              have xb0 : xb = [] := by cases kb; rfl
              subst xa0 xb0
              have any : ∀ {c : Addr}, s.heap.DictOf (mixKind X.prog X.w) c [] → ∀ (prog : Program) (w : World), s.heap.DictOf (mixKind prog w) c [] := fun {c} q prog w => by
                obtain ⟨o, es, ep, h1, h2, h3, h4, h5, h6⟩ := q
                have z : es.toList = [] := by
                  have := h5.length
                  cases q : es.toList with
                  | nil => rfl
                  | cons _ _ => rw [q] at this; simp at this
                refine ⟨o, es, ep, h1, h2, h3, ?_, ?_, h6⟩
                · have z2 : es = #[] := by cases es; simp at z; rw [z]
                  subst z2
                  intro i hi
                  exact absurd hi (by simp)
                · rw [z]; exact .nil
              refine EqAt.of_refs e fun prog w E Q hq => ?_
              exact PySem.W.rcP_dicts (knd := mixKind prog w) (r := true) na nb (any da prog w) (any db prog w) (by omega) (fun _ => .nil) E Q (by simpa using hq)
      · rename_i l m
        obtain ⟨hl, hg⟩ := all2_get h
        cases rt with
        | @lst a ts us ea _ el es =>
          cases ru with
          | @lst b ts2 us2 eb _ el2 es2 =>
            cases (show v' = Value.ref a from rv)
            cases (show w' = Value.ref b from rw')
            by_cases e : a = b
            · subst e; exact EqAt.same _
            · obtain ⟨i1, v1, ⟨o1, n1, q1, q2, q3, q4⟩, _⟩ := I.list (SqL.of ea : SqL X.K H a us)
              obtain ⟨i2, v2, ⟨o2, n2, p1, p2, p3, p4⟩, _⟩ := I.list (SqL.of eb : SqL X.K H b us2)
              have s1 : i1.toArray.size = i2.toArray.size := by
                have a1 := v1.length
                have a2 := v2.length
                simp
                omega
              have z := RcAt.lists (A := A) (e := fun _ => true) (s := s) (l := a) (b := b) ⟨o1, q1, q2, n1, q4⟩ ⟨o2, p1, p2, n2, p4⟩ s1 (by omega) fun j h1 h2 => by
                have h1' : j < i1.length := by simpa using h1
                have h2' : j < i2.length := by simpa using h2
                have y1 : j < us.length := by rw [v1.length]; exact h1'
                have y2 : j < us2.length := by rw [v2.length]; exact h2'
                have y3 : j < l.length := by omega
                have y4 : j < m.length := by omega
                obtain ⟨w1, x1, x2⟩ := v1.get (List.getElem?_eq_getElem y1)
                obtain ⟨w2, x3, x4⟩ := v2.get (List.getElem?_eq_getElem y2)
                rw [List.getElem?_eq_getElem h1'] at x1
                rw [List.getElem?_eq_getElem h2'] at x3
                cases x1
                cases x3
                have hd := hg j _ _ (List.getElem?_eq_getElem y3) (List.getElem?_eq_getElem y4)
                have := deq_at I n _ _ hd _ _ _ _ _ _ (es j _ _ (List.getElem?_eq_getElem y3) (List.getElem?_eq_getElem y1)) (es2 j _ _ (List.getElem?_eq_getElem y4) (List.getElem?_eq_getElem y2)) x2 x4 A.in1 (by show A.units + 1 + n < cLine; omega)
                simpa using this
              rw [all_true] at z
              exact EqAt.of_refs e z
      · rename_i l m
        obtain ⟨hl, hg⟩ := all2_get h
        cases rt with
        | @tup a ts us ea _ el es =>
          cases ru with
          | @tup b ts2 us2 eb _ el2 es2 =>
            cases (show v' = Value.ref a from rv)
            cases (show w' = Value.ref b from rw')
            by_cases e : a = b
            · subst e; exact EqAt.same _
            · obtain ⟨i1, v1, ⟨o1, q1, q2, n1, q3⟩, _⟩ := I.tuple (SqT.of ea : SqT X.K H a us)
              obtain ⟨i2, v2, ⟨o2, p1, p2, n2, p3⟩, _⟩ := I.tuple (SqT.of eb : SqT X.K H b us2)
              have s1 : i1.toArray.size = i2.toArray.size := by
                have a1 := v1.length
                have a2 := v2.length
                simp
                omega
              have z := RcAt.tuples (A := A) (e := fun _ => true) (s := s) (l := a) (b := b) ⟨o1, q1, q2, n1, q3⟩ ⟨o2, p1, p2, n2, p3⟩ (by omega) fun j h1 h2 => by
                have h1' : j < i1.length := by simpa using h1
                have h2' : j < i2.length := by simpa using h2
                have y1 : j < us.length := by rw [v1.length]; exact h1'
                have y2 : j < us2.length := by rw [v2.length]; exact h2'
                have y3 : j < l.length := by omega
                have y4 : j < m.length := by omega
                obtain ⟨w1, x1, x2⟩ := v1.get (List.getElem?_eq_getElem y1)
                obtain ⟨w2, x3, x4⟩ := v2.get (List.getElem?_eq_getElem y2)
                rw [List.getElem?_eq_getElem h1'] at x1
                rw [List.getElem?_eq_getElem h2'] at x3
                cases x1
                cases x3
                have hd := hg j _ _ (List.getElem?_eq_getElem y3) (List.getElem?_eq_getElem y4)
                have := deq_at I n _ _ hd _ _ _ _ _ _ (es j _ _ (List.getElem?_eq_getElem y3) (List.getElem?_eq_getElem y1)) (es2 j _ _ (List.getElem?_eq_getElem y4) (List.getElem?_eq_getElem y2)) x2 x4 A.in1 (by show A.units + 1 + n < cLine; omega)
                simpa using this
              rw [all_true, s1] at z
              exact EqAt.of_refs e (by simpa using z)
      · cases h
end
section
variable {X : Cx}
/-- two lists: of unlike lengths, or surely alike -/
def rNe2 (K : PySem.W.Frag) : R2 := fun x y H Q => ∃ (a b : Addr) (us ws : List V), x = .ref a ∧ y = .ref b ∧ SqL K H a us ∧ SqL K H b ws ∧
  ((us.length ≠ ws.length ∧ Q (.bl true) H) ∨ (∃ (l m : List T) (B B' : Xs), RpAll K H B l us ∧ RpAll K H B' m ws ∧ all2 (deqT 8) l m = true ∧ Q (.bl false) H))
open PySem.SeqAt in
theorem op_ne2 (hu : X.A.units + 64 < cLine) : OpR X (compareOp .NotEq) (rNe2 X.K) := by
  intro pins s σ H x y v u Q I rx ry h
  obtain ⟨a, b, us, ws, rfl, rfl, h1, h2, h⟩ := h
  obtain ⟨i1, v1, ⟨o1, n1, q1, q2, q3, q4⟩, _⟩ := I.list h1
  obtain ⟨i2, v2, ⟨o2, n2, p1, p2, p3, p4⟩, _⟩ := I.list h2
  cases (show v = Value.ref a from rx)
  cases (show u = Value.ref b from ry)
  have a1 := v1.length
  have a2 := v2.length
  rcases h with ⟨hne, q⟩ | ⟨l, m, B, B', rl, rm, hd, q⟩
  · exact RcNeAt.lists_lengths (A := X.A) ⟨o1, q1, q2, n1, q4⟩ ⟨o2, p1, p2, n2, p4⟩ (by simp; omega) (by omega) _ _ _ _ ⟨.bl true, H, I, rfl, q⟩
  · obtain ⟨hl, hg⟩ := all2_get hd
    have e1 := rl.1
    have e2 := rm.1
    refine RcNeAt.lists (A := X.A) (e := fun _ => true) ⟨o1, q1, q2, n1, q4⟩ ⟨o2, p1, p2, n2, p4⟩ (by simp; omega) (by omega) (fun j h1 h2 => ?_) _ _ _ _ ?_
    · have h1' : j < i1.length := by simpa using h1
      have h2' : j < i2.length := by simpa using h2
      have y1 : j < us.length := by omega
      have y2 : j < ws.length := by omega
      have y3 : j < l.length := by omega
      have y4 : j < m.length := by omega
      obtain ⟨w1, x1, x2⟩ := v1.get (List.getElem?_eq_getElem y1)
      obtain ⟨w2, x3, x4⟩ := v2.get (List.getElem?_eq_getElem y2)
      rw [List.getElem?_eq_getElem h1'] at x1
      rw [List.getElem?_eq_getElem h2'] at x3
      cases x1
      cases x3
      have hd := hg j _ _ (List.getElem?_eq_getElem y3) (List.getElem?_eq_getElem y4)
      have := deq_at I 8 _ _ hd _ _ _ _ _ _ (rl.2 j _ _ (List.getElem?_eq_getElem y3) (List.getElem?_eq_getElem y1)) (rm.2 j _ _ (List.getElem?_eq_getElem y4) (List.getElem?_eq_getElem y2)) x2 x4 X.A.in1 (by show X.A.units + 1 + 8 < cLine; omega)
      simpa using this
    · rw [all_true]
      exact ⟨.bl false, H, I, rfl, q⟩
theorem opi_ne2 : OpI X (rNe2 X.K) neR2 := by
  intro B H0 O env σ Hs H x y v w Q xc R s rx ry p
  unfold neR2 at p
  split at p
  · rename_i l m e1 e2
    obtain ⟨a, us, ev, ea, ra⟩ := rx.lst e1
    obtain ⟨b, ws, ew, eb, rb⟩ := ry.lst e2
    refine ⟨a, b, us, ws, ev, ew, SqL.of ea, SqL.of eb, ?_⟩
    split at p
    · rename_i c
      exact .inl ⟨by rw [← ra.1, ← rb.1]; exact c, p _ H (Same.refl H) (Rp.bl _)⟩
    · split at p
      · rename_i c
        exact .inr ⟨l, m, _, _, ra, rb, c, p _ H (Same.refl H) (Rp.bl _)⟩
      · exact p.elim
  · exact p.elim
end
end Tr
namespace Tr
open PySem L2

/-! ### exceptions: what the combinators compute -/
section
variable {env e : En} {f g : En → Res R} {b : En → Out} {r : R} {c C : Nat} {p : Option T} {Cs Es Os : List Nat} {hs : List Hd}
@[simp] theorem fRs0_eq : fRs0 C env = .exc env C none := rfl
def Res.rs1 (a : Res R) (C : Nat) (env : En) : Out := a.out (fun r env => if r.kp = true then .exc env C (some r.d) else .bad) env
@[simp] theorem fRs1_eq : fRs1 C f env = (f env).rs1 C env := rfl
@[simp] theorem rs1_ok : (Res.ok r).rs1 C env = if r.kp = true then .exc env C (some r.d) else .bad := rfl
def tryO (Cs : List Nat) (hs : List Hd) (o : Out) : Out := match o with
  | .exc e c p => if c ∈ Cs then disp hs e c p else .bad
  | o => o
@[simp] theorem fTry_eq : fTry Cs hs b env = tryO Cs hs (b env) := rfl
@[simp] theorem tryO_nx : tryO Cs hs (.nx e) = .nx e := rfl
@[simp] theorem tryO_rt : tryO Cs hs (.rt r) = .rt r := rfl
@[simp] theorem tryO_exc : tryO Cs hs (.exc e c p) = if c ∈ Cs then disp hs e c p else .bad := rfl
def dispN (nm : Option Nat) (f : En → Out) (e : En) (c : Nat) (p : Option T) : Out := match nm with
  | none => hOut (f e)
  | some i => hOut ((f (e.set i (.fz (exT c p)))).onE fun e => e.set i .no)
@[simp] theorem disp_nil : disp [] e c p = .exc e c p := rfl
@[simp] theorem disp_cons (ds : List Nat) (nm : Option Nat) : disp ((ds, nm, b) :: hs) e c p = if ds.any (subC c) = true then dispN nm b e c p else disp hs e c p := rfl
@[simp] theorem dispN_none : dispN none b e c p = hOut (b e) := rfl
@[simp] theorem dispN_some (i : Nat) : dispN (some i) b e c p = hOut ((b (e.set i (.fz (exT c p)))).onE fun e => e.set i .no) := rfl
@[simp] theorem exT_none : exT c none = .ex0 c := rfl
@[simp] theorem exT_some (t : T) : exT c (some t) = .ex1 c t := rfl
@[simp] theorem hOut_nx : hOut (.nx e) = .nx e := rfl
@[simp] theorem hOut_rt : hOut (.rt r) = .rt r := rfl
def isaT (Es Os : List Nat) (non : Bool) (g : Nat → Bool) (t : T) : Res R := match t with
  | .ex0 C => if C ∈ Es then .ok (.sh (.bl (g C))) else .bad
  | .ex1 C _ => if C ∈ Es then .ok (.sh (.bl (g C))) else .bad
  | .obj C _ => if C ∈ Os then .ok (.sh (.bl (g C))) else .bad
  | .non => if non = true then .ok (.sh (.bl false)) else .bad
  | _ => .bad
def Res.isaC (a : Res R) (Es Os : List Nat) (non : Bool) (g : Nat → Bool) : Res R := a.bind fun x => isaT Es Os non g x.d
@[simp] theorem fIsaC_eq (non : Bool) (h : Nat → Bool) : fIsaC Es Os non h f env = (f env).isaC Es Os non h := rfl
@[simp] theorem isaC_ok (non : Bool) (h : Nat → Bool) : (Res.ok r).isaC Es Os non h = isaT Es Os non h r.d := rfl
@[simp] theorem isaT_ex0 (non : Bool) (h : Nat → Bool) : isaT Es Os non h (.ex0 C) = if C ∈ Es then .ok (.sh (.bl (h C))) else .bad := rfl
@[simp] theorem isaT_ex1 (non : Bool) (h : Nat → Bool) (t : T) : isaT Es Os non h (.ex1 C t) = if C ∈ Es then .ok (.sh (.bl (h C))) else .bad := rfl
@[simp] theorem isaT_obj (non : Bool) (h : Nat → Bool) (fs : List (Str × T)) : isaT Es Os non h (.obj C fs) = if C ∈ Os then .ok (.sh (.bl (h C))) else .bad := rfl
@[simp] theorem isaT_non (non : Bool) (h : Nat → Bool) : isaT Es Os non h .non = if non = true then .ok (.sh (.bl false)) else .bad := rfl
def atXT (Cs : List Nat) (t : T) : Res R := match t with
  | .ex1 C t => if C ∈ Cs then .ok (.sh t) else .bad
  | _ => .bad
def Res.atX (a : Res R) (Cs : List Nat) : Res R := a.bind fun x => atXT Cs x.d
@[simp] theorem fAtX_eq : fAtX Cs f env = (f env).atX Cs := rfl
@[simp] theorem atX_ok : (Res.ok r).atX Cs = atXT Cs r.d := rfl
@[simp] theorem atXT_ex1 (t : T) : atXT Cs (.ex1 C t) = if C ∈ Cs then .ok (.sh t) else .bad := rfl
theorem subC_self (c : Nat) : subC c c = true := by simp [subC]
@[simp] theorem atX_bad : (Res.bad : Res R).atX Cs = .bad := rfl
end
section
/-! ### comparing lists of more -/
def neT2 (x y : T) : Res R := neR2 (.sh x) (.sh y)
@[simp] theorem neR2_eq (x y : R) : neR2 x y = neT2 x.d y.d := rfl
@[simp] theorem neT2_lst (l m : List T) : neT2 (.lst l) (.lst m) = if l.length ≠ m.length then .ok (.sh (.bl true)) else if all2 (deqT 8) l m = true then .ok (.sh (.bl false)) else .bad := rfl
/-- what is surely like itself -/
def dq : Nat → T → Bool
  | 0, _ => false
  | n + 1, t => T.pd n t || (match t with
    | .dik [] => true
    | .lst l => l.all (dq n)
    | .tup l => l.all (dq n)
    | _ => false)
theorem all2_self {f : T → T → Bool} : ∀ {l : List T}, (∀ t ∈ l, f t t = true) → all2 f l l = true
  | [], _ => rfl
  | a :: l, h => by
    show (f a a && all2 f l l) = true
    rw [h a (by simp), all2_self fun t m => h t (by simp [m])]
    rfl
theorem deq_self : ∀ (n : Nat) (t : T), dq n t = true → deqT n t t = true
  | 0, _, h => by cases h
  | n + 1, t, h => by
    unfold dq at h
    unfold deqT
    rw [Bool.or_eq_true] at h ⊢
    rcases h with h | h
    · left; simp [h]
    · right
      split at h
      · rfl
      · rename_i l
        exact all2_self fun t m => deq_self n t (List.all_eq_true.mp h t m)
      · rename_i l
        exact all2_self fun t m => deq_self n t (List.all_eq_true.mp h t m)
      · cases h
end
end Tr
namespace Tr
open PySem L2
/-! ### C(..) and x.m(..), handed what is lent -/
theorem OwnRp.newB {K : PySem.W.Frag} {H : Hp} {X : Xs} {d : T} {ho : HO} {p : Addr} (h : OwnRp K H X d ho) (hp : H p = none) : OwnRp K H (X.add p) d ho := h.keep ⟨fun a o e n => ⟨e, fun z => z.elim n fun q => by rw [q, hp] at e; cases e⟩, fun _ _ e => e⟩
structure MakV (P : Program) (w : World) (K : PySem.W.Frag) (mg : Str → Option Value) (base : Heap) (x : Str) (C : Nat) (k n : Nat) (F : List Sl → Res (T × R)) : Prop where
  ex : ∃ (c f : Addr) (fd : FuncData) (ps : List Str), clsA K C = some c ∧ mg x = some (.ref c) ∧ Mk K c f ∧ Binds K fd ps [] ∧ FnOk P w K mg base (L2.CX P w) k f fd ps (SpMV K n F)
structure MetMV (P : Program) (w : World) (K : PySem.W.Frag) (mg : Str → Option Value) (base : Heap) (C : Nat) (m : Str) (k n : Nat) (F : List Sl → Res (T × R)) : Prop where
  ex : ∃ (c f : Addr) (fd : FuncData) (ps : List Str), clsA K C = some c ∧ Cls K c ∧ Meth K c m f ∧ Binds K fd ps [] ∧ FnOk P w K mg base (L2.CX P w) k f fd ps (SpMV K n F)
def mkVR (C : Nat) (F : List Sl → Res (T × R)) (rs : List R) : Res R := mkO (F (.sf (.obj C []) :: rs.map R.arg))
def fMkV (C : Nat) (F : List Sl → Res (T × R)) (ga : En → Res (List R)) (env : En) : Res R := (ga env).bind (mkVR C F)
/-- not the object in slot i -/
def R.off (i : Nat) : R → Bool
  | .bo j _ => decide (j ≠ i)
  | _ => true
def mcVS (C : Nat) (m : Str) (F : List Sl → Res (T × R)) (s : Option Sl) (a : Res (List R)) (i : Nat) (env : En) : Out := match obS s with
  | some (b, d) => if clT C m d = true then a.out (fun rs env => if rs.all (R.off i) = true then mcO i b (F (.sf d :: rs.map R.arg)) env else .bad) env else .bad
  | none => .bad
def fMcV (C : Nat) (m : Str) (i : Nat) (F : List Sl → Res (T × R)) (ga : En → Res (List R)) (env : En) : Out := mcVS C m F env[i]? (ga env) i env
section
variable {X : Cx} {EX : L2.St → XK} {e : Expr} {es : List Expr} {ga : En → Res (List R)} {F : List Sl → Res (T × R)} {j k n : Nat} {C : Nat} {c : Addr} {m x : Str} {p pos apos pos' pn : Pos}
theorem StAll.up {K : PySem.W.Frag} {Hl Hl' H H' : Hp} {Y Y' : Xs} : ∀ {sl : List Sl} {vs : List V}, StAll K Hl H Y sl vs → (∀ (s : Sl) (u : V), StOk K Hl H Y s u → s ∈ sl → StOk K Hl' H' Y' s u) → StAll K Hl' H' Y' sl vs := fun {sl vs} h g => ⟨h.1, fun i s u a b => g s u (h.2 i s u a b) (List.mem_of_getElem? a)⟩
theorem mkV_core {B H0 O env σ H H1} (ec : clsA X.K C = some c) {rs : List R} {vs : List V} {Q : VK} {x dx : Addr} (R0 : Rel X.K B H0 O env σ H) (s : Same H H1) (r : RRs X.K B O H H1 rs vs) (hn : rs.length + 1 = n) (nx : H1 x = none) (ndx : H1 dx = none) (ne : dx ≠ x)
    (q : Post (XC X.K B O EX σ H) (fun r => ∀ v H', Same H H' → RR X.K B O H H' r v → Q v H') (mkVR C F rs)) :
    SpMV X.K n F (.ref x :: vs) (upd (upd H1 dx (.own x)) x (.ins c dx [])) (fun v H2 => v = .non ∧ Q (.ref x) H2) (EX σ) := by
  unfold mkVR at q
  have ra := RRs.arg R0 r
  have s1 : Same H1 (upd (upd H1 dx (.own x)) x (.ins c dx [])) := fun b o e => by
    rw [upd_ne (ne_of_none e nx), upd_ne (ne_of_none e ndx)]; exact e
  have R1 := R0.mono s
  have nB : ¬ Ex B O x := R1.ex_new nx
  refine ⟨.obj C [], rs.map R.arg, Ex B O, x, .ins c dx [], vs, rfl, fun b z => ?_, upd_same, nB, .obj ec rfl .nil, ra.up fun sl u z m => ?_, by simpa using hn, ?_⟩
  · obtain ⟨o, e, nt⟩ := R1.ex_ntup z
    exact ⟨o, s1 _ _ e, nt⟩
  · cases sl with
    | fz d => exact (Rp.newB z nx).same s1
    | br d =>
      obtain ⟨a, ho, z1, z2, z3⟩ := z
      exact ⟨a, ho, z1, wo_ne (s1 _ _ z2) (ne_of_none z2 nx), (z3.newB nx).same s1⟩
    | _ => exact z.elim
  · have back : ∀ {H' : Hp}, (∀ b o, (upd (upd H1 dx (.own x)) x (.ins c dx [])) b = some o → b ≠ x → H' b = some o) → Same H H' := fun ag b o e => ag b o (s1 _ _ (s _ _ e)) (ne_of_none (s _ _ e) nx)
    cases ef : F (.sf (.obj C []) :: rs.map R.arg) with
    | ok z =>
      obtain ⟨d, r'⟩ := z
      rw [ef] at q
      intro v H' ho' ag h' ow rr
      cases r' with
      | sh dd =>
        cases dd with
        | non =>
          refine ⟨rp_non rr, q (.ref x) H' (back ag) ⟨x, ho', rfl, s.free nx, h', ow.anti fun b z => ?_⟩⟩
          exact z
        | _ => exact q.elim
      | _ => exact q.elim
    | exc c pl =>
      rw [ef] at q
      intro H' dd ca ea ag xx
      refine q H' dd ca ea (back ag) ?_
      cases pl with
      | none => exact xx
      | some t =>
        obtain ⟨a, v, z1, z2, z3⟩ := xx
        exact ⟨a, v, z1, z2, z3⟩
    | bad => rw [ef] at q; exact q.elim
theorem ej_mkV (M : MakV X.prog X.w X.K X.mg X.base x C j n F) (hr : Room k X.A) (hjk : j + 1 ≤ k) (hx : ∀ σ, PassesAt (L2.CX X.prog X.w) X σ (EX σ)) (hg : Gl X x) (ha : AJ X EX (e :: es) ga) (hn : ∀ env rs, ga env = .ok rs → rs.length + 1 = n)
    (hdb : (x == ("__debug__" : Str)) = false := by decide) (he : starEach (e :: es) X.env = (false, eval e X.env) :: starEach es X.env := by rfl) (hpl : (backTo pos (starEach es X.env)).any (·.1) = false := by rfl) :
    EJ X EX (.Call (.Name x p) (e :: es) [] pos) (fMkV C F ga) := by
  obtain ⟨cc, f, fd, ps, h0, h1, h2, h3, h4⟩ := M.ex
  obtain ⟨t, pa, i⟩ := ha.ex
  refine ⟨⟨_, pe_makeS h2 h4 (hr.mono hjk) hg h1 h3 hx pa hdb he hpl, fun B H0 O env σ H Q R q => ?_⟩⟩
  have q' : Post (XC X.K B O EX σ H) (fun rs => ga env = .ok rs ∧ Post (XC X.K B O EX σ H) (fun r => ∀ v H', Same H H' → RR X.K B O H H' r v → Q v H') (mkVR C F rs)) (ga env) := by
    have z := q.bind
    cases eg : ga env with
    | ok rs => rw [eg] at z; exact ⟨rfl, z⟩
    | exc c p => rw [eg] at z; exact z
    | bad => rw [eg] at z; exact z
  refine i B H0 O env σ H _ R (q'.mono (fun _ _ x => x) fun rs z vs H1 s r1 x dx nx ndx ne => ?_)
  exact mkV_core h0 R s r1 (hn env rs z.1) nx ndx ne z.2
theorem RRs.off {K : PySem.W.Frag} {B : Bs} {O : Ow} {H0 H H1 : Hp} {env : En} {σ : L2.St} {i : Nat} {a : Addr} (R0 : Rel K B H0 O env σ H) (h1 : O[i]? = some (some a)) : ∀ {rs : List R} {vs : List V}, RRs K B O H H1 rs vs → rs.all (R.off i) = true →
    StAll K (wo H1 a) H1 (Ex B O) (rs.map R.arg) vs
  | [], [], _, _ => ⟨rfl, fun i s u a => by simp at a⟩
  | r :: rs, v :: vs, h, o => by
    rw [List.all_cons, Bool.and_eq_true] at o
    obtain ⟨l, g⟩ := RRs.off R0 h1 h.2 o.2
    refine ⟨by simp [l], fun l s u a' b => ?_⟩
    cases l with
    | zero =>
      simp at a' b
      subst a' b
      cases r with
      | sh d => exact h.1
      | fr d => exact h.1.rp R0 rfl
      | bo l d =>
        obtain ⟨b, ho, e1, e2, e3, e4⟩ := h.1
        have ne : l ≠ i := of_decide_eq_true o.1
        exact ⟨b, ho, e2, wo_ne e3 (fun q => ne (R0.uniq l i a (q ▸ e1) h1)), e4⟩
      | vw d =>
        obtain ⟨b, ho, e1, e2, e3, e4⟩ := h.1
        exact ⟨b, ho, e2, wo_ne e3 (fun q => by
          have z := R0.lent _ _ e1
          rw [q, (R0.own i a h1).1] at z
          cases z), e4⟩
    | succ l => exact g l s u (by simpa using a') (by simpa using b)
  | [], _ :: _, h, _ => h.elim
  | _ :: _, [], h, _ => h.elim
theorem mcV_core {B H0 O env σ H H2} {rs : List R} {vs : List V} {i : Nat} {b : Bool} {d : T} {a : Addr} {ho : HO} {D : Ends} (R0 : Rel X.K B H0 O env σ H) (s : Same H H2) (hs : env[i]? = some (mkS b d)) (h1 : O[i]? = some (some a)) (h3 : H a = some ho) (h4 : OwnRp X.K H (Ex B O) d ho)
    (hr : StAll X.K (wo H2 a) H2 (Ex B O) (rs.map R.arg) vs) (hn : rs.length + 1 = n) (q : SPost X EX B H0 O H D (mcO i b (F (.sf d :: rs.map R.arg)) env)) : SpMV X.K n F (.ref a :: vs) H2 (fun _ H' => D.nx σ H') (EX σ) := by
  have R2 := R0.mono s
  have xa : Ex B O a := .inr ⟨i, h1⟩
  have bl := xs_less xa
  refine ⟨d, rs.map R.arg, (Ex B O).less a, a, ho, vs, rfl, fun b z => R2.ex_ntup z.1, s _ _ h3, fun z => z.2 rfl, (h4.same s).anti fun b z => (bl b).mp z, hr.up fun sl u z m => ?_, by simpa using hn, ?_⟩
  · cases sl with
    | fz d => exact Rp.anti z fun b z => (bl b).mp z
    | br d =>
      obtain ⟨a, ho, z1, z2, z3⟩ := z
      exact ⟨a, ho, z1, z2, z3.anti fun b z => (bl b).mp z⟩
    | _ => exact z.elim
  cases ef : F (.sf d :: rs.map R.arg) with
  | ok r =>
    obtain ⟨d', r'⟩ := r
    rw [ef] at q
    intro v H' ho' ag h' ow _
    obtain ⟨R3, k3⟩ := R2.swap hs h1 ag h' (ow.anti fun b z => (bl b).mpr z)
    exact q O σ H' R3 ((Same.keepB s).trans k3)
  | exc c pl =>
    rw [ef] at q
    intro H' dd ca ea ag x
    have hi : i < env.length := (List.getElem?_eq_some_iff.mp hs).1
    obtain ⟨R3, k3⟩ := R2.lost (d := d) hi h1 ag
    refine q _ σ H' dd ca ea R3 ((Same.keepB s).trans k3) ?_
    have sub : ∀ b, Ex B (O.set i none) b → (Ex B O).less a b := fun b z => by
      refine ⟨?_, ?_⟩
      · rcases z with z | ⟨l, z⟩
        · exact .inl z
        · rcases getElem?_set' z with ⟨_, _, e⟩ | ⟨_, e⟩
          · cases e
          · exact .inr ⟨l, e⟩
      · rintro rfl
        rcases z with z | ⟨l, z⟩
        · exact (R0.own i _ h1).2.1 z
        · rcases getElem?_set' z with ⟨_, _, e⟩ | ⟨n, e⟩
          · cases e
          · exact n (R0.uniq i l _ h1 e)
    cases pl with
    | none => exact x
    | some t =>
      obtain ⟨b, v, z1, z2, z3⟩ := x
      exact ⟨b, v, z1, z2, z3.anti sub fun k c e => (cs_set (R0.lenN ▸ hi) k).trans e⟩
  | bad => rw [ef] at q; exact q.elim
theorem sj_mcV (i : Nat) (M : MetMV X.prog X.w X.K X.mg X.base C m j n F) (hr : Room k X.A) (hjk : j ≤ k) (hx : ∀ σ, PassesAt (L2.CX X.prog X.w) X σ (EX σ)) (ha : AJ X EX (e :: es) ga) {pl : Sem Bool} (hn : ∀ env rs, ga env = .ok rs → rs.length + 1 = n)
    (hN : X.N[i]? = some x := by rfl) (hv : Vis X.env.scope x := by first | exact Or.inl rfl | exact Or.inr (Or.inl rfl) | exact Or.inr (Or.inr rfl)) (hd : (x == ("__debug__" : Str)) = false := by decide) (hcd : (x == ("__classdict__" : Str)) = false := by decide)
    (hs : swapsWith (.Call (.Attribute (.Name x pn) m apos) (e :: es) [] pos') none pos.line X.env = pure false := by rfl)
    (hst : starEach (e :: es) X.env = (false, eval e X.env) :: starEach es X.env := by rfl) (hpl : (backTo pos' (starEach es X.env)).any (·.1) = false := by rfl)
    (ht : eval (.Call (.Attribute (.Name x pn) m apos) (e :: es) [] pos') X.env = (do
      let ov ← eval (.Name x pn) X.env
      standAt apos.atName
      let (f, first) ← holding [ov] (getMethod ov m pl)
      callWith pos' f first (backTo pos' (starEach (e :: es) X.env)) (backToKw pos' (keywordEach [] X.env))) := by rfl) :
    SJ X EX (.Expr (.Call (.Attribute (.Name x pn) m apos) (e :: es) [] pos') pos) (fMcV C m i F ga) := by
  obtain ⟨cc, f, fd, ps, h0, h1, h2, h3, h4⟩ := M.ex
  obtain ⟨t', pa, i'⟩ := ha.ex
  have q1 : PE X (.Name x pn) (tVar i) := pe_var hN hv hd hcd
  refine ⟨⟨_, ps_expr (pe_methS q1 h1 h2 h4 (hr.mono hjk) h3 hx pa hst hpl ht) hs, fun B H0 O env σ H D Rl p => ?_⟩⟩
  unfold fMcV mcVS at p
  split at p
  · rename_i b d eo
    have es := obS_some eo
    obtain ⟨a, ho, o1, o2, o3, o4⟩ := obj_slot Rl es
    split at p
    · rename_i cl
      have p' := sOf_post (X := X) (EX := EX) (f := ga) (k := fun rs env => if rs.all (R.off i) = true then mcO i b (F (.sf d :: rs.map R.arg)) env else .bad) Rl p
      obtain ⟨dx, fs, eh, el⟩ := cl_slot h0 cl o4
      subst eh
      refine ⟨_, o2, a, dx, fs, rfl, o3, el, ?_⟩
      have p2 : Post (XC X.K B O EX σ H) (fun rs => ga env = .ok rs ∧ SPost X EX B H0 O H D (if rs.all (R.off i) = true then mcO i b (F (.sf d :: rs.map R.arg)) env else .bad)) (ga env) := by
        cases eg : ga env with
        | ok rs => rw [eg] at p'; exact ⟨rfl, p'⟩
        | exc c p => rw [eg] at p'; exact p'
        | bad => rw [eg] at p'; exact p'
      refine i' B H0 O env σ H _ Rl (p2.mono (fun _ _ x => x) fun rs z vs H2 s2 r2 => ?_)
      obtain ⟨eg, z⟩ := z
      split at z
      · rename_i c
        exact mcV_core Rl s2 es o1 o3 o4 (RRs.off Rl o1 r2 c) (hn env rs eg) z
      · exact z.elim
    · exact p.elim
  · exact p.elim
end
/-! what they compute -/
section
variable {r : R} {rs : List R} {d : T} {FV : List Sl → Res (T × R)} {C i : Nat} {m : Str} {env : En} {ga : En → Res (List R)}
@[simp] theorem arg_sh (d : T) : (R.sh d).arg = .fz d := rfl
@[simp] theorem arg_fr (d : T) : (R.fr d).arg = .fz d := rfl
@[simp] theorem arg_bo (i : Nat) (d : T) : (R.bo i d).arg = .br d := rfl
@[simp] theorem arg_vw (d : T) : (R.vw d).arg = .br d := rfl
@[simp] theorem off_sh (d : T) : (R.sh d).off i = true := rfl
@[simp] theorem off_fr (d : T) : (R.fr d).off i = true := rfl
@[simp] theorem off_vw (d : T) : (R.vw d).off i = true := rfl
@[simp] theorem off_bo (j : Nat) (d : T) : (R.bo j d).off i = decide (j ≠ i) := rfl
@[simp] theorem slget_br (n : Nat) (a : T) : Sl.get n (some (.br a)) = .ok (.vw a) := rfl
@[simp] theorem fMkV_eq : fMkV C FV ga env = (ga env).bind (mkVR C FV) := rfl
@[simp] theorem mkVR_eq : mkVR C FV rs = mkO (FV (.sf (.obj C []) :: rs.map R.arg)) := rfl
@[simp] theorem fMcV_eq : fMcV C m i FV ga env = mcVS C m FV env[i]? (ga env) i env := rfl
def mcVT (C : Nat) (m : Str) (F : List Sl → Res (T × R)) (b : Bool) (d : T) (a : Res (List R)) (i : Nat) (env : En) : Out := if clT C m d = true then a.out (fun rs env => if rs.all (R.off i) = true then mcO i b (F (.sf d :: rs.map R.arg)) env else .bad) env else .bad
@[simp] theorem mcVS_ow (a : Res (List R)) : mcVS C m FV (some (.ow d)) a i env = mcVT C m FV false d a i env := rfl
@[simp] theorem mcVS_sf (a : Res (List R)) : mcVS C m FV (some (.sf d)) a i env = mcVT C m FV true d a i env := rfl
@[simp] theorem mcVT_ok (b : Bool) : mcVT C m FV b d (.ok rs) i env = if clT C m d = true then (if rs.all (R.off i) = true then mcO i b (FV (.sf d :: rs.map R.arg)) env else .bad) else .bad := rfl
end
end Tr
namespace L2
open PySem PySem.Spec PyProof.Rows
/-! ### set(a list of whole numbers), sorted -/
section
variable {P : Program} {w : World} {A : Around} {E : Value → Shared → Prop} {s : Shared}
abbrev noSet (w : World) : Obj := { cls := .type "set", dict := none, data := .set #[] 0 (.fresh 0 0 (!w.params.followText "set-order")) }
set_option maxHeartbeats 3200000 in
theorem set_of_list {l : Addr} {items : Array Value} (ns : List Int) {Q : Value → Shared → Prop} (hh : A.handled = none) (hl : s.heap.IsList l items) (hit : IntsAre items.toList ns) (hb : ns.length + 1 < scanBound)
    (h : ∀ (h' : Heap) (tk c : Nat), SetR w h' s.heap.objs.size (fun j => decide (j ∈ ns)) c → c ≤ ns.length → (∀ b o, s.heap.get? b = some o → h'.get? b = some o) → Q (.ref s.heap.objs.size) { s with heap := h', toks := tk }) :
    wpAny (model P w) A (call (.type "set") [.ref l]) Q E s := by
  have z : items.size = ns.length := by simpa using IntsAre.length hit
  obtain ⟨c, tl, hmro⟩ := F.called_set.mro
  have hmade := F.called_set.made
  have hsub := F.called_set.sub
  refine wpAny_call (codeAny_of_tree ?_)
  show wpAny _ _ (callAny (.type "set") _) _ _ _
  refine wpAny_pure ⟨Code.quiet_builtin _ (by decide +kernel), codeAny_builtin F.entry_type_call ?_⟩
  rw [Around.under_plain (weight_type_call_type "set" [.ref l] []) rfl]
  have h1 := F.called_set.notType
  have h2 := F.called_set.canCreate
  have h3 := F.typeCall_set_1 (.ref l)
  repeat (any_goals (first | assumption | wp_step))
  refine codeAny_mono (code_set_led1 (.ref l) (E := E) (Q₁ := fun obj s₁ => obj = .ref s.heap.objs.size ∧ s₁ = { s with heap := s.heap.push (noSet w) }) ⟨rfl, rfl⟩) fun r s₁ hr => ?_
  match r, hr with
  | .error e, hr => exact hr
  | .ok .next, hr => exact hr.elim
  | .ok .brk, hr => exact hr.elim
  | .ok .cont, hr => exact hr.elim
  | .ok (.ret obj), hr =>
    obtain ⟨rfl, rfl⟩ := hr
    have gS : (s.heap.push (noSet w)).get? s.heap.objs.size = some (noSet w) := Heap.get?_push_size _ rfl
    have hT : Shared.TypeIs { s with heap := s.heap.push (noSet w) } (.ref s.heap.objs.size) "set" := ⟨_, gS, rfl⟩
    have h4 := F.called_set.init.lookup
    have h5 := F.called_set.init.bind (.ref s.heap.objs.size)
    repeat (any_goals (first | assumption | wp_step))
    refine codeAny_mono (codeAny_call_builtin (R := wants (fun r s₂ => r = .none ∧ ∃ h' tk c, s₂ = { s with heap := h', toks := tk } ∧ SetR w h' s.heap.objs.size (fun j => decide (j ∈ ns)) c ∧ c ≤ ns.length ∧
      (∀ b o, s.heap.get? b = some o → h'.get? b = some o)) E) F.called_set.init.plain F.entry_set_init (check_set_init_1 hT ?_)) fun r₂ s₂ hr₂ => ?_
    · obtain ⟨⟨oc, od, odt, osl⟩, ho, hc, n, hd⟩ := hl
      simp only at hc hd
      subst hc hd
      have ho' : (s.heap.push (noSet w)).get? l = some { cls := .type "list", dict := od, data := .seq items n, slots := osl } := Heap.get?_push_of_some _ ho
      have h6 := F.sub_list_set
      have h7 := F.sub_list_frozenset
      have h8 : (Value.type "list" == Value.type "dict") = false := by decide
      have il : (s.heap.push (noSet w)).IsList l items := ⟨_, ho', rfl, n, rfl⟩
      unfold Builtin.«set.__init__» noKeywords Builtin.Frozenset.updateFrom
      generalize hPI : pyIter = PI
      wp_walk
      subst hPI
      refine wpAny_pyIter_list il ?_
      refine wpAny_bind (wpAny_runValue ?_)
      have lt : l < s.heap.objs.size := Heap.lt_size ho
      have zp : (s.heap.push (noSet w)).objs.size = s.heap.objs.size + 1 := Heap.size_push ..
      have hh3 : A.in1.in1.in1.handled = none := by simp [hh]
      have ne1 : l ≠ (s.heap.push (noSet w)).objs.size := by rw [zp]; exact Nat.ne_of_lt (Nat.lt_succ_of_lt lt)
      have ne2 : s.heap.objs.size ∉ [(s.heap.push (noSet w)).objs.size, l] := by
        rw [zp]
        simp only [List.mem_cons, List.not_mem_nil, or_false, not_or]
        exact ⟨Nat.ne_of_lt (Nat.lt_succ_self _), Nat.ne_of_gt lt⟩
      have hval : ∀ (i : Nat) (v : Value), items[i]? = some v → ∃ k t, ns[i]? = some k ∧ v = .int k t := fun i v hv => by
        have hi : i < ns.length := by rw [← z]; exact (Array.getElem?_eq_some_iff.mp hv).1
        obtain ⟨t, e⟩ := IntsAre.int_at hit i v (by rw [Array.getElem?_toList]; exact hv)
        refine ⟨ns[i], t, List.getElem?_eq_getElem hi, ?_⟩
        rw [e, List.getD_eq_getElem?_getD, List.getElem?_eq_getElem hi] <;> rfl
      refine set_update_ints ((Walks.list hh3 _ l ne1 items).toS) s.heap.objs.size ne2 ns z hb hval (items.size - 0) 0 _ (by omega) (Nat.zero_le _)
        ⟨⟨_, Heap.get?_push_size _ rfl, rfl, rfl⟩, il.push _⟩ ?h0 ?hR
      case h0 => exact ⟨0, Nat.le_refl 0, setR_new_at (Heap.get?_push_of_some _ gS)⟩
      case hR =>
        intro s' c' hm hc' hS'
        obtain ⟨h', g2, d', tk', os'⟩ := s'
        have e1 : g2 = s.gens := hm.gens
        have e2 : d' = s.drawn := hm.drawn
        have e3 : os' = s.os := hm.os
        subst e1 e2 e3
        refine wpAny_pure ?_
        show wpAny _ _ (ret Value.none) _ _ _
        rw [z] at hc'
        refine wpAny_pure ⟨rfl, h', tk', c', rfl, hS', hc', fun b o e => ?_⟩
        have b0 : b < s.heap.objs.size := Heap.lt_size e
        refine hm.heap b o ?_ (Heap.get?_push_of_some _ (Heap.get?_push_of_some _ e))
        rw [zp]
        simp only [List.mem_cons, List.not_mem_nil, or_false, not_or]
        exact ⟨Nat.ne_of_lt b0, Nat.ne_of_lt (Nat.lt_succ_of_lt b0)⟩
    · match r₂, hr₂ with
      | .error e, hr₂ => exact hr₂
      | .ok .next, hr₂ => exact hr₂.elim
      | .ok .brk, hr₂ => exact hr₂.elim
      | .ok .cont, hr₂ => exact hr₂.elim
      | .ok (.ret r), hr₂ =>
        obtain ⟨rfl, h', tk, c', rfl, hS', hc', hk'⟩ := hr₂
        repeat (any_goals (first | assumption | wp_step))
        exact h _ _ _ hS' hc' hk'
end
end L2
namespace Tr
open PySem L2
section
variable {X : Cx}
def rSetI (X : Cx) : List V → Hp → VK → Prop := fun xs H Q => ∃ (l : Addr) (ns : List Int), xs = [.ref l] ∧ SqL X.K H l (ns.map V.int) ∧ ns.length ≤ 1000 ∧ ∀ p c, H p = none → c ≤ ns.length → Q (.ref p) (upd H p (SetO X.w p (fun j => decide (j ∈ ns)) c))
theorem cr_setI (hc : X.calm = true) : CallR X (.type "set") (rSetI X) := by
  intro pins s σ H xs us Q I r h
  obtain ⟨l, ns, rfl, hq, hn, q⟩ := h
  rw [Vals.ref1 r]
  obtain ⟨its, r2, pl, hz⟩ := I.list hq
  refine set_of_list ns (I.ok.hd hc) pl.isList (by simpa using RZ.intsAre_vals r2) (by unfold scanBound; omega) fun h' tk c new hc' hk => ?_
  exact ⟨.ref _, upd H s.heap.objs.size (SetO X.w s.heap.objs.size (fun j => decide (j ∈ ns)) c), I.laid (t' := tk) (fun b u e => hk b u e) (Nat.le_refl _) (setO_new new), rfl, q _ c (I.hok.fresh (Nat.le_refl _)) hc'⟩
/-- the members, rising -/
def uniqI : List Int → List Int
  | [] => []
  | a :: l => match uniqI l with
    | [] => [a]
    | b :: m => if a = b then b :: m else a :: b :: m
theorem uniqI_mem (k : Int) : ∀ l : List Int, k ∈ uniqI l ↔ k ∈ l
  | [] => Iff.rfl
  | a :: l => by
    have ih := uniqI_mem k l
    show k ∈ (match uniqI l with
      | [] => [a]
      | b :: m => if a = b then b :: m else a :: b :: m) ↔ _
    cases e : uniqI l with
    | nil => rw [e] at ih; simp only [List.mem_cons, ← ih]
    | cons b m =>
      rw [e] at ih
      simp only []
      by_cases z : a = b
      · rw [if_pos z, List.mem_cons (a := k) (b := a), ← ih]
        constructor
        · exact .inr
        · rintro (rfl | h)
          · rw [z]; exact List.mem_cons_self
          · exact h
      · rw [if_neg z, List.mem_cons, ih, List.mem_cons (a := k) (b := a)]
theorem uniqI_sorted : ∀ l : List Int, l.Pairwise (· ≤ ·) → (uniqI l).Pairwise (· < ·)
  | [], _ => .nil
  | a :: l, h => by
    rw [List.pairwise_cons] at h
    have ih := uniqI_sorted l h.2
    have hm := fun k => uniqI_mem k l
    show (match uniqI l with
      | [] => [a]
      | b :: m => if a = b then b :: m else a :: b :: m).Pairwise (· < ·)
    cases e : uniqI l with
    | nil => simp
    | cons b m =>
      rw [e] at ih hm
      simp only []
      by_cases z : a = b
      · rw [if_pos z]; exact ih
      · rw [if_neg z, List.pairwise_cons]
        refine ⟨fun x hx => ?_, ih⟩
        have hb := h.1 b ((hm b).mp List.mem_cons_self)
        rcases List.mem_cons.mp hx with rfl | hx
        · omega
        · have := (List.pairwise_cons.mp ih).1 x hx; omega
theorem rise_uniq : ∀ (l m : List Int), l.Pairwise (· < ·) → m.Pairwise (· < ·) → (∀ k, k ∈ l ↔ k ∈ m) → l = m
  | [], [], _, _, _ => rfl
  | [], b :: m, _, _, h => by have := (h b).mpr List.mem_cons_self; cases this
  | a :: l, [], _, _, h => by have := (h a).mp List.mem_cons_self; cases this
  | a :: l, b :: m, h1, h2, h => by
    rw [List.pairwise_cons] at h1 h2
    have e : a = b := by
      have q1 := (h a).mp List.mem_cons_self
      have q2 := (h b).mpr List.mem_cons_self
      rcases List.mem_cons.mp q1 with q1 | q1
      · exact q1
      · rcases List.mem_cons.mp q2 with q2 | q2
        · exact q2.symm
        · have := h2.1 a q1; have := h1.1 b q2; omega
    subst e
    rw [rise_uniq l m h1.2 h2.2 fun k => ?_]
    constructor
    · intro q
      rcases List.mem_cons.mp ((h k).mp (List.mem_cons_of_mem _ q)) with z | z
      · have := h1.1 k q; omega
      · exact z
    · intro q
      rcases List.mem_cons.mp ((h k).mpr (List.mem_cons_of_mem _ q)) with z | z
      · have := h2.1 k q; omega
      · exact z
/-- sorted(set(l)) -/
def sorU (l : List Int) : List Int := uniqI (sortI l)
def sortSetR (r : R) : Res R := match r.d.ints with
  | some ns => if ns.length < 64 then .ok (.fr (.lst ((sorU ns).map T.int))) else .bad
  | none => .bad
def fSortSet (f : En → Res R) (env : En) : Res R := (f env).bind sortSetR
theorem ej_sortSet {EX : L2.St → XK} {a : Expr} {f : En → Res R} {p p2 q pos : Pos} (hc : X.calm = true) (hg : Gl X "sorted") (hm : X.mg "sorted" = none) (hg2 : Gl X "set") (hm2 : X.mg "set" = none) (ha : EJ X EX a f)
    (hs : starEach [a] X.env = (false, eval a X.env) :: starEach [] X.env := by rfl) (hp : (backTo q (starEach [] X.env)).any (·.1) = false := by rfl)
    (hs2 : starEach [.Call (.Name "set" p2) [a] [] q] X.env = (false, eval (.Call (.Name "set" p2) [a] [] q) X.env) :: starEach [] X.env := by rfl) (hp2 : (backTo pos (starEach [] X.env)).any (·.1) = false := by rfl) :
    EJ X EX (.Call (.Name "sorted" p) [.Call (.Name "set" p2) [a] [] q] [] pos) (fSortSet f) := by
  obtain ⟨t, pe, i⟩ := ha.ex
  have pa := pe_callTy (x := "set") (p := p2) (cr_setI hc) hg2 hm2 (by decide +kernel) (pa_cons pe pa_nil hs) (by decide) (by decide) hs hp
  have pb := pe_callB (x := "sorted") (p := p) (cr_sortedSet hc) hg hm (by decide +kernel) (pa_cons pa pa_nil hs2) (by decide) (by decide) hs2 hp2
  refine ⟨⟨_, pb, fun B H0 O env σ H Q R z => ?_⟩⟩
  refine i B H0 O env σ H _ R (z.bind.mono (fun _ _ x => x) fun r z v H1 s r1 => ?_)
  unfold sortSetR at z
  split at z
  · rename_i ns e
    split at z
    · rename_i c
      obtain ⟨l, el, hl⟩ := r1.ints e
      rw [el]
      refine ⟨l, ns, rfl, hl, by omega, fun x n nx hn => ⟨x, _, n, rfl, upd_same, by omega, fun ns' x' h1 h2 h3 nx' => ?_⟩⟩
      have R1 := R.mono s
      have e2 : ns' = sorU ns := rise_uniq _ _ h1 (uniqI_sorted _ (by
        have := List.pairwise_mergeSort (le := leI) (fun a b c h k => by simp only [leI, decide_eq_true_eq] at *; omega) (fun a b => by simp only [leI, Bool.or_eq_true, decide_eq_true_eq]; omega) ns
        exact this.imp fun h => by simpa [leI] using h)) fun k => by
          rw [h2 k]
          show _ ↔ k ∈ uniqI (ns.mergeSort leI)
          rw [uniqI_mem, (List.mergeSort_perm ns leI).mem_iff]
          simp
      rw [e2]
      have nn : H1 x' = none := by
        by_cases q : x' = x
        · rw [q]; exact nx
        · rw [upd_ne q] at nx'; exact nx'
      have s2 : Same H1 (upd (upd H1 x (SetO X.w x (fun j => decide (j ∈ ns)) n)) x' (.lst ((sorU ns).map V.int))) := (Same.new nx).trans (Same.new nx')
      exact z _ _ (s.trans s2) ⟨x', _, rfl, s.free nn, upd_same, .lst .ints⟩
    · exact z.elim
  · exact z.elim
@[simp] theorem fSortSet_eq {f : En → Res R} {env : En} : fSortSet f env = (f env).bind sortSetR := rfl
@[simp] theorem sortSetR_ints (r : R) (ns : List Int) (h : r.d = .lst (ns.map T.int)) : sortSetR r = if ns.length < 64 then .ok (.fr (.lst ((sorU ns).map T.int))) else .bad := by
  unfold sortSetR
  rw [h, ints_map]
end
end Tr
namespace Tr
open PySem L2
/-! ### texts: partition, a text many times, list(text); range in steps -/
def parO (a : Str) (y : R) : Res R := match y.d with
  | .str b => if (b.length == 0) = false ∧ a.length ≤ sizeLine ∧ [(Txt.partition a b).1, (Txt.partition a b).2.1, (Txt.partition a b).2.2].all PyData.strOk = true then .ok (.sh (.tup [.str (Txt.partition a b).1, .str (Txt.partition a b).2.1, .str (Txt.partition a b).2.2])) else .bad
  | _ => .bad
section
variable {X : Cx} {EX : L2.St → XK} {o e : Expr} {f g : En → Res R} {apos pos : Pos}
theorem ej_part (ho : EJ X EX o f) (he : EJ X EX e g) (hs : starEach [e] X.env = [(false, eval e X.env)] := by rfl) (hbase : attributeBase o "partition" X.env (eval o X.env) = eval o X.env := by rfl) (hline : (apos.endLine == pos.line) = true := by rfl) :
    EJ X EX (.Call (.Attribute o "partition" apos) [e] [] pos) (stM parO f g) := by
  obtain ⟨t, pe, i⟩ := ho.ex
  obtain ⟨t', pe', i'⟩ := he.ex
  refine ⟨⟨_, pe_partition pe pe' hs hbase hline, stM_core i i' fun B H0 O env σ H H2 Q a r2 w R s ⟨H1, s1, s2, rr⟩ p => ?_⟩⟩
  unfold parO at p
  split at p
  · rename_i b e2
    split at p
    · rename_i c
      refine ⟨a, b, rfl, by rw [rr.str e2], c.1, c.2.1, fun q nq => p _ _ (s.trans (Same.new nq)) ?_⟩
      have z := c.2.2
      simp only [List.all_cons, List.all_nil, Bool.and_true, Bool.and_eq_true] at z
      refine Rp.tup (us := [.str (Txt.partition a b).1, .str (Txt.partition a b).2.1, .str (Txt.partition a b).2.2]) upd_same (Rel.ex_new (R.mono s) nq) rfl fun n t u a' b' => ?_
      match n with
      | 0 => cases a'; cases b'; exact Rp.str _ z.1
      | 1 => cases a'; cases b'; exact Rp.str _ z.2.1
      | 2 => cases a'; cases b'; exact Rp.str _ z.2.2
      | n + 3 => simp at a'
    · exact p.elim
  · exact p.elim
end
/-- a text, or none -/
def mulRS (x y : R) : Res R := match x.d, y.d with
  | .str a, .int k => if a.length ≤ sizeLine ∧ PyData.strOk a = true ∧ (k = 0 ∨ k = 1) then .ok (.sh (.str (if k = 1 then a else Str.empty))) else .bad
  | _, _ => mulR x y
def rMulS : R2 := fun x y H Q => rMul x y H Q ∨ ∃ a k, x = .str a ∧ y = .int k ∧ (k = 0 ∨ k = 1) ∧ Q (.str (if k = 1 then a else Str.empty)) H
section
variable {X : Cx}
theorem opr_mulS : OpR X (binaryOp .Mult) rMulS := by
  intro pins s σ H x y v u Q I rx ry h
  rcases h with h | ⟨a, k, rfl, rfl, hk, q⟩
  · exact opr_mul pins s σ H x y v u Q I rx ry h
  · obtain ⟨t, rfl⟩ := rx
    obtain ⟨t', rfl⟩ := ry
    refine SB.mul ⟨?_, fun h1 h2 => ?_, fun h1 h2 => ?_⟩ fun t' tk => ⟨.str (Txt.mul a k), H, I.tok _, ⟨_, rfl⟩, ?_⟩
    · rcases hk with rfl | rfl <;> decide
    · rcases hk with rfl | rfl
      · omega
      · simp at h2
    · rcases hk with rfl | rfl
      · omega
      · simp at h2
    · rcases hk with rfl | rfl
      · exact q
      · exact q
theorem opi_mulS : OpI X rMulS mulRS := by
  intro B H0 O env σ Hs H x y v w Q xc R s rx ry p
  unfold mulRS at p
  split at p
  · rename_i a k e1 e2
    split at p
    · rename_i c
      refine .inr ⟨a, k, rx.str e1, ry.int e2, c.2.2, p _ H (Same.refl H) ?_⟩
      refine Rp.str _ ?_
      split
      · exact c.2.1
      · decide +kernel
    · exact p.elim
  · exact .inl (opi_mul B H0 O env σ Hs H x y v w Q xc R s rx ry p)
theorem vals_get : ∀ (us : List V) (vs : List Value), us.length = vs.length → (∀ (i : Nat) (u : V) (v : Value), us[i]? = some u → vs[i]? = some v → RelV u v) → Vals us vs
  | [], [], _, _ => .nil
  | [], _ :: _, h, _ => by simp at h
  | _ :: _, [], h, _ => by simp at h
  | u :: us, v :: vs, h, g => .cons (g 0 u v rfl rfl) (vals_get us vs (by simpa using h) fun i u v a b => g (i + 1) u v (by simpa using a) (by simpa using b))
def rListS : List V → Hp → VK → Prop := fun xs H Q => ∃ a : Str, xs = [.str a] ∧ a.length ≤ 10000 ∧ ∀ p, H p = none → Q (.ref p) (upd H p (.lst (a.cps.toList.map fun c => V.str ⟨#[c]⟩)))
theorem cr_listS (hc : X.calm = true) : CallR X (.type "list") rListS := by
  intro pins s σ H xs us Q I r h
  obtain ⟨a, rfl, hl, q⟩ := h
  obtain ⟨t, rfl⟩ : ∃ t, us = [Value.str a t] := by
    cases r with
    | cons r1 r2 =>
      cases r2
      obtain ⟨t, rfl⟩ := r1
      exact ⟨t, rfl⟩
  have sz : a.cps.size ≤ sizeLine := by have : a.length = a.cps.size := rfl; rw [sizeLine_eq]; omega
  refine call_list_str (I.ok.hd hc) a t (fun h' tk acc' c' hk hg hi => ?_) sz
  have v : Vals (a.cps.toList.map fun c => V.str ⟨#[c]⟩) acc'.toList := by
    refine vals_get _ _ (by simp [hi.1]) fun i u v h1 h2 => ?_
    rw [List.getElem?_map, Array.getElem?_toList] at h1
    rw [Array.getElem?_toList] at h2
    obtain ⟨c, t, e1, e2⟩ := hi.2 i v h2
    rw [e1] at h1
    cases h1
    exact ⟨t, e2⟩
  exact ⟨.ref _, upd H s.heap.objs.size (.lst (a.cps.toList.map fun c => V.str ⟨#[c]⟩)), I.laid (t' := tk) (fun b u e => hk b u e) (Nat.le_refl _) ⟨by rw [List.length_map, Array.length_toList]; exact sz, acc'.toList, c', v, by simpa using hg⟩, rfl, q _ (I.hok.fresh (Nat.le_refl _))⟩
def listRS : List R → Res R
  | [x] => match x.d with
    | .str a => if a.length ≤ 10000 ∧ PyData.strOk a = true then .ok (.fr (.lst (a.cps.toList.map fun c => T.str ⟨#[c]⟩))) else .bad
    | _ => .bad
  | _ => .bad
theorem calli_listS : CallI X rListS listRS := by
  intro B H0 O env σ Hs H rs vs Q xc R s rx p
  unfold listRS at p
  split at p
  · obtain ⟨v, rfl, r1⟩ := rx.one
    split at p
    · rename_i a e
      rw [r1.str e]
      split at p
      · rename_i c
        refine ⟨a, rfl, c.1, fun q nq => p _ _ (Same.new nq) (RR.newL R s ⟨by simp, fun i t u a' b' => ?_⟩ nq)⟩
        rw [List.getElem?_map] at a' b'
        cases ec : a.cps.toList[i]? with
        | none => rw [ec] at a'; cases a'
        | some d =>
          rw [ec] at a' b'
          cases a'
          cases b'
          exact Rp.str _ (strOk_of (l := [d]) fun x hx => by
            obtain rfl : x = d := by simpa using hx
            exact strOk_mem c.2 (by
              have := List.mem_of_getElem? ec
              simpa using this))
      · exact p.elim
    · exact p.elim
  · exact p.elim
end
/-! range(a, b, c) -/
def rng3N (i j c : Int) : Nat := ((j - i + c - 1) / c).toNat
def rngC (i c : Int) (n : Nat) : List T := (List.range n).map fun k : Nat => T.int (i + (k : Nat) * c)
instance (i j c : Int) (n : Nat) : Decidable (RgC i j c n) := by unfold RgC; infer_instance
def i3R (x y z : R) : Res (List T) := match x.d, y.d, z.d with
  | .int i, .int j, .int c => if RgC i j c (rng3N i j c) then .ok (rngC i c (rng3N i j c)) else .bad
  | _, _, _ => .bad
@[simp] def iR3 (f g h : En → Res R) (env : En) : Res (List T) := (f env).bind fun x => (g env).bind fun y => (h env).bind fun z => i3R x y z
section
variable {X : Cx} {EX : L2.St → XK} {tg e e2 e3 : Expr} {f g h : En → Res R} {p pos : Pos}
theorem wk_rngC {K : PySem.W.Frag} {Y : Xs} {L H1 : Hp} {i c : Int} {n : Nat} : Wk K (Itc i c n) Y L H1 (rngC i c n) := fun k H Y' kp sl th => by
  have len : (rngC i c n).length = n := by simp [rngC]
  rw [len]
  refine ⟨fun hi => ⟨hi, fun x H' y => ?_⟩, fun hi => hi⟩
  obtain ⟨e, y⟩ := y
  subst e y
  refine ⟨Same.refl _, fun t et => ?_⟩
  unfold rngC at et
  rw [List.getElem?_map, List.getElem?_range hi] at et
  cases et
  exact .int _
theorem fj_range3 (hg : Gl X "range") (hm : X.mg "range" = none) (ha : EJ X EX e f) (hb : EJ X EX e2 g) (hc : EJ X EX e3 h) (hs : starEach [e, e2, e3] X.env = [(false, eval e X.env), (false, eval e2 X.env), (false, eval e3 X.env)] := by rfl) (hs2 : starEach [e2, e3] X.env = [(false, eval e2 X.env), (false, eval e3 X.env)] := by rfl) (hs3 : starEach [e3] X.env = [(false, eval e3 X.env)] := by rfl) (hpl : (backTo pos (starEach [e2, e3] X.env)).any (·.1) = false := by rfl) :
    FJ X EX tg (.Call (.Name "range" p) [e, e2, e3] [] pos) (iR3 f g h) := by
  obtain ⟨t, pe, i⟩ := ha.ex
  obtain ⟨t', pe', i'⟩ := hb.ex
  obtain ⟨t3, pe3, i3⟩ := hc.ex
  refine ⟨⟨_, pi_range3 hg hm (pa_cons pe (pa_cons pe' (pa_cons pe3 pa_nil hs3) (by rw [hs2, hs3])) (by rw [hs, hs2])) (by rw [hs, hs2]) hpl, fun B H0 O env σ H Q R p => ?_⟩⟩
  refine i B H0 O env σ H _ R (p.bind.mono (fun _ _ x => x) fun r q v H1 s r1 => ?_)
  refine i' B H0 O env σ H1 _ (R.mono s) ((q.bind.up s).mono (fun _ _ x => x) fun r' q2 w H2 s2 r2 => ?_)
  refine i3 B H0 O env σ H2 _ ((R.mono s).mono s2) ((q2.bind.up (s.trans s2)).mono (fun _ _ x => x) fun r'' q3 z H3 s3 r3 => ?_)
  unfold i3R at q3
  split at q3
  · rename_i a b c ea eb ec
    split at q3
    · rename_i cc
      exact ⟨a, b, c, _, by rw [r1.int ea, r2.int eb, r3.int ec], cc, q3 _ H3 (s.trans (s2.trans s3)) wk_rngC⟩
    · exact q3.elim
  · exact q3.elim
end
end Tr
namespace Tr
open PySem L2
/-! ### own dicts: get, put, in, list(d); any; x = xs.pop()[k] -/
section
variable {κ β : Type} [DecidableEq κ]
def fndK (l : List (κ × β)) (k : κ) : Option β := (l.find? fun kv => decide (kv.1 = k)).map (·.2)
def putD (l : List (κ × β)) (k : κ) (v : β) : List (κ × β) :=
  if (l.any fun kv => decide (kv.1 = k)) = true then l.map (fun kv => if kv.1 = k then (kv.1, v) else kv) else l ++ [(k, v)]
theorem any_keys (l : List (κ × β)) (k : κ) : (l.any fun kv => decide (kv.1 = k)) = ((l.map (·.1)).any fun x => decide (x = k)) := by
  rw [List.any_map]; rfl
end
def T.keys : List T → Option (List Key)
  | [] => some []
  | t :: l => match t.key, T.keys l with
    | some k, some ks => some (k :: ks)
    | _, _ => none
section
variable {K : PySem.W.Frag} {B : Bs} {X : Xs} {H0 H H1 H2 H' : Hp} {O : Ow} {env : En} {σ : L2.St} {κ : Type} [DecidableEq κ]
theorem fndK_get : ∀ {l : List (κ × T)} {us : List (κ × V)} (_ : l.map (·.1) = us.map (·.1)) (_ : RpAll K H X (l.map (·.2)) (us.map (·.2))) (k : κ),
    (fndK l k = none ∧ valV us k = none) ∨ ∃ t v, fndK l k = some t ∧ valV us k = some v ∧ Rp K H X t v
  | [], [], _, _, k => .inl ⟨rfl, rfl⟩
  | [], _ :: _, e, _, k => by cases e
  | _ :: _, [], e, _, k => by cases e
  | p :: l, q :: us, e, r, k => by
    simp only [List.map_cons, List.cons.injEq] at e
    by_cases c : p.1 = k
    · refine .inr ⟨p.2, q.2, ?_, valV_pos (e.1 ▸ c), r.head⟩
      simp [fndK, List.find?_cons, c]
    · have c' : ¬ q.1 = k := fun z => c (e.1.trans z)
      rw [valV_neg c']
      have : fndK (p :: l) k = fndK l k := by simp [fndK, List.find?_cons, c]
      rw [this]
      exact fndK_get e.2 r.tail k
theorem putD_keys {l : List (κ × T)} {us : List (κ × V)} (e : l.map (·.1) = us.map (·.1)) (k : κ) (t : T) (v : V) : (putD l k t).map (·.1) = (putK us k v).map (·.1) := by
  unfold putD putK
  rw [any_keys l, any_keys us, e]
  split
  · rw [List.map_map, List.map_map]
    have h1 : ((fun x : κ × T => x.1) ∘ fun kv => if kv.1 = k then (kv.1, t) else kv) = (·.1) := by
      funext kv; simp only [Function.comp_apply]; split <;> rfl
    have h2 : ((fun x : κ × V => x.1) ∘ fun kv => if kv.1 = k then (kv.1, v) else kv) = (·.1) := by
      funext kv; simp only [Function.comp_apply]; split <;> rfl
    rw [h1, h2, e]
  · simp [e]
theorem putD_vals {l : List (κ × T)} {us : List (κ × V)} (e : l.map (·.1) = us.map (·.1)) (r : RpAll K H X (l.map (·.2)) (us.map (·.2))) (k : κ) {t : T} {v : V} (rv : Rp K H X t v) :
    RpAll K H X ((putD l k t).map (·.2)) ((putK us k v).map (·.2)) := by
  unfold putD putK
  rw [any_keys l, any_keys us, e]
  split
  · refine ⟨by simpa using r.1, fun i t' u' a b => ?_⟩
    rw [List.map_map, List.getElem?_map] at a b
    cases e1 : l[i]? with
    | none => rw [e1] at a; cases a
    | some p =>
      cases e2 : us[i]? with
      | none => rw [e2] at b; cases b
      | some q =>
        rw [e1] at a
        rw [e2] at b
        have ek : p.1 = q.1 := by
          have z1 : (l.map (·.1))[i]? = some p.1 := by rw [List.getElem?_map, e1]; rfl
          have z2 : (us.map (·.1))[i]? = some q.1 := by rw [List.getElem?_map, e2]; rfl
          rw [e, z2] at z1
          exact (Option.some.inj z1).symm
        simp only [Option.map_some, Option.some.injEq, Function.comp_apply] at a b
        by_cases c : p.1 = k
        · rw [if_pos c] at a
          rw [if_pos (ek ▸ c)] at b
          cases a; cases b
          exact rv
        · rw [if_neg c] at a
          rw [if_neg (fun z => c (ek.trans z))] at b
          cases a; cases b
          exact r.2 i _ _ (by rw [List.getElem?_map, e1]; rfl) (by rw [List.getElem?_map, e2]; rfl)
  · simp only [List.map_append, List.map_cons, List.map_nil]
    exact r.append (.cons rv .nil)
theorem putD_len {l : List (κ × T)} {us : List (κ × V)} (e : l.map (·.1) = us.map (·.1)) : l.length = us.length := by simpa using congrArg List.length e
theorem RR.dik {ts : List (Key × T)} {r : R} {v : V} (h : RR K B O H H' r v) (e : r.d = .dik ts) : ∃ a us, v = .ref a ∧ H' a = some (.dK us) ∧ ts.map (·.1) = us.map (·.1) ∧ RpAll K H' (Ex B O) (ts.map (·.2)) (us.map (·.2)) := by
  cases r with
  | sh d =>
    cases e
    cases h with
    | dik hq hn hl hz hs => exact ⟨_, _, rfl, hq, hl, hz, hs⟩
  | fr d =>
    cases e
    obtain ⟨p, ho, e, n, h1, h2⟩ := h
    cases h2 with
    | dik h3 h2 => exact ⟨p, _, e, h1, h3, h2.anti fun _ z => .inl z⟩
  | bo i d =>
    cases e
    obtain ⟨a, ho, e, n, h1, h2⟩ := h
    cases h2 with
    | dik h3 h2 => exact ⟨a, _, n, h1, h3, h2⟩
  | vw d =>
    cases e
    obtain ⟨a, ho, _, n, h1, h2⟩ := h
    cases h2 with
    | dik h3 h2 => exact ⟨a, _, n, h1, h3, h2⟩
theorem RR.dit {ts : List (List Key × T)} {r : R} {v : V} (h : RR K B O H H' r v) (e : r.d = .dit ts) : ∃ a us, v = .ref a ∧ H' a = some (.dT us) ∧ ts.map (·.1) = us.map (·.1) ∧ RpAll K H' (Ex B O) (ts.map (·.2)) (us.map (·.2)) := by
  cases r with
  | sh d =>
    cases e
    cases h with
    | dit hq hn hl hz hs => exact ⟨_, _, rfl, hq, hl, hz, hs⟩
  | fr d =>
    cases e
    obtain ⟨p, ho, e, n, h1, h2⟩ := h
    cases h2 with
    | dit h3 h2 => exact ⟨p, _, e, h1, h3, h2.anti fun _ z => .inl z⟩
  | bo i d =>
    cases e
    obtain ⟨a, ho, e, n, h1, h2⟩ := h
    cases h2 with
    | dit h3 h2 => exact ⟨a, _, n, h1, h3, h2⟩
  | vw d =>
    cases e
    obtain ⟨a, ho, _, n, h1, h2⟩ := h
    cases h2 with
    | dit h3 h2 => exact ⟨a, _, n, h1, h3, h2⟩
theorem keys_vals : ∀ {ts : List T} {us : List V} {ks : List Key}, RpAll K H X ts us → T.keys ts = some ks → us = ks.map kV
  | [], [], ks, _, e => by cases e; rfl
  | [], _ :: _, _, r, _ => by cases r.1
  | _ :: _, [], _, r, _ => by cases r.1
  | t :: ts, u :: us, ks, r, e => by
    unfold T.keys at e
    split at e
    · rename_i k l e1 e2
      cases e
      rw [rp_key r.head e1, keys_vals r.tail e2]
      rfl
    · cases e
/-- d[k], perhaps nothing; none: not to be spoken of -/
def dgT (d k : T) : Option (Option T) := match d with
  | .dik l => k.key.map fun k => fndK l k
  | .dit l => match k with
    | .tup ts => (T.keys ts).map fun k => fndK l k
    | _ => none
  | _ => none
theorem dgT_ok {Ha Hb : Hp} {x y : R} {v w : V} {r : Option T} (rx : RR K B O Ha H1 x v) (s : Same H1 H2) (ry : RR K B O Hb H2 y w) (e : dgT x.d y.d = some r) :
    ∃ a o, v = .ref a ∧ L2.IsD H1 a ∧ DGet H2 a w o ∧ ((r = none ∧ o = none) ∨ ∃ t u, r = some t ∧ o = some u ∧ Rp K H2 (Ex B O) t u) := by
  unfold dgT at e
  split at e
  · rename_i l el
    obtain ⟨a, us, rfl, h1, h2, h3⟩ := rx.dik el
    cases ek : y.d.key with
    | none => rw [ek] at e; cases e
    | some k =>
      rw [ek] at e
      cases e
      have ew : w = kV k := rp_key ry.rp0 ek
      refine ⟨a, _, rfl, .inl ⟨us, .inl h1⟩, by rw [ew]; exact DGet.k (s _ _ h1), ?_⟩
      rcases fndK_get h2 (h3.same s) k with ⟨q1, q2⟩ | ⟨t, u, q1, q2, q3⟩
      · exact .inl ⟨q1, q2⟩
      · exact .inr ⟨t, u, q1, q2, q3⟩
  · rename_i l el
    split at e
    · rename_i ts et
      cases ek : T.keys ts with
      | none => rw [ek] at e; cases e
      | some k =>
        rw [ek] at e
        cases e
        obtain ⟨a, us, rfl, h1, h2, h3⟩ := rx.dit el
        obtain ⟨b, ws, rfl, h4, h5⟩ := ry.tup et
        rw [keys_vals h5 ek] at h4
        refine ⟨a, _, rfl, .inr ⟨us, .inl h1⟩, DGet.t (s _ _ h1) h4, ?_⟩
        rcases fndK_get h2 (h3.same s) k with ⟨q1, q2⟩ | ⟨t, u, q1, q2, q3⟩
        · exact .inl ⟨q1, q2⟩
        · exact .inr ⟨t, u, q1, q2, q3⟩
    · cases e
  · cases e
end
/-- d[k] -/
def dgR (x y : R) : Res R := match dgT x.d y.d with
  | some (some t) => .ok (.sh t)
  | _ => .bad
/-- k in d -/
def dinR (y x : R) : Res R := match dgT x.d y.d with
  | some r => .ok (.sh (.bl r.isSome))
  | none => .bad
/-- d.get(k, z) -/
def dg2R (x y z : R) : Res R := match dgT x.d y.d with
  | some (some t) => .ok (.sh t)
  | some none => if z.kp = true then .ok (.sh z.d) else .bad
  | none => .bad
def dg1R (x y : R) : Res R := match dgT x.d y.d with
  | some (some t) => .ok (.sh t)
  | some none => .ok (.sh .non)
  | none => .bad
def T.isD : T → Bool
  | .dik _ => true
  | .dit _ => true
  | _ => false
def fDg1 (f g : En → Res R) (env : En) : Res R := (f env).bind fun x => if x.d.isD = true then (g env).bind fun y => dg1R x y else .bad
def fDg2 (f g h : En → Res R) (env : En) : Res R := (f env).bind fun x => if x.d.isD = true then (g env).bind fun y => (h env).bind fun z => dg2R x y z else .bad
def putDO (d k v : T) : Option T := match d with
  | .dik l => if l.length < sizeLine then k.key.map fun k => .dik (putD l k v) else none
  | .dit l => match k with
    | .tup ts => if l.length < sizeLine then (T.keys ts).map fun k => .dit (putD l k v) else none
    | _ => none
  | _ => none
/-- d[k] = e -/
def fPutD (i : Nat) (f k : En → Res R) (env : En) : Out := sOf f (fun r env => match env[i]? with
  | some (.ow d) => sOf k (fun y env => if r.kp = true then (match putDO d y.d r.d with
      | some d' => .nx (env.set i (.ow d'))
      | none => .bad) else .bad) env
  | _ => .bad) env
section
variable {X : Cx} {EX : L2.St → XK} {a b c e : Expr} {f g h u k : En → Res R} {pos pos' apos p : Pos} {x : Str}
theorem ej_dg (hu : X.A.units + 64 < cLine) (ha : EJ X EX a f) (hb : EJ X EX b g) (hs : NoSl b) : EJ X EX (.Subscript a b pos) (b2 dgR f g) := by
  obtain ⟨t, pe, i⟩ := ha.ex
  obtain ⟨t', pe', i'⟩ := hb.ex
  refine ⟨⟨_, pe_dget (by omega) pe pe' hs, fun B H0 O env σ H Q R p => ?_⟩⟩
  refine i B H0 O env σ H _ R (p.bind.mono (fun _ _ x => x) fun x q v H1 s r1 => ?_)
  refine i' B H0 O env σ H1 _ (R.mono s) ((q.bind.up s).mono (fun _ _ x => x) fun y q2 w H2 s2 r2 => ?_)
  unfold dgR at q2
  split at q2
  · rename_i t et
    obtain ⟨a, o, rfl, _, dg, z⟩ := dgT_ok r1 s2 r2 et
    rcases z with ⟨z, _⟩ | ⟨t2, u, z, rfl, ru⟩
    · cases z
    · cases z
      exact ⟨a, u, rfl, dg, q2 u H2 (s.trans s2) ru⟩
  · exact q2.elim
theorem ej_din (hu : X.A.units + 64 < cLine) (ha : EJ X EX a f) (hb : EJ X EX b g) (h1 : behindInMarks .In b = false := by first | exact nobehind _ (by decide) (by decide) | rfl) : EJ X EX (.Compare a [.In] [b] pos) (b2 dinR f g) := by
  obtain ⟨t, pe, i⟩ := ha.ex
  obtain ⟨t', pe', i'⟩ := hb.ex
  refine ⟨⟨_, pe_cmp (pc_din (by omega) pe pe') h1, fun B H0 O env σ H Q R p => ?_⟩⟩
  refine i B H0 O env σ H _ R (p.bind.mono (fun _ _ x => x) fun y q v H1 s r1 => ?_)
  refine i' B H0 O env σ H1 _ (R.mono s) ((q.bind.up s).mono (fun _ _ x => x) fun x q2 w H2 s2 r2 => ?_)
  unfold dinR at q2
  split at q2
  · rename_i r et
    obtain ⟨a, o, rfl, _, dg, z⟩ := dgT_ok r2 (Same.refl _) (r1.mono s2) et
    refine ⟨a, o, rfl, dg, q2 _ H2 (s.trans s2) ?_⟩
    rcases z with ⟨rfl, rfl⟩ | ⟨t2, u, rfl, rfl, ru⟩
    · exact Rp.bl _
    · exact Rp.bl _
  · exact q2.elim
theorem bj_din (hu : X.A.units + 64 < cLine) (ha : EJ X EX a f) (hb : EJ X EX b g) (h1 : behindInMarks .In b = false := by first | exact nobehind _ (by decide) (by decide) | rfl) : BJ X EX (.Compare a [.In] [b] pos) (c2 dinR f g) := by
  obtain ⟨t, pe, i⟩ := ha.ex
  obtain ⟨t', pe', i'⟩ := hb.ex
  refine ⟨⟨_, pt_cmp (pc_din (by omega) pe pe') h1, fun B H0 O env σ H Q R p => ?_⟩⟩
  refine i B H0 O env σ H _ R (p.bind.mono (fun _ _ x => x) fun y q v H1 s r1 => ?_)
  refine i' B H0 O env σ H1 _ (R.mono s) ((q.bind.up s).mono (fun _ _ x => x) fun x q2 w H2 s2 r2 => ?_)
  unfold dinR at q2
  split at q2
  · rename_i r et
    obtain ⟨a, o, rfl, _, dg, z⟩ := dgT_ok r2 (Same.refl _) (r1.mono s2) et
    refine ⟨a, o, rfl, dg, o.isSome, rfl, ?_⟩
    rcases z with ⟨rfl, rfl⟩ | ⟨t2, u, rfl, rfl, ru⟩
    · exact q2 H2 (s.trans s2)
    · exact q2 H2 (s.trans s2)
  · exact q2.elim
theorem isD_ok {K : PySem.W.Frag} {B : Bs} {O : Ow} {H H1 : Hp} {x : R} {v : V} (r1 : RR K B O H H1 x v) (e : x.d.isD = true) : ∃ a, v = .ref a ∧ L2.IsD H1 a := by
  cases el : x.d with
  | dik l =>
    obtain ⟨a, us, rfl, h1, h2, h3⟩ := r1.dik el
    exact ⟨a, rfl, .inl ⟨us, .inl h1⟩⟩
  | dit l =>
    obtain ⟨a, us, rfl, h1, h2, h3⟩ := r1.dit el
    exact ⟨a, rfl, .inr ⟨us, .inl h1⟩⟩
  | _ => rw [el] at e; cases e
theorem ej_dg1 (hu : X.A.units + 64 < cLine) (ha : EJ X EX a f) (hb : EJ X EX b g) (m : M1 X a "get" apos b pos := by exact ⟨rfl, rfl, rfl, rfl⟩) : EJ X EX (.Call (.Attribute a "get" apos) [b] [] pos) (fDg1 f g) := by
  obtain ⟨t, pe, i⟩ := ha.ex
  obtain ⟨t', pe', i'⟩ := hb.ex
  refine ⟨⟨_, pe_dget1 (by omega) pe pe' m, fun B H0 O env σ H Q R p => ?_⟩⟩
  refine i B H0 O env σ H _ R (p.bind.mono (fun _ _ x => x) fun x q v H1 s r1 => ?_)
  split at q
  · rename_i isd
    obtain ⟨a, rfl, h1⟩ := isD_ok r1 isd
    refine ⟨a, rfl, h1, ?_⟩
    refine i' B H0 O env σ H1 _ (R.mono s) ((q.bind.up s).mono (fun _ _ x => x) fun y q2 w H2 s2 r2 => ?_)
    unfold dg1R at q2
    split at q2
    · rename_i t et
      obtain ⟨a', o, e1, _, dg, z⟩ := dgT_ok r1 s2 r2 et
      cases e1
      rcases z with ⟨z, _⟩ | ⟨t2, u, z, rfl, ru⟩
      · cases z
      · cases z
        exact ⟨_, dg, q2 u H2 (s.trans s2) ru⟩
    · rename_i et
      obtain ⟨a', o, e1, _, dg, z⟩ := dgT_ok r1 s2 r2 et
      cases e1
      rcases z with ⟨z, rfl⟩ | ⟨t2, u, z, rfl, ru⟩
      · exact ⟨_, dg, q2 .non H2 (s.trans s2) Rp.non⟩
      · cases z
    · exact q2.elim
  · exact q.elim
theorem ej_dg2 (hu : X.A.units + 64 < cLine) (ha : EJ X EX a f) (hb : EJ X EX b g) (hc : EJ X EX c h) (m : M2 X a "get" apos b c pos := by exact ⟨rfl, rfl, rfl, rfl⟩) : EJ X EX (.Call (.Attribute a "get" apos) [b, c] [] pos) (fDg2 f g h) := by
  obtain ⟨t, pe, i⟩ := ha.ex
  obtain ⟨t', pe', i'⟩ := hb.ex
  obtain ⟨t3, pe3, i3⟩ := hc.ex
  refine ⟨⟨_, pe_dget2 (by omega) pe pe' pe3 m, fun B H0 O env σ H Q R p => ?_⟩⟩
  refine i B H0 O env σ H _ R (p.bind.mono (fun _ _ x => x) fun x q v H1 s r1 => ?_)
  split at q
  · rename_i isd
    obtain ⟨a, rfl, h1⟩ := isD_ok r1 isd
    refine ⟨a, rfl, h1, ?_⟩
    refine i' B H0 O env σ H1 _ (R.mono s) ((q.bind.up s).mono (fun _ _ x => x) fun y q2 w H2 s2 r2 => ?_)
    refine i3 B H0 O env σ H2 _ ((R.mono s).mono s2) ((q2.bind.up (s.trans s2)).mono (fun _ _ x => x) fun z q3 w3 H3 s3 r3 => ?_)
    unfold dg2R at q3
    split at q3
    · rename_i t et
      obtain ⟨a', o, e1, _, dg, z⟩ := dgT_ok r1 (s2.trans s3) (r2.mono s3) et
      cases e1
      rcases z with ⟨z, _⟩ | ⟨t2, u, z, rfl, ru⟩
      · cases z
      · cases z
        exact ⟨_, dg, q3 u H3 (s.trans (s2.trans s3)) ru⟩
    · rename_i et
      obtain ⟨a', o, e1, _, dg, z⟩ := dgT_ok r1 (s2.trans s3) (r2.mono s3) et
      cases e1
      split at q3
      · rename_i kp
        rcases z with ⟨z, rfl⟩ | ⟨t2, u, z, rfl, ru⟩
        · exact ⟨_, dg, q3 w3 H3 (s.trans (s2.trans s3)) (r3.rp ((R.mono s).mono s2) kp)⟩
        · cases z
      · exact q3.elim
    · exact q3.elim
  · exact q.elim
theorem sj_putD (hu : X.A.units + 64 < cLine) (i : Nat) (he : EJ X EX e u) (hk : EJ X EX c k) (hN : X.N[i]? = some x := by rfl) (hv : Vis X.env.scope x := by first | exact Or.inl rfl | exact Or.inr (Or.inl rfl) | exact Or.inr (Or.inr rfl)) (hd : (x == ("__debug__" : Str)) = false := by decide) (hcd : (x == ("__classdict__" : Str)) = false := by decide)
    (hs : swapsWith e (some (.Subscript (.Name x p) c pos')) pos.line X.env = pure false := by rfl) :
    SJ X EX (.Assign [.Subscript (.Name x p) c pos'] e pos) (fPutD i u k) := by
  obtain ⟨t, pe, kk⟩ := he.ex
  obtain ⟨t2, pe2, kk2⟩ := hk.ex
  have q1 : PE X (.Name x p) (tVar i) := pe_var hN hv hd hcd
  refine ⟨⟨_, ps_dput (by omega) q1 pe2 pe hs, fun B H0 O env σ H D R q => ?_⟩⟩
  refine kk B H0 O env σ H _ R ((sOf_post R q).mono (fun _ _ x => x) fun r q v H1 s r1 => ?_)
  split at q
  · rename_i d hl
    have R1 := R.mono s
    obtain ⟨a, ho, h1, h2, h3, h4⟩ := R1.slot i _ hl
    refine ⟨_, h2, ?_⟩
    refine kk2 B H0 O env σ H1 _ R1 ((sOf_post R1 ((show SPost X EX B H0 O H D _ from q).up (Same.keepB s))).mono (fun _ _ x => x) fun y q2 w H2 s2 r2 => ?_)
    split at q2
    · rename_i kp
      split at q2
      · rename_i d' ed
        have R2 := R1.mono s2
        have rv := (r1.mono s2).rp R kp
        unfold putDO at ed
        split at ed
        · rename_i l
          split at ed
          · rename_i hlen
            cases ek : y.d.key with
            | none => rw [ek] at ed; cases ed
            | some k =>
              rw [ek] at ed
              cases ed
              cases h4 with
              | dik e4 h4 =>
                have ew : w = kV k := rp_key r2.rp0 ek
                refine ⟨a, _, rfl, by rw [ew]; exact DPut.k (s2 _ _ h3) (by rw [← putD_len e4]; exact hlen), ?_⟩
                obtain ⟨R3, k3⟩ := R2.change hl h1 (.dik (putD_keys e4 k r.d v) (putD_vals e4 (h4.same s2) k rv))
                exact q2 O σ _ R3 ((Same.keepB s2).trans k3)
          · cases ed
        · rename_i l
          split at ed
          · rename_i ts et
            split at ed
            · rename_i hlen
              cases ek : T.keys ts with
              | none => rw [ek] at ed; cases ed
              | some k =>
                rw [ek] at ed
                cases ed
                cases h4 with
                | dit e4 h4 =>
                  obtain ⟨b, ws, rfl, h5, h6⟩ := r2.tup et
                  rw [keys_vals h6 ek] at h5
                  refine ⟨a, _, rfl, DPut.t (s2 _ _ h3) h5 (by rw [← putD_len e4]; exact hlen), ?_⟩
                  obtain ⟨R3, k3⟩ := R2.change hl h1 (.dit (putD_keys e4 k r.d v) (putD_vals e4 (h4.same s2) k rv))
                  exact q2 O σ _ R3 ((Same.keepB s2).trans k3)
            · cases ed
          · cases ed
        · cases ed
      · exact q2.elim
    · exact q2.elim
  · exact q.elim
end
/-! list(d) -/
def keyT : Key → T
  | .inl i => .int i
  | .inr x => .str x
def listKR : List R → Res R
  | [x] => match x.d with
    | .dik l => if (l.all fun p => match p.1 with | .inl _ => true | .inr x => PyData.strOk x) = true then .ok (.fr (.lst (l.map fun p => keyT p.1))) else .bad
    | _ => .bad
  | _ => .bad
theorem calli_listK {X : Cx} : CallI X rListD listKR := by
  intro B H0 O env σ Hs H rs vs Q xc R s rx p
  unfold listKR at p
  split at p
  · obtain ⟨v, rfl, r1⟩ := rx.one
    split at p
    · rename_i l e
      split at p
      · rename_i ok
        obtain ⟨a, us, rfl, h1, h2, h3⟩ := r1.dik e
        unfold rListD
        refine ⟨a, us, rfl, h1, fun q nq => p _ _ (Same.new nq) (RR.newL R s ⟨by simpa using congrArg List.length h2, fun i t u a' b' => ?_⟩ nq)⟩
        rw [List.getElem?_map] at a' b'
        cases e1 : l[i]? with
        | none => rw [e1] at a'; cases a'
        | some p1 =>
          cases e2 : us[i]? with
          | none => rw [e2] at b'; cases b'
          | some q1 =>
            rw [e1] at a'
            rw [e2] at b'
            have ek : p1.1 = q1.1 := by
              have z1 : (l.map (·.1))[i]? = some p1.1 := by rw [List.getElem?_map, e1]; rfl
              have z2 : (us.map (·.1))[i]? = some q1.1 := by rw [List.getElem?_map, e2]; rfl
              rw [h2, z2] at z1
              exact (Option.some.inj z1).symm
            cases a'; cases b'
            have okp := List.all_eq_true.mp ok p1 (List.mem_of_getElem? e1)
            show Rp X.K H _ (keyT p1.1) (kV q1.1)
            rw [← ek]
            cases h : p1.1 with
            | inl j => exact .int j
            | inr y =>
              rw [h] at okp
              exact .str y okp
      · exact p.elim
    · exact p.elim
  · exact p.elim
/-! any(list of truths) -/
def T.asBl : T → Option Bool
  | .bl b => some b
  | _ => none
def anyR : List R → Res R
  | [x] => match x.d with
    | .lst l => (match l.mapM T.asBl with
      | some bs => .ok (.sh (.bl (bs.any id)))
      | none => .bad)
    | _ => .bad
  | _ => .bad
theorem asBl_all {K : PySem.W.Frag} {H : Hp} {Y : Xs} : ∀ {ts : List T} {us : List V} {bs : List Bool}, RpAll K H Y ts us → ts.mapM T.asBl = some bs → us = bs.map V.bl
  | [], [], bs, _, e => by cases e; rfl
  | [], _ :: _, _, r, _ => by cases r.1
  | _ :: _, [], _, r, _ => by cases r.1
  | t :: ts, u :: us, bs, r, e => by
    rw [List.mapM_cons] at e
    cases e1 : t.asBl with
    | none => rw [e1] at e; cases e
    | some b =>
      cases e2 : ts.mapM T.asBl with
      | none => rw [e1, e2] at e; cases e
      | some bs' =>
        rw [e1, e2] at e
        cases e
        have : t = .bl b := by cases t <;> cases e1; rfl
        rw [this] at r
        rw [rp_bl r.head, asBl_all r.tail e2]
        rfl
theorem calli_any {X : Cx} : CallI X (rAny X.K) anyR := by
  intro B H0 O env σ Hs H rs vs Q xc R s rx p
  unfold anyR at p
  split at p
  · obtain ⟨v, rfl, r1⟩ := rx.one
    split at p
    · rename_i l e
      split at p
      · rename_i bs eb
        obtain ⟨a, us, rfl, e2, e3⟩ := r1.lst e
        rw [asBl_all e3 eb] at e2
        exact ⟨a, bs, rfl, SqL.of e2, p _ H (Same.refl H) (Rp.bl _)⟩
      · exact p.elim
    · exact p.elim
  · exact p.elim
/-! y = xs.pop()[k] -/
def fPopIx (j i : Nat) (k : En → Res R) (env : En) : Out := match env[i]? with
  | some (.ow (.lst l)) => (match l.getLast? with
    | some t => sOf k (fun y env => match ixR (.sh t) y with
      | .ok (.sh tt) => .nx (env.set j (.fz tt))
      | _ => .bad) (env.set i (.ow (.lst l.dropLast)))
    | none => .bad)
  | _ => .bad
section
variable {X : Cx} {EX : L2.St → XK} {c : Expr} {k : En → Res R} {p p2 pos pos' pos2 apos : Pos} {i j : Nat} {x y : Str}
theorem sj_popIx (j i : Nat) (hk : EJ X EX c k) (hnd : X.N.Nodup) (hs0 : PlainIx c) (hN : X.N[i]? = some x := by rfl) (hv : Vis X.env.scope x := by first | exact Or.inl rfl | exact Or.inr (Or.inl rfl) | exact Or.inr (Or.inr rfl)) (hd : (x == ("__debug__" : Str)) = false := by decide) (hcd : (x == ("__classdict__" : Str)) = false := by decide)
    (hi : X.N[j]? = some y := by rfl) (hx : Loc X.env.scope y := by first | exact Or.inl rfl | exact Or.inr rfl)
    (hs : swapsWith (.Subscript (.Call (.Attribute (.Name x p) "pop" apos) [] [] pos') c pos2) (some (.Name y p2)) pos.line X.env = pure false := by rfl)
    (hf : X.fn y = true ∨ X.env.scope.names.lookup y = some .local := by first | exact .inl rfl | exact .inr rfl)
    (hb : attributeBase (.Name x p) "pop" X.env (eval (.Name x p) X.env) = eval (.Name x p) X.env := by rfl) (hl : (apos.endLine == pos'.line) = true := by rfl) :
    SJ X EX (.Assign [.Name y p2] (.Subscript (.Call (.Attribute (.Name x p) "pop" apos) [] [] pos') c pos2) pos) (fPopIx j i k) := by
  obtain ⟨t, pe, kk⟩ := hk.ex
  have q1 : PE X (.Name x p) (tVar i) := pe_var hN hv hd hcd
  refine ⟨⟨_, ps_set hnd hi hx (pe_ix ix_seq (pe_bm0 PySem.F.plainAttrs_list PySem.F.slot_list_pop PySem.F.type_list_pop mt_pop q1 hb hl) pe hs0) hs hf, fun B H0 O env σ H D R q => ?_⟩⟩
  unfold fPopIx at q
  split at q
  · rename_i l hl
    obtain ⟨a, us, h1, h2, h3, h4⟩ := own_lst R hl
    split at q
    · rename_i t et
      rw [List.getLast?_eq_getElem?] at et
      obtain ⟨w, e1, e2⟩ := h4.get et
      rw [h4.1] at e1
      refine ⟨_, h2, tyL h3, a, us, w, rfl, rfl, h3, e1, ?_⟩
      obtain ⟨R2, k2⟩ := R.change (d' := .lst l.dropLast) (ho' := .lst us.dropLast) hl h1 (.lst h4.dropLast)
      refine kk B H0 O _ σ _ _ R2 ((sOf_post R2 ((show SPost X EX B H0 O H D _ from q).up k2)).mono (fun _ _ x => x) fun y q3 v H3 s3 r3 => ?_)
      split at q3
      · rename_i tt ett
        refine opi_ix B H0 O _ σ _ H3 (.sh t) y w v _ (fun _ _ => True) R2 s3 (show Rp _ _ _ t w from (e2.keep k2).same s3) r3 ?_
        rw [ett]
        intro u H4 s4 r4
        have R4 := (R2.mono s3).mono s4
        obtain ⟨O', R5, k5, _⟩ := R4.store (r := .sh tt) (Same.refl _) r4 rfl j
        exact q3 O' _ _ R5 ((Same.keepB (s3.trans s4)).trans k5)
      · exact q3.elim
    · exact q.elim
  · exact q.elim
end
/-! ### simp forms -/
section
variable {env : En} {f g h u k : En → Res R} {x y z : R} {i j n : Nat}
def anyT (d : T) : Res R := anyR [.sh d]
@[simp] theorem anyR_eq : anyR [x] = anyT x.d := rfl
theorem mapM_bl {A : Type} (p : A → Bool) : ∀ l : List A, (l.map fun a => T.bl (p a)).mapM T.asBl = some (l.map p)
  | [] => rfl
  | a :: l => by rw [List.map_cons, List.mapM_cons, mapM_bl p l]; rfl
@[simp] theorem anyT_bl {A : Type} (p : A → Bool) (l : List A) : anyT (.lst (l.map fun a => T.bl (p a))) = .ok (.sh (.bl (l.any p))) := by
  show (match (l.map fun a => T.bl (p a)).mapM T.asBl with
      | some bs => Res.ok (R.sh (.bl (bs.any id)))
      | none => .bad) = _
  rw [mapM_bl]
  simp [List.any_map]
def encI (d : List (Int × Int)) : List (Key × T) := d.map fun e => (.inl e.1, .int e.2)
theorem fndK_I (t : Int) : ∀ d : List (Int × Int), fndK (encI d) (.inl t) = (fndK d t).map T.int
  | [] => rfl
  | e :: d => by
    have ih := fndK_I t d
    unfold fndK encI at ih ⊢
    rw [List.map_cons, List.find?_cons, List.find?_cons]
    by_cases c : e.1 = t
    · simp [c]
    · have c' : ¬ (Sum.inl e.1 : Key) = .inl t := fun z => c (Sum.inl.inj z)
      simp only [c, c', decide_false]
      exact ih
theorem putD_I (t v : Int) (d : List (Int × Int)) : putD (encI d) (.inl t) (T.int v) = encI (putD d t v) := by
  have ek : ((encI d).any fun kv => decide (kv.1 = (.inl t : Key))) = (d.any fun kv => decide (kv.1 = t)) := by
    unfold encI
    rw [List.any_map]
    congr 1
    funext e
    simp
  unfold putD
  rw [ek]
  split
  · unfold encI
    rw [List.map_map, List.map_map]
    congr 1
    funext e
    simp only [Function.comp_apply]
    by_cases c : e.1 = t
    · simp [c]
    · simp [c]
  · simp [encI]
theorem encI_len (d : List (Int × Int)) : (encI d).length = d.length := by simp [encI]
@[simp] theorem isD_dik (l : List (Key × T)) : T.isD (.dik l) = true := rfl
@[simp] theorem isD_dit (l : List (List Key × T)) : T.isD (.dit l) = true := rfl
@[simp] theorem fDg2_eq : fDg2 f g h env = (f env).bind fun x => if x.d.isD = true then (g env).bind fun y => (h env).bind fun z => dg2R x y z else .bad := rfl
@[simp] theorem fDg1_eq : fDg1 f g env = (f env).bind fun x => if x.d.isD = true then (g env).bind fun y => dg1R x y else .bad := rfl
@[simp] theorem dg2R_I (d : List (Int × Int)) (t v : Int) : dg2R (.bo n (.dik (encI d))) (.sh (.int t)) (.sh (.int v)) = .ok (.sh (.int ((fndK d t).getD v))) := by
  show (match (some (fndK (encI d) (.inl t)) : Option (Option T)) with
    | some (some t) => Res.ok (R.sh t)
    | some none => if R.kp (.sh (.int v)) = true then .ok (.sh (.int v)) else .bad
    | none => .bad) = _
  rw [fndK_I]
  cases fndK d t <;> rfl
theorem dgR_I (d : List (Int × Int)) (t v : Int) (e : fndK d t = some v) : dgR (.bo n (.dik (encI d))) (.sh (.int t)) = .ok (.sh (.int v)) := by
  show (match (some (fndK (encI d) (.inl t)) : Option (Option T)) with
    | some (some t) => Res.ok (R.sh t)
    | _ => .bad) = _
  rw [fndK_I, e]
  rfl
theorem dinR_I (d : List (Int × Int)) (t : Int) : dinR (.sh (.int t)) (.bo n (.dik (encI d))) = .ok (.sh (.bl (fndK d t).isSome)) := by
  show (match (some (fndK (encI d) (.inl t)) : Option (Option T)) with
    | some r => Res.ok (R.sh (.bl r.isSome))
    | none => .bad) = _
  rw [fndK_I]
  cases fndK d t <;> rfl
def putE (s : Option Sl) (a b : Res R) (i : Nat) (env : En) : Out := a.out (fun r env => match s with
  | some (.ow d) => b.out (fun y env => if r.kp = true then (match putDO d y.d r.d with
      | some d' => .nx (env.set i (.ow d'))
      | none => .bad) else .bad) env
  | _ => .bad) env
@[simp] theorem fPutD_eq : fPutD i f k env = putE env[i]? (f env) (k env) i env := by
  unfold fPutD putE sOf
  rfl
@[simp] theorem putE_I (d : List (Int × Int)) (t v : Int) : putE (some (.ow (.dik (encI d)))) (.ok (.sh (.int v))) (.ok (.sh (.int t))) i env = if d.length < sizeLine then .nx (env.set i (.ow (.dik (encI (putD d t v))))) else .bad := by
  show (match putDO (.dik (encI d)) (.int t) (.int v) with
      | some d' => Out.nx (env.set i (.ow d'))
      | none => .bad) = _
  have e : putDO (.dik (encI d)) (.int t) (.int v) = if d.length < sizeLine then some (.dik (encI (putD d t v))) else none := by
    unfold putDO
    simp only [encI_len]
    split
    · rw [← putD_I]; rfl
    · rfl
  rw [e]
  by_cases c : d.length < sizeLine
  · rw [if_pos c, if_pos c]
  · rw [if_neg c, if_neg c]
@[simp] theorem listKR_I (d : List (Int × Int)) : listKR [.bo n (.dik (encI d))] = .ok (.fr (.lst ((d.map (·.1)).map T.int))) := by
  have e : ((encI d).all fun p => match p.1 with | .inl _ => true | .inr x => PyData.strOk x) = true := by
    unfold encI
    rw [List.all_map, List.all_eq_true]
    intro x _
    rfl
  show (if ((encI d).all fun p => match p.1 with | .inl _ => true | .inr x => PyData.strOk x) = true then Res.ok (R.fr (.lst ((encI d).map fun p => keyT p.1))) else .bad) = _
  rw [if_pos e]
  simp [encI, keyT]
def ixS (a : Res R) (j : Nat) (env : En) : Out := match a with
  | .ok (.sh tt) => .nx (env.set j (.fz tt))
  | _ => .bad
@[simp] theorem ixS_ok (t : T) : ixS (.ok (.sh t)) j env = .nx (env.set j (.fz t)) := rfl
def popIxO (o : Option T) (l : List T) (k : En → Res R) (j i : Nat) (env : En) : Out := match o with
  | some t => (k (env.set i (.ow (.lst l.dropLast)))).out (fun y env => ixS (ixR (.sh t) y) j env) (env.set i (.ow (.lst l.dropLast)))
  | none => .bad
def popIxS (s : Option Sl) (k : En → Res R) (j i : Nat) (env : En) : Out := match s with
  | some (.ow (.lst l)) => popIxO l.getLast? l k j i env
  | _ => .bad
@[simp] theorem fPopIx_eq : fPopIx j i k env = popIxS env[i]? k j i env := by
  unfold fPopIx popIxS popIxO ixS sOf
  rfl
@[simp] theorem popIxS_snoc (l : List T) (t : T) : popIxS (some (.ow (.lst (l ++ [t])))) k j i env = (k (env.set i (.ow (.lst l)))).out (fun y env => ixS (ixR (.sh t) y) j env) (env.set i (.ow (.lst l))) := by
  unfold popIxS popIxO
  simp
end
end Tr
namespace PG
open Tr PySem L2
def g_merged_1 (d : T) (env : En) : Option En := (gT 2 (gsC (gN 2) (gsC (gN 3) gsN))) d env
def b_merged_1 (env : En) : Out := (fFg [2, 3] (fFg [2, 3] (fIfS (fAnd (c2 neR (fV 1) (fLst fN)) (c2 leR (fV 2) (b2 addR (b2 ixR (b2 ixR (fV 1) (negF (fC (.int 1)))) (fC (.int 1))) (fC (.int 1)))))
    (fFg [3] (fPut 1 (fTup (fA (b2 ixR (b2 ixR (fV 1) (negF (fC (.int 1)))) (fC (.int 0))) (fA (fB maxR (fA (b2 ixR (b2 ixR (fV 1) (negF (fC (.int 1)))) (fC (.int 1))) (fA (fV 3) fN))) fN))) (negF (fC (.int 1)))))
    (fFg [2, 3] (fApp 1 (fTup (fA (fV 2) (fA (fV 3) fN)))))))) env
def b_merged (env : En) : Out :=
  (fSeq (fSet 1 (fLst fN))
    (fSeq (fFg [0] (fFor (iL (fV 0)) g_merged_1 b_merged_1))
    (fRet (fV 1)))) env
abbrev F_merged : List T → Res R := runF 4 b_merged
theorem F_merged_eq (a0 : T) : F_merged [a0] = (b_merged [.fz a0, .no, .no, .no]).res := rfl
def g_has_turn_1 (d : T) (env : En) : Option En := (gT 2 (gsC (gN 2) (gsC (gN 3) gsN))) d env
def c_has_turn_1 (env : En) : Res Bool := fYes env
def e_has_turn_1 (env : En) : Res R := (ch2 leR leR (fV 2) (fV 1) (fV 3)) env
def b_has_turn (env : En) : Out :=
  (fRet (fB anyR (fA (fComp [2, 3] (iL (fV 0)) g_has_turn_1 c_has_turn_1 e_has_turn_1) fN))) env
abbrev F_has_turn : List T → Res R := runF 4 b_has_turn
theorem F_has_turn_eq (a0 a1 : T) : F_has_turn [a0, a1] = (b_has_turn [.fz a0, .fz a1, .no, .no]).res := rfl
def g_turn_count_1 (d : T) (env : En) : Option En := (gT 2 (gsC (gN 1) (gsC (gN 2) gsN))) d env
def c_turn_count_1 (env : En) : Res Bool := fYes env
def e_turn_count_1 (env : En) : Res R := (b2 addR (b2 subR (fV 2) (fV 1)) (fC (.int 1))) env
def b_turn_count (env : En) : Out :=
  (fRet (fB sumR (fA (fComp [1, 2] (iL (fV 0)) g_turn_count_1 c_turn_count_1 e_turn_count_1) fN))) env
abbrev F_turn_count : List T → Res R := runF 3 b_turn_count
theorem F_turn_count_eq (a0 : T) : F_turn_count [a0] = (b_turn_count [.fz a0, .no, .no]).res := rfl
def g_turn_count_in_1 (d : T) (env : En) : Option En := (gT 2 (gsC (gN 3) (gsC (gN 4) gsN))) d env
def c_turn_count_in_1 (env : En) : Res Bool := fYes env
def e_turn_count_in_1 (env : En) : Res R := (fB maxR (fA (fC (.int 0)) (fA (b2 addR (b2 subR (fB minR (fA (fV 4) (fA (fV 2) fN))) (fB maxR (fA (fV 3) (fA (fV 1) fN)))) (fC (.int 1))) fN))) env
def b_turn_count_in (env : En) : Out :=
  (fRet (fB sumR (fA (fComp [3, 4] (iL (fV 0)) g_turn_count_in_1 c_turn_count_in_1 e_turn_count_in_1) fN))) env
abbrev F_turn_count_in : List T → Res R := runF 5 b_turn_count_in
theorem F_turn_count_in_eq (a0 a1 a2 : T) : F_turn_count_in [a0, a1, a2] = (b_turn_count_in [.fz a0, .fz a1, .fz a2, .no, .no]).res := rfl
def b_joined (env : En) : Out :=
  (fRet (fCall F_merged (fA (fB sortR (fA (b2 addR (fV 0) (fV 1)) fN)) fN))) env
abbrev F_joined : List T → Res R := runF 2 b_joined
theorem F_joined_eq (a0 a1 : T) : F_joined [a0, a1] = (b_joined [.fz a0, .fz a1]).res := rfl
def c_shared_2 (env : En) : Res Bool := (fAnd (c2 ltR (fV 3) (fB lenR (fA (fV 1) fN))) (c2 ltR (b2 ixR (b2 ixR (fV 1) (fV 3)) (fC (.int 1))) (fV 4))) env
def b_shared_2 (env : En) : Out := (fAug false 3 (fC (.int 1))) env
def c_shared_3 (env : En) : Res Bool := (fAnd (c2 ltR (fV 6) (fB lenR (fA (fV 1) fN))) (c2 leR (b2 ixR (b2 ixR (fV 1) (fV 6)) (fC (.int 0))) (fV 5))) env
def b_shared_3 (env : En) : Out := (fSeq (fApp 2 (fTup (fA (fB maxR (fA (fV 4) (fA (b2 ixR (b2 ixR (fV 1) (fV 6)) (fC (.int 0))) fN))) (fA (fB minR (fA (fV 5) (fA (b2 ixR (b2 ixR (fV 1) (fV 6)) (fC (.int 1))) fN))) fN))))
    (fAug false 6 (fC (.int 1)))) env
def g_shared_1 (d : T) (env : En) : Option En := (gT 2 (gsC (gN 4) (gsC (gN 5) gsN))) d env
def b_shared_1 (env : En) : Out := (fFg [4, 5, 6] (fSeq (fWh whN c_shared_2 b_shared_2)
    (fSeq (fSetZ 6 (fV 3))
    (fFg [4, 5, 6] (fWh whN c_shared_3 b_shared_3))))) env
def b_shared (env : En) : Out :=
  (fSeq (fSet 2 (fLst fN))
    (fSeq (fSetZ 3 (fC (.int 0)))
    (fSeq (fFg [0, 1, 3] (fFor (iL (fV 0)) g_shared_1 b_shared_1))
    (fRet (fV 2))))) env
abbrev F_shared : List T → Res R := runF 7 b_shared
theorem F_shared_eq (a0 a1 : T) : F_shared [a0, a1] = (b_shared [.fz a0, .fz a1, .no, .no, .no, .no, .no]).res := rfl
def g_less_2 (d : T) (env : En) : Option En := (gT 2 (gsC (gN 6) (gsC (gN 7) gsN))) d env
def b_less_2 (env : En) : Out := (fFg [6, 7] (fSeq (fIfS (fOr (c2 ltR (fV 7) (fV 5)) (c2 gtR (fV 6) (fV 4)))
    fCt
    fNx)
    (fSeq (fFg [5, 6] (fIfS (c2 ltR (fV 5) (fV 6))
    (fFg [5, 6] (fApp 2 (fTup (fA (fV 5) (fA (b2 subR (fV 6) (fC (.int 1))) fN)))))
    fNx))
    (fFg [7] (fSetZ 5 (b2 addR (fV 7) (fC (.int 1)))))))) env
def g_less_1 (d : T) (env : En) : Option En := (gT 2 (gsC (gN 3) (gsC (gN 4) gsN))) d env
def b_less_1 (env : En) : Out := (fFg [3, 4, 5, 6, 7] (fSeq (fFg [3] (fSetZ 5 (fV 3)))
    (fSeq (fFor (iL (fV 1)) g_less_2 b_less_2)
    (fFg [4, 5] (fIfS (c2 leR (fV 5) (fV 4))
    (fFg [4, 5] (fApp 2 (fTup (fA (fV 5) (fA (fV 4) fN)))))
    fNx))))) env
def b_less (env : En) : Out :=
  (fSeq (fSet 2 (fLst fN))
    (fSeq (fFg [0, 1] (fFor (iL (fV 0)) g_less_1 b_less_1))
    (fRet (fV 2)))) env
abbrev F_less : List T → Res R := runF 8 b_less
theorem F_less_eq (a0 a1 : T) : F_less [a0, a1] = (b_less [.fz a0, .fz a1, .no, .no, .no, .no, .no, .no]).res := rfl
end PG
namespace SpanM
/-! ### kept forms -/
def cov (l : List (Int × Int)) (t : Int) : Prop := ∃ p ∈ l, p.1 ≤ t ∧ t ≤ p.2
def Kept (l : List (Int × Int)) : Prop := l.Pairwise (fun p q => p.2 + 1 < q.1) ∧ ∀ p ∈ l, p.1 ≤ p.2
theorem kept_tail {p : Int × Int} {l : List (Int × Int)} (h : Kept (p :: l)) : Kept l := ⟨(List.pairwise_cons.mp h.1).2, fun q m => h.2 q (List.mem_cons_of_mem _ m)⟩
theorem cov_tail {p : Int × Int} {l : List (Int × Int)} (h : Kept (p :: l)) (t : Int) : cov l t ↔ cov (p :: l) t ∧ p.2 < t := by
  have h1 := (List.pairwise_cons.mp h.1).1
  constructor
  · rintro ⟨q, m, e⟩
    have := h1 q m
    exact ⟨⟨q, List.mem_cons_of_mem _ m, e⟩, by omega⟩
  · rintro ⟨⟨q, m, e⟩, z⟩
    rcases List.mem_cons.mp m with rfl | m
    · omega
    · exact ⟨q, m, e⟩
theorem kept_first {p : Int × Int} {l : List (Int × Int)} (h : Kept (p :: l)) {t : Int} (c : cov (p :: l) t) : p.1 ≤ t := by
  obtain ⟨q, m, e⟩ := c
  rcases List.mem_cons.mp m with rfl | m
  · exact e.1
  · have := (List.pairwise_cons.mp h.1).1 q m
    have := h.2 p List.mem_cons_self
    omega
theorem kept_same : ∀ {l m : List (Int × Int)}, Kept l → Kept m → (∀ t, cov l t ↔ cov m t) → l = m
  | [], [], _, _, _ => rfl
  | [], q :: m, _, hm, h => by
    obtain ⟨p, z, _⟩ := (h q.1).mpr ⟨q, List.mem_cons_self, Int.le_refl _, hm.2 q List.mem_cons_self⟩
    cases z
  | p :: l, [], hl, _, h => by
    obtain ⟨q, z, _⟩ := (h p.1).mp ⟨p, List.mem_cons_self, Int.le_refl _, hl.2 p List.mem_cons_self⟩
    cases z
  | p :: l, q :: m, hl, hm, h => by
    have hp := hl.2 p List.mem_cons_self
    have hq := hm.2 q List.mem_cons_self
    have e1 : p.1 = q.1 := by
      have a := kept_first hm ((h p.1).mp ⟨p, List.mem_cons_self, Int.le_refl _, hp⟩)
      have b := kept_first hl ((h q.1).mpr ⟨q, List.mem_cons_self, Int.le_refl _, hq⟩)
      omega
    have no : ∀ {p : Int × Int} {l : List (Int × Int)}, Kept (p :: l) → ¬ cov (p :: l) (p.2 + 1) := fun {p l} hk ⟨r, z, e⟩ => by
      rcases List.mem_cons.mp z with rfl | z
      · omega
      · have := (List.pairwise_cons.mp hk.1).1 r z; omega
    have e2 : p.2 = q.2 := by
      rcases Int.lt_trichotomy p.2 q.2 with z | z | z
      · exact (no hl ((h _).mpr ⟨q, List.mem_cons_self, by omega, by omega⟩)).elim
      · exact z
      · exact (no hm ((h _).mp ⟨p, List.mem_cons_self, by omega, by omega⟩)).elim
    have e3 : p = q := Prod.ext e1 e2
    rw [kept_same (kept_tail hl) (kept_tail hm) fun t => by rw [cov_tail hl, cov_tail hm, h t, e2], e3]
theorem cov_append {l m : List (Int × Int)} {t : Int} : cov (l ++ m) t ↔ cov l t ∨ cov m t := by
  unfold cov
  simp only [List.mem_append]
  constructor
  · rintro ⟨p, h | h, e⟩
    · exact .inl ⟨p, h, e⟩
    · exact .inr ⟨p, h, e⟩
  · rintro (⟨p, h, e⟩ | ⟨p, h, e⟩)
    · exact ⟨p, .inl h, e⟩
    · exact ⟨p, .inr h, e⟩
theorem cov_one {p : Int × Int} {t : Int} : cov [p] t ↔ p.1 ≤ t ∧ t ≤ p.2 := by
  unfold cov
  simp
theorem cov_nil {t : Int} : ¬ cov [] t := fun ⟨_, h, _⟩ => nomatch h
theorem cov_perm {l m : List (Int × Int)} (h : l.Perm m) (t : Int) : cov l t ↔ cov m t := by
  unfold cov
  constructor
  · rintro ⟨p, z, e⟩; exact ⟨p, h.mem_iff.mp z, e⟩
  · rintro ⟨p, z, e⟩; exact ⟨p, h.mem_iff.mpr z, e⟩
theorem kept_snoc {l : List (Int × Int)} {p : Int × Int} (h : Kept l) (hp : p.1 ≤ p.2) (hl : ∀ q ∈ l, q.2 + 1 < p.1) : Kept (l ++ [p]) := by
  refine ⟨List.pairwise_append.mpr ⟨h.1, by simp, fun q hq r hr => ?_⟩, fun q hq => ?_⟩
  · obtain rfl : r = p := by simpa using hr
    exact hl q hq
  · rcases List.mem_append.mp hq with hq | hq
    · exact h.2 q hq
    · obtain rfl : q = p := by simpa using hq
      exact hp
/-! ### merged -/
abbrev MS := List (Int × Int) × Option (Int × Int)
def MS.out (s : MS) : List (Int × Int) := s.1 ++ s.2.toList
def mstep (s : MS) (p : Int × Int) : MS := match s.2 with
  | none => (s.1, some p)
  | some q => if p.1 ≤ q.2 + 1 then (s.1, some (q.1, max q.2 p.2)) else (s.1 ++ [q], some p)
def mrg (l : List (Int × Int)) : List (Int × Int) := (l.foldl mstep ([], none)).out
theorem mstep_ok : ∀ (xs : List (Int × Int)) (s : MS), (xs.Pairwise fun p q => p.1 ≤ q.1) → (∀ p ∈ xs, p.1 ≤ p.2) → Kept s.out → (∀ q, s.2 = some q → ∀ p ∈ xs, q.1 ≤ p.1) → (s.2 = none → s.1 = []) →
    Kept (xs.foldl mstep s).out ∧ ∀ t, cov (xs.foldl mstep s).out t ↔ cov s.out t ∨ cov xs t
  | [], s, _, _, hk, _, _ => ⟨hk, fun t => by simp [cov_nil]⟩
  | p :: xs, s, hs, hp, hk, hq, hn => by
    have hs' := List.pairwise_cons.mp hs
    have hp0 := hp p List.mem_cons_self
    have hp1 : ∀ r ∈ xs, r.1 ≤ r.2 := fun r m => hp r (List.mem_cons_of_mem _ m)
    obtain ⟨done, cur⟩ := s
    have main : Kept (mstep (done, cur) p).out ∧ (∀ t, cov (mstep (done, cur) p).out t ↔ cov (done ++ cur.toList) t ∨ (p.1 ≤ t ∧ t ≤ p.2)) ∧ (∀ q, (mstep (done, cur) p).2 = some q → ∀ r ∈ xs, q.1 ≤ r.1) ∧ ((mstep (done, cur) p).2 = none → (mstep (done, cur) p).1 = []) := by
      cases cur with
      | none =>
        obtain rfl : done = [] := hn rfl
        refine ⟨⟨by simp [mstep, MS.out], by simp [mstep, MS.out]; exact hp0⟩, fun t => ?_, fun q e r m => ?_, fun e => ?_⟩
        · simp [mstep, MS.out, cov_one, cov_nil]
        · cases e; exact hs'.1 r m
        · cases e
      | some q =>
        have hqp : q.1 ≤ p.1 := hq q rfl p List.mem_cons_self
        have hk' : Kept (done ++ [q]) := hk
        have hd := List.pairwise_append.mp hk'.1
        have kd : Kept done := ⟨hd.1, fun r m => hk'.2 r (List.mem_append_left _ m)⟩
        have hqq := hk'.2 q (by simp)
        have hl : ∀ r ∈ done, r.2 + 1 < q.1 := fun r m => hd.2.2 r m q (by simp)
        by_cases c : p.1 ≤ q.2 + 1
        · have e : mstep (done, some q) p = (done, some (q.1, max q.2 p.2)) := by simp [mstep, c]
          rw [e]
          refine ⟨kept_snoc kd (by simp only []; omega) hl, fun t => ?_, fun q' e r m => ?_, fun e => by cases e⟩
          · show cov (done ++ [(q.1, max q.2 p.2)]) t ↔ cov (done ++ [q]) t ∨ _
            rw [cov_append, cov_append, cov_one, cov_one]
            simp only []
            constructor
            · rintro (h | h)
              · exact .inl (.inl h)
              · by_cases z : t ≤ q.2
                · exact .inl (.inr ⟨h.1, z⟩)
                · exact .inr (by omega)
            · rintro ((h | h) | h)
              · exact .inl h
              · exact .inr (by omega)
              · exact .inr (by omega)
          · cases e
            have := hs'.1 r m
            simp only []; omega
        · have e : mstep (done, some q) p = (done ++ [q], some p) := by simp [mstep, c]
          rw [e]
          refine ⟨kept_snoc hk' hp0 fun r m => ?_, fun t => ?_, fun q' e r m => ?_, fun e => by cases e⟩
          · rcases List.mem_append.mp m with m | m
            · have := hl r m; omega
            · obtain rfl : r = q := by simpa using m
              omega
          · show cov (done ++ [q] ++ [p]) t ↔ cov (done ++ [q]) t ∨ _
            rw [cov_append (m := [p]), cov_one]
          · cases e; exact hs'.1 r m
    have ih := mstep_ok xs (mstep (done, cur) p) hs'.2 hp1 main.1 main.2.2.1 main.2.2.2
    refine ⟨ih.1, fun t => ?_⟩
    rw [List.foldl_cons, ih.2 t, main.2.1 t]
    show _ ↔ cov (done ++ cur.toList) t ∨ cov ([p] ++ xs) t
    rw [cov_append (l := [p]), cov_one]
    constructor
    · rintro ((h | h) | h)
      · exact .inl h
      · exact .inr (.inl h)
      · exact .inr (.inr h)
    · rintro (h | h | h)
      · exact .inl (.inl h)
      · exact .inl (.inr h)
      · exact .inr h
theorem mrg_ok {l : List (Int × Int)} (h1 : l.Pairwise fun p q => p.1 ≤ q.1) (h2 : ∀ p ∈ l, p.1 ≤ p.2) : Kept (mrg l) ∧ ∀ t, cov (mrg l) t ↔ cov l t := by
  have z := mstep_ok l ([], none) h1 h2 ⟨by simp [MS.out], by simp [MS.out]⟩ (fun q e => by cases e) (fun _ => rfl)
  refine ⟨z.1, fun t => ?_⟩
  have := z.2 t
  simpa [mrg, MS.out, cov_nil] using this
theorem srt_first (l : List (Int × Int)) : (Tr.sortP l).Pairwise fun p q => p.1 ≤ q.1 := by
  have e2 : (Tr.sortP l).Pairwise (fun a b => Tr.leP a b = true) := List.pairwise_mergeSort (le := Tr.leP) (fun a b c h k => by
    rw [Tr.leP_iff] at *; omega) (fun a b => by rw [Bool.or_eq_true, Tr.leP_iff, Tr.leP_iff]; omega) l
  exact e2.imp fun h => by rw [Tr.leP_iff] at h; omega
theorem srt_lex (l : List (Int × Int)) : (Tr.sortP l).Pairwise fun p q => p.1 < q.1 ∨ (p.1 = q.1 ∧ p.2 ≤ q.2) := by
  have e2 : (Tr.sortP l).Pairwise (fun a b => Tr.leP a b = true) := List.pairwise_mergeSort (le := Tr.leP) (fun a b c h k => by
    rw [Tr.leP_iff] at *; omega) (fun a b => by rw [Bool.or_eq_true, Tr.leP_iff, Tr.leP_iff]; omega) l
  exact e2.imp fun h => by rw [Tr.leP_iff] at h; omega
theorem srt_perm (l : List (Int × Int)) : (Tr.sortP l).Perm l := List.mergeSort_perm l Tr.leP
theorem tidy_ok {l : List (Int × Int)} (h2 : ∀ p ∈ l, p.1 ≤ p.2) : Kept (mrg (Tr.sortP l)) ∧ ∀ t, cov (mrg (Tr.sortP l)) t ↔ cov l t := by
  have z := mrg_ok (srt_first l) fun p m => h2 p ((srt_perm l).mem_iff.mp m)
  exact ⟨z.1, fun t => (z.2 t).trans (cov_perm (srt_perm l) t)⟩
theorem mrg_len (l : List (Int × Int)) : (mrg l).length ≤ l.length := by
  have : ∀ (l : List (Int × Int)) (s : MS), (l.foldl mstep s).out.length ≤ s.out.length + l.length := by
    intro l
    induction l with
    | nil => intro s; simp
    | cons p l ih =>
      intro s
      have h := ih (mstep s p)
      have h2 : (mstep s p).out.length ≤ s.out.length + 1 := by
        obtain ⟨d, c⟩ := s
        cases c with
        | none => simp [mstep, MS.out]
        | some q => by_cases z : p.1 ≤ q.2 + 1 <;> simp [mstep, MS.out, z]
      rw [List.foldl_cons, List.length_cons]
      omega
  have := this l ([], none)
  simpa [mrg, MS.out] using this
theorem tidy_bnd {l : List (Int × Int)} {a b : Int} (h : ∀ p ∈ l, a ≤ p.1 ∧ p.1 ≤ p.2 ∧ p.2 ≤ b) : ∀ p ∈ mrg (Tr.sortP l), a ≤ p.1 ∧ p.1 ≤ p.2 ∧ p.2 ≤ b := by
  intro p m
  obtain ⟨k, c⟩ := tidy_ok fun p m => (h p m).2.1
  have hp := k.2 p m
  obtain ⟨q, mq, e⟩ := (c p.1).mp ⟨p, m, Int.le_refl _, hp⟩
  obtain ⟨q2, mq2, e2⟩ := (c p.2).mp ⟨p, m, hp, Int.le_refl _⟩
  have := h q mq
  have := h q2 mq2
  omega
theorem tidy_len (l : List (Int × Int)) : (mrg (Tr.sortP l)).length ≤ l.length := by
  have := mrg_len (Tr.sortP l)
  rw [(srt_perm l).length_eq] at this
  exact this
/-! ### the sweep over edges -/
/-- edges: (turn, 0) a begin, (turn, 1) an end -/
def dp (l : List (Int × Int)) : Int := (l.map fun e => 1 - 2 * e.2).sum
structure SW where
  deep : Int
  begin : Int
  found : List (Int × Int)
def sstep (s : SW) (e : Int × Int) : SW :=
  let b := if s.deep = 0 then e.1 else s.begin
  let d := s.deep + 1 - 2 * e.2
  ⟨d, b, if d = 0 then s.found ++ [(b, e.1 - 1)] else s.found⟩
def edges (l : List (Int × Int)) : List (Int × Int) := l.map (fun p => (p.1, (0 : Int))) ++ l.map (fun p => (p.2 + 1, (1 : Int)))
/-- begins, ends that lie at or ahead of t -/
def c0 (l : List (Int × Int)) (t : Int) : Int := (l.countP fun e => e.2 == 0 && decide (e.1 ≤ t) : Nat)
def c1 (l : List (Int × Int)) (t : Int) : Int := (l.countP fun e => e.2 == 1 && decide (e.1 ≤ t) : Nat)
def cb (l : List (Int × Int)) (t : Int) : Int := (l.countP fun e => e.2 == 0 && decide (e.1 < t) : Nat)
theorem dp_append (l m : List (Int × Int)) : dp (l ++ m) = dp l + dp m := by simp [dp]
/-- what is below t, of begins less ends -/
def dt (l : List (Int × Int)) (t : Int) : Int := c0 l t - c1 l t
theorem dt_append (l m : List (Int × Int)) (t : Int) : dt (l ++ m) t = dt l t + dt m t := by
  simp [dt, c0, c1, List.countP_append]; omega
theorem dt_one (e : Int × Int) (t : Int) (h : e.2 = 0 ∨ e.2 = 1) : dt [e] t = if e.1 ≤ t then 1 - 2 * e.2 else 0 := by
  rcases h with h | h <;> by_cases c : e.1 ≤ t <;> simp [dt, c0, c1, h, c]
theorem dt_edges (l : List (Int × Int)) (h : ∀ p ∈ l, p.1 ≤ p.2) (t : Int) : 0 < dt (edges l) t ↔ cov l t := by
  have e : ∀ l : List (Int × Int), (∀ p ∈ l, p.1 ≤ p.2) → dt (edges l) t = ((l.countP fun p => decide (p.1 ≤ t) && decide (t ≤ p.2) : Nat) : Int) := by
    intro l h
    induction l with
    | nil => simp [dt, c0, c1, edges]
    | cons p l ih =>
      have ih := ih fun q m => h q (List.mem_cons_of_mem _ m)
      have hp := h p List.mem_cons_self
      simp only [dt, c0, c1, edges, List.countP_append, List.map_cons, List.countP_cons] at ih ⊢
      by_cases a : p.1 ≤ t <;> by_cases b : t ≤ p.2 <;> by_cases b' : p.2 + 1 ≤ t <;> simp [a, b, b'] at ih ⊢ <;> omega
  rw [e l h]
  constructor
  · intro z
    have : 0 < l.countP fun p => decide (p.1 ≤ t) && decide (t ≤ p.2) := by omega
    obtain ⟨p, m, c⟩ := List.countP_pos_iff.mp this
    simp at c
    exact ⟨p, m, c⟩
  · rintro ⟨p, m, c⟩
    have : 0 < l.countP fun p => decide (p.1 ≤ t) && decide (t ≤ p.2) := List.countP_pos_iff.mpr ⟨p, m, by simpa using c⟩
    omega
/-- each end has its begin ahead of it -/
theorem ends_le (l : List (Int × Int)) (h : ∀ p ∈ l, p.1 ≤ p.2) (t : Int) : c1 (edges l) t ≤ cb (edges l) t := by
  induction l with
  | nil => simp [c1, cb, edges]
  | cons p l ih =>
    have ih := ih fun q m => h q (List.mem_cons_of_mem _ m)
    have hp := h p List.mem_cons_self
    simp only [c1, cb, edges, List.countP_append, List.map_cons, List.countP_cons] at ih ⊢
    by_cases a : p.1 < t <;> by_cases b' : p.2 + 1 ≤ t <;> simp [a, b'] at ih ⊢ <;> omega
theorem edges_kind (l : List (Int × Int)) {e : Int × Int} (h : e ∈ edges l) : e.2 = 0 ∨ e.2 = 1 := by
  rcases List.mem_append.mp h with h | h
  · obtain ⟨p, _, rfl⟩ := List.mem_map.mp h
    exact .inl rfl
  · obtain ⟨p, _, rfl⟩ := List.mem_map.mp h
    exact .inr rfl
theorem dp_edges (l : List (Int × Int)) : dp (edges l) = 0 := by
  have : ∀ l : List (Int × Int), dp (l.map fun p => (p.1, (0 : Int))) = l.length ∧ dp (l.map fun p => (p.2 + 1, (1 : Int))) = -(l.length : Int) := by
    intro l
    induction l with
    | nil => simp [dp]
    | cons p l ih => simp [dp] at ih ⊢; omega
  unfold edges
  rw [dp_append, (this l).1, (this l).2]; omega
/-- the sweep by its invariant -/
theorem sweep (E : List (Int × Int)) (hk : ∀ e ∈ E, e.2 = 0 ∨ e.2 = 1) (hs : E.Pairwise fun p q => p.1 < q.1 ∨ (p.1 = q.1 ∧ p.2 ≤ q.2))
    (he : ∀ t, c1 E t ≤ cb E t) : ∀ (post pre : List (Int × Int)) (s : SW), E = pre ++ post → s.deep = dp pre → 0 ≤ s.deep → Kept s.found →
    (s.deep = 0 → ∀ p ∈ s.found, ∀ e ∈ post, e.2 = 0 → p.2 + 1 < e.1) → (0 < s.deep → (∀ p ∈ s.found, p.2 + 1 < s.begin) ∧ (∃ e ∈ pre, e.2 = 0 ∧ e.1 = s.begin)) →
    (∀ t, (cov s.found t ∨ (0 < s.deep ∧ s.begin ≤ t)) ↔ 0 < dt pre t) →
    Kept (post.foldl sstep s).found ∧ (dp E = 0 → ∀ t, cov (post.foldl sstep s).found t ↔ 0 < dt E t)
  | [], pre, s, hE, hd, h0, hk', _, _, hc => by
    refine ⟨hk', fun z t => ?_⟩
    rw [List.append_nil] at hE
    rw [hE] at z ⊢
    have := hc t
    rw [← this]
    have : ¬ 0 < s.deep := by omega
    simp [this]
  | e :: post, pre, s, hE, hd, h0, hk', hz, hp, hc => by
    have hs' : (pre ++ e :: post).Pairwise fun p q => p.1 < q.1 ∨ (p.1 = q.1 ∧ p.2 ≤ q.2) := hE ▸ hs
    obtain ⟨_, s2, s3⟩ := List.pairwise_append.mp hs'
    have s4 := (List.pairwise_cons.mp s2).1
    have ke : e.2 = 0 ∨ e.2 = 1 := hk e (by rw [hE]; simp)
    have kpre : ∀ q ∈ pre, q.2 = 0 ∨ q.2 = 1 := fun q m => hk q (by rw [hE]; simp [m])
    have kpost : ∀ q ∈ post, q.2 = 0 ∨ q.2 = 1 := fun q m => hk q (by rw [hE]; simp [m])
    have pre_le : ∀ q ∈ pre, q.1 ≤ e.1 := fun q m => by have := s3 q m e (by simp); omega
    -- when an end comes, as many begins are ahead
    have open1 : e.2 = 1 → 1 ≤ s.deep ∧ ((∃ q ∈ pre, q.2 = 0 ∧ q.1 = e.1) → 2 ≤ s.deep) := by
      intro e1
      have hh := he e.1
      have dpc : ∀ l : List (Int × Int), (∀ q ∈ l, q.2 = 0 ∨ q.2 = 1) → (∀ q ∈ l, q.1 ≤ e.1) → dp l = c0 l e.1 - c1 l e.1 := by
        intro l hl hle
        induction l with
        | nil => simp [dp, c0, c1]
        | cons q l ih =>
          have ih := ih (fun r m => hl r (List.mem_cons_of_mem _ m)) (fun r m => hle r (List.mem_cons_of_mem _ m))
          have a := hle q List.mem_cons_self
          simp only [dp, c0, c1, List.map_cons, List.sum_cons, List.countP_cons] at ih ⊢
          rcases hl q List.mem_cons_self with b | b <;> simp [a, b] at ih ⊢ <;> omega
      have d1 := dpc pre kpre pre_le
      -- counts of the whole
      have w1 : c1 E e.1 = c1 pre e.1 + 1 + c1 post e.1 := by
        rw [hE]
        simp only [c1, List.countP_append, List.countP_cons]
        simp [e1]; omega
      have w2 : cb E e.1 = cb pre e.1 + cb post e.1 := by
        rw [hE]
        simp only [cb, List.countP_append, List.countP_cons]
        simp [e1]
      have w3 : cb post e.1 = 0 := by
        simp only [cb]
        have : (post.countP fun x => x.2 == 0 && decide (x.1 < e.1)) = 0 := List.countP_eq_zero.mpr fun q m => by
          have := s4 q m
          simp; omega
        omega
      have w4 : 0 ≤ c1 post e.1 := by simp [c1]
      have w5 : cb pre e.1 ≤ c0 pre e.1 := by
        simp only [cb, c0]
        have : (pre.countP fun x => x.2 == 0 && decide (x.1 < e.1)) ≤ pre.countP fun x => x.2 == 0 && decide (x.1 ≤ e.1) := List.countP_mono_left fun q m h => by
          simp at h ⊢; omega
        omega
      refine ⟨by omega, ?_⟩
      rintro ⟨q, m, z1, z2⟩
      have w6 : cb pre e.1 + 1 ≤ c0 pre e.1 := by
        have : ∀ l : List (Int × Int), q ∈ l → (l.countP fun x => x.2 == 0 && decide (x.1 < e.1)) + 1 ≤ l.countP fun x => x.2 == 0 && decide (x.1 ≤ e.1) := by
          intro l hm
          induction l with
          | nil => cases hm
          | cons r l ih =>
            simp only [List.countP_cons]
            rcases List.mem_cons.mp hm with rfl | hm
            · have : (l.countP fun x => x.2 == 0 && decide (x.1 < e.1)) ≤ l.countP fun x => x.2 == 0 && decide (x.1 ≤ e.1) := List.countP_mono_left fun q m h => by
                simp at h ⊢; omega
              simp [z1, z2]; omega
            · have ih := ih hm
              by_cases a : r.1 < e.1 <;> by_cases b : r.1 ≤ e.1 <;> by_cases c : r.2 = 0 <;> simp [a, b, c] <;> omega
        have := this pre m
        simp only [cb, c0]; omega
      omega
    have dnew : (sstep s e).deep = dp (pre ++ [e]) := by
      show s.deep + 1 - 2 * e.2 = _
      rw [dp_append, hd]; simp [dp]; omega
    have dtn : ∀ t, dt (pre ++ [e]) t = dt pre t + if e.1 ≤ t then 1 - 2 * e.2 else 0 := fun t => by rw [dt_append, dt_one e t ke]
    have dtd : ∀ t, e.1 ≤ t → dt pre t = s.deep := by
      intro t ht
      have gen : ∀ l : List (Int × Int), (∀ q ∈ l, q.2 = 0 ∨ q.2 = 1) → (∀ q ∈ l, q.1 ≤ e.1) → dt l t = dp l := by
        intro l hl hle
        induction l with
        | nil => simp [dt, dp, c0, c1]
        | cons q l ih =>
          have ih := ih (fun r m => hl r (List.mem_cons_of_mem _ m)) (fun r m => hle r (List.mem_cons_of_mem _ m))
          have a := hle q List.mem_cons_self
          have a' : q.1 ≤ t := by omega
          simp only [dt, dp, c0, c1, List.map_cons, List.sum_cons, List.countP_cons] at ih ⊢
          rcases hl q List.mem_cons_self with b | b <;> simp [a', b] at ih ⊢ <;> omega
      rw [hd]
      exact gen pre kpre pre_le
    have go := sweep E hk hs he post (pre ++ [e]) (sstep s e) (by rw [hE]; simp) dnew
    rw [List.foldl_cons]
    by_cases d0 : s.deep = 0
    · -- nothing is open: a begin
      have e0 : e.2 = 0 := by
        rcases ke with z | z
        · exact z
        · have := (open1 z).1; omega
      have hst : sstep s e = ⟨1, e.1, s.found⟩ := by simp [sstep, d0, e0]
      rw [hst] at go ⊢
      refine go (by simp only []; omega) hk' (fun z => by cases z) (fun _ => ⟨fun p m => hz d0 p m e (by simp) e0, e, by simp, e0, rfl⟩) fun t => ?_
      rw [dtn t]
      have := hc t
      by_cases c : e.1 ≤ t
      · have z := dtd t c
        simp only [if_pos c, z, d0, e0]
        simp [c]
      · simp only [if_neg c, Int.add_zero]
        rw [← this]
        simp [d0, c]
    · have dpos : 0 < s.deep := by omega
      obtain ⟨hp1, eb, mb, eb0, eb1⟩ := hp dpos
      have bl : s.begin ≤ e.1 := by rw [← eb1]; exact pre_le eb mb
      by_cases dc : s.deep + 1 - 2 * e.2 = 0
      · -- the last one open ends
        have e1 : e.2 = 1 := by omega
        have sd : s.deep = 1 := by omega
        have blt : s.begin < e.1 := by
          rcases Int.lt_or_eq_of_le bl with z | z
          · exact z
          · have := (open1 e1).2 ⟨eb, mb, eb0, by omega⟩; omega
        have hst : sstep s e = ⟨0, s.begin, s.found ++ [(s.begin, e.1 - 1)]⟩ := by simp [sstep, d0, dc]
        rw [hst] at go ⊢
        refine go (by simp) (kept_snoc hk' (by simp only []; omega) hp1) (fun _ p m q mq q0 => ?_) (fun z => by simp at z) fun t => ?_
        · have h4 := s4 q mq
          rcases List.mem_append.mp m with m | m
          · have := hp1 p m; omega
          · obtain rfl : p = (s.begin, e.1 - 1) := by simpa using m
            simp only []; omega
        · rw [dtn t, cov_append, cov_one]
          have := hc t
          by_cases c : e.1 ≤ t
          · have z := dtd t c
            simp only [if_pos c, z, sd, e1]
            constructor
            · rintro ((⟨p, m, h⟩ | h) | h)
              · have := hp1 p m; omega
              · omega
              · simp at h
            · intro h; omega
          · simp only [if_neg c, Int.add_zero]
            rw [← this]
            constructor
            · rintro ((h | h) | h)
              · exact .inl h
              · exact .inr ⟨dpos, h.1⟩
              · simp at h
            · rintro (h | h)
              · exact .inl (.inl h)
              · exact .inl (.inr ⟨h.2, by omega⟩)
      · have dnn : 0 < s.deep + 1 - 2 * e.2 := by rcases ke with z | z <;> omega
        have hst : sstep s e = ⟨s.deep + 1 - 2 * e.2, s.begin, s.found⟩ := by simp [sstep, d0, dc]
        rw [hst] at go ⊢
        refine go (by simp only []; omega) hk' (fun z => by simp only [] at z; omega) (fun _ => ⟨hp1, eb, by simp [mb], eb0, eb1⟩) fun t => ?_
        rw [dtn t]
        have := hc t
        by_cases c : e.1 ≤ t
        · have z := dtd t c
          simp only [if_pos c, z]
          constructor
          · intro _; omega
          · intro _; exact .inr ⟨dnn, by omega⟩
        · simp only [if_neg c, Int.add_zero]
          rw [← this]
          constructor
          · rintro (h | h)
            · exact .inl h
            · exact .inr ⟨dpos, h.2⟩
          · rintro (h | h)
            · exact .inl h
            · exact .inr ⟨dnn, h.2⟩
def swept (l : List (Int × Int)) : List (Int × Int) := ((Tr.sortP (edges l)).foldl sstep ⟨0, 0, []⟩).found
theorem dp_perm {l m : List (Int × Int)} (h : l.Perm m) : dp l = dp m := by
  unfold dp
  induction h with
  | nil => rfl
  | cons a _ ih => simp [ih]
  | swap a b l => simp; omega
  | trans _ _ i j => rw [i, j]
theorem cnt_perm {l m : List (Int × Int)} (h : l.Perm m) : (∀ t, c0 l t = c0 m t) ∧ (∀ t, c1 l t = c1 m t) ∧ (∀ t, cb l t = cb m t) ∧ dp l = dp m :=
  ⟨fun t => by simp only [c0, h.countP_eq], fun t => by simp only [c1, h.countP_eq], fun t => by simp only [cb, h.countP_eq], dp_perm h⟩
theorem swept_ok {l : List (Int × Int)} (h : ∀ p ∈ l, p.1 ≤ p.2) : Kept (swept l) ∧ ∀ t, cov (swept l) t ↔ cov l t := by
  obtain ⟨p0, p1, pb, pd⟩ := cnt_perm (srt_perm (edges l))
  have z := sweep (Tr.sortP (edges l)) (fun e m => edges_kind l ((srt_perm _).mem_iff.mp m)) (srt_lex _) (fun t => by rw [p1, pb]; exact ends_le l h t) (Tr.sortP (edges l)) [] ⟨0, 0, []⟩ rfl (by simp [dp]) (by simp)
    ⟨by simp, by simp⟩ (by simp) (by simp) (fun t => by simp [dt, c0, c1, cov_nil])
  refine ⟨z.1, fun t => ?_⟩
  refine (z.2 (by rw [pd, dp_edges]) t).trans ?_
  have : dt (Tr.sortP (edges l)) t = dt (edges l) t := by simp only [dt, p0, p1]
  rw [this]
  exact dt_edges l h t
theorem swept_eq {l : List (Int × Int)} (h : ∀ p ∈ l, p.1 ≤ p.2) : mrg (Tr.sortP l) = swept l :=
  kept_same (tidy_ok h).1 (swept_ok h).1 fun t => ((tidy_ok h).2 t).trans ((swept_ok h).2 t).symm
/-- a kept form is its own -/
theorem tidy_kept {l : List (Int × Int)} (h : Kept l) : mrg (Tr.sortP l) = l :=
  kept_same (tidy_ok h.2).1 h (tidy_ok h.2).2
end SpanM
namespace PG
open Tr PySem L2 SpanM
@[simp] theorem pd_P (n : Nat) (j : Int × Int) : T.pd (n + 1) (encP j) = true := by simp [encP]
@[simp] theorem fl_P (n : Nat) (j : Int × Int) : T.fl (n + 1) (encP j) = true := by simp [encP]
@[simp] theorem ixP0 (p : Int × Int) : ixT (encP p) (.int 0) = .ok (.sh (.int p.1)) := by simp [encP]
@[simp] theorem ixP1 (p : Int × Int) : ixT (encP p) (.int 1) = .ok (.sh (.int p.2)) := by simp [encP]
@[simp] theorem tyn_P (p : Int × Int) : T.tyn (encP p) = some "tuple" := rfl
@[simp] theorem len_P (p : Int × Int) : lenT (encP p) = .ok (.sh (.int 2)) := rfl
theorem merged_eq (l : List (Int × Int)) (h : l.length ≤ 10000) : F_merged [.lst (l.map encP)] = .ok (.fr (.lst ((mrg l).map encP))) := by
  rw [F_merged_eq]
  have L := (forL_fold (g := g_merged_1) (b := b_merged_1) encP (fun s : MS => [.fz (.lst (l.map encP)), .ow (.lst (s.out.map encP)), .no, .no]) mstep
    (fun pre s => s.out.length ≤ pre.length ∧ (s.2 = none → s.1 = [])) l [] (fun pre a post s e hp => by
      obtain ⟨done, cur⟩ := s
      obtain ⟨hl, hn⟩ := hp
      have hlen : (done ++ cur.toList).length < 16777216 := by
        have := congrArg List.length e
        simp [MS.out] at this hl ⊢; omega
      cases cur with
      | none =>
        obtain rfl : done = [] := hn rfl
        refine ⟨?_, by simp [mstep, MS.out], fun z => by cases z⟩
        simp [g_merged_1, b_merged_1, encP, MS.out, mstep, sizeLine_eq]
      | some q =>
        have hl' : done.length + 1 < 16777216 := by simpa using hlen
        by_cases c : a.1 ≤ q.2 + 1
        · refine ⟨?_, by simp [mstep, MS.out, c] at hl ⊢; omega, fun z => by simp [mstep, c] at z⟩
          simp [g_merged_1, b_merged_1, MS.out, mstep, sizeLine_eq, c, encP]
        · refine ⟨?_, by simp [mstep, MS.out, c] at hl ⊢; omega, fun z => by simp [mstep, c] at z⟩
          simp [g_merged_1, b_merged_1, MS.out, mstep, sizeLine_eq, c, encP, hl']) ([], none) ⟨by simp [MS.out], fun _ => rfl⟩).1
  have L' : forL g_merged_1 b_merged_1 (l.map encP) [.fz (.lst (l.map encP)), .ow (.lst []), .no, .no] = .nx [.fz (.lst (l.map encP)), .ow (.lst ((mrg l).map encP)), .no, .no] := L
  simp [b_merged, sizeLine_eq, L']
theorem sortI_perm (l : List Int) : (sortI l).Perm l := List.mergeSort_perm l leI
theorem sortI_sorted (l : List Int) : (sortI l).Pairwise (· ≤ ·) := by
  have e2 : (sortI l).Pairwise (fun a b => leI a b = true) := List.pairwise_mergeSort (le := leI) (fun a b c h k => by
    simp only [leI, decide_eq_true_eq] at *; omega) (fun a b => by simp only [leI, Bool.or_eq_true, decide_eq_true_eq]; omega) l
  exact e2.imp fun h => by simpa [leI] using h
def dbl (l : List Int) : List (Int × Int) := l.map fun t => (t, t)
/-- the kept form of turns is that of the spans of one turn -/
theorem mrg_dbl (l : List Int) : mrg (dbl (sortI l)) = mrg (sortP (dbl l)) := by
  have h1 : ∀ p ∈ dbl (sortI l), p.1 ≤ p.2 := fun p m => by
    obtain ⟨t, _, rfl⟩ := List.mem_map.mp m
    exact Int.le_refl _
  have h2 : ∀ p ∈ dbl l, p.1 ≤ p.2 := fun p m => by
    obtain ⟨t, _, rfl⟩ := List.mem_map.mp m
    exact Int.le_refl _
  have z := mrg_ok (l := dbl (sortI l)) (List.pairwise_map.mpr ((sortI_sorted l).imp fun h => h)) h1
  refine kept_same z.1 (tidy_ok h2).1 fun t => ?_
  rw [z.2, (tidy_ok h2).2]
  exact cov_perm ((sortI_perm l).map _) t
end PG
namespace SpanM
/-! ### counting -/
def upS (l : List (Int × Int)) (t : Int) : Int := (l.map fun p => if p.1 ≤ t then min p.2 t - p.1 + 1 else 0).sum
def cntS (l : List (Int × Int)) (a b : Int) : Int := (l.map fun p => max 0 (min p.2 b - max p.1 a + 1)).sum
theorem cntS_ge : ∀ (l : List (Int × Int)) (a b : Int), (∀ p ∈ l, p.1 ≤ p.2) → a - 1 ≤ b → cntS l a b = upS l b - upS l (a - 1) ∧ 0 ≤ cntS l a b
  | [], a, b, _, _ => by simp [cntS, upS]
  | p :: l, a, b, h, c => by
    have ih := cntS_ge l a b (fun q m => h q (List.mem_cons_of_mem _ m)) c
    have hp := h p List.mem_cons_self
    simp only [cntS, upS, List.map_cons, List.sum_cons] at ih ⊢
    split <;> split <;> omega
theorem cntS_lt : ∀ (l : List (Int × Int)) (a b : Int), (∀ p ∈ l, p.1 ≤ p.2) → b ≤ a - 1 → cntS l a b = 0 ∧ upS l b ≤ upS l (a - 1)
  | [], a, b, _, _ => by simp [cntS, upS]
  | p :: l, a, b, h, c => by
    have ih := cntS_lt l a b (fun q m => h q (List.mem_cons_of_mem _ m)) c
    have hp := h p List.mem_cons_self
    simp only [cntS, upS, List.map_cons, List.sum_cons] at ih ⊢
    split <;> split <;> omega
theorem cntS_eq (l : List (Int × Int)) (a b : Int) (h : ∀ p ∈ l, p.1 ≤ p.2) : cntS l a b = max 0 (upS l b - upS l (a - 1)) := by
  rcases Int.le_total (a - 1) b with c | c
  · have := cntS_ge l a b h c; omega
  · have := cntS_lt l a b h c; omega
/-! ### in a set -/
def inS (l : List (Int × Int)) (t : Int) : Bool := l.any fun p => decide (p.1 ≤ t) && decide (t ≤ p.2)
theorem inS_iff {l : List (Int × Int)} {t : Int} : inS l t = true ↔ cov l t := by
  simp [inS, cov, List.any_eq_true]
/-! ### shared -/
theorem kept_pw {l : List (Int × Int)} (h : Kept l) : l.Pairwise fun p q => p.2 + 1 < q.1 ∧ p.1 ≤ p.2 ∧ q.1 ≤ q.2 :=
  List.Pairwise.imp_of_mem (fun {a b} ma mb r => ⟨r, h.2 a ma, h.2 b mb⟩) h.1
theorem kept_sub {l m : List (Int × Int)} (h : Kept l) (s : m.Sublist l) : Kept m := ⟨h.1.sublist s, fun p q => h.2 p (s.subset q)⟩
theorem take_filter {A : Type} (P : A → Bool) : ∀ {l : List A}, (l.Pairwise fun a b => P b = true → P a = true) → l.takeWhile P = l.filter P ∧ l.dropWhile P = l.filter (fun a => !P a)
  | [], _ => ⟨rfl, rfl⟩
  | a :: l, h => by
    obtain ⟨h1, h2⟩ := List.pairwise_cons.mp h
    obtain ⟨i1, i2⟩ := take_filter P h2
    cases c : P a with
    | true => simp [List.takeWhile_cons, List.dropWhile_cons, c, i1, i2]
    | false =>
      have : ∀ b ∈ l, P b = false := fun b m => by
        cases d : P b with
        | false => rfl
        | true => rw [h1 b m d] at c; cases c
      constructor
      · simp only [List.takeWhile_cons, c, List.filter_cons]
        simpa using this
      · simp only [List.dropWhile_cons, c, List.filter_cons, Bool.not_false, if_true]
        simp only [Bool.false_eq_true, if_false, List.cons.injEq, true_and]
        exact (List.filter_eq_self.mpr fun b m => by rw [this b m]; rfl).symm
def shR (p : Int × Int) (rest : List (Int × Int)) : List (Int × Int) := rest.dropWhile fun q => decide (q.2 < p.1)
def shM (p : Int × Int) (r : List (Int × Int)) : List (Int × Int) := (r.takeWhile fun q => decide (q.1 ≤ p.2)).map fun q => (max p.1 q.1, min p.2 q.2)
def shF : List (Int × Int) → List (Int × Int) → List (Int × Int)
  | [], _ => []
  | p :: one, rest => shM p (shR p rest) ++ shF one (shR p rest)
theorem shF_ok : ∀ (one rest : List (Int × Int)), Kept one → Kept rest → Kept (shF one rest) ∧ (∀ t, cov (shF one rest) t ↔ cov one t ∧ cov rest t) ∧ ∀ x ∈ shF one rest, ∃ p ∈ one, p.1 ≤ x.1
  | [], rest, _, _ => ⟨⟨.nil, fun p m => nomatch m⟩, fun t => ⟨fun h => (cov_nil h).elim, fun h => (cov_nil h.1).elim⟩, fun x m => nomatch m⟩
  | p :: one, rest, h1, h2 => by
    have pw := kept_pw h2
    have e1 := (take_filter (fun q : Int × Int => decide (q.2 < p.1)) (pw.imp fun {a b} r => by simp only [decide_eq_true_eq]; omega)).2
    have kr : Kept (shR p rest) := kept_sub h2 (List.dropWhile_sublist _)
    have e2 := (take_filter (fun q : Int × Int => decide (q.1 ≤ p.2)) ((kept_pw kr).imp fun {a b} r => by simp only [decide_eq_true_eq]; omega)).1
    obtain ⟨k1, k2, k3⟩ := shF_ok one (shR p rest) (kept_tail h1) kr
    have pp := h1.2 p List.mem_cons_self
    have mr : ∀ q, q ∈ shR p rest ↔ q ∈ rest ∧ p.1 ≤ q.2 := fun q => by
      unfold shR
      rw [e1]
      simp
    have mm : ∀ x, x ∈ shM p (shR p rest) ↔ ∃ q, q ∈ rest ∧ p.1 ≤ q.2 ∧ q.1 ≤ p.2 ∧ x = (max p.1 q.1, min p.2 q.2) := fun x => by
      unfold shM
      rw [e2, List.mem_map]
      constructor
      · rintro ⟨q, m, rfl⟩
        have m' := List.mem_filter.mp m
        have z := (mr q).mp m'.1
        exact ⟨q, z.1, z.2, by simpa using m'.2, rfl⟩
      · rintro ⟨q, m, a, b, rfl⟩
        exact ⟨q, List.mem_filter.mpr ⟨(mr q).mpr ⟨m, a⟩, by simpa using b⟩, rfl⟩
    have km : Kept (shM p (shR p rest)) := by
      refine ⟨?_, fun x m => ?_⟩
      · unfold shM
        refine List.pairwise_map.mpr ((kept_sub kr (List.takeWhile_sublist _)).1.imp fun {a b} r => ?_)
        simp only
        omega
      · obtain ⟨q, mq, a, b, rfl⟩ := (mm x).mp m
        have := h2.2 q mq
        simp only
        omega
    have gap : ∀ x ∈ shM p (shR p rest), ∀ y ∈ shF one (shR p rest), x.2 + 1 < y.1 := fun x mx y my => by
      obtain ⟨q, m, a, b, rfl⟩ := (mm x).mp mx
      obtain ⟨p', m', c⟩ := k3 y my
      have := (List.pairwise_cons.mp h1.1).1 p' m'
      simp only
      omega
    refine ⟨⟨List.pairwise_append.mpr ⟨km.1, k1.1, gap⟩, fun x m => (List.mem_append.mp m).elim (km.2 x) (k1.2 x)⟩, fun t => ?_, fun x m => ?_⟩
    · rw [shF, cov_append, k2]
      constructor
      · rintro (⟨x, m, a, b⟩ | ⟨a, b⟩)
        · obtain ⟨q, mq, c, d, rfl⟩ := (mm x).mp m
          simp only at a b
          exact ⟨⟨p, List.mem_cons_self, by omega, by omega⟩, q, mq, by omega, by omega⟩
        · obtain ⟨x, m, c⟩ := a
          obtain ⟨y, m', d⟩ := b
          exact ⟨⟨x, List.mem_cons_of_mem _ m, c⟩, y, ((mr y).mp m').1, d⟩
      · rintro ⟨⟨x, m, a, b⟩, y, m', c, d⟩
        rcases List.mem_cons.mp m with rfl | m
        · exact .inl ⟨_, (mm _).mpr ⟨y, m', by omega, by omega, rfl⟩, by simp only; omega, by simp only; omega⟩
        · have g := (List.pairwise_cons.mp h1.1).1 x m
          exact .inr ⟨⟨x, m, a, b⟩, y, (mr y).mpr ⟨m', by omega⟩, c, d⟩
    · rcases List.mem_append.mp m with m | m
      · obtain ⟨q, _, _, _, rfl⟩ := (mm x).mp m
        exact ⟨p, List.mem_cons_self, by simp only; omega⟩
      · obtain ⟨p', m', c⟩ := k3 x m
        exact ⟨p', List.mem_cons_of_mem _ m', c⟩
/-! ### less -/
def lsI (p : Int × Int) (s : List (Int × Int) × Int) (q : Int × Int) : List (Int × Int) × Int :=
  if q.2 < s.2 ∨ p.2 < q.1 then s else (if s.2 < q.1 then s.1 ++ [(s.2, q.1 - 1)] else s.1, q.2 + 1)
def lsE (p : Int × Int) (s : List (Int × Int) × Int) : List (Int × Int) := if s.2 ≤ p.2 then s.1 ++ [(s.2, p.2)] else s.1
def lsO (other : List (Int × Int)) (found : List (Int × Int)) (p : Int × Int) : List (Int × Int) := lsE p (other.foldl (lsI p) (found, p.1))
def lsF (one other : List (Int × Int)) : List (Int × Int) := one.foldl (lsO other) []
structure LsInv (other found0 : List (Int × Int)) (p : Int × Int) (pre : List (Int × Int)) (s : List (Int × Int) × Int) : Prop where
  k : Kept s.1
  lo : p.1 ≤ s.2
  b : ∀ q ∈ s.1, q.2 + 1 < s.2
  c : ∀ t, cov s.1 t ↔ cov found0 t ∨ (p.1 ≤ t ∧ t < s.2 ∧ t ≤ p.2 ∧ ¬ cov other t)
  g : ∀ q ∈ pre, q.2 < s.2 ∨ p.2 < q.1
theorem lsI_ok {other found0 : List (Int × Int)} {p q : Int × Int} {pre post : List (Int × Int)} {s : List (Int × Int) × Int} (ko : Kept other) (e : other = pre ++ q :: post) (h : LsInv other found0 p pre s) :
    LsInv other found0 p (pre ++ [q]) (lsI p s q) := by
  subst e
  have pw := List.pairwise_append.mp (kept_pw ko)
  have later : ∀ x ∈ post, q.2 + 1 < x.1 := fun x m => ((List.pairwise_cons.mp pw.2.1).1 x m).1
  have qq := ko.2 q (by simp)
  unfold lsI
  split
  · rename_i c
    exact ⟨h.k, h.lo, h.b, h.c, fun x m => by
      rcases List.mem_append.mp m with m | m
      · exact h.g x m
      · obtain rfl : x = q := by simpa using m
        omega⟩
  · rename_i c
    have free : ∀ t, s.2 ≤ t → t ≤ p.2 → (cov (pre ++ q :: post) t ↔ q.1 ≤ t ∧ (t ≤ q.2 ∨ cov post t)) := fun t a b => by
      rw [cov_append]
      constructor
      · rintro (⟨x, m, d⟩ | ⟨x, m, d⟩)
        · have := h.g x m; omega
        · rcases List.mem_cons.mp m with rfl | m
          · exact ⟨d.1, .inl d.2⟩
          · have := later x m
            exact ⟨by omega, .inr ⟨x, m, d⟩⟩
      · rintro ⟨d, e | ⟨x, m, e⟩⟩
        · exact .inr ⟨q, List.mem_cons_self, d, e⟩
        · exact .inr ⟨x, List.mem_cons_of_mem _ m, e⟩
    have nopost : ∀ t, t ≤ q.2 + 1 → ¬ cov post t := fun t a ⟨x, m, d⟩ => by have := later x m; omega
    have g' : ∀ x ∈ pre ++ [q], x.2 < q.2 + 1 ∨ p.2 < x.1 := fun x m => by
      rcases List.mem_append.mp m with m | m
      · have := h.g x m; omega
      · obtain rfl : x = q := by simpa using m
        omega
    split
    · rename_i d
      refine ⟨kept_snoc h.k (by simp only; omega) h.b, by have := h.lo; simp only; omega, fun x m => ?_, fun t => ?_, g'⟩
      · rcases List.mem_append.mp m with m | m
        · have := h.b x m; simp only; omega
        · obtain rfl : x = (s.2, q.1 - 1) := by simpa using m
          simp only; omega
      · rw [cov_append, h.c, cov_one]
        have lo := h.lo
        simp only
        constructor
        · rintro ((a | a) | a)
          · exact .inl a
          · exact .inr ⟨a.1, by omega, a.2.2⟩
          · exact .inr ⟨by omega, by omega, by omega, fun z => by have := (free t a.1 (by omega)).mp z; omega⟩
        · rintro (a | ⟨a, b, c', d'⟩)
          · exact .inl (.inl a)
          · by_cases z : t < s.2
            · exact .inl (.inr ⟨a, z, c', d'⟩)
            · refine .inr ⟨by omega, ?_⟩
              by_cases y : t < q.1
              · omega
              · exact (d' ((free t (by omega) c').mpr ⟨by omega, .inl (by omega)⟩)).elim
    · rename_i d
      refine ⟨h.k, by have := h.lo; simp only; omega, fun x m => by have := h.b x m; simp only; omega, fun t => ?_, g'⟩
      rw [h.c]
      have lo := h.lo
      simp only
      constructor
      · rintro (a | a)
        · exact .inl a
        · exact .inr ⟨a.1, by omega, a.2.2⟩
      · rintro (a | ⟨a, b, c', d'⟩)
        · exact .inl a
        · by_cases z : t < s.2
          · exact .inr ⟨a, z, c', d'⟩
          · exact (d' ((free t (by omega) c').mpr ⟨by omega, .inl (by omega)⟩)).elim
theorem lsO_ok {other found0 : List (Int × Int)} {p : Int × Int} (ko : Kept other) (k0 : Kept found0) (hp : p.1 ≤ p.2) (hb : ∀ q ∈ found0, q.2 + 1 < p.1) :
    Kept (lsO other found0 p) ∧ (∀ t, cov (lsO other found0 p) t ↔ cov found0 t ∨ (p.1 ≤ t ∧ t ≤ p.2 ∧ ¬ cov other t)) ∧ ∀ q ∈ lsO other found0 p, q.2 ≤ p.2 ∨ q ∈ found0 := by
  have main : ∀ (post pre : List (Int × Int)) (s : List (Int × Int) × Int), other = pre ++ post → LsInv other found0 p pre s → (∀ q ∈ s.1, q.2 ≤ p.2 ∨ q ∈ found0) →
      LsInv other found0 p other (post.foldl (lsI p) s) ∧ ∀ q ∈ (post.foldl (lsI p) s).1, q.2 ≤ p.2 ∨ q ∈ found0 := by
    intro post
    induction post with
    | nil => intro pre s e h h2; rw [List.append_nil] at e; subst e; exact ⟨h, h2⟩
    | cons q post ih =>
      intro pre s e h h2
      refine ih (pre ++ [q]) _ (by rw [e]; simp) (lsI_ok ko e h) ?_
      unfold lsI
      split
      · exact h2
      · intro x m
        simp only at m
        split at m
        · rcases List.mem_append.mp m with m | m
          · exact h2 x m
          · obtain rfl : x = (s.2, q.1 - 1) := by simpa using m
            left; simp only; omega
        · exact h2 x m
  obtain ⟨h, h2⟩ := main other [] (found0, p.1) rfl ⟨k0, by simp, hb, fun t => ⟨.inl, fun z => z.elim id fun z => by simp only at z; omega⟩, fun q m => nomatch m⟩ fun q m => .inr m
  unfold lsO lsE
  generalize other.foldl (lsI p) (found0, p.1) = s at h h2
  have free : ∀ t, s.2 ≤ t → t ≤ p.2 → ¬ cov other t := fun t a b ⟨x, m, d⟩ => by have := h.g x m; omega
  split
  · rename_i c
    refine ⟨kept_snoc h.k c h.b, fun t => ?_, fun q m => ?_⟩
    · rw [cov_append, h.c, cov_one]
      have lo := h.lo
      simp only
      constructor
      · rintro ((a | a) | a)
        · exact .inl a
        · exact .inr ⟨a.1, a.2.2⟩
        · exact .inr ⟨by omega, a.2, free t a.1 a.2⟩
      · rintro (a | a)
        · exact .inl (.inl a)
        · by_cases z : t < s.2
          · exact .inl (.inr ⟨a.1, z, a.2⟩)
          · exact .inr ⟨by omega, a.2.1⟩
    · rcases List.mem_append.mp m with m | m
      · exact h2 q m
      · obtain rfl : q = (s.2, p.2) := by simpa using m
        exact .inl (Int.le_refl _)
  · rename_i c
    refine ⟨h.k, fun t => ?_, h2⟩
    rw [h.c]
    constructor
    · rintro (a | a)
      · exact .inl a
      · exact .inr ⟨a.1, a.2.2⟩
    · rintro (a | a)
      · exact .inl a
      · exact .inr ⟨a.1, by omega, a.2⟩
theorem lsF_ok {one other : List (Int × Int)} (k1 : Kept one) (k2 : Kept other) : Kept (lsF one other) ∧ ∀ t, cov (lsF one other) t ↔ cov one t ∧ ¬ cov other t := by
  have main : ∀ (post pre found : List (Int × Int)), one = pre ++ post → Kept found → (∀ t, cov found t ↔ cov pre t ∧ ¬ cov other t) → (∀ q ∈ found, ∃ p ∈ pre, q.2 ≤ p.2) →
      Kept (post.foldl (lsO other) found) ∧ ∀ t, cov (post.foldl (lsO other) found) t ↔ cov one t ∧ ¬ cov other t := by
    intro post
    induction post with
    | nil => intro pre found e h h2 _; rw [List.append_nil] at e; subst e; exact ⟨h, h2⟩
    | cons p post ih =>
      intro pre found e h h2 h3
      have pw := List.pairwise_append.mp (e ▸ k1.1)
      have hb : ∀ q ∈ found, q.2 + 1 < p.1 := fun q m => by
        obtain ⟨p', m', c⟩ := h3 q m
        have := pw.2.2 p' m' p List.mem_cons_self
        omega
      have hp := k1.2 p (by rw [e]; simp)
      obtain ⟨i1, i2, i3⟩ := lsO_ok k2 h hp hb
      refine ih (pre ++ [p]) _ (by rw [e]; simp) i1 (fun t => ?_) fun q m => ?_
      · rw [i2, h2, cov_append, cov_one]
        constructor
        · rintro (a | a)
          · exact ⟨.inl a.1, a.2⟩
          · exact ⟨.inr ⟨a.1, a.2.1⟩, a.2.2⟩
        · rintro ⟨a | a, b⟩
          · exact .inl ⟨a, b⟩
          · exact .inr ⟨a.1, a.2, b⟩
      · rcases i3 q m with c | m
        · exact ⟨p, by simp, c⟩
        · obtain ⟨p', m', c⟩ := h3 q m
          exact ⟨p', by simp [m'], c⟩
  exact main one [] [] rfl ⟨.nil, fun p m => nomatch m⟩ (fun t => ⟨fun h => (cov_nil h).elim, fun h => (cov_nil h.1).elim⟩) fun q m => nomatch m
/-! ### by the stretches between the borders -/
def chS (f : Int → Bool) (s : MS) (be : Int × Int) : MS :=
  if be.1 < be.2 ∧ f be.1 = true then (match s.2 with
    | none => (s.1, some (be.1, be.2 - 1))
    | some q => if q.2 = be.1 - 1 then (s.1, some (q.1, be.2 - 1)) else (s.1 ++ [q], some (be.1, be.2 - 1)))
  else s
def chF (f : Int → Bool) (bs : List Int) : List (Int × Int) := ((bs.zip (bs.drop 1)).foldl (chS f) ([], none)).out
structure ChInv (f : Int → Bool) (b : Int) (s : MS) : Prop where
  k : Kept s.out
  n : s.2 = none → s.1 = []
  u : ∀ q ∈ s.out, q.2 < b
  c : ∀ t, cov s.out t ↔ t < b ∧ f t = true
theorem chS_ok {f : Int → Bool} {b c : Int} {s : MS} (h : ChInv f b s) (hc : b ≤ c) (hf : ∀ t, b ≤ t → t < c → f t = f b) : ChInv f c (chS f s (b, c)) := by
  unfold chS
  simp only
  split
  · rename_i z
    have cv : ∀ t, t < c ∧ f t = true ↔ (t < b ∧ f t = true) ∨ (b ≤ t ∧ t ≤ c - 1) := fun t => by
      constructor
      · rintro ⟨x, y⟩
        by_cases w : t < b
        · exact .inl ⟨w, y⟩
        · exact .inr ⟨by omega, by omega⟩
      · rintro (⟨x, y⟩ | ⟨x, y⟩)
        · exact ⟨by omega, y⟩
        · exact ⟨by omega, by rw [hf t x (by omega)]; exact z.2⟩
    obtain ⟨done, cur⟩ := s
    cases cur with
    | none =>
      obtain rfl : done = [] := h.n rfl
      refine ⟨⟨.cons (fun q m => nomatch m) .nil, fun q m => ?_⟩, fun w => (by cases w), fun q m => ?_, fun t => ?_⟩
      · obtain rfl : q = (b, c - 1) := by simpa [MS.out] using m
        simp only; omega
      · obtain rfl : q = (b, c - 1) := by simpa [MS.out] using m
        simp only; omega
      · rw [cv, ← h.c]
        show cov ([] ++ [(b, c - 1)]) t ↔ cov ([] ++ []) t ∨ _
        simp only [List.nil_append, cov_one]
        exact ⟨.inr, fun z => z.elim (fun z => (cov_nil z).elim) id⟩
    | some q =>
      have hk : Kept (done ++ [q]) := h.k
      have hb : ∀ x ∈ done ++ [q], x.2 < b := h.u
      have hcv : ∀ t, cov (done ++ [q]) t ↔ t < b ∧ f t = true := h.c
      have pw := List.pairwise_append.mp hk.1
      have qq := hk.2 q (by simp)
      have qb := hb q (by simp)
      simp only
      split
      · rename_i w
        have kd : Kept done := kept_sub hk (List.sublist_append_left _ _)
        refine ⟨kept_snoc kd (by simp only; omega) (fun x m => pw.2.2 x m q (by simp)), fun w => (by cases w), fun x m => ?_, fun t => ?_⟩
        · rcases List.mem_append.mp m with m | m
          · have := hb x (by simp [m]); omega
          · obtain rfl : x = (q.1, c - 1) := by simpa using m
            simp only; omega
        · rw [cv, ← hcv]
          show cov (done ++ [(q.1, c - 1)]) t ↔ _
          rw [cov_append, cov_append, cov_one, cov_one]
          simp only
          constructor
          · rintro (a | a)
            · exact .inl (.inl a)
            · by_cases y : t ≤ q.2
              · exact .inl (.inr ⟨a.1, y⟩)
              · exact .inr ⟨by omega, a.2⟩
          · rintro ((a | a) | a)
            · exact .inl a
            · exact .inr ⟨a.1, by omega⟩
            · exact .inr ⟨by omega, a.2⟩
      · rename_i w
        refine ⟨?_, fun w => (by cases w), fun x m => ?_, fun t => ?_⟩
        · show Kept (done ++ [q] ++ [(b, c - 1)])
          refine kept_snoc hk (by simp only; omega) fun x m => ?_
          have := hb x m
          simp only
          by_cases e : x = q
          · subst e; omega
          · have m' : x ∈ done := by
              rcases List.mem_append.mp m with m | m
              · exact m
              · exact (e (by simpa using m)).elim
            have := pw.2.2 x m' q (by simp)
            omega
        · have m' : x ∈ done ++ [q] ++ [(b, c - 1)] := m
          rcases List.mem_append.mp m' with m | m
          · have := hb x m; omega
          · obtain rfl : x = (b, c - 1) := by simpa using m
            simp only; omega
        · rw [cv, ← hcv]
          show cov (done ++ [q] ++ [(b, c - 1)]) t ↔ _
          rw [cov_append, cov_one]
  · rename_i z
    refine ⟨h.k, h.n, fun q m => by have := h.u q m; omega, fun t => ?_⟩
    rw [h.c]
    constructor
    · rintro ⟨x, y⟩
      exact ⟨by omega, y⟩
    · rintro ⟨x, y⟩
      by_cases w : t < b
      · exact ⟨w, y⟩
      · exact (z ⟨by omega, by rw [← hf t (by omega) x]; exact y⟩).elim
theorem ch_run {f : Int → Bool} {B : List Int} (hf : ∀ x t, x ≤ t → (∀ z ∈ B, z ≤ x ∨ t < z) → f t = f x) : ∀ (bs : List Int) (b : Int) (s : MS), (b :: bs).Pairwise (· ≤ ·) → (∀ z ∈ B, z ≤ b ∨ z ∈ bs) → ChInv f b s →
    ∃ e, (e = b ∨ e ∈ bs) ∧ (∀ z ∈ B, z ≤ e) ∧ ChInv f e (((b :: bs).zip bs).foldl (chS f) s)
  | [], b, s, _, hB, h => ⟨b, .inl rfl, fun z m => (hB z m).elim id (fun z => nomatch z), h⟩
  | c :: bs, b, s, hs, hB, h => by
    obtain ⟨h1, h2⟩ := List.pairwise_cons.mp hs
    obtain ⟨h3, _⟩ := List.pairwise_cons.mp h2
    have hb := h1 c List.mem_cons_self
    obtain ⟨e, e1, e2, e3⟩ := ch_run hf bs c _ h2 (fun z m => by
      rcases hB z m with a | a
      · exact .inl (by omega)
      · rcases List.mem_cons.mp a with rfl | a
        · exact .inl (Int.le_refl _)
        · exact .inr a) (chS_ok h hb fun t t1 t2 => hf b t t1 fun z m => by
          rcases hB z m with a | a
          · exact .inl a
          · rcases List.mem_cons.mp a with rfl | a
            · exact .inr t2
            · have := h3 z a; exact .inr (by omega))
    exact ⟨e, .inr (e1.elim (fun z => z ▸ List.mem_cons_self) (List.mem_cons_of_mem _)), e2, e3⟩
/-- the borders of spans -/
def bdr (l : List (Int × Int)) : List Int := l.flatMap fun p => [p.1, p.2 + 1]
theorem cov_const {l : List (Int × Int)} {x t : Int} (h : ∀ p ∈ l, p.1 ≤ p.2) (hx : x ≤ t) (hz : ∀ z ∈ bdr l, z ≤ x ∨ t < z) : cov l t ↔ cov l x := by
  have two : ∀ p ∈ l, (p.1 ≤ x ∨ t < p.1) ∧ (p.2 + 1 ≤ x ∨ t < p.2 + 1) := fun p m =>
    ⟨hz _ (List.mem_flatMap.mpr ⟨p, m, by simp⟩), hz _ (List.mem_flatMap.mpr ⟨p, m, by simp⟩)⟩
  constructor
  · rintro ⟨p, m, a, b⟩
    have := two p m
    exact ⟨p, m, by omega, by omega⟩
  · rintro ⟨p, m, a, b⟩
    have := two p m
    exact ⟨p, m, by omega, by omega⟩
theorem chF_ok {one other : List (Int × Int)} {bs : List Int} {g : Bool → Bool → Bool} (k1 : Kept one) (k2 : Kept other) (hg : g false false = false) (hs : bs.Pairwise (· ≤ ·)) (hp : ∀ z, z ∈ bs ↔ z ∈ bdr one ∨ z ∈ bdr other) :
    Kept (chF (fun t => g (inS one t) (inS other t)) bs) ∧ ∀ t, cov (chF (fun t => g (inS one t) (inS other t)) bs) t ↔ g (inS one t) (inS other t) = true := by
  have bord : ∀ (l : List (Int × Int)), (∀ z ∈ bdr l, z ∈ bs) → (∀ p ∈ l, p.1 ≤ p.2) → ∀ x t, x ≤ t → (∀ z ∈ bs, z ≤ x ∨ t < z) → inS l t = inS l x := fun l hl h x t a b => by
    rw [Bool.eq_iff_iff, inS_iff, inS_iff]
    exact cov_const h a fun z m => b z (hl z m)
  have hf : ∀ x t, x ≤ t → (∀ z ∈ bs, z ≤ x ∨ t < z) → g (inS one t) (inS other t) = g (inS one x) (inS other x) := fun x t a b => by
    rw [bord one (fun z m => (hp z).mpr (.inl m)) k1.2 x t a b, bord other (fun z m => (hp z).mpr (.inr m)) k2.2 x t a b]
  have out : ∀ (l : List (Int × Int)), (∀ z ∈ bdr l, z ∈ bs) → ∀ t, ((∀ z ∈ bs, t < z) ∨ (∀ z ∈ bs, z ≤ t)) → inS l t = false := fun l hl t a => by
    cases e : inS l t with
    | false => rfl
    | true =>
      obtain ⟨p, m, c, d⟩ := inS_iff.mp e
      have z1 := hl p.1 (List.mem_flatMap.mpr ⟨p, m, by simp⟩)
      have z2 := hl (p.2 + 1) (List.mem_flatMap.mpr ⟨p, m, by simp⟩)
      rcases a with a | a
      · have := a _ z1; omega
      · have := a _ z2; omega
  have outg : ∀ t, ((∀ z ∈ bs, t < z) ∨ (∀ z ∈ bs, z ≤ t)) → g (inS one t) (inS other t) = false := fun t a => by
    rw [out one (fun z m => (hp z).mpr (.inl m)) t a, out other (fun z m => (hp z).mpr (.inr m)) t a, hg]
  unfold chF
  cases bs with
  | nil =>
    refine ⟨⟨.nil, fun p m => nomatch m⟩, fun t => ?_⟩
    rw [outg t (.inl fun z m => nomatch m)]
    exact ⟨fun z => (cov_nil z).elim, fun z => by cases z⟩
  | cons b bs =>
    obtain ⟨e, e1, e2, e3⟩ := ch_run (f := fun t => g (inS one t) (inS other t)) hf bs b ([], none) hs (fun z m => by
      rcases List.mem_cons.mp m with rfl | m
      · exact .inl (Int.le_refl _)
      · exact .inr m) ⟨⟨.nil, fun p m => nomatch m⟩, fun _ => rfl, (fun p m => nomatch m), fun t => ⟨fun z => (cov_nil z).elim, fun z => by
        have := outg t (.inl fun y m => by
          rcases List.mem_cons.mp m with rfl | m
          · exact z.1
          · have := (List.pairwise_cons.mp hs).1 y m; omega)
        rw [this] at z
        exact absurd z.2 (by decide)⟩⟩
    refine ⟨e3.k, fun t => ?_⟩
    refine (e3.c t).trans ?_
    refine ⟨fun z => z.2, fun z => ⟨?_, z⟩⟩
    by_cases w : t < e
    · exact w
    · have := outg t (.inr fun y m => by have := e2 y m; omega)
      rw [this] at z; cases z
end SpanM
namespace K02
open Tr PG PySem L2
def b_q_cell_at (env : En) : Out :=
  (fSeq (fFg [0, 1] (fIfS (c2 ltR (fV 1) (fB lenR (fA (fV 0) fN)))
    (fRet (b2 ixR (fV 0) (fV 1)))
    fNx))
    (fRet (fC (.int 0)))) env
abbrev F_q_cell_at : List T → Res R := runF 2 b_q_cell_at
theorem F_q_cell_at_eq (a0 a1 : T) : F_q_cell_at [a0, a1] = (b_q_cell_at [.fz a0, .fz a1]).res := rfl
def b_q_whole (env : En) : Out :=
  (fRet (fAndV (fIsa "int" (fV 0)) (fAndV (fNotV (fIsa "bool" (fV 0))) (b2 eqR (fV 0) (fV 1))))) env
abbrev F_q_whole : List T → Res R := runF 2 b_q_whole
theorem F_q_whole_eq (a0 a1 : T) : F_q_whole [a0, a1] = (b_q_whole [.fz a0, .fz a1]).res := rfl
def g_q_pairs_1 (d : T) (env : En) : Option En := (gT 2 (gsC (gN 2) (gsC (gN 3) gsN))) d env
def b_q_pairs_1 (env : En) : Out := (fFg [2, 3] (fSeq (fIfS (fOr (fNot (fTru (fIsa "tuple" (fV 2)))) (c2 neR (fB lenR (fA (fV 2) fN)) (fC (.int 2))))
    (fRet (fC (.bl false)))
    fNx)
    (fFg [2, 3] (fIfS (fOr (fNot (fTru (fCall F_q_whole (fA (b2 ixR (fV 2) (fC (.int 0))) (fA (b2 ixR (fV 3) (fC (.int 0))) fN))))) (fNot (fTru (fCall F_q_whole (fA (b2 ixR (fV 2) (fC (.int 1))) (fA (b2 ixR (fV 3) (fC (.int 1))) fN))))))
    (fRet (fC (.bl false)))
    fNx)))) env
def b_q_pairs (env : En) : Out :=
  (fSeq (fIfS (fOr (fNot (fTru (fIsa "list" (fV 0)))) (c2 neR (fB lenR (fA (fV 0) fN)) (fB lenR (fA (fV 1) fN))))
    (fRet (fC (.bl false)))
    fNx)
    (fSeq (fFg [0, 1] (fFor (iZ (fV 0) (fV 1)) g_q_pairs_1 b_q_pairs_1))
    (fRet (fC (.bl true))))) env
abbrev F_q_pairs : List T → Res R := runF 4 b_q_pairs
theorem F_q_pairs_eq (a0 a1 : T) : F_q_pairs [a0, a1] = (b_q_pairs [.fz a0, .fz a1, .no, .no]).res := rfl
def b_q_mixed (env : En) : Out :=
  (fRet (b2 modR (b2 addR (b2 mulR (b2 modR (fV 0) (fC (.int 2147483647))) (fC (.int 48271))) (b2 mulR (fC (.int 69621)) (fV 1))) (fC (.int 2147483647)))) env
abbrev F_q_mixed : List T → Res R := runF 2 b_q_mixed
theorem F_q_mixed_eq (a0 a1 : T) : F_q_mixed [a0, a1] = (b_q_mixed [.fz a0, .fz a1]).res := rfl
def g_q_kept_1 (d : T) (env : En) : Option En := (gN 5) d env
def b_q_kept_1 (env : En) : Out := (fFg [5, 6, 7] (fSeq (fSetZ 6 (fCall F_q_mixed (fA (fCall F_q_cell_at (fA (fV 0) (fA (b2 addR (fV 1) (fV 5)) fN))) (fA (fV 5) fN))))
    (fSeq (fFg [5] (fSetZ 4 (b2 addR (b2 addR (fV 4) (b2 mulR (fC (.int 2)) (fB intR (fA (b2 gtR (fV 5) (fC (.int 0))) fN)))) (b2 modR (fV 6) (b2 ixR (fLst (fA (fC (.int 4)) (fA (fC (.int 4)) (fA (fC (.int 4)) (fA (b2 powR (fC (.int 10)) (fC (.int 8))) fN))))) (b2 modR (b2 fdivR (fV 6) (b2 powR (fC (.int 10)) (fC (.int 8)))) (fC (.int 4))))))))
    (fSeq (fFg [6] (fSetZ 7 (b2 addR (fV 4) (b2 modR (b2 fdivR (fV 6) (fC (.int 4))) (b2 ixR (fLst (fA (fC (.int 1)) (fA (fC (.int 7)) (fA (fC (.int 7)) (fA (b2 powR (fC (.int 10)) (fC (.int 8))) fN))))) (b2 modR (b2 fdivR (fV 6) (fC (.int 7))) (fC (.int 4))))))))
    (fSeq (fFg [4] (fApp 3 (fTup (fA (fV 4) (fA (fV 7) fN)))))
    (fFg [7] (fSetZ 4 (fV 7)))))))) env
def b_q_kept (env : En) : Out :=
  (fSeq (fSet 3 (fLst fN))
    (fSeq (fSetZ 4 (fC (.int 0)))
    (fSeq (fFg [0, 1, 2, 4] (fFor (iR1 (fV 2)) g_q_kept_1 b_q_kept_1))
    (fRet (fV 3))))) env
abbrev F_q_kept : List T → Res R := runF 8 b_q_kept
theorem F_q_kept_eq (a0 a1 a2 : T) : F_q_kept [a0, a1, a2] = (b_q_kept [.fz a0, .fz a1, .fz a2, .no, .no, .no, .no, .no]).res := rfl
def g_q_sets_1 (d : T) (env : En) : Option En := (gT 2 (gsC (gN 4) (gsC (gN 5) gsN))) d env
def c_q_sets_1 (env : En) : Res Bool := (c2 gtR (b2 modR (b2 addR (fV 4) (b2 fdivR (fV 1) (fC (.int 676)))) (fC (.int 3))) (fC (.int 0))) env
def e_q_sets_1 (env : En) : Res R := (fTup (fA (fV 4) (fA (fV 5) fN))) env
def b_q_sets (env : En) : Out :=
  (fSeq (fSetZ 1 (fCall F_q_cell_at (fA (fV 0) (fA (fC (.int 0)) fN))))
    (fSeq (fSetZ 2 (fCall F_q_kept (fA (fV 0) (fA (fC (.int 2)) (fA (b2 modR (fV 1) (fC (.int 13))) fN)))))
    (fSeq (fFg [0] (fSetZ 3 (fCall F_q_kept (fA (fV 0) (fA (fC (.int 14)) (fA (b2 modR (b2 fdivR (fV 1) (fC (.int 13))) (fC (.int 13))) fN))))))
    (fSeq (fFg [1] (fIfS (c2 eqR (b2 modR (b2 fdivR (fV 1) (fC (.int 169))) (fC (.int 4))) (fC (.int 1)))
    (fFg [1] (fSetZ 3 (fComp [4, 5] (iL (fV 2)) g_q_sets_1 c_q_sets_1 e_q_sets_1)))
    fNx))
    (fRet (fLst (fA (fV 2) (fA (fV 3) fN)))))))) env
abbrev F_q_sets : List T → Res R := runF 6 b_q_sets
theorem F_q_sets_eq (a0 : T) : F_q_sets [a0] = (b_q_sets [.fz a0, .no, .no, .no, .no, .no]).res := rfl
def g_q_in_1 (d : T) (env : En) : Option En := (gT 2 (gsC (gN 3) (gsC (gN 4) gsN))) d env
def b_q_in_1 (env : En) : Out := (fFg [3, 4] (fFg [3, 4] (fSetZ 2 (fOrV (fV 2) (ch2 leR leR (fV 3) (fV 1) (fV 4)))))) env
def b_q_in (env : En) : Out :=
  (fSeq (fSetZ 2 (fC (.bl false)))
    (fSeq (fFg [0, 1] (fFor (iL (fV 0)) g_q_in_1 b_q_in_1))
    (fRet (fV 2)))) env
abbrev F_q_in : List T → Res R := runF 5 b_q_in
theorem F_q_in_eq (a0 a1 : T) : F_q_in [a0, a1] = (b_q_in [.fz a0, .fz a1, .no, .no, .no]).res := rfl
def g_q_borders_2 (d : T) (env : En) : Option En := (gT 2 (gsC (gN 3) (gsC (gN 4) gsN))) d env
def b_q_borders_2 (env : En) : Out := (fFg [3, 4] (fFg [3, 4] (fSetZ 1 (b2 addR (fV 1) (fLst (fA (fV 3) (fA (b2 addR (fV 4) (fC (.int 1))) fN))))))) env
def g_q_borders_1 (d : T) (env : En) : Option En := (gN 2) d env
def b_q_borders_1 (env : En) : Out := (fFg [2, 3, 4] (fFg [2] (fFor (iL (fV 2)) g_q_borders_2 b_q_borders_2))) env
def b_q_borders (env : En) : Out :=
  (fSeq (fSetZ 1 (fLst fN))
    (fSeq (fFg [0] (fFor (iL (fV 0)) g_q_borders_1 b_q_borders_1))
    (fRet (fB sortR (fA (fV 1) fN))))) env
abbrev F_q_borders : List T → Res R := runF 5 b_q_borders
theorem F_q_borders_eq (a0 : T) : F_q_borders [a0] = (b_q_borders [.fz a0, .no, .no, .no, .no]).res := rfl
def g_q_chosen_1 (d : T) (env : En) : Option En := (gT 2 (gsC (gN 4) (gsC (gN 5) gsN))) d env
def b_q_chosen_1 (env : En) : Out := (fFg [4, 5, 6, 7, 8] (fSeq (fSetZ 6 (fCall F_q_in (fA (b2 ixR (fV 0) (fC (.int 0))) (fA (fV 4) fN))))
    (fSeq (fSetZ 7 (fCall F_q_in (fA (b2 ixR (fV 0) (fC (.int 1))) (fA (fV 4) fN))))
    (fSeq (fSet 8 (fLst (fA (fOrV (fV 6) (fV 7)) (fA (fAndV (fV 6) (fV 7)) (fA (fAndV (fV 6) (fNotV (fV 7))) fN)))))
    (fSeq (fFg [6, 7] (fApp 8 (fAndV (fV 7) (fNotV (fV 6)))))
    (fFg [4, 5, 8] (fIfS (fAnd (c2 ltR (fV 4) (fV 5)) (fTru (b2 ixR (fV 8) (fV 1))))
    (fSeq (fIfS (fAnd (c2 neR (fV 3) (fLst fN)) (c2 eqR (b2 ixR (b2 ixR (fV 3) (negF (fC (.int 1)))) (fC (.int 1))) (b2 subR (fV 4) (fC (.int 1)))))
    (fPopIx 4 3 (fC (.int 0)))
    fNx)
    (fFg [4, 5] (fApp 3 (fTup (fA (fV 4) (fA (b2 subR (fV 5) (fC (.int 1))) fN))))))
    fNx))))))) env
def b_q_chosen (env : En) : Out :=
  (fSeq (fSetZ 2 (fCall F_q_borders (fA (fV 0) fN)))
    (fSeq (fSet 3 (fLst fN))
    (fSeq (fFg [0, 1, 2] (fFor (iZ (fV 2) (fSl (fV 2) (fP (fC (.int 1))) fP0)) g_q_chosen_1 b_q_chosen_1))
    (fRet (fV 3))))) env
abbrev F_q_chosen : List T → Res R := runF 9 b_q_chosen
theorem F_q_chosen_eq (a0 a1 : T) : F_q_chosen [a0, a1] = (b_q_chosen [.fz a0, .fz a1, .no, .no, .no, .no, .no, .no, .no]).res := rfl
def g_q_up_to_1 (d : T) (env : En) : Option En := (gT 2 (gsC (gN 3) (gsC (gN 4) gsN))) d env
def b_q_up_to_1 (env : En) : Out := (fFg [3, 4] (fFg [3, 4] (fIfS (c2 leR (fV 3) (fV 1))
    (fFg [3, 4] (fSetZ 2 (b2 addR (b2 subR (b2 addR (fV 2) (fB minR (fA (fV 4) (fA (fV 1) fN)))) (fV 3)) (fC (.int 1)))))
    fNx))) env
def b_q_up_to (env : En) : Out :=
  (fSeq (fSetZ 2 (fC (.int 0)))
    (fSeq (fFg [0, 1] (fFor (iL (fV 0)) g_q_up_to_1 b_q_up_to_1))
    (fRet (fV 2)))) env
abbrev F_q_up_to : List T → Res R := runF 5 b_q_up_to
theorem F_q_up_to_eq (a0 a1 : T) : F_q_up_to [a0, a1] = (b_q_up_to [.fz a0, .fz a1, .no, .no, .no]).res := rfl
def g_q_told_1 (d : T) (env : En) : Option En := (gN 2) d env
def b_q_told_1 (env : En) : Out := (fFg [2, 3] (fSeq (fSetZ 3 (fCall F_has_turn (fA (fV 0) (fA (fV 2) fN))))
    (fFg [2, 3] (fIfS (fOr (fNot (fTru (fIsa "bool" (fV 3)))) (c2 neR (fV 3) (fCall F_q_in (fA (fV 0) (fA (fV 2) fN)))))
    (fRet (fC (.bl false)))
    fNx)))) env
def g_q_told_2 (d : T) (env : En) : Option En := (gT 2 (gsC (gN 5) (gsC (gN 6) gsN))) d env
def c_q_told_2 (env : En) : Res Bool := fYes env
def e_q_told_2 (env : En) : Res R := (b2 subR (b2 addR (fV 6) (fC (.int 1))) (fV 5)) env
def g_q_told_3 (d : T) (env : En) : Option En := (gT 2 (gsC (gN 5) (gsC (gN 6) gsN))) d env
def b_q_told_3 (env : En) : Out := (fFg [5, 6, 7] (fSeq (fSetZ 7 (fB maxR (fA (fC (.int 0)) (fA (b2 subR (fCall F_q_up_to (fA (fV 0) (fA (fV 6) fN))) (fCall F_q_up_to (fA (fV 0) (fA (b2 subR (fV 5) (fC (.int 1))) fN)))) fN))))
    (fFg [5, 6, 7] (fIfS (fNot (fTru (fCall F_q_whole (fA (fCall F_turn_count_in (fA (fV 0) (fA (fV 5) (fA (fV 6) fN)))) (fA (fV 7) fN)))))
    (fRet (fC (.bl false)))
    fNx)))) env
def b_q_told (env : En) : Out :=
  (fSeq (fFor (iL (fV 1)) g_q_told_1 b_q_told_1)
    (fSeq (fFg [5, 6] (fSetZ 4 (fB sumR (fA (fComp [5, 6] (iL (fV 0)) g_q_told_2 c_q_told_2 e_q_told_2) fN))))
    (fSeq (fFg [4] (fIfS (fNot (fTru (fCall F_q_whole (fA (fCall F_turn_count (fA (fV 0) fN)) (fA (fV 4) fN)))))
    (fRet (fC (.bl false)))
    fNx))
    (fSeq (fFg [0, 1] (fFor (iZ (fV 1) (b2 addR (fSl (fV 1) (fP (fC (.int 3))) fP0) (fSl (fV 1) fP0 (fP (fC (.int 3)))))) g_q_told_3 b_q_told_3))
    (fRet (fC (.bl true))))))) env
abbrev F_q_told : List T → Res R := runF 8 b_q_told
theorem F_q_told_eq (a0 a1 : T) : F_q_told [a0, a1] = (b_q_told [.fz a0, .fz a1, .no, .no, .no, .no, .no, .no]).res := rfl
def b_q_made (env : En) : Out :=
  (fSeq (fFg [0] (fUnp (gL 2 (gsC (gN 2) (gsC (gN 3) gsN))) (fV 0)))
    (fSeq (fIfS (c2 eqR (fV 1) (fC (.int 0)))
    (fRet (fCall F_joined (fA (fV 2) (fA (fV 3) fN))))
    fNx)
    (fSeq (fIfS (c2 eqR (fV 1) (fC (.int 1)))
    (fRet (fCall F_shared (fA (fV 2) (fA (fV 3) fN))))
    fNx)
    (fSeq (fFg [1] (fIfS (c2 eqR (fV 1) (fC (.int 2)))
    (fRet (fCall F_less (fA (fV 2) (fA (fV 3) fN))))
    fNx))
    (fRet (fCall F_less (fA (fV 3) (fA (fV 2) fN)))))))) env
abbrev F_q_made : List T → Res R := runF 4 b_q_made
theorem F_q_made_eq (a0 a1 : T) : F_q_made [a0, a1] = (b_q_made [.fz a0, .fz a1, .no, .no]).res := rfl
def g_q_wide_1 (d : T) (env : En) : Option En := (gN 5) d env
def b_q_wide_1 (env : En) : Out := (fFg [5, 6, 7] (fSeq (fFg [5] (fSetZ 6 (b2 fdivR (fCall F_q_mixed (fA (fV 0) (fA (b2 addR (fV 1) (fV 5)) fN))) (fC (.int 64)))))
    (fSeq (fSetZ 4 (b2 addR (b2 addR (fV 4) (fC (.int 2))) (b2 modR (fV 6) (fC (.int 3)))))
    (fSeq (fFg [6] (fSetZ 7 (b2 addR (fV 4) (b2 modR (b2 fdivR (fV 6) (fC (.int 3))) (fC (.int 4))))))
    (fSeq (fFg [4] (fApp 3 (fTup (fA (fV 4) (fA (fV 7) fN)))))
    (fFg [7] (fSetZ 4 (fV 7)))))))) env
def b_q_wide (env : En) : Out :=
  (fSeq (fSet 3 (fLst fN))
    (fSeq (fSetZ 4 (fC (.int 0)))
    (fSeq (fFg [0, 1, 2, 4] (fFor (iR1 (fV 2)) g_q_wide_1 b_q_wide_1))
    (fRet (fV 3))))) env
abbrev F_q_wide : List T → Res R := runF 8 b_q_wide
theorem F_q_wide_eq (a0 a1 a2 : T) : F_q_wide [a0, a1, a2] = (b_q_wide [.fz a0, .fz a1, .fz a2, .no, .no, .no, .no, .no]).res := rfl
def g_q_by_turns_3 (d : T) (env : En) : Option En := (gN 7) d env
def b_q_by_turns_3 (env : En) : Out := (fFg [7] (fFg [7] (fPutD 2 (b2 addR (b2 addR (fDg2 (fV 2) (fV 7) (fC (.int 0))) (fC (.int 1))) (fV 3)) (fV 7)))) env
def g_q_by_turns_2 (d : T) (env : En) : Option En := (gT 2 (gsC (gN 5) (gsC (gN 6) gsN))) d env
def b_q_by_turns_2 (env : En) : Out := (fFg [5, 6, 7] (fFg [5, 6] (fFor (iR2 (fV 5) (b2 addR (fV 6) (fC (.int 1)))) g_q_by_turns_3 b_q_by_turns_3))) env
def g_q_by_turns_1 (d : T) (env : En) : Option En := (gT 2 (gsC (gN 3) (gsC (gN 4) gsN))) d env
def b_q_by_turns_1 (env : En) : Out := (fFg [3, 4, 5, 6, 7] (fFg [3, 4] (fFor (iL (fV 4)) g_q_by_turns_2 b_q_by_turns_2))) env
def g_q_by_turns_4 (d : T) (env : En) : Option En := (gN 7) d env
def b_q_by_turns_4 (env : En) : Out := (fFg [7] (fFg [7] (fIfS (c2 inR (b2 dgR (fV 2) (fV 7)) (b2 ixR (fLst (fA (fTup (fA (fC (.int 1)) (fA (fC (.int 2)) (fA (fC (.int 3)) fN)))) (fA (fTup (fA (fC (.int 3)) fN)) (fA (fTup (fA (fC (.int 1)) fN)) (fA (fTup (fA (fC (.int 2)) fN)) fN))))) (fV 1)))
    (fFg [7] (fIfS (fAnd (c2 neR (fV 8) (fLst fN)) (c2 eqR (b2 ixR (b2 ixR (fV 8) (negF (fC (.int 1)))) (fC (.int 1))) (b2 subR (fV 7) (fC (.int 1)))))
    (fFg [7] (fPut 8 (fTup (fA (b2 ixR (b2 ixR (fV 8) (negF (fC (.int 1)))) (fC (.int 0))) (fA (fV 7) fN))) (negF (fC (.int 1)))))
    (fFg [7] (fApp 8 (fTup (fA (fV 7) (fA (fV 7) fN)))))))
    fNx))) env
def b_q_by_turns (env : En) : Out :=
  (fSeq (fSet 2 fDk0)
    (fSeq (fFg [0] (fFor (iE (fV 0)) g_q_by_turns_1 b_q_by_turns_1))
    (fSeq (fSet 8 (fLst fN))
    (fSeq (fFg [1, 2] (fFor (iL (fB sortR (fA (fB listKR (fA (fV 2) fN)) fN))) g_q_by_turns_4 b_q_by_turns_4))
    (fRet (fV 8)))))) env
abbrev F_q_by_turns : List T → Res R := runF 9 b_q_by_turns
theorem F_q_by_turns_eq (a0 a1 : T) : F_q_by_turns [a0, a1] = (b_q_by_turns [.fz a0, .fz a1, .no, .no, .no, .no, .no, .no, .no]).res := rfl
def g_q_many_spans_1 (d : T) (env : En) : Option En := (gN 4) d env
def c_q_many_spans_1 (env : En) : Res Bool := fYes env
def e_q_many_spans_1 (env : En) : Res R := (fB listR (fA (fV 4) fN)) env
def g_q_many_spans_2 (d : T) (env : En) : Option En := (gN 3) d env
def b_q_many_spans_2 (env : En) : Out := (fFg [3] (fFg [3] (fIfS (fOr (fNot (fTru (fCall F_q_pairs (fA (fCall F_q_made (fA (fV 1) (fA (fV 3) fN))) (fA (fCall F_q_by_turns (fA (fV 1) (fA (fV 3) fN))) fN))))) (c2 neR (fV 1) (fV 2)))
    (fRet (fC (.bl false)))
    fNx))) env
def g_q_many_spans_3 (d : T) (env : En) : Option En := (gT 2 (gsC (gN 5) (gsC (gN 6) gsN))) d env
def c_q_many_spans_3 (env : En) : Res Bool := fYes env
def e_q_many_spans_3 (env : En) : Res R := (b2 subR (b2 addR (fV 6) (fC (.int 1))) (fV 5)) env
def b_q_many_spans (env : En) : Out :=
  (fSeq (fFg [0] (fSetZ 1 (fLst (fA (fCall F_q_wide (fA (fV 0) (fA (fC (.int 0)) (fA (b2 subR (fC (.int 200)) (b2 mulR (b2 modR (b2 fdivR (fV 0) (fC (.int 4))) (fC (.int 3))) (fC (.int 40)))) fN)))) (fA (fCall F_q_wide (fA (fV 0) (fA (fC (.int 300)) (fA (b2 subR (fC (.int 200)) (b2 modR (b2 fdivR (fV 0) (fC (.int 12))) (fC (.int 200)))) fN)))) fN)))))
    (fSeq (fSetZ 2 (fComp [4] (iL (fV 1)) g_q_many_spans_1 c_q_many_spans_1 e_q_many_spans_1))
    (fSeq (fFg [2] (fFor (iR1 (fC (.int 4))) g_q_many_spans_2 b_q_many_spans_2))
    (fRet (fCall F_q_whole (fA (fCall F_turn_count (fA (b2 ixR (fV 1) (fC (.int 0))) fN)) (fA (fB sumR (fA (fComp [5, 6] (iL (b2 ixR (fV 1) (fC (.int 0)))) g_q_many_spans_3 c_q_many_spans_3 e_q_many_spans_3) fN)) fN))))))) env
abbrev F_q_many_spans : List T → Res R := runF 7 b_q_many_spans
theorem F_q_many_spans_eq (a0 : T) : F_q_many_spans [a0] = (b_q_many_spans [.fz a0, .no, .no, .no, .no, .no, .no]).res := rfl
def g_q_law_1 (d : T) (env : En) : Option En := (gN 6) d env
def c_q_law_1 (env : En) : Res Bool := fYes env
def e_q_law_1 (env : En) : Res R := (fB listR (fA (fV 6) fN)) env
def g_q_law_2 (d : T) (env : En) : Option En := (gN 5) d env
def b_q_law_2 (env : En) : Out := (fFg [5] (fFg [5] (fSetZ 4 (b2 addR (fV 4) (fLst (fA (fV 5) (fA (b2 subR (fV 5) (fC (.int 1))) fN))))))) env
def g_q_law_3 (d : T) (env : En) : Option En := (gN 6) d env
def b_q_law_3 (env : En) : Out := (fFg [6] (fFg [6] (fIfS (fNot (fTru (fCall F_q_told (fA (fV 6) (fA (fV 4) fN)))))
    (fRet (fC (.bl false)))
    fNx))) env
def g_q_law_4 (d : T) (env : En) : Option En := (gN 7) d env
def b_q_law_4 (env : En) : Out := (fFg [7, 8, 9] (fSeq (fSet 8 (fCall F_q_made (fA (fV 1) (fA (fV 7) fN))))
    (fSeq (fSetZ 9 (fCall F_q_chosen (fA (fV 1) (fA (fV 7) fN))))
    (fSeq (fIfS (fOr (fNot (fTru (fCall F_q_pairs (fA (fV 8) (fA (fV 9) fN))))) (c2 neR (fV 1) (fV 2)))
    (fRet (fC (.bl false)))
    fNx)
    (fSeq (fFg [8] (fClr 8))
    (fFg [7, 9] (fIfS (fOr (fNot (fTru (fCall F_q_pairs (fA (fCall F_q_made (fA (fV 1) (fA (fV 7) fN))) (fA (fV 9) fN))))) (c2 neR (fV 1) (fV 2)))
    (fRet (fC (.bl false)))
    fNx))))))) env
def b_q_law (env : En) : Out :=
  (fSeq (fIfS (fAnd (c2 eqR (b2 modR (fCall F_q_cell_at (fA (fV 0) (fA (fC (.int 1)) fN))) (fC (.int 4))) (fC (.int 1))) (fNot (fTru (fCall F_q_many_spans (fA (fCall F_q_cell_at (fA (fV 0) (fA (fC (.int 1)) fN))) fN)))))
    (fRet (fC (.bl false)))
    fNx)
    (fSeq (fSetZ 1 (fCall F_q_sets (fA (fV 0) fN)))
    (fSeq (fFg [6] (fSetZ 2 (fComp [6] (iL (fV 1)) g_q_law_1 c_q_law_1 e_q_law_1)))
    (fSeq (fFg [0] (fSetZ 3 (b2 subR (b2 modR (fCall F_q_cell_at (fA (fV 0) (fA (fC (.int 1)) fN))) (b2 powR (fC (.int 10)) (fC (.int 9)))) (fC (.int 1000)))))
    (fSeq (fFg [3] (fSetZ 4 (fLst (fA (fV 3) (fA (negF (fC (.int 1))) (fA (b2 modR (fV 3) (fC (.int 50))) fN))))))
    (fSeq (fFor (iL (fSl (fCall F_q_borders (fA (fV 1) fN)) fP0 (fP (fC (.int 16))))) g_q_law_2 b_q_law_2)
    (fSeq (fFg [4] (fFor (iL (fV 1)) g_q_law_3 b_q_law_3))
    (fSeq (fFg [1, 2] (fFor (iR1 (fC (.int 4))) g_q_law_4 b_q_law_4))
    (fRet (fC (.bl true))))))))))) env
abbrev F_q_law : List T → Res R := runF 10 b_q_law
theorem F_q_law_eq (a0 : T) : F_q_law [a0] = (b_q_law [.fz a0, .no, .no, .no, .no, .no, .no, .no, .no, .no]).res := rfl
end K02
namespace K02
open Tr PG PySem L2 SpanM
/-! ### the program's defs -/
theorem has_turn_eq (l : List (Int × Int)) (t : Int) (h : l.length ≤ 10000) : F_has_turn [.lst (l.map encP), .int t] = .ok (.sh (.bl (inS l t))) := by
  rw [F_has_turn_eq]
  have c := compL_map (g := g_has_turn_1) (tt := c_has_turn_1) (te := e_has_turn_1) (env := [.fz (.lst (l.map encP)), .fz (.int t), .no, .no]) encP (fun p => T.bl (decide (p.1 ≤ t) && decide (t ≤ p.2))) l (by rw [sizeLine_eq]; omega)
    (fun p _ => by
      by_cases c : p.1 ≤ t
      · simp [g_has_turn_1, c_has_turn_1, e_has_turn_1, encP, c]
      · simp [g_has_turn_1, c_has_turn_1, e_has_turn_1, encP, c])
  simp [b_has_turn, c, inS]
theorem turn_count_eq (l : List (Int × Int)) (h : l.length ≤ 10000) : F_turn_count [.lst (l.map encP)] = .ok (.sh (.int (l.map fun p => p.2 - p.1 + 1).sum)) := by
  rw [F_turn_count_eq]
  have c := compL_map (g := g_turn_count_1) (tt := c_turn_count_1) (te := e_turn_count_1) (env := [.fz (.lst (l.map encP)), .no, .no]) encP (fun p => T.int (p.2 - p.1 + 1)) l (by rw [sizeLine_eq]; omega)
    (fun p _ => by simp [g_turn_count_1, c_turn_count_1, e_turn_count_1, encP])
  have e : (l.map fun p => T.int (p.2 - p.1 + 1)) = (l.map fun p => p.2 - p.1 + 1).map T.int := by simp
  rw [e] at c
  simp [-List.map_map, b_turn_count, c]
theorem turn_count_in_eq (l : List (Int × Int)) (a b : Int) (h : l.length ≤ 10000) : F_turn_count_in [.lst (l.map encP), .int a, .int b] = .ok (.sh (.int (cntS l a b))) := by
  rw [F_turn_count_in_eq]
  have c := compL_map (g := g_turn_count_in_1) (tt := c_turn_count_in_1) (te := e_turn_count_in_1) (env := [.fz (.lst (l.map encP)), .fz (.int a), .fz (.int b), .no, .no]) encP (fun p => T.int (max 0 (min p.2 b - max p.1 a + 1))) l (by rw [sizeLine_eq]; omega)
    (fun p _ => by simp [g_turn_count_in_1, c_turn_count_in_1, e_turn_count_in_1, encP])
  have e : (l.map fun p => T.int (max 0 (min p.2 b - max p.1 a + 1))) = (l.map fun p => max 0 (min p.2 b - max p.1 a + 1)).map T.int := by simp
  rw [e] at c
  simp [-List.map_map, b_turn_count_in, c, cntS]
theorem joined_eq (l m : List (Int × Int)) (h : l.length + m.length ≤ 10000) : F_joined [.lst (l.map encP), .lst (m.map encP)] = .ok (.fr (.lst ((mrg (sortP (l ++ m))).map encP))) := by
  rw [F_joined_eq]
  have e := merged_eq (sortP (l ++ m)) (by rw [(srt_perm _).length_eq]; simp; omega)
  have e2 : l.map encP ++ m.map encP = (l ++ m).map encP := by simp
  have hl : l.length + m.length ≤ 16777216 := by omega
  simp [b_joined, sizeLine_eq, hl]
  rw [e2, sortT_pairs]
  simp [e]
/-! less -/
theorem lsI_len (p : Int × Int) (s : List (Int × Int) × Int) (q : Int × Int) : (lsI p s q).1.length ≤ s.1.length + 1 := by
  unfold lsI
  split
  · omega
  · simp only
    split
    · simp
    · omega
theorem less_in (one m found : List (Int × Int)) (p : Int × Int) (h : found.length + m.length ≤ 1000000) (s3 s6 s7 : Sl) :
    forL g_less_2 b_less_2 (m.map encP) [.fz (.lst (one.map encP)), .fz (.lst (m.map encP)), .ow (.lst (found.map encP)), .no, .fz (.int p.2), .fz (.int p.1), .no, .no]
      = .nx [.fz (.lst (one.map encP)), .fz (.lst (m.map encP)), .ow (.lst ((m.foldl (lsI p) (found, p.1)).1.map encP)), .no, .fz (.int p.2), .fz (.int (m.foldl (lsI p) (found, p.1)).2), .no, .no]
      ∧ (m.foldl (lsI p) (found, p.1)).1.length ≤ found.length + m.length := by
  have L := forL_fold (g := g_less_2) (b := b_less_2) encP (fun s : List (Int × Int) × Int => [.fz (.lst (one.map encP)), .fz (.lst (m.map encP)), .ow (.lst (s.1.map encP)), .no, .fz (.int p.2), .fz (.int s.2), .no, .no]) (lsI p)
    (fun pre s => s.1.length ≤ found.length + pre.length) m [] (fun pre q post s e hp => by
      have hl := congrArg List.length e
      simp at hl
      refine ⟨?_, by have := lsI_len p s q; simp; omega⟩
      obtain ⟨fs, b⟩ := s
      have hl2 : fs.length < 16777216 := by simp at hp; omega
      unfold lsI
      by_cases c1 : q.2 < b
      · simp [g_less_2, b_less_2, encP, c1]
      · by_cases c2 : p.2 < q.1
        · simp [g_less_2, b_less_2, encP, c1, c2]
        · by_cases c3 : b < q.1
          · simp [g_less_2, b_less_2, encP, c1, c2, c3, hl2, sizeLine_eq]
          · simp [g_less_2, b_less_2, encP, c1, c2, c3]) (found, p.1) (by simp)
  exact ⟨L.1, by simpa using L.2⟩
theorem less_eq (l m : List (Int × Int)) (hl : l.length ≤ 300) (hm : m.length ≤ 300) : F_less [.lst (l.map encP), .lst (m.map encP)] = .ok (.fr (.lst ((lsF l m).map encP))) := by
  rw [F_less_eq]
  have L := (forL_fold (g := g_less_1) (b := b_less_1) encP (fun s : List (Int × Int) => [.fz (.lst (l.map encP)), .fz (.lst (m.map encP)), .ow (.lst (s.map encP)), .no, .no, .no, .no, .no]) (lsO m)
    (fun pre s => s.length ≤ pre.length * 301) l [] (fun pre p post s e hp => by
      have hl := congrArg List.length e
      simp at hl
      have hs : s.length ≤ 300 * 301 := by omega
      obtain ⟨e1, e2⟩ := less_in l m s p (by omega) .no .no .no
      unfold lsO lsE
      generalize m.foldl (lsI p) (s, p.1) = z at e1 e2
      have hz : z.1.length < 16777216 := by omega
      by_cases c : z.2 ≤ p.2
      · refine ⟨?_, by simp [c]; omega⟩
        simp [g_less_1, b_less_1, encP, e1, c, hz, sizeLine_eq]
      · refine ⟨?_, by simp [c]; omega⟩
        simp [g_less_1, b_less_1, encP, e1, c]) [] (by simp)).1
  have L' : forL g_less_1 b_less_1 (l.map encP) [.fz (.lst (l.map encP)), .fz (.lst (m.map encP)), .ow (.lst []), .no, .no, .no, .no, .no] = .nx [.fz (.lst (l.map encP)), .fz (.lst (m.map encP)), .ow (.lst ((lsF l m).map encP)), .no, .no, .no, .no, .no] := L
  simp [b_less, L']
end K02
namespace K02
open Tr PG PySem L2 SpanM
/-! shared -/
theorem wh_true {c : En → Res Bool} {b : En → Out} {n : Nat} {env e : En} (h1 : c env = .ok true) (h2 : b env = .nx e) : whL c b (n + 1) env = whL c b n e := by
  show (match c env with
    | .ok true => (b env).loop (whL c b n)
    | .ok false => .nx env
    | .exc k p => .exc env k p
    | .bad => .bad) = _
  rw [h1]
  simp only
  rw [h2]
  rfl
theorem wh_false {c : En → Res Bool} {b : En → Out} {n : Nat} {env : En} (h1 : c env = .ok false) : whL c b (n + 1) env = .nx env := by
  show (match c env with
    | .ok true => (b env).loop (whL c b n)
    | .ok false => .nx env
    | .exc k p => .exc env k p
    | .bad => .bad) = _
  rw [h1]
theorem atI_drop {l : List (Int × Int)} {k : Nat} {q : Int × Int} {r : List (Int × Int)} (e : l.drop k = q :: r) : atI (l.map encP) (k : Int) = some (encP q) ∧ k < l.length ∧ l.drop (k + 1) = r := by
  have hk : k < l.length := by
    rcases Nat.lt_or_ge k l.length with h | h
    · exact h
    · rw [List.drop_eq_nil_of_le h] at e; cases e
  have e2 := List.drop_eq_getElem_cons hk
  rw [e] at e2
  injection e2 with e3 e4
  refine ⟨?_, hk, e4.symm⟩
  rw [atI_in (by omega) (by simp; omega)]
  have e5 : l[k]? = some q := by rw [List.getElem?_eq_getElem hk, e3]
  rw [show ((k : Int)).toNat = k by omega, List.getElem?_map, e5]
  rfl
theorem sh_w1 (s0 : Sl) (oth found : List (Int × Int)) (p : Int × Int) (s6 : Sl) : ∀ (r : List (Int × Int)) (k n : Nat), oth.drop k = r → k ≤ oth.length → r.length < n →
    whL c_shared_2 b_shared_2 n [s0, .fz (.lst (oth.map encP)), .ow (.lst (found.map encP)), .fz (.int (k : Int)), .fz (.int p.1), .fz (.int p.2), s6]
      = .nx [s0, .fz (.lst (oth.map encP)), .ow (.lst (found.map encP)), .fz (.int ((k + (r.takeWhile fun q => decide (q.2 < p.1)).length : Nat) : Int)), .fz (.int p.1), .fz (.int p.2), s6]
  | [], k, n, e, hk, hn => by
    have : oth.length ≤ k := by
      have := congrArg List.length e
      simp at this; omega
    obtain ⟨n, rfl⟩ : ∃ m, n = m + 1 := ⟨n - 1, by simp at hn; omega⟩
    rw [wh_false (by simp [c_shared_2]; omega)]
    simp
  | q :: r, k, n, e, hk, hn => by
    obtain ⟨a1, a2, a3⟩ := atI_drop e
    obtain ⟨n, rfl⟩ : ∃ m, n = m + 1 := ⟨n - 1, by simp at hn; omega⟩
    by_cases c : q.2 < p.1
    · have w := sh_w1 s0 oth found p s6 r (k + 1) n a3 (by omega) (by simp at hn; omega)
      rw [wh_true (e := [s0, .fz (.lst (oth.map encP)), .ow (.lst (found.map encP)), .fz (.int ((k + 1 : Nat) : Int)), .fz (.int p.1), .fz (.int p.2), s6]) (by simp [c_shared_2, a1, a2, c]) (by simp [b_shared_2]), w]
      simp [List.takeWhile_cons, c]
      omega
    · rw [wh_false (by simp [c_shared_2, a1, a2, c])]
      simp [List.takeWhile_cons, c]
theorem sh_w2 (s0 s3 : Sl) (oth : List (Int × Int)) (p : Int × Int) : ∀ (r : List (Int × Int)) (found : List (Int × Int)) (k n : Nat), oth.drop k = r → k ≤ oth.length → r.length < n → found.length + r.length < 16777216 →
    whL c_shared_3 b_shared_3 n [s0, .fz (.lst (oth.map encP)), .ow (.lst (found.map encP)), s3, .fz (.int p.1), .fz (.int p.2), .fz (.int (k : Int))]
      = .nx [s0, .fz (.lst (oth.map encP)), .ow (.lst ((found ++ shM p r).map encP)), s3, .fz (.int p.1), .fz (.int p.2), .fz (.int ((k + (r.takeWhile fun q => decide (q.1 ≤ p.2)).length : Nat) : Int))]
  | [], found, k, n, e, hk, hn, hl => by
    have : oth.length ≤ k := by
      have := congrArg List.length e
      simp at this; omega
    obtain ⟨n, rfl⟩ : ∃ m, n = m + 1 := ⟨n - 1, by simp at hn; omega⟩
    rw [wh_false (by simp [c_shared_3]; omega)]
    simp [shM]
  | q :: r, found, k, n, e, hk, hn, hl => by
    obtain ⟨a1, a2, a3⟩ := atI_drop e
    obtain ⟨n, rfl⟩ : ∃ m, n = m + 1 := ⟨n - 1, by simp at hn; omega⟩
    by_cases c : q.1 ≤ p.2
    · have w := sh_w2 s0 s3 oth p r (found ++ [(max p.1 q.1, min p.2 q.2)]) (k + 1) n a3 (by omega) (by simp at hn; omega) (by simp at hl ⊢; omega)
      have hl' : found.length < 16777216 := by simp at hl; omega
      rw [wh_true (e := [s0, .fz (.lst (oth.map encP)), .ow (.lst ((found ++ [(max p.1 q.1, min p.2 q.2)]).map encP)), s3, .fz (.int p.1), .fz (.int p.2), .fz (.int ((k + 1 : Nat) : Int))]) (by simp [c_shared_3, a1, a2, c]) (by simp [b_shared_3, a1, hl', sizeLine_eq, encP]), w]
      simp [List.takeWhile_cons, c, shM]
      omega
    · rw [wh_false (by simp [c_shared_3, a1, a2, c])]
      simp [List.takeWhile_cons, c, shM]
def shK (oth : List (Int × Int)) (k : Nat) (p : Int × Int) : Nat := k + ((oth.drop k).takeWhile fun q => decide (q.2 < p.1)).length
def shS (oth : List (Int × Int)) (s : List (Int × Int) × Nat) (p : Int × Int) : List (Int × Int) × Nat := (s.1 ++ shM p (oth.drop (shK oth s.2 p)), shK oth s.2 p)
theorem drop_tw {A : Type} (P : A → Bool) : ∀ l : List A, l.drop (l.takeWhile P).length = l.dropWhile P
  | [] => rfl
  | a :: l => by
    cases c : P a with
    | true => simp [List.takeWhile_cons, List.dropWhile_cons, c, drop_tw P l]
    | false => simp [List.takeWhile_cons, List.dropWhile_cons, c]
theorem shK_drop (oth : List (Int × Int)) (k : Nat) (p : Int × Int) : oth.drop (shK oth k p) = shR p (oth.drop k) := by
  unfold shK shR
  rw [← drop_tw, List.drop_drop]
theorem tw_len {A : Type} (P : A → Bool) (l : List A) : (l.takeWhile P).length ≤ l.length := (List.takeWhile_sublist P).length_le
theorem shF_fold (oth : List (Int × Int)) : ∀ (one found : List (Int × Int)) (k : Nat), (one.foldl (shS oth) (found, k)).1 = found ++ shF one (oth.drop k)
  | [], found, k => by simp [shF]
  | p :: one, found, k => by
    rw [List.foldl_cons]
    unfold shS
    rw [show List.foldl (fun s p => (s.1 ++ shM p (List.drop (shK oth s.2 p) oth), shK oth s.2 p)) = List.foldl (shS oth) from rfl, shF_fold oth one, shK_drop, shF, List.append_assoc]
theorem shared_eq (one oth : List (Int × Int)) (h1 : one.length ≤ 300) (h2 : oth.length ≤ 300) : F_shared [.lst (one.map encP), .lst (oth.map encP)] = .ok (.fr (.lst ((shF one oth).map encP))) := by
  rw [F_shared_eq]
  have L := (forL_fold (g := g_shared_1) (b := b_shared_1) encP (fun s : List (Int × Int) × Nat => [.fz (.lst (one.map encP)), .fz (.lst (oth.map encP)), .ow (.lst (s.1.map encP)), .fz (.int (s.2 : Int)), .no, .no, .no]) (shS oth)
    (fun pre s => s.1.length ≤ pre.length * 300 ∧ s.2 ≤ oth.length) one [] (fun pre p post s e hp => by
      have hl := congrArg List.length e
      simp at hl
      obtain ⟨found, k⟩ := s
      obtain ⟨p1, p2⟩ := hp
      simp only at p1 p2
      have hk : shK oth k p ≤ oth.length := by
        have := tw_len (fun q : Int × Int => decide (q.2 < p.1)) (oth.drop k)
        unfold shK
        simp at this; omega
      have w1 := fun s0 s6 => sh_w1 s0 oth found p s6 _ k 1000000000 rfl p2 (by simp; omega)
      have w2 := fun s0 s3 => sh_w2 s0 s3 oth p _ found (shK oth k p) 1000000000 rfl hk (by simp; omega) (by simp; omega)
      refine ⟨?_, ?_, hk⟩
      · have w1 : ∀ s0 s6, whL c_shared_2 b_shared_2 1000000000 [s0, .fz (.lst (oth.map encP)), .ow (.lst (found.map encP)), .fz (.int (k : Int)), .fz (.int p.1), .fz (.int p.2), s6] = .nx [s0, .fz (.lst (oth.map encP)), .ow (.lst (found.map encP)), .fz (.int ((shK oth k p : Nat) : Int)), .fz (.int p.1), .fz (.int p.2), s6] := w1
        show (turn g_shared_1 b_shared_1 (encP p) [.fz (.lst (one.map encP)), .fz (.lst (oth.map encP)), .ow (.lst (found.map encP)), .fz (.int (k : Int)), .no, .no, .no]).cont = some [.fz (.lst (one.map encP)), .fz (.lst (oth.map encP)), .ow (.lst ((found ++ shM p (oth.drop (shK oth k p))).map encP)), .fz (.int ((shK oth k p : Nat) : Int)), .no, .no, .no]
        generalize shK oth k p = k' at *
        generalize shM p (oth.drop k') = M at *
        simp -implicitDefEqProofs [g_shared_1, b_shared_1, encP, w1, w2, whN]
      · have := tw_len (fun q : Int × Int => decide (q.1 ≤ p.2)) (oth.drop (shK oth k p))
        simp [shS, shM] at this ⊢
        omega) ([], 0) ⟨by simp, by simp⟩).1
  have f := shF_fold oth one [] 0
  rw [List.nil_append, List.drop_zero] at f
  generalize one.foldl (shS oth) ([], 0) = z at *
  obtain ⟨z1, z2⟩ := z
  simp only at f
  subst f
  have L' : forL g_shared_1 b_shared_1 (one.map encP) [.fz (.lst (one.map encP)), .fz (.lst (oth.map encP)), .ow (.lst []), .fz (.int 0), .no, .no, .no] = .nx [.fz (.lst (one.map encP)), .fz (.lst (oth.map encP)), .ow (.lst ((shF one oth).map encP)), .fz (.int (z2 : Int)), .no, .no, .no] := L
  simp [b_shared, L']
end K02
namespace K02
open Tr PG PySem L2 SpanM
/-! the law's own words -/
theorem cell_eq (ns : List Int) (k : Int) (h : 0 ≤ k) : ∃ c : Int, F_q_cell_at [.scr ns, .int k] = .ok (.sh (.int c)) := by
  rw [F_q_cell_at_eq]
  by_cases c : k < (ns.length : Int)
  · have e : atI ns k = some (ns[k.toNat]'(by omega)) := by rw [atI_in h c]; simp
    exact ⟨_, by simp [b_q_cell_at, c, e]; rfl⟩
  · exact ⟨0, by simp [b_q_cell_at, c]⟩
theorem whole_eq (a b : Int) : F_q_whole [.int a, .int b] = .ok (.sh (.bl (decide (a = b)))) := by
  rw [F_q_whole_eq]
  simp [b_q_whole]
theorem zip_same (l : List (Int × Int)) : zipT (l.map encP) (l.map encP) = l.map fun p => T.tup [encP p, encP p] := by
  unfold zipT
  induction l with
  | nil => rfl
  | cons p l ih => simp [ih]
theorem pairs_eq (l : List (Int × Int)) : F_q_pairs [.lst (l.map encP), .lst (l.map encP)] = .ok (.sh (.bl true)) := by
  rw [F_q_pairs_eq]
  have L := forL_ok (g := g_q_pairs_1) (b := b_q_pairs_1) (env := [.fz (.lst (l.map encP)), .fz (.lst (l.map encP)), .no, .no]) (fun p => T.tup [encP p, encP p]) l (fun p m => by simp [g_q_pairs_1, b_q_pairs_1, whole_eq])
  simp [b_q_pairs, zip_same, L]
def mixed (c k : Int) : Int := (c % 2147483647 * 48271 + 69621 * k) % 2147483647
theorem mixed_b (c k : Int) : 0 ≤ mixed c k ∧ mixed c k < 2147483647 := by unfold mixed; omega
theorem mixed_eq (c k : Int) : F_q_mixed [.int c, .int k] = .ok (.sh (.int (mixed c k))) := by
  rw [F_q_mixed_eq]
  have h1 : mulOk (c % 2147483647) 48271 := .inr (by omega)
  have h2 : mulOk 69621 k := .inl (by omega)
  simp [b_q_mixed, h1, h2, mixed]
theorem four (a b c d i : Int) (hi : 0 ≤ i ∧ i < 4) (h : 0 < a ∧ 0 < b ∧ 0 < c ∧ 0 < d) : ∃ q : Int, 0 < q ∧ atI [T.int a, .int b, .int c, .int d] i = some (.int q) := by
  have : i = 0 ∨ i = 1 ∨ i = 2 ∨ i = 3 := by omega
  rcases this with rfl | rfl | rfl | rfl
  · exact ⟨a, h.1, rfl⟩
  · exact ⟨b, h.2.1, rfl⟩
  · exact ⟨c, h.2.2.1, rfl⟩
  · exact ⟨d, h.2.2.2, rfl⟩
theorem kept_ok (ns : List Int) (st : Int) (hst : 0 ≤ st) (many : Int) (hm : 0 ≤ many ∧ many ≤ 12) : ∃ l, F_q_kept [.scr ns, .int st, .int many] = .ok (.fr (.lst (l.map encP))) ∧ Kept l ∧ l.length ≤ 12 := by
  rw [F_q_kept_eq]
  have rk : rOk many := ⟨by omega, by omega⟩
  have L : ∃ (l : List (Int × Int)) (a : Int), (Kept l ∧ l.length ≤ 12) ∧ forL g_q_kept_1 b_q_kept_1 ((List.range many.toNat).map fun i : Nat => T.int (i : Int)) [.fz (.scr ns), .fz (.int st), .fz (.int many), .ow (.lst []), .fz (.int 0), .no, .no, .no] = .nx [.fz (.scr ns), .fz (.int st), .fz (.int many), .ow (.lst (l.map encP)), .fz (.int a), .no, .no, .no] := by
    refine forL_inv (g := g_q_kept_1) (b := b_q_kept_1) (fun i : Nat => T.int (i : Int)) (fun pre e => ∃ (l : List (Int × Int)) (a : Int), (Kept l ∧ l.length = pre.length ∧ ∀ q ∈ l, q.2 ≤ a) ∧ e = [.fz (.scr ns), .fz (.int st), .fz (.int many), .ow (.lst (l.map encP)), .fz (.int a), .no, .no, .no])
      (fun o => ∃ (l : List (Int × Int)) (a : Int), (Kept l ∧ l.length ≤ 12) ∧ o = .nx [.fz (.scr ns), .fz (.int st), .fz (.int many), .ow (.lst (l.map encP)), .fz (.int a), .no, .no, .no]) (List.range many.toNat) [] _ ?_ ?_ ⟨[], 0, ⟨⟨.nil, fun p m => nomatch m⟩, rfl, fun p m => nomatch m⟩, rfl⟩
    · rintro pre i post e hp ⟨l, a, ⟨h1, h2, h3⟩, rfl⟩
      have hp' : List.range many.toNat = pre ++ i :: post := by simpa using hp
      have hlt : pre.length < many.toNat := by
        have := congrArg List.length hp'
        simp at this; omega
      have hi : i = pre.length := by
        have e1 : (List.range many.toNat)[pre.length]? = some i := by rw [hp']; simp
        rw [List.getElem?_range hlt] at e1
        exact (Option.some.inj e1).symm
      obtain ⟨c, hc⟩ := cell_eq ns (st + (i : Int)) (by omega)
      have mb := mixed_b c (i : Int)
      have me := mixed_eq c (i : Int)
      generalize mixed c (i : Int) = v at mb me
      obtain ⟨q1, q1p, a1⟩ := four 4 4 4 100000000 (v / 100000000 % 4) (by omega) (by omega)
      obtain ⟨q2, q2p, a2⟩ := four 1 7 7 100000000 (v / 7 % 4) (by omega) (by omega)
      have v1 := Int.emod_nonneg v (show q1 ≠ 0 by omega)
      have v2 := Int.emod_nonneg (v / 4) (show q2 ≠ 0 by omega)
      have pw : powR (.sh (.int 10)) (.sh (.int 8)) = .ok (.sh (.int 100000000)) := rfl
      have hl : l.length < 16777216 := by omega
      obtain ⟨x, hx⟩ : ∃ x : Int, (if (0 : Int) < (i : Int) then (1 : Int) else 0) = x := ⟨_, rfl⟩
      have tn : turn g_q_kept_1 b_q_kept_1 (.int (i : Int)) [.fz (.scr ns), .fz (.int st), .fz (.int many), .ow (.lst (l.map encP)), .fz (.int a), .no, .no, .no]
          = .nx [.fz (.scr ns), .fz (.int st), .fz (.int many), .ow (.lst ((l ++ [(a + 2 * x + v % q1, a + 2 * x + v % q1 + v / 4 % q2)]).map encP)), .fz (.int (a + 2 * x + v % q1 + v / 4 % q2)), .no, .no, .no] := by
        have m1 : mulOk 2 1 := .inl (by omega)
        have m0 : mulOk 2 0 := .inl (by omega)
        by_cases z : (0 : Int) < (i : Int)
        · rw [if_pos z] at hx
          subst hx
          have z' : 0 < i := by omega
          simp -implicitDefEqProofs [g_q_kept_1, b_q_kept_1, hc, me, pw, a1, a2, m1, q1p, q2p, hl, sizeLine_eq, encP, z']
        · rw [if_neg z] at hx
          subst hx
          have z' : ¬ 0 < i := by omega
          simp -implicitDefEqProofs [g_q_kept_1, b_q_kept_1, hc, me, pw, a1, a2, m0, q1p, q2p, hl, sizeLine_eq, encP, z']
      rw [tn]
      refine ⟨_, _, ⟨kept_snoc h1 (by simp only; omega) (fun q m => ?_), by simp [h2], fun q m => ?_⟩, rfl⟩
      · have := h3 q m
        have i0 : 0 < i := by
          rw [hi, ← h2]
          exact List.length_pos_of_mem m
        rw [if_pos (by omega)] at hx
        simp only
        omega
      · rcases List.mem_append.mp m with m | m
        · have := h3 q m
          split at hx <;> omega
        · obtain rfl : q = _ := List.mem_singleton.mp m
          exact Int.le_refl _
    · rintro e ⟨l, a, ⟨h1, h2, _⟩, rfl⟩
      exact ⟨l, a, ⟨h1, by simp at h2; omega⟩, rfl⟩
  obtain ⟨l, a, h, L⟩ := L
  refine ⟨l, ?_, h⟩
  simp -implicitDefEqProofs [b_q_kept, rk, rng0, L, sizeLine_eq]
def encS (one oth : List (Int × Int)) : T := .lst [.lst (one.map encP), .lst (oth.map encP)]
theorem sets_ok (ns : List Int) : ∃ one oth, F_q_sets [.scr ns] = .ok (.fr (encS one oth)) ∧ (Kept one ∧ one.length ≤ 12) ∧ Kept oth ∧ oth.length ≤ 12 := by
  rw [F_q_sets_eq]
  obtain ⟨c, hc⟩ := cell_eq ns 0 (by omega)
  obtain ⟨one, h1, k1⟩ := kept_ok ns 2 (by omega) (c % 13) (by omega)
  obtain ⟨oth, h2, k2⟩ := kept_ok ns 14 (by omega) (c / 13 % 13) (by omega)
  by_cases z : c / 169 % 4 = 1
  · refine ⟨one, one.filter fun p => decide (0 < (p.1 + c / 676) % 3), ?_, k1, kept_sub k1.1 List.filter_sublist, Nat.le_trans (List.length_filter_le _ _) k1.2⟩
    have cm := compL_flt (g := g_q_sets_1) (tt := c_q_sets_1) (te := e_q_sets_1) (env := [.no, .fz (.int c), .fz (.lst (one.map encP)), .fz (.lst (oth.map encP)), .no, .no]) encP (fun p => decide (0 < (p.1 + c / 676) % 3)) encP one (by rw [sizeLine_eq]; omega) fun p _ => by
      by_cases y : 0 < (p.1 + c / 676) % 3
      · simp [g_q_sets_1, c_q_sets_1, e_q_sets_1, encP, y, sizeLine_eq]
      · simp [g_q_sets_1, c_q_sets_1, e_q_sets_1, encP, y, sizeLine_eq]
    simp -implicitDefEqProofs [b_q_sets, hc, h1, h2, z, cm, encS, sizeLine_eq]
  · refine ⟨one, oth, ?_, k1, k2⟩
    simp -implicitDefEqProofs [b_q_sets, hc, h1, h2, z, encS, sizeLine_eq]
theorem in_eq (l : List (Int × Int)) (t : Int) : F_q_in [.lst (l.map encP), .int t] = .ok (.sh (.bl (inS l t))) := by
  rw [F_q_in_eq]
  have L := forL_fold0 (g := g_q_in_1) (b := b_q_in_1) encP (fun s : Bool => [.fz (.lst (l.map encP)), .fz (.int t), .fz (.bl s), .no, .no]) (fun s p => s || (decide (p.1 ≤ t) && decide (t ≤ p.2))) l (fun p s _ => by
    by_cases c : p.1 ≤ t <;> by_cases d : t ≤ p.2 <;> cases s <;> simp [g_q_in_1, b_q_in_1, encP, c, d]) false
  have f : ∀ (m : List (Int × Int)) (s : Bool), m.foldl (fun s p => s || (decide (p.1 ≤ t) && decide (t ≤ p.2))) s = (s || inS m t) := by
    intro m
    induction m with
    | nil => intro s; simp [inS]
    | cons a m ih => intro s; rw [List.foldl_cons, ih]; simp [inS, Bool.or_assoc]
  rw [f] at L
  simp [b_q_in, L]
theorem up_to_eq (l : List (Int × Int)) (t : Int) : F_q_up_to [.lst (l.map encP), .int t] = .ok (.sh (.int (upS l t))) := by
  rw [F_q_up_to_eq]
  have L := forL_fold0 (g := g_q_up_to_1) (b := b_q_up_to_1) encP (fun s : Int => [.fz (.lst (l.map encP)), .fz (.int t), .fz (.int s), .no, .no]) (fun s p => if p.1 ≤ t then s + min p.2 t - p.1 + 1 else s) l (fun p s _ => by
    by_cases c : p.1 ≤ t <;> simp [g_q_up_to_1, b_q_up_to_1, encP, c]) 0
  have f : ∀ (m : List (Int × Int)) (s : Int), m.foldl (fun s p => if p.1 ≤ t then s + min p.2 t - p.1 + 1 else s) s = s + upS m t := by
    intro m
    induction m with
    | nil => intro s; simp [upS]
    | cons a m ih => intro s; rw [List.foldl_cons, ih]; simp only [upS, List.map_cons, List.sum_cons]; split <;> omega
  rw [f, Int.zero_add] at L
  simp [b_q_up_to, L]
theorem borders_eq (one oth : List (Int × Int)) (h1 : one.length ≤ 300) (h2 : oth.length ≤ 300) : F_q_borders [encS one oth] = .ok (.fr (.lst ((sortI (bdr one ++ bdr oth)).map T.int))) := by
  rw [F_q_borders_eq]
  have L := fun (s2 : Sl) (acc l : List (Int × Int)) (h : acc.length + l.length ≤ 1000) => (forL_fold (g := g_q_borders_2) (b := b_q_borders_2) encP (fun s : List (Int × Int) => [.fz (encS one oth), .fz (.lst ((bdr s).map T.int)), s2, .no, .no]) (fun s p => s ++ [p]) (fun pre s => s.length = acc.length + pre.length) l [] (fun pre p post s e hp => by
    have hl := congrArg List.length e
    simp at hl
    have hb : (bdr s).length ≤ 10000 := by
      have : (bdr s).length = s.length * 2 := by
        clear hp hl e
        induction s with
        | nil => rfl
        | cons a s ih => rw [show bdr (a :: s) = a.1 :: (a.2 + 1) :: bdr s from rfl]; simp [ih]; omega
      omega
    have hs : (bdr s).length + 2 ≤ 16777216 := by omega
    have be : bdr (s ++ [p]) = bdr s ++ [p.1, p.2 + 1] := by simp [bdr]
    refine ⟨?_, by simp; omega⟩
    rw [be, List.map_append]
    generalize encS one oth = S at *
    simp [g_q_borders_2, b_q_borders_2, encP, hs, sizeLine_eq]) acc (by simp)).1
  have f : ∀ (l acc : List (Int × Int)), l.foldl (fun s p => s ++ [p]) acc = acc ++ l := by
    intro l
    induction l with
    | nil => intro acc; simp
    | cons a l ih => intro acc; rw [List.foldl_cons, ih]; simp
  have L1 := L (.fz (.lst (one.map encP))) [] one (by simp; omega)
  have L2 := L (.fz (.lst (oth.map encP))) one oth (by omega)
  rw [f, List.nil_append] at L1
  rw [f] at L2
  have b0 : bdr [] = [] := rfl
  have ba : bdr (one ++ oth) = bdr one ++ bdr oth := by simp [bdr]
  rw [b0, List.map_nil] at L1
  rw [ba] at L2
  have t1 : turn g_q_borders_1 b_q_borders_1 (.lst (one.map encP)) [.fz (encS one oth), .fz (.lst []), .no, .no, .no] = .nx [.fz (encS one oth), .fz (.lst ((bdr one).map T.int)), .no, .no, .no] := by
    generalize encS one oth = S at *
    simp [g_q_borders_1, b_q_borders_1, L1]
  have t2 : turn g_q_borders_1 b_q_borders_1 (.lst (oth.map encP)) [.fz (encS one oth), .fz (.lst ((bdr one).map T.int)), .no, .no, .no] = .nx [.fz (encS one oth), .fz (.lst ((bdr one ++ bdr oth).map T.int)), .no, .no, .no] := by
    generalize encS one oth = S at *
    simp only [List.map_append] at L2 ⊢
    simp [g_q_borders_1, b_q_borders_1, L2]
  have L3 : forL g_q_borders_1 b_q_borders_1 [.lst (one.map encP), .lst (oth.map encP)] [.fz (encS one oth), .fz (.lst []), .no, .no, .no] = .nx [.fz (encS one oth), .fz (.lst ((bdr one ++ bdr oth).map T.int)), .no, .no, .no] := by
    rw [forL_cons, t1, loop_nx, forL_cons, t2, loop_nx, forL_nil]
  have it : T.its (encS one oth) = some [.lst (one.map encP), .lst (oth.map encP)] := rfl
  have st := sortT_ints (ns := bdr one ++ bdr oth)
  generalize bdr one ++ bdr oth = B at *
  generalize encS one oth = S at *
  simp [b_q_borders, it, L3, st]
theorem made_eq (one oth : List (Int × Int)) (h1 : one.length ≤ 300) (h2 : oth.length ≤ 300) :
    F_q_made [encS one oth, .int 0] = .ok (.fr (.lst ((mrg (sortP (one ++ oth))).map encP))) ∧ F_q_made [encS one oth, .int 1] = .ok (.fr (.lst ((shF one oth).map encP))) ∧
    F_q_made [encS one oth, .int 2] = .ok (.fr (.lst ((lsF one oth).map encP))) ∧ F_q_made [encS one oth, .int 3] = .ok (.fr (.lst ((lsF oth one).map encP))) := by
  simp only [F_q_made_eq]
  have j := joined_eq one oth (by omega)
  have s := shared_eq one oth h1 h2
  have l1 := less_eq one oth h1 h2
  have l2 := less_eq oth one h2 h1
  refine ⟨?_, ?_, ?_, ?_⟩
  · simp [b_q_made, encS, j]
  · simp [b_q_made, encS, s]
  · simp [b_q_made, encS, l1]
  · simp [b_q_made, encS, l2]
end K02
namespace K02
open Tr PG PySem L2 SpanM
/-! by the stretches -/
def gW (w : Nat) (a b : Bool) : Bool := if w = 0 then a || b else if w = 1 then a && b else if w = 2 then a && !b else b && !a
theorem zip_ints (l m : List Int) : zipT (l.map T.int) (m.map T.int) = (l.zip m).map encP := by
  unfold zipT
  induction l generalizing m with
  | nil => rfl
  | cons a l ih =>
    cases m with
    | nil => rfl
    | cons b m => simp [ih, encP]
theorem ways (x y : Bool) (w : Nat) (hw : w < 4) : atI [T.bl (x || y), .bl (x && y), .bl (x && !y), .bl (y && !x)] (w : Int) = some (.bl (gW w x y)) := by
  have : w = 0 ∨ w = 1 ∨ w = 2 ∨ w = 3 := by omega
  rcases this with rfl | rfl | rfl | rfl <;> rfl
theorem cut_drop1 {A : Type} (l : List A) : cutL l (some 1) none = l.drop 1 := by
  unfold cutL
  cases l with
  | nil => rfl
  | cons a l =>
    have e1 : HT.sIx (a :: l).length 0 (some 1) = 1 := by
      simp [HT.sIx]
      try omega
    have e2 : HT.sIx (a :: l).length (a :: l).length none = (a :: l).length := rfl
    rw [e1, e2]
    simp
theorem chosen_eq (one oth : List (Int × Int)) (h1 : one.length ≤ 300) (h2 : oth.length ≤ 300) (w : Nat) (hw : w < 4) :
    F_q_chosen [encS one oth, .int (w : Int)] = .ok (.fr (.lst ((chF (fun t => gW w (inS one t) (inS oth t)) (sortI (bdr one ++ bdr oth))).map encP))) := by
  rw [F_q_chosen_eq]
  have bo := borders_eq one oth h1 h2
  have bl : ∀ l : List (Int × Int), (bdr l).length = l.length * 2 := by
    intro l
    induction l with
    | nil => rfl
    | cons a s ih => rw [show bdr (a :: s) = a.1 :: (a.2 + 1) :: bdr s from rfl]; simp [ih]; omega
  have hB : (sortI (bdr one ++ bdr oth)).length ≤ 1200 := by
    rw [(sortI_perm _).length_eq]
    simp [bl]; omega
  generalize sortI (bdr one ++ bdr oth) = B at *
  have i0 : ixT (encS one oth) (.int 0) = .ok (.sh (.lst (one.map encP))) := rfl
  have i1 : ixT (encS one oth) (.int 1) = .ok (.sh (.lst (oth.map encP))) := rfl
  have e1 := in_eq one
  have e2 := in_eq oth
  have y1 : atI [T.bl true, .bl true, .bl false, .bl false] (w : Int) = _ := ways true true w hw
  have y2 : atI [T.bl true, .bl false, .bl true, .bl false] (w : Int) = _ := ways true false w hw
  have y3 : atI [T.bl true, .bl false, .bl false, .bl true] (w : Int) = _ := ways false true w hw
  have y4 : atI [T.bl false, .bl false, .bl false, .bl false] (w : Int) = _ := ways false false w hw
  generalize encS one oth = S at *
  obtain ⟨f, hf⟩ : ∃ f : Int → Bool, (fun t => gW w (inS one t) (inS oth t)) = f := ⟨_, rfl⟩
  have hf' : ∀ t, gW w (inS one t) (inS oth t) = f t := fun t => by rw [← hf]
  rw [hf]
  have L := (forL_fold (g := g_q_chosen_1) (b := b_q_chosen_1) encP (fun s : MS => [.fz S, .fz (.int (w : Int)), .fz (.lst (B.map T.int)), .ow (.lst (s.out.map encP)), .no, .no, .no, .no, .no]) (chS f)
    (fun pre s => s.out.length ≤ pre.length ∧ (s.2 = none → s.1 = [])) (B.zip (B.drop 1)) [] (fun pre a post s e hp => by
      obtain ⟨done, cur⟩ := s
      obtain ⟨hl, hn⟩ := hp
      have hlen : (done ++ cur.toList).length < 16777216 := by
        have := congrArg List.length e
        simp [MS.out] at this hl ⊢; omega
      obtain ⟨a1, a2⟩ := a
      have ff := hf' a1
      have e1 := e1 a1
      have e2 := e2 a1
      generalize inS one a1 = x at *
      generalize inS oth a1 = y at *
      by_cases c : a1 < a2
      · cases ft : f a1 with
        | false =>
          refine ⟨?_, by simp [chS, ft, MS.out] at hl ⊢; omega, fun z => by simp [chS, ft] at z ⊢; exact hn z⟩
          rw [ft] at ff
          cases x <;> cases y <;> simp -implicitDefEqProofs [g_q_chosen_1, b_q_chosen_1, encP, MS.out, chS, c, i0, i1, e1, e2, y1, y2, y3, y4, ft, ff, sizeLine_eq]
        | true =>
          rw [ft] at ff
          cases cur with
          | none =>
            obtain rfl : done = [] := hn rfl
            refine ⟨?_, by simp [chS, c, ft, MS.out], fun z => by simp [chS, c, ft] at z⟩
            cases x <;> cases y <;> simp -implicitDefEqProofs [g_q_chosen_1, b_q_chosen_1, encP, MS.out, chS, c, i0, i1, e1, e2, y1, y2, y3, y4, ft, ff, sizeLine_eq]
          | some q =>
            have hl' : done.length + 1 < 16777216 := by simpa using hlen
            have hl2 : done.length < 16777216 := by omega
            have ne : eqT (.lst (done.map encP ++ [encP q])) (.lst []) = .ok (.sh (.bl false)) := by
              rw [eqT_lst, if_pos ⟨by simp [List.all_eq_true, encP], rfl⟩]
              cases done <;> rfl
            by_cases d : q.2 = a1 - 1
            · refine ⟨?_, by simp [chS, MS.out, c, ft, d] at hl ⊢; omega, fun z => by simp [chS, c, ft, d] at z⟩
              cases x <;> cases y <;> simp -implicitDefEqProofs [g_q_chosen_1, b_q_chosen_1, encP, MS.out, chS, c, d, ne, hl', hl2, i0, i1, e1, e2, y1, y2, y3, y4, ft, ff, sizeLine_eq]
            · refine ⟨?_, by simp [chS, MS.out, c, ft, d] at hl ⊢; omega, fun z => by simp [chS, c, ft, d] at z⟩
              cases x <;> cases y <;> simp -implicitDefEqProofs [g_q_chosen_1, b_q_chosen_1, encP, MS.out, chS, c, d, ne, hl', hl2, i0, i1, e1, e2, y1, y2, y3, y4, ft, ff, sizeLine_eq]
      · refine ⟨?_, by simp [chS, c, MS.out] at hl ⊢; omega, fun z => by simp [chS, c] at z ⊢; exact hn z⟩
        cases x <;> cases y <;> simp -implicitDefEqProofs [g_q_chosen_1, b_q_chosen_1, encP, MS.out, chS, c, i0, i1, e1, e2, y1, y2, y3, y4, ff, sizeLine_eq]) ([], none) ⟨by simp [MS.out], fun _ => rfl⟩).1
  have L' : forL g_q_chosen_1 b_q_chosen_1 ((B.zip (B.drop 1)).map encP) [.fz S, .fz (.int (w : Int)), .fz (.lst (B.map T.int)), .ow (.lst []), .no, .no, .no, .no, .no] = .nx [.fz S, .fz (.int (w : Int)), .fz (.lst (B.map T.int)), .ow (.lst ((chF f B).map encP)), .no, .no, .no, .no, .no] := L
  have zz : zipT (B.map T.int) ((B.map T.int).drop 1) = (B.zip (B.drop 1)).map encP := by rw [← List.map_drop]; exact zip_ints _ _
  have hB' : B.length ≤ 16777216 := by omega
  simp -implicitDefEqProofs [-List.drop_one, b_q_chosen, bo, cut_drop1, zz, L', sizeLine_eq, hB']
end K02
namespace K02
open Tr PG PySem L2 SpanM
/-! by turns: dicts of counts -/
section
variable {κ β : Type} [DecidableEq κ]
theorem fnd_cons (e : κ × β) (l : List (κ × β)) (k : κ) : fndK (e :: l) k = if e.1 = k then some e.2 else fndK l k := by
  unfold fndK
  rw [List.find?_cons]
  by_cases c : e.1 = k <;> simp [c]
theorem fnd_map (k k' : κ) (v : β) : ∀ l : List (κ × β), fndK (l.map fun kv => if kv.1 = k then (kv.1, v) else kv) k' = if k' = k then (if (l.any fun kv => decide (kv.1 = k)) = true then some v else none) else fndK l k'
  | [] => by simp [fndK]
  | e :: l => by
    rw [List.map_cons, fnd_cons, fnd_map k k' v l, fnd_cons, List.any_cons]
    by_cases c : e.1 = k
    · by_cases c2 : k' = k
      · subst c2; simp [c]
      · have c3 : ¬ k = k' := fun z => c2 z.symm
        simp [c, c2, c3]
    · by_cases c2 : k' = k
      · subst c2
        have : decide (e.1 = k') = false := by simpa using c
        rw [if_neg c, if_neg c, if_pos rfl, this, Bool.false_or, if_pos rfl]
      · simp [c, c2]
theorem fnd_snoc (k k' : κ) (v : β) : ∀ l : List (κ × β), fndK (l ++ [(k, v)]) k' = match fndK l k' with
    | some x => some x
    | none => if k' = k then some v else none
  | [] => by
    rw [List.nil_append, fnd_cons]
    by_cases c : k' = k
    · subst c; simp [fndK]
    · have c3 : ¬ k = k' := fun z => c z.symm
      simp [fndK, c, c3]
  | e :: l => by
    rw [List.cons_append, fnd_cons, fnd_snoc k k' v l, fnd_cons]
    by_cases c : e.1 = k' <;> simp [c]
theorem fnd_none (k : κ) : ∀ l : List (κ × β), (l.any fun kv => decide (kv.1 = k)) = false → fndK l k = none
  | [], _ => rfl
  | e :: l, h => by
    rw [List.any_cons, Bool.or_eq_false_iff] at h
    rw [fnd_cons, if_neg (by simpa using h.1), fnd_none k l h.2]
theorem fnd_putD (k k' : κ) (v : β) (d : List (κ × β)) : fndK (putD d k v) k' = if k' = k then some v else fndK d k' := by
  unfold putD
  by_cases c : (d.any fun kv => decide (kv.1 = k)) = true
  · rw [if_pos c, fnd_map, if_pos c]
  · rw [if_neg c, fnd_snoc]
    by_cases c2 : k' = k
    · subst c2
      rw [fnd_none k' d (Bool.eq_false_iff.mpr c), if_pos rfl]
    · rw [if_neg c2, if_neg c2]
      cases fndK d k' <;> rfl
theorem putD_lenS (k : κ) (v : β) (d : List (κ × β)) : (putD d k v).length ≤ d.length + 1 := by
  unfold putD
  split <;> simp
end
theorem key_mem {d : List (Int × Int)} {t : Int} : fndK d t ≠ none ↔ t ∈ d.map (·.1) := by
  induction d with
  | nil => simp [fndK]
  | cons e d ih =>
    rw [fnd_cons, List.map_cons, List.mem_cons]
    by_cases c : e.1 = t
    · simp [c]
    · rw [if_neg c, ih]
      constructor
      · exact .inr
      · rintro (h | h)
        · exact (c h.symm).elim
        · exact h
theorem putD_nodup {d : List (Int × Int)} (h : (d.map (·.1)).Nodup) (t v : Int) : ((putD d t v).map (·.1)).Nodup := by
  unfold putD
  split
  · have : (d.map fun kv => if kv.1 = t then (kv.1, v) else kv).map (·.1) = d.map (·.1) := by
      rw [List.map_map]
      refine List.map_congr_left fun e _ => ?_
      simp only [Function.comp_apply]
      split <;> rfl
    rw [this]; exact h
  · rename_i c
    rw [List.map_append]
    refine List.nodup_append.mpr ⟨h, by simp, fun a m b m' => ?_⟩
    obtain rfl : b = t := by simpa using m'
    obtain ⟨e, me, rfl⟩ := List.mem_map.mp m
    intro z
    exact c (List.any_eq_true.mpr ⟨e, me, by simpa using z⟩)
def stp (bit : Int) (d : List (Int × Int)) (t : Int) : List (Int × Int) := putD d t ((fndK d t).getD 0 + 1 + bit)
theorem stp_fnd (bit : Int) : ∀ (ts : List Int) (d : List (Int × Int)), ts.Nodup → ∀ u, fndK (ts.foldl (stp bit) d) u = if u ∈ ts then some ((fndK d u).getD 0 + 1 + bit) else fndK d u
  | [], d, _, u => by simp
  | t :: ts, d, h, u => by
    obtain ⟨h1, h2⟩ := List.nodup_cons.mp h
    rw [List.foldl_cons, stp_fnd bit ts _ h2 u]
    unfold stp
    rw [fnd_putD]
    by_cases c : u = t
    · subst c
      rw [if_neg h1, if_pos rfl, if_pos List.mem_cons_self]
    · rw [if_neg c]
      by_cases m : u ∈ ts
      · rw [if_pos m, if_pos (List.mem_cons_of_mem _ m)]
      · rw [if_neg m, if_neg]
        intro z
        rcases List.mem_cons.mp z with z | z
        · exact c z
        · exact m z
theorem stp_nodup (bit : Int) : ∀ (ts : List Int) (d : List (Int × Int)), (d.map (·.1)).Nodup → ((ts.foldl (stp bit) d).map (·.1)).Nodup
  | [], d, h => h
  | t :: ts, d, h => stp_nodup bit ts _ (putD_nodup h _ _)
theorem stp_len (bit : Int) : ∀ (ts : List Int) (d : List (Int × Int)), (ts.foldl (stp bit) d).length ≤ d.length + ts.length
  | [], d => by simp
  | t :: ts, d => by
    rw [List.foldl_cons]
    have h1 := stp_len bit ts (stp bit d t)
    have h2 : (stp bit d t).length ≤ d.length + 1 := putD_lenS _ _ _
    simp; omega
/-- the turns of a span, of spans -/
def trn (p : Int × Int) : List Int := (List.range (p.2 + 1 - p.1).toNat).map fun i : Nat => p.1 + (i : Int)
def trs (l : List (Int × Int)) : List Int := l.flatMap trn
theorem trn_mem {p : Int × Int} {t : Int} : t ∈ trn p ↔ p.1 ≤ t ∧ t ≤ p.2 := by
  unfold trn
  rw [List.mem_map]
  constructor
  · rintro ⟨i, m, rfl⟩
    have := List.mem_range.mp m
    omega
  · intro h
    exact ⟨(t - p.1).toNat, List.mem_range.mpr (by omega), by omega⟩
theorem trs_mem {l : List (Int × Int)} {t : Int} : t ∈ trs l ↔ inS l t = true := by
  rw [inS_iff]
  unfold trs
  rw [List.mem_flatMap]
  constructor
  · rintro ⟨p, m, h⟩
    exact ⟨p, m, trn_mem.mp h⟩
  · rintro ⟨p, m, h⟩
    exact ⟨p, m, trn_mem.mpr h⟩
theorem trs_nodup : ∀ {l : List (Int × Int)}, Kept l → (trs l).Nodup
  | [], _ => List.nodup_nil
  | p :: l, h => by
    show (trn p ++ trs l).Nodup
    refine List.nodup_append.mpr ⟨?_, trs_nodup (kept_tail h), fun a m b m' => ?_⟩
    · unfold trn
      refine List.pairwise_map.mpr (List.Pairwise.imp (fun {a b} ne => ?_) List.nodup_range)
      omega
    · have h1 := trn_mem.mp m
      obtain ⟨q, mq, c, d⟩ := inS_iff.mp (trs_mem.mp m')
      have := (List.pairwise_cons.mp h.1).1 q mq
      omega
theorem fold_trs (bit : Int) : ∀ (l : List (Int × Int)) (d : List (Int × Int)), l.foldl (fun d p => (trn p).foldl (stp bit) d) d = (trs l).foldl (stp bit) d
  | [], d => rfl
  | p :: l, d => by
    rw [List.foldl_cons, fold_trs bit l]
    show _ = (trn p ++ trs l).foldl (stp bit) d
    rw [List.foldl_append]
/-- spans of the second kind -/
structure Wd (l : List (Int × Int)) : Prop where
  k : Kept l
  n : l.length ≤ 200
  b : ∀ p ∈ l, 0 ≤ p.1 ∧ p.2 ≤ 100000 ∧ p.2 ≤ p.1 + 3
theorem trn_len {p : Int × Int} (h : p.2 ≤ p.1 + 3) : (trn p).length ≤ 4 := by
  unfold trn
  simp; omega
theorem by_in (s0 s1 s4 s8 : Sl) (bit : Int) (l : List (Int × Int)) (d : List (Int × Int)) (h : Wd l) (hd : d.length ≤ 1000) :
    forL g_q_by_turns_2 b_q_by_turns_2 (l.map encP) [s0, s1, .ow (.dik (encI d)), .fz (.int bit), s4, .no, .no, .no, s8] = .nx [s0, s1, .ow (.dik (encI ((trs l).foldl (stp bit) d))), .fz (.int bit), s4, .no, .no, .no, s8] ∧ ((trs l).foldl (stp bit) d).length ≤ d.length + 800 := by
  have L := forL_fold (g := g_q_by_turns_2) (b := b_q_by_turns_2) encP (fun d : List (Int × Int) => [s0, s1, .ow (.dik (encI d)), .fz (.int bit), s4, .no, .no, .no, s8]) (fun d p => (trn p).foldl (stp bit) d) (fun pre e => e.length ≤ d.length + 4 * pre.length) l [] (fun pre p post e hp he => by
    have hl := congrArg List.length hp
    simp at hl
    have ln := h.n
    have mp : p ∈ l := by
      have : p ∈ pre ++ p :: post := by simp
      rw [← hp] at this; simpa using this
    obtain ⟨b1, b2, b3⟩ := h.b p mp
    have t4 := trn_len b3
    have pk := h.k.2 p mp
    have sl := stp_len bit (trn p) e
    have L2 := fun s5 s6 => (forL_fold (g := g_q_by_turns_3) (b := b_q_by_turns_3) T.int (fun d : List (Int × Int) => [s0, s1, .ow (.dik (encI d)), .fz (.int bit), s4, s5, s6, .no, s8]) (stp bit) (fun pre' e' => e'.length ≤ e.length + pre'.length) (trn p) [] (fun pre' t post' e' hp' he' => by
      have hl' := congrArg List.length hp'
      simp at hl'
      have h1 : e'.length < 16777216 := by omega
      have h2 : (stp bit e' t).length ≤ e'.length + 1 := putD_lenS _ _ _
      refine ⟨?_, by simp; omega⟩
      simp -implicitDefEqProofs [g_q_by_turns_3, b_q_by_turns_3, stp, h1, sizeLine_eq]) e (by simp)).1
    have rk1 : rOk p.1 := ⟨by omega, by omega⟩
    have rk2 : rOk (p.2 + 1) := ⟨by omega, by omega⟩
    have rt : rngT p.1 (p.2 + 1 - p.1).toNat = (trn p).map T.int := by
      rw [rng_map]; simp [trn]
    refine ⟨?_, by simp; omega⟩
    simp -implicitDefEqProofs [g_q_by_turns_2, b_q_by_turns_2, encP, rk1, rk2, rt, L2]) d (by simp)
  rw [fold_trs] at L
  refine ⟨L.1, ?_⟩
  have e1 := L.2
  have e2 := h.n
  rw [List.nil_append] at e1
  omega
def selW (w : Nat) (v : Int) : Bool := if w = 0 then true else if w = 1 then decide (v = 3) else if w = 2 then decide (v = 1) else decide (v = 2)
def byS (w : Nat) (d : List (Int × Int)) (s : MS) (t : Int) : MS := if selW w ((fndK d t).getD 0) = true then mstep s (t, t) else s
theorem byS_fold (w : Nat) (d : List (Int × Int)) : ∀ (ks : List Int) (s : MS), ks.foldl (byS w d) s = (dbl (ks.filter fun t => selW w ((fndK d t).getD 0))).foldl mstep s
  | [], s => rfl
  | t :: ks, s => by
    rw [List.foldl_cons, byS_fold w d ks, List.filter_cons]
    unfold byS
    split <;> rfl
theorem sel_in (v : Int) (hv : v = 1 ∨ v = 2 ∨ v = 3) (w : Nat) (hw : w < 4) : ∃ q, atI [T.tup [.int 1, .int 2, .int 3], .tup [.int 3], .tup [.int 1], .tup [.int 2]] (w : Int) = some q ∧ inT (.int v) q = some (selW w v) := by
  have : w = 0 ∨ w = 1 ∨ w = 2 ∨ w = 3 := by omega
  rcases this with rfl | rfl | rfl | rfl <;> rcases hv with rfl | rfl | rfl <;> exact ⟨_, rfl, by rfl⟩
end K02
namespace K02
open Tr PG PySem L2 SpanM
def dOf (one oth : List (Int × Int)) : List (Int × Int) := (trs oth).foldl (stp 1) ((trs one).foldl (stp 0) [])
theorem dOf_fnd {one oth : List (Int × Int)} (h1 : Kept one) (h2 : Kept oth) (t : Int) :
    fndK (dOf one oth) t = if inS oth t = true then some (if inS one t = true then 3 else 2) else if inS one t = true then some 1 else none := by
  unfold dOf
  rw [stp_fnd 1 _ _ (trs_nodup h2), stp_fnd 0 _ _ (trs_nodup h1)]
  simp only [trs_mem]
  have e : fndK ([] : List (Int × Int)) t = none := rfl
  rw [e]
  cases inS oth t <;> cases inS one t <;> simp
theorem dOf_nodup (one oth : List (Int × Int)) : ((dOf one oth).map (·.1)).Nodup := stp_nodup _ _ _ (stp_nodup _ _ _ List.nodup_nil)
theorem by_loop (s0 s1 : Sl) (one oth : List (Int × Int)) (h1 : Wd one) (h2 : Wd oth) : forL g_q_by_turns_1 b_q_by_turns_1 [.tup [.int 0, .lst (one.map encP)], .tup [.int 1, .lst (oth.map encP)]] [s0, s1, .ow (.dik []), .no, .no, .no, .no, .no, .no]
    = .nx [s0, s1, .ow (.dik (encI (dOf one oth))), .no, .no, .no, .no, .no, .no] ∧ (dOf one oth).length ≤ 1600 := by
  obtain ⟨L1, l1⟩ := by_in s0 s1 (.fz (.lst (one.map encP))) .no 0 one [] h1 (by simp)
  rw [List.length_nil] at l1
  obtain ⟨L2, l2⟩ := by_in s0 s1 (.fz (.lst (oth.map encP))) .no 1 oth _ h2 (show ((trs one).foldl (stp 0) []).length ≤ 1000 by omega)
  have e0 : encI [] = [] := rfl
  rw [e0] at L1
  unfold dOf
  refine ⟨?_, by omega⟩
  have t1 : turn g_q_by_turns_1 b_q_by_turns_1 (.tup [.int 0, .lst (one.map encP)]) [s0, s1, .ow (.dik []), .no, .no, .no, .no, .no, .no] = .nx [s0, s1, .ow (.dik (encI ((trs one).foldl (stp 0) []))), .no, .no, .no, .no, .no, .no] := by
    simp -implicitDefEqProofs [g_q_by_turns_1, b_q_by_turns_1, L1]
  generalize (trs one).foldl (stp 0) [] = d1 at *
  have t2 : turn g_q_by_turns_1 b_q_by_turns_1 (.tup [.int 1, .lst (oth.map encP)]) [s0, s1, .ow (.dik (encI d1)), .no, .no, .no, .no, .no, .no] = .nx [s0, s1, .ow (.dik (encI ((trs oth).foldl (stp 1) d1))), .no, .no, .no, .no, .no, .no] := by
    simp -implicitDefEqProofs [g_q_by_turns_1, b_q_by_turns_1, L2]
  rw [forL_cons, t1, loop_nx, forL_cons, t2, loop_nx, forL_nil]
theorem by_turns_eq (one oth : List (Int × Int)) (h1 : Wd one) (h2 : Wd oth) (w : Nat) (hw : w < 4) :
    ∃ M, F_q_by_turns [encS one oth, .int (w : Int)] = .ok (.fr (.lst (M.map encP))) ∧ Kept M ∧ ∀ t, cov M t ↔ gW w (inS one t) (inS oth t) = true := by
  rw [F_q_by_turns_eq]
  obtain ⟨L1, len⟩ := by_loop (.fz (encS one oth)) (.fz (.int (w : Int))) one oth h1 h2
  have fnd := dOf_fnd h1.k h2.k
  have nd := dOf_nodup one oth
  generalize dOf one oth = d at *
  obtain ⟨ks, hks⟩ : ∃ ks, sortI (d.map (·.1)) = ks := ⟨_, rfl⟩
  have kp : ks.Perm (d.map (·.1)) := hks ▸ sortI_perm _
  have kl : ks.Pairwise (· < ·) := by
    have a : ks.Pairwise (· ≤ ·) := hks ▸ sortI_sorted _
    have b : ks.Nodup := kp.nodup_iff.mpr nd
    exact (a.and b).imp fun {x y} h => by omega
  have val : ∀ t ∈ ks, ∃ v, fndK d t = some v ∧ (v = 1 ∨ v = 2 ∨ v = 3) := fun t m => by
    have := key_mem.mpr (kp.mem_iff.mp m)
    have f := fnd t
    cases e1 : inS one t <;> cases e2 : inS oth t <;> simp only [e1, e2, if_true, if_false, Bool.false_eq_true] at f <;> first | exact (this f).elim | exact ⟨_, f, by omega⟩
  have kn : ks.length ≤ 1600 := by rw [kp.length_eq, List.length_map]; omega
  have L2 := (forL_fold (g := g_q_by_turns_4) (b := b_q_by_turns_4) T.int (fun s : MS => [.no, .fz (.int (w : Int)), .ow (.dik (encI d)), .no, .no, .no, .no, .no, .ow (.lst (s.out.map encP))]) (byS w d)
    (fun pre s => s.out.length ≤ pre.length ∧ (s.2 = none → s.1 = []) ∧ ∀ q, s.2 = some q → q.2 ∈ pre) ks [] (fun pre t post s e hp => by
      obtain ⟨done, cur⟩ := s
      obtain ⟨hl, hn, hq⟩ := hp
      have e' : ks = pre ++ t :: post := by simpa using e
      have mt : t ∈ ks := by rw [e']; simp
      have lt : ∀ x ∈ pre, x < t := fun x m => by
        rw [e'] at kl
        exact (List.pairwise_append.mp kl).2.2 x m t List.mem_cons_self
      have hlen : (done ++ cur.toList).length < 16777216 := by
        have := congrArg List.length e'
        simp [MS.out] at this hl ⊢; omega
      obtain ⟨v, ev, hv⟩ := val t mt
      have dg := dgR_I (n := 2) d t v ev
      obtain ⟨q, q1, q2⟩ := sel_in v hv w hw
      cases sl : selW w v with
      | false =>
        rw [sl] at q2
        have st : byS w d (done, cur) t = (done, cur) := by unfold byS; rw [ev, Option.getD_some, sl]; rfl
        rw [st]
        refine ⟨?_, by simp at hl ⊢; omega, hn, fun q z => List.mem_append_left _ (hq q z)⟩
        simp -implicitDefEqProofs [g_q_by_turns_4, b_q_by_turns_4, dg, q1, q2, sizeLine_eq]
      | true =>
        rw [sl] at q2
        have st : byS w d (done, cur) t = mstep (done, cur) (t, t) := by unfold byS; rw [ev, Option.getD_some, sl]; rfl
        rw [st]
        cases cur with
        | none =>
          obtain rfl : done = [] := hn rfl
          refine ⟨?_, by simp [mstep, MS.out], fun z => by simp [mstep] at z, fun q z => by
            simp [mstep] at z; subst z; simp⟩
          simp -implicitDefEqProofs [g_q_by_turns_4, b_q_by_turns_4, dg, q1, q2, encP, MS.out, mstep, sizeLine_eq]
        | some p =>
          have hl' : done.length + 1 < 16777216 := by simpa using hlen
          have hl2 : done.length < 16777216 := by omega
          have pt := lt _ (hq p rfl)
          have pm : max p.2 t = t := by omega
          by_cases c : p.2 = t - 1
          · have c' : t ≤ p.2 + 1 := by omega
            refine ⟨?_, by simp [mstep, MS.out, c'] at hl ⊢; omega, fun z => by simp [mstep, c'] at z, fun q z => by
              simp [mstep, c', pm] at z; subst z; simp⟩
            simp -implicitDefEqProofs [g_q_by_turns_4, b_q_by_turns_4, dg, q1, q2, encP, MS.out, mstep, sizeLine_eq, c, hl', hl2]
            omega
          · have c' : ¬ t ≤ p.2 + 1 := by omega
            refine ⟨?_, by simp [mstep, MS.out, c'] at hl ⊢; omega, fun z => by simp [mstep, c'] at z, fun q z => by
              simp [mstep, c'] at z; subst z; simp⟩
            simp -implicitDefEqProofs [g_q_by_turns_4, b_q_by_turns_4, dg, q1, q2, encP, MS.out, mstep, sizeLine_eq, c, c', hl', hl2]) ([], none) ⟨by simp [MS.out], fun _ => rfl, fun q z => by cases z⟩).1
  have en : enumT 0 [T.lst (one.map encP), .lst (oth.map encP)] = [.tup [.int 0, .lst (one.map encP)], .tup [.int 1, .lst (oth.map encP)]] := rfl
  have it : T.its (encS one oth) = some [.lst (one.map encP), .lst (oth.map encP)] := rfl
  refine ⟨(ks.foldl (byS w d) ([], none)).out, ?_, ?_⟩
  · have L2' : forL g_q_by_turns_4 b_q_by_turns_4 (ks.map T.int) [.no, .fz (.int (w : Int)), .ow (.dik (encI d)), .no, .no, .no, .no, .no, .ow (.lst [])] = .nx [.no, .fz (.int (w : Int)), .ow (.dik (encI d)), .no, .no, .no, .no, .no, .ow (.lst ((ks.foldl (byS w d) ([], none)).out.map encP))] := L2
    have so := sortT_ints (ns := d.map (·.1))
    have li := listKR_I (n := 2) d
    rw [hks] at so
    generalize (d.map (·.1)).map T.int = ds at *
    generalize (ks.foldl (byS w d) ([], none)).out.map encP = O at *
    generalize encI d = D at *
    generalize encS one oth = S at *
    simp -implicitDefEqProofs [-listKR_I, b_q_by_turns, it, en, L1, li, so, L2']
  · rw [byS_fold]
    have mk := mrg_ok (l := dbl (ks.filter fun t => selW w ((fndK d t).getD 0))) (List.pairwise_map.mpr ((kl.sublist List.filter_sublist).imp fun h => Int.le_of_lt h)) (fun p m => by
      obtain ⟨t, _, rfl⟩ := List.mem_map.mp m
      exact Int.le_refl _)
    refine ⟨mk.1, fun t => (mk.2 t).trans ?_⟩
    have c1 : cov (dbl (ks.filter fun t => selW w ((fndK d t).getD 0))) t ↔ t ∈ ks ∧ selW w ((fndK d t).getD 0) = true := by
      constructor
      · rintro ⟨p, m, a, b⟩
        obtain ⟨u, mu, rfl⟩ := List.mem_map.mp m
        obtain rfl : u = t := by simp only at a b; omega
        exact List.mem_filter.mp mu
      · intro h
        exact ⟨(t, t), List.mem_map.mpr ⟨t, List.mem_filter.mpr h, rfl⟩, Int.le_refl _, Int.le_refl _⟩
    rw [c1, kp.mem_iff, ← key_mem, fnd t]
    have : w = 0 ∨ w = 1 ∨ w = 2 ∨ w = 3 := by omega
    rcases this with rfl | rfl | rfl | rfl <;> cases inS one t <;> cases inS oth t <;> simp [gW, selW]
end K02
namespace K02
open Tr PG PySem L2 SpanM
theorem cut_take3 {A : Type} (l : List A) : (cutL l (some 3) none).length + (cutL l none (some 3)).length ≤ 2 * l.length := by
  have a := cutL_len l (some 3) none
  have b := cutL_len l none (some 3)
  omega
theorem told_eq (l : List (Int × Int)) (h : ∀ p ∈ l, p.1 ≤ p.2) (hl : l.length ≤ 300) (ts : List Int) (ht : ts.length ≤ 1000) : F_q_told [.lst (l.map encP), .lst (ts.map T.int)] = .ok (.sh (.bl true)) := by
  rw [F_q_told_eq]
  have hi := in_eq l
  have hh := fun t => has_turn_eq l t (by omega)
  have hu := up_to_eq l
  have hc := turn_count_eq l (by omega)
  have hn := fun a b => turn_count_in_eq l a b (by omega)
  have cc := fun a b => cntS_eq l a b h
  have cm := fun e : En => fun he : e = [.fz (.lst (l.map encP)), .fz (.lst (ts.map T.int)), .no, .no, .no, .no, .no, .no] => compL_map (g := g_q_told_2) (tt := c_q_told_2) (te := e_q_told_2) (env := e) encP (fun p => T.int (p.2 + 1 - p.1)) l (by rw [sizeLine_eq]; omega) (fun p _ => by
    subst he
    simp [g_q_told_2, c_q_told_2, e_q_told_2, encP])
  have cm := cm _ rfl
  have em : (l.map fun p => T.int (p.2 + 1 - p.1)) = (l.map fun p => p.2 - p.1 + 1).map T.int := by
    rw [List.map_map]
    refine List.map_congr_left fun p _ => ?_
    simp only [Function.comp_apply, T.int.injEq]
    omega
  rw [em] at cm
  have c3 := cut_take3 ts
  have zi := zip_ints ts (cutL ts (some 3) none ++ cutL ts none (some 3))
  rw [List.map_append, ← cutL_map, ← cutL_map] at zi
  have b3 : (cutL (ts.map T.int) (some 3) none).length + (cutL (ts.map T.int) none (some 3)).length ≤ 16777216 := by
    have := cut_take3 (ts.map T.int)
    simp only [List.length_map] at this
    omega
  generalize ts.zip (cutL ts (some 3) none ++ cutL ts none (some 3)) = Z at *
  generalize hE : l.map encP = E at *
  have nb : ∀ x : Bool, neT (.bl x) (.bl x) = .ok (.sh (.bl false)) := fun x => by
    rw [neT_eq _ _ (by simp) (by simp)]
    simp
  have L1 := forL_ok (g := g_q_told_1) (b := b_q_told_1) (env := [.fz (.lst E), .fz (.lst (ts.map T.int)), .no, .no, .no, .no, .no, .no]) T.int ts (fun t _ => by
    simp -implicitDefEqProofs [g_q_told_1, b_q_told_1, hh, hi, nb])
  have L2 := fun s1 => forL_ok (g := g_q_told_3) (b := b_q_told_3) (env := [.fz (.lst E), s1, .no, .no, .no, .no, .no, .no]) encP Z (fun p _ => by
    have c := cc p.1 p.2
    simp -implicitDefEqProofs [g_q_told_3, b_q_told_3, encP, hu, hn, c, whole_eq])
  simp -implicitDefEqProofs [-List.map_map, b_q_told, L1, cm, hc, whole_eq, zi, b3, L2, sizeLine_eq]
theorem wide_ok (c st many : Int) (hst : 0 ≤ st ∧ st ≤ 300) (hm : 0 ≤ many ∧ many ≤ 200) : ∃ l, F_q_wide [.int c, .int st, .int many] = .ok (.fr (.lst (l.map encP))) ∧ Wd l := by
  rw [F_q_wide_eq]
  have rk : rOk many := ⟨by omega, by omega⟩
  have L : ∃ (l : List (Int × Int)) (a : Int), Wd l ∧ forL g_q_wide_1 b_q_wide_1 ((List.range many.toNat).map fun i : Nat => T.int (i : Int)) [.fz (.int c), .fz (.int st), .fz (.int many), .ow (.lst []), .fz (.int 0), .no, .no, .no] = .nx [.fz (.int c), .fz (.int st), .fz (.int many), .ow (.lst (l.map encP)), .fz (.int a), .no, .no, .no] := by
    refine forL_inv (g := g_q_wide_1) (b := b_q_wide_1) (fun i : Nat => T.int (i : Int)) (fun pre e => ∃ (l : List (Int × Int)) (a : Int), (Kept l ∧ l.length = pre.length ∧ (∀ q ∈ l, q.2 ≤ a) ∧ (0 ≤ a ∧ a ≤ 10 * l.length) ∧ ∀ q ∈ l, 0 ≤ q.1 ∧ q.2 ≤ 10 * l.length ∧ q.2 ≤ q.1 + 3) ∧ e = [.fz (.int c), .fz (.int st), .fz (.int many), .ow (.lst (l.map encP)), .fz (.int a), .no, .no, .no])
      (fun o => ∃ (l : List (Int × Int)) (a : Int), Wd l ∧ o = .nx [.fz (.int c), .fz (.int st), .fz (.int many), .ow (.lst (l.map encP)), .fz (.int a), .no, .no, .no]) (List.range many.toNat) [] _ ?_ ?_ ⟨[], 0, ⟨⟨.nil, fun p m => nomatch m⟩, rfl, (fun p m => nomatch m), ⟨by omega, by simp⟩, fun p m => nomatch m⟩, rfl⟩
    · rintro pre i post e hp ⟨l, a, ⟨h1, h2, h3, h4, h5⟩, rfl⟩
      have hp' : List.range many.toNat = pre ++ i :: post := by simpa using hp
      have hlt : pre.length < many.toNat := by
        have := congrArg List.length hp'
        simp at this; omega
      have mb := mixed_b c (st + (i : Int))
      have me := mixed_eq c (st + (i : Int))
      generalize mixed c (st + (i : Int)) = v at mb me
      have hl : l.length < 16777216 := by omega
      obtain ⟨b, hb⟩ : ∃ b, a + 2 + v / 64 % 3 = b := ⟨_, rfl⟩
      obtain ⟨f, hf⟩ : ∃ f, b + v / 64 / 3 % 4 = f := ⟨_, rfl⟩
      have tn : turn g_q_wide_1 b_q_wide_1 (.int (i : Int)) [.fz (.int c), .fz (.int st), .fz (.int many), .ow (.lst (l.map encP)), .fz (.int a), .no, .no, .no]
          = .nx [.fz (.int c), .fz (.int st), .fz (.int many), .ow (.lst ((l ++ [(b, f)]).map encP)), .fz (.int f), .no, .no, .no] := by
        simp -implicitDefEqProofs [g_q_wide_1, b_q_wide_1, me, hb, hf, hl, sizeLine_eq, encP]
      rw [tn]
      refine ⟨_, _, ⟨kept_snoc h1 (by simp only; omega) (fun q m => ?_), by simp [h2], fun q m => ?_, ?_, fun q m => ?_⟩, rfl⟩
      · have := h3 q m
        simp only
        omega
      · rcases List.mem_append.mp m with m | m
        · have := h3 q m; omega
        · obtain rfl : q = _ := List.mem_singleton.mp m
          exact Int.le_refl _
      · simp only [List.length_append, List.length_singleton]; omega
      · simp only [List.length_append, List.length_singleton]
        rcases List.mem_append.mp m with m | m
        · have := h5 q m; omega
        · obtain rfl : q = _ := List.mem_singleton.mp m
          simp only; omega
    · rintro e ⟨l, a, ⟨h1, h2, h3, h4, h5⟩, rfl⟩
      have h2 : l.length ≤ 200 := by simp at h2; omega
      exact ⟨l, a, ⟨h1, h2, fun p m => by have := h5 p m; omega⟩, rfl⟩
  obtain ⟨l, a, h, L⟩ := L
  refine ⟨l, ?_, h⟩
  simp -implicitDefEqProofs [b_q_wide, rk, rng0, L, sizeLine_eq]
theorem made_ok {one oth : List (Int × Int)} (k1 : Kept one) (k2 : Kept oth) (h1 : one.length ≤ 300) (h2 : oth.length ≤ 300) (w : Nat) (hw : w < 4) :
    ∃ M, F_q_made [encS one oth, .int (w : Int)] = .ok (.fr (.lst (M.map encP))) ∧ Kept M ∧ ∀ t, cov M t ↔ gW w (inS one t) (inS oth t) = true := by
  obtain ⟨m0, m1, m2, m3⟩ := made_eq one oth h1 h2
  have e1 : ∀ t, inS one t = true ↔ cov one t := fun t => inS_iff
  have e2 : ∀ t, inS oth t = true ↔ cov oth t := fun t => inS_iff
  have : w = 0 ∨ w = 1 ∨ w = 2 ∨ w = 3 := by omega
  rcases this with rfl | rfl | rfl | rfl
  · have z := tidy_ok (l := one ++ oth) fun p m => (List.mem_append.mp m).elim (k1.2 p) (k2.2 p)
    refine ⟨_, m0, z.1, fun t => ?_⟩
    rw [z.2, cov_append, ← e1, ← e2]
    simp [gW]
  · have z := shF_ok one oth k1 k2
    refine ⟨_, m1, z.1, fun t => ?_⟩
    rw [z.2.1, ← e1, ← e2]
    simp [gW]
  · have z := lsF_ok k1 k2
    refine ⟨_, m2, z.1, fun t => ?_⟩
    rw [z.2, ← e1, ← e2]
    simp [gW]
  · have z := lsF_ok k2 k1
    refine ⟨_, m3, z.1, fun t => ?_⟩
    rw [z.2, ← e1, ← e2]
    simp [gW]
theorem ne_S (one oth : List (Int × Int)) : neT (encS one oth) (encS one oth) = .ok (.sh (.bl false)) := by
  have q : ∀ l : List (Int × Int), teqs (l.map encP) (l.map encP) = true := by
    intro l
    induction l with
    | nil => rfl
    | cons a l ih => simp [encP, ih]
  unfold encS
  rw [neT_lst, if_pos ⟨by simp [List.all_eq_true, encP], by simp [List.all_eq_true, encP]⟩]
  simp [q]
theorem many_eq (c : Int) : F_q_many_spans [.int c] = .ok (.sh (.bl true)) := by
  rw [F_q_many_spans_eq]
  obtain ⟨one, e1, W1⟩ := wide_ok c 0 (200 - c / 4 % 3 * 40) (by omega) (by omega)
  obtain ⟨oth, e2, W2⟩ := wide_ok c 300 (200 - c / 12 % 200) (by omega) (by omega)
  have m1 : mulOk (c / 4 % 3) 40 := .inl (by omega)
  have n1 := W1.n
  have n2 := W2.n
  have tc := turn_count_eq one (by omega)
  have cm := fun e : En => fun he : e = [.no, .fz (encS one oth), .no, .no, .no, .no, .no] => compL_map (g := g_q_many_spans_3) (tt := c_q_many_spans_3) (te := e_q_many_spans_3) (env := e) encP (fun p => T.int (p.2 + 1 - p.1)) one (by rw [sizeLine_eq]; omega) (fun p _ => by
    subst he
    simp [g_q_many_spans_3, c_q_many_spans_3, e_q_many_spans_3, encP])
  have cm := cm _ rfl
  have em : (one.map fun p => T.int (p.2 + 1 - p.1)) = (one.map fun p => p.2 - p.1 + 1).map T.int := by
    rw [List.map_map]
    refine List.map_congr_left fun p _ => ?_
    simp only [Function.comp_apply, T.int.injEq]
    omega
  rw [em] at cm
  have cp := fun e : En => fun he : e = [.no, .fz (encS one oth), .no, .no, .no, .no, .no] => compL_map (g := g_q_many_spans_1) (tt := c_q_many_spans_1) (te := e_q_many_spans_1) (env := e) (fun l : List (Int × Int) => T.lst (l.map encP)) (fun l : List (Int × Int) => T.lst (l.map encP)) [one, oth] (by rw [sizeLine_eq]; simp) (fun l _ => by
    subst he
    simp [g_q_many_spans_1, c_q_many_spans_1, e_q_many_spans_1])
  have cp := cp _ rfl
  have cp : compL g_q_many_spans_1 c_q_many_spans_1 e_q_many_spans_1 [.no, .fz (encS one oth), .no, .no, .no, .no, .no] [.lst (one.map encP), .lst (oth.map encP)] [] = .ok [.lst (one.map encP), .lst (oth.map encP)] := cp
  have ne := ne_S one oth
  have L := forL_ok (g := g_q_many_spans_2) (b := b_q_many_spans_2) (env := [.no, .fz (encS one oth), .fz (encS one oth), .no, .no, .no, .no]) (fun i : Nat => T.int (i : Int)) (List.range 4) (fun w m => by
    have hw := List.mem_range.mp m
    obtain ⟨M, f1, f2, f3⟩ := made_ok W1.k W2.k (by omega) (by omega) w hw
    obtain ⟨N, g1, g2, g3⟩ := by_turns_eq one oth W1 W2 w hw
    obtain rfl : M = N := kept_same f2 g2 fun t => (f3 t).trans (g3 t).symm
    have pe := pairs_eq M
    generalize encS one oth = S at *
    generalize M.map encP = MM at *
    simp -implicitDefEqProofs [g_q_many_spans_2, b_q_many_spans_2, f1, g1, pe, ne])
  have L' : forL g_q_many_spans_2 b_q_many_spans_2 (rngT 0 4) [.no, .fz (encS one oth), .fz (encS one oth), .no, .no, .no, .no] = .nx [.no, .fz (encS one oth), .fz (encS one oth), .no, .no, .no, .no] := by
    rw [rng0]; exact L
  have r4 : rOk 4 := ⟨by omega, by omega⟩
  have eS : T.lst [.lst (one.map encP), .lst (oth.map encP)] = encS one oth := rfl
  have it : T.its (encS one oth) = some [.lst (one.map encP), .lst (oth.map encP)] := rfl
  have i0 : ixT (encS one oth) (.int 0) = .ok (.sh (.lst (one.map encP))) := rfl
  generalize encS one oth = S at *
  simp -implicitDefEqProofs [-List.map_map, b_q_many_spans, e1, e2, m1, eS, it, cp, r4, L', i0, tc, cm, whole_eq, sizeLine_eq]
end K02
namespace K02
open Tr PG PySem L2 SpanM
theorem law_true (ns : List Int) (h : ns.length ≤ 63) : F_q_law [.scr ns] = .ok (.sh (.bl true)) := by
  rw [F_q_law_eq]
  obtain ⟨c, hc⟩ := cell_eq ns 1 (by omega)
  have mn := many_eq c
  obtain ⟨one, oth, hs, ⟨k1, n1⟩, k2, n2⟩ := sets_ok ns
  have bo := borders_eq one oth (by omega) (by omega)
  have ne := ne_S one oth
  have pw : powR (.sh (.int 10)) (.sh (.int 9)) = .ok (.sh (.int 1000000000)) := rfl
  have cp := fun e : En => fun he : e = [.fz (.scr ns), .fz (encS one oth), .no, .no, .no, .no, .no, .no, .no, .no] => compL_map (g := g_q_law_1) (tt := c_q_law_1) (te := e_q_law_1) (env := e) (fun l : List (Int × Int) => T.lst (l.map encP)) (fun l : List (Int × Int) => T.lst (l.map encP)) [one, oth] (by rw [sizeLine_eq]; simp) (fun l _ => by
    subst he
    simp [g_q_law_1, c_q_law_1, e_q_law_1])
  have cp := cp _ rfl
  have cp : compL g_q_law_1 c_q_law_1 e_q_law_1 [.fz (.scr ns), .fz (encS one oth), .no, .no, .no, .no, .no, .no, .no, .no] [.lst (one.map encP), .lst (oth.map encP)] [] = .ok [.lst (one.map encP), .lst (oth.map encP)] := cp
  have eS : T.lst [.lst (one.map encP), .lst (oth.map encP)] = encS one oth := rfl
  have it : T.its (encS one oth) = some [.lst (one.map encP), .lst (oth.map encP)] := rfl
  have r4 : rOk 4 := ⟨by omega, by omega⟩
  have bl : ∀ l : List (Int × Int), (bdr l).length = l.length * 2 := by
    intro l
    induction l with
    | nil => rfl
    | cons a s ih => rw [show bdr (a :: s) = a.1 :: (a.2 + 1) :: bdr s from rfl]; simp [ih]; omega
  have hB : (cutL (sortI (bdr one ++ bdr oth)) none (some 16)).length ≤ 100 := by
    refine Nat.le_trans (cutL_len _ _ _) ?_
    rw [(sortI_perm _).length_eq]
    simp [bl]; omega
  have cm := cutL_map T.int (sortI (bdr one ++ bdr oth)) none (some 16)
  generalize cutL (sortI (bdr one ++ bdr oth)) none (some 16) = C at *
  generalize (sortI (bdr one ++ bdr oth)).map T.int = B at *
  have L2 := fun (s0 : Sl) (e : En) (he : e = []) => forL_fold (g := g_q_law_2) (b := b_q_law_2) T.int (fun ts : List Int => [s0, .fz (encS one oth), .fz (encS one oth), .no, .fz (.lst (ts.map T.int)), .no, .no, .no, .no, .no] ++ e) (fun ts t => ts ++ [t, t - 1]) (fun pre ts => ts.length ≤ 3 + 2 * pre.length) C [] (fun pre t post ts e' hp => by
    have hl := congrArg List.length e'
    simp at hl
    have hz : ts.length + 2 ≤ 16777216 := by omega
    subst he
    refine ⟨?_, by simp; omega⟩
    generalize encS one oth = S at *
    simp -implicitDefEqProofs [g_q_law_2, b_q_law_2, hz, sizeLine_eq]) [c % 1000000000 - 1000, -1, (c % 1000000000 - 1000) % 50] (by simp)
  obtain ⟨ts, hts, L2⟩ : ∃ ts : List Int, ts.length ≤ 1000 ∧ ∀ s0 : Sl, forL g_q_law_2 b_q_law_2 (C.map T.int) [s0, .fz (encS one oth), .fz (encS one oth), .no, .fz (.lst [.int (c % 1000000000 - 1000), .int (-1), .int ((c % 1000000000 - 1000) % 50)]), .no, .no, .no, .no, .no] = .nx [s0, .fz (encS one oth), .fz (encS one oth), .no, .fz (.lst (ts.map T.int)), .no, .no, .no, .no, .no] := by
    refine ⟨_, ?_, fun s0 => (L2 s0 [] rfl).1⟩
    have := (L2 .no [] rfl).2
    rw [List.nil_append] at this
    omega
  have t1 := told_eq one k1.2 (by omega) ts hts
  have t2 := told_eq oth k2.2 (by omega) ts hts
  have L3 := fun s0 : Sl => forL_ok (g := g_q_law_3) (b := b_q_law_3) (env := [s0, .fz (encS one oth), .fz (encS one oth), .no, .fz (.lst (ts.map T.int)), .no, .no, .no, .no, .no]) (fun l : List (Int × Int) => T.lst (l.map encP)) [one, oth] (fun l m => by
    have tl : F_q_told [.lst (l.map encP), .lst (ts.map T.int)] = .ok (.sh (.bl true)) := by
      rcases List.mem_cons.mp m with rfl | m
      · exact t1
      · obtain rfl : l = oth := by simpa using m
        exact t2
    generalize encS one oth = S at *
    simp -implicitDefEqProofs [g_q_law_3, b_q_law_3, tl])
  have L3 : ∀ s0 : Sl, forL g_q_law_3 b_q_law_3 [.lst (one.map encP), .lst (oth.map encP)] [s0, .fz (encS one oth), .fz (encS one oth), .no, .fz (.lst (ts.map T.int)), .no, .no, .no, .no, .no] = .nx [s0, .fz (encS one oth), .fz (encS one oth), .no, .fz (.lst (ts.map T.int)), .no, .no, .no, .no, .no] := L3
  have L4 := fun s0 s4 : Sl => forL_ok (g := g_q_law_4) (b := b_q_law_4) (env := [s0, .fz (encS one oth), .fz (encS one oth), .no, s4, .no, .no, .no, .no, .no]) (fun i : Nat => T.int (i : Int)) (List.range 4) (fun w m => by
    have hw := List.mem_range.mp m
    obtain ⟨M, f1, f2, f3⟩ := made_ok k1 k2 (by omega) (by omega) w hw
    have ch := chosen_eq one oth (by omega) (by omega) w hw
    have g0 : gW w false false = false := by
      have : w = 0 ∨ w = 1 ∨ w = 2 ∨ w = 3 := by omega
      rcases this with rfl | rfl | rfl | rfl <;> rfl
    have z := chF_ok (g := gW w) k1 k2 g0 (sortI_sorted (bdr one ++ bdr oth)) fun z => by rw [(sortI_perm _).mem_iff, List.mem_append]
    rw [← kept_same f2 z.1 fun t => (f3 t).trans (z.2 t).symm] at ch
    have pe := pairs_eq M
    generalize encS one oth = S at *
    generalize M.map encP = MM at *
    simp -implicitDefEqProofs [g_q_law_4, b_q_law_4, f1, ch, pe, ne])
  have L4 : ∀ s0 s4 : Sl, forL g_q_law_4 b_q_law_4 (rngT 0 4) [s0, .fz (encS one oth), .fz (encS one oth), .no, s4, .no, .no, .no, .no, .no] = .nx [s0, .fz (encS one oth), .fz (encS one oth), .no, s4, .no, .no, .no, .no, .no] := fun s0 s4 => by
    rw [rng0]; exact L4 s0 s4
  generalize encS one oth = S at *
  by_cases z : c % 4 = 1
  · simp -implicitDefEqProofs [b_q_law, hc, z, mn, hs, it, cp, eS, pw, bo, cm, L2, L3, L4, r4, sizeLine_eq]
  · simp -implicitDefEqProofs [b_q_law, hc, z, hs, it, cp, eS, pw, bo, cm, L2, L3, L4, r4, sizeLine_eq]
end K02
namespace K02
open Tr PG PySem L2
def topS (i : Nat) : Stmt := PySem.Challenge.pw_dueyard_k02_sets_of_turns.main.body.getD i (.Pass ⟨0, 0, 0, 0⟩)
abbrev s_merged : Stmt := topS 1
theorem sc_merged : FnScope ["rows", "found", "first", "last"] ["rows"] (defScope s_merged) := ⟨rfl, rfl, rfl, by decide +kernel, rfl, by decide +kernel, by decide +kernel⟩
abbrev s_has_turn : Stmt := topS 2
theorem sc_has_turn : FnScope ["spans", "turn", "first", "last"] ["spans", "turn"] (defScope s_has_turn) := ⟨rfl, rfl, rfl, by decide +kernel, rfl, by decide +kernel, by decide +kernel⟩
abbrev s_turn_count : Stmt := topS 3
theorem sc_turn_count : FnScope ["spans", "first", "last"] ["spans"] (defScope s_turn_count) := ⟨rfl, rfl, rfl, by decide +kernel, rfl, by decide +kernel, by decide +kernel⟩
abbrev s_turn_count_in : Stmt := topS 4
theorem sc_turn_count_in : FnScope ["spans", "first", "last", "begin", "end"] ["spans", "first", "last"] (defScope s_turn_count_in) := ⟨rfl, rfl, rfl, by decide +kernel, rfl, by decide +kernel, by decide +kernel⟩
abbrev s_joined : Stmt := topS 5
theorem sc_joined : FnScope ["one", "other"] ["one", "other"] (defScope s_joined) := ⟨rfl, rfl, rfl, by decide +kernel, rfl, by decide +kernel, by decide +kernel⟩
abbrev s_shared : Stmt := topS 6
theorem sc_shared : FnScope ["one", "other", "found", "at", "first", "last", "here"] ["one", "other"] (defScope s_shared) := ⟨rfl, rfl, rfl, by decide +kernel, rfl, by decide +kernel, by decide +kernel⟩
abbrev s_less : Stmt := topS 7
theorem sc_less : FnScope ["one", "other", "found", "first", "last", "begin", "other_first", "other_last"] ["one", "other"] (defScope s_less) := ⟨rfl, rfl, rfl, by decide +kernel, rfl, by decide +kernel, by decide +kernel⟩
abbrev s_q_cell_at : Stmt := topS 9
theorem sc_q_cell_at : FnScope ["_law_script", "_law_k"] ["_law_script", "_law_k"] (defScope s_q_cell_at) := ⟨rfl, rfl, rfl, by decide +kernel, rfl, by decide +kernel, by decide +kernel⟩
abbrev s_q_whole : Stmt := topS 10
theorem sc_q_whole : FnScope ["_law_found", "_law_due"] ["_law_found", "_law_due"] (defScope s_q_whole) := ⟨rfl, rfl, rfl, by decide +kernel, rfl, by decide +kernel, by decide +kernel⟩
abbrev s_q_pairs : Stmt := topS 11
theorem sc_q_pairs : FnScope ["_law_found", "_law_due", "_law_one", "_law_other"] ["_law_found", "_law_due"] (defScope s_q_pairs) := ⟨rfl, rfl, rfl, by decide +kernel, rfl, by decide +kernel, by decide +kernel⟩
abbrev s_q_mixed : Stmt := topS 12
theorem sc_q_mixed : FnScope ["_law_cell", "_law_k"] ["_law_cell", "_law_k"] (defScope s_q_mixed) := ⟨rfl, rfl, rfl, by decide +kernel, rfl, by decide +kernel, by decide +kernel⟩
abbrev s_q_kept : Stmt := topS 13
theorem sc_q_kept : FnScope ["_law_script", "_law_start", "_law_many", "_law_spans", "_law_begin", "_law_k", "_law_number", "_law_last"] ["_law_script", "_law_start", "_law_many"] (defScope s_q_kept) := ⟨rfl, rfl, rfl, by decide +kernel, rfl, by decide +kernel, by decide +kernel⟩
abbrev s_q_sets : Stmt := topS 14
theorem sc_q_sets : FnScope ["_law_script", "_law_cell", "_law_one", "_law_other", "_law_first", "_law_last"] ["_law_script"] (defScope s_q_sets) := ⟨rfl, rfl, rfl, by decide +kernel, rfl, by decide +kernel, by decide +kernel⟩
abbrev s_q_in : Stmt := topS 15
theorem sc_q_in : FnScope ["_law_spans", "_law_turn", "_law_found", "_law_first", "_law_last"] ["_law_spans", "_law_turn"] (defScope s_q_in) := ⟨rfl, rfl, rfl, by decide +kernel, rfl, by decide +kernel, by decide +kernel⟩
abbrev s_q_borders : Stmt := topS 16
theorem sc_q_borders : FnScope ["_law_sets_here", "_law_borders_here", "_law_spans", "_law_first", "_law_last"] ["_law_sets_here"] (defScope s_q_borders) := ⟨rfl, rfl, rfl, by decide +kernel, rfl, by decide +kernel, by decide +kernel⟩
abbrev s_q_chosen : Stmt := topS 17
theorem sc_q_chosen : FnScope ["_law_sets_here", "_law_way", "_law_borders_here", "_law_found", "_law_begin", "_law_end", "_law_one", "_law_other", "_law_ways"] ["_law_sets_here", "_law_way"] (defScope s_q_chosen) := ⟨rfl, rfl, rfl, by decide +kernel, rfl, by decide +kernel, by decide +kernel⟩
abbrev s_q_up_to : Stmt := topS 18
theorem sc_q_up_to : FnScope ["_law_spans", "_law_turn", "_law_total", "_law_first", "_law_last"] ["_law_spans", "_law_turn"] (defScope s_q_up_to) := ⟨rfl, rfl, rfl, by decide +kernel, rfl, by decide +kernel, by decide +kernel⟩
abbrev s_q_told : Stmt := topS 19
theorem sc_q_told : FnScope ["_law_spans", "_law_turns", "_law_turn", "_law_found", "_law_total", "_law_first", "_law_last", "_law_due"] ["_law_spans", "_law_turns"] (defScope s_q_told) := ⟨rfl, rfl, rfl, by decide +kernel, rfl, by decide +kernel, by decide +kernel⟩
abbrev s_q_made : Stmt := topS 20
theorem sc_q_made : FnScope ["_law_sets_here", "_law_way", "_law_one", "_law_other"] ["_law_sets_here", "_law_way"] (defScope s_q_made) := ⟨rfl, rfl, rfl, by decide +kernel, rfl, by decide +kernel, by decide +kernel⟩
abbrev s_q_wide : Stmt := topS 21
theorem sc_q_wide : FnScope ["_law_cell", "_law_start", "_law_many", "_law_spans", "_law_begin", "_law_k", "_law_number", "_law_last"] ["_law_cell", "_law_start", "_law_many"] (defScope s_q_wide) := ⟨rfl, rfl, rfl, by decide +kernel, rfl, by decide +kernel, by decide +kernel⟩
abbrev s_q_by_turns : Stmt := topS 22
theorem sc_q_by_turns : FnScope ["_law_sets_here", "_law_way", "_law_inside", "_law_bit", "_law_spans", "_law_first", "_law_last", "_law_turn", "_law_found"] ["_law_sets_here", "_law_way"] (defScope s_q_by_turns) := ⟨rfl, rfl, rfl, by decide +kernel, rfl, by decide +kernel, by decide +kernel⟩
abbrev s_q_many_spans : Stmt := topS 23
theorem sc_q_many_spans : FnScope ["_law_cell", "_law_sets_here", "_law_kept_here", "_law_way", "_law_spans", "_law_first", "_law_last"] ["_law_cell"] (defScope s_q_many_spans) := ⟨rfl, rfl, rfl, by decide +kernel, rfl, by decide +kernel, by decide +kernel⟩
abbrev s_q_law : Stmt := topS 24
theorem sc_q_law : FnScope ["_law_script", "_law_sets_here", "_law_kept_here", "_law_drawn", "_law_turns", "_law_end", "_law_spans", "_law_way", "_law_found", "_law_due"] ["_law_script"] (defScope s_q_law) := ⟨rfl, rfl, rfl, by decide +kernel, rfl, by decide +kernel, by decide +kernel⟩
structure Txt (K : PySem.W.Frag) (mg : Str → Option Value) : Prop where
  n_any : mg "any" = none
  n_bool : mg "bool" = none
  n_enumerate : mg "enumerate" = none
  n_int : mg "int" = none
  n_isinstance : mg "isinstance" = none
  n_len : mg "len" = none
  n_list : mg "list" = none
  n_max : mg "max" = none
  n_min : mg "min" = none
  n_range : mg "range" = none
  n_sorted : mg "sorted" = none
  n_sum : mg "sum" = none
  n_tuple : mg "tuple" = none
  n_zip : mg "zip" = none
  triv : True
section
variable {P : Program} {w : World} {K : PySem.W.Frag} {mg : Str → Option Value} {base : Heap}
set_option maxHeartbeats 4000000 in
theorem ok_merged {f : Addr} {fd : FuncData} (F : Fun K "merged" "merged" s_merged f fd) (T : Txt K mg)  : FnOk P w K mg base (L2.CX P w) 1 f fd ["rows"] (SpT K 1 (runF 4 b_merged)) := by
  refine fn_T2 (k := 0) F sc_merged rfl rfl (fun cdv A outer s H E hr => ?_)
  conv => enter [3]; whnf
  exact (ssj_cons (sj_set 1 (ej_lst aj_nil) sc_merged.nd)
    (ssj_cons (sj_fg [0] (sj_for poB rfl (fj_list (ej_var 0)) (gj_tup rfl (gsj_cons (gj_name 2 sc_merged.nd) (gsj_cons (gj_name 3 sc_merged.nd) gsj_nil)))
    (ssj_fg [2, 3] (ssj_one (sj_fg [2, 3] (sj_if (WJ.bj (wj_and (bj_cmp (op_neD (hu64 hr)) opi_ne (ej_var 1) (ej_lst aj_nil) (nomk _)) (wj_and1 (bj_cmp opr_le opi_le (ej_var 2) (ej_op opr_add opi_add (ej_ix (ej_ix (ej_var 1) (ej_neg ej_int) (fun _ _ => rfl)) ej_int (fun _ _ => rfl)) ej_int) (nomk _)))))
    (ssj_one (sj_fg [3] (sj_put 1 (ej_tup (aj_cons (ej_ix (ej_ix (ej_var 1) (ej_neg ej_int) (fun _ _ => rfl)) ej_int (fun _ _ => rfl)) (aj_cons (ej_callB (call_max2 rfl) calli_max rfl T.n_max (by decide +kernel) (aj_cons (ej_ix (ej_ix (ej_var 1) (ej_neg ej_int) (fun _ _ => rfl)) ej_int (fun _ _ => rfl)) (aj_cons (ej_var 3) aj_nil))) aj_nil))) (ej_neg ej_int))))
    (ssj_one (sj_fg [2, 3] (sj_app 1 (ej_tup (aj_cons (ej_var 2) (aj_cons (ej_var 3) aj_nil))))))))))))
    (ssj_one (sj_ret (ej_var 1)))))
set_option maxHeartbeats 4000000 in
theorem ok_has_turn {f : Addr} {fd : FuncData} (F : Fun K "has_turn" "has_turn" s_has_turn f fd) (T : Txt K mg)  : FnOk P w K mg base (L2.CX P w) 1 f fd ["spans", "turn"] (SpT K 2 (runF 4 b_has_turn)) := by
  refine fn_T2 (k := 0) F sc_has_turn rfl rfl (fun cdv A outer s H E hr => ?_)
  conv => enter [3]; whnf
  exact (ssj_one (sj_ret (ej_callB (cr_any rfl) calli_any rfl T.n_any (by decide +kernel) (aj_cons (ej_comp [("first", 2), ("last", 3)] rfl sc_has_turn.nd (fj_list (ej_var 0)) (blkOk_by (by decide +kernel : blkC ["spans", "turn", "first", "last"] (defScope s_has_turn) _ _ = true)) (by decide) (fun _ _ _ _ _ => (gj_tup rfl (gsj_cons (gj_name 2 sc_has_turn.nd) (gsj_cons (gj_name 3 sc_has_turn.nd) gsj_nil)))) (fun _ _ _ _ _ => tsj_nil) (fun _ _ _ _ _ => (ej_chain opr_le opr_le opi_le opi_le (ej_var 2) (ej_var 1) (ej_var 3)))) aj_nil))))
set_option maxHeartbeats 4000000 in
theorem ok_turn_count {f : Addr} {fd : FuncData} (F : Fun K "turn_count" "turn_count" s_turn_count f fd) (T : Txt K mg)  : FnOk P w K mg base (L2.CX P w) 1 f fd ["spans"] (SpT K 1 (runF 3 b_turn_count)) := by
  refine fn_T2 (k := 0) F sc_turn_count rfl rfl (fun cdv A outer s H E hr => ?_)
  conv => enter [3]; whnf
  exact (ssj_one (sj_ret (ej_callB (cr_sum rfl) calli_sum rfl T.n_sum (by decide +kernel) (aj_cons (ej_comp [("first", 1), ("last", 2)] rfl sc_turn_count.nd (fj_list (ej_var 0)) (blkOk_by (by decide +kernel : blkC ["spans", "first", "last"] (defScope s_turn_count) _ _ = true)) (by decide) (fun _ _ _ _ _ => (gj_tup rfl (gsj_cons (gj_name 1 sc_turn_count.nd) (gsj_cons (gj_name 2 sc_turn_count.nd) gsj_nil)))) (fun _ _ _ _ _ => tsj_nil) (fun _ _ _ _ _ => (ej_op opr_add opi_add (ej_op op_sub opi_sub (ej_var 2) (ej_var 1)) ej_int))) aj_nil))))
set_option maxHeartbeats 4000000 in
theorem ok_turn_count_in {f : Addr} {fd : FuncData} (F : Fun K "turn_count_in" "turn_count_in" s_turn_count_in f fd) (T : Txt K mg)  : FnOk P w K mg base (L2.CX P w) 1 f fd ["spans", "first", "last"] (SpT K 3 (runF 5 b_turn_count_in)) := by
  refine fn_T2 (k := 0) F sc_turn_count_in rfl rfl (fun cdv A outer s H E hr => ?_)
  conv => enter [3]; whnf
  exact (ssj_one (sj_ret (ej_callB (cr_sum rfl) calli_sum rfl T.n_sum (by decide +kernel) (aj_cons (ej_comp [("begin", 3), ("end", 4)] rfl sc_turn_count_in.nd (fj_list (ej_var 0)) (blkOk_by (by decide +kernel : blkC ["spans", "first", "last", "begin", "end"] (defScope s_turn_count_in) _ _ = true)) (by decide) (fun _ _ _ _ _ => (gj_tup rfl (gsj_cons (gj_name 3 sc_turn_count_in.nd) (gsj_cons (gj_name 4 sc_turn_count_in.nd) gsj_nil)))) (fun _ _ _ _ _ => tsj_nil) (fun _ _ _ _ _ => (ej_callB (call_max2 rfl) calli_max rfl T.n_max (by decide +kernel) (aj_cons ej_int (aj_cons (ej_op opr_add opi_add (ej_op op_sub opi_sub (ej_callB (call_min2 rfl) calli_min rfl T.n_min (by decide +kernel) (aj_cons (ej_var 4) (aj_cons (ej_var 2) aj_nil))) (ej_callB (call_max2 rfl) calli_max rfl T.n_max (by decide +kernel) (aj_cons (ej_var 3) (aj_cons (ej_var 1) aj_nil)))) ej_int) aj_nil))))) aj_nil))))
set_option maxHeartbeats 4000000 in
theorem ok_joined {f : Addr} {fd : FuncData} (F : Fun K "joined" "joined" s_joined f fd) (T : Txt K mg) (C_merged : Cal P w K mg base "merged" 1 1 F_merged) : FnOk P w K mg base (L2.CX P w) 2 f fd ["one", "other"] (SpT K 2 (runF 2 b_joined)) := by
  refine fn_T2 (k := 1) F sc_joined rfl rfl (fun cdv A outer s H E hr => ?_)
  conv => enter [3]; whnf
  exact (ssj_one (sj_ret (ej_cal C_merged hr (by decide) hxB rfl (aj_cons (ej_callB callr_sorted calli_sorted rfl T.n_sorted (by decide +kernel) (aj_cons (ej_op opr_add opi_add (ej_var 0) (ej_var 1)) aj_nil)) aj_nil) (fA_len (fun _ _ h => fN_len h)))))
set_option maxHeartbeats 4000000 in
theorem ok_shared {f : Addr} {fd : FuncData} (F : Fun K "shared" "shared" s_shared f fd) (T : Txt K mg)  : FnOk P w K mg base (L2.CX P w) 1 f fd ["one", "other"] (SpT K 2 (runF 7 b_shared)) := by
  refine fn_T2 (k := 0) F sc_shared rfl rfl (fun cdv A outer s H E hr => ?_)
  conv => enter [3]; whnf
  exact (ssj_cons (sj_set 2 (ej_lst aj_nil) sc_shared.nd)
    (ssj_cons (sj_setZ 3 ej_int sc_shared.nd)
    (ssj_cons (sj_fg [0, 1, 3] (sj_for poB rfl (fj_list (ej_var 0)) (gj_tup rfl (gsj_cons (gj_name 4 sc_shared.nd) (gsj_cons (gj_name 5 sc_shared.nd) gsj_nil)))
    (ssj_fg [4, 5, 6] (ssj_cons (sj_while whN poB (WJ.bj (wj_and (bj_cmp op_lt opi_cmp (ej_var 3) (ej_callB callr_len calli_len rfl T.n_len (by decide +kernel) (aj_cons (ej_var 1) aj_nil)) (nomk _)) (wj_and1 (bj_cmp op_lt opi_cmp (ej_ix (ej_ix (ej_var 1) (ej_var 3) (fun _ _ => rfl)) ej_int (fun _ _ => rfl)) (ej_var 4) (nomk _)))))
    (ssj_one (sj_aug 3 ej_int sc_shared.nd)))
    (ssj_cons (sj_setZ 6 (ej_var 3) sc_shared.nd)
    (ssj_one (sj_fg [4, 5, 6] (sj_while whN poB (WJ.bj (wj_and (bj_cmp op_lt opi_cmp (ej_var 6) (ej_callB callr_len calli_len rfl T.n_len (by decide +kernel) (aj_cons (ej_var 1) aj_nil)) (nomk _)) (wj_and1 (bj_cmp opr_le opi_le (ej_ix (ej_ix (ej_var 1) (ej_var 6) (fun _ _ => rfl)) ej_int (fun _ _ => rfl)) (ej_var 5) (nomk _)))))
    (ssj_cons (sj_app 2 (ej_tup (aj_cons (ej_callB (call_max2 rfl) calli_max rfl T.n_max (by decide +kernel) (aj_cons (ej_var 4) (aj_cons (ej_ix (ej_ix (ej_var 1) (ej_var 6) (fun _ _ => rfl)) ej_int (fun _ _ => rfl)) aj_nil))) (aj_cons (ej_callB (call_min2 rfl) calli_min rfl T.n_min (by decide +kernel) (aj_cons (ej_var 5) (aj_cons (ej_ix (ej_ix (ej_var 1) (ej_var 6) (fun _ _ => rfl)) ej_int (fun _ _ => rfl)) aj_nil))) aj_nil))))
    (ssj_one (sj_aug 6 ej_int sc_shared.nd)))))))))))
    (ssj_one (sj_ret (ej_var 2))))))
set_option maxHeartbeats 4000000 in
theorem ok_less {f : Addr} {fd : FuncData} (F : Fun K "less" "less" s_less f fd) (T : Txt K mg)  : FnOk P w K mg base (L2.CX P w) 1 f fd ["one", "other"] (SpT K 2 (runF 8 b_less)) := by
  refine fn_T2 (k := 0) F sc_less rfl rfl (fun cdv A outer s H E hr => ?_)
  conv => enter [3]; whnf
  exact (ssj_cons (sj_set 2 (ej_lst aj_nil) sc_less.nd)
    (ssj_cons (sj_fg [0, 1] (sj_for poB rfl (fj_list (ej_var 0)) (gj_tup rfl (gsj_cons (gj_name 3 sc_less.nd) (gsj_cons (gj_name 4 sc_less.nd) gsj_nil)))
    (ssj_fg [3, 4, 5, 6, 7] (ssj_cons (sj_fg [3] (sj_setZ 5 (ej_var 3) sc_less.nd))
    (ssj_cons (sj_for poB rfl (fj_list (ej_var 1)) (gj_tup rfl (gsj_cons (gj_name 6 sc_less.nd) (gsj_cons (gj_name 7 sc_less.nd) gsj_nil)))
    (ssj_fg [6, 7] (ssj_cons (sj_if (WJ.bj (wj_or (bj_cmp op_lt opi_cmp (ej_var 7) (ej_var 5) (nomk _)) (wj_or1 (bj_cmp op_gt opi_cmp (ej_var 6) (ej_var 4) (nomk _)))))
    (ssj_one sj_continue)
    ssj_nil)
    (ssj_cons (sj_fg [5, 6] (sj_if (bj_cmp op_lt opi_cmp (ej_var 5) (ej_var 6) (nomk _))
    (ssj_one (sj_fg [5, 6] (sj_app 2 (ej_tup (aj_cons (ej_var 5) (aj_cons (ej_op op_sub opi_sub (ej_var 6) ej_int) aj_nil))))))
    ssj_nil))
    (ssj_one (sj_fg [7] (sj_setZ 5 (ej_op opr_add opi_add (ej_var 7) ej_int) sc_less.nd)))))))
    (ssj_one (sj_fg [4, 5] (sj_if (bj_cmp opr_le opi_le (ej_var 5) (ej_var 4) (nomk _))
    (ssj_one (sj_fg [4, 5] (sj_app 2 (ej_tup (aj_cons (ej_var 5) (aj_cons (ej_var 4) aj_nil))))))
    ssj_nil))))))))
    (ssj_one (sj_ret (ej_var 2)))))
set_option maxHeartbeats 4000000 in
theorem ok_q_cell_at {f : Addr} {fd : FuncData} (F : Fun K "_law_cell_at" "_law_cell_at" s_q_cell_at f fd) (T : Txt K mg)  : FnOk P w K mg base (L2.CX P w) 1 f fd ["_law_script", "_law_k"] (SpT K 2 (runF 2 b_q_cell_at)) := by
  refine fn_T2 (k := 0) F sc_q_cell_at rfl rfl (fun cdv A outer s H E hr => ?_)
  conv => enter [3]; whnf
  exact (ssj_cons (sj_fg [0, 1] (sj_if (bj_cmp op_lt opi_cmp (ej_var 1) (ej_callB callr_len calli_len rfl T.n_len (by decide +kernel) (aj_cons (ej_var 0) aj_nil)) (nomk _))
    (ssj_one (sj_ret (ej_ix (ej_var 0) (ej_var 1) (fun _ _ => rfl))))
    ssj_nil))
    (ssj_one (sj_ret ej_int)))
set_option maxHeartbeats 4000000 in
theorem ok_q_whole {f : Addr} {fd : FuncData} (F : Fun K "_law_whole" "_law_whole" s_q_whole f fd) (T : Txt K mg)  : FnOk P w K mg base (L2.CX P w) 1 f fd ["_law_found", "_law_due"] (SpT K 2 (runF 2 b_q_whole)) := by
  refine fn_T2 (k := 0) F sc_q_whole rfl rfl (fun cdv A outer s H E hr => ?_)
  conv => enter [3]; whnf
  exact (ssj_one (sj_ret (ej_and (ej_isa rfl T.n_isinstance (by decide +kernel) rfl T.n_int (by decide +kernel) (by decide +kernel) (ej_var 0)) (ej_and (ej_not (ej_isa rfl T.n_isinstance (by decide +kernel) rfl T.n_bool (by decide +kernel) (by decide +kernel) (ej_var 0))) (ej_one (ej_cmp (op_eqD (hu64 hr)) opi_eq (ej_var 0) (ej_var 1) (nomk _)))))))
set_option maxHeartbeats 4000000 in
theorem ok_q_pairs {f : Addr} {fd : FuncData} (F : Fun K "_law_pairs" "_law_pairs" s_q_pairs f fd) (T : Txt K mg) (C_q_whole : Cal P w K mg base "_law_whole" 1 2 F_q_whole) : FnOk P w K mg base (L2.CX P w) 2 f fd ["_law_found", "_law_due"] (SpT K 2 (runF 4 b_q_pairs)) := by
  refine fn_T2 (k := 1) F sc_q_pairs rfl rfl (fun cdv A outer s H E hr => ?_)
  conv => enter [3]; whnf
  exact (ssj_cons (sj_if (WJ.bj (wj_or (bj_not (bj_call (ej_isa rfl T.n_isinstance (by decide +kernel) rfl T.n_list (by decide +kernel) (by decide +kernel) (ej_var 0)))) (wj_or1 (bj_cmp (op_neD (hu64 hr)) opi_ne (ej_callB callr_len calli_len rfl T.n_len (by decide +kernel) (aj_cons (ej_var 0) aj_nil)) (ej_callB callr_len calli_len rfl T.n_len (by decide +kernel) (aj_cons (ej_var 1) aj_nil)) (nomk _)))))
    (ssj_one (sj_ret ej_bl))
    ssj_nil)
    (ssj_cons (sj_fg [0, 1] (sj_for poB rfl (fj_zip rfl T.n_zip (ej_var 0) (ej_var 1)) (gj_tup rfl (gsj_cons (gj_name 2 sc_q_pairs.nd) (gsj_cons (gj_name 3 sc_q_pairs.nd) gsj_nil)))
    (ssj_fg [2, 3] (ssj_cons (sj_if (WJ.bj (wj_or (bj_not (bj_call (ej_isa rfl T.n_isinstance (by decide +kernel) rfl T.n_tuple (by decide +kernel) (by decide +kernel) (ej_var 2)))) (wj_or1 (bj_cmp (op_neD (hu64 hr)) opi_ne (ej_callB callr_len calli_len rfl T.n_len (by decide +kernel) (aj_cons (ej_var 2) aj_nil)) ej_int (nomk _)))))
    (ssj_one (sj_ret ej_bl))
    ssj_nil)
    (ssj_one (sj_fg [2, 3] (sj_if (WJ.bj (wj_or (bj_not (bj_call (ej_cal C_q_whole hr (by decide) hxB rfl (aj_cons (ej_ix (ej_var 2) ej_int (fun _ _ => rfl)) (aj_cons (ej_ix (ej_var 3) ej_int (fun _ _ => rfl)) aj_nil)) (fA_len (fA_len (fun _ _ h => fN_len h)))))) (wj_or1 (bj_not (bj_call (ej_cal C_q_whole hr (by decide) hxB rfl (aj_cons (ej_ix (ej_var 2) ej_int (fun _ _ => rfl)) (aj_cons (ej_ix (ej_var 3) ej_int (fun _ _ => rfl)) aj_nil)) (fA_len (fA_len (fun _ _ h => fN_len h)))))))))
    (ssj_one (sj_ret ej_bl))
    ssj_nil)))))))
    (ssj_one (sj_ret ej_bl))))
set_option maxHeartbeats 4000000 in
theorem ok_q_mixed {f : Addr} {fd : FuncData} (F : Fun K "_law_mixed" "_law_mixed" s_q_mixed f fd) (T : Txt K mg)  : FnOk P w K mg base (L2.CX P w) 1 f fd ["_law_cell", "_law_k"] (SpT K 2 (runF 2 b_q_mixed)) := by
  refine fn_T2 (k := 0) F sc_q_mixed rfl rfl (fun cdv A outer s H E hr => ?_)
  conv => enter [3]; whnf
  exact (ssj_one (sj_ret (ej_op op_mod opi_mod (ej_op opr_add opi_add (ej_op opr_mul opi_mul (ej_op op_mod opi_mod (ej_var 0) ej_int) ej_int) (ej_op opr_mul opi_mul ej_int (ej_var 1))) ej_int)))
set_option maxHeartbeats 4000000 in
theorem ok_q_kept {f : Addr} {fd : FuncData} (F : Fun K "_law_kept" "_law_kept" s_q_kept f fd) (T : Txt K mg) (C_q_cell_at : Cal P w K mg base "_law_cell_at" 1 2 F_q_cell_at) (C_q_mixed : Cal P w K mg base "_law_mixed" 1 2 F_q_mixed) : FnOk P w K mg base (L2.CX P w) 2 f fd ["_law_script", "_law_start", "_law_many"] (SpT K 3 (runF 8 b_q_kept)) := by
  refine fn_T2 (k := 1) F sc_q_kept rfl rfl (fun cdv A outer s H E hr => ?_)
  conv => enter [3]; whnf
  exact (ssj_cons (sj_set 3 (ej_lst aj_nil) sc_q_kept.nd)
    (ssj_cons (sj_setZ 4 ej_int sc_q_kept.nd)
    (ssj_cons (sj_fg [0, 1, 2, 4] (sj_for poB rfl (fj_range1 rfl T.n_range (ej_var 2)) (gj_name 5 sc_q_kept.nd)
    (ssj_fg [5, 6, 7] (ssj_cons (sj_setZ 6 (ej_cal C_q_mixed hr (by decide) hxB rfl (aj_cons (ej_cal C_q_cell_at hr (by decide) hxB rfl (aj_cons (ej_var 0) (aj_cons (ej_op opr_add opi_add (ej_var 1) (ej_var 5)) aj_nil)) (fA_len (fA_len (fun _ _ h => fN_len h)))) (aj_cons (ej_var 5) aj_nil)) (fA_len (fA_len (fun _ _ h => fN_len h)))) sc_q_kept.nd)
    (ssj_cons (sj_fg [5] (sj_setZ 4 (ej_op opr_add opi_add (ej_op opr_add opi_add (ej_var 4) (ej_op opr_mul opi_mul ej_int (ej_callTy call_int1 calli_int rfl T.n_int (by decide +kernel) (aj_cons (ej_cmp op_gt opi_cmp (ej_var 5) ej_int (nomk _)) aj_nil)))) (ej_op op_mod opi_mod (ej_var 6) (ej_ix (ej_lst (aj_cons ej_int (aj_cons ej_int (aj_cons ej_int (aj_cons (ej_op op_pow opi_pow ej_int ej_int) aj_nil))))) (ej_op op_mod opi_mod (ej_op op_fdiv opi_fdiv (ej_var 6) (ej_op op_pow opi_pow ej_int ej_int)) ej_int) (fun _ _ => rfl)))) sc_q_kept.nd))
    (ssj_cons (sj_fg [6] (sj_setZ 7 (ej_op opr_add opi_add (ej_var 4) (ej_op op_mod opi_mod (ej_op op_fdiv opi_fdiv (ej_var 6) ej_int) (ej_ix (ej_lst (aj_cons ej_int (aj_cons ej_int (aj_cons ej_int (aj_cons (ej_op op_pow opi_pow ej_int ej_int) aj_nil))))) (ej_op op_mod opi_mod (ej_op op_fdiv opi_fdiv (ej_var 6) ej_int) ej_int) (fun _ _ => rfl)))) sc_q_kept.nd))
    (ssj_cons (sj_fg [4] (sj_app 3 (ej_tup (aj_cons (ej_var 4) (aj_cons (ej_var 7) aj_nil)))))
    (ssj_one (sj_fg [7] (sj_setZ 4 (ej_var 7) sc_q_kept.nd))))))))))
    (ssj_one (sj_ret (ej_var 3))))))
set_option maxHeartbeats 4000000 in
theorem ok_q_sets {f : Addr} {fd : FuncData} (F : Fun K "_law_sets" "_law_sets" s_q_sets f fd) (T : Txt K mg) (C_q_cell_at : Cal P w K mg base "_law_cell_at" 1 2 F_q_cell_at) (C_q_kept : Cal P w K mg base "_law_kept" 2 3 F_q_kept) : FnOk P w K mg base (L2.CX P w) 3 f fd ["_law_script"] (SpT K 1 (runF 6 b_q_sets)) := by
  refine fn_T2 (k := 2) F sc_q_sets rfl rfl (fun cdv A outer s H E hr => ?_)
  conv => enter [3]; whnf
  exact (ssj_cons (sj_setZ 1 (ej_cal C_q_cell_at hr (by decide) hxB rfl (aj_cons (ej_var 0) (aj_cons ej_int aj_nil)) (fA_len (fA_len (fun _ _ h => fN_len h)))) sc_q_sets.nd)
    (ssj_cons (sj_setZ 2 (ej_cal C_q_kept hr (by decide) hxB rfl (aj_cons (ej_var 0) (aj_cons ej_int (aj_cons (ej_op op_mod opi_mod (ej_var 1) ej_int) aj_nil))) (fA_len (fA_len (fA_len (fun _ _ h => fN_len h))))) sc_q_sets.nd)
    (ssj_cons (sj_fg [0] (sj_setZ 3 (ej_cal C_q_kept hr (by decide) hxB rfl (aj_cons (ej_var 0) (aj_cons ej_int (aj_cons (ej_op op_mod opi_mod (ej_op op_fdiv opi_fdiv (ej_var 1) ej_int) ej_int) aj_nil))) (fA_len (fA_len (fA_len (fun _ _ h => fN_len h))))) sc_q_sets.nd))
    (ssj_cons (sj_fg [1] (sj_if (bj_cmp (op_eqD (hu64 hr)) opi_eq (ej_op op_mod opi_mod (ej_op op_fdiv opi_fdiv (ej_var 1) ej_int) ej_int) ej_int (nomk _))
    (ssj_one (sj_fg [1] (sj_setcompZ 3 [("_law_first", 4), ("_law_last", 5)] rfl sc_q_sets.nd (sw_tru2 rfl rfl rfl (by decide +kernel)) (fj_list (ej_var 2)) (blkOk_by (by decide +kernel : blkC ["_law_script", "_law_cell", "_law_one", "_law_other", "_law_first", "_law_last"] (defScope s_q_sets) _ _ = true)) (by decide) (fun _ _ _ _ _ => (gj_tup rfl (gsj_cons (gj_name 4 sc_q_sets.nd) (gsj_cons (gj_name 5 sc_q_sets.nd) gsj_nil)))) (fun _ _ _ _ _ => (tsj_one (bj_cmp op_gt opi_cmp (ej_op op_mod opi_mod (ej_op opr_add opi_add (ej_var 4) (ej_op op_fdiv opi_fdiv (ej_var 1) ej_int)) ej_int) ej_int (nomk _)))) (fun _ _ _ _ _ => (ej_tup (aj_cons (ej_var 4) (aj_cons (ej_var 5) aj_nil)))))))
    ssj_nil))
    (ssj_one (sj_ret (ej_lst (aj_cons (ej_var 2) (aj_cons (ej_var 3) aj_nil)))))))))
set_option maxHeartbeats 4000000 in
theorem ok_q_in {f : Addr} {fd : FuncData} (F : Fun K "_law_in" "_law_in" s_q_in f fd) (T : Txt K mg)  : FnOk P w K mg base (L2.CX P w) 1 f fd ["_law_spans", "_law_turn"] (SpT K 2 (runF 5 b_q_in)) := by
  refine fn_T2 (k := 0) F sc_q_in rfl rfl (fun cdv A outer s H E hr => ?_)
  conv => enter [3]; whnf
  exact (ssj_cons (sj_setZ 2 ej_bl sc_q_in.nd)
    (ssj_cons (sj_fg [0, 1] (sj_for poB rfl (fj_list (ej_var 0)) (gj_tup rfl (gsj_cons (gj_name 3 sc_q_in.nd) (gsj_cons (gj_name 4 sc_q_in.nd) gsj_nil)))
    (ssj_fg [3, 4] (ssj_one (sj_fg [3, 4] (sj_setZ 2 (ej_or (ej_var 2) (ej_one (ej_chain opr_le opr_le opi_le opi_le (ej_var 3) (ej_var 1) (ej_var 4)))) sc_q_in.nd))))))
    (ssj_one (sj_ret (ej_var 2)))))
set_option maxHeartbeats 4000000 in
theorem ok_q_borders {f : Addr} {fd : FuncData} (F : Fun K "_law_borders" "_law_borders" s_q_borders f fd) (T : Txt K mg)  : FnOk P w K mg base (L2.CX P w) 1 f fd ["_law_sets_here"] (SpT K 1 (runF 5 b_q_borders)) := by
  refine fn_T2 (k := 0) F sc_q_borders rfl rfl (fun cdv A outer s H E hr => ?_)
  conv => enter [3]; whnf
  exact (ssj_cons (sj_setZ 1 (ej_lst aj_nil) sc_q_borders.nd)
    (ssj_cons (sj_fg [0] (sj_for poB rfl (fj_list (ej_var 0)) (gj_name 2 sc_q_borders.nd)
    (ssj_fg [2, 3, 4] (ssj_one (sj_fg [2] (sj_for poB rfl (fj_list (ej_var 2)) (gj_tup rfl (gsj_cons (gj_name 3 sc_q_borders.nd) (gsj_cons (gj_name 4 sc_q_borders.nd) gsj_nil)))
    (ssj_fg [3, 4] (ssj_one (sj_fg [3, 4] (sj_setZ 1 (ej_op opr_add opi_add (ej_var 1) (ej_lst (aj_cons (ej_var 3) (aj_cons (ej_op opr_add opi_add (ej_var 4) ej_int) aj_nil)))) sc_q_borders.nd))))))))))
    (ssj_one (sj_ret (ej_callB callr_sorted calli_sorted rfl T.n_sorted (by decide +kernel) (aj_cons (ej_var 1) aj_nil))))))
set_option maxHeartbeats 4000000 in
theorem ok_q_chosen {f : Addr} {fd : FuncData} (F : Fun K "_law_chosen" "_law_chosen" s_q_chosen f fd) (T : Txt K mg) (C_q_borders : Cal P w K mg base "_law_borders" 1 1 F_q_borders) (C_q_in : Cal P w K mg base "_law_in" 1 2 F_q_in) : FnOk P w K mg base (L2.CX P w) 2 f fd ["_law_sets_here", "_law_way"] (SpT K 2 (runF 9 b_q_chosen)) := by
  refine fn_T2 (k := 1) F sc_q_chosen rfl rfl (fun cdv A outer s H E hr => ?_)
  conv => enter [3]; whnf
  exact (ssj_cons (sj_setZ 2 (ej_cal C_q_borders hr (by decide) hxB rfl (aj_cons (ej_var 0) aj_nil) (fA_len (fun _ _ h => fN_len h))) sc_q_chosen.nd)
    (ssj_cons (sj_set 3 (ej_lst aj_nil) sc_q_chosen.nd)
    (ssj_cons (sj_fg [0, 1, 2] (sj_for poB rfl (fj_zip rfl T.n_zip (ej_var 2) (ej_slice (ej_var 2) (oj_some ej_int) oj_none)) (gj_tup rfl (gsj_cons (gj_name 4 sc_q_chosen.nd) (gsj_cons (gj_name 5 sc_q_chosen.nd) gsj_nil)))
    (ssj_fg [4, 5, 6, 7, 8] (ssj_cons (sj_setZ 6 (ej_cal C_q_in hr (by decide) hxB rfl (aj_cons (ej_ix (ej_var 0) ej_int (fun _ _ => rfl)) (aj_cons (ej_var 4) aj_nil)) (fA_len (fA_len (fun _ _ h => fN_len h)))) sc_q_chosen.nd)
    (ssj_cons (sj_setZ 7 (ej_cal C_q_in hr (by decide) hxB rfl (aj_cons (ej_ix (ej_var 0) ej_int (fun _ _ => rfl)) (aj_cons (ej_var 4) aj_nil)) (fA_len (fA_len (fun _ _ h => fN_len h)))) sc_q_chosen.nd)
    (ssj_cons (sj_set 8 (ej_lst (aj_cons (ej_or (ej_var 6) (ej_one (ej_var 7))) (aj_cons (ej_and (ej_var 6) (ej_one (ej_var 7))) (aj_cons (ej_and (ej_var 6) (ej_one (ej_not (ej_var 7)))) aj_nil)))) sc_q_chosen.nd)
    (ssj_cons (sj_fg [6, 7] (sj_app 8 (ej_and (ej_var 7) (ej_one (ej_not (ej_var 6))))))
    (ssj_one (sj_fg [4, 5, 8] (sj_if (WJ.bj (wj_and (bj_cmp op_lt opi_cmp (ej_var 4) (ej_var 5) (nomk _)) (wj_and1 (bj_sub (ej_ix (ej_var 8) (ej_var 1) (fun _ _ => rfl))))))
    (ssj_cons (sj_if (WJ.bj (wj_and (bj_cmp (op_neD (hu64 hr)) opi_ne (ej_var 3) (ej_lst aj_nil) (nomk _)) (wj_and1 (bj_cmp (op_eqD (hu64 hr)) opi_eq (ej_ix (ej_ix (ej_var 3) (ej_neg ej_int) (fun _ _ => rfl)) ej_int (fun _ _ => rfl)) (ej_op op_sub opi_sub (ej_var 4) ej_int) (nomk _)))))
    (ssj_one (sj_popIx 4 3 ej_int sc_q_chosen.nd (fun _ _ => rfl)))
    ssj_nil)
    (ssj_one (sj_fg [4, 5] (sj_app 3 (ej_tup (aj_cons (ej_var 4) (aj_cons (ej_op op_sub opi_sub (ej_var 5) ej_int) aj_nil)))))))
    ssj_nil))))))))))
    (ssj_one (sj_ret (ej_var 3))))))
set_option maxHeartbeats 4000000 in
theorem ok_q_up_to {f : Addr} {fd : FuncData} (F : Fun K "_law_up_to" "_law_up_to" s_q_up_to f fd) (T : Txt K mg)  : FnOk P w K mg base (L2.CX P w) 1 f fd ["_law_spans", "_law_turn"] (SpT K 2 (runF 5 b_q_up_to)) := by
  refine fn_T2 (k := 0) F sc_q_up_to rfl rfl (fun cdv A outer s H E hr => ?_)
  conv => enter [3]; whnf
  exact (ssj_cons (sj_setZ 2 ej_int sc_q_up_to.nd)
    (ssj_cons (sj_fg [0, 1] (sj_for poB rfl (fj_list (ej_var 0)) (gj_tup rfl (gsj_cons (gj_name 3 sc_q_up_to.nd) (gsj_cons (gj_name 4 sc_q_up_to.nd) gsj_nil)))
    (ssj_fg [3, 4] (ssj_one (sj_fg [3, 4] (sj_if (bj_cmp opr_le opi_le (ej_var 3) (ej_var 1) (nomk _))
    (ssj_one (sj_fg [3, 4] (sj_setZ 2 (ej_op opr_add opi_add (ej_op op_sub opi_sub (ej_op opr_add opi_add (ej_var 2) (ej_callB (call_min2 rfl) calli_min rfl T.n_min (by decide +kernel) (aj_cons (ej_var 4) (aj_cons (ej_var 1) aj_nil)))) (ej_var 3)) ej_int) sc_q_up_to.nd)))
    ssj_nil))))))
    (ssj_one (sj_ret (ej_var 2)))))
set_option maxHeartbeats 4000000 in
theorem ok_q_told {f : Addr} {fd : FuncData} (F : Fun K "_law_told" "_law_told" s_q_told f fd) (T : Txt K mg) (C_has_turn : Cal P w K mg base "has_turn" 1 2 F_has_turn) (C_q_in : Cal P w K mg base "_law_in" 1 2 F_q_in) (C_turn_count : Cal P w K mg base "turn_count" 1 1 F_turn_count) (C_q_whole : Cal P w K mg base "_law_whole" 1 2 F_q_whole) (C_q_up_to : Cal P w K mg base "_law_up_to" 1 2 F_q_up_to) (C_turn_count_in : Cal P w K mg base "turn_count_in" 1 3 F_turn_count_in) : FnOk P w K mg base (L2.CX P w) 2 f fd ["_law_spans", "_law_turns"] (SpT K 2 (runF 8 b_q_told)) := by
  refine fn_T2 (k := 1) F sc_q_told rfl rfl (fun cdv A outer s H E hr => ?_)
  conv => enter [3]; whnf
  exact (ssj_cons (sj_for poB rfl (fj_list (ej_var 1)) (gj_name 2 sc_q_told.nd)
    (ssj_fg [2, 3] (ssj_cons (sj_setZ 3 (ej_cal C_has_turn hr (by decide) hxB rfl (aj_cons (ej_var 0) (aj_cons (ej_var 2) aj_nil)) (fA_len (fA_len (fun _ _ h => fN_len h)))) sc_q_told.nd)
    (ssj_one (sj_fg [2, 3] (sj_if (WJ.bj (wj_or (bj_not (bj_call (ej_isa rfl T.n_isinstance (by decide +kernel) rfl T.n_bool (by decide +kernel) (by decide +kernel) (ej_var 3)))) (wj_or1 (bj_cmp (op_neD (hu64 hr)) opi_ne (ej_var 3) (ej_cal C_q_in hr (by decide) hxB rfl (aj_cons (ej_var 0) (aj_cons (ej_var 2) aj_nil)) (fA_len (fA_len (fun _ _ h => fN_len h)))) (nomk _)))))
    (ssj_one (sj_ret ej_bl))
    ssj_nil))))))
    (ssj_cons (sj_fg [5, 6] (sj_setZ 4 (ej_callB (cr_sum rfl) calli_sum rfl T.n_sum (by decide +kernel) (aj_cons (ej_comp [("_law_first", 5), ("_law_last", 6)] rfl sc_q_told.nd (fj_list (ej_var 0)) (blkOk_by (by decide +kernel : blkC ["_law_spans", "_law_turns", "_law_turn", "_law_found", "_law_total", "_law_first", "_law_last", "_law_due"] (defScope s_q_told) _ _ = true)) (by decide) (fun _ _ _ _ _ => (gj_tup rfl (gsj_cons (gj_name 5 sc_q_told.nd) (gsj_cons (gj_name 6 sc_q_told.nd) gsj_nil)))) (fun _ _ _ _ _ => tsj_nil) (fun _ _ _ _ _ => (ej_op op_sub opi_sub (ej_op opr_add opi_add (ej_var 6) ej_int) (ej_var 5)))) aj_nil)) sc_q_told.nd))
    (ssj_cons (sj_fg [4] (sj_if (bj_not (bj_call (ej_cal C_q_whole hr (by decide) hxB rfl (aj_cons (ej_cal C_turn_count hr (by decide) hxB rfl (aj_cons (ej_var 0) aj_nil) (fA_len (fun _ _ h => fN_len h))) (aj_cons (ej_var 4) aj_nil)) (fA_len (fA_len (fun _ _ h => fN_len h))))))
    (ssj_one (sj_ret ej_bl))
    ssj_nil))
    (ssj_cons (sj_fg [0, 1] (sj_for poB rfl (fj_zip rfl T.n_zip (ej_var 1) (ej_op opr_add opi_add (ej_slice (ej_var 1) (oj_some ej_int) oj_none) (ej_slice (ej_var 1) oj_none (oj_some ej_int)))) (gj_tup rfl (gsj_cons (gj_name 5 sc_q_told.nd) (gsj_cons (gj_name 6 sc_q_told.nd) gsj_nil)))
    (ssj_fg [5, 6, 7] (ssj_cons (sj_setZ 7 (ej_callB (call_max2 rfl) calli_max rfl T.n_max (by decide +kernel) (aj_cons ej_int (aj_cons (ej_op op_sub opi_sub (ej_cal C_q_up_to hr (by decide) hxB rfl (aj_cons (ej_var 0) (aj_cons (ej_var 6) aj_nil)) (fA_len (fA_len (fun _ _ h => fN_len h)))) (ej_cal C_q_up_to hr (by decide) hxB rfl (aj_cons (ej_var 0) (aj_cons (ej_op op_sub opi_sub (ej_var 5) ej_int) aj_nil)) (fA_len (fA_len (fun _ _ h => fN_len h))))) aj_nil))) sc_q_told.nd)
    (ssj_one (sj_fg [5, 6, 7] (sj_if (bj_not (bj_call (ej_cal C_q_whole hr (by decide) hxB rfl (aj_cons (ej_cal C_turn_count_in hr (by decide) hxB rfl (aj_cons (ej_var 0) (aj_cons (ej_var 5) (aj_cons (ej_var 6) aj_nil))) (fA_len (fA_len (fA_len (fun _ _ h => fN_len h))))) (aj_cons (ej_var 7) aj_nil)) (fA_len (fA_len (fun _ _ h => fN_len h))))))
    (ssj_one (sj_ret ej_bl))
    ssj_nil)))))))
    (ssj_one (sj_ret ej_bl))))))
set_option maxHeartbeats 4000000 in
theorem ok_q_made {f : Addr} {fd : FuncData} (F : Fun K "_law_made" "_law_made" s_q_made f fd) (T : Txt K mg) (C_joined : Cal P w K mg base "joined" 2 2 F_joined) (C_shared : Cal P w K mg base "shared" 1 2 F_shared) (C_less : Cal P w K mg base "less" 1 2 F_less) : FnOk P w K mg base (L2.CX P w) 3 f fd ["_law_sets_here", "_law_way"] (SpT K 2 (runF 4 b_q_made)) := by
  refine fn_T2 (k := 2) F sc_q_made rfl rfl (fun cdv A outer s H E hr => ?_)
  conv => enter [3]; whnf
  exact (ssj_cons (sj_fg [0] (sj_unp (ej_var 0) (gj_lst rfl (gsj_cons (gj_name 2 sc_q_made.nd) (gsj_cons (gj_name 3 sc_q_made.nd) gsj_nil)))))
    (ssj_cons (sj_if (bj_cmp (op_eqD (hu64 hr)) opi_eq (ej_var 1) ej_int (nomk _))
    (ssj_one (sj_ret (ej_cal C_joined hr (by decide) hxB rfl (aj_cons (ej_var 2) (aj_cons (ej_var 3) aj_nil)) (fA_len (fA_len (fun _ _ h => fN_len h))))))
    ssj_nil)
    (ssj_cons (sj_if (bj_cmp (op_eqD (hu64 hr)) opi_eq (ej_var 1) ej_int (nomk _))
    (ssj_one (sj_ret (ej_cal C_shared hr (by decide) hxB rfl (aj_cons (ej_var 2) (aj_cons (ej_var 3) aj_nil)) (fA_len (fA_len (fun _ _ h => fN_len h))))))
    ssj_nil)
    (ssj_cons (sj_fg [1] (sj_if (bj_cmp (op_eqD (hu64 hr)) opi_eq (ej_var 1) ej_int (nomk _))
    (ssj_one (sj_ret (ej_cal C_less hr (by decide) hxB rfl (aj_cons (ej_var 2) (aj_cons (ej_var 3) aj_nil)) (fA_len (fA_len (fun _ _ h => fN_len h))))))
    ssj_nil))
    (ssj_one (sj_ret (ej_cal C_less hr (by decide) hxB rfl (aj_cons (ej_var 3) (aj_cons (ej_var 2) aj_nil)) (fA_len (fA_len (fun _ _ h => fN_len h))))))))))
set_option maxHeartbeats 4000000 in
theorem ok_q_wide {f : Addr} {fd : FuncData} (F : Fun K "_law_wide" "_law_wide" s_q_wide f fd) (T : Txt K mg) (C_q_mixed : Cal P w K mg base "_law_mixed" 1 2 F_q_mixed) : FnOk P w K mg base (L2.CX P w) 2 f fd ["_law_cell", "_law_start", "_law_many"] (SpT K 3 (runF 8 b_q_wide)) := by
  refine fn_T2 (k := 1) F sc_q_wide rfl rfl (fun cdv A outer s H E hr => ?_)
  conv => enter [3]; whnf
  exact (ssj_cons (sj_set 3 (ej_lst aj_nil) sc_q_wide.nd)
    (ssj_cons (sj_setZ 4 ej_int sc_q_wide.nd)
    (ssj_cons (sj_fg [0, 1, 2, 4] (sj_for poB rfl (fj_range1 rfl T.n_range (ej_var 2)) (gj_name 5 sc_q_wide.nd)
    (ssj_fg [5, 6, 7] (ssj_cons (sj_fg [5] (sj_setZ 6 (ej_op op_fdiv opi_fdiv (ej_cal C_q_mixed hr (by decide) hxB rfl (aj_cons (ej_var 0) (aj_cons (ej_op opr_add opi_add (ej_var 1) (ej_var 5)) aj_nil)) (fA_len (fA_len (fun _ _ h => fN_len h)))) ej_int) sc_q_wide.nd))
    (ssj_cons (sj_setZ 4 (ej_op opr_add opi_add (ej_op opr_add opi_add (ej_var 4) ej_int) (ej_op op_mod opi_mod (ej_var 6) ej_int)) sc_q_wide.nd)
    (ssj_cons (sj_fg [6] (sj_setZ 7 (ej_op opr_add opi_add (ej_var 4) (ej_op op_mod opi_mod (ej_op op_fdiv opi_fdiv (ej_var 6) ej_int) ej_int)) sc_q_wide.nd))
    (ssj_cons (sj_fg [4] (sj_app 3 (ej_tup (aj_cons (ej_var 4) (aj_cons (ej_var 7) aj_nil)))))
    (ssj_one (sj_fg [7] (sj_setZ 4 (ej_var 7) sc_q_wide.nd))))))))))
    (ssj_one (sj_ret (ej_var 3))))))
set_option maxHeartbeats 4000000 in
theorem ok_q_by_turns {f : Addr} {fd : FuncData} (F : Fun K "_law_by_turns" "_law_by_turns" s_q_by_turns f fd) (T : Txt K mg)  : FnOk P w K mg base (L2.CX P w) 1 f fd ["_law_sets_here", "_law_way"] (SpT K 2 (runF 9 b_q_by_turns)) := by
  refine fn_T2 (k := 0) F sc_q_by_turns rfl rfl (fun cdv A outer s H E hr => ?_)
  conv => enter [3]; whnf
  exact (ssj_cons (sj_set 2 ej_dk0 sc_q_by_turns.nd)
    (ssj_cons (sj_fg [0] (sj_for poB rfl (fj_enum rfl T.n_enumerate (ej_var 0)) (gj_tup rfl (gsj_cons (gj_name 3 sc_q_by_turns.nd) (gsj_cons (gj_name 4 sc_q_by_turns.nd) gsj_nil)))
    (ssj_fg [3, 4, 5, 6, 7] (ssj_one (sj_fg [3, 4] (sj_for poB rfl (fj_list (ej_var 4)) (gj_tup rfl (gsj_cons (gj_name 5 sc_q_by_turns.nd) (gsj_cons (gj_name 6 sc_q_by_turns.nd) gsj_nil)))
    (ssj_fg [5, 6, 7] (ssj_one (sj_fg [5, 6] (sj_for poB rfl (fj_range2 rfl T.n_range (ej_var 5) (ej_op opr_add opi_add (ej_var 6) ej_int)) (gj_name 7 sc_q_by_turns.nd)
    (ssj_fg [7] (ssj_one (sj_fg [7] (sj_putD (hu64 hr) 2 (ej_op opr_add opi_add (ej_op opr_add opi_add (ej_dg2 (hu64 hr) (ej_var 2) (ej_var 7) ej_int) ej_int) (ej_var 3)) (ej_var 7)))))))))))))))
    (ssj_cons (sj_set 8 (ej_lst aj_nil) sc_q_by_turns.nd)
    (ssj_cons (sj_fg [1, 2] (sj_for poB rfl (fj_list (ej_callB callr_sorted calli_sorted rfl T.n_sorted (by decide +kernel) (aj_cons (ej_callTy (call_list_dK rfl) calli_listK rfl T.n_list (by decide +kernel) (aj_cons (ej_var 2) aj_nil)) aj_nil))) (gj_name 7 sc_q_by_turns.nd)
    (ssj_fg [7] (ssj_one (sj_fg [7] (sj_if (bj_cmp (opr_in (hu65 hr)) opi_in (ej_dg (hu64 hr) (ej_var 2) (ej_var 7) (fun _ _ => rfl)) (ej_ix (ej_lst (aj_cons (ej_tup (aj_cons ej_int (aj_cons ej_int (aj_cons ej_int aj_nil)))) (aj_cons (ej_tup (aj_cons ej_int aj_nil)) (aj_cons (ej_tup (aj_cons ej_int aj_nil)) (aj_cons (ej_tup (aj_cons ej_int aj_nil)) aj_nil))))) (ej_var 1) (fun _ _ => rfl)) (by rfl))
    (ssj_one (sj_fg [7] (sj_if (WJ.bj (wj_and (bj_cmp (op_neD (hu64 hr)) opi_ne (ej_var 8) (ej_lst aj_nil) (nomk _)) (wj_and1 (bj_cmp (op_eqD (hu64 hr)) opi_eq (ej_ix (ej_ix (ej_var 8) (ej_neg ej_int) (fun _ _ => rfl)) ej_int (fun _ _ => rfl)) (ej_op op_sub opi_sub (ej_var 7) ej_int) (nomk _)))))
    (ssj_one (sj_fg [7] (sj_put 8 (ej_tup (aj_cons (ej_ix (ej_ix (ej_var 8) (ej_neg ej_int) (fun _ _ => rfl)) ej_int (fun _ _ => rfl)) (aj_cons (ej_var 7) aj_nil))) (ej_neg ej_int))))
    (ssj_one (sj_fg [7] (sj_app 8 (ej_tup (aj_cons (ej_var 7) (aj_cons (ej_var 7) aj_nil)))))))))
    ssj_nil))))))
    (ssj_one (sj_ret (ej_var 8)))))))
set_option maxHeartbeats 4000000 in
theorem ok_q_many_spans {f : Addr} {fd : FuncData} (F : Fun K "_law_many_spans" "_law_many_spans" s_q_many_spans f fd) (T : Txt K mg) (C_q_wide : Cal P w K mg base "_law_wide" 2 3 F_q_wide) (C_q_by_turns : Cal P w K mg base "_law_by_turns" 1 2 F_q_by_turns) (C_q_made : Cal P w K mg base "_law_made" 3 2 F_q_made) (C_q_pairs : Cal P w K mg base "_law_pairs" 2 2 F_q_pairs) (C_turn_count : Cal P w K mg base "turn_count" 1 1 F_turn_count) (C_q_whole : Cal P w K mg base "_law_whole" 1 2 F_q_whole) : FnOk P w K mg base (L2.CX P w) 4 f fd ["_law_cell"] (SpT K 1 (runF 7 b_q_many_spans)) := by
  refine fn_T2 (k := 3) F sc_q_many_spans rfl rfl (fun cdv A outer s H E hr => ?_)
  conv => enter [3]; whnf
  exact (ssj_cons (sj_fg [0] (sj_setZ 1 (ej_lst (aj_cons (ej_cal C_q_wide hr (by decide) hxB rfl (aj_cons (ej_var 0) (aj_cons ej_int (aj_cons (ej_op op_sub opi_sub ej_int (ej_op opr_mul opi_mul (ej_op op_mod opi_mod (ej_op op_fdiv opi_fdiv (ej_var 0) ej_int) ej_int) ej_int)) aj_nil))) (fA_len (fA_len (fA_len (fun _ _ h => fN_len h))))) (aj_cons (ej_cal C_q_wide hr (by decide) hxB rfl (aj_cons (ej_var 0) (aj_cons ej_int (aj_cons (ej_op op_sub opi_sub ej_int (ej_op op_mod opi_mod (ej_op op_fdiv opi_fdiv (ej_var 0) ej_int) ej_int)) aj_nil))) (fA_len (fA_len (fA_len (fun _ _ h => fN_len h))))) aj_nil))) sc_q_many_spans.nd))
    (ssj_cons (sj_setcompZ 2 [("_law_spans", 4)] rfl sc_q_many_spans.nd (sw_tru2 rfl rfl rfl (by decide +kernel)) (fj_list (ej_var 1)) (blkOk_by (by decide +kernel : blkC ["_law_cell", "_law_sets_here", "_law_kept_here", "_law_way", "_law_spans", "_law_first", "_law_last"] (defScope s_q_many_spans) _ _ = true)) (by decide) (fun _ _ _ _ _ => (gj_name 4 sc_q_many_spans.nd)) (fun _ _ _ _ _ => tsj_nil) (fun _ _ _ _ _ => (ej_callTy call_list_of calli_list rfl T.n_list (by decide +kernel) (aj_cons (ej_var 4) aj_nil))))
    (ssj_cons (sj_fg [2] (sj_for poB rfl (fj_range1 rfl T.n_range ej_int) (gj_name 3 sc_q_many_spans.nd)
    (ssj_fg [3] (ssj_one (sj_fg [3] (sj_if (WJ.bj (wj_or (bj_not (bj_call (ej_cal C_q_pairs hr (by decide) hxB rfl (aj_cons (ej_cal C_q_made hr (by decide) hxB rfl (aj_cons (ej_var 1) (aj_cons (ej_var 3) aj_nil)) (fA_len (fA_len (fun _ _ h => fN_len h)))) (aj_cons (ej_cal C_q_by_turns hr (by decide) hxB rfl (aj_cons (ej_var 1) (aj_cons (ej_var 3) aj_nil)) (fA_len (fA_len (fun _ _ h => fN_len h)))) aj_nil)) (fA_len (fA_len (fun _ _ h => fN_len h)))))) (wj_or1 (bj_cmp (op_neD (hu64 hr)) opi_ne (ej_var 1) (ej_var 2) (nomk _)))))
    (ssj_one (sj_ret ej_bl))
    ssj_nil))))))
    (ssj_one (sj_ret (ej_cal C_q_whole hr (by decide) hxB rfl (aj_cons (ej_cal C_turn_count hr (by decide) hxB rfl (aj_cons (ej_ix (ej_var 1) ej_int (fun _ _ => rfl)) aj_nil) (fA_len (fun _ _ h => fN_len h))) (aj_cons (ej_callB (cr_sum rfl) calli_sum rfl T.n_sum (by decide +kernel) (aj_cons (ej_comp [("_law_first", 5), ("_law_last", 6)] rfl sc_q_many_spans.nd (fj_list (ej_ix (ej_var 1) ej_int (fun _ _ => rfl))) (blkOk_by (by decide +kernel : blkC ["_law_cell", "_law_sets_here", "_law_kept_here", "_law_way", "_law_spans", "_law_first", "_law_last"] (defScope s_q_many_spans) _ _ = true)) (by decide) (fun _ _ _ _ _ => (gj_tup rfl (gsj_cons (gj_name 5 sc_q_many_spans.nd) (gsj_cons (gj_name 6 sc_q_many_spans.nd) gsj_nil)))) (fun _ _ _ _ _ => tsj_nil) (fun _ _ _ _ _ => (ej_op op_sub opi_sub (ej_op opr_add opi_add (ej_var 6) ej_int) (ej_var 5)))) aj_nil)) aj_nil)) (fA_len (fA_len (fun _ _ h => fN_len h)))))))))
set_option maxHeartbeats 4000000 in
theorem ok_q_law {f : Addr} {fd : FuncData} (F : Fun K "law" "law" s_q_law f fd) (T : Txt K mg) (C_q_cell_at : Cal P w K mg base "_law_cell_at" 1 2 F_q_cell_at) (C_q_many_spans : Cal P w K mg base "_law_many_spans" 4 1 F_q_many_spans) (C_q_sets : Cal P w K mg base "_law_sets" 3 1 F_q_sets) (C_q_borders : Cal P w K mg base "_law_borders" 1 1 F_q_borders) (C_q_told : Cal P w K mg base "_law_told" 2 2 F_q_told) (C_q_made : Cal P w K mg base "_law_made" 3 2 F_q_made) (C_q_chosen : Cal P w K mg base "_law_chosen" 2 2 F_q_chosen) (C_q_pairs : Cal P w K mg base "_law_pairs" 2 2 F_q_pairs) : FnOk P w K mg base (L2.CX P w) 5 f fd ["_law_script"] (SpT K 1 (runF 10 b_q_law)) := by
  refine fn_T2 (k := 4) F sc_q_law rfl rfl (fun cdv A outer s H E hr => ?_)
  conv => enter [3]; whnf
  exact (ssj_cons (sj_if (WJ.bj (wj_and (bj_cmp (op_eqD (hu64 hr)) opi_eq (ej_op op_mod opi_mod (ej_cal C_q_cell_at hr (by decide) hxB rfl (aj_cons (ej_var 0) (aj_cons ej_int aj_nil)) (fA_len (fA_len (fun _ _ h => fN_len h)))) ej_int) ej_int (nomk _)) (wj_and1 (bj_not (bj_call (ej_cal C_q_many_spans hr (by decide) hxB rfl (aj_cons (ej_cal C_q_cell_at hr (by decide) hxB rfl (aj_cons (ej_var 0) (aj_cons ej_int aj_nil)) (fA_len (fA_len (fun _ _ h => fN_len h)))) aj_nil) (fA_len (fun _ _ h => fN_len h))))))))
    (ssj_one (sj_ret ej_bl))
    ssj_nil)
    (ssj_cons (sj_setZ 1 (ej_cal C_q_sets hr (by decide) hxB rfl (aj_cons (ej_var 0) aj_nil) (fA_len (fun _ _ h => fN_len h))) sc_q_law.nd)
    (ssj_cons (sj_fg [6] (sj_setcompZ 2 [("_law_spans", 6)] rfl sc_q_law.nd (sw_tru2 rfl rfl rfl (by decide +kernel)) (fj_list (ej_var 1)) (blkOk_by (by decide +kernel : blkC ["_law_script", "_law_sets_here", "_law_kept_here", "_law_drawn", "_law_turns", "_law_end", "_law_spans", "_law_way", "_law_found", "_law_due"] (defScope s_q_law) _ _ = true)) (by decide) (fun _ _ _ _ _ => (gj_name 6 sc_q_law.nd)) (fun _ _ _ _ _ => tsj_nil) (fun _ _ _ _ _ => (ej_callTy call_list_of calli_list rfl T.n_list (by decide +kernel) (aj_cons (ej_var 6) aj_nil)))))
    (ssj_cons (sj_fg [0] (sj_setZ 3 (ej_op op_sub opi_sub (ej_op op_mod opi_mod (ej_cal C_q_cell_at hr (by decide) hxB rfl (aj_cons (ej_var 0) (aj_cons ej_int aj_nil)) (fA_len (fA_len (fun _ _ h => fN_len h)))) (ej_op op_pow opi_pow ej_int ej_int)) ej_int) sc_q_law.nd))
    (ssj_cons (sj_fg [3] (sj_setZ 4 (ej_lst (aj_cons (ej_var 3) (aj_cons (ej_neg ej_int) (aj_cons (ej_op op_mod opi_mod (ej_var 3) ej_int) aj_nil)))) sc_q_law.nd))
    (ssj_cons (sj_for poB rfl (fj_list (ej_slice (ej_cal C_q_borders hr (by decide) hxB rfl (aj_cons (ej_var 1) aj_nil) (fA_len (fun _ _ h => fN_len h))) oj_none (oj_some ej_int))) (gj_name 5 sc_q_law.nd)
    (ssj_fg [5] (ssj_one (sj_fg [5] (sj_setZ 4 (ej_op opr_add opi_add (ej_var 4) (ej_lst (aj_cons (ej_var 5) (aj_cons (ej_op op_sub opi_sub (ej_var 5) ej_int) aj_nil)))) sc_q_law.nd)))))
    (ssj_cons (sj_fg [4] (sj_for poB rfl (fj_list (ej_var 1)) (gj_name 6 sc_q_law.nd)
    (ssj_fg [6] (ssj_one (sj_fg [6] (sj_if (bj_not (bj_call (ej_cal C_q_told hr (by decide) hxB rfl (aj_cons (ej_var 6) (aj_cons (ej_var 4) aj_nil)) (fA_len (fA_len (fun _ _ h => fN_len h))))))
    (ssj_one (sj_ret ej_bl))
    ssj_nil))))))
    (ssj_cons (sj_fg [1, 2] (sj_for poB rfl (fj_range1 rfl T.n_range ej_int) (gj_name 7 sc_q_law.nd)
    (ssj_fg [7, 8, 9] (ssj_cons (sj_set 8 (ej_cal C_q_made hr (by decide) hxB rfl (aj_cons (ej_var 1) (aj_cons (ej_var 7) aj_nil)) (fA_len (fA_len (fun _ _ h => fN_len h)))) sc_q_law.nd)
    (ssj_cons (sj_setZ 9 (ej_cal C_q_chosen hr (by decide) hxB rfl (aj_cons (ej_var 1) (aj_cons (ej_var 7) aj_nil)) (fA_len (fA_len (fun _ _ h => fN_len h)))) sc_q_law.nd)
    (ssj_cons (sj_if (WJ.bj (wj_or (bj_not (bj_call (ej_cal C_q_pairs hr (by decide) hxB rfl (aj_cons (ej_var 8) (aj_cons (ej_var 9) aj_nil)) (fA_len (fA_len (fun _ _ h => fN_len h)))))) (wj_or1 (bj_cmp (op_neD (hu64 hr)) opi_ne (ej_var 1) (ej_var 2) (nomk _)))))
    (ssj_one (sj_ret ej_bl))
    ssj_nil)
    (ssj_cons (sj_fg [8] (sj_clr 8))
    (ssj_one (sj_fg [7, 9] (sj_if (WJ.bj (wj_or (bj_not (bj_call (ej_cal C_q_pairs hr (by decide) hxB rfl (aj_cons (ej_cal C_q_made hr (by decide) hxB rfl (aj_cons (ej_var 1) (aj_cons (ej_var 7) aj_nil)) (fA_len (fA_len (fun _ _ h => fN_len h)))) (aj_cons (ej_var 9) aj_nil)) (fA_len (fA_len (fun _ _ h => fN_len h)))))) (wj_or1 (bj_cmp (op_neD (hu64 hr)) opi_ne (ej_var 1) (ej_var 2) (nomk _)))))
    (ssj_one (sj_ret ej_bl))
    ssj_nil))))))))))
    (ssj_one (sj_ret ej_bl))))))))))
end
set_option maxHeartbeats 4000000 in
theorem all_mk {l : PySem.W.OpenLaw} {w : World} {K : PySem.W.Frag} {h : Heap} {mg : Str → Option Value} {fa f0 f1 f2 f3 f4 f5 f6 f7 f8 f9 f10 f11 f12 f13 f14 f15 f16 f17 f18 f19 f20 f21 f22 : Addr} (X : K.In h) (G : h.Ns mainGlobals mg) (hfa : mg "law" = some (.ref fa))
    {od0 an0 od1 an1 od2 an2 od3 an3 od4 an4 od5 an5 od6 an6 od7 an7 od8 an8 od9 an9 od10 an10 od11 an11 od12 an12 od13 an13 od14 an14 od15 an15 od16 an16 od17 an17 od18 an18 od19 an19 od20 an20 od21 an21 od22 an22 : Option Addr} {sl0 sl1 sl2 sl3 sl4 sl5 sl6 sl7 sl8 sl9 sl10 sl11 sl12 sl13 sl14 sl15 sl16 sl17 sl18 sl19 sl20 sl21 sl22 : Array (Option Value)} {oc0 kV0 dc0 pm0 cd0 ct0 oc1 kV1 dc1 pm1 cd1 ct1 oc2 kV2 dc2 pm2 cd2 ct2 oc3 kV3 dc3 pm3 cd3 ct3 oc4 kV4 dc4 pm4 cd4 ct4 oc5 kV5 dc5 pm5 cd5 ct5 oc6 kV6 dc6 pm6 cd6 ct6 oc7 kV7 dc7 pm7 cd7 ct7 oc8 kV8 dc8 pm8 cd8 ct8 oc9 kV9 dc9 pm9 cd9 ct9 oc10 kV10 dc10 pm10 cd10 ct10 oc11 kV11 dc11 pm11 cd11 ct11 oc12 kV12 dc12 pm12 cd12 ct12 oc13 kV13 dc13 pm13 cd13 ct13 oc14 kV14 dc14 pm14 cd14 ct14 oc15 kV15 dc15 pm15 cd15 ct15 oc16 kV16 dc16 pm16 cd16 ct16 oc17 kV17 dc17 pm17 cd17 ct17 oc18 kV18 dc18 pm18 cd18 ct18 oc19 kV19 dc19 pm19 cd19 ct19 oc20 kV20 dc20 pm20 cd20 ct20 oc21 kV21 dc21 pm21 cd21 ct21 oc22 kV22 dc22 pm22 cd22 ct22 : Value}
    (a0 : PySem.W.nsIn K mainGlobals "merged" = some (some (.ref f0)))
    (l0 : K.lookup f0 = some ⟨oc0, od0, .func (PySem.W.fnOf "merged" "merged" (defArgs s_merged) (defBody s_merged) (defScope s_merged) .none kV0 dc0 pm0 an0 cd0 ct0), sl0⟩)
    (c0 : PySem.W.codeIn K cd0 "merged" = true)
    (k0 : PySem.W.keepIn K (.ref f0) = true)
    (a1 : PySem.W.nsIn K mainGlobals "has_turn" = some (some (.ref f1)))
    (l1 : K.lookup f1 = some ⟨oc1, od1, .func (PySem.W.fnOf "has_turn" "has_turn" (defArgs s_has_turn) (defBody s_has_turn) (defScope s_has_turn) .none kV1 dc1 pm1 an1 cd1 ct1), sl1⟩)
    (c1 : PySem.W.codeIn K cd1 "has_turn" = true)
    (k1 : PySem.W.keepIn K (.ref f1) = true)
    (a2 : PySem.W.nsIn K mainGlobals "turn_count" = some (some (.ref f2)))
    (l2 : K.lookup f2 = some ⟨oc2, od2, .func (PySem.W.fnOf "turn_count" "turn_count" (defArgs s_turn_count) (defBody s_turn_count) (defScope s_turn_count) .none kV2 dc2 pm2 an2 cd2 ct2), sl2⟩)
    (c2 : PySem.W.codeIn K cd2 "turn_count" = true)
    (k2 : PySem.W.keepIn K (.ref f2) = true)
    (a3 : PySem.W.nsIn K mainGlobals "turn_count_in" = some (some (.ref f3)))
    (l3 : K.lookup f3 = some ⟨oc3, od3, .func (PySem.W.fnOf "turn_count_in" "turn_count_in" (defArgs s_turn_count_in) (defBody s_turn_count_in) (defScope s_turn_count_in) .none kV3 dc3 pm3 an3 cd3 ct3), sl3⟩)
    (c3 : PySem.W.codeIn K cd3 "turn_count_in" = true)
    (k3 : PySem.W.keepIn K (.ref f3) = true)
    (a4 : PySem.W.nsIn K mainGlobals "joined" = some (some (.ref f4)))
    (l4 : K.lookup f4 = some ⟨oc4, od4, .func (PySem.W.fnOf "joined" "joined" (defArgs s_joined) (defBody s_joined) (defScope s_joined) .none kV4 dc4 pm4 an4 cd4 ct4), sl4⟩)
    (c4 : PySem.W.codeIn K cd4 "joined" = true)
    (k4 : PySem.W.keepIn K (.ref f4) = true)
    (a5 : PySem.W.nsIn K mainGlobals "shared" = some (some (.ref f5)))
    (l5 : K.lookup f5 = some ⟨oc5, od5, .func (PySem.W.fnOf "shared" "shared" (defArgs s_shared) (defBody s_shared) (defScope s_shared) .none kV5 dc5 pm5 an5 cd5 ct5), sl5⟩)
    (c5 : PySem.W.codeIn K cd5 "shared" = true)
    (k5 : PySem.W.keepIn K (.ref f5) = true)
    (a6 : PySem.W.nsIn K mainGlobals "less" = some (some (.ref f6)))
    (l6 : K.lookup f6 = some ⟨oc6, od6, .func (PySem.W.fnOf "less" "less" (defArgs s_less) (defBody s_less) (defScope s_less) .none kV6 dc6 pm6 an6 cd6 ct6), sl6⟩)
    (c6 : PySem.W.codeIn K cd6 "less" = true)
    (k6 : PySem.W.keepIn K (.ref f6) = true)
    (a7 : PySem.W.nsIn K mainGlobals "_law_cell_at" = some (some (.ref f7)))
    (l7 : K.lookup f7 = some ⟨oc7, od7, .func (PySem.W.fnOf "_law_cell_at" "_law_cell_at" (defArgs s_q_cell_at) (defBody s_q_cell_at) (defScope s_q_cell_at) .none kV7 dc7 pm7 an7 cd7 ct7), sl7⟩)
    (c7 : PySem.W.codeIn K cd7 "_law_cell_at" = true)
    (k7 : PySem.W.keepIn K (.ref f7) = true)
    (a8 : PySem.W.nsIn K mainGlobals "_law_whole" = some (some (.ref f8)))
    (l8 : K.lookup f8 = some ⟨oc8, od8, .func (PySem.W.fnOf "_law_whole" "_law_whole" (defArgs s_q_whole) (defBody s_q_whole) (defScope s_q_whole) .none kV8 dc8 pm8 an8 cd8 ct8), sl8⟩)
    (c8 : PySem.W.codeIn K cd8 "_law_whole" = true)
    (k8 : PySem.W.keepIn K (.ref f8) = true)
    (a9 : PySem.W.nsIn K mainGlobals "_law_pairs" = some (some (.ref f9)))
    (l9 : K.lookup f9 = some ⟨oc9, od9, .func (PySem.W.fnOf "_law_pairs" "_law_pairs" (defArgs s_q_pairs) (defBody s_q_pairs) (defScope s_q_pairs) .none kV9 dc9 pm9 an9 cd9 ct9), sl9⟩)
    (c9 : PySem.W.codeIn K cd9 "_law_pairs" = true)
    (k9 : PySem.W.keepIn K (.ref f9) = true)
    (a10 : PySem.W.nsIn K mainGlobals "_law_mixed" = some (some (.ref f10)))
    (l10 : K.lookup f10 = some ⟨oc10, od10, .func (PySem.W.fnOf "_law_mixed" "_law_mixed" (defArgs s_q_mixed) (defBody s_q_mixed) (defScope s_q_mixed) .none kV10 dc10 pm10 an10 cd10 ct10), sl10⟩)
    (c10 : PySem.W.codeIn K cd10 "_law_mixed" = true)
    (k10 : PySem.W.keepIn K (.ref f10) = true)
    (a11 : PySem.W.nsIn K mainGlobals "_law_kept" = some (some (.ref f11)))
    (l11 : K.lookup f11 = some ⟨oc11, od11, .func (PySem.W.fnOf "_law_kept" "_law_kept" (defArgs s_q_kept) (defBody s_q_kept) (defScope s_q_kept) .none kV11 dc11 pm11 an11 cd11 ct11), sl11⟩)
    (c11 : PySem.W.codeIn K cd11 "_law_kept" = true)
    (k11 : PySem.W.keepIn K (.ref f11) = true)
    (a12 : PySem.W.nsIn K mainGlobals "_law_sets" = some (some (.ref f12)))
    (l12 : K.lookup f12 = some ⟨oc12, od12, .func (PySem.W.fnOf "_law_sets" "_law_sets" (defArgs s_q_sets) (defBody s_q_sets) (defScope s_q_sets) .none kV12 dc12 pm12 an12 cd12 ct12), sl12⟩)
    (c12 : PySem.W.codeIn K cd12 "_law_sets" = true)
    (k12 : PySem.W.keepIn K (.ref f12) = true)
    (a13 : PySem.W.nsIn K mainGlobals "_law_in" = some (some (.ref f13)))
    (l13 : K.lookup f13 = some ⟨oc13, od13, .func (PySem.W.fnOf "_law_in" "_law_in" (defArgs s_q_in) (defBody s_q_in) (defScope s_q_in) .none kV13 dc13 pm13 an13 cd13 ct13), sl13⟩)
    (c13 : PySem.W.codeIn K cd13 "_law_in" = true)
    (k13 : PySem.W.keepIn K (.ref f13) = true)
    (a14 : PySem.W.nsIn K mainGlobals "_law_borders" = some (some (.ref f14)))
    (l14 : K.lookup f14 = some ⟨oc14, od14, .func (PySem.W.fnOf "_law_borders" "_law_borders" (defArgs s_q_borders) (defBody s_q_borders) (defScope s_q_borders) .none kV14 dc14 pm14 an14 cd14 ct14), sl14⟩)
    (c14 : PySem.W.codeIn K cd14 "_law_borders" = true)
    (k14 : PySem.W.keepIn K (.ref f14) = true)
    (a15 : PySem.W.nsIn K mainGlobals "_law_chosen" = some (some (.ref f15)))
    (l15 : K.lookup f15 = some ⟨oc15, od15, .func (PySem.W.fnOf "_law_chosen" "_law_chosen" (defArgs s_q_chosen) (defBody s_q_chosen) (defScope s_q_chosen) .none kV15 dc15 pm15 an15 cd15 ct15), sl15⟩)
    (c15 : PySem.W.codeIn K cd15 "_law_chosen" = true)
    (k15 : PySem.W.keepIn K (.ref f15) = true)
    (a16 : PySem.W.nsIn K mainGlobals "_law_up_to" = some (some (.ref f16)))
    (l16 : K.lookup f16 = some ⟨oc16, od16, .func (PySem.W.fnOf "_law_up_to" "_law_up_to" (defArgs s_q_up_to) (defBody s_q_up_to) (defScope s_q_up_to) .none kV16 dc16 pm16 an16 cd16 ct16), sl16⟩)
    (c16 : PySem.W.codeIn K cd16 "_law_up_to" = true)
    (k16 : PySem.W.keepIn K (.ref f16) = true)
    (a17 : PySem.W.nsIn K mainGlobals "_law_told" = some (some (.ref f17)))
    (l17 : K.lookup f17 = some ⟨oc17, od17, .func (PySem.W.fnOf "_law_told" "_law_told" (defArgs s_q_told) (defBody s_q_told) (defScope s_q_told) .none kV17 dc17 pm17 an17 cd17 ct17), sl17⟩)
    (c17 : PySem.W.codeIn K cd17 "_law_told" = true)
    (k17 : PySem.W.keepIn K (.ref f17) = true)
    (a18 : PySem.W.nsIn K mainGlobals "_law_made" = some (some (.ref f18)))
    (l18 : K.lookup f18 = some ⟨oc18, od18, .func (PySem.W.fnOf "_law_made" "_law_made" (defArgs s_q_made) (defBody s_q_made) (defScope s_q_made) .none kV18 dc18 pm18 an18 cd18 ct18), sl18⟩)
    (c18 : PySem.W.codeIn K cd18 "_law_made" = true)
    (k18 : PySem.W.keepIn K (.ref f18) = true)
    (a19 : PySem.W.nsIn K mainGlobals "_law_wide" = some (some (.ref f19)))
    (l19 : K.lookup f19 = some ⟨oc19, od19, .func (PySem.W.fnOf "_law_wide" "_law_wide" (defArgs s_q_wide) (defBody s_q_wide) (defScope s_q_wide) .none kV19 dc19 pm19 an19 cd19 ct19), sl19⟩)
    (c19 : PySem.W.codeIn K cd19 "_law_wide" = true)
    (k19 : PySem.W.keepIn K (.ref f19) = true)
    (a20 : PySem.W.nsIn K mainGlobals "_law_by_turns" = some (some (.ref f20)))
    (l20 : K.lookup f20 = some ⟨oc20, od20, .func (PySem.W.fnOf "_law_by_turns" "_law_by_turns" (defArgs s_q_by_turns) (defBody s_q_by_turns) (defScope s_q_by_turns) .none kV20 dc20 pm20 an20 cd20 ct20), sl20⟩)
    (c20 : PySem.W.codeIn K cd20 "_law_by_turns" = true)
    (k20 : PySem.W.keepIn K (.ref f20) = true)
    (a21 : PySem.W.nsIn K mainGlobals "_law_many_spans" = some (some (.ref f21)))
    (l21 : K.lookup f21 = some ⟨oc21, od21, .func (PySem.W.fnOf "_law_many_spans" "_law_many_spans" (defArgs s_q_many_spans) (defBody s_q_many_spans) (defScope s_q_many_spans) .none kV21 dc21 pm21 an21 cd21 ct21), sl21⟩)
    (c21 : PySem.W.codeIn K cd21 "_law_many_spans" = true)
    (k21 : PySem.W.keepIn K (.ref f21) = true)
    (a22 : PySem.W.nsIn K mainGlobals "law" = some (some (.ref f22)))
    (l22 : K.lookup f22 = some ⟨oc22, od22, .func (PySem.W.fnOf "law" "law" (defArgs s_q_law) (defBody s_q_law) (defScope s_q_law) .none kV22 dc22 pm22 an22 cd22 ct22), sl22⟩)
    (c22 : PySem.W.codeIn K cd22 "law" = true)
    (k22 : PySem.W.keepIn K (.ref f22) = true)
    (z0 : PySem.W.nsIn K mainGlobals "any" = some none)
    (z1 : PySem.W.nsIn K mainGlobals "bool" = some none)
    (z2 : PySem.W.nsIn K mainGlobals "enumerate" = some none)
    (z3 : PySem.W.nsIn K mainGlobals "int" = some none)
    (z4 : PySem.W.nsIn K mainGlobals "isinstance" = some none)
    (z5 : PySem.W.nsIn K mainGlobals "len" = some none)
    (z6 : PySem.W.nsIn K mainGlobals "list" = some none)
    (z7 : PySem.W.nsIn K mainGlobals "max" = some none)
    (z8 : PySem.W.nsIn K mainGlobals "min" = some none)
    (z9 : PySem.W.nsIn K mainGlobals "range" = some none)
    (z10 : PySem.W.nsIn K mainGlobals "sorted" = some none)
    (z11 : PySem.W.nsIn K mainGlobals "sum" = some none)
    (z12 : PySem.W.nsIn K mainGlobals "tuple" = some none)
    (z13 : PySem.W.nsIn K mainGlobals "zip" = some none)
    (hF : ∀ ns : List Int, ns.length ≤ 63 → F_q_law [.scr ns] = .ok (.sh (.bl true))) :
    ∃ fd : FuncData, (∀ (s : Shared) (v : Value), BindsTo s fd ⟨[v], []⟩ [("_law_script", v)]) ∧ ∀ base : Heap, K.In base → base.Ns mainGlobals mg → FnOk l.prog w K mg base (L2.CX l.prog w) 5 fa fd ["_law_script"] (spLaw K) := by
  have e := hfa.symm.trans (PySem.W.mg_of X G a22)
  cases e
  have T : Txt K mg := ⟨PySem.W.mg_none_of X G z0, PySem.W.mg_none_of X G z1, PySem.W.mg_none_of X G z2, PySem.W.mg_none_of X G z3, PySem.W.mg_none_of X G z4, PySem.W.mg_none_of X G z5, PySem.W.mg_none_of X G z6, PySem.W.mg_none_of X G z7, PySem.W.mg_none_of X G z8, PySem.W.mg_none_of X G z9, PySem.W.mg_none_of X G z10, PySem.W.mg_none_of X G z11, PySem.W.mg_none_of X G z12, PySem.W.mg_none_of X G z13, trivial⟩
  have Fu0 := fun_mk (st := s_merged) l0 c0 k0
  have Fu1 := fun_mk (st := s_has_turn) l1 c1 k1
  have Fu2 := fun_mk (st := s_turn_count) l2 c2 k2
  have Fu3 := fun_mk (st := s_turn_count_in) l3 c3 k3
  have Fu4 := fun_mk (st := s_joined) l4 c4 k4
  have Fu5 := fun_mk (st := s_shared) l5 c5 k5
  have Fu6 := fun_mk (st := s_less) l6 c6 k6
  have Fu7 := fun_mk (st := s_q_cell_at) l7 c7 k7
  have Fu8 := fun_mk (st := s_q_whole) l8 c8 k8
  have Fu9 := fun_mk (st := s_q_pairs) l9 c9 k9
  have Fu10 := fun_mk (st := s_q_mixed) l10 c10 k10
  have Fu11 := fun_mk (st := s_q_kept) l11 c11 k11
  have Fu12 := fun_mk (st := s_q_sets) l12 c12 k12
  have Fu13 := fun_mk (st := s_q_in) l13 c13 k13
  have Fu14 := fun_mk (st := s_q_borders) l14 c14 k14
  have Fu15 := fun_mk (st := s_q_chosen) l15 c15 k15
  have Fu16 := fun_mk (st := s_q_up_to) l16 c16 k16
  have Fu17 := fun_mk (st := s_q_told) l17 c17 k17
  have Fu18 := fun_mk (st := s_q_made) l18 c18 k18
  have Fu19 := fun_mk (st := s_q_wide) l19 c19 k19
  have Fu20 := fun_mk (st := s_q_by_turns) l20 c20 k20
  have Fu21 := fun_mk (st := s_q_many_spans) l21 c21 k21
  have Fu22 := fun_mk (st := s_q_law) l22 c22 k22
  refine ⟨PySem.W.fnOf "law" "law" (defArgs s_q_law) (defBody s_q_law) (defScope s_q_law) .none kV22 dc22 pm22 an22 cd22 ct22, fun s v => .of_eq rfl, fun base _ _ => ?_⟩
  have C_merged : Cal l.prog w K mg base "merged" 1 1 F_merged := cal_mk Fu0 (PySem.W.mg_of X G a0) (Fu0.binds (ps := ["rows"]) fun _ _ _ _ _ _ us hl => match us, hl with | [_], _ => rfl) (ok_merged Fu0 T )
  have C_has_turn : Cal l.prog w K mg base "has_turn" 1 2 F_has_turn := cal_mk Fu1 (PySem.W.mg_of X G a1) (Fu1.binds (ps := ["spans", "turn"]) fun _ _ _ _ _ _ us hl => match us, hl with | [_, _], _ => rfl) (ok_has_turn Fu1 T )
  have C_turn_count : Cal l.prog w K mg base "turn_count" 1 1 F_turn_count := cal_mk Fu2 (PySem.W.mg_of X G a2) (Fu2.binds (ps := ["spans"]) fun _ _ _ _ _ _ us hl => match us, hl with | [_], _ => rfl) (ok_turn_count Fu2 T )
  have C_turn_count_in : Cal l.prog w K mg base "turn_count_in" 1 3 F_turn_count_in := cal_mk Fu3 (PySem.W.mg_of X G a3) (Fu3.binds (ps := ["spans", "first", "last"]) fun _ _ _ _ _ _ us hl => match us, hl with | [_, _, _], _ => rfl) (ok_turn_count_in Fu3 T )
  have C_joined : Cal l.prog w K mg base "joined" 2 2 F_joined := cal_mk Fu4 (PySem.W.mg_of X G a4) (Fu4.binds (ps := ["one", "other"]) fun _ _ _ _ _ _ us hl => match us, hl with | [_, _], _ => rfl) (ok_joined Fu4 T C_merged)
  have C_shared : Cal l.prog w K mg base "shared" 1 2 F_shared := cal_mk Fu5 (PySem.W.mg_of X G a5) (Fu5.binds (ps := ["one", "other"]) fun _ _ _ _ _ _ us hl => match us, hl with | [_, _], _ => rfl) (ok_shared Fu5 T )
  have C_less : Cal l.prog w K mg base "less" 1 2 F_less := cal_mk Fu6 (PySem.W.mg_of X G a6) (Fu6.binds (ps := ["one", "other"]) fun _ _ _ _ _ _ us hl => match us, hl with | [_, _], _ => rfl) (ok_less Fu6 T )
  have C_q_cell_at : Cal l.prog w K mg base "_law_cell_at" 1 2 F_q_cell_at := cal_mk Fu7 (PySem.W.mg_of X G a7) (Fu7.binds (ps := ["_law_script", "_law_k"]) fun _ _ _ _ _ _ us hl => match us, hl with | [_, _], _ => rfl) (ok_q_cell_at Fu7 T )
  have C_q_whole : Cal l.prog w K mg base "_law_whole" 1 2 F_q_whole := cal_mk Fu8 (PySem.W.mg_of X G a8) (Fu8.binds (ps := ["_law_found", "_law_due"]) fun _ _ _ _ _ _ us hl => match us, hl with | [_, _], _ => rfl) (ok_q_whole Fu8 T )
  have C_q_pairs : Cal l.prog w K mg base "_law_pairs" 2 2 F_q_pairs := cal_mk Fu9 (PySem.W.mg_of X G a9) (Fu9.binds (ps := ["_law_found", "_law_due"]) fun _ _ _ _ _ _ us hl => match us, hl with | [_, _], _ => rfl) (ok_q_pairs Fu9 T C_q_whole)
  have C_q_mixed : Cal l.prog w K mg base "_law_mixed" 1 2 F_q_mixed := cal_mk Fu10 (PySem.W.mg_of X G a10) (Fu10.binds (ps := ["_law_cell", "_law_k"]) fun _ _ _ _ _ _ us hl => match us, hl with | [_, _], _ => rfl) (ok_q_mixed Fu10 T )
  have C_q_kept : Cal l.prog w K mg base "_law_kept" 2 3 F_q_kept := cal_mk Fu11 (PySem.W.mg_of X G a11) (Fu11.binds (ps := ["_law_script", "_law_start", "_law_many"]) fun _ _ _ _ _ _ us hl => match us, hl with | [_, _, _], _ => rfl) (ok_q_kept Fu11 T C_q_cell_at C_q_mixed)
  have C_q_sets : Cal l.prog w K mg base "_law_sets" 3 1 F_q_sets := cal_mk Fu12 (PySem.W.mg_of X G a12) (Fu12.binds (ps := ["_law_script"]) fun _ _ _ _ _ _ us hl => match us, hl with | [_], _ => rfl) (ok_q_sets Fu12 T C_q_cell_at C_q_kept)
  have C_q_in : Cal l.prog w K mg base "_law_in" 1 2 F_q_in := cal_mk Fu13 (PySem.W.mg_of X G a13) (Fu13.binds (ps := ["_law_spans", "_law_turn"]) fun _ _ _ _ _ _ us hl => match us, hl with | [_, _], _ => rfl) (ok_q_in Fu13 T )
  have C_q_borders : Cal l.prog w K mg base "_law_borders" 1 1 F_q_borders := cal_mk Fu14 (PySem.W.mg_of X G a14) (Fu14.binds (ps := ["_law_sets_here"]) fun _ _ _ _ _ _ us hl => match us, hl with | [_], _ => rfl) (ok_q_borders Fu14 T )
  have C_q_chosen : Cal l.prog w K mg base "_law_chosen" 2 2 F_q_chosen := cal_mk Fu15 (PySem.W.mg_of X G a15) (Fu15.binds (ps := ["_law_sets_here", "_law_way"]) fun _ _ _ _ _ _ us hl => match us, hl with | [_, _], _ => rfl) (ok_q_chosen Fu15 T C_q_borders C_q_in)
  have C_q_up_to : Cal l.prog w K mg base "_law_up_to" 1 2 F_q_up_to := cal_mk Fu16 (PySem.W.mg_of X G a16) (Fu16.binds (ps := ["_law_spans", "_law_turn"]) fun _ _ _ _ _ _ us hl => match us, hl with | [_, _], _ => rfl) (ok_q_up_to Fu16 T )
  have C_q_told : Cal l.prog w K mg base "_law_told" 2 2 F_q_told := cal_mk Fu17 (PySem.W.mg_of X G a17) (Fu17.binds (ps := ["_law_spans", "_law_turns"]) fun _ _ _ _ _ _ us hl => match us, hl with | [_, _], _ => rfl) (ok_q_told Fu17 T C_has_turn C_q_in C_turn_count C_q_whole C_q_up_to C_turn_count_in)
  have C_q_made : Cal l.prog w K mg base "_law_made" 3 2 F_q_made := cal_mk Fu18 (PySem.W.mg_of X G a18) (Fu18.binds (ps := ["_law_sets_here", "_law_way"]) fun _ _ _ _ _ _ us hl => match us, hl with | [_, _], _ => rfl) (ok_q_made Fu18 T C_joined C_shared C_less)
  have C_q_wide : Cal l.prog w K mg base "_law_wide" 2 3 F_q_wide := cal_mk Fu19 (PySem.W.mg_of X G a19) (Fu19.binds (ps := ["_law_cell", "_law_start", "_law_many"]) fun _ _ _ _ _ _ us hl => match us, hl with | [_, _, _], _ => rfl) (ok_q_wide Fu19 T C_q_mixed)
  have C_q_by_turns : Cal l.prog w K mg base "_law_by_turns" 1 2 F_q_by_turns := cal_mk Fu20 (PySem.W.mg_of X G a20) (Fu20.binds (ps := ["_law_sets_here", "_law_way"]) fun _ _ _ _ _ _ us hl => match us, hl with | [_, _], _ => rfl) (ok_q_by_turns Fu20 T )
  have C_q_many_spans : Cal l.prog w K mg base "_law_many_spans" 4 1 F_q_many_spans := cal_mk Fu21 (PySem.W.mg_of X G a21) (Fu21.binds (ps := ["_law_cell"]) fun _ _ _ _ _ _ us hl => match us, hl with | [_], _ => rfl) (ok_q_many_spans Fu21 T C_q_wide C_q_by_turns C_q_made C_q_pairs C_turn_count C_q_whole)
  exact law_T (ok_q_law Fu22 T C_q_cell_at C_q_many_spans C_q_sets C_q_borders C_q_told C_q_made C_q_chosen C_q_pairs) hF
theorem walk {l : PySem.W.OpenLaw} {q : Program} {loose : List Str} {XP : (Str → Option Value) → Heap → Prop} {YP : World → Heap → Prop} {d : DefRec} {K : Params → PySem.W.Frag} (hn : l.most = some 63) (hdf : d.params.defaults = [])
    (hY : ∀ (w : World) (h : Heap), YP w h → (K w.params).In h)
    (F : ∀ (w : World) (mg : Str → Option Value) (fa : Addr) (h : Heap), (K w.params).In h → h.Ns mainGlobals mg → mg d.name = some (.ref fa) →
      ∃ fd : FuncData, (∀ (s : Shared) (u : Value), BindsTo s fd ⟨[u], []⟩ [("_law_script", u)]) ∧ ∀ base : Heap, (K w.params).In base → base.Ns mainGlobals mg → FnOk l.prog w (K w.params) mg base (L2.CX l.prog w) 5 fa fd ["_law_script"] (spLaw (K w.params))) :
    PySem.W.WalkO q loose XP YP l.row.toRowW d [] (fun f vs => PySem.call f vs) :=
  L2.walk_of (n := 63) (k := 5) (x := "_law_script") (CX := fun w => L2.CX l.prog w) (sp := fun w => spLaw (K w.params)) hn (by decide) hdf ⟨rfl, by decide, by decide⟩ hY F (fun _ _ a ns hl _ hS => ⟨a, ns, rfl, hS, hl, fun _ => rfl⟩) fun _ _ _ _ _ z => by
    obtain ⟨_, _, _, _, _, _, _, _, _, _, _, _, z⟩ := z
    exact z.elim
end K02
open PySem PySem.W PyProof.Rows in
set_option maxRecDepth 100000 in
set_option maxHeartbeats 0 in
theorem PySem.Challenge.cw_dueyard_k02_sets_of_turns_holds : PySem.Challenge.rw_dueyard_k02_sets_of_turns.Holds := by
  w_on; o_law; k_head; (case hw => w_witness2)
  k_fill
  refine K02.walk (l := PySem.Challenge.rw_dueyard_k02_sets_of_turns) rfl rfl (fun w h Y => PySem.W.kIn_of Y) ?F
  case F =>
    intro w mg fa h KX G hmg
    refine' K02.all_mk KX G hmg ?a0 ?l0 ?c0 ?k0 ?a1 ?l1 ?c1 ?k1 ?a2 ?l2 ?c2 ?k2 ?a3 ?l3 ?c3 ?k3 ?a4 ?l4 ?c4 ?k4 ?a5 ?l5 ?c5 ?k5 ?a6 ?l6 ?c6 ?k6 ?a7 ?l7 ?c7 ?k7 ?a8 ?l8 ?c8 ?k8 ?a9 ?l9 ?c9 ?k9 ?a10 ?l10 ?c10 ?k10 ?a11 ?l11 ?c11 ?k11 ?a12 ?l12 ?c12 ?k12 ?a13 ?l13 ?c13 ?k13 ?a14 ?l14 ?c14 ?k14 ?a15 ?l15 ?c15 ?k15 ?a16 ?l16 ?c16 ?k16 ?a17 ?l17 ?c17 ?k17 ?a18 ?l18 ?c18 ?k18 ?a19 ?l19 ?c19 ?k19 ?a20 ?l20 ?c20 ?k20 ?a21 ?l21 ?c21 ?k21 ?a22 ?l22 ?c22 ?k22 ?z0 ?z1 ?z2 ?z3 ?z4 ?z5 ?z6 ?z7 ?z8 ?z9 ?z10 ?z11 ?z12 ?z13 ?hF
    (case a0 => k_is)
    (case l0 => k_is)
    (case c0 => k_is)
    (case k0 => k_is)
    (case a1 => k_is)
    (case l1 => k_is)
    (case c1 => k_is)
    (case k1 => k_is)
    (case a2 => k_is)
    (case l2 => k_is)
    (case c2 => k_is)
    (case k2 => k_is)
    (case a3 => k_is)
    (case l3 => k_is)
    (case c3 => k_is)
    (case k3 => k_is)
    (case a4 => k_is)
    (case l4 => k_is)
    (case c4 => k_is)
    (case k4 => k_is)
    (case a5 => k_is)
    (case l5 => k_is)
    (case c5 => k_is)
    (case k5 => k_is)
    (case a6 => k_is)
    (case l6 => k_is)
    (case c6 => k_is)
    (case k6 => k_is)
    (case a7 => k_is)
    (case l7 => k_is)
    (case c7 => k_is)
    (case k7 => k_is)
    (case a8 => k_is)
    (case l8 => k_is)
    (case c8 => k_is)
    (case k8 => k_is)
    (case a9 => k_is)
    (case l9 => k_is)
    (case c9 => k_is)
    (case k9 => k_is)
    (case a10 => k_is)
    (case l10 => k_is)
    (case c10 => k_is)
    (case k10 => k_is)
    (case a11 => k_is)
    (case l11 => k_is)
    (case c11 => k_is)
    (case k11 => k_is)
    (case a12 => k_is)
    (case l12 => k_is)
    (case c12 => k_is)
    (case k12 => k_is)
    (case a13 => k_is)
    (case l13 => k_is)
    (case c13 => k_is)
    (case k13 => k_is)
    (case a14 => k_is)
    (case l14 => k_is)
    (case c14 => k_is)
    (case k14 => k_is)
    (case a15 => k_is)
    (case l15 => k_is)
    (case c15 => k_is)
    (case k15 => k_is)
    (case a16 => k_is)
    (case l16 => k_is)
    (case c16 => k_is)
    (case k16 => k_is)
    (case a17 => k_is)
    (case l17 => k_is)
    (case c17 => k_is)
    (case k17 => k_is)
    (case a18 => k_is)
    (case l18 => k_is)
    (case c18 => k_is)
    (case k18 => k_is)
    (case a19 => k_is)
    (case l19 => k_is)
    (case c19 => k_is)
    (case k19 => k_is)
    (case a20 => k_is)
    (case l20 => k_is)
    (case c20 => k_is)
    (case k20 => k_is)
    (case a21 => k_is)
    (case l21 => k_is)
    (case c21 => k_is)
    (case k21 => k_is)
    (case a22 => k_is)
    (case l22 => k_is)
    (case c22 => k_is)
    (case k22 => k_is)
    (case z0 => k_is)
    (case z1 => k_is)
    (case z2 => k_is)
    (case z3 => k_is)
    (case z4 => k_is)
    (case z5 => k_is)
    (case z6 => k_is)
    (case z7 => k_is)
    (case z8 => k_is)
    (case z9 => k_is)
    (case z10 => k_is)
    (case z11 => k_is)
    (case z12 => k_is)
    (case z13 => k_is)
    (case hF => exact K02.law_true)
