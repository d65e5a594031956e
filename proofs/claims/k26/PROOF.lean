import PyProof.Rows.All
import Wide.All
import OpenK.AllK
import Wide.FinOn
import HandS.ForMost
import HandS.Exc
import HandS.TupAny
import HandS.Walk
import HandS.Defaults
import HandS.WordsExc
import HandS.ClsMeth
import HandS.Star
import HandS.DictComp
import HandS.Conv
import HandS.Flow
import HandS.IsInst
import HandS.ExcInit
import HandS.ExcSuper
import KE.KExcSuper
import KE.KSuper
import HandS.ExcIs
import HandS.ExcField
import HandS.TryMany
import HandS.Deep
import KE.SortData
import HandS.Iter
import KE.GoesEnum
import HandS.More
import HandS.WordsDict
import HandS.Text
import HandS.TupMul
import HandS.Rev
import HandS.RevTup
import KE.KDictList
import HandS.HeadHook2
import HandS.HeadHook3
import HandS.Head0
import HandS.Head1
import HandS.Head2
import HandS.HeadEnd
import HandS.HeadHook1
import KE.DatumOrd
import KE.DatumMoreOrd
import PySem.Challenge.RW_netwright_k26_steps_by_sums
set_option Elab.async false
set_option linter.all false
set_option maxRecDepth 100000
set_option maxHeartbeats 4000000
/-! Immutable data, what stands for it in the abstract heap, and the symbolic heap: R the data that are known, L the objects that are owned. -/
namespace Nw
open PySem L2

/-- a value as a whole: a scalar, a list, a tuple, a dict, an instance with its fields -/
inductive D where
  | sc (x : V)
  | lst (xs : List D)
  | tup (xs : List D)
  | dct (kvs : List (Key × D))
  | obj (C : Addr) (fs : List (PySem.Str × D))

abbrev D.int (i : Int) : D := .sc (.int i)
abbrev D.str (z : PySem.Str) : D := .sc (.str z)
abbrev D.bl (b : Bool) : D := .sc (.bl b)

inductive Rep (B : Hp) : D → V → Prop
  | sc {x : V} : Rep B (.sc x) x
  | lst {a : Addr} {xs : List V} {ds : List D} : Rd B a (.lst xs) → xs.length = ds.length → (∀ (i : Nat) d x, ds[i]? = some d → xs[i]? = some x → Rep B d x) → Rep B (.lst ds) (.ref a)
  | tup {a : Addr} {xs : List V} {ds : List D} : Rd B a (.tup xs) → xs.length = ds.length → (∀ (i : Nat) d x, ds[i]? = some d → xs[i]? = some x → Rep B d x) → Rep B (.tup ds) (.ref a)
  | dct {a : Addr} {kvs : List (Key × V)} {ds : List (Key × D)} : Rd B a (.dK kvs) → kvs.map (·.1) = ds.map (·.1) → (∀ (i : Nat) p q, ds[i]? = some p → kvs[i]? = some q → Rep B p.2 q.2) → Rep B (.dct ds) (.ref a)
  | obj {a C dx : Addr} {fs : List (PySem.Str × V)} {ds : List (PySem.Str × D)} : B a = some (.ins C dx fs) → fs.map (·.1) = ds.map (·.1) → (∀ (i : Nat) p q, ds[i]? = some p → fs[i]? = some q → Rep B p.2 q.2) → Rep B (.obj C ds) (.ref a)

def pl : HO → Bool
  | .lst _ => true
  | .tup _ => true
  | .dK _ => true
  | _ => false
/-- what is read stays to be read -/
structure Ext (B B' : Hp) : Prop where
  rd : ∀ a u, pl u = true → Rd B a u → Rd B' a u
  ins : ∀ a C dx fs, B a = some (.ins C dx fs) → B' a = some (.ins C dx fs)
theorem Ext.refl (B : Hp) : Ext B B := ⟨fun _ _ _ h => h, fun _ _ _ _ h => h⟩
theorem Ext.trans {A B C : Hp} (e : Ext A B) (f : Ext B C) : Ext A C := ⟨fun a u p h => f.rd a u p (e.rd a u p h), fun a C dx fs h => f.ins a C dx fs (e.ins a C dx fs h)⟩
theorem Ext.of {B B' : Hp} (h : ∀ a o, B a = some o → B' a = some o) : Ext B B' :=
  ⟨fun a u _ r => r.elim (fun e => .inl (h a u e)) fun ⟨o, e⟩ => .inr ⟨o, h a _ e⟩, fun a _ _ _ e => h a _ e⟩
theorem Ext.swap {B : Hp} {d : Addr} {u u' : HO} (h : B d = some u) (hi : ∀ C dx fs, u ≠ .ins C dx fs) (k : ∀ w, pl w = true → Rd B d w → Rd (upd B d u') d w) : Ext B (upd B d u') := by
  refine ⟨fun a w p r => ?_, fun a C dx fs e => ?_⟩
  · by_cases z : a = d
    · subst z
      exact k w p r
    · unfold Rd
      rw [upd_ne z]
      exact r
  · rw [upd_ne (fun z => by rw [z, h] at e; exact hi _ _ _ (Option.some.inj e))]
    exact e
theorem Ext.lock {B : Hp} {d : Addr} {o : Obj} {kvs : List (Key × V)} (h : B d = some (.dK kvs)) : Ext B (upd B d (.frz o (.dK kvs))) := by
  refine .swap h (fun _ _ _ z => nomatch z) fun w _ r => ?_
  rcases r with e | ⟨o', e⟩
  · rw [h] at e
    cases e
    exact .inr ⟨o, upd_same⟩
  · rw [h] at e
    cases e
theorem Ext.unlock {B : Hp} {d : Addr} {o : Obj} {kvs : List (Key × V)} (h : B d = some (.frz o (.dK kvs))) : Ext B (upd B d (.dK kvs)) := by
  refine .swap h (fun _ _ _ z => nomatch z) fun w p r => ?_
  rcases r with e | ⟨o', e⟩
  · rw [h] at e
    cases e
    cases p
  · rw [h] at e
    cases e
    exact .inl upd_same
theorem Rep.mono {B B' : Hp} (e : Ext B B') {d : D} {v : V} (h : Rep B d v) : Rep B' d v := by
  induction h with
  | sc => exact .sc
  | lst h1 h2 _ ih => exact .lst (e.rd _ _ rfl h1) h2 ih
  | tup h1 h2 _ ih => exact .tup (e.rd _ _ rfl h1) h2 ih
  | dct h1 h2 _ ih => exact .dct (e.rd _ _ rfl h1) h2 ih
  | obj h1 h2 _ ih => exact .obj (e.ins _ _ _ _ h1) h2 ih

/-! ### inversions -/
theorem Rep.sc_eq {B : Hp} {x v : V} (h : Rep B (.sc x) v) : v = x := by cases h; rfl
theorem Rep.lst_of {B : Hp} {ds : List D} {v : V} (h : Rep B (.lst ds) v) : ∃ a xs, v = .ref a ∧ Rd B a (.lst xs) ∧ xs.length = ds.length ∧ ∀ (i : Nat) d x, ds[i]? = some d → xs[i]? = some x → Rep B d x := by
  cases h with
  | lst h1 h2 h3 => exact ⟨_, _, rfl, h1, h2, h3⟩
theorem Rep.tup_of {B : Hp} {ds : List D} {v : V} (h : Rep B (.tup ds) v) : ∃ a xs, v = .ref a ∧ Rd B a (.tup xs) ∧ xs.length = ds.length ∧ ∀ (i : Nat) d x, ds[i]? = some d → xs[i]? = some x → Rep B d x := by
  cases h with
  | tup h1 h2 h3 => exact ⟨_, _, rfl, h1, h2, h3⟩
theorem Rep.dct_of {B : Hp} {ds : List (Key × D)} {v : V} (h : Rep B (.dct ds) v) : ∃ a kvs, v = .ref a ∧ Rd B a (.dK kvs) ∧ kvs.map (·.1) = ds.map (·.1) ∧ ∀ (i : Nat) p q, ds[i]? = some p → kvs[i]? = some q → Rep B p.2 q.2 := by
  cases h with
  | dct h1 h2 h3 => exact ⟨_, _, rfl, h1, h2, h3⟩
theorem Rep.obj_of {B : Hp} {C : Addr} {ds : List (PySem.Str × D)} {v : V} (h : Rep B (.obj C ds) v) : ∃ a dx fs, v = .ref a ∧ B a = some (.ins C dx fs) ∧ fs.map (·.1) = ds.map (·.1) ∧ ∀ (i : Nat) p q, ds[i]? = some p → fs[i]? = some q → Rep B p.2 q.2 := by
  cases h with
  | obj h1 h2 h3 => exact ⟨_, _, _, rfl, h1, h2, h3⟩

/-! ### owned objects -/
inductive OD where
  | lst (xs : List D)
  | dct (kvs : List (Key × D))
  | ins (C : Addr) (fs : List (PySem.Str × D))
  | xd (fs : List (PySem.Str × D))
  | lck (o : Obj) (kvs : List (Key × V))
/-- the items stand for the data, one by one -/
def Reps (B : Hp) (ds : List D) (xs : List V) : Prop := xs.length = ds.length ∧ ∀ (i : Nat) d x, ds[i]? = some d → xs[i]? = some x → Rep B d x
def RepsK {κ : Type} (B : Hp) (ds : List (κ × D)) (xs : List (κ × V)) : Prop := xs.map (·.1) = ds.map (·.1) ∧ ∀ (i : Nat) p q, ds[i]? = some p → xs[i]? = some q → Rep B p.2 q.2
/-- the object o at p is what od tells -/
def OwnOk (B H : Hp) (p : Addr) : OD → HO → Prop
  | .lst ds, o => ∃ xs, o = .lst xs ∧ Reps B ds xs
  | .dct ds, o => ∃ kvs, o = .dK kvs ∧ RepsK B ds kvs
  | .ins C ds, o => ∃ dx fs, o = .ins C dx fs ∧ H dx = some (.own p) ∧ B dx = none ∧ RepsK B ds fs
  | .xd ds, o => ∃ fs, o = .xd fs ∧ RepsK B ds fs
  | .lck _ _, _ => False
/-- owned, or a dict of the ground that is walked through -/
def Own1 (B H : Hp) (p : Addr) (od : OD) : Prop := (∃ o kvs, od = .lck o kvs ∧ B p = some (.frz o (.dK kvs))) ∨ (B p = none ∧ ∃ o, H p = some o ∧ OwnOk B H p od o)
structure Own (B H : Hp) (L : List (Addr × OD)) : Prop where
  nd : (L.map (·.1)).Nodup
  lk : ∀ a o kvs, B a = some (.frz o (.dK kvs)) → (a, OD.lck o kvs) ∈ L
  at_ : ∀ p od, (p, od) ∈ L → Own1 B H p od
/-- the symbolic heap -/
def At (R : List (D × V)) (L : List (Addr × OD)) (H : Hp) : Prop :=
  ∃ B : Hp, (∀ a o, B a = some o → H a = some o) ∧ (∀ d v, (d, v) ∈ R → Rep B d v) ∧ Own B H L
end Nw
set_option maxRecDepth 100000
set_option maxHeartbeats 4000000
namespace Nw
open PySem L2

abbrev RL := List (D × V)
abbrev LL := List (Addr × OD)
/-- d is known of v: a scalar, or told in R -/
inductive InR (R : RL) : D → V → Prop
  | sc {x : V} : InR R (.sc x) x
  | mem {d : D} {v : V} : (d, v) ∈ R → InR R d v
theorem InR.rep {R : RL} {B : Hp} (r : ∀ d v, (d, v) ∈ R → Rep B d v) {d : D} {v : V} (h : InR R d v) : Rep B d v := by
  cases h with
  | sc => exact .sc
  | mem m => exact r _ _ m
inductive AllR (R : RL) : List D → List V → Prop
  | nil : AllR R [] []
  | cons {d : D} {v : V} {ds : List D} {vs : List V} : InR R d v → AllR R ds vs → AllR R (d :: ds) (v :: vs)
theorem AllR.len {R : RL} {ds : List D} {vs : List V} (h : AllR R ds vs) : vs.length = ds.length := by
  induction h with
  | nil => rfl
  | cons _ _ ih => simp [ih]
theorem AllR.get {R : RL} {ds : List D} {vs : List V} (h : AllR R ds vs) : ∀ (i : Nat) d x, ds[i]? = some d → vs[i]? = some x → InR R d x := by
  induction h with
  | nil => intro i d x e; simp at e
  | cons h1 _ ih =>
    intro i d x e1 e2
    cases i with
    | zero =>
      simp at e1 e2
      rw [← e1, ← e2]
      exact h1
    | succ i => exact ih i d x (by simpa using e1) (by simpa using e2)
theorem AllR.reps {R : RL} {B : Hp} (r : ∀ d v, (d, v) ∈ R → Rep B d v) {ds : List D} {vs : List V} (h : AllR R ds vs) : Reps B ds vs :=
  ⟨h.len, fun i d x e1 e2 => (h.get i d x e1 e2).rep r⟩
theorem AllR.scs {R : RL} : ∀ xs : List V, AllR R (xs.map .sc) xs
  | [] => .nil
  | _ :: r => .cons .sc (AllR.scs r)

theorem Reps.mono {B B' : Hp} (e : Ext B B') {ds : List D} {xs : List V} (h : Reps B ds xs) : Reps B' ds xs := ⟨h.1, fun i d x a b => (h.2 i d x a b).mono e⟩
theorem RepsK.mono {κ : Type} {B B' : Hp} (e : Ext B B') {ds : List (κ × D)} {xs : List (κ × V)} (h : RepsK B ds xs) : RepsK B' ds xs := ⟨h.1, fun i d x a b => (h.2 i d x a b).mono e⟩
theorem OwnOk.mono {B B' H H' : Hp} (e : Ext B B') {p : Addr} {od : OD} {o : HO} (ho : ∀ dx, H dx = some (.own p) → B dx = none → H' dx = some (.own p) ∧ B' dx = none) (h : OwnOk B H p od o) : OwnOk B' H' p od o := by
  cases od with
  | lst ds => obtain ⟨xs, r, q⟩ := h; exact ⟨xs, r, q.mono e⟩
  | dct ds => obtain ⟨xs, r, q⟩ := h; exact ⟨xs, r, q.mono e⟩
  | ins C ds => obtain ⟨dx, fs, r, q1, q2, q⟩ := h; exact ⟨dx, fs, r, (ho dx q1 q2).1, (ho dx q1 q2).2, q.mono e⟩
  | xd ds => obtain ⟨fs, r, q⟩ := h; exact ⟨fs, r, q.mono e⟩
  | lck o kvs => exact h
theorem Own1.own {B H : Hp} {p : Addr} {od : OD} (h : Own1 B H p od) (hl : ∀ o kvs, od ≠ .lck o kvs) : B p = none ∧ ∃ o, H p = some o ∧ OwnOk B H p od o := h.elim (fun ⟨o, kvs, e, _⟩ => absurd e (hl o kvs)) id

section
variable {R R' : RL} {L L' L1 L2 : LL} {H : Hp} {d : D} {v : V} {p : Addr} {od od' : OD} {o : HO}
theorem At.rep (h : At R L H) (m : (d, v) ∈ R) : Rep H d v := by
  obtain ⟨B, s, r, w⟩ := h
  exact (r d v m).mono (.of s)
theorem At.inr (h : At R L H) (m : InR R d v) : Rep H d v := by
  obtain ⟨B, s, r, w⟩ := h
  exact (m.rep r).mono (.of s)
theorem At.sub (h : At R L H) (k : ∀ x, x ∈ R' → x ∈ R) : At R' L H := by
  obtain ⟨B, s, r, w⟩ := h
  exact ⟨B, s, fun d v m => r d v (k _ m), w⟩
theorem At.add (h : At R L H) (f : ∀ B : Hp, (∀ a o, B a = some o → H a = some o) → (∀ d v, (d, v) ∈ R → Rep B d v) → Own B H L → Rep B d v) : At ((d, v) :: R) L H := by
  obtain ⟨B, s, r, w⟩ := h
  refine ⟨B, s, fun d' v' m => ?_, w⟩
  rcases List.mem_cons.mp m with e | m
  · cases e
    exact f B s r w
  · exact r _ _ m
theorem At.addR (h : At R L H) (m : InR R d v) : At ((d, v) :: R) L H := h.add fun B _ r _ => m.rep r
theorem At.sc (h : At ((.sc (V.int 0), V.int 0) :: R) L H) : At R L H := h.sub fun x m => List.mem_cons_of_mem _ m
theorem At.drop (h : At ((d, v) :: R) L H) : At R L H := h.sub fun x m => List.mem_cons_of_mem _ m
theorem At.left (h : At R L H) (hn : (L'.map (·.1)).Nodup) (k : ∀ x, x ∈ L' → x ∈ L) (kl : ∀ a o kvs, (a, OD.lck o kvs) ∈ L → (a, OD.lck o kvs) ∈ L') : At R L' H := by
  obtain ⟨B, s, r, w⟩ := h
  exact ⟨B, s, r, hn, fun a o kvs e => kl _ _ _ (w.lk a o kvs e), fun p od m => w.at_ p od (k _ m)⟩
theorem At.nd (h : At R L H) : (L.map (·.1)).Nodup := by
  obtain ⟨B, s, r, w⟩ := h
  exact w.nd
theorem At.perm (h : At R L H) (q : L'.Perm L) : At R L' H := h.left ((q.map _).nodup_iff.mpr h.nd) (fun x m => q.subset m) fun a o kvs m => q.symm.subset m
theorem At.swap {x y : Addr × OD} (h : At R (x :: y :: L) H) : At R (y :: x :: L) H := h.perm (.swap x y L)
theorem At.forget {x : Addr × OD} (h : At R (x :: L) H) (hx : ∀ o kvs, x.2 ≠ .lck o kvs := by exact fun _ _ z => nomatch z) : At R L H := h.left (by have := h.nd; rw [List.map_cons] at this; exact (List.nodup_cons.mp this).2) (fun y m => List.mem_cons_of_mem _ m) fun a o kvs m => by
  rcases List.mem_cons.mp m with e | m
  · exact absurd (by rw [← e]) (hx o kvs)
  · exact m
/-- front: L1 ++ x :: L2 with x ahead -/
theorem At.front {x : Addr × OD} (h : At R (L1 ++ x :: L2) H) : At R (x :: (L1 ++ L2)) H := h.perm List.perm_middle.symm
theorem At.back {x : Addr × OD} (h : At R (x :: (L1 ++ L2)) H) : At R (L1 ++ x :: L2) H := h.perm List.perm_middle
theorem At.own (h : At R L H) (m : (p, od) ∈ L) (hl : ∀ o kvs, od ≠ .lck o kvs) : ∃ o B, H p = some o ∧ (∀ a o, B a = some o → H a = some o) ∧ (∀ d v, (d, v) ∈ R → Rep B d v) ∧ OwnOk B H p od o := by
  obtain ⟨B, s, r, w⟩ := h
  obtain ⟨_, o, e, q⟩ := (w.at_ p od m).own hl
  exact ⟨o, B, e, s, r, q⟩
/-- a new object, owned -/
theorem At.new (h : At R L H) (hp : H p = none) (ok : ∀ B : Hp, (∀ d v, (d, v) ∈ R → Rep B d v) → OwnOk B (upd H p o) p od o) : At R ((p, od) :: L) (upd H p o) := by
  obtain ⟨B, s, r, w⟩ := h
  have bp : B p = none := by
    cases e : B p with
    | none => rfl
    | some u => rw [s p u e] at hp; cases hp
  refine ⟨B, fun a u e => ?_, r, ?_, fun a o kvs e => List.mem_cons_of_mem _ (w.lk a o kvs e), fun q od' m => ?_⟩
  · rw [upd_ne (fun z => by rw [z, bp] at e; cases e)]
    exact s a u e
  · refine List.nodup_cons.mpr ⟨fun m => ?_, w.nd⟩
    obtain ⟨⟨q, od'⟩, m', e⟩ := List.mem_map.mp m
    have z : q = p := e
    rcases w.at_ q od' m' with ⟨_, _, _, eb⟩ | ⟨_, u, eu, _⟩
    · rw [z, bp] at eb
      cases eb
    · rw [z, hp] at eu
      cases eu
  · rcases List.mem_cons.mp m with e | m
    · cases e
      exact .inr ⟨bp, o, upd_same, ok B r⟩
    · rcases w.at_ q od' m with k | ⟨h1, u, eu, q2⟩
      · exact .inl k
      have ne : q ≠ p := fun z => by rw [z, hp] at eu; cases eu
      refine .inr ⟨h1, u, by rw [upd_ne ne]; exact eu, q2.mono (Ext.refl B) fun dx e1 e2 => ⟨?_, e2⟩⟩
      rw [upd_ne (fun z => by rw [z, hp] at e1; cases e1)]
      exact e1
/-- an owned object written -/
theorem At.write (h : At R ((p, od) :: L) H) (hl : ∀ o kvs, od ≠ .lck o kvs) (hm : ∀ x, H p ≠ some (.own x)) (ok : ∀ (B : Hp) (o0 : HO), H p = some o0 → (∀ d v, (d, v) ∈ R → Rep B d v) → OwnOk B H p od o0 → (∀ dx, H dx = some (.own p) → B dx = none → (upd H p o) dx = some (.own p) ∧ B dx = none) → OwnOk B (upd H p o) p od' o) :
    At R ((p, od') :: L) (upd H p o) := by
  obtain ⟨B, s, r, w⟩ := h
  obtain ⟨bp, o0, e0, q0⟩ := (w.at_ p od List.mem_cons_self).own hl
  have nd := w.nd
  rw [List.map_cons] at nd
  have keepOwn : ∀ q dx, H dx = some (.own q) → B dx = none → (upd H p o) dx = some (.own q) ∧ B dx = none := fun q dx e1 e2 => by
    refine ⟨?_, e2⟩
    rw [upd_ne (fun z => by rw [z] at e1; exact hm _ e1)]
    exact e1
  refine ⟨B, fun a u e => ?_, r, ?_, fun a o1 kvs e => ?_, fun q od2 m => ?_⟩
  · rw [upd_ne (fun z => by rw [z, bp] at e; cases e)]
    exact s a u e
  · rw [List.map_cons]
    exact nd
  · rcases List.mem_cons.mp (w.lk a o1 kvs e) with z | z
    · cases z
      exact absurd rfl (hl _ _)
    · exact List.mem_cons_of_mem _ z
  · rcases List.mem_cons.mp m with e | m
    · cases e
      exact .inr ⟨bp, o, upd_same, ok B o0 e0 r q0 (keepOwn p)⟩
    · rcases w.at_ q od2 (List.mem_cons_of_mem _ m) with k | ⟨h1, u, eu, q2⟩
      · exact .inl k
      have ne : q ≠ p := fun z => (List.nodup_cons.mp nd).1 (List.mem_map.mpr ⟨(q, od2), m, z⟩)
      exact .inr ⟨h1, u, by rw [upd_ne ne]; exact eu, q2.mono (Ext.refl B) (keepOwn q)⟩
/-- a new object, never changed again -/
theorem At.newR (h : At R L H) (hp : H p = none) (ho : ∀ o1 kvs, o ≠ .frz o1 (.dK kvs)) (ok : ∀ B : Hp, (∀ d v, (d, v) ∈ R → Rep B d v) → B p = some o → Rep B d (.ref p)) : At ((d, .ref p) :: R) L (upd H p o) := by
  obtain ⟨B, s, r, w⟩ := h
  have bp : B p = none := by
    cases e : B p with
    | none => rfl
    | some u => rw [s p u e] at hp; cases hp
  have ex : Ext B (upd B p o) := .of fun a u e => by
    rw [upd_ne (fun z => by rw [z, bp] at e; cases e)]
    exact e
  have r' : ∀ d v, (d, v) ∈ R → Rep (upd B p o) d v := fun d v m => (r d v m).mono ex
  refine ⟨upd B p o, fun a u e => ?_, fun d' v' m => ?_, w.nd, fun a o1 kvs e => ?_, fun q od' m => ?_⟩
  rotate_left 2
  · by_cases z : a = p
    · rw [z, upd_same] at e
      exact absurd (Option.some.inj e) (ho o1 kvs)
    · rw [upd_ne z] at e
      exact w.lk a o1 kvs e
  rotate_left 1
  · by_cases z : a = p
    · rw [z, upd_same] at e
      rw [z, upd_same, e]
    · rw [upd_ne z] at e ⊢
      exact s a u e
  · rcases List.mem_cons.mp m with e | m
    · cases e
      exact ok _ r' upd_same
    · exact r' _ _ m
  · rcases w.at_ q od' m with ⟨o1, k1, e1, e2⟩ | ⟨h1, u, eu, q2⟩
    · exact .inl ⟨o1, k1, e1, by rw [upd_ne (fun z => by rw [z, bp] at e2; cases e2)]; exact e2⟩
    have ne : q ≠ p := fun z => by rw [z, hp] at eu; cases eu
    refine .inr ⟨by rw [upd_ne ne]; exact h1, u, by rw [upd_ne ne]; exact eu, q2.mono ex fun dx e1 e2 => ?_⟩
    have nx : dx ≠ p := fun z => by rw [z, hp] at e1; cases e1
    exact ⟨by rw [upd_ne nx]; exact e1, by rw [upd_ne nx]; exact e2⟩
/-- an owned object is from now on never changed -/
theorem At.freeze (h : At R ((p, od) :: L) H) (hl : ∀ o kvs, od ≠ .lck o kvs) (ok : ∀ (B : Hp) (o : HO), (∀ d v, (d, v) ∈ R → Rep B d v) → B p = some o → OwnOk B H p od o → Rep B d (.ref p)) : At ((d, .ref p) :: R) L H := by
  obtain ⟨B, s, r, w⟩ := h
  obtain ⟨bp, o, e0, q0⟩ := (w.at_ p od List.mem_cons_self).own hl
  have nd := w.nd
  rw [List.map_cons] at nd
  have ex : Ext B (upd B p o) := .of fun a u e => by
    rw [upd_ne (fun z => by rw [z, bp] at e; cases e)]
    exact e
  have r' : ∀ d v, (d, v) ∈ R → Rep (upd B p o) d v := fun d v m => (r d v m).mono ex
  have own1 : ∀ q dx, H dx = some (.own q) → B dx = none → (q = p ∨ dx ≠ p) → dx ≠ p → (upd B p o) dx = none := fun q dx e1 e2 _ ne => by rw [upd_ne ne]; exact e2
  have npo : ∀ q, o ≠ .own q := fun q z => by
    subst z
    cases od with
    | lst ds => obtain ⟨_, z, _⟩ := q0; cases z
    | dct ds => obtain ⟨_, z, _⟩ := q0; cases z
    | ins C ds => obtain ⟨_, _, z, _⟩ := q0; cases z
    | xd ds => obtain ⟨_, z, _⟩ := q0; cases z
    | lck o kvs => exact hl _ _ rfl
  have kp : ∀ q dx, H dx = some (.own q) → B dx = none → H dx = some (.own q) ∧ (upd B p o) dx = none := fun q dx e1 e2 => by
    have ne : dx ≠ p := fun z => by rw [z, e0] at e1; exact npo q (Option.some.inj e1)
    exact ⟨e1, by rw [upd_ne ne]; exact e2⟩
  have nfo : ∀ o1 kvs, o ≠ .frz o1 (.dK kvs) := fun o1 kvs z => by
    subst z
    cases od with
    | lst ds => obtain ⟨_, z, _⟩ := q0; cases z
    | dct ds => obtain ⟨_, z, _⟩ := q0; cases z
    | ins C ds => obtain ⟨_, _, z, _⟩ := q0; cases z
    | xd ds => obtain ⟨_, z, _⟩ := q0; cases z
    | lck o kvs => exact hl _ _ rfl
  refine ⟨upd B p o, fun a u e => ?_, fun d' v' m => ?_, (List.nodup_cons.mp nd).2, fun a o1 kvs e => ?_, fun q od' m => ?_⟩
  rotate_left 2
  · by_cases z : a = p
    · rw [z, upd_same] at e
      exact absurd (Option.some.inj e) (nfo o1 kvs)
    · rw [upd_ne z] at e
      rcases List.mem_cons.mp (w.lk a o1 kvs e) with y | y
      · cases y
        exact absurd rfl z
      · exact y
  rotate_left 1
  · by_cases z : a = p
    · rw [z, upd_same] at e
      rw [z, e0, e]
    · rw [upd_ne z] at e
      exact s a u e
  · rcases List.mem_cons.mp m with e | m
    · cases e
      exact ok _ o r' upd_same (q0.mono ex (kp p))
    · exact r' _ _ m
  · have ne : q ≠ p := fun z => (List.nodup_cons.mp nd).1 (List.mem_map.mpr ⟨(q, od'), m, z⟩)
    rcases w.at_ q od' (List.mem_cons_of_mem _ m) with ⟨o1, k1, e1, e2⟩ | ⟨h1, u, eu, q2⟩
    · exact .inl ⟨o1, k1, e1, by rw [upd_ne ne]; exact e2⟩
    exact .inr ⟨by rw [upd_ne ne]; exact h1, u, eu, q2.mono ex (kp q)⟩

/-! ### the kinds -/
theorem At.newLst {ds : List D} {xs : List V} (h : At R L H) (hp : H p = none) (q : AllR R ds xs) : At R ((p, .lst ds) :: L) (upd H p (.lst xs)) := h.new hp fun B r => ⟨xs, rfl, q.reps r⟩
theorem At.newTup {ds : List D} {xs : List V} (h : At R L H) (hp : H p = none) (q : AllR R ds xs) : At ((.tup ds, .ref p) :: R) L (upd H p (.tup xs)) :=
  h.newR hp (fun _ _ z => nomatch z) fun B r e => .tup (.inl e) q.len fun i d x a b => (q.get i d x a b).rep r
theorem At.newLstR {ds : List D} {xs : List V} (h : At R L H) (hp : H p = none) (q : AllR R ds xs) : At ((.lst ds, .ref p) :: R) L (upd H p (.lst xs)) :=
  h.newR hp (fun _ _ z => nomatch z) fun B r e => .lst (.inl e) q.len fun i d x a b => (q.get i d x a b).rep r
theorem At.newDct (h : At R L H) (hp : H p = none) : At R ((p, .dct []) :: L) (upd H p (.dK [])) := h.new hp fun B r => ⟨[], rfl, rfl, fun i p q e => by simp at e⟩
theorem At.frzLst {ds : List D} (h : At R ((p, .lst ds) :: L) H) : At ((.lst ds, .ref p) :: R) L H := h.freeze (fun _ _ z => nomatch z) fun B o r e q => by
  obtain ⟨xs, rfl, q⟩ := q
  exact .lst (.inl e) q.1 q.2
theorem At.frzDct {ds : List (Key × D)} (h : At R ((p, .dct ds) :: L) H) : At ((.dct ds, .ref p) :: R) L H := h.freeze (fun _ _ z => nomatch z) fun B o r e q => by
  obtain ⟨xs, rfl, q⟩ := q
  exact .dct (.inl e) q.1 q.2
theorem At.frzIns {C : Addr} {ds : List (PySem.Str × D)} (h : At R ((p, .ins C ds) :: L) H) : At ((.obj C ds, .ref p) :: R) L H := h.freeze (fun _ _ z => nomatch z) fun B o r e q => by
  obtain ⟨dx, fs, rfl, _, _, q⟩ := q
  exact .obj e q.1 q.2
/-- the list at p and its items -/
theorem At.lst {ds : List D} (h : At R L H) (m : (p, OD.lst ds) ∈ L) : ∃ xs, H p = some (.lst xs) ∧ xs.length = ds.length ∧ ∀ (i : Nat) d x, ds[i]? = some d → xs[i]? = some x → At ((d, x) :: R) L H := by
  obtain ⟨B, s, r, w⟩ := h
  obtain ⟨bp, o, e, xs, rfl, q⟩ := (w.at_ p _ m).own (fun _ _ z => nomatch z)
  exact ⟨xs, e, q.1, fun i d x a b => At.add ⟨B, s, r, w⟩ fun B' s' r' w' => by
    obtain ⟨_, o', e', xs', rfl, q'⟩ := (w'.at_ p _ m).own (fun _ _ z => nomatch z)
    rw [e] at e'
    cases e'
    exact q'.2 i d x a b⟩
theorem At.dct {ds : List (Key × D)} (h : At R L H) (m : (p, OD.dct ds) ∈ L) : ∃ kvs, H p = some (.dK kvs) ∧ kvs.map (·.1) = ds.map (·.1) ∧ ∀ (i : Nat) d x, ds[i]? = some d → kvs[i]? = some x → At ((d.2, x.2) :: R) L H := by
  obtain ⟨B, s, r, w⟩ := h
  obtain ⟨bp, o, e, xs, rfl, q⟩ := (w.at_ p _ m).own (fun _ _ z => nomatch z)
  exact ⟨xs, e, q.1, fun i d x a b => At.add ⟨B, s, r, w⟩ fun B' s' r' w' => by
    obtain ⟨_, o', e', xs', rfl, q'⟩ := (w'.at_ p _ m).own (fun _ _ z => nomatch z)
    rw [e] at e'
    cases e'
    exact q'.2 i d x a b⟩
theorem Rd.frzOf {B H : Hp} (s : ∀ a o, B a = some o → H a = some o) {a : Addr} {u : HO} (h : Rd B a u) : Rd H a u := h.elim (fun e => .inl (s a u e)) fun ⟨o, e⟩ => .inr ⟨o, s a _ e⟩
theorem Rd.one {H : Hp} {a : Addr} {u u' : HO} (h : Rd H a u) (h' : Rd H a u') (p : pl u = true) (p' : pl u' = true) : u = u' := by
  rcases h with e | ⟨o, e⟩ <;> rcases h' with e' | ⟨o', e'⟩ <;> rw [e] at e' <;> cases e' <;> first | rfl | cases p | cases p'
/-- a known list, a known tuple and its items -/
theorem At.lstR {ds : List D} (h : At R L H) (m : (D.lst ds, v) ∈ R) : ∃ a xs, v = .ref a ∧ Rd H a (.lst xs) ∧ xs.length = ds.length ∧ ∀ (i : Nat) d x, ds[i]? = some d → xs[i]? = some x → ∀ L' H', H' = H → At R L' H' → At ((d, x) :: R) L' H' := by
  obtain ⟨a, xs, rfl, hr, hl, _⟩ := (h.rep m).lst_of
  refine ⟨a, xs, rfl, hr, hl, fun i d x e1 e2 L' H' eH h' => ?_⟩
  subst eH
  refine h'.add fun B s r w => ?_
  obtain ⟨a', xs', ea, hr', hl', q⟩ := (r _ _ m).lst_of
  cases ea
  have z := Rd.one hr (Rd.frzOf s hr') rfl rfl
  cases z
  exact q i d x e1 e2
theorem At.tupR {ds : List D} (h : At R L H) (m : (D.tup ds, v) ∈ R) : ∃ a xs, v = .ref a ∧ Rd H a (.tup xs) ∧ xs.length = ds.length ∧ ∀ (i : Nat) d x, ds[i]? = some d → xs[i]? = some x → ∀ L' H', H' = H → At R L' H' → At ((d, x) :: R) L' H' := by
  obtain ⟨a, xs, rfl, hr, hl, _⟩ := (h.rep m).tup_of
  refine ⟨a, xs, rfl, hr, hl, fun i d x e1 e2 L' H' eH h' => ?_⟩
  subst eH
  refine h'.add fun B s r w => ?_
  obtain ⟨a', xs', ea, hr', hl', q⟩ := (r _ _ m).tup_of
  cases ea
  have z := Rd.one hr (Rd.frzOf s hr') rfl rfl
  cases z
  exact q i d x e1 e2
theorem At.dctR {ds : List (Key × D)} (h : At R L H) (m : (D.dct ds, v) ∈ R) : ∃ a kvs, v = .ref a ∧ Rd H a (.dK kvs) ∧ kvs.map (·.1) = ds.map (·.1) ∧ ∀ (i : Nat) d x, ds[i]? = some d → kvs[i]? = some x → ∀ L' H', H' = H → At R L' H' → At ((d.2, x.2) :: R) L' H' := by
  obtain ⟨a, xs, rfl, hr, hl, _⟩ := (h.rep m).dct_of
  refine ⟨a, xs, rfl, hr, hl, fun i d x e1 e2 L' H' eH h' => ?_⟩
  subst eH
  refine h'.add fun B s r w => ?_
  obtain ⟨a', xs', ea, hr', hl', q⟩ := (r _ _ m).dct_of
  cases ea
  have z := Rd.one hr (Rd.frzOf s hr') rfl rfl
  cases z
  exact q i d x e1 e2
theorem At.objR {C : Addr} {ds : List (PySem.Str × D)} (h : At R L H) (m : (D.obj C ds, v) ∈ R) : ∃ a dx fs, v = .ref a ∧ H a = some (.ins C dx fs) ∧ fs.map (·.1) = ds.map (·.1) ∧ ∀ (i : Nat) d x, ds[i]? = some d → fs[i]? = some x → At ((d.2, x.2) :: R) L H := by
  obtain ⟨a, dx, xs, rfl, hr, hl, _⟩ := (h.rep m).obj_of
  refine ⟨a, dx, xs, rfl, hr, hl, fun i d x e1 e2 => ?_⟩
  refine h.add fun B s r w => ?_
  obtain ⟨a', dx', xs', ea, hr', hl', q⟩ := (r _ _ m).obj_of
  cases ea
  have z := s _ _ hr'
  rw [hr] at z
  cases z
  exact q i d x e1 e2
/-- locked, unlocked -/
theorem own_upd {B : Hp} (w : ∀ p od, (p, od) ∈ L → Own1 B H p od) {dd : Addr} {u u' : HO} (hB : B dd = some u) (hn : dd ∉ L.map (·.1)) (e : Ext B (upd B dd u')) : ∀ p od, (p, od) ∈ L → Own1 (upd B dd u') (upd H dd u') p od := fun q od' m => by
  have ne : q ≠ dd := fun z => hn (List.mem_map.mpr ⟨(q, od'), m, z⟩)
  rcases w q od' m with ⟨o1, k1, e1, e2⟩ | ⟨h1, o, eo, q2⟩
  · exact .inl ⟨o1, k1, e1, by rw [upd_ne ne]; exact e2⟩
  refine .inr ⟨by rw [upd_ne ne]; exact h1, o, by rw [upd_ne ne]; exact eo, q2.mono e fun dx e1 e2 => ?_⟩
  have nx : dx ≠ dd := fun z => by rw [z, hB] at e2; cases e2
  exact ⟨by rw [upd_ne nx]; exact e1, by rw [upd_ne nx]; exact e2⟩
theorem sub_upd {B : Hp} {dd : Addr} {u' : HO} (s : ∀ a o, B a = some o → H a = some o) : ∀ a o, upd B dd u' a = some o → upd H dd u' a = some o := fun a o e => by
  by_cases z : a = dd
  · rw [z, upd_same] at e ⊢
    exact e
  · rw [upd_ne z] at e ⊢
    exact s a o e
/-- a known dict is locked while it is walked through -/
theorem At.lock {kds : List (Key × D)} {kvs : List (Key × V)} {dd : Addr} (h : At R L H) (m : (D.dct kds, V.ref dd) ∈ R) (e : H dd = some (.dK kvs)) (o : Obj) : At R ((dd, .lck o kvs) :: L) (upd H dd (.frz o (.dK kvs))) := by
  obtain ⟨B, s, r, w⟩ := h
  obtain ⟨a, kvs', ea, hr, _, _⟩ := (r _ _ m).dct_of
  cases ea
  have eB : B dd = some (.dK kvs) := by
    rcases hr with e1 | ⟨o1, e1⟩
    · have z := s _ _ e1
      rw [e] at z
      cases z
      exact e1
    · have z := s _ _ e1
      rw [e] at z
      cases z
  have hn : dd ∉ L.map (·.1) := fun hm => by
    obtain ⟨⟨q, od'⟩, m', z⟩ := List.mem_map.mp hm
    have z' : q = dd := z
    rcases w.at_ q od' m' with ⟨_, _, _, e2⟩ | ⟨h1, _⟩
    · rw [z', eB] at e2
      cases e2
    · rw [z', eB] at h1
      cases h1
  have w2 := own_upd (u' := .frz o (.dK kvs)) w.at_ eB hn (.lock eB)
  refine ⟨_, sub_upd s, fun d v m => (r d v m).mono (.lock eB), List.nodup_cons.mpr ⟨hn, w.nd⟩, fun a o1 k1 e1 => ?_, fun q od' m => ?_⟩
  · by_cases z : a = dd
    · rw [z, upd_same] at e1
      cases e1
      rw [z]
      exact List.mem_cons_self
    · rw [upd_ne z] at e1
      exact List.mem_cons_of_mem _ (w.lk _ _ _ e1)
  · rcases List.mem_cons.mp m with z | m
    · cases z
      exact .inl ⟨o, kvs, rfl, upd_same⟩
    · exact w2 q od' m
theorem At.unlock {kvs : List (Key × V)} {dd : Addr} {o : Obj} (h : At R ((dd, .lck o kvs) :: L) H) : H dd = some (.frz o (.dK kvs)) ∧ At R L (upd H dd (.dK kvs)) := by
  obtain ⟨B, s, r, w⟩ := h
  have nd := List.nodup_cons.mp w.nd
  have eB : B dd = some (.frz o (.dK kvs)) := by
    rcases w.at_ _ _ List.mem_cons_self with ⟨_, _, z, e⟩ | ⟨_, _, _, z⟩
    · cases z
      exact e
    · exact z.elim
  refine ⟨s _ _ eB, _, sub_upd s, fun d v m => (r d v m).mono (.unlock eB), nd.2, fun a o1 k1 e1 => ?_, own_upd (fun p od m => w.at_ p od (List.mem_cons_of_mem _ m)) eB nd.1 (.unlock eB)⟩
  by_cases z : a = dd
  · rw [z, upd_same] at e1
    cases e1
  · rw [upd_ne z] at e1
    rcases List.mem_cons.mp (w.lk _ _ _ e1) with y | y
    · cases y
      exact absurd rfl z
    · exact y
/-- a known dict stands plain, or its lock is told -/
theorem At.plain {kds : List (Key × D)} {dd : Addr} (h : At R L H) (m : (D.dct kds, V.ref dd) ∈ R) : ∃ kvs : List (Key × V), kvs.map (·.1) = kds.map (·.1) ∧ (H dd = some (.dK kvs) ∨ ∃ o, H dd = some (.frz o (.dK kvs)) ∧ (dd, OD.lck o kvs) ∈ L) := by
  obtain ⟨B, s, r, w⟩ := h
  obtain ⟨a, kvs, ea, hr, hk, _⟩ := (r _ _ m).dct_of
  cases ea
  rcases hr with e | ⟨o, e⟩
  · exact ⟨kvs, hk, .inl (s _ _ e)⟩
  · exact ⟨kvs, hk, .inr ⟨o, s _ _ e, w.lk _ _ _ e⟩⟩
theorem At.lck {kvs : List (Key × V)} {dd : Addr} {o : Obj} (h : At R L H) (m : (dd, OD.lck o kvs) ∈ L) : H dd = some (.frz o (.dK kvs)) := by
  obtain ⟨B, s, r, w⟩ := h
  rcases w.at_ _ _ m with ⟨_, _, z, e⟩ | ⟨_, _, _, z⟩
  · cases z
    exact s _ _ e
  · exact z.elim
end
end Nw
set_option maxRecDepth 100000
set_option maxHeartbeats 4000000
namespace Nw
open PySem PySem.Spec PyProof.Rows L2

/-! ### a def by its name -/
structure Fn (P : Program) (w : World) (K : PySem.W.Frag) (mg : PySem.Str → Option Value) (base : Heap) (k : Nat) (x : PySem.Str) (ps : List PySem.Str) (sp : Sp) : Prop where
  ex : ∃ (f : Addr) (fd : FuncData), FnOk P w K mg base (L2.CX P w) k f fd ps sp ∧ mg x = some (.ref f) ∧ PySem.W.keepIn K (.ref f) = true ∧ Binds K fd ps []
theorem Fn.mono {P : Program} {w : World} {K : PySem.W.Frag} {mg : PySem.Str → Option Value} {base : Heap} {j k : Nat} {x : PySem.Str} {ps : List PySem.Str} {sp : Sp} (F : Fn P w K mg base j x ps sp) (h : j ≤ k) : Fn P w K mg base k x ps sp := by
  obtain ⟨f, fd, a, b, c, d⟩ := F.ex
  exact ⟨f, fd, a.mono h, b, c, d⟩
section
variable {X : Cx} {k j : Nat} {x : PySem.Str} {ps : List PySem.Str} {sp : Sp} {E : XK} {p pos : Pos} {e : Expr} {es : List Expr} {t : TA}
theorem pe_fn (F : Fn X.prog X.w X.K X.mg X.base k x ps sp) (hr : Room j X.A) (hk : k ≤ j) (hx : Passes (L2.CX X.prog X.w) X E) (hg : Gl X x) (ha : PA X (e :: es) t) (hdb : (x == ("__debug__" : PySem.Str)) = false := by decide)
    (he : starEach (e :: es) X.env = (false, eval e X.env) :: starEach es X.env := by rfl) (hpl : (backTo pos (starEach es X.env)).any (·.1) = false := by rfl) : PE X (.Call (.Name x p) (e :: es) [] pos) (tCall sp [] E t) := by
  obtain ⟨f, fd, a, b, c, d⟩ := F.ex
  exact pe_call a (hr.mono hk) hg b c d .nil hx ha hdb he hpl
/-- a constant of the module -/
theorem pe_gstr {z : PySem.Str} (hg : Gl X x) (h : ∃ t, X.mg x = some (.str z t)) (hd : (x == ("__debug__" : PySem.Str)) = false := by decide) : PE X (.Name x pos) (tC (.str z)) := by
  obtain ⟨t, h⟩ := h
  exact pe_glob hg h ⟨t, rfl⟩ hd
theorem pe_gint {z : Int} (hg : Gl X x) (h : ∃ t, X.mg x = some (.int z t)) (hd : (x == ("__debug__" : PySem.Str)) = false := by decide) : PE X (.Name x pos) (tC (.int z)) := by
  obtain ⟨t, h⟩ := h
  exact pe_glob hg h ⟨t, rfl⟩ hd
end

/-! ### steps: the shape -/
/-- r as it stands, not taken apart -/
abbrev OR (r : R2) (x y : V) (H : Hp) (Q : VK) : Prop := r x y H Q
abbrev IR (P : It → Hp → Prop) (J : It) (H : Hp) : Prop := P J H
abbrev BR (r : List V → Hp → VK → Prop) (vs : List V) (H : Hp) (Q : VK) : Prop := r vs H Q
section
variable {K : PySem.W.Frag} {σ : L2.St} {H : Hp} {Q : VK} {ta tb tc te : TE} {tt tu : TT} {r : R2} {x y v : V} {D : Ends} {t u : TS} {g : TG}
theorem s_var {i : Nat} (h : σ[i]? = some (some v)) (q : Q v H) : tVar i σ H Q := ⟨v, h, q⟩
theorem s_c (q : Q v H) : tC v σ H Q := q
theorem s_op (q : ta σ H fun x H1 => tb σ H1 fun y H2 => OR r x y H2 Q) : tOp r ta tb σ H Q := q
theorem s_un {r : V → Hp → VK → Prop} (q : ta σ H fun x H1 => r x H1 Q) : tUn r ta σ H Q := q
theorem s_seq (q : t { D with nx := u D } σ H) : tSeq t u D σ H := q
theorem s_asg (q : te σ H fun x H1 => g x σ H1 D.nx) : tAsg te g D σ H := q
theorem s_name {i : Nat} {Q : L2.St → Hp → Prop} (q : Q (σ.set i (some v)) H) : gName i v σ H Q := q
theorem s_ret (q : te σ H D.rt) : tRet te D σ H := q
theorem s_drop (q : te σ H fun _ H1 => D.nx σ H1) : tDrop te D σ H := q
theorem s_if (q : tt σ H fun b H1 => if b = true then t D σ H1 else u D σ H1) : tIfS tt t u D σ H := q
theorem s_next (q : D.nx σ H) : tNext D σ H := q
theorem s_ifE (q : tt σ H fun b H1 => if b = true then ta σ H1 Q else tb σ H1 Q) : tIf tt ta tb σ H Q := q
theorem s_nil {Q : List V → Hp → Prop} (q : Q [] H) : tNil σ H Q := q
theorem s_cons {tr : TA} {Q : List V → Hp → Prop} (q : ta σ H fun x H1 => tr σ H1 fun xs H2 => Q (x :: xs) H2) : tCons ta tr σ H Q := q
theorem s_cb {r : List V → Hp → VK → Prop} {ar : TA} (q : ar σ H fun vs H1 => BR r vs H1 Q) : tCB r ar σ H Q := q
theorem s_call {sp : Sp} {E : XK} {ar : TA} (q : ar σ H fun vs H1 => sp vs H1 Q E) : tCall sp [] E ar σ H Q := by
  have e : (fun (vs : List V) H1 => sp (vs ++ []) H1 Q E) = fun vs H1 => sp vs H1 Q E := by
    funext vs H1
    rw [List.append_nil]
  show ar σ H fun vs H1 => sp (vs ++ []) H1 Q E
  rw [e]
  exact q
/-! tests -/
theorem s_test {Q : Bool → Hp → Prop} (q : te σ H fun x H1 => ∃ k, x = .bl k ∧ Q k H1) : tTest te σ H Q := q
theorem s_tb {Q : Bool → Hp → Prop} (q : te σ H fun x H1 => ∃ k, x = .bl k ∧ Q k H1) : tB te σ H Q := q
theorem s_bl {b : Bool} {Q : Bool → Prop} (q : Q b) : ∃ k, V.bl b = .bl k ∧ Q k := ⟨b, rfl, q⟩
theorem s_not {Q : Bool → Hp → Prop} (q : tt σ H fun c H1 => Q (!c) H1) : tNot tt σ H Q := q
theorem s_and {Q : Bool → Hp → Prop} (q : tt σ H fun c H1 => if c = true then tu σ H1 Q else Q false H1) : tAnd tt tu σ H Q := q
theorem s_or {Q : Bool → Hp → Prop} (q : tt σ H fun c H1 => if c = true then Q true H1 else tu σ H1 Q) : tOr tt tu σ H Q := q
theorem s_andV (q : ta σ H fun x H1 => ∃ c, x = .bl c ∧ if c = true then tb σ H1 Q else Q (.bl false) H1) : tAndV ta tb σ H Q := q
theorem s_orV (q : ta σ H fun x H1 => ∃ c, x = .bl c ∧ if c = true then Q (.bl true) H1 else tb σ H1 Q) : tOrV ta tb σ H Q := q
theorem s_notV (q : ta σ H fun x H1 => ∃ c, x = .bl c ∧ Q (.bl (!c)) H1) : tNotV ta σ H Q := q
/-- both ways of a test -/
theorem i_two {b : Bool} {A B : Prop} (h1 : b = true → A) (h2 : b = false → B) : if b = true then A else B := by
  cases b with
  | true => exact h1 rfl
  | false => exact h2 rfl
theorem i_dec {p : Prop} [Decidable p] {A B : Prop} (h1 : p → A) (h2 : ¬ p → B) : if decide p = true then A else B := i_two (fun e => h1 (of_decide_eq_true e)) fun e => h2 (of_decide_eq_false e)
theorem i_ndec {p : Prop} [Decidable p] {A B : Prop} (h1 : ¬ p → A) (h2 : p → B) : if (!decide p) = true then A else B := i_two (fun e => h1 (by simpa using e)) fun e => h2 (by simpa using e)
theorem i_t {A B : Prop} (h : A) : if true = true then A else B := by rw [if_pos rfl]; exact h
theorem i_f {A B : Prop} (h : B) : if false = true then A else B := by rw [if_neg Bool.false_ne_true]; exact h

/-! ### operations on scalars -/
theorem r_I0 {gg : Int → Int → V} {i j : Int} (q : Q (gg i j) H) : rI0 gg (.int i) (.int j) H Q := ⟨i, j, rfl, rfl, q⟩
theorem r_I {C : Int → Int → Prop} {gg : Int → Int → V} {i j : Int} (c : C i j) (q : Q (gg i j) H) : rI C gg (.int i) (.int j) H Q := ⟨i, j, rfl, rfl, c, q⟩
theorem r_U {gg : Int → V} {i : Int} (q : Q (gg i) H) : rU gg (.int i) H Q := ⟨i, rfl, q⟩
theorem r_eqI {i j : Int} (q : Q (.bl (decide (i = j))) H) : rEq (.int i) (.int j) H Q := ⟨rfl, by rw [dec_int, ← Bool.beq_eq_decide_eq] at *; exact q⟩
theorem r_neI {i j : Int} (q : Q (.bl (!decide (i = j))) H) : rNe (.int i) (.int j) H Q := ⟨rfl, by rw [dec_int, ← Bool.beq_eq_decide_eq] at *; exact q⟩
theorem r_eqS {i j : PySem.Str} (q : Q (.bl (decide (i = j))) H) : rEq (.str i) (.str j) H Q := ⟨rfl, by rw [dec_str, ← Bool.beq_eq_decide_eq] at *; exact q⟩
theorem r_neS {i j : PySem.Str} (q : Q (.bl (!decide (i = j))) H) : rNe (.str i) (.str j) H Q := ⟨rfl, by rw [dec_str, ← Bool.beq_eq_decide_eq] at *; exact q⟩
theorem r_isN (q : Q (.bl (decide (x = .non))) H) : (fun x y H Q => y = V.non ∧ Q (.bl (decide (x = .non))) H : R2) x .non H Q := ⟨rfl, q⟩
end
end Nw
set_option maxRecDepth 100000
set_option maxHeartbeats 4000000
namespace Nw
open PySem PySem.Spec PyProof.Rows L2

/-! ### dicts as lists of pairs -/
section
variable {κ α : Type} [DecidableEq κ]
def lk (kvs : List (κ × α)) (k : κ) : Option α := (kvs.find? fun kv => decide (kv.1 = k)).map (·.2)
def put (kvs : List (κ × α)) (k : κ) (v : α) : List (κ × α) :=
  if (kvs.any fun kv => decide (kv.1 = k)) = true then kvs.map (fun kv => if kv.1 = k then (kv.1, v) else kv) else kvs ++ [(k, v)]
theorem lk_nil {k : κ} : lk ([] : List (κ × α)) k = none := rfl
theorem lk_pos {p : κ × α} {r : List (κ × α)} {k : κ} (e : p.1 = k) : lk (p :: r) k = some p.2 := by
  unfold lk
  rw [List.find?_cons_of_pos (by simp [e])] <;> rfl
theorem lk_neg {p : κ × α} {r : List (κ × α)} {k : κ} (e : ¬ p.1 = k) : lk (p :: r) k = lk r k := by
  unfold lk
  rw [List.find?_cons_of_neg (by simp [e])]
theorem any_lk (k : κ) : ∀ kvs : List (κ × α), (kvs.any fun kv => decide (kv.1 = k)) = (lk kvs k).isSome
  | [] => rfl
  | p :: r => by
    rw [List.any_cons]
    by_cases e : p.1 = k
    · simp [lk_pos e, e]
    · rw [lk_neg e, any_lk k r]
      simp [e]
theorem lk_append (k : κ) (b : List (κ × α)) : ∀ a : List (κ × α), lk (a ++ b) k = (lk a k).or (lk b k)
  | [] => by simp [lk_nil]
  | p :: r => by
    by_cases e : p.1 = k
    · rw [List.cons_append, lk_pos e, lk_pos e] <;> rfl
    · rw [List.cons_append, lk_neg e, lk_neg e, lk_append k b r]
theorem lk_map (k j : κ) (v : α) : ∀ kvs : List (κ × α), lk (kvs.map fun kv => if kv.1 = k then (kv.1, v) else kv) j = (lk kvs j).map fun x => if j = k then v else x
  | [] => rfl
  | p :: r => by
    rw [List.map_cons]
    by_cases e : p.1 = k
    · rw [if_pos e]
      by_cases f : p.1 = j
      · rw [lk_pos (show (p.1, v).1 = j from f), lk_pos f]
        simp [← f, e]
      · rw [lk_neg (show ¬ (p.1, v).1 = j from f), lk_neg f, lk_map k j v r]
    · rw [if_neg e]
      by_cases f : p.1 = j
      · rw [lk_pos f, lk_pos f]
        simp [← f, e]
      · rw [lk_neg f, lk_neg f, lk_map k j v r]
theorem lk_put (kvs : List (κ × α)) (k j : κ) (v : α) : lk (put kvs k v) j = if j = k then some v else lk kvs j := by
  unfold put
  rw [any_lk]
  cases h : lk kvs k with
  | some x =>
    rw [if_pos (by rfl), lk_map]
    by_cases e : j = k
    · rw [if_pos e, e, h]
      simp
    · rw [if_neg e]
      cases lk kvs j <;> simp [e]
  | none =>
    rw [if_neg (by simp), lk_append]
    by_cases e : j = k
    · rw [if_pos e, e, h, lk_pos rfl] <;> rfl
    · rw [if_neg e, lk_neg (fun z => e z.symm), lk_nil]
      cases lk kvs j <;> rfl
theorem put_new {kvs : List (κ × α)} {k : κ} (v : α) (h : lk kvs k = none) : put kvs k v = kvs ++ [(k, v)] := by
  unfold put
  rw [any_lk, h, if_neg (by simp)]
theorem put_len (kvs : List (κ × α)) (k : κ) (v : α) : (put kvs k v).length ≤ kvs.length + 1 := by
  unfold put
  split
  · simp
  · simp
theorem lk_none {kvs : List (κ × α)} {k : κ} (h : k ∉ kvs.map (·.1)) : lk kvs k = none := by
  have e : (lk kvs k).isSome = false := by
    rw [← any_lk]
    rw [Bool.eq_false_iff]
    intro z
    obtain ⟨p, hp, e⟩ := List.any_eq_true.mp z
    exact h (List.mem_map.mpr ⟨p, hp, by simpa using e⟩)
  simpa using e
theorem lk_in {kvs : List (κ × α)} {k : κ} (h : k ∈ kvs.map (·.1)) : ∃ v, lk kvs k = some v := by
  have e : (lk kvs k).isSome = true := by
    rw [← any_lk]
    obtain ⟨p, hp, e⟩ := List.mem_map.mp h
    exact List.any_eq_true.mpr ⟨p, hp, by simp [e]⟩
  exact Option.isSome_iff_exists.mp e
theorem lk_some_mem {kvs : List (κ × α)} {k : κ} {v : α} (h : lk kvs k = some v) : (k, v) ∈ kvs := by
  unfold lk at h
  cases q : kvs.find? fun kv => decide (kv.1 = k) with
  | none => rw [q] at h; cases h
  | some p =>
    rw [q] at h
    have e := List.find?_some q
    have m := List.mem_of_find?_eq_some q
    have e1 : p.1 = k := by simpa using e
    have e2 : p.2 = v := Option.some.inj h
    rw [← e1, ← e2]
    exact m
theorem lk_mem {kvs : List (κ × α)} {k : κ} {v : α} (nd : (kvs.map (·.1)).Nodup) (h : (k, v) ∈ kvs) : lk kvs k = some v := by
  induction kvs with
  | nil => cases h
  | cons p r ih =>
    rw [List.map_cons] at nd
    obtain ⟨n1, n2⟩ := List.nodup_cons.mp nd
    rcases List.mem_cons.mp h with e | m
    · rw [lk_pos (by rw [← e]), ← e]
    · rw [lk_neg (fun e => n1 (by rw [e]; exact List.mem_map.mpr ⟨_, m, rfl⟩)), ih n2 m]
end
theorem putK_eq {κ : Type} [DecidableEq κ] (kvs : List (κ × V)) (k : κ) (v : V) : putK kvs k v = put kvs k v := rfl
theorem valV_eq {κ : Type} [DecidableEq κ] (kvs : List (κ × V)) (k : κ) : valV kvs k = lk kvs k := rfl

section
variable {κ : Type} [DecidableEq κ] {B : Hp} {ds : List (κ × D)} {kvs : List (κ × V)} {k : κ} {d : D} {x : V}
theorem keys_at {α β : Type} : ∀ {ds : List (κ × α)} {kvs : List (κ × β)} {d : α}, kvs.map (·.1) = ds.map (·.1) → lk ds k = some d → ∃ (i : Nat) (x : β), ds[i]? = some (k, d) ∧ kvs[i]? = some (k, x) ∧ lk kvs k = some x
  | [], _, _, _, h => by cases h
  | p :: r, [], _, e, _ => by cases e
  | p :: r, q :: s, d, e, h => by
    rw [List.map_cons, List.map_cons] at e
    injection e with e1 e2
    by_cases z : p.1 = k
    · rw [lk_pos z] at h
      have e3 : p.2 = d := Option.some.inj h
      refine ⟨0, q.2, ?_, ?_, lk_pos (e1.trans z)⟩
      · rw [← z, ← e3] <;> rfl
      · rw [← z, ← e1] <;> rfl
    · rw [lk_neg z] at h
      obtain ⟨i, x, h1, h2, h3⟩ := keys_at e2 h
      exact ⟨i + 1, x, by simpa using h1, by simpa using h2, by rw [lk_neg (by rw [e1]; exact z)]; exact h3⟩
theorem keys_no {α β : Type} {ds : List (κ × α)} {kvs : List (κ × β)} (e : kvs.map (·.1) = ds.map (·.1)) (h : lk ds k = none) : lk kvs k = none := by
  cases q : lk kvs k with
  | none => rfl
  | some x =>
    obtain ⟨_, y, _, _, z⟩ := keys_at e.symm q
    rw [h] at z
    cases z
theorem RepsK.put (h : RepsK B ds kvs) (r : Rep B d x) : RepsK B (put ds k d) (put kvs k x) := by
  have e : (lk ds k).isSome = (lk kvs k).isSome := by
    cases q : lk ds k with
    | none => rw [keys_no h.1 q] <;> rfl
    | some y => obtain ⟨_, z, _, _, z'⟩ := keys_at h.1 q; rw [z'] <;> rfl
  unfold Nw.put
  rw [any_lk, any_lk, ← e]
  cases q : (lk ds k).isSome with
  | true =>
    rw [if_pos rfl, if_pos rfl]
    refine ⟨?_, fun i p y h1 h2 => ?_⟩
    · rw [List.map_map, List.map_map]
      have f1 : ((fun x : κ × V => x.1) ∘ fun kv : κ × V => if kv.1 = k then (kv.1, x) else kv) = fun kv => kv.1 := by
        funext kv
        show (if kv.1 = k then (kv.1, x) else kv).1 = kv.1
        split <;> rfl
      have f2 : ((fun x : κ × D => x.1) ∘ fun kv : κ × D => if kv.1 = k then (kv.1, d) else kv) = fun kv => kv.1 := by
        funext kv
        show (if kv.1 = k then (kv.1, d) else kv).1 = kv.1
        split <;> rfl
      rw [f1, f2]
      exact h.1
    · rw [List.getElem?_map] at h1 h2
      cases q1 : ds[i]? with
      | none => rw [q1] at h1; cases h1
      | some p1 =>
        cases q2 : kvs[i]? with
        | none => rw [q2] at h2; cases h2
        | some y1 =>
          rw [q1] at h1
          rw [q2] at h2
          have e1 : (if p1.1 = k then (p1.1, d) else p1) = p := Option.some.inj h1
          have e2 : (if y1.1 = k then (y1.1, x) else y1) = y := Option.some.inj h2
          have ek : y1.1 = p1.1 := by
            have z := congrArg (fun l : List κ => l[i]?) h.1
            simp only [List.getElem?_map, q1, q2] at z
            exact Option.some.inj z
          by_cases z : p1.1 = k
          · rw [if_pos z] at e1
            rw [if_pos (ek.trans z)] at e2
            rw [← e1, ← e2]
            exact r
          · rw [if_neg z] at e1
            rw [if_neg (by rw [ek]; exact z)] at e2
            rw [← e1, ← e2]
            exact h.2 i p1 y1 q1 q2
  | false =>
    rw [if_neg (by simp), if_neg (by simp)]
    have hl : kvs.length = ds.length := by
      have z := congrArg List.length h.1
      simpa using z
    refine ⟨by rw [List.map_append, List.map_append, h.1] <;> rfl, fun i p y h1 h2 => ?_⟩
    by_cases lt : i < ds.length
    · rw [List.getElem?_append_left lt] at h1
      rw [List.getElem?_append_left (by omega)] at h2
      exact h.2 i p y h1 h2
    · rw [List.getElem?_append_right (by omega)] at h1 h2
      have e0 : i - ds.length = 0 := by
        cases z : i - ds.length with
        | zero => rfl
        | succ n => rw [z] at h1; simp at h1
      rw [e0] at h1
      rw [hl, e0] at h2
      simp at h1 h2
      rw [← h1, ← h2]
      exact r
theorem Reps.snoc {ds : List D} {xs : List V} (h : Reps B ds xs) (r : Rep B d x) : Reps B (ds ++ [d]) (xs ++ [x]) := by
  refine ⟨by simp [h.1], fun i p y h1 h2 => ?_⟩
  by_cases lt : i < ds.length
  · rw [List.getElem?_append_left lt] at h1
    rw [List.getElem?_append_left (by rw [h.1]; exact lt)] at h2
    exact h.2 i p y h1 h2
  · rw [List.getElem?_append_right (by omega)] at h1
    rw [List.getElem?_append_right (by rw [h.1]; omega)] at h2
    have e0 : i - ds.length = 0 := by
      cases z : i - ds.length with
      | zero => rfl
      | succ n => rw [z] at h1; simp at h1
    rw [e0] at h1
    rw [h.1, e0] at h2
    simp at h1 h2
    rw [← h1, ← h2]
    exact r
theorem Reps.set {ds : List D} {xs : List V} (h : Reps B ds xs) (j : Nat) (r : Rep B d x) : Reps B (ds.set j d) (xs.set j x) := by
  refine ⟨by simp [h.1], fun i p y h1 h2 => ?_⟩
  by_cases e : j = i
  · subst e
    rw [List.getElem?_set] at h1 h2
    simp at h1 h2
    obtain ⟨_, e1⟩ := h1
    obtain ⟨_, e2⟩ := h2
    rw [← e1, ← e2]
    exact r
  · rw [List.getElem?_set_ne e] at h1 h2
    exact h.2 i p y h1 h2
end

/-! ### owned lists and dicts written -/
section
variable {R : RL} {L : LL} {H : Hp} {p : Addr} {d : D} {x : V}
theorem lst_no {xs : List V} (e : H p = some (.lst xs)) : ∀ z, H p ≠ some (.own z) := fun z q => by rw [e] at q; cases q
theorem dK_no {xs : List (Key × V)} (e : H p = some (.dK xs)) : ∀ z, H p ≠ some (.own z) := fun z q => by rw [e] at q; cases q
theorem ins_no {C dx : Addr} {xs : List (PySem.Str × V)} (e : H p = some (.ins C dx xs)) : ∀ z, H p ≠ some (.own z) := fun z q => by rw [e] at q; cases q
theorem At.set {ds : List D} {xs : List V} (h : At R ((p, .lst ds) :: L) H) (e : H p = some (.lst xs)) (j : Nat) (m : InR R d x) : At R ((p, .lst (ds.set j d)) :: L) (upd H p (.lst (xs.set j x))) :=
  h.write (fun _ _ z => nomatch z) (lst_no e) fun B o0 e0 r q _ => by
    rw [e] at e0
    cases e0
    obtain ⟨xs', z, q⟩ := q
    cases z
    exact ⟨_, rfl, q.set j (m.rep r)⟩
theorem At.snoc {ds : List D} {xs : List V} (h : At R ((p, .lst ds) :: L) H) (e : H p = some (.lst xs)) (m : InR R d x) : At R ((p, .lst (ds ++ [d])) :: L) (upd H p (.lst (xs ++ [x]))) :=
  h.write (fun _ _ z => nomatch z) (lst_no e) fun B o0 e0 r q _ => by
    rw [e] at e0
    cases e0
    obtain ⟨xs', z, q⟩ := q
    cases z
    exact ⟨_, rfl, q.snoc (m.rep r)⟩
theorem At.put {ds : List (Key × D)} {kvs : List (Key × V)} {k : Key} (h : At R ((p, .dct ds) :: L) H) (e : H p = some (.dK kvs)) (m : InR R d x) : At R ((p, .dct (put ds k d)) :: L) (upd H p (.dK (putK kvs k x))) :=
  h.write (fun _ _ z => nomatch z) (dK_no e) fun B o0 e0 r q _ => by
    rw [e] at e0
    cases e0
    obtain ⟨xs', z, q⟩ := q
    cases z
    exact ⟨_, rfl, q.put (m.rep r)⟩
end
end Nw
set_option maxRecDepth 100000
set_option maxHeartbeats 4000000
namespace Nw
open PySem PySem.Spec PyProof.Rows L2

section
variable {K : PySem.W.Frag} {σ : L2.St} {H : Hp} {Q : VK} {R : RL} {L : LL} {x y v : V} {p : Addr} {d : D} {ds : List D} {i : Int}
theorem line_of {n : Nat} (h : n ≤ 1000000) : n ≤ sizeLine := Nat.le_trans h (by decide)
theorem line_lt {n : Nat} (h : n < 1000000) : n < sizeLine := Nat.lt_of_lt_of_le h (by decide)
theorem at_nn {α : Type} {xs : List α} {v : α} (h0 : 0 ≤ i) (h : xs[i.toNat]? = some v) : atI xs i = some v := by
  have e := atI_nat h
  rwa [Int.toNat_of_nonneg h0] at e
theorem at_len {α β : Type} {xs : List α} {ds : List β} {j : Nat} {d : β} (hl : xs.length = ds.length) (h : ds[j]? = some d) : ∃ x, xs[j]? = some x := by
  have lt := (List.getElem?_eq_some_iff.mp h).1
  exact ⟨xs[j]'(by omega), List.getElem?_eq_getElem (by omega)⟩

/-! ### subscripts -/
theorem r_ixL (hA : At R L H) (m : (D.lst ds, x) ∈ R) (h0 : 0 ≤ i) (hd : ds[i.toNat]? = some d) (q : ∀ v, At ((d, v) :: R) L H → Q v H) : rIxL K x (.int i) H Q := by
  obtain ⟨a, xs, rfl, hr, hl, k⟩ := hA.lstR m
  obtain ⟨z, hz⟩ := at_len hl hd
  exact ⟨a, xs, i, z, rfl, rfl, .inl hr, at_nn h0 hz, q z (k _ _ _ hd hz L H rfl hA)⟩
theorem r_ixLs {z : V} (hA : At R L H) (m : (D.lst ds, x) ∈ R) (h0 : 0 ≤ i) (hd : ds[i.toNat]? = some (.sc z)) (q : Q z H) : rIxL K x (.int i) H Q :=
  r_ixL hA m h0 hd fun v h => by
    have e := (h.rep (List.mem_cons_self)).sc_eq
    rw [e]
    exact q
theorem r_ixO (hA : At R L H) (m : (p, OD.lst ds) ∈ L) (h0 : 0 ≤ i) (hd : ds[i.toNat]? = some d) (q : ∀ v, At ((d, v) :: R) L H → Q v H) : rIxL K (.ref p) (.int i) H Q := by
  obtain ⟨xs, e, hl, k⟩ := hA.lst m
  obtain ⟨z, hz⟩ := at_len hl hd
  exact ⟨p, xs, i, z, rfl, rfl, SqL.of e, at_nn h0 hz, q z (k _ _ _ hd hz)⟩
theorem r_ixOs {z : V} (hA : At R L H) (m : (p, OD.lst ds) ∈ L) (h0 : 0 ≤ i) (hd : ds[i.toNat]? = some (.sc z)) (q : Q z H) : rIxL K (.ref p) (.int i) H Q :=
  r_ixO hA m h0 hd fun v h => by
    have e := (h.rep (List.mem_cons_self)).sc_eq
    rw [e]
    exact q
theorem r_ixT (hA : At R L H) (m : (D.tup ds, x) ∈ R) (h0 : 0 ≤ i) (hd : ds[i.toNat]? = some d) (q : ∀ v, At ((d, v) :: R) L H → Q v H) : rIxT K x (.int i) H Q := by
  obtain ⟨a, xs, rfl, hr, hl, k⟩ := hA.tupR m
  obtain ⟨z, hz⟩ := at_len hl hd
  exact ⟨a, xs, i, z, rfl, rfl, .inl hr, at_nn h0 hz, q z (k _ _ _ hd hz L H rfl hA)⟩
theorem r_ixTs {z : V} (hA : At R L H) (m : (D.tup ds, x) ∈ R) (h0 : 0 ≤ i) (hd : ds[i.toNat]? = some (.sc z)) (q : Q z H) : rIxT K x (.int i) H Q :=
  r_ixT hA m h0 hd fun v h => by
    have e := (h.rep (List.mem_cons_self)).sc_eq
    rw [e]
    exact q
theorem r_ixS {z : PySem.Str} {c : Nat} (hl : z.length ≤ 1000000) (h0 : 0 ≤ i) (hc : z.cps.toList[i.toNat]? = some c) (q : Q (.str ⟨#[c]⟩) H) : rIxS (.str z) (.int i) H Q := ⟨z, i, c, rfl, rfl, line_of hl, at_nn h0 hc, q⟩
theorem r_setL {o : V} {P : Hp → Prop} (hA : At R ((p, OD.lst ds) :: L) H) (m : InR R d v) (h0 : 0 ≤ i) (hi : i < ds.length) (q : ∀ H', At R ((p, OD.lst (ds.set i.toNat d)) :: L) H' → P H') : rSetL (.ref p) (.int i) v H P := by
  obtain ⟨xs, e, hl, _⟩ := hA.lst (List.mem_cons_self)
  refine ⟨p, xs, i, i.toNat, rfl, rfl, e, ?_, q _ (hA.set e _ m)⟩
  unfold ixN
  rw [if_pos h0, if_pos (by omega)]
theorem s_sub {to ti : TE} {t : TSet} {P : L2.St → Hp → Prop} (q : to σ H fun o H1 => ti σ H1 fun i H2 => t o i v H2 fun H3 => P σ H3) : gSub to ti t v σ H P := q
theorem r_append (hA : At R ((p, OD.lst ds) :: L) H) (m : InR R d v) (hl : ds.length < 1000000) (q : ∀ H', At R ((p, OD.lst (ds ++ [d])) :: L) H' → Q .non H') : rAppend (.ref p) [v] H Q := by
  obtain ⟨xs, e, hl', _⟩ := hA.lst (List.mem_cons_self)
  exact ⟨p, xs, v, rfl, rfl, e, by rw [hl']; exact line_lt hl, q _ (hA.snoc e m)⟩
theorem s_bm {T : String} {r : V → List V → Hp → VK → Prop} {to : TE} {t : TA} (q : to σ H fun x H1 => tyV K T x H1 ∧ t σ H1 fun xs H2 => r x xs H2 Q) : tBM K T r to t σ H Q := q
theorem ty_lst (hA : At R L H) (m : (p, OD.lst ds) ∈ L) : tyV K "list" (.ref p) H := by
  obtain ⟨xs, e, _⟩ := hA.lst m
  exact .inl ⟨rfl, xs, SqL.of e⟩
/-! ### displays -/
def NewL (xs : List V) (Q : VK) (H : Hp) : Prop := xs.length ≤ sizeLine ∧ ∀ p, H p = none → Q (.ref p) (upd H p (.lst xs))
def NewT (xs : List V) (Q : VK) (H : Hp) : Prop := xs.length ≤ sizeLine ∧ ∀ p, H p = none → Q (.ref p) (upd H p (.tup xs))
theorem s_lst {t : TA} (q : t σ H fun xs H1 => NewL xs Q H1) : tLst t σ H Q := q
theorem s_tup {t : TA} (q : t σ H fun xs H1 => NewT xs Q H1) : tTup t σ H Q := q
/-- a new list, owned | known -/
theorem r_lst {xs : List V} (hA : At R L H) (a : AllR R ds xs) (hl : ds.length ≤ 1000000) (q : ∀ p H', At R ((p, OD.lst ds) :: L) H' → Q (.ref p) H') : NewL xs Q H :=
  ⟨by rw [a.len]; exact line_of hl, fun p hp => q p _ (hA.newLst hp a)⟩
theorem r_lstR {xs : List V} (hA : At R L H) (a : AllR R ds xs) (hl : ds.length ≤ 1000000) (q : ∀ v H', At ((D.lst ds, v) :: R) L H' → Q v H') : NewL xs Q H :=
  ⟨by rw [a.len]; exact line_of hl, fun p hp => q _ _ (hA.newLstR hp a)⟩
theorem r_tup {xs : List V} (hA : At R L H) (a : AllR R ds xs) (hl : ds.length ≤ 1000000) (q : ∀ v H', At ((D.tup ds, v) :: R) L H' → Q v H') : NewT xs Q H :=
  ⟨by rw [a.len]; exact line_of hl, fun p hp => q _ _ (hA.newTup hp a)⟩
theorem r_dnew (hA : At R L H) (q : ∀ p H', At R ((p, OD.dct []) :: L) H' → Q (.ref p) H') : tDNewK σ H Q := fun p hp => q p _ (hA.newDct hp)
theorem r_dnewR (hA : At R L H) (q : ∀ v H', At ((D.dct [], v) :: R) L H' → Q v H') : tDNewK σ H Q := fun p hp => q _ _ (hA.newDct hp).frzDct
/-! ### dicts -/
theorem DGet.rd {H : Hp} {a : Addr} {kvs : List (Key × V)} {k : Key} (e : Rd H a (.dK kvs)) : DGet H a (kV k) (lk kvs k) := .inl ⟨kvs, k, e, rfl, rfl⟩
theorem s_dget {td ty : TE} (q : td σ H fun x H1 => ty σ H1 fun y H2 => ∃ a v, x = .ref a ∧ DGet H2 a y (some v) ∧ Q v H2) : tDGet td ty σ H Q := q
theorem r_dgetK {kds : List (Key × D)} {k : Key} (hA : At R L H) (m : (D.dct kds, x) ∈ R) (hk : lk kds k = some d) (q : ∀ v, At ((d, v) :: R) L H → Q v H) : ∃ a v, x = .ref a ∧ DGet H a (kV k) (some v) ∧ Q v H := by
  obtain ⟨a, kvs, rfl, hr, hl, f⟩ := hA.dctR m
  obtain ⟨j, z, h1, h2, h3⟩ := keys_at hl hk
  exact ⟨a, z, rfl, by rw [← h3]; exact DGet.rd hr, q z (f _ _ _ h1 h2 L H rfl hA)⟩
theorem r_dgetS {kds : List (Key × D)} {z : PySem.Str} (hA : At R L H) (m : (D.dct kds, x) ∈ R) (hk : lk kds (Sum.inr z) = some d) (q : ∀ v, At ((d, v) :: R) L H → Q v H) : ∃ a v, x = .ref a ∧ DGet H a (.str z) (some v) ∧ Q v H := r_dgetK (k := Sum.inr z) hA m hk q
theorem r_dgetI {kds : List (Key × D)} {z : Int} (hA : At R L H) (m : (D.dct kds, x) ∈ R) (hk : lk kds (Sum.inl z) = some d) (q : ∀ v, At ((d, v) :: R) L H → Q v H) : ∃ a v, x = .ref a ∧ DGet H a (.int z) (some v) ∧ Q v H := r_dgetK (k := Sum.inl z) hA m hk q
theorem r_dgetSs {kds : List (Key × D)} {z : PySem.Str} {y : V} (hA : At R L H) (m : (D.dct kds, x) ∈ R) (hk : lk kds (Sum.inr z) = some (.sc y)) (q : Q y H) : ∃ a v, x = .ref a ∧ DGet H a (.str z) (some v) ∧ Q v H :=
  r_dgetS hA m hk fun v h => by
    have e := (h.rep (List.mem_cons_self)).sc_eq
    rw [e]
    exact q
theorem r_dgetOK {kds : List (Key × D)} {k : Key} (hA : At R L H) (m : (p, OD.dct kds) ∈ L) (hk : lk kds k = some d) (q : ∀ v, At ((d, v) :: R) L H → Q v H) : ∃ a v, V.ref p = .ref a ∧ DGet H a (kV k) (some v) ∧ Q v H := by
  obtain ⟨kvs, e, hl, f⟩ := hA.dct m
  obtain ⟨j, z, h1, h2, h3⟩ := keys_at hl hk
  exact ⟨p, z, rfl, by rw [← h3]; exact DGet.rd (.inl e), q z (f _ _ _ h1 h2)⟩
theorem r_dgetOS {kds : List (Key × D)} {z : PySem.Str} (hA : At R L H) (m : (p, OD.dct kds) ∈ L) (hk : lk kds (Sum.inr z) = some d) (q : ∀ v, At ((d, v) :: R) L H → Q v H) : ∃ a v, V.ref p = .ref a ∧ DGet H a (.str z) (some v) ∧ Q v H := r_dgetOK (k := Sum.inr z) hA m hk q
def DInQ (x y : V) (Q : VK) (H : Hp) : Prop := ∃ a o, x = .ref a ∧ DGet H a y o ∧ Q (.bl o.isSome) H
def DNinQ (x y : V) (Q : VK) (H : Hp) : Prop := ∃ a o, x = .ref a ∧ DGet H a y o ∧ Q (.bl (!o.isSome)) H
theorem s_din {td ty : TE} (q : ty σ H fun y H1 => td σ H1 fun x H2 => DInQ x y Q H2) : tDIn ty td σ H Q := q
theorem s_dnotin {td ty : TE} (q : ty σ H fun y H1 => td σ H1 fun x H2 => DNinQ x y Q H2) : tDNotIn ty td σ H Q := q
theorem dget_of {kds : List (Key × D)} {k : Key} (hA : At R L H) (m : (D.dct kds, x) ∈ R) : ∃ a o, x = .ref a ∧ DGet H a (kV k) o ∧ o.isSome = (lk kds k).isSome := by
  obtain ⟨a, kvs, rfl, hr, hl, f⟩ := hA.dctR m
  refine ⟨a, lk kvs k, rfl, DGet.rd hr, ?_⟩
  cases q : lk kds k with
  | none => rw [keys_no hl q] <;> rfl
  | some d =>
    obtain ⟨_, z, _, _, h3⟩ := keys_at hl q
    rw [h3] <;> rfl
theorem r_dinS {kds : List (Key × D)} {z : PySem.Str} (hA : At R L H) (m : (D.dct kds, x) ∈ R) (q : Q (.bl (lk kds (Sum.inr z)).isSome) H) : DInQ x (.str z) Q H := by
  obtain ⟨a, o, e1, e2, e3⟩ := dget_of (k := Sum.inr z) hA m
  exact ⟨a, o, e1, e2, by rw [e3]; exact q⟩
theorem r_dninS {kds : List (Key × D)} {z : PySem.Str} (hA : At R L H) (m : (D.dct kds, x) ∈ R) (q : Q (.bl (!(lk kds (Sum.inr z)).isSome)) H) : DNinQ x (.str z) Q H := by
  obtain ⟨a, o, e1, e2, e3⟩ := dget_of (k := Sum.inr z) hA m
  exact ⟨a, o, e1, e2, by rw [e3]; exact q⟩
theorem s_dput {td ty tv : TE} {D : Ends} (q : tv σ H fun v H1 => td σ H1 fun x H2 => ty σ H2 fun y H3 => ∃ a H4, x = .ref a ∧ DPut H3 a y v H4 ∧ D.nx σ H4) : sDPut td ty tv D σ H := q
theorem r_dputK {kds : List (Key × D)} {k : Key} {P : Hp → Prop} (hA : At R ((p, OD.dct kds) :: L) H) (m : InR R d v) (hl : kds.length < 1000000) (q : ∀ H', At R ((p, OD.dct (put kds k d)) :: L) H' → P H') : ∃ a H4, V.ref p = .ref a ∧ DPut H a (kV k) v H4 ∧ P H4 := by
  obtain ⟨kvs, e, hk, _⟩ := hA.dct (List.mem_cons_self)
  have el : kvs.length = kds.length := by simpa using congrArg List.length hk
  exact ⟨p, _, rfl, DPut.k e (by rw [el]; exact line_lt hl), q _ (hA.put e m)⟩
theorem r_dputS {kds : List (Key × D)} {z : PySem.Str} {P : Hp → Prop} (hA : At R ((p, OD.dct kds) :: L) H) (m : InR R d v) (hl : kds.length < 1000000) (q : ∀ H', At R ((p, OD.dct (put kds (Sum.inr z) d)) :: L) H' → P H') : ∃ a H4, V.ref p = .ref a ∧ DPut H a (.str z) v H4 ∧ P H4 := r_dputK (k := Sum.inr z) hA m hl q
theorem s_dget2 {td ty tx : TE} (q : td σ H fun x H1 => ∃ a, x = .ref a ∧ IsD H1 a ∧ ty σ H1 fun y H2 => tx σ H2 fun z H3 => ∃ o, DGet H3 a y o ∧ Q (o.getD z) H3) : tDGet2 td ty tx σ H Q := q
theorem r_isD {kds : List (Key × D)} {P : Addr → Prop} (hA : At R L H) (m : (D.dct kds, x) ∈ R) (q : ∀ a, x = .ref a → P a) : ∃ a, x = .ref a ∧ IsD H a ∧ P a := by
  obtain ⟨a, kvs, rfl, hr, hl, f⟩ := hA.dctR m
  exact ⟨a, rfl, .inl ⟨kvs, hr⟩, q a rfl⟩
/-! ### len -/
theorem r_lenL (hA : At R L H) (m : (D.lst ds, x) ∈ R) (q : Q (.int ds.length) H) : BR (fun xs H Q => ∃ p ys, xs = [V.ref p] ∧ (SqL K H p ys ∨ SqT K H p ys) ∧ Q (.int ys.length) H) [x] H Q := by
  obtain ⟨a, xs, rfl, hr, hl, k⟩ := hA.lstR m
  exact ⟨a, xs, rfl, .inl (.inl hr), by rw [hl]; exact q⟩
theorem r_lenT (hA : At R L H) (m : (D.tup ds, x) ∈ R) (q : Q (.int ds.length) H) : BR (fun xs H Q => ∃ p ys, xs = [V.ref p] ∧ (SqL K H p ys ∨ SqT K H p ys) ∧ Q (.int ys.length) H) [x] H Q := by
  obtain ⟨a, xs, rfl, hr, hl, k⟩ := hA.tupR m
  exact ⟨a, xs, rfl, .inr (.inl hr), by rw [hl]; exact q⟩
theorem r_lenO (hA : At R L H) (m : (p, OD.lst ds) ∈ L) (q : Q (.int ds.length) H) : BR (fun xs H Q => ∃ p ys, xs = [V.ref p] ∧ (SqL K H p ys ∨ SqT K H p ys) ∧ Q (.int ys.length) H) [V.ref p] H Q := by
  obtain ⟨xs, e, hl, _⟩ := hA.lst m
  exact ⟨p, xs, rfl, .inl (SqL.of e), by rw [hl]; exact q⟩
end

/-! ### what is walked -/
section
variable {K : PySem.W.Frag} {R : RL} {L : LL} {a : Addr} {ds : List D}
/-- the i-th datum, the heap as it was -/
def YD (R : RL) (ds : List D) : Nat → Hp → V → Hp → Prop := fun i H v H' => H' = H ∧ ∃ d, ds[i]? = some d ∧ ∀ L', At R L' H → At ((d, v) :: R) L' H
theorem walk_lstR (m : (D.lst ds, V.ref a) ∈ R) : Walk (Itl K a) ds.length (fun H => ∃ L', At R L' H) (YD R ds) := by
  refine ⟨fun i H hi ⟨L', h⟩ => ?_, fun H ⟨L', h⟩ => ?_, fun i H x H' hi ⟨L', h⟩ y => ?_⟩
  · obtain ⟨a', xs, e, hr, hl, k⟩ := h.lstR m
    cases e
    exact ⟨xs, xs[i], .inl hr, by simp [hl, hi]⟩
  · obtain ⟨a', xs, e, hr, hl, k⟩ := h.lstR m
    cases e
    exact ⟨xs, .inl hr, by omega⟩
  · obtain ⟨a', xs, e, hr, hl, k⟩ := h.lstR m
    cases e
    obtain ⟨e1, e2⟩ := y
    exact ⟨e1, ds[i], by simp [hi], fun L2 h2 => k i _ x (by simp [hi]) (e2 xs (.inl hr)) L2 H rfl h2⟩
theorem walk_tupR (m : (D.tup ds, V.ref a) ∈ R) : Walk (Itt K a) ds.length (fun H => ∃ L', At R L' H) (YD R ds) := by
  refine ⟨fun i H hi ⟨L', h⟩ => ?_, fun H ⟨L', h⟩ => ?_, fun i H x H' hi ⟨L', h⟩ y => ?_⟩
  · obtain ⟨a', xs, e, hr, hl, k⟩ := h.tupR m
    cases e
    exact ⟨xs, xs[i], .inl hr, by simp [hl, hi]⟩
  · obtain ⟨a', xs, e, hr, hl, k⟩ := h.tupR m
    cases e
    exact ⟨xs, .inl hr, by omega⟩
  · obtain ⟨a', xs, e, hr, hl, k⟩ := h.tupR m
    cases e
    obtain ⟨e1, e2⟩ := y
    exact ⟨e1, ds[i], by simp [hi], fun L2 h2 => k i _ x (by simp [hi]) (e2 xs (.inl hr)) L2 H rfl h2⟩
end

/-! ### for -/
section
variable {K : PySem.W.Frag} {σ : L2.St} {H : Hp} {R : RL} {L : LL} {x v : V} {p : Addr} {d : D} {ds : List D} {g : TG} {tb : TS} {Dn : Ends}
/-- what is asked of a walk J by a for, by a comprehension -/
def ForW (J : It) (g : TG) (tb : TS) (Dn : Ends) (σ : L2.St) (H1 : Hp) : Prop := ∃ W : Nat → Nat → L2.St → Hp → Prop, (∃ m, W 0 m σ H1) ∧ ∀ i m σ H, W i m σ H →
  (J.stop i H ∧ Dn.nx σ H) ∨ (J.go i H ∧ ∃ N : L2.St → Hp → Prop, (∀ σ' H', N σ' H' → ∃ m', m' < m ∧ W (i + 1) m' σ' H') ∧ ∀ x H', J.yld i H x H' → g x σ H' fun σ2 H2 => tb { Dn with nx := N, ct := N, bk := Dn.nx } σ2 H2)
def LcW (J : It) (g : TG) (tt : TT) (te : TE) (vs : List Nat) (σ : L2.St) (Q : VK) (H1 : Hp) : Prop := ∀ D, H1 D = none → ∃ W : Nat → Nat → Hp → Prop, (∃ m, W 0 m (upd H1 D (.lst []))) ∧ ∀ i m H, W i m H →
  (J.stop i H ∧ Q (.ref D) H) ∨ (J.go i H ∧ ∃ Nx : Hp → Prop, (∀ H', Nx H' → ∃ m', m' < m ∧ W (i + 1) m' H') ∧ ∀ x H', J.yld i H x H' → g x (wipe σ vs) H' fun σ2 H2 => wipe σ2 vs = wipe σ vs ∧ tt σ2 H2 fun b H3 =>
    if b = true then te σ2 H3 fun y H4 => ∃ acc, H4 D = some (.lst acc) ∧ acc.length < sizeLine ∧ Nx (upd H4 D (.lst (acc ++ [y]))) else Nx H3)
def DcW (J : It) (g : TG) (tt : TT) (tk tv : TE) (vs : List Nat) (σ : L2.St) (Q : VK) (H1 : Hp) : Prop := ∀ D, H1 D = none → ∃ W : Nat → Nat → Hp → Prop, (∃ m, W 0 m (upd H1 D (.dK []))) ∧ ∀ i m H, W i m H →
  (J.stop i H ∧ Q (.ref D) H) ∨ (J.go i H ∧ ∃ Nx : Hp → Prop, (∀ H', Nx H' → ∃ m', m' < m ∧ W (i + 1) m' H') ∧ ∀ x H', J.yld i H x H' → g x (wipe σ vs) H' fun σ2 H2 => wipe σ2 vs = wipe σ vs ∧ tt σ2 H2 fun b H3 =>
    if b = true then tk σ2 H3 fun y H4 => tv σ2 H4 fun z H5 => ∃ kvs k, y = kV k ∧ H5 D = some (.dK kvs) ∧ kvs.length < sizeLine ∧ Nx (upd H5 D (.dK (putK kvs k z))) else Nx H3)
theorem s_for {wi : TI} (q : wi σ H fun J H1 => ForW J g tb Dn σ H1) : tFor wi g tb Dn σ H := q
theorem s_iList {tl : TE} {P : It → Hp → Prop} (q : tl σ H fun x H1 => ∃ a, x = .ref a ∧ (∃ xs, SqL K H1 a xs) ∧ IR P (Itl K a) H1) : iList K tl σ H P := q
theorem s_iTup {tl : TE} {P : It → Hp → Prop} (q : tl σ H fun x H1 => ∃ a, x = .ref a ∧ (∃ xs, SqT K H1 a xs) ∧ IR P (Itt K a) H1) : iTup K tl σ H P := q
theorem s_iRng1 {ta : TA} {P : It → Hp → Prop} (q : ta σ H fun vs H1 => ∃ j : Int, vs = [.int j] ∧ -(2 ^ 62) ≤ j ∧ j < 2 ^ 62 ∧ IR P (Itr 0 j.toNat) H1) : iRng1 ta σ H P := q
/-- the list is known: its walk is at hand -/
theorem r_iList {P : It → Hp → Prop} (hA : At R L H) (m : (D.lst ds, x) ∈ R) (q : ∀ a, x = .ref a → Walk (Itl K a) ds.length (fun H => ∃ L', At R L' H) (YD R ds) → P (Itl K a) H) : ∃ a, x = .ref a ∧ (∃ xs, SqL K H a xs) ∧ IR P (Itl K a) H := by
  obtain ⟨a, xs, rfl, hr, hl, k⟩ := hA.lstR m
  exact ⟨a, rfl, ⟨xs, .inl hr⟩, q a rfl (walk_lstR m)⟩
theorem r_iTup {P : It → Hp → Prop} (hA : At R L H) (m : (D.tup ds, x) ∈ R) (q : ∀ a, x = .ref a → Walk (Itt K a) ds.length (fun H => ∃ L', At R L' H) (YD R ds) → P (Itt K a) H) : ∃ a, x = .ref a ∧ (∃ xs, SqT K H a xs) ∧ IR P (Itt K a) H := by
  obtain ⟨a, xs, rfl, hr, hl, k⟩ := hA.tupR m
  exact ⟨a, rfl, ⟨xs, .inl hr⟩, q a rfl (walk_tupR m)⟩
theorem r_iRng {P : It → Hp → Prop} {n : Int} (h0 : 0 ≤ n) (h1 : n < 1000000) (q : P (Itr 0 n.toNat) H) : ∃ j : Int, [V.int n] = [.int j] ∧ -(2 ^ 62) ≤ j ∧ j < 2 ^ 62 ∧ IR P (Itr 0 j.toNat) H := ⟨n, rfl, by omega, by omega, q⟩
/-- one item appended within a comprehension -/
theorem c_app {P : Hp → Prop} (hA : At R ((p, OD.lst ds) :: L) H) (m : InR R d v) (hl : ds.length < 1000000) (q : ∀ H', At R ((p, OD.lst (ds ++ [d])) :: L) H' → P H') : ∃ acc, H p = some (.lst acc) ∧ acc.length < sizeLine ∧ P (upd H p (.lst (acc ++ [v]))) := by
  obtain ⟨xs, e, hl', _⟩ := hA.lst (List.mem_cons_self)
  exact ⟨xs, e, by rw [hl']; exact line_lt hl, q _ (hA.snoc e m)⟩
theorem s_lc {wi : TI} {tt : TT} {te : TE} {vs : List Nat} {Q : VK} (q : wi σ H fun J H1 => LcW J g tt te vs σ Q H1) : tLc wi g tt te vs σ H Q := q
end
end Nw
set_option maxRecDepth 100000
set_option maxHeartbeats 4000000
namespace Nw
open PySem PySem.Spec PyProof.Rows L2
/-- a def of the module as the head tells it: its function object, its name -/
structure Df (K : PySem.W.Frag) (mg : PySem.Str → Option Value) (x qual : PySem.Str) (st : Stmt) : Prop where
  ex : ∃ (f : Addr) (fd : FuncData), FunD K x qual (defArgs st) (defBody st) (defScope st) [] [] f fd ∧ mg x = some (.ref f)
/-- the names of the builtins are free -/
structure Bi (mg : PySem.Str → Option Value) : Prop where
  len : mg "len" = none
  range : mg "range" = none
  sorted : mg "sorted" = none
  tuple : mg "tuple" = none
  list : mg "list" = none
  enumerate : mg "enumerate" = none
  isinstance : mg "isinstance" = none
  all : mg "all" = none
  sum : mg "sum" = none
  max : mg "max" = none
  min : mg "min" = none
  abs : mg "abs" = none
  int : mg "int" = none
  str : mg "str" = none
  bool : mg "bool" = none
  reversed : mg "reversed" = none
  ValueError : mg "ValueError" = none
  super : mg "super" = none
section
variable {P : Program} {w : World} {K : PySem.W.Frag} {mg : PySem.Str → Option Value} {base : Heap}
theorem Df.fn {x qual : PySem.Str} {st : Stmt} {N ps : List PySem.Str} {k : Nat} {sp : Sp} (D : Df K mg x qual st) (S : FnScope N ps (defScope st)) (len : ∀ vs H Q E, sp vs H Q E → vs.length = ps.length)
    (hbind : ∀ (kV doc pm : Value) (an : Option Addr) (cdv ct : Value) (us : List Value), us.length = ps.length → bindArgs (PySem.W.fnOf x qual (defArgs st) (defBody st) (defScope st) .none kV doc pm an cdv ct) ⟨us, []⟩ = pure (ps.zip us))
    (hbody : ∀ (f : Addr) (cdv : Value) (A : Around) (outer : List Env) (s : Shared) (H : Hp) (vs : List V) (Q : VK) (E : XK), Room k (A.deeper (envOfC qual (defScope st) s.heap.objs.size f cdv)) → sp vs H Q E →
      ∃ t, PSs (cxOf (L2.CX P w) P w K mg base N qual (defScope st) f cdv A outer s H E) (defBody st) t ∧ t { nx := fun _ H' => Q .non H', rt := Q } (start N vs) H) : Fn P w K mg base (k + 1) x ps sp := by
  obtain ⟨f, fd, F, hm⟩ := D.ex
  exact ⟨f, fd, F.ok S len (hbody f), hm, F.kp, F.bindsN hbind⟩
end
end Nw
set_option maxRecDepth 100000
set_option maxHeartbeats 4000000
namespace Nw
open PySem PySem.Spec PyProof.Rows L2
/-! ### writes in the middle of what is owned -/
section
variable {K : PySem.W.Frag} {σ : L2.St} {H : Hp} {Q : VK} {R : RL} {x y v : V} {p : Addr} {d : D} {ds : List D} {i : Int}
theorem w_setL (L1 : LL) {L2 : LL} {o : V} {P : Hp → Prop} (hA : At R (L1 ++ (p, OD.lst ds) :: L2) H) (m : InR R d v) (h0 : 0 ≤ i) (hi : i < ds.length) (q : ∀ H', At R (L1 ++ (p, OD.lst (ds.set i.toNat d)) :: L2) H' → P H') : rSetL (.ref p) (.int i) v H P :=
  r_setL (o := o) hA.front m h0 hi fun H' h => q H' h.back
theorem w_append (L1 : LL) {L2 : LL} (hA : At R (L1 ++ (p, OD.lst ds) :: L2) H) (m : InR R d v) (hl : ds.length < 1000000) (q : ∀ H', At R (L1 ++ (p, OD.lst (ds ++ [d])) :: L2) H' → Q .non H') : rAppend (.ref p) [v] H Q :=
  r_append hA.front m hl fun H' h => q H' h.back
theorem w_dputK (L1 : LL) {L2 : LL} {kds : List (Key × D)} {k : Key} {P : Hp → Prop} (hA : At R (L1 ++ (p, OD.dct kds) :: L2) H) (m : InR R d v) (hl : kds.length < 1000000) (q : ∀ H', At R (L1 ++ (p, OD.dct (put kds k d)) :: L2) H' → P H') : ∃ a H4, V.ref p = .ref a ∧ DPut H a (kV k) v H4 ∧ P H4 :=
  r_dputK hA.front m hl fun H' h => q H' h.back
theorem w_dputS (L1 : LL) {L2 : LL} {kds : List (Key × D)} {z : PySem.Str} {P : Hp → Prop} (hA : At R (L1 ++ (p, OD.dct kds) :: L2) H) (m : InR R d v) (hl : kds.length < 1000000) (q : ∀ H', At R (L1 ++ (p, OD.dct (put kds (Sum.inr z) d)) :: L2) H' → P H') : ∃ a H4, V.ref p = .ref a ∧ DPut H a (.str z) v H4 ∧ P H4 :=
  w_dputK (k := Sum.inr z) L1 hA m hl q
theorem w_app (L1 : LL) {L2 : LL} {P : Hp → Prop} (hA : At R (L1 ++ (p, OD.lst ds) :: L2) H) (m : InR R d v) (hl : ds.length < 1000000) (q : ∀ H', At R (L1 ++ (p, OD.lst (ds ++ [d])) :: L2) H' → P H') : ∃ acc, H p = some (.lst acc) ∧ acc.length < sizeLine ∧ P (upd H p (.lst (acc ++ [v]))) :=
  c_app hA.front m hl fun H' h => q H' h.back
/-- what holds behind t is told once -/
theorem s_cut {t u : TS} {D : Ends} (I : L2.St → Hp → Prop) (k : ∀ σ H, I σ H → u D σ H) (q : ∀ nx : L2.St → Hp → Prop, (∀ σ H, I σ H → nx σ H) → t { D with nx := nx } σ H) : tSeq t u D σ H := q _ k
theorem w_int (q : Q (.int i) H) : BR (fun xs H Q => (∃ i, xs = [V.int i] ∧ Q (.int i) H) ∨ ∃ k, xs = [.bl k] ∧ Q (.int (if k then 1 else 0)) H) [.int i] H Q := .inl ⟨i, rfl, q⟩
theorem w_abs (q : Q (.int (if i < 0 then -i else i)) H) : BR (fun xs H Q => ∃ i, xs = [V.int i] ∧ Q (.int (if i < 0 then -i else i)) H) [.int i] H Q := ⟨i, rfl, q⟩
end
end Nw
set_option maxRecDepth 100000
set_option maxHeartbeats 4000000
namespace Nw
open PySem PySem.Spec PyProof.Rows L2
/-! ### an __init__ that begins with super().__init__(): a def with the cell __class__ -/
def cxS (CX : CXT) (P : Program) (w : World) (K : PySem.W.Frag) (mg : PySem.Str → Option Value) (base : Heap) (N : List PySem.Str) (qual : PySem.Str) (scope : Scope) (f : Addr) (cd : Value) (cc : Addr) (A : Around) (outer : List Env) (s : Shared) (H : Hp) (E : XK) : Cx :=
  { prog := P, w := w, K := K, mg := mg, base := base, A := A.deeper (PySem.W.ksEnv qual scope s.heap.objs.size f cd cc), N := N, s_0 := s, H_0 := H, env := PySem.W.ksEnv qual scope s.heap.objs.size f cd cc, outer := outer,
    stack := PySem.W.ksEnv qual scope s.heap.objs.size f cd cc :: outer, ex := [], calm := true, fn := fun _ => false, pn := [],
    xe := fun e s' => wpAny (model P w) (A.deeper (PySem.W.ksEnv qual scope s.heap.objs.size f cd cc)) (leaving (PySem.W.ksEnv qual scope s.heap.objs.size f cd cc) e) (fun _ s'' => CX outer H s E e s'') (fun e' s'' => CX outer H s E e' s'') s' }
/-- what is asked of the scope -/
structure SupScope (N ps : List PySem.Str) (sc : Scope) : Prop where
  kind : sc.kind = .function
  co : sc.isCoroutine = false
  gen : sc.isGenerator = false
  nd : N.Nodup
  pre : N.take ps.length = ps
  par : ∀ x ∈ ps, sc.names.lookup x = some .local
  nocell : ∀ y ∈ sc.names, y.2 ≠ .cell
  free : ∀ y ∈ sc.names, y.2 = .free → y.1 = "__class__"
  cls : sc.names.lookup ("__class__" : PySem.Str) = some .free
  sup : sc.names.lookup ("super" : PySem.Str) = some .globalImplicit
/-- such a def as it stands: D the class in its cell -/
structure FnS (K : PySem.W.Frag) (name qual : PySem.Str) (params : Arguments) (body : List Stmt) (scope : Scope) (D : Addr) (file : PySem.Str) (f cda cc : Addr) (fd : FuncData) : Prop where
  ex : ∃ (oc : Value) (od : Option Addr) (osl : Array (Option Value)) (dV kV doc pm ct : Value) (an : Option Addr), fd = PySem.W.ksFn name qual params body scope dV kV doc pm an (.ref cda) ct cc ∧ K.lookup f = some ⟨oc, od, .func fd, osl⟩ ∧ dV = .none
  code : PySem.W.codeIn K (.ref cda) qual = true
  file : ∃ (oc : Value) (od : Option Addr) (osl : Array (Option Value)) (vs : Array Value) (tf : Tok), K.lookup cda = some ⟨oc, od, .fields vs, osl⟩ ∧ vs[2]? = some (.str file tf)
  cell : ∃ (oc : Value) (od : Option Addr) (osl : Array (Option Value)), K.lookup cc = some ⟨oc, od, .cell (some (.ref D)), osl⟩
/-- the class whose object is made: C, at or below D -/
structure SupC (K : PySem.W.Frag) (C D : Addr) : Prop where
  dc : ∃ cd, PySem.W.clsIn K D = some cd
  cc : ∃ cd, PySem.W.clsIn K C = some cd
  sub : PySem.W.mroIn K C (.ref D) = some true
  ini : PySem.W.ks_superIn K C D "__init__" = some (some (.builtin "ValueError.__init__"))
  ve : PySem.W.subIn K (.ref C) (.type "ValueError") = some true
  thp : PySem.W.nsIn K cStatics "thirdparty.any" = some none
section
variable {CX : CXT} {P : Program} {w : World} {K : PySem.W.Frag} {mg : PySem.Str → Option Value} {base : Heap} {N ps : List PySem.Str} {name qual : PySem.Str} {params : Arguments} {body rest : List Stmt} {scope : Scope} {f cda cc D : Addr} {file : PySem.Str} {fd : FuncData} {k : Nat} {sp : Sp}
theorem invS {A : Around} {outer : List Env} {s : Shared} {H : Hp} {E : XK} {us : List Value} {vs : List V} {h₀ : Heap} {tk : Nat} {oc : Value} {od : Option Addr} {osl : Array (Option Value)} (S : SupScope N ps scope) (hd : A.handled = none) (e0 : Env0 P w K mg base A outer s H) (hl : vs.length = ps.length) (r : Vals vs us)
    (lc : K.lookup cc = some ⟨oc, od, .cell (some (.ref D)), osl⟩) (hns : h₀.Ns s.heap.objs.size (fun x => (ps.zip us).reverse.lookup x)) (hk : ∀ b o, s.heap.get? b = some o → h₀.get? b = some o) :
    Inv (cxS CX P w K mg base N qual scope f (.ref cda) cc A outer s H E) [] (start N vs) H { s with heap := h₀, toks := tk } := by
  have bc : base.get? cc = some ⟨oc, od, .cell (some (.ref D)), osl⟩ := e0.mod.kin _ _ lc
  have hc := e0.bs _ _ bc
  have lk1 : ∀ x c, List.lookup x [(("__class__" : PySem.Str), cc)] = some c → x = "__class__" ∧ c = cc := fun x c h => by
    rw [List.lookup_cons] at h
    split at h
    · rename_i q
      exact ⟨by simpa using q, (Option.some.inj h).symm⟩
    · cases h
  have hpl : ps.length ≤ N.length := by
    have := congrArg List.length S.pre
    rw [List.length_take] at this
    omega
  have ndP : ps.Nodup := by
    rw [← S.pre]
    exact S.nd.sublist (List.take_sublist _ _)
  refine ⟨⟨e0.mod, S.kind, rfl, rfl, Nat.le_refl _, fun x y c h1 h2 => ?_, fun x h => ?_, fun x c h => ?_, fun _ => hd, Around.frames_deeper e0.frames, .inr ⟨rfl, rfl⟩, fun b z => ?_, e0.bs, e0.bsz, fun b o _ z => ?_, fun b z => ?_, e0.funs, e0.frf⟩, rfl, e0.bare, Un.kept hk, ⟨_, hns, fun i x v h1 h2 h3 => ?_⟩, fun x c h => ?_, e0.hok.fresh (Nat.le_refl _), fun x c h => ?_, fun p hp => ?_, e0.hok.kept hk, ?_⟩
  · exact (lk1 _ _ h1).1.trans (lk1 _ _ h2).1.symm
  · have h' : scope.names.lookup x = some .cell ∨ scope.names.lookup x = some .free := h
    rcases h' with h' | h'
    · exact absurd rfl (S.nocell _ (PySem.mem_of_lookup h'))
    · have e : x = "__class__" := S.free _ (PySem.mem_of_lookup h') rfl
      exact ⟨cc, by rw [e] <;> rfl⟩
  · cases h
  · cases z
  · cases z
  · cases z
  · have hi : i < vs.length := by
      unfold L2.start at h2
      by_cases hi : i < vs.length
      · exact hi
      · rw [List.getElem?_append_right (by simpa using hi), List.getElem?_replicate] at h2
        split at h2 <;> cases h2
    have ha : vs[i]? = some v := by
      unfold L2.start at h2
      rw [List.getElem?_append_left (by simpa using hi), List.getElem?_map] at h2
      cases e : vs[i]? with
      | none => rw [e] at h2; cases h2
      | some a => rw [e] at h2; cases h2; rfl
    obtain ⟨u, hu, rv⟩ := r.get ha
    have hp : ps[i]? = some x := by
      rw [← S.pre, List.getElem?_take_of_lt (by omega)]
      exact h1
    refine ⟨u, rv, .inl ⟨S.par x (List.mem_of_getElem? hp), ?_⟩⟩
    have hz : (ps.zip us)[i]? = some (x, u) := by
      rw [List.getElem?_zip_eq_some]
      exact ⟨hp, hu⟩
    have ndk : ((ps.zip us).reverse.map (·.1)).Nodup := by
      have e : (ps.zip us).map (·.1) = ps := List.map_fst_zip (by rw [← r.length]; omega)
      rw [List.map_reverse, (List.reverse_perm _).nodup_iff, e]
      exact ndP
    have key : ∀ {l : List (PySem.Str × Value)}, (l.map (·.1)).Nodup → (x, u) ∈ l → l.lookup x = some u := by
      intro l
      induction l with
      | nil => intro _ m; cases m
      | cons p l ih =>
        intro nd m
        obtain ⟨y, z⟩ := p
        rw [List.lookup_cons]
        rw [List.map_cons] at nd
        rcases List.mem_cons.mp m with e | m
        · cases e
          simp
        · have ne : (x == y) = false := by
            rw [beq_eq_false_iff_ne]
            exact fun e => (List.nodup_cons.mp nd).1 (List.mem_map.mpr ⟨_, m, e⟩)
          rw [ne]
          exact ih (List.nodup_cons.mp nd).2 m
    exact key ndk (List.mem_reverse.mpr (List.mem_of_getElem? hz))
  · obtain ⟨e1, e2⟩ := lk1 _ _ h
    rw [e2]
    exact ⟨_, _, hk _ _ hc.1, rfl⟩
  · rw [(lk1 _ _ h).2]
    exact hc.2
  · cases hp
  · unfold L2.start
    show _ = N.length
    rw [List.length_append, List.length_map, List.length_replicate]
    omega
/-- super().__init__() at an object of the class C -/
theorem sup_init {X : Cx} {body : List Stmt} {pins : List (Addr × Obj)} {σ : L2.St} {H : Hp} {s : Shared} {L a C : Addr} {q : PySem.Str} {fd : FuncData} {p0 p1 p2 p3 : Pos} {A : Around} {Q : Value → Shared → Prop} {E : Value → Shared → Prop}
    (hX : X.env = PySem.W.ksEnv q scope L f (.ref cda) cc) (I : Inv X pins σ H s) (F : FnS X.K name q params body scope D file f cda cc fd) (S : SupScope N ps scope) (T : OexC X.K C) (G : SupC X.K C D) (hp : (fd.params.posonlyargs ++ fd.params.args).head?.map (·.arg) = some ("self" : PySem.Str))
    (h0 : X.N[0]? = some ("self" : PySem.Str)) (hσ : σ[0]? = some (some (.ref a))) (hself : scope.names.lookup ("self" : PySem.Str) = some .local) (he : H a = some (exo a C none)) (hm : X.mg "super" = none) (hfile : ((X.prog.main.file : PySem.Str) == file) = true) (htop : (X.prog.main.scope.names.lookup ("super" : PySem.Str)).isSome = false)
    {pl : Sem Bool} (hev : eval (.Call (.Attribute (.Call (.Name "super" p0) [] [] p1) "__init__" p2) [] [] p3) X.env = (do
      let ov ← attributeBase (.Call (.Name "super" p0) [] [] p1) "__init__" X.env (eval (.Call (.Name "super" p0) [] [] p1) X.env)
      standAt p2.atName
      let (f, first) ← holding [ov] (getMethod ov "__init__" pl)
      callWith p3 f first (backTo p3 (starEach [] X.env)) []))
    (hq : ∀ s', Inv X pins σ H s' → Q .none s') :
    PySem.wpAt (model X.prog X.w) A (.func body X.env) (eval (.Call (.Attribute (.Call (.Name "super" p0) [] [] p1) "__init__" p2) [] [] p3) X.env) Q E s := by
  obtain ⟨oc, od, osl, dV, kV, doc, pm, ct, an, rfl, lf, _⟩ := F.ex
  obtain ⟨oc2, od2, osl2, vs, tf, lcd, hvs⟩ := F.file
  obtain ⟨oc3, od3, osl3, lcc⟩ := F.cell
  obtain ⟨cdD, hD⟩ := G.dc
  obtain ⟨cdC, hC⟩ := G.cc
  obtain ⟨nm, qn, Nn, bs, bm, sn, sub, ab, col, dd, k0, k1, k2, k3, k5, hCl, hbm⟩ := T.cls
  obtain ⟨t1, ho⟩ := exo_at I.hok he
  obtain ⟨mb, hb1, hb2⟩ := I.mod.blt
  obtain ⟨ar, har, hars⟩ : ∃ ar : Arg, (params.posonlyargs ++ params.args).head? = some ar ∧ ar.arg = "self" := by
    cases e : (params.posonlyargs ++ params.args).head? with
    | none => rw [show ((PySem.W.ksFn name q params body scope dV kV doc pm an (.ref cda) ct cc).params.posonlyargs ++ (PySem.W.ksFn name q params body scope dV kV doc pm an (.ref cda) ct cc).params.args).head? = none from e] at hp; cases hp
    | some ar => rw [show ((PySem.W.ksFn name q params body scope dV kV doc pm an (.ref cda) ct cc).params.posonlyargs ++ (PySem.W.ksFn name q params body scope dV kV doc pm an (.ref cda) ct cc).params.args).head? = some ar from e] at hp; exact ⟨ar, rfl, Option.some.inj hp⟩
  obtain ⟨oD, hD1, hD2⟩ : ∃ oD, s.heap.get? D = some oD ∧ oD.data = .cls cdD := by
    unfold PySem.W.clsIn at hD
    split at hD
    · rename_i ho
      cases hD
      exact ⟨_, I.kIn _ _ ho, rfl⟩
    · cases hD
  have xC : a ≠ C := fun z => by
    have hc := I.kIn _ _ hCl
    rw [← z, ho] at hc
    cases hc
  have hga : X.env.globals = mainGlobals := I.ok.glob
  have hbl : X.env.builtins = builtinsNs := I.ok.blt
  rw [hX] at hga hbl hev ⊢
  refine ks_wpAt_MethodCall ?_ hev
  refine ks_wpAt_super_base (env := PySem.W.ksEnv q scope L f (.ref cda) cc) S.sup S.cls rfl rfl (I.kIn _ _ lf) rfl har rfl (I.kIn _ _ lcd) rfl hvs hfile htop ?_
  refine PySem.W.ks_loadName_global S.kind S.sup (Calls.loadGlobal_builtin (env := PySem.W.ksEnv q scope L f (.ref cda) cc) (I.mod.glob.keeps I.bk) hm (hb1.keeps I.bk) (hb2 "super" (by decide)) ⟨by decide +kernel, ?_⟩)
  refine wpAny_loadName_free S.kind S.cls rfl ⟨_, I.kIn _ _ lcc, rfl⟩ ?_
  obtain ⟨m, hns, hl⟩ := I.loc
  obtain ⟨u, ru, lu⟩ := hl 0 "self" (.ref a) h0 hσ (by rw [hX]; exact .inl hself)
  obtain rfl : u = Value.ref a := ru
  have hms : m ("self" : PySem.Str) = some (.ref a) := by
    rw [hX] at lu
    rcases lu with ⟨_, e⟩ | ⟨e, _⟩
    · exact e
    · have e' : scope.names.lookup ("self" : PySem.Str) = some .cell ∨ scope.names.lookup ("self" : PySem.Str) = some .free := e
      rw [hself] at e'
      rcases e' with e' | e' <;> cases e'
  rw [hX] at hns
  rw [hars]
  refine wpAny_loadName_local S.kind hself hns hms ?_
  refine ks_wpAny_isType_cls hD1 hD2 ⟨rfl, ?_⟩
  refine ks_wpAny_call_super hD1 hD2 ho rfl (fun c e => nomatch e) (PySem.W.looks_mroIn I.kIn G.sub) (fun h' e k => ?_)
  have I2 : Inv X pins σ H { s with heap := h' } := I.kept (t' := s.toks) k
  have ho2 := k _ _ ho
  have hI : PySem.W.Looks (model X.prog X.w) h' (isInstance (.ref a) (.type "ValueError")) true :=
    (PySem.W.InstAt.type (x := a) (ox := { cls := .ref C, dict := none, data := .fields #[.ref t1, .none, .none, .none, .bool false, .none] }) (C := C) (od := none) ⟨ho2, rfl, rfl, trivial⟩).andThen (PySem.W.looks_subIn I2.kIn G.ve)
  have ini := G.ini
  unfold PySem.W.ks_superIn at ini
  rw [hC] at ini
  refine PySem.W.kxs_getMethod PySem.W.kxs_ValueError e (PySem.W.looks_opaque I2.kIn G.thp) (l₀ := cdC.mro) (fun A' Q' E' s' k' q' => wpAny_bind ((PySem.W.looks_clsIn I2.kIn hC) A' _ E' s' k' (wpAny_pure q'))) rfl I2.kIn ini hI xC rfl ?_
  have k3 : ∀ b o, h'.get? b = some o → (h'.push (PySem.W.kxs_mw "ValueError.__init__" a)).get? b = some o := fun b o e => Heap.get?_push_of_some _ e
  have I3 : Inv X pins σ H { s with heap := h'.push (PySem.W.kxs_mw "ValueError.__init__" a), toks := s.toks + 1 } := I2.kept (t' := s.toks + 1) k3
  have hmw : (h'.push (PySem.W.kxs_mw "ValueError.__init__" a)).get? h'.objs.size = some (PySem.W.kxs_mw "ValueError.__init__" a) := Heap.get?_push_at rfl rfl
  refine PySem.W.kxs_callWith (i := "ValueError.__init__") (x := a) rfl (evalArgs_empty ⟨hmw, ?_⟩)
  refine wpAny_call (codeAny_of_tree ?_)
  show wpAny _ A.in1 (callAny (.ref h'.objs.size) ⟨[], []⟩) _ _ _
  unfold callAny
  refine wpAny_bind (wpAny_load hmw ?_)
  refine PySem.W.KFB.if_so rfl ?_
  refine wpAny_bind (PySem.W.check_bound_init PySem.F.excBase_ValueError.toExcCallFacts (I3.kIn _ _ hCl) (k3 _ _ ho2) rfl ?_)
  refine wpAny_bind (wpAny_pure (wpAny_pure ⟨plainId_quiet PySem.F.excBase_ValueError.init.plain _, codeAny_builtin PySem.F.excBase_ValueError.initEntry ?_⟩))
  refine PySem.W.exc_init_tree (cls := .ref C) (t0 := t1) (dv := none) (c2 := .none) (c3 := .none) (b4 := .bool false) (k3 _ _ ho2) (Nat.zero_le _) fun h2 kk hx _ => ?_
  have J := I3.write (t' := s.toks + 1) (x := a) (e := a) (o := exo a C none) (by rw [he]; exact True.intro) (.inl rfl) kk ⟨_, hx⟩ (exo_ok hx)
  have eu : upd H a (exo a C none) = H := by
    funext b
    by_cases hb : b = a
    · rw [hb, upd_same, he]
    · rw [upd_ne hb]
  rw [eu] at J
  exact hq _ J
/-- such a def keeps its promise: the first statement is super().__init__(), the rest is told by its reading -/
theorem FnS.ok (F : FnS K name qual params body scope D file f cda cc fd) (S : SupScope N ps scope) (hp : (params.posonlyargs ++ params.args).head?.map (·.arg) = some ("self" : PySem.Str)) (h0 : N[0]? = some ("self" : PySem.Str))
    (hself : scope.names.lookup ("self" : PySem.Str) = some .local) (hm : mg "super" = none) (hfile : ((P.main.file : PySem.Str) == file) = true) (htop : (P.main.scope.names.lookup ("super" : PySem.Str)).isSome = false)
    {p0 p1 p2 p3 p4 : Pos} (hb : body = .Expr (.Call (.Attribute (.Call (.Name "super" p0) [] [] p1) "__init__" p2) [] [] p3) p4 :: rest) (pl : Nat → Sem Bool)
    (hev : ∀ L, eval (.Call (.Attribute (.Call (.Name "super" p0) [] [] p1) "__init__" p2) [] [] p3) (PySem.W.ksEnv qual scope L f (.ref cda) cc) = (do
      let ov ← attributeBase (.Call (.Name "super" p0) [] [] p1) "__init__" (PySem.W.ksEnv qual scope L f (.ref cda) cc) (eval (.Call (.Name "super" p0) [] [] p1) (PySem.W.ksEnv qual scope L f (.ref cda) cc))
      standAt p2.atName
      let (f', first) ← holding [ov] (getMethod ov "__init__" (pl L))
      callWith p3 f' first (backTo p3 (starEach [] (PySem.W.ksEnv qual scope L f (.ref cda) cc))) []))
    (len : ∀ vs H Q E, sp vs H Q E → vs.length = ps.length)
    (hbody : ∀ (A : Around) (outer : List Env) (s : Shared) (H : Hp) (vs : List V) (Q : VK) (E : XK), sp vs H Q E → ∃ (a C : Addr) (ws : List V), vs = .ref a :: ws ∧ OexC K C ∧ SupC K C D ∧ H a = some (exo a C none) ∧
      ∃ t, PSs (cxS CX P w K mg base N qual scope f (.ref cda) cc A outer s H E) rest t ∧ t { nx := fun _ H' => Q .non H', rt := Q } (L2.start N vs) H) : FnOk P w K mg base CX (k + 1) f fd ps sp := by
  refine ⟨len, fun A outer s H args us vs Q E hr e0 hbi r hsp => ?_⟩
  have hl := len _ _ _ _ hsp
  have KX : K.In s.heap := e0.mod.kin.keeps fun b o e => (e0.bs b o e).1
  have lim : s.heap.NoLimit := e0.mod.nolimit.keeps fun b o e => (e0.bs b o e).1
  obtain ⟨a, C, ws, rfl, T, G, he, t, ht, hq⟩ := hbody A outer s H vs Q E hsp
  obtain ⟨oc, od, osl, dV, kV, doc, pm, ct, an, rfl, lf, rfl⟩ := id F.ex
  obtain ⟨oc3, od3, osl3, lcc⟩ := F.cell
  refine ks_codeAny_call_defAt (fd := PySem.W.ksFn name qual params body scope .none kV doc pm an (.ref cda) ct cc) (body := body) (binds := ps.zip us) hr.depth (KX _ _ lf) rfl lim (PySem.W.codeRec_of KX F.code) rfl hbi S.nocell (fun x hx => S.par _ (List.of_mem_zip hx).1) (fun h₀ hns hk => ?_) S.co S.gen S.kind
  have I : Inv (cxS CX P w K mg base N qual scope f (.ref cda) cc A outer s H E) [] (L2.start N (V.ref a :: ws)) H { s with heap := h₀, toks := s.toks + (ps.zip us).length } := invS S hr.hd e0 hl r lcc hns hk
  subst hb
  refine ks_wpAt_execs_cons (ks_wpAt_Expr_any ?_ (hi := ?_) (hs := rfl))
  · refine sup_init (X := cxS CX P w K mg base N qual scope f (.ref cda) cc A outer s H E) rfl I F S T G hp h0 rfl hself he hm hfile htop (hev _) (fun s' J => ?_)
    refine wpAt_of_wpAny (wpAny_mono (ht.run [] s' _ H _ J hq) (fun fl s2 hs => ?_) fun e s2 hs => hs)
    have fin : ∀ {σ' : L2.St} {H' : Hp} {v : V} {u : Value}, Inv (cxS CX P w K mg base N qual scope f (.ref cda) cc A outer s H E) [] σ' H' s2 → RelV v u → Q v H' → CE outer P w H s Q u s2 :=
      fun {σ' H' v u} J rv q => ⟨v, H', J.os, J.bare, J.base, J.hok, rv, q⟩
    cases fl with
    | ret u =>
      obtain ⟨v, σ', H', J, rv, q⟩ := hs
      exact fin J rv q
    | next =>
      obtain ⟨σ', H', J, q⟩ := hs
      exact fin (v := V.non) (u := Value.none) J rfl q
    | brk =>
      obtain ⟨_, _, _, q⟩ := hs
      exact False.elim q
    | cont =>
      obtain ⟨_, _, _, q⟩ := hs
      exact False.elim q
  · show (scope.kind == .module && _) = false
    rw [S.kind] <;> rfl
end
/-! ### exceptions with one field -/
def spX1 (K : PySem.W.Frag) (C : Addr) (fld : PySem.Str) : Sp := fun vs H Q _ => ∃ (a : Addr) (v : V), vs = [.ref a, v] ∧ OexC K C ∧ SupC K C C ∧ PySem.W.findIn K (.ref C) fld = some none ∧ H a = some (exo a C none) ∧
  ∀ dx, H dx = none → dx ≠ a → Q .non (upd (upd H dx (exd dx [(fld, v)])) a (exo a C (some dx)))
structure Ex1 (P : Program) (K : PySem.W.Frag) (mg : PySem.Str → Option Value) (x fld : PySem.Str) (C : Addr) : Prop where
  T : OexC K C
  G : SupC K C C
  no : PySem.W.findIn K (.ref C) fld = some none
  hm : mg x = some (.ref C)
  ini : ∃ (fI : Addr) (fd : FuncData) (ps : List PySem.Str), PySem.W.findIn K (.ref C) "__init__" = some (some (.ref fI)) ∧ PySem.W.typeIn K (.ref fI) = some (.type "function") ∧ Binds K fd ps [] ∧
    ∀ (w : World) (base : Heap), FnOk P w K mg base (L2.CX P w) 1 fI fd ps (spX1 K C fld)
theorem pmk_x1 {X : Cx} {x fld : PySem.Str} {C : Addr} {e : Expr} {te : TE} {p pos : Pos} (M : Ex1 X.prog X.K X.mg x fld C) (hr : Room 2 X.A) (hg : Gl X x) (ha : PE X e te) (hdb : (x == ("__debug__" : PySem.Str)) = false := by decide)
    (he : starEach [e] X.env = (false, eval e X.env) :: starEach [] X.env := by rfl) (hpl : (backTo pos (starEach [] X.env)).any (·.1) = false := by rfl) : PMk X (.Call (.Name x p) [e] [] pos) (tMkO C (spX1 X.K C fld) [] (tCons te tNil)) := by
  obtain ⟨fI, fd, ps, iC, tI, hb, hF⟩ := M.ini
  exact pmk_oex (CX := L2.CX X.prog X.w) M.T iC tI (hF X.w X.base) hr hb .nil (fun pins σ H s e' s' I h => by
      obtain ⟨_, _, _, _, _, _, _, _, _, _, _, _, z⟩ := h
      exact z.elim) hg M.hm (pa_cons ha pa_nil he) hdb he hpl
/-- x(e) where an exception is wanted: the value of e is v -/
def MkX1 (K : PySem.W.Frag) (C : Addr) (fld : PySem.Str) (v : V) (H : Hp) (Q : XK) : Prop := [v].length ≤ 1000 ∧ ∀ a, H a = none → spX1 K C fld (.ref a :: ([v] ++ [])) (upd H a (exo a C none))
  (fun v H2 => v = .non ∧ ∃ (d : Addr) (fs : List (PySem.Str × V)), H2 a = some (exo a C (some d)) ∧ H2 d = some (exd d fs) ∧ H d = none ∧ Q (.ref C) (some d) (upd (del H2 a) d (.xd fs))) (fun _ _ _ => False)
section
variable {K : PySem.W.Frag} {C : Addr} {fld : PySem.Str} {te : TE} {σ : L2.St} {H : Hp} {Q : XK} {v : V}
theorem s_mkX1 (q : te σ H fun v H1 => MkX1 K C fld v H1 Q) : tMkO C (spX1 K C fld) [] (tCons te tNil) σ H Q := q
theorem r_mkX1 {P : Program} {mg : PySem.Str → Option Value} {x : PySem.Str} (M : Ex1 P K mg x fld C) (q : ∀ d, H d = none → Q (.ref C) (some d) (upd H d (.xd [(fld, v)]))) : MkX1 K C fld v H Q := by
  refine ⟨by simp, fun a ha => ⟨a, v, rfl, M.T, M.G, M.no, upd_same, fun dx hd hne => ⟨rfl, dx, [(fld, v)], upd_same, ?_, ?_, ?_⟩⟩⟩
  · rw [upd_ne hne, upd_same]
  · rw [upd_ne hne] at hd
    exact hd
  · have hd' : H dx = none := by
      rw [upd_ne hne] at hd
      exact hd
    have e : upd (del (upd (upd (upd H a (exo a C none)) dx (exd dx [(fld, v)])) a (exo a C (some dx))) a) dx (.xd [(fld, v)]) = upd H dx (.xd [(fld, v)]) := by
      funext b
      by_cases h1 : b = dx
      · rw [h1, upd_same, upd_same]
      · rw [upd_ne h1, upd_ne h1]
        by_cases h2 : b = a
        · rw [h2, del_same, ha]
        · rw [del_ne h2, upd_ne h2, upd_ne h1, upd_ne h2]
    rw [e]
    exact q dx hd'
end
/-- from the def of __init__(self, y): super().__init__(); self.fld = y -/
theorem Ex1.of {P : Program} {K : PySem.W.Frag} {mg : PySem.Str → Option Value} {x fld y : PySem.Str} {C fI cda cc : Addr} {fd : FuncData} {name qual : PySem.Str} {params : Arguments} {body : List Stmt} {scope : Scope} {file : PySem.Str} {p0 p1 p2 p3 p4 q1 q2 q3 q4 : Pos}
    (T : OexC K C) (G : SupC K C C) (no : PySem.W.findIn K (.ref C) fld = some none) (hm : mg x = some (.ref C)) (iC : PySem.W.findIn K (.ref C) "__init__" = some (some (.ref fI))) (tI : PySem.W.typeIn K (.ref fI) = some (.type "function"))
    (F : FnS K name qual params body scope C file fI cda cc fd) (S : SupScope ["self", y] ["self", y] scope) (hp : (params.posonlyargs ++ params.args).head?.map (·.arg) = some ("self" : PySem.Str)) (hs : mg "super" = none) (hfile : ((P.main.file : PySem.Str) == file) = true) (htop : (P.main.scope.names.lookup ("super" : PySem.Str)).isSome = false)
    (hself : scope.names.lookup ("self" : PySem.Str) = some .local) (hy : scope.names.lookup y = some .local) (hyd : (y == ("__debug__" : PySem.Str)) = false) (hyc : (y == ("__classdict__" : PySem.Str)) = false)
    (hb : body = [.Expr (.Call (.Attribute (.Call (.Name "super" p0) [] [] p1) "__init__" p2) [] [] p3) p4, .Assign [.Attribute (.Name "self" q1) fld q2] (.Name y q3) q4]) (pl : Nat → Sem Bool)
    (hev : ∀ L, eval (.Call (.Attribute (.Call (.Name "super" p0) [] [] p1) "__init__" p2) [] [] p3) (PySem.W.ksEnv qual scope L fI (.ref cda) cc) = (do
      let ov ← attributeBase (.Call (.Name "super" p0) [] [] p1) "__init__" (PySem.W.ksEnv qual scope L fI (.ref cda) cc) (eval (.Call (.Name "super" p0) [] [] p1) (PySem.W.ksEnv qual scope L fI (.ref cda) cc))
      standAt p2.atName
      let (f', first) ← holding [ov] (getMethod ov "__init__" (pl L))
      callWith p3 f' first (backTo p3 (starEach [] (PySem.W.ksEnv qual scope L fI (.ref cda) cc))) []))
    (hbind : ∀ (dV kV doc pm : Value) (an : Option Addr) (cdv ct : Value) (us : List Value), us.length = 2 → dV = .none → bindArgs (PySem.W.ksFn name qual params body scope dV kV doc pm an cdv ct cc) ⟨us, []⟩ = pure ([("self" : PySem.Str), y].zip us)) : Ex1 P K mg x fld C := by
  refine ⟨T, G, no, hm, fI, fd, ["self", y], iC, tI, ?_, fun w base => ?_⟩
  · obtain ⟨oc, od, osl, dV, kV, doc, pm, ct, an, rfl, _, e⟩ := F.ex
    exact .all fun us hl => hbind _ _ _ _ _ _ _ us hl e
  · refine F.ok (N := ["self", y]) (ps := ["self", y]) (k := 0) S hp rfl hself hs hfile htop hb pl hev (fun vs H Q E h => ?_) fun A outer s H vs Q E h => ?_
    · obtain ⟨a, v, rfl, _⟩ := h
      rfl
    · obtain ⟨a, v, rfl, T', G', no', he, q⟩ := h
      refine ⟨a, C, [v], rfl, T', G', he, _, pss_one (ps_ost (pe_var (i := 0) rfl (.inl hself)) (pe_var (i := 1) rfl (.inl hy) hyd hyc)), ?_⟩
      exact ⟨v, rfl, .ref a, rfl, a, C, rfl, T', no', .inl ⟨he, fun dx n ne => q dx n ne⟩⟩
end Nw
set_option maxRecDepth 100000
set_option maxHeartbeats 4000000
namespace Nw
open PySem PySem.Spec PyProof.Rows L2
/-! ### isinstance of a caught exception that has a dict -/
section
open PySem.W PySem.Calls
variable {prog : Program} {w : World} {A : Around} {E : Value → Shared → Prop} {s : Shared} {K : Frag} {x D : Addr} {ox : Obj} {od : Option Obj}
theorem xc_find {C : Addr} {name : PySem.Str} {a g : Value} (hc : (clsIn K C).isSome = true) (ha : findIn K (.ref C) name = some (some a)) (hg : specialIn K a "__get__" = some (some g)) (ht : takesIn K a = some true) : findObj K C od name = some (.bind g a) := by
  cases q : clsIn K C with
  | none => rw [q] at hc; cases hc
  | some cd => simp [findObj, q, ha, hg, ht]
theorem xc_class {Q : Option Value → Shared → Prop} (Z : ExcC K D) (X : K.In s.heap) (I : InstAt s.heap x ox D od) (h : Q (some (.ref D)) { s with toks := s.toks + 1 }) : wpAny (model prog w) A (getAttr? (.ref x) "__class__") Q E s := by
  have hf : findObj K D od "__class__" = some (.bind (.builtin "getset_descriptor.__get__") (.builtin "object.__class__")) := xc_find (by obtain ⟨cd, hc, _⟩ := any_some Z.hd; rw [hc] <;> rfl) Z.ha Z.hn Z.ht
  obtain ⟨hp, g, d, t, os⟩ := s
  have l0 := I.type (M := model prog w); have l1 := looks_findIn (M := model prog w) X Z.hg; have l2 := looks_findIn (M := model prog w) X Z.hk; have l3 := looks_find (M := model prog w) X I hf
  have sub : Looks (model prog w) hp (isInstance (.ref x) (.type "BaseException")) true := l0.andThen (looks_subIn X Z.hs)
  have n1 : (Value.builtin "BaseException.__getattribute__" == Value.builtin "object.__getattribute__") = false := by decide +kernel
  have n2 : (onTheHeap (Value.ref D) && Value.builtin "BaseException.__getattribute__" == Value.builtin "object.__getattribute__") = false := by rw [n1] <;> rfl
  unfold getAttr? getAttrBy? getAttrBy
  refine wpAny_bind (wpAny_mkText (wpAny_bind (wpAny_attempt (wpAny_holding (wpAny_bind (l0.at (wpAny_bind (l1.at ?_)))))))); show wpAny _ _ (if (onTheHeap (Value.ref D) && Value.builtin "BaseException.__getattribute__" == Value.builtin "object.__getattribute__") = true then _ else _) _ _ _
  rw [n2, if_neg Bool.false_ne_true]; unfold getAttrByItsOwn hookBefore
  refine wpAny_bind ?_; rw [if_pos (show onTheHeap (Value.ref D) = true from rfl)]; refine l2.at (wpAny_bind (wpAny_attempt (wpAny_holding ?_))); unfold callGetattribute
  rw [if_neg (show ¬ ((false && onTheHeap (Value.builtin "BaseException.__getattribute__")) = true) from Bool.false_ne_true)]; unfold boundAndCalled; rw [PySem.F.excAttr_ValueError.ga.bind (.ref x)]
  refine wpAny_bind (wpAny_pure ?_); show wpAny _ _ (call (.builtin "BaseException.__getattribute__") [.ref x, .str "__class__" t]) _ _ _
  refine wpAny_call (codeAny_call_builtin PySem.F.excAttr_ValueError.ga.plain PySem.F.entry_bexc_ga (@check_slot (model prog w) _ _ ⟨hp, g, d, t + 1, os⟩ "BaseException.__getattribute__" "BaseException" "__getattribute__" (.ref x) [.str "__class__" t] [] _ (by decide +kernel) (by decide +kernel) sub (PySem.F.args_bexc_ga (.ref x) (.str "__class__" t)) ?_))
  unfold Builtin.«object.__getattribute__»; refine wpAny_bind (wpAny_of_eq (a := ((Value.ref x : Value), [Value.str "__class__" t])) (by first | rfl | (simp only [slotArgs]; rfl)) ?_)
  refine wpAny_bind (wpAny_pure (wpAny_bind (l0.at (wpAny_bind (l3.at ?_))))); show wpAny _ _ (holding [Value.builtin "object.__class__"] (call (.builtin "getset_descriptor.__get__") [.builtin "object.__class__", .ref x, .ref D]) >>= ret) _ _ _
  refine wpAny_bind (wpAny_holding (wpAny_call (class_get (s := ⟨hp, g, d, t + 1, os⟩) (ox := ox) (od := od) X I Z.hm ?_))); refine wpAny_pure ?_
  show wpAny _ _ (handedOut (.ref D)) _ _ _; rw [handedOut_of (v := .ref D) rfl]; first | exact wpAny_pure (wpAny_pure h) | exact wpAny_pure h | exact wpAny_pure (wpAny_bind (wpAny_pure (wpAny_pure h)))
theorem xc_kit (Z : ExcC K D) : KitX K (.ref x) (.ref D) (fun h => InstAt h x ox D od) := by
  obtain ⟨cd, hc, _⟩ := any_some Z.hd
  unfold clsIn at hc
  split at hc
  · rename_i ho
    refine ⟨fun _ _ _ I => I.type, fun _ _ X _ A' Q' E' s' k q => ?_, fun h tp dd its n sl X htp => Bool.eq_false_iff.mpr fun q => ?_, fun X I k => xc_class Z X I k⟩
    · unfold isType loadHead; exact wpAny_bind (wpAny_loadPart (k _ _ (X _ _ ho)) (wpAny_pure q))
    · have e : D = tp := Value.ref.inj (beq_iff_eq.mp q)
      rw [← e] at htp
      cases (X _ _ ho).symm.trans htp
  · cases hc
end
/-- isinstance(e, c), e the exception that the suite holds, its dict at dd -/
theorem call_isX {X : Cx} {a D dd : Addr} {oe : Obj} {pn : List (Addr × Obj)} (C : ExcC X.K D) (hz : Zc (.ref D) (some dd) oe) (hf : ∃ vs, oe.data = .fields vs) :
    CallR (X.suite a ((a, oe) :: pn)) (.builtin "isinstance") (fun xs H Q => (∃ fs, H dd = some (.xd fs)) ∧ rIsE X.K D a xs H Q) := by
  intro pins s σ H xs us Q I r h
  obtain ⟨⟨fs, ed⟩, c, cv, b, rfl, hcv, e, q⟩ := h
  cases r with
  | cons rx rr =>
    cases rr with
    | cons rt rr =>
      cases rr
      cases rx
      have ec := hcv _ rt
      subst ec
      obtain ⟨hget, _⟩ := I.pin (a, oe) (List.mem_append.mpr (.inl List.mem_cons_self))
      obtain ⟨vs, hv⟩ := hf
      have hx : ObjOk X.prog X.w H s.heap dd (.xd fs) := I.hok dd _ ed
      obtain ⟨mA, hns, hr⟩ := hx
      obtain ⟨od, ho, hl⟩ := lookIn_ns hns
      have J : PySem.W.InstAt s.heap a oe D (some od) := ⟨hget, hz.1, by unfold PySem.W.notCls; rw [hv] <;> rfl, by rw [hz.2]; exact ho⟩
      exact PySem.W.kia_one (xc_kit C) I.kIn J e (fun z => nomatch z) fun tk => ⟨.bl b, H, I.kept (t' := tk) fun _ _ z => z, rfl, q⟩
/-! ### several clauses, each with or without «as» -/
/-- the ends of a suite: the slot of «as n» is emptied -/
def endsA (D : Ends) : Option Nat → Ends
  | none => D
  | some i => { nx := fun σ' H' => D.nx (σ'.set i none) H', rt := D.rt, bk := fun σ' H' => D.bk (σ'.set i none) H', ct := fun σ' H' => D.ct (σ'.set i none) H' }
def atA (σ : L2.St) (a : Addr) : Option Nat → L2.St
  | none => σ
  | some i => σ.set i (some (.ref a))
def wAll (K : PySem.W.Frag) (Wout : WX) (D : Ends) : List (Value × Option Nat × (Addr → Value → Option Addr → TS)) → WX
  | [] => Wout
  | (c, i, ts) :: r => fun cls d σ H => ∃ b, PySem.W.exmOne K cls c = some b ∧ (b = true → ∀ a, H a = none → ts a cls d (endsA D i) (atA σ a i) H) ∧ (b = false → wAll K Wout D r cls d σ H)
inductive HdsA (X : Cx) : List ExceptHandler → List (Value × Option Nat × (Addr → Value → Option Addr → TS)) → Prop
  | nil : HdsA X [] []
  | as_ {x n : PySem.Str} {c : Value} {i : Nat} {ts : Addr → Value → Option Addr → TS} {b₀ : Stmt} {suite : List Stmt} {np pos' : Pos} {hds : List ExceptHandler} {l : List (Value × Option Nat × (Addr → Value → Option Addr → TS))} (hc : Names X x c) (hi : X.N[i]? = some n) (hln : X.env.kindOf n = some .local)
      (hsu : ∀ (a : Addr) (oe : Obj) (cls : Value) (d : Option Addr) (pn : List (Addr × Obj)), Zc cls d oe → (∃ vs, oe.data = .fields vs) → PSs (X.suite a ((a, oe) :: pn)) (b₀ :: suite) (ts a cls d)) (r : HdsA X hds l) :
      HdsA X (.ExceptHandler (some (.Name x np)) (some n) (b₀ :: suite) pos' :: hds) ((c, some i, ts) :: l)
  | no {x : PySem.Str} {c : Value} {ts : Addr → Value → Option Addr → TS} {b₀ : Stmt} {suite : List Stmt} {np pos' : Pos} {hds : List ExceptHandler} {l : List (Value × Option Nat × (Addr → Value → Option Addr → TS))} (hc : Names X x c)
      (hsu : ∀ (a : Addr) (oe : Obj) (cls : Value) (d : Option Addr) (pn : List (Addr × Obj)), Zc cls d oe → (∃ vs, oe.data = .fields vs) → PSs (X.suite a ((a, oe) :: pn)) (b₀ :: suite) (ts a cls d)) (r : HdsA X hds l) :
      HdsA X (.ExceptHandler (some (.Name x np)) none (b₀ :: suite) pos' :: hds) ((c, none, ts) :: l)
section
variable {X : Cx} {body : List Stmt} {h₀ : ExceptHandler} {hds : List ExceptHandler} {l : List (Value × Option Nat × (Addr → Value → Option Addr → TS))} {pos : Pos} {tb : WX → TS} {Wout : WX}
theorem ps_tryA (hs : X.stack = X.env :: X.outer) (hf : X.env.frame = some X.env.locals) (hN : X.N.Nodup) (tk : Takes X Wout)
    (hb : ∀ (W : WX) (pn : List (Addr × Obj)) (xe : Value → Shared → Prop), Takes (X.tr pn xe) W → PassesOwn (model X.prog X.w) X.A X.env xe → PSs (X.tr pn xe) body (tb W))
    (hh : HdsA X (h₀ :: hds) l) : PS X (.Try body (h₀ :: hds) [] [] pos) (fun D σ H => tb (wAll X.K Wout D l) D σ H) := by
  refine ⟨fun pins s σ H D I h => ?_⟩
  have ok := I.ok; have hfr : X.A.frames = some (X.env :: X.outer) := by rw [ok.frames, hs]
  refine wpAny_Try_except (wpAny_mono ((hb (wAll X.K Wout D l) (X.pn ++ pins) (fun e s₁ => wpAny (model X.prog X.w) X.A (noteFrame e X.env) (fun _ s₂ => wpAny (model X.prog X.w) X.A (setFlight e none) (fun _ s₃ => wpAny (model X.prog X.w) X.A (handleBy e X.env (h₀ :: hds)) (SP X pins D) X.xe s₃) X.xe s₂) X.xe s₁) (fun u s' xx => ?_) PassesOwn.looking).run [] s σ H D (I.toTry _) h) (fun f s1 hsp => ?_) (fun e s1 he => he))
  · obtain ⟨a, B, sI, pins', σ', H', cls, d, rfl, J', nb, up, sky, na, os, ag, w⟩ := xx
    have J : Inv X pins σ' H' sI := J'.ofTry ok; have sky' : Sky B (X.env :: X.outer) a (Zc cls d) X.env.locals s'.heap := by rw [← hs]; exact sky
    show wpAny (model X.prog X.w) X.A (noteFrame (.ref a) X.env) _ _ _; refine Sky.land Zc.steady hfr hf sky' fun h3 fl up3 => ?_
    have J3 : Inv X pins σ' H' { s' with heap := h3 } := J.landed nb fl.1 (up.trans up3) os ag; obtain ⟨oe3, vs3, he3, hz3, hd3⟩ := fl.there
    have nfr : a ∉ frs (X.env :: X.outer) := fun hm => by
      obtain ⟨_, o', e', hnf⟩ := fl.2.2.1.mem hm; rw [he3] at e'; cases e'; exact hnf _ hd3
    have nL : a ≠ X.env.locals := fun z => nfr (List.mem_filterMap.mpr ⟨X.env, List.mem_cons_self, by rw [hf, z]⟩)
    have nF : a ∉ X.fs := fun hm => by
      obtain ⟨e, he, q⟩ := List.mem_filterMap.mp hm; exact nfr (List.mem_filterMap.mpr ⟨e, List.mem_cons_of_mem _ he, q⟩)
    have S3 := J3.suite he3 hd3 na nL nF
    have LT : PySem.W.Looks (model X.prog X.w) h3 (typeOf (.ref a)) cls := fun A Q E s k q => wpAny_typeOf_ref (k _ _ he3) (by rw [hz3.1]; exact q)
    have test : ∀ {x : PySem.Str} {c : Value} {np : Pos} {Q : Value → Shared → Prop} {E : Value → Shared → Prop}, Names X x c → Q c { s' with heap := h3 } → wpAny (model X.prog X.w) (X.A.mark (some (.ref a))) (eval (.Name x np) X.env) Q E { s' with heap := h3 } := fun {x c np Q E} hc q => by
      obtain ⟨hg, hdbg, hm | ⟨hm, hv, hnn⟩⟩ := hc
      · exact ld_glob (X := X.suite a ((a, oe3) :: (X.pn ++ pins))) S3 hg hm q hdbg
      · exact ld_blt (X := X.suite a ((a, oe3) :: (X.pn ++ pins))) S3 hg hm hv q hnn hdbg
    have go : ∀ {hds' : List ExceptHandler} {l' : List (Value × Option Nat × (Addr → Value → Option Addr → TS))}, HdsA X hds' l' → wAll X.K Wout D l' cls d σ' H' → wpAny (model X.prog X.w) X.A (handleBy (.ref a) X.env hds') (SP X pins D) X.xe { s' with heap := h3 } := by
      intro hds' l' hk
      induction hk with
      | nil =>
        intro w; refine wpAny_handleBy_nil ?_; obtain ⟨k1, k2, k3, oe, vs, T, oT, ts', he, hz, hd, h1, hr⟩ := id fl
        unfold PySem.passOn; refine wpAny_bind (wpAny_field he hd h1 ?_); rw [if_neg (show ¬ ((Value.ref T == Value.none) = true) from by simp)]
        have fin : wpAny (model X.prog X.w) X.A (setFlight (.ref a) X.env.frame) (fun _ s4 => wpAny (model X.prog X.w) X.A (throw (.ref a) : Sem Flow) (SP X pins D) X.xe s4) X.xe { s' with heap := h3 } := by
          rw [hf]; exact HandSPX.setFlight_upZ fl fun h4 hh4 up4 => wpAny_throw (tk _ _ ⟨a, B, sI, pins, σ', H', cls, d, rfl, J, nb, (up.trans up3).trans up4, .inr (.inr (by rw [hs]; exact hh4)), na, os, ag, w⟩)
        first | exact wpAny_bind (wpAny_pure (wpAny_bind fin)) | exact wpAny_bind fin
      | @as_ x n c i ts b₀ suite np pos' hds2 l2 hc hi hln hsu r ih =>
        intro w; obtain ⟨b, hb1, hyes, hno⟩ := w; refine wpAny_handleBy_cons (codeAny_handlers_test (test hc ((PySem.W.exm_one (M := model X.prog X.w) (J3.kIn) LT hb1).here ?_))) (by intro q; cases q)
        cases b with
        | true =>
          refine codeAny_handlers_suite_as (HandSPX.lands_againZ fl fun h4 fl4 up4 => ?_)
          have J4 : Inv X pins σ' H' { s' with heap := h4 } := J.landed nb fl4.1 ((up.trans up3).trans up4) os ag; obtain ⟨oe4, vs4, he4, hz4, hd4⟩ := fl4.there
          refine store_ok (X := X.suite a ((a, oe4) :: (X.pn ++ pins))) (v := .ref a) (J4.suite he4 hd4 na nL nF) hN hi (.inl hln) rfl (fun s5 S5 => ?_) (.inr hln)
          refine wpAny_mono ((hsu a oe4 cls d (X.pn ++ pins) hz4 ⟨_, hd4⟩).run [] s5 _ H' _ S5 (hyes rfl a na)) (fun f s6 hsp => ?_) (fun _ _ z => False.elim z)
          have end_ : ∀ {σ6 : L2.St} {H6 : Hp} {Q : Shared → Prop}, Inv (X.suite a ((a, oe4) :: (X.pn ++ pins))) [] σ6 H6 s6 → (∀ s7, Inv X pins (σ6.set i none) H6 s7 → Q s7) → wpAny (model X.prog X.w) X.A (do bindName X.env n .none; unbindBehindTheSuite X.env n pos') (fun _ s7 => Q s7) X.xe s6 :=
            fun {σ6 H6 Q} S6 hq => gone_ok (S6.unsuite ok) hN hi hln hq
          cases f with
          | next => obtain ⟨σ6, H6, S6, q6⟩ := hsp; exact end_ S6 fun s7 J7 => ⟨_, _, J7, q6⟩
          | brk => obtain ⟨σ6, H6, S6, q6⟩ := hsp; exact end_ S6 fun s7 J7 => ⟨_, _, J7, q6⟩
          | cont => obtain ⟨σ6, H6, S6, q6⟩ := hsp; exact end_ S6 fun s7 J7 => ⟨_, _, J7, q6⟩
          | ret u => obtain ⟨v6, σ6, H6, S6, r6, q6⟩ := hsp; exact end_ S6 fun s7 J7 => ⟨_, _, _, J7, r6, q6⟩
        | false => show wpAny _ X.A (handleBy (.ref a) X.env hds2) _ _ _; exact ih (hno rfl)
      | @no x c ts b₀ suite np pos' hds2 l2 hc hsu r ih =>
        intro w; obtain ⟨b, hb1, hyes, hno⟩ := w; refine wpAny_handleBy_cons (codeAny_handlers_test (test hc ((PySem.W.exm_one (M := model X.prog X.w) (J3.kIn) LT hb1).here ?_))) (by intro q; cases q)
        cases b with
        | true =>
          refine codeAny_handlers_suite (HandSPX.lands_againZ fl fun h4 fl4 up4 => ?_)
          have J4 : Inv X pins σ' H' { s' with heap := h4 } := J.landed nb fl4.1 ((up.trans up3).trans up4) os ag; obtain ⟨oe4, vs4, he4, hz4, hd4⟩ := fl4.there
          refine wpAny_mono ((hsu a oe4 cls d (X.pn ++ pins) hz4 ⟨_, hd4⟩).run [] _ _ H' _ (J4.suite he4 hd4 na nL nF) (hyes rfl a na)) (fun f s6 hsp => ?_) (fun _ _ z => False.elim z)
          cases f with
          | next => obtain ⟨σ6, H6, S6, q6⟩ := hsp; exact ⟨_, _, S6.unsuite ok, q6⟩
          | brk => obtain ⟨σ6, H6, S6, q6⟩ := hsp; exact ⟨_, _, S6.unsuite ok, q6⟩
          | cont => obtain ⟨σ6, H6, S6, q6⟩ := hsp; exact ⟨_, _, S6.unsuite ok, q6⟩
          | ret u => obtain ⟨v6, σ6, H6, S6, r6, q6⟩ := hsp; exact ⟨_, _, _, S6.unsuite ok, r6, q6⟩
        | false => show wpAny _ X.A (handleBy (.ref a) X.env hds2) _ _ _; exact ih (hno rfl)
    exact go hh w
  · cases f with
    | next => obtain ⟨σ', H', J', q⟩ := hsp; exact wpAny_execs_nil ⟨σ', H', J'.ofTry ok, q⟩
    | brk => obtain ⟨σ', H', J', q⟩ := hsp; exact ⟨σ', H', J'.ofTry ok, q⟩
    | cont => obtain ⟨σ', H', J', q⟩ := hsp; exact ⟨σ', H', J'.ofTry ok, q⟩
    | ret u => obtain ⟨v, σ', H', J', r, q⟩ := hsp; exact ⟨v, σ', H', J'.ofTry ok, r, q⟩
end
end Nw
set_option maxRecDepth 100000
set_option maxHeartbeats 4000000
namespace Nw
open PySem PySem.Spec PyProof.Rows L2
/-! ### data of lists and tuples, as the kit's readings have it -/
mutual
def D.pd : D → PyData
  | .sc (.int i) => .int i
  | .sc (.str z) => .str z
  | .sc (.bl b) => .bool b
  | .sc _ => .none
  | .lst xs => .list (D.pds xs)
  | .tup xs => .tuple (D.pds xs)
  | .dct _ => .none
  | .obj _ _ => .none
def D.pds : List D → List PyData
  | [] => []
  | d :: r => d.pd :: D.pds r
end
mutual
/-- of scalars, lists and tuples alone -/
def D.sq : D → Bool
  | .sc (.int _) => true
  | .sc (.str _) => true
  | .sc (.bl _) => true
  | .sc .non => true
  | .sc _ => false
  | .lst xs => D.sqs xs
  | .tup xs => D.sqs xs
  | .dct _ => false
  | .obj _ _ => false
def D.sqs : List D → Bool
  | [] => true
  | d :: r => d.sq && D.sqs r
end
theorem D.pds_map : ∀ xs : List D, D.pds xs = xs.map D.pd
  | [] => rfl
  | d :: r => by rw [D.pds, D.pds_map r] <;> rfl
theorem D.sqs_all : ∀ xs : List D, D.sqs xs = xs.all D.sq
  | [] => rfl
  | d :: r => by rw [D.sqs, D.sqs_all r] <;> rfl
mutual
theorem Rep.dp {K : PySem.W.Frag} {H : Hp} : ∀ (d : D) (v : V), Rep H d v → d.sq = true → Dp K H v d.pd
  | .sc x, v, h, q => by
    rw [h.sc_eq]
    cases x with
    | int i => exact .int i
    | str z => exact .str z
    | bl b => exact .bl b
    | non => exact .non
    | _ => cases q
  | .lst xs, v, h, q => by
    obtain ⟨a, vs, rfl, hr, hl, k⟩ := h.lst_of
    exact .lst (.inl hr) (Rep.dps xs vs hl k q)
  | .tup xs, v, h, q => by
    obtain ⟨a, vs, rfl, hr, hl, k⟩ := h.tup_of
    exact .tup (.inl hr) (Rep.dps xs vs hl k q)
  | .dct _, _, _, q => by cases q
  | .obj _ _, _, _, q => by cases q
theorem Rep.dps {K : PySem.W.Frag} {H : Hp} : ∀ (ds : List D) (vs : List V), vs.length = ds.length → (∀ (i : Nat) d x, ds[i]? = some d → vs[i]? = some x → Rep H d x) → D.sqs ds = true → DpAll K H vs (D.pds ds)
  | [], [], _, _, _ => .nil
  | [], _ :: _, h, _, _ => by cases h
  | _ :: _, [], h, _, _ => by cases h
  | d :: ds, v :: vs, hl, k, q => by
    rw [D.sqs, Bool.and_eq_true] at q
    exact .cons (Rep.dp d v (k 0 d v rfl rfl) q.1) (Rep.dps ds vs (by simpa using hl) (fun i d x a b => k (i + 1) d x (by simpa using a) (by simpa using b)) q.2)
end
/-! ### sorted(xs) of a list of data, of any length -/
def rSortN (K : PySem.W.Frag) : List V → Hp → VK → Prop := fun vs H Q => ∃ (a : Addr) (bs : List (V × PyData)), vs = [V.ref a] ∧ SqL K H a (bs.map (·.1)) ∧ (∀ b ∈ bs, Dp K H b.1 b.2 ∧ b.2.depth ≤ 64) ∧ PySem.W.AllAlike (bs.map (·.2)) ∧ PySem.W.Sortable (bs.map (·.2)) ∧
  ∀ p, H p = none → Q (.ref p) (upd H p (.lst ((bs.mergeSort (PySem.W.dataLe false (·.2))).map (·.1))))
theorem each_of {K : PySem.W.Frag} {R : Value → V × PyData → Prop} : ∀ {bs : List (V × PyData)} {its : List Value}, (∀ v b, b ∈ bs → RelV b.1 v → R v b) → Vals (bs.map (·.1)) its → PySem.W.EachIs R its bs
  | [], [], _, _ => .nil
  | [], _ :: _, _, h => by cases h
  | _ :: _, [], _, h => by cases h
  | b :: bs, v :: its, f, h => by
    cases h with
    | cons h1 h2 => exact .cons (f v b (List.mem_cons_self ..) h1) (each_of (K := K) (fun v b hb => f v b (List.mem_cons_of_mem _ hb)) h2)
theorem each_to : ∀ {bs : List (V × PyData)} {out : List Value}, PySem.W.EachIs (fun v b => RelV b.1 v) out bs → Vals (bs.map (·.1)) out
  | _, _, .nil => .nil
  | _, _, .cons h t => .cons h (each_to t)
theorem cr_sortN {X : Cx} (hu : X.A.units + 100 < cLine) : CallR X (.builtin "sorted") (rSortN X.K) := by
  intro pins s σ H vs us Q I r h
  obtain ⟨a, bs, rfl, hs, hd, hal, hk, q⟩ := h
  obtain ⟨its, rv, hl, hz⟩ := I.list hs
  obtain ⟨u, rfl, ru⟩ := vals1 r
  obtain rfl : u = Value.ref a := ru
  have hz' : bs.length ≤ sizeLine := by simpa using hz
  refine PySem.W.sorted_data (vs := its) (bs := bs) (enc := (·.2)) (R := fun v b => RelV b.1 v) hl.isList (each_of (K := X.K) (fun v b _ h => h) rv) (each_of (K := X.K) (fun v b hb h => Dp.reads I _ _ _ (hd b hb).1 h) rv) hal hk hz' (fun b hb => ?_) fun out hol eo => ?_
  · have := (hd b hb).2
    omega
  · obtain ⟨c, hc⟩ := PyProof.Rows.sortedAll_at s.heap its out.toArray
    have hlen : ((bs.mergeSort (PySem.W.dataLe false (·.2))).map (·.1)).length ≤ sizeLine := by
      rw [List.length_map, List.length_mergeSort]
      exact hz'
    refine ⟨.ref (s.heap.objs.size + 1), upd H (s.heap.objs.size + 1) (.lst ((bs.mergeSort (PySem.W.dataLe false (·.2))).map (·.1))), I.laid (t' := s.toks) (fun _ _ => PyProof.Rows.sortedAll_old) (Nat.le_succ _) ⟨hlen, out, c, each_to eo, hc⟩, rfl, q _ (I.hok.fresh (Nat.le_succ _))⟩
end Nw
set_option maxRecDepth 100000
set_option maxHeartbeats 4000000
namespace Nw
open PySem PySem.Spec PyProof.Rows L2
/-! ### enumerate(t), t a tuple -/
section
variable {prog : Program} {w : World} {A : Around} {E : Value → Shared → Prop} {s : Shared}
theorem meets_enumB {v : Value} {o : Obj} {H : Heap → Prop} (B : Begins v o H) :
    Meets (Builtin.«enumerate.__new__» ⟨[.type "enumerate", v], []⟩) (fun _ R s => H s.heap ∧ R (.ok (.ret (.ref (s.heap.push o).objs.size))) { s with heap := (s.heap.push o).push { cls := .type "enumerate", data := .fields #[.none, .bool false, .ref s.heap.objs.size, rawInt 0, .none, .none] } }) :=
  .of_wp fun prog w A R s h => by
    obtain ⟨hp, g, d, tk, os⟩ := s
    obtain ⟨h1, h⟩ := h
    have hsub := sub_enumerate
    have it1 : ∀ {A' : Around} {E : Value → Shared → Prop} {Q : Value → Shared → Prop}, Q (.ref hp.objs.size) ⟨hp.push o, g, d, tk, os⟩ → wpAny (model prog w) A' (pyIter v) Q E ⟨hp, g, d, tk, os⟩ := fun q => B.iter prog w _ _ ⟨hp, g, d, tk, os⟩ _ h1 q
    wp_walk using it1
    refine wpAny_stack_any fun st => wpAny_pure ?_
    split
    · rename_i c _ _ _ _ _
      cases (c == Value.type "enumerate") <;> (wp_walk using it1; exact ⟨_, rfl, h⟩)
    · wp_walk using it1
      exact ⟨_, rfl, h⟩
theorem call_enumB {v : Value} {o : Obj} {H : Heap → Prop} {Q : Value → Shared → Prop} (B : Begins v o H) (h1 : H s.heap)
    (h : ∀ h', IsEnum h' (s.heap.objs.size + 1) s.heap.objs.size 0 .none → h'.get? s.heap.objs.size = some o → (∀ b o, s.heap.get? b = some o → h'.get? b = some o) → Q (.ref (s.heap.objs.size + 1)) { s with heap := h' }) : wpAny (model prog w) A (call (.type "enumerate") [v]) Q E s := by
  refine callType_new F.called_enumerate (by decide) (F.typeCall_enumerate_1 _) (F.newCall_enumerate_1 _) (fun obj => F.args_object_init_2 obj _) F.entry_enumerate_new (meets_enumB B) ⟨h1, ?_⟩
  have hz : (s.heap.push o).objs.size = s.heap.objs.size + 1 := Heap.size_push ..
  have he : IsEnum ((s.heap.push o).push { cls := .type "enumerate", data := .fields #[.none, .bool false, .ref s.heap.objs.size, rawInt 0, .none, .none] }) (s.heap.objs.size + 1) s.heap.objs.size 0 .none := by
    have q := Heap.get?_push_size (s.heap.push o) (o := { cls := .type "enumerate", data := .fields #[.none, .bool false, .ref s.heap.objs.size, rawInt 0, .none, .none] }) rfl
    rw [hz] at q; exact q
  show _ ∧ _
  rw [hz]
  exact ⟨⟨_, he, rfl⟩, h _ he (Heap.get?_push_of_some _ (Heap.get?_push_size _ B.free)) fun b o x => Heap.get?_push_of_some _ (Heap.get?_push_of_some _ x)⟩
end
/-- the tuple at a, its items in new pairs -/
def Itet (K : PySem.W.Frag) (a : Addr) : It :=
  ⟨fun i H => ∃ (xs : List V) (x : V), SqT K H a xs ∧ xs[i]? = some x, fun i H v H' => ∃ T x, v = .ref T ∧ H T = none ∧ H' = upd H T (.tup [.int (i : Nat), x]) ∧ ∀ xs, SqT K H a xs → xs[i]? = some x, fun i H => ∃ xs : List V, SqT K H a xs ∧ xs.length ≤ i⟩
theorem turn_enumT {P : Program} {w : World} {K : PySem.W.Frag} {elts : List Expr} {kk : Nat} {tpos : Pos} (a e it : Addr) :
    Turn P w K (.Tuple elts kk tpos) (Itet K a) [e, it] e (fun i h => (∃ old, IsEnum h e it ((i : Nat) : Int) old) ∧ h.IsTupleIter it a i ∧ e ≠ it ∧ a ≠ it ∧ e ≠ a) where
  mem := by simp
  obj := fun i h st b hb => by
    obtain ⟨⟨old, he⟩, ⟨o, ho, hc, hd⟩, _⟩ := st
    have e' : b = e ∨ b = it := by simpa using hb
    rcases e' with z | z
    · exact ⟨_, by rw [z]; exact he, fun v q => by cases q⟩
    · exact ⟨o, by rw [z]; exact ho, fun v q => by rw [hd] at q; cases q⟩
  keep := fun i h h' st k => let ⟨⟨old, he⟩, hi, hne⟩ := st; ⟨⟨old, k e (by simp) _ he⟩, hi.at fun o q => k it (by simp) o q, hne⟩
  item := by
    intro X hP hw hK hc i pins s σ H E I hf st hg
    subst hP hw hK
    obtain ⟨⟨old, he⟩, hit, hne, hai, hea⟩ := st; obtain ⟨xs, x, hq, hx⟩ := hg
    obtain ⟨its, rv, p, hz⟩ := I.tuple hq; obtain ⟨u, hu, ru⟩ := rv.get hx
    have hel : e < s.heap.objs.size := Heap.lt_size he
    have hil : it < s.heap.objs.size := by obtain ⟨_, q, _⟩ := hit; exact Heap.lt_size q
    have hi : i < its.toArray.size := by
      have z := (List.getElem?_eq_some_iff.mp hx).1; have z2 := rv.length
      simp; omega
    refine wpAny_pyNext_enum_itemD (Draws.tuple (A := X.A.in1) (I.ok.hd hc) it a hai its.toArray) he ⟨hit, p⟩ hi hne (by simp [hne, hea]) fun y h' tk hy ho hs' hT hsz hk => ?_
    have ey : y = u := by rw [List.getElem?_toArray] at hy; rw [hu] at hy; exact (Option.some.inj hy).symm
    subst ey
    refine ⟨_, rfl, wpAny_letOwnedTupleGo_enum (s := { s with heap := h', toks := tk + 1 }) ho fun h'' he' sb => ?_⟩
    have hT2 : h''.get? s.heap.objs.size = some { cls := .type "tuple", data := .seq #[.int i tk, y] } := (sb.2 _ (Nat.ne_of_gt hel)).trans hT
    have new : ObjOk X.prog X.w (upd H s.heap.objs.size (.tup [.int (i : Nat), x])) h'' s.heap.objs.size (.tup [.int (i : Nat), x]) := ⟨by show 2 ≤ sizeLine; decide, [.int i tk, y], .cons ⟨_, rfl⟩ (.cons ru .nil), ⟨_, hT2, rfl, _, rfl⟩⟩
    have I1 : Inv X pins σ (upd H s.heap.objs.size (.tup [.int (i : Nat), x])) { s with heap := h'', toks := tk + 1 } :=
      I.turnedNew (ch := [e, it]) (fun b ob hb q => (sb.2 b (fun z => hb (by simp [z]))).trans (hk b ob (fun z => hb (by simp [z])) (fun z => hb (by simp [z])) q)) hf (Nat.le_refl _) new
    refine ⟨.ref s.heap.objs.size, _, I1, rfl, ⟨_, x, rfl, I.hok.fresh (Nat.le_refl _), rfl, fun ys hy => by rw [I.tuple_inj hy hq]; exact hx⟩, ⟨⟨y, ?_⟩, hs'.1.at fun o q => (sb.2 it (Ne.symm hne)).trans q, hne, hai, hea⟩, fun b hb => ?_⟩
    · have e1 : ((i + 1 : Nat) : Int) = (i : Int) + 1 := by omega
      rw [e1]; exact he'
    · have e' : b = e ∨ b = it := by simpa using hb
      have hb' : b < s.heap.objs.size := by
        rcases e' with z | z <;> rw [z] <;> assumption
      rw [upd_ne (Nat.ne_of_lt hb')]; exact (hf b hb).1
  done := by
    intro X hP hw hK hc i pins s σ H E I hf st hg
    subst hP hw hK
    obtain ⟨⟨old, he⟩, hit, hne, hai, hea⟩ := st; obtain ⟨xs, hq, hx⟩ := hg
    obtain ⟨its, rv, p, hz⟩ := I.tuple hq; obtain ⟨f0, f1, f2, f3, f4, f5⟩ := hf it (by simp)
    have hl := rv.length
    unfold pyNext
    refine wpAny_bind (wpAny_attempt (wpAny_callSpecial?_slot (name := Str.ofString "__next__") ⟨_, he, rfl⟩ F.slot_enumerate_next (wpAny_call_entry F.slot_enumerate_next ⟨_, he, rfl⟩ F.entry_enumerate_next ?_ (F.args_enumerate_next_1 _))))
    show wpAny _ _ (field (.ref e) 2 >>= _) _ _ _
    refine wpAny_bind (wpAny_field he rfl (x := .ref it) rfl (wpAny_bind (wpAny_nextOf_tuple_end (A := X.A.in1) (I.ok.hd hc) hit (show s.heap.IsTuple a its.toArray from p) (by simp; omega) fun h' x eb hx' => ?_)))
    obtain ⟨o, ho, hcc⟩ := hx'
    exact wpAny_bind (wpAny_isInstance (T := "StopIteration") (b := true) ⟨o, ho, hcc⟩ isSubtype_stop (wpAny_pure ⟨rfl, I.turned (t' := s.toks) (fun b o hb e => eb b o hb e) f0 f1 f3 f4 f5⟩))
  self := fun A i s Q E st h => let ⟨⟨_, he⟩, _⟩ := st; wpAny_pyIter_enum he h
def iEnumT (K : PySem.W.Frag) (ta : TA) : TI := fun σ H R => ta σ H fun vs H1 => ∃ a xs, vs = [.ref a] ∧ SqT K H1 a xs ∧ R (Itet K a) H1
theorem pi_enumT {X : Cx} {e : Expr} {ta : TA} {p pos tpos : Pos} {elts : List Expr} {kk : Nat} (hg : Gl X "enumerate") (hm : X.mg "enumerate" = none) (ha : PA X [e] ta) (hs : starEach [e] X.env = [(false, eval e X.env)] := by rfl) :
    PI X (.Tuple elts kk tpos) (.Call (.Name "enumerate" p) [e] [] pos) (iEnumT X.K ta) := by
  refine ⟨fun pins s σ H R I h => Call_ (ld_blt I hg hm boot_enumerate (PyProof.Rows.callWith_type1 (thn (ha.run pos pins s σ H _ I h) fun us s1 ⟨vs, H1, I1, r1, q1⟩ => ?_) hs rfl))⟩
  obtain ⟨a, xs, ex, hq, q⟩ := q1
  subst ex
  cases r1 with
  | cons r rr =>
    cases rr
    cases r
    obtain ⟨its, rv, p', hz⟩ := I1.tuple hq
    have hal : a < s1.heap.objs.size := by obtain ⟨o, ho, _⟩ := p'; exact Heap.lt_size ho
    refine call_enumB (begins_tuple a its.toArray) (show s1.heap.IsTuple a its.toArray from p') fun h' he hit hk => wpAny_pyIter_enum he ?_
    have I2 : Inv X pins σ H1 { s1 with heap := h' } := I1.kept (t' := s1.toks) hk
    refine ⟨s1.heap.objs.size + 1, [s1.heap.objs.size + 1, s1.heap.objs.size], _, _, H1, rfl, I2, turn_enumT a (s1.heap.objs.size + 1) s1.heap.objs.size, ⟨⟨.none, he⟩, ⟨_, hit, rfl, rfl⟩, Nat.succ_ne_self _, Nat.ne_of_lt hal, Nat.ne_of_gt (Nat.lt_succ_of_lt hal)⟩, fun b hb => ?_, q⟩
    have e' : b = s1.heap.objs.size + 1 ∨ b = s1.heap.objs.size := by simpa using hb
    have hle : s1.heap.objs.size ≤ b := by
      rcases e' with z | z <;> rw [z]
      · exact Nat.le_add_right _ _
      · exact Nat.le_refl _
    exact I1.fpOk hle (I1.hok.fresh hle)
theorem walk_enumT {K : PySem.W.Frag} {a : Addr} {xs : List V} : Walk (Itet K a) xs.length (fun H => SqT K H a xs) (YPair (fun i => some (.int (i : Nat))) (fun i => xs[i]?)) :=
  ⟨fun i _ hi q => ⟨xs, xs[i], q, by simp [hi]⟩, fun _ q => ⟨xs, q, Nat.le_refl _⟩, fun i H v H' _ q ⟨T, x, h1, h2, h3, h4⟩ => ⟨T, .int (i : Nat), x, h1, h2, h3, rfl, h4 xs q⟩⟩
end Nw
set_option maxRecDepth 100000
set_option maxHeartbeats 4000000
namespace Nw
open PySem PySem.Spec PyProof.Rows L2
/-! ### lists and tuples, owned or known, as a whole -/
/-- x is the list ds -/
inductive HasL (R : RL) (L : LL) : V → List D → Prop
  | r {x : V} {ds : List D} : (D.lst ds, x) ∈ R → HasL R L x ds
  | o {p : Addr} {ds : List D} : (p, OD.lst ds) ∈ L → HasL R L (.ref p) ds
section
variable {R R' : RL} {L : LL} {H : Hp} {x y v : V} {ds es : List D} {d : D} {Q : VK} {K : PySem.W.Frag}
theorem At.addAll {zs : List (D × V)} (h : At R L H) (f : ∀ B : Hp, (∀ a o, B a = some o → H a = some o) → (∀ d v, (d, v) ∈ R → Rep B d v) → Own B H L → ∀ z ∈ zs, Rep B z.1 z.2) : At (zs ++ R) L H := by
  obtain ⟨B, s, r, w⟩ := h
  exact ⟨B, s, fun d v m => (List.mem_append.mp m).elim (fun m => f B s r w _ m) (r d v), w⟩
theorem zip_rep {B : Hp} {xs : List V} (q : Reps B ds xs) : ∀ z ∈ ds.zip xs, Rep B z.1 z.2 := fun z hz => by
  obtain ⟨i, hi⟩ := List.getElem?_of_mem hz
  obtain ⟨h1, h2⟩ := List.getElem?_zip_eq_some.mp hi
  exact q.2 i _ _ h1 h2
theorem At.items (h : At R L H) (m : HasL R L x ds) : ∃ p xs, x = .ref p ∧ Rd H p (.lst xs) ∧ xs.length = ds.length ∧ At (ds.zip xs ++ R) L H := by
  cases m with
  | r m =>
    obtain ⟨p, xs, rfl, hr, hl, _⟩ := h.lstR m
    refine ⟨p, xs, rfl, hr, hl, h.addAll fun B s r w => ?_⟩
    obtain ⟨p', xs', e, hr', hl', q⟩ := (r _ _ m).lst_of
    cases e
    cases Rd.one hr (Rd.frzOf s hr') rfl rfl
    exact zip_rep ⟨hl', q⟩
  | @o p _ m =>
    obtain ⟨xs, e, hl, _⟩ := h.lst m
    refine ⟨p, xs, rfl, .inl e, hl, h.addAll fun B s r w => ?_⟩
    obtain ⟨_, o', e', xs', rfl, q'⟩ := (w.at_ _ _ m).own (fun _ _ z => nomatch z)
    rw [e] at e'
    cases e'
    exact zip_rep q'
theorem At.itemsT (h : At R L H) (m : (D.tup ds, x) ∈ R) : ∃ p xs, x = .ref p ∧ Rd H p (.tup xs) ∧ xs.length = ds.length ∧ At (ds.zip xs ++ R) L H := by
  obtain ⟨p, xs, rfl, hr, hl, _⟩ := h.tupR m
  refine ⟨p, xs, rfl, hr, hl, h.addAll fun B s r w => ?_⟩
  obtain ⟨p', xs', e, hr', hl', q⟩ := (r _ _ m).tup_of
  cases e
  cases Rd.one hr (Rd.frzOf s hr') rfl rfl
  exact zip_rep ⟨hl', q⟩
theorem AllR.of_mem : ∀ {zs : List (D × V)}, (∀ z ∈ zs, z ∈ R) → AllR R (zs.map (·.1)) (zs.map (·.2))
  | [], _ => .nil
  | z :: zs, h => .cons (.mem (h z (List.mem_cons_self ..))) (AllR.of_mem fun y hy => h y (List.mem_cons_of_mem _ hy))
theorem zip_fst {α β : Type} {xs : List α} {ys : List β} (h : ys.length = xs.length) : (xs.zip ys).map (·.1) = xs := List.map_fst_zip (by omega)
theorem zip_snd {α β : Type} {xs : List α} {ys : List β} (h : ys.length = xs.length) : (xs.zip ys).map (·.2) = ys := List.map_snd_zip (by omega)
theorem AllR.append {ds es : List D} {xs ys : List V} (h : AllR R ds xs) (k : AllR R es ys) : AllR R (ds ++ es) (xs ++ ys) := by
  induction h with
  | nil => exact k
  | cons a _ ih => exact .cons a ih
theorem AllR.mono {R' : RL} {ds : List D} {xs : List V} (h : AllR R ds xs) (k : ∀ z, z ∈ R → z ∈ R') : AllR R' ds xs := by
  induction h with
  | nil => exact .nil
  | cons a _ ih => exact .cons (by cases a with | sc => exact .sc | mem m => exact .mem (k _ m)) ih
theorem At.tail {zs : List (D × V)} (h : At (zs ++ R) L H) : At R L H := h.sub fun z m => List.mem_append_right _ m
/-- a new list of items that are known under R' -/
theorem At.mkL {zs : List (D × V)} {p : Addr} {es : List D} {ys : List V} (h : At (zs ++ R) L H) (hp : H p = none) (a : AllR (zs ++ R) es ys) : At R ((p, .lst es) :: L) (upd H p (.lst ys)) := (h.newLst hp a).tail
theorem At.mkT {zs : List (D × V)} {p : Addr} {es : List D} {ys : List V} (h : At (zs ++ R) L H) (hp : H p = none) (a : AllR (zs ++ R) es ys) : At ((.tup es, .ref p) :: R) L (upd H p (.tup ys)) :=
  (h.newTup hp a).sub fun z m => by
    rcases List.mem_cons.mp m with e | m
    · exact e ▸ List.mem_cons_self
    · exact List.mem_cons_of_mem _ (List.mem_append_right _ m)
theorem all_zip {xs : List V} {zs' : List (D × V)} (hl : xs.length = ds.length) : AllR (ds.zip xs ++ R) ds xs := by
  have a := AllR.of_mem (R := ds.zip xs ++ R) (zs := ds.zip xs) fun z m => List.mem_append_left _ m
  rwa [zip_fst hl, zip_snd hl] at a
/-! #### the copies -/
theorem r_list (hA : At R L H) (m : HasL R L x ds) (q : ∀ p H', At R ((p, OD.lst ds) :: L) H' → Q (.ref p) H') : BR (fun xs H Q => ∃ p ys, xs = [.ref p] ∧ (SqL K H p ys ∨ SqT K H p ys) ∧ ∀ l, H l = none → Q (.ref l) (upd H l (.lst ys))) [x] H Q := by
  obtain ⟨p, xs, rfl, hr, hl, h⟩ := hA.items m
  exact ⟨p, xs, rfl, .inl (.inl hr), fun l hn => q l _ (h.mkL hn (all_zip (zs' := []) hl))⟩
theorem r_listT (hA : At R L H) (m : (D.tup ds, x) ∈ R) (q : ∀ p H', At R ((p, OD.lst ds) :: L) H' → Q (.ref p) H') : BR (fun xs H Q => ∃ p ys, xs = [.ref p] ∧ (SqL K H p ys ∨ SqT K H p ys) ∧ ∀ l, H l = none → Q (.ref l) (upd H l (.lst ys))) [x] H Q := by
  obtain ⟨p, xs, rfl, hr, hl, h⟩ := hA.itemsT m
  exact ⟨p, xs, rfl, .inr (.inl hr), fun l hn => q l _ (h.mkL hn (all_zip (zs' := []) hl))⟩
theorem r_tuple (hA : At R L H) (m : HasL R L x ds) (q : ∀ v H', At ((D.tup ds, v) :: R) L H' → Q v H') :
    BR (fun xs H Q => ∃ p ys, xs = [.ref p] ∧ ((SqL K H p ys ∧ ∀ l, H l = none → Q (.ref l) (upd H l (.tup ys))) ∨ (SqT K H p ys ∧ Q (.ref p) H))) [x] H Q := by
  obtain ⟨p, xs, rfl, hr, hl, h⟩ := hA.items m
  exact ⟨p, xs, rfl, .inl ⟨.inl hr, fun l hn => q _ _ (h.mkT hn (all_zip (zs' := []) hl))⟩⟩
/-! #### slices -/
def cut {α : Type} (xs : List α) (lo hi : Option Int) : List α := (xs.drop (HT.sIx xs.length 0 lo)).take (HT.sIx xs.length xs.length hi - HT.sIx xs.length 0 lo)
theorem cut_map {α β : Type} (f : α → β) (xs : List α) (lo hi : Option Int) : (cut xs lo hi).map f = cut (xs.map f) lo hi := by
  unfold cut
  rw [List.map_take, List.map_drop, List.length_map]
theorem cut_mem {α : Type} {xs : List α} {lo hi : Option Int} {z : α} (h : z ∈ cut xs lo hi) : z ∈ xs := List.mem_of_mem_drop (List.mem_of_mem_take h)
theorem all_cut {xs : List V} (hl : xs.length = ds.length) (lo hi : Option Int) : AllR (ds.zip xs ++ R) (cut ds lo hi) (cutV xs lo hi) := by
  have a := AllR.of_mem (R := ds.zip xs ++ R) (zs := cut (ds.zip xs) lo hi) fun z m => List.mem_append_left _ (cut_mem m)
  rwa [cut_map, cut_map, zip_fst hl, zip_snd hl] at a
theorem r_slL {lo hi : Option Int} (hA : At R L H) (m : HasL R L x ds) (q : ∀ p H', At R ((p, OD.lst (cut ds lo hi)) :: L) H' → Q (.ref p) H') : rSlL K x lo hi H Q := by
  obtain ⟨p, xs, rfl, hr, hl, h⟩ := hA.items m
  exact ⟨p, xs, rfl, .inl hr, fun l hn => q l _ (h.mkL hn (all_cut hl lo hi))⟩
theorem r_slT {lo hi : Option Int} (hA : At R L H) (m : (D.tup ds, x) ∈ R) (q : ∀ v H', At ((D.tup (cut ds lo hi), v) :: R) L H' → Q v H') : rSlA K x lo hi H Q := by
  obtain ⟨p, xs, rfl, hr, hl, h⟩ := hA.itemsT m
  refine ⟨p, xs, rfl, .inl hr, fun ⟨h1, h2⟩ => ?_, fun _ l hn => q _ _ (h.mkT hn (all_cut hl lo hi))⟩
  have e : cut ds lo hi = ds := by
    unfold cut
    rw [← hl, h1, h2, hl]
    simp
  exact q _ _ (by rw [e]; exact hA.addR (.mem m))
/-! #### sums -/
/-- list + list, both as they stand -/
def rCatL (K : PySem.W.Frag) : R2 := fun x y H Q => ∃ l b xs zs, x = .ref l ∧ y = .ref b ∧ SqL K H l xs ∧ SqL K H b zs ∧ xs.length + zs.length ≤ sizeLine ∧ ∀ p, H p = none → Q (.ref p) (upd H p (.lst (xs ++ zs)))
theorem op_catL {X : Cx} : OpR X (binaryOp .Add) (rCatL X.K) := by
  intro pins s σ H x y v u Q I rx ry h
  obtain ⟨l, b, xs, zs, rfl, rfl, hH, hB, hz, q⟩ := h
  cases rx
  cases ry
  obtain ⟨its, r, p1, _⟩ := I.list hH
  obtain ⟨its2, r2, p2, _⟩ := I.list hB
  obtain ⟨⟨oc, od, odt, osl⟩, e, h1, n, h3⟩ := id p1.isList
  obtain ⟨⟨oc2, od2, odt2, osl2⟩, e2, k1, n2, k3⟩ := id p2.isList
  dsimp only at h1 h3 k1 k3
  subst h1 h3 k1 k3
  have hl := r.length
  have hl2 := r2.length
  have key : Q (.ref s.heap.objs.size) (upd H s.heap.objs.size (.lst (xs ++ zs))) := q _ I.fresh
  refine concat_meets ⟨_, e, rfl⟩ ⟨_, e2, rfl⟩ noFill_list_add seq_list_add PySem.F.slot_list_add PySem.F.entry_list_add (PySem.F.args_list_add_2 _ _) (list_addW l b its.toArray its2.toArray n n2 od od2 osl osl2 (by rw [List.size_toArray, List.size_toArray]; omega)) ⟨e, e2, ?_⟩
  rw [show its.toArray ++ its2.toArray = (its ++ its2).toArray from by simp]
  exact ⟨.ref _, _, I.lnew (t' := s.toks) (r.append r2) (by rw [List.length_append]; omega), rfl, key⟩
end
end Nw
set_option maxRecDepth 100000
set_option maxHeartbeats 4000000
namespace Nw
open PySem PySem.Spec PyProof.Rows L2
section
variable {R R' : RL} {L : LL} {H : Hp} {x y v : V} {ds es : List D} {d : D} {Q : VK} {K : PySem.W.Frag} {p : Addr}
theorem HasL.mono {R' : RL} (h : HasL R L x ds) (k : ∀ z, z ∈ R → z ∈ R') : HasL R' L x ds := by
  cases h with
  | r m => exact .r (k _ m)
  | o m => exact .o m
theorem r_catL (hA : At R L H) (m1 : HasL R L x ds) (m2 : HasL R L y es) (hz : ds.length + es.length ≤ 1000000) (q : ∀ p H', At R ((p, OD.lst (ds ++ es)) :: L) H' → Q (.ref p) H') : OR (rCatL K) x y H Q := by
  obtain ⟨p1, xs, rfl, hr1, hl1, h1⟩ := hA.items m1
  obtain ⟨p2, ys, rfl, hr2, hl2, h2⟩ := h1.items (m2.mono fun z hm => List.mem_append_right _ hm)
  refine ⟨p1, p2, xs, ys, rfl, rfl, .inl hr1, .inl hr2, by rw [hl1, hl2]; exact line_of hz, fun p hp => q p _ (h2.newLst hp ((all_zip (R := R) (zs' := []) hl1).mono (fun z m => List.mem_append_right _ m) |>.append ?_) |>.tail |>.tail)⟩
  exact all_zip (zs' := []) hl2
theorem all_rep {ds : List D} {xs : List V} (h : AllR R ds xs) : ∀ k : Nat, AllR R (List.replicate k ds).flatten (List.replicate k xs).flatten
  | 0 => .nil
  | k + 1 => by
    rw [List.replicate_succ, List.replicate_succ, List.flatten_cons, List.flatten_cons]
    exact h.append (all_rep h k)
theorem r_rep {k : Int} (hA : At R L H) (m : (p, OD.lst ds) ∈ L) (h1 : -(2 ^ 63) ≤ k) (h2 : k < 2 ^ 63) (hz : ds.length * k.toNat ≤ 1000000) (q : ∀ p' H', At R ((p', OD.lst (List.replicate k.toNat ds).flatten) :: L) H' → Q (.ref p') H') : OR rRep (.ref p) (.int k) H Q := by
  obtain ⟨xs, e, hl, _⟩ := hA.lst m
  obtain ⟨p', xs', ep, hr, hl', h⟩ := hA.items (.o m)
  cases ep
  have ex : xs' = xs := by
    rcases hr with z | ⟨_, z⟩
    · rw [e] at z
      cases z
      rfl
    · rw [e] at z
      cases z
  subst ex
  exact ⟨p, k, xs', rfl, rfl, e, h1, h2, by rw [hl]; exact line_of hz, fun p' hp => q p' _ (h.mkL hp (all_rep (all_zip (zs' := []) hl) _))⟩
theorem r_catT (hA : At R L H) (m1 : (D.tup ds, x) ∈ R) (m2 : (D.tup es, y) ∈ R) (hz : ds.length + es.length ≤ 1000000) (q : ∀ v H', At ((D.tup (ds ++ es), v) :: R) L H' → Q v H') : OR (rCatA K) x y H Q := by
  obtain ⟨p1, xs, rfl, hr1, hl1, h1⟩ := hA.itemsT m1
  obtain ⟨p2, ys, rfl, hr2, hl2, h2⟩ := h1.itemsT (List.mem_append_right _ m2)
  refine ⟨p1, p2, xs, ys, rfl, rfl, .inl hr1, .inl hr2, by rw [hl1, hl2]; exact line_of hz, fun e => ?_, fun _ e => ?_, fun _ _ p hp => ?_⟩
  · have e' : ds = [] := List.eq_nil_of_length_eq_zero (by rw [← hl1, e] <;> rfl)
    exact q _ _ (by rw [e', List.nil_append]; exact hA.addR (.mem m2))
  · have e' : es = [] := List.eq_nil_of_length_eq_zero (by rw [← hl2, e] <;> rfl)
    exact q _ _ (by rw [e', List.append_nil]; exact hA.addR (.mem m1))
  · refine q _ _ ((At.mkT (R := ds.zip xs ++ R) h2 hp (((all_zip (R := R) (zs' := []) hl1).mono fun z m => List.mem_append_right _ m).append (all_zip (zs' := []) hl2))).sub fun z m => ?_)
    rcases List.mem_cons.mp m with e | m
    · exact e ▸ List.mem_cons_self
    · exact List.mem_cons_of_mem _ (List.mem_append_right _ m)
/-! #### sorted -/
def sortD (ds : List D) : List D := ds.mergeSort (PySem.W.dataLe false D.pd)
theorem r_sort (hA : At R L H) (m : HasL R L x ds) (hs : ∀ d ∈ ds, d.sq = true ∧ d.pd.depth ≤ 64) (ha : PySem.W.AllAlike (ds.map D.pd)) (hk : PySem.W.Sortable (ds.map D.pd)) (q : ∀ p H', At R ((p, OD.lst (sortD ds)) :: L) H' → Q (.ref p) H') : BR (rSortN K) [x] H Q := by
  obtain ⟨p, xs, rfl, hr, hl, h⟩ := hA.items m
  have e1 : ((ds.zip xs).map fun z => (z.2, z.1.pd)).map (·.1) = xs := by
    rw [List.map_map]
    exact zip_snd hl
  have e2 : ((ds.zip xs).map fun z => (z.2, z.1.pd)).map (·.2) = ds.map D.pd := by
    rw [List.map_map]
    have e : ((fun z : V × PyData => z.2) ∘ fun z : D × V => (z.2, z.1.pd)) = D.pd ∘ fun z => z.1 := rfl
    rw [e, ← List.map_map, zip_fst hl]
  refine ⟨p, (ds.zip xs).map fun z => (z.2, z.1.pd), rfl, by rw [e1]; exact .inl hr, fun b hb => ?_, by rw [e2]; exact ha, by rw [e2]; exact hk, fun p' hp => q p' _ ?_⟩
  · obtain ⟨z, hz, rfl⟩ := List.mem_map.mp hb
    have hd : z.1 ∈ ds := (List.of_mem_zip (a := z.1) (b := z.2) hz).1
    exact ⟨Rep.dp _ _ (h.rep (List.mem_append_left _ hz)) (hs _ hd).1, (hs _ hd).2⟩
  · have es : ((ds.zip xs).map fun z => (z.2, z.1.pd)).mergeSort (PySem.W.dataLe false (·.2)) = ((ds.zip xs).mergeSort fun a b => PySem.W.dataLe false D.pd a.1 b.1).map fun z => (z.2, z.1.pd) :=
      (List.map_mergeSort (f := fun z : D × V => (z.2, z.1.pd)) (r := fun a b => PySem.W.dataLe false D.pd a.1 b.1) (s := PySem.W.dataLe false (·.2)) (fun a _ b _ => rfl)).symm
    have ed : sortD ds = ((ds.zip xs).mergeSort fun a b => PySem.W.dataLe false D.pd a.1 b.1).map (·.1) := by
      rw [List.map_mergeSort (s := PySem.W.dataLe false D.pd) (fun a _ b _ => rfl), zip_fst hl] <;> rfl
    rw [es, List.map_map, ed]
    have a := AllR.of_mem (R := ds.zip xs ++ R) (zs := (ds.zip xs).mergeSort fun a b => PySem.W.dataLe false D.pd a.1 b.1) fun z m => List.mem_append_left _ (List.mem_mergeSort.mp m)
    exact h.mkL hp a
/-! #### dicts: len, list -/
theorem call_lenR {X : Cx} : CallR X (.builtin "len") (fun xs H Q => ∃ a kvs, xs = [V.ref a] ∧ Rd H a (.dK kvs) ∧ Q (.int kvs.length) H) := by
  intro pins s σ H xs us Q I r h
  obtain ⟨a, kvs, rfl, ha, q⟩ := h
  obtain ⟨u, rfl, ru⟩ := vals1 r
  cases ru
  exact d_len I ha fun t s' I' => ⟨.int kvs.length, H, I', ⟨t, rfl⟩, q⟩
theorem r_lenD {kds : List (Key × D)} (hA : At R L H) (m : (D.dct kds, x) ∈ R) (q : Q (.int kds.length) H) : BR (fun xs H Q => ∃ a kvs, xs = [V.ref a] ∧ Rd H a (.dK kvs) ∧ Q (.int kvs.length) H) [x] H Q := by
  obtain ⟨a, kvs, rfl, hr, hl, _⟩ := hA.dctR m
  exact ⟨a, kvs, rfl, hr, by rw [show kvs.length = kds.length from by simpa using congrArg List.length hl]; exact q⟩
def keyD (k : Key) : D := .sc (kV k)
theorem r_listD {kds : List (Key × D)} (hA : At R L H) (m : (D.dct kds, x) ∈ R) (q : ∀ p H', At R ((p, OD.lst (kds.map fun kd => keyD kd.1)) :: L) H' → Q (.ref p) H') :
    BR (fun xs H Q => ∃ (a : Addr) (kvs : List (Key × V)), xs = [.ref a] ∧ Rd H a (.dK kvs) ∧ ∀ p, H p = none → Q (.ref p) (upd H p (.lst (kvs.map fun kv => kV kv.1)))) [x] H Q := by
  obtain ⟨a, kvs, rfl, hr, hl, _⟩ := hA.dctR m
  refine ⟨a, kvs, rfl, hr, fun p hp => q p _ (hA.newLst hp ?_)⟩
  have e : (kvs.map fun kv => kV kv.1) = kds.map fun kd => kV kd.1 := by
    have z := congrArg (List.map kV) hl
    rw [List.map_map, List.map_map] at z
    exact z
  have e2 : (kds.map fun kd => keyD kd.1) = (kds.map fun kd => kV kd.1).map D.sc := by rw [List.map_map] <;> rfl
  rw [e, e2]
  exact AllR.scs _
/-! #### data compared -/
theorem r_eqD (hA : At R L H) {d e : D} (m1 : (d, x) ∈ R) (m2 : (e, y) ∈ R) (s1 : d.sq = true) (s2 : e.sq = true) (h1 : SeqAt.shaped d.pd = true) (h2 : SeqAt.shaped e.pd = true) (q : Q (.bl (PyData.eqv d.pd e.pd)) H) : OR (rEqD K) x y H Q :=
  ⟨_, _, Rep.dp _ _ (hA.rep m1) s1, Rep.dp _ _ (hA.rep m2) s2, h1, h2, q⟩
theorem r_neD (hA : At R L H) {d e : D} (m1 : (d, x) ∈ R) (m2 : (e, y) ∈ R) (s1 : d.sq = true) (s2 : e.sq = true) (h1 : SeqAt.shaped d.pd = true) (h2 : SeqAt.shaped e.pd = true) (q : Q (.bl (!PyData.eqv d.pd e.pd)) H) : OR (rNeD K) x y H Q :=
  ⟨_, _, Rep.dp _ _ (hA.rep m1) s1, Rep.dp _ _ (hA.rep m2) s2, h1, h2, q⟩
/-- a list of scalars is what it is -/
theorem scs_of {zs : List V} (hA : At R L H) (m : HasL R L x (zs.map D.sc)) : ∃ p, x = .ref p ∧ Rd H p (.lst zs) := by
  obtain ⟨p, xs, rfl, hr, hl, h⟩ := hA.items m
  have e : xs = zs := by
    refine List.ext_getElem (by simpa using hl) fun i h1 h2 => ?_
    have z := h.rep (List.mem_append_left _ (List.mem_of_getElem? (i := i) (a := (D.sc zs[i], xs[i])) (by rw [List.getElem?_zip_eq_some]; exact ⟨by simp [h2], by simp [h1]⟩)))
    exact z.sc_eq
  exact ⟨p, rfl, by rw [← e]; exact hr⟩
theorem scs_ofT {zs : List V} (hA : At R L H) (m : (D.tup (zs.map D.sc), x) ∈ R) : ∃ p, x = .ref p ∧ Rd H p (.tup zs) := by
  obtain ⟨p, xs, rfl, hr, hl, h⟩ := hA.itemsT m
  have e : xs = zs := by
    refine List.ext_getElem (by simpa using hl) fun i h1 h2 => ?_
    have z := h.rep (List.mem_append_left _ (List.mem_of_getElem? (i := i) (a := (D.sc zs[i], xs[i])) (by rw [List.getElem?_zip_eq_some]; exact ⟨by simp [h2], by simp [h1]⟩)))
    exact z.sc_eq
  exact ⟨p, rfl, by rw [← e]; exact hr⟩
/-- x in a list of scalars -/
theorem r_in {zs : List V} (hA : At R L H) (m : HasL R L y (zs.map D.sc)) (f1 : flatV x = true) (f2 : zs.all flatV = true) (q : Q (.bl (inV x zs)) H) : OR (rIn K false) x y H Q := by
  obtain ⟨p, rfl, hr⟩ := scs_of hA m
  exact ⟨p, zs, rfl, .inl (.inl hr), f1, f2, by rw [if_neg Bool.false_ne_true]; exact q⟩
theorem r_nin {zs : List V} (hA : At R L H) (m : HasL R L y (zs.map D.sc)) (f1 : flatV x = true) (f2 : zs.all flatV = true) (q : Q (.bl (!inV x zs)) H) : OR (rIn K true) x y H Q := by
  obtain ⟨p, rfl, hr⟩ := scs_of hA m
  exact ⟨p, zs, rfl, .inl (.inl hr), f1, f2, by rw [if_pos rfl]; exact q⟩
theorem inV_str (z : PySem.Str) (zs : List PySem.Str) : inV (.str z) (zs.map V.str) = decide (z ∈ zs) := by
  unfold inV
  rw [List.any_map]
  induction zs with
  | nil => rfl
  | cons a r ih =>
    rw [List.any_cons, ih]
    have e : (((fun y => eqV y (V.str z)) ∘ V.str) a) = (a == z) := rfl
    rw [e]
    by_cases h : a = z
    · simp [h]
    · have h' : ¬ z = a := fun q => h q.symm
      simp [h, h']
theorem inV_int (z : Int) (zs : List Int) : inV (.int z) (zs.map V.int) = decide (z ∈ zs) := by
  unfold inV
  rw [List.any_map]
  induction zs with
  | nil => rfl
  | cons a r ih =>
    rw [List.any_cons, ih]
    have e : (((fun y => eqV y (V.int z)) ∘ V.int) a) = (a == z) := rfl
    rw [e]
    by_cases h : a = z
    · simp [h]
    · have h' : ¬ z = a := fun q => h q.symm
      simp [h, h']
/-! #### sum, max, all -/
theorem r_sum {ns : List Int} (hA : At R L H) (m : HasL R L x (ns.map D.int)) (q : Q (.int ns.sum) H) : BR (rSum K) [x] H Q := by
  obtain ⟨p, rfl, hr⟩ := scs_of (zs := ns.map V.int) hA (by rw [List.map_map]; exact m)
  exact ⟨p, ns, rfl, .inl hr, q⟩
theorem r_max {ns : List Int} (hA : At R L H) (m : HasL R L x (ns.map D.int)) (h0 : 0 < ns.length) (q : ∀ k, k ∈ ns → (∀ y, y ∈ ns → y ≤ k) → Q (.int k) H) : BR (rMax K) [x] H Q := by
  obtain ⟨p, rfl, hr⟩ := scs_of (zs := ns.map V.int) hA (by rw [List.map_map]; exact m)
  exact ⟨p, ns, rfl, .inl hr, h0, q⟩
theorem r_all {bs : List Bool} (hA : At R L H) (m : HasL R L x (bs.map D.bl)) (q : Q (.bl (bs.all id)) H) : BR (rAll K) [x] H Q := by
  obtain ⟨p, rfl, hr⟩ := scs_of (zs := bs.map V.bl) hA (by rw [List.map_map]; exact m)
  exact ⟨p, bs, rfl, .inl hr, q⟩
theorem r_any {bs : List Bool} (hA : At R L H) (m : HasL R L x (bs.map D.bl)) (q : Q (.bl (bs.any id)) H) : BR (rAny K) [x] H Q := by
  obtain ⟨p, rfl, hr⟩ := scs_of (zs := bs.map V.bl) hA (by rw [List.map_map]; exact m)
  exact ⟨p, bs, rfl, .inl hr, q⟩
end
end Nw
set_option maxRecDepth 100000
set_option maxHeartbeats 4000000
namespace Nw
open PySem PySem.Spec PyProof.Rows L2
/-! ### walks over data -/
/-- the i-th turn gives the i-th datum -/
def YA (R : RL) (ds : List D) : Nat → Hp → V → Hp → Prop := fun i H v H' => ∃ d, ds[i]? = some d ∧ ∀ L', At R L' H → At ((d, v) :: R) L' H'
def GR (R : RL) (GL : LL → Prop) : Hp → Prop := fun H => ∃ L', GL L' ∧ At R L' H
abbrev WalkD (R : RL) (GL : LL → Prop) (J : It) (ds : List D) : Prop := Walk J ds.length (GR R GL) (YA R ds)
section
variable {K : PySem.W.Frag} {R : RL} {L : LL} {a : Addr} {ds : List D} {H : Hp} {x : V} {P : It → Hp → Prop}
theorem wd_lst (m : (D.lst ds, V.ref a) ∈ R) : WalkD R (fun _ => True) (Itl K a) ds :=
  (walk_lstR m).mono (fun H ⟨L', _, h⟩ => ⟨L', h⟩) fun i H v H' _ _ ⟨e, d, hd, k⟩ => ⟨d, hd, fun L' h => by rw [e]; exact k L' h⟩
theorem wd_tup (m : (D.tup ds, V.ref a) ∈ R) : WalkD R (fun _ => True) (Itt K a) ds :=
  (walk_tupR m).mono (fun H ⟨L', _, h⟩ => ⟨L', h⟩) fun i H v H' _ _ ⟨e, d, hd, k⟩ => ⟨d, hd, fun L' h => by rw [e]; exact k L' h⟩
def rngD (lo : Int) (n : Nat) : List D := (List.range n).map fun (i : Nat) => D.int (lo + (i : Nat))
theorem rngD_len {lo : Int} {n : Nat} : (rngD lo n).length = n := by simp [rngD]
theorem rngD_get {lo : Int} {n i : Nat} {d : D} (h : (rngD lo n)[i]? = some d) : i < n ∧ d = D.int (lo + (i : Nat)) := by
  have hi := (List.getElem?_eq_some_iff.mp h).1
  rw [rngD_len] at hi
  unfold rngD at h
  rw [List.getElem?_map, List.getElem?_range hi] at h
  exact ⟨hi, (Option.some.inj h).symm⟩
theorem wd_rng {lo : Int} {n : Nat} : WalkD R (fun _ => True) (Itr lo n) (rngD lo n) := by
  refine ⟨fun i H hi _ => ?_, fun H _ => ?_, fun i H v H' hi _ y => ?_⟩
  · have hi' : i < n := by rwa [rngD_len] at hi
    exact hi'
  · show n ≤ (rngD lo n).length
    rw [rngD_len] <;> exact Nat.le_refl _
  · have hi' : i < n := by rwa [rngD_len] at hi
    have y' : H' = H ∧ v = .int (lo + (i : Nat)) := y
    obtain ⟨rfl, rfl⟩ := y'
    exact ⟨D.int (lo + (i : Nat)), by unfold rngD; rw [List.getElem?_map, List.getElem?_range hi'] <;> rfl, fun L' h => h.addR .sc⟩
/-- enumerate: pairs of the place and the item -/
def numd (ds : List D) : List D := (List.range ds.length).zipWith (fun i d => D.tup [D.int (i : Nat), d]) ds
theorem numd_len : (numd ds).length = ds.length := by simp [numd]
theorem numd_get {i : Nat} {d : D} (h : ds[i]? = some d) : (numd ds)[i]? = some (.tup [D.int (i : Nat), d]) := by
  have hi := (List.getElem?_eq_some_iff.mp h).1
  unfold numd
  rw [List.getElem?_zipWith, h, List.getElem?_range hi]
theorem wd_enumT (m : (D.tup ds, V.ref a) ∈ R) : WalkD R (fun _ => True) (Itet K a) (numd ds) := by
  refine ⟨fun i H hi ⟨L', _, h⟩ => ?_, fun H ⟨L', _, h⟩ => ?_, fun i H v H' hi ⟨L', _, h⟩ y => ?_⟩
  · obtain ⟨_, xs, e, hr, hl, k⟩ := h.tupR m
    cases e
    rw [numd_len] at hi
    exact ⟨xs, xs[i], .inl hr, by simp [hl, hi]⟩
  · obtain ⟨_, xs, e, hr, hl, k⟩ := h.tupR m
    cases e
    exact ⟨xs, .inl hr, by rw [numd_len]; omega⟩
  · obtain ⟨_, xs, e, hr, hl, k⟩ := h.tupR m
    cases e
    rw [numd_len] at hi
    obtain ⟨T, z, rfl, hT, rfl, hz⟩ := y
    have hd : ds[i]? = some ds[i] := by simp [hi]
    refine ⟨_, numd_get hd, fun L2 h2 => ?_⟩
    have h3 := k i _ z hd (hz xs (.inl hr)) L2 H rfl h2
    exact (h3.newTup hT (.cons .sc (.cons (.mem List.mem_cons_self) .nil))).sub fun z m => (List.mem_cons.mp m).elim (fun e => e ▸ List.mem_cons_self) fun m => List.mem_cons_of_mem _ (List.mem_cons_of_mem _ m)
theorem wd_enumL (m : (D.lst ds, V.ref a) ∈ R) : WalkD R (fun _ => True) (Ite K a) (numd ds) := by
  refine ⟨fun i H hi ⟨L', _, h⟩ => ?_, fun H ⟨L', _, h⟩ => ?_, fun i H v H' hi ⟨L', _, h⟩ y => ?_⟩
  · obtain ⟨_, xs, e, hr, hl, k⟩ := h.lstR m
    cases e
    rw [numd_len] at hi
    exact ⟨xs, xs[i], .inl hr, by simp [hl, hi]⟩
  · obtain ⟨_, xs, e, hr, hl, k⟩ := h.lstR m
    cases e
    exact ⟨xs, .inl hr, by rw [numd_len]; omega⟩
  · obtain ⟨_, xs, e, hr, hl, k⟩ := h.lstR m
    cases e
    rw [numd_len] at hi
    obtain ⟨T, z, rfl, hT, rfl, hz⟩ := y
    have hd : ds[i]? = some ds[i] := by simp [hi]
    refine ⟨_, numd_get hd, fun L2 h2 => ?_⟩
    have h3 := k i _ z hd (hz xs (.inl hr)) L2 H rfl h2
    exact (h3.newTup hT (.cons .sc (.cons (.mem List.mem_cons_self) .nil))).sub fun z m => (List.mem_cons.mp m).elim (fun e => e ▸ List.mem_cons_self) fun m => List.mem_cons_of_mem _ (List.mem_cons_of_mem _ m)
theorem wd_rev (m : (D.lst ds, V.ref a) ∈ R) : WalkD R (fun _ => True) (Itv K a ds.length) ds.reverse := by
  refine ⟨fun i H hi ⟨L', _, h⟩ => ?_, fun H ⟨L', _, h⟩ => ?_, fun i H v H' hi ⟨L', _, h⟩ y => ?_⟩
  · obtain ⟨_, xs, e, hr, hl, k⟩ := h.lstR m
    cases e
    have hi' : i < ds.length := by simpa using hi
    exact ⟨hi', xs, xs[ds.length - 1 - i]'(by omega), .inl hr, by simp [show ds.length - 1 - i < xs.length by omega]⟩
  · show ds.length ≤ ds.reverse.length
    simp
  · obtain ⟨_, xs, e, hr, hl, k⟩ := h.lstR m
    cases e
    have hi' : i < ds.length := by simpa using hi
    have y' : H' = H ∧ ∀ xs, SqL K H a xs → xs[ds.length - 1 - i]? = some v := y
    obtain ⟨rfl, hy⟩ := y'
    have hd : ds[ds.length - 1 - i]? = some (ds[ds.length - 1 - i]'(by omega)) := by simp [show ds.length - 1 - i < ds.length by omega]
    refine ⟨_, by rw [List.getElem?_reverse hi']; exact hd, fun L2 h2 => k _ _ _ hd (hy xs (.inl hr)) L2 _ rfl h2⟩
theorem wd_keys {o : Obj} {kvs : List (Key × V)} {kds : List (Key × D)} (hk : kvs.map (·.1) = kds.map (·.1)) : WalkD R (fun L' => (a, OD.lck o kvs) ∈ L') (Itk a o kvs) (kds.map fun kd => keyD kd.1) := by
  have hl : kvs.length = kds.length := by simpa using congrArg List.length hk
  refine ⟨fun i H hi ⟨L', hm, h⟩ => ⟨h.lck hm, by rw [hl]; simpa using hi⟩, fun H ⟨L', hm, h⟩ => ⟨h.lck hm, by simp [hl]⟩, fun i H v H' hi ⟨L', hm, h⟩ y => ?_⟩
  obtain ⟨rfl, k, z, e1, rfl⟩ := y
  have hi' : i < kds.length := by simpa using hi
  refine ⟨keyD k, ?_, fun L2 h2 => h2.addR .sc⟩
  have e2 := congrArg (fun l : List Key => l[i]?) hk
  simp only [List.getElem?_map, e1, Option.map_some] at e2
  rw [List.getElem?_map]
  cases q : kds[i]? with
  | none => rw [q] at e2; cases e2
  | some kd =>
    rw [q] at e2
    have e3 : k = kd.1 := Option.some.inj e2
    rw [e3] <;> rfl
theorem wd_items {o : Obj} {kvs : List (Key × V)} {kds : List (Key × D)} (m : (D.dct kds, V.ref a) ∈ R) (hk : kvs.map (·.1) = kds.map (·.1)) : WalkD R (fun L' => (a, OD.lck o kvs) ∈ L') (Iti a o kvs) (kds.map fun kd => D.tup [keyD kd.1, kd.2]) := by
  have hl : kvs.length = kds.length := by simpa using congrArg List.length hk
  refine ⟨fun i H hi ⟨L', hm, h⟩ => ⟨h.lck hm, by rw [hl]; simpa using hi⟩, fun H ⟨L', hm, h⟩ => ⟨h.lck hm, by simp [hl]⟩, fun i H v H' hi ⟨L', hm, h⟩ y => ?_⟩
  have hi' : i < kds.length := by simpa using hi
  obtain ⟨a', kvs', e, hr, hk', f⟩ := h.dctR m
  cases e
  have ev : kvs' = kvs := by
    have z := h.lck hm
    rcases hr with e | ⟨o', e⟩ <;> rw [z] at e <;> cases e
    rfl
  subst ev
  obtain ⟨T, k, z, e1, rfl, hT, rfl⟩ := y
  have hd : kds[i]? = some kds[i] := by simp [hi']
  have e2 := congrArg (fun l : List Key => l[i]?) hk
  simp only [List.getElem?_map, e1, hd, Option.map_some] at e2
  have e3 : k = kds[i].1 := Option.some.inj e2
  refine ⟨.tup [keyD kds[i].1, kds[i].2], by rw [List.getElem?_map, hd] <;> rfl, fun L2 h2 => ?_⟩
  have h3 := f i _ _ hd e1 L2 H rfl h2
  rw [e3]
  exact (h3.newTup hT (.cons .sc (.cons (.mem List.mem_cons_self) .nil))).sub fun z m => (List.mem_cons.mp m).elim (fun e => e ▸ List.mem_cons_self) fun m => List.mem_cons_of_mem _ (List.mem_cons_of_mem _ m)
end
/-! ### for, comprehensions over any walk -/
section
variable {R : RL} {L : LL} {GL : LL → Prop} {J : It} {ds : List D} {g : TG} {tb : TS} {Dn : Ends} {σ : L2.St} {H : Hp} {tt : TT} {te tk tv : TE} {vs : List Nat} {Q : VK}
theorem for_D (w : WalkD R GL J ds) (hA : At R L H) (Pv : Nat → L2.St → LL → Prop) (h0 : Pv 0 σ L) (hG : ∀ i σ L', Pv i σ L' → GL L')
    (hs : ∀ i d v σ L1 H1, ds[i]? = some d → Pv i σ L1 → At ((d, v) :: R) L1 H1 → g v σ H1 fun σ2 H2 => tb { Dn with nx := fun σ' H' => ∃ L', Pv (i + 1) σ' L' ∧ At R L' H', ct := fun σ' H' => ∃ L', Pv (i + 1) σ' L' ∧ At R L' H', bk := Dn.nx } σ2 H2)
    (hd : ∀ σ L1 H1, Pv ds.length σ L1 → At R L1 H1 → Dn.nx σ H1) : ForW J g tb Dn σ H :=
  for_it w (fun i σ H => ∃ L', Pv i σ L' ∧ At R L' H) ⟨L, h0, hA⟩ (fun i σ H _ ⟨L', h1, h2⟩ => ⟨L', hG _ _ _ h1, h2⟩)
    (fun i x σ H H' hi ⟨L', h1, h2⟩ ⟨d, hd', k⟩ => hs i d x σ L' H' hd' h1 (k L' h2)) fun σ H ⟨L', h1, h2⟩ => hd σ L' H h1 h2
/-- behind a turn of a comprehension whose new list is at p -/
def NxL (R : RL) (p : Addr) (n : Nat) (Pv : List D → LL → Prop) : Hp → Prop := fun H => ∃ as L', Pv as L' ∧ as.length ≤ n ∧ At R ((p, .lst as) :: L') H
/-- the new item y -/
def LcE (p : Addr) (Nx : Hp → Prop) (y : V) (H : Hp) : Prop := ∃ acc, H p = some (.lst acc) ∧ acc.length < sizeLine ∧ Nx (upd H p (.lst (acc ++ [y])))
theorem lc_D (w : WalkD R GL J ds) (hA : At R L H) (Pv : Nat → List D → LL → Prop) (h0 : Pv 0 [] L) (hG : ∀ i as L' p, Pv i as L' → GL ((p, .lst as) :: L'))
    (hs : ∀ i d v as L1 H1 p, ds[i]? = some d → Pv i as L1 → as.length ≤ i → At ((d, v) :: R) ((p, .lst as) :: L1) H1 → g v (wipe σ vs) H1 fun σ2 H2 => wipe σ2 vs = wipe σ vs ∧ tt σ2 H2 fun b H3 =>
      if b = true then te σ2 H3 fun y H4 => LcE p (NxL R p (i + 1) (Pv (i + 1))) y H4 else NxL R p (i + 1) (Pv (i + 1)) H3)
    (k : ∀ p as L1 H1, Pv ds.length as L1 → as.length ≤ ds.length → At R ((p, .lst as) :: L1) H1 → Q (.ref p) H1) : LcW J g tt te vs σ Q H := fun p hp =>
  lc_it (Qd := fun H => Q (.ref p) H) w (fun i H => NxL R p i (Pv i) H) ⟨[], L, h0, Nat.le_refl _, hA.newLst hp .nil⟩ (fun i H _ ⟨as, L', h1, _, h2⟩ => ⟨_, hG _ _ _ _ h1, h2⟩)
    (fun i x H H' hi ⟨as, L', h1, h3, h2⟩ ⟨d, hd', k⟩ => hs i d x as L' H' p hd' h1 h3 (k _ h2)) fun H ⟨as, L', h1, h3, h2⟩ => k p as L' H h1 h3 h2
theorem lc_end {p : Addr} {n : Nat} {Pv : List D → LL → Prop} {y : V} {R2 : RL} {d : D} {as : List D} {L2 : LL} (hA : At R2 ((p, .lst as) :: L2) H) (sub : ∀ z, z ∈ R → z ∈ R2) (m : InR R2 d y) (hn : as.length ≤ n) (hz : n < 1000000) (h : Pv (as ++ [d]) L2) : LcE p (NxL R p (n + 1) Pv) y H :=
  c_app hA m (by omega) fun H' h' => ⟨_, _, h, by rw [List.length_append]; show as.length + 1 ≤ n + 1; omega, h'.sub sub⟩
theorem lc_no {p : Addr} {n : Nat} {Pv : List D → LL → Prop} {as : List D} {L2 : LL} (hA : At R ((p, .lst as) :: L2) H) (hn : as.length ≤ n) (h : Pv as L2) : NxL R p (n + 1) Pv H := ⟨_, _, h, by omega, hA⟩
/-! #### dict comprehensions -/
def NxD (R : RL) (p : Addr) (n : Nat) (Pv : List (Key × D) → LL → Prop) : Hp → Prop := fun H => ∃ as L', Pv as L' ∧ as.length ≤ n ∧ At R ((p, .dct as) :: L') H
def DcE (p : Addr) (Nx : Hp → Prop) (y z : V) (H : Hp) : Prop := ∃ kvs k, y = kV k ∧ H p = some (.dK kvs) ∧ kvs.length < sizeLine ∧ Nx (upd H p (.dK (putK kvs k z)))
theorem dc_D (w : WalkD R GL J ds) (hA : At R L H) (Pv : Nat → List (Key × D) → LL → Prop) (h0 : Pv 0 [] L) (hG : ∀ i as L' p, Pv i as L' → GL ((p, .dct as) :: L'))
    (hs : ∀ i d v as L1 H1 p, ds[i]? = some d → Pv i as L1 → as.length ≤ i → At ((d, v) :: R) ((p, .dct as) :: L1) H1 → g v (wipe σ vs) H1 fun σ2 H2 => wipe σ2 vs = wipe σ vs ∧ tt σ2 H2 fun b H3 =>
      if b = true then tk σ2 H3 fun y H4 => tv σ2 H4 fun z H5 => DcE p (NxD R p (i + 1) (Pv (i + 1))) y z H5 else NxD R p (i + 1) (Pv (i + 1)) H3)
    (k : ∀ p as L1 H1, Pv ds.length as L1 → as.length ≤ ds.length → At R ((p, .dct as) :: L1) H1 → Q (.ref p) H1) : DcW J g tt tk tv vs σ Q H := fun p hp => by
  refine ⟨fun i m H => m = ds.length - i ∧ i ≤ ds.length ∧ NxD R p i (Pv i) H, ⟨ds.length, by simp, Nat.zero_le _, [], L, h0, Nat.le_refl _, hA.newDct hp⟩, ?_⟩
  rintro i m H1 ⟨rfl, hi, as, L', h1, h3, h2⟩
  have q : GR R GL H1 := ⟨_, hG _ _ _ _ h1, h2⟩
  by_cases hlt : i < ds.length
  · refine .inr ⟨w.goes i H1 hlt q, NxD R p (i + 1) (Pv (i + 1)), fun H' p' => ⟨ds.length - (i + 1), by omega, rfl, hlt, p'⟩, fun x H' y => ?_⟩
    obtain ⟨d, hd', k'⟩ := w.yields i H1 x H' hlt q y
    exact hs i d x as L' H' p hd' h1 h3 (k' _ h2)
  · have e : i = ds.length := by omega
    subst e
    exact .inl ⟨w.stops H1 q, k p as L' H1 h1 h3 h2⟩
theorem dc_end {p : Addr} {n : Nat} {Pv : List (Key × D) → LL → Prop} {y z : V} {k : Key} {R2 : RL} {d : D} {as : List (Key × D)} {L2 : LL} (hA : At R2 ((p, .dct as) :: L2) H) (sub : ∀ z, z ∈ R → z ∈ R2) (hy : y = kV k) (m : InR R2 d z) (hn : as.length ≤ n) (hz : n < 1000000) (h : Pv (put as k d) L2) : DcE p (NxD R p (n + 1) Pv) y z H := by
  obtain ⟨kvs, e, hk, _⟩ := hA.dct (List.mem_cons_self)
  have el : kvs.length = as.length := by simpa using congrArg List.length hk
  exact ⟨kvs, k, hy, e, by rw [el]; exact line_lt (by omega), _, _, h, Nat.le_trans (put_len as k d) (by omega), (hA.put e m).sub sub⟩
end
end Nw
set_option maxRecDepth 100000
set_option maxHeartbeats 4000000
namespace Nw
open PySem PySem.Spec PyProof.Rows L2
/-! ### a dict is locked while it is walked through, if it is not locked yet -/
def tLockO (t : TS) : TS := fun D σ H => tLock t D σ H ∨ t D σ H
def tLockOE (t : TE) : TE := fun σ H Q => tLockE t σ H Q ∨ t σ H Q
theorem ps_lockO {X : Cx} {st : Stmt} {t : TS} (h : PS X st t) : PS X st (tLockO t) := ⟨fun pins s σ H D I q => q.elim (fun q => (ps_lock h).run pins s σ H D I q) fun q => h.run pins s σ H D I q⟩
theorem pe_lockO {X : Cx} {e : Expr} {t : TE} (h : PE X e t) : PE X e (tLockOE t) := ⟨fun pins s σ H Q I q => q.elim (fun q => (pe_lock h).run pins s σ H Q I q) fun q => h.run pins s σ H Q I q⟩
structure LockEnds (M L0 : LL) (D D1 : Ends) : Prop where
  nx : ∀ (R2 : RL) (F2 : LL) (σ2 : L2.St) (H2 : Hp), At R2 (M ++ (F2 ++ L0)) H2 → (∀ H3, At R2 (F2 ++ L0) H3 → D.nx σ2 H3) → D1.nx σ2 H2
  rt : ∀ (R2 : RL) (F2 : LL) (v : V) (H2 : Hp), At R2 (M ++ (F2 ++ L0)) H2 → (∀ H3, At R2 (F2 ++ L0) H3 → D.rt v H3) → D1.rt v H2
  bk : ∀ (R2 : RL) (F2 : LL) (σ2 : L2.St) (H2 : Hp), At R2 (M ++ (F2 ++ L0)) H2 → (∀ H3, At R2 (F2 ++ L0) H3 → D.bk σ2 H3) → D1.bk σ2 H2
  ct : ∀ (R2 : RL) (F2 : LL) (σ2 : L2.St) (H2 : Hp), At R2 (M ++ (F2 ++ L0)) H2 → (∀ H3, At R2 (F2 ++ L0) H3 → D.ct σ2 H3) → D1.ct σ2 H2
section
variable {R : RL} {F L0 : LL} {H : Hp} {D : Ends} {σ : L2.St} {t : TS} {te : TE} {kds : List (Key × Nw.D)} {d : Addr} {Q : VK}
theorem s_lockO (F : LL) (hA : At R (F ++ L0) H) (m : (Nw.D.dct kds, V.ref d) ∈ R) (hF : ∀ o kvs, (d, OD.lck o kvs) ∉ F)
    (q : ∀ (o : Obj) (kvs : List (Key × V)) (M : LL) (H1 : Hp) (D1 : Ends), kvs.map (·.1) = kds.map (·.1) → (∀ F2, (d, OD.lck o kvs) ∈ M ++ (F2 ++ L0)) → At R (M ++ (F ++ L0)) H1 → LockEnds M L0 D D1 → t D1 σ H1) : tLockO t D σ H := by
  obtain ⟨kvs, hk, e | ⟨o, e, hm⟩⟩ := hA.plain m
  · refine .inl ⟨d, _, e, True.intro, fun o => q o kvs [(d, .lck o kvs)] _ _ hk (fun F2 => List.mem_cons_self) (hA.lock m e o) ⟨?_, ?_, ?_, ?_⟩⟩
    · exact fun R2 F2 σ2 H2 h k => ⟨h.unlock.1, k _ h.unlock.2⟩
    · exact fun R2 F2 σ2 H2 h k => ⟨h.unlock.1, k _ h.unlock.2⟩
    · exact fun R2 F2 σ2 H2 h k => ⟨h.unlock.1, k _ h.unlock.2⟩
    · exact fun R2 F2 σ2 H2 h k => ⟨h.unlock.1, k _ h.unlock.2⟩
  · refine .inr (q o kvs [] H D hk (fun F2 => ?_) hA ⟨fun R2 F2 σ2 H2 h k => k _ h, fun R2 F2 σ2 H2 h k => k _ h, fun R2 F2 σ2 H2 h k => k _ h, fun R2 F2 σ2 H2 h k => k _ h⟩)
    rcases List.mem_append.mp hm with z | z
    · exact absurd z (hF o kvs)
    · exact List.mem_append_right F2 z
theorem s_lockOE (F : LL) (hA : At R (F ++ L0) H) (m : (Nw.D.dct kds, V.ref d) ∈ R) (hF : ∀ o kvs, (d, OD.lck o kvs) ∉ F)
    (q : ∀ (o : Obj) (kvs : List (Key × V)) (M : LL) (H1 : Hp) (Q1 : VK), kvs.map (·.1) = kds.map (·.1) → (∀ F2, (d, OD.lck o kvs) ∈ M ++ (F2 ++ L0)) → At R (M ++ (F ++ L0)) H1 →
      (∀ (R2 : RL) (F2 : LL) (v : V) (H2 : Hp), At R2 (M ++ (F2 ++ L0)) H2 → (∀ H3, At R2 (F2 ++ L0) H3 → Q v H3) → Q1 v H2) → te σ H1 Q1) : tLockOE te σ H Q := by
  obtain ⟨kvs, hk, e | ⟨o, e, hm⟩⟩ := hA.plain m
  · exact .inl ⟨d, _, e, True.intro, fun o => q o kvs [(d, .lck o kvs)] _ _ hk (fun F2 => List.mem_cons_self) (hA.lock m e o) fun R2 F2 v H2 h k => ⟨h.unlock.1, k _ h.unlock.2⟩⟩
  · refine .inr (q o kvs [] H Q hk (fun F2 => ?_) hA fun R2 F2 v H2 h k => k _ h)
    rcases List.mem_append.mp hm with z | z
    · exact absurd z (hF o kvs)
    · exact List.mem_append_right F2 z
end
/-! ### the sources of walks -/
section
variable {K : PySem.W.Frag} {R : RL} {L : LL} {H : Hp} {x : V} {ds : List D} {P : It → Hp → Prop} {σ : L2.St} {td : TE} {ta : TA} {d : Addr} {o : Obj} {kvs : List (Key × V)}
theorem src_lst (hA : At R L H) (m : (D.lst ds, x) ∈ R) (q : ∀ a, x = .ref a → WalkD R (fun _ => True) (Itl K a) ds → P (Itl K a) H) : ∃ a, x = .ref a ∧ (∃ xs, SqL K H a xs) ∧ IR P (Itl K a) H := by
  obtain ⟨a, xs, rfl, hr, hl, k⟩ := hA.lstR m
  exact ⟨a, rfl, ⟨xs, .inl hr⟩, q a rfl (wd_lst m)⟩
theorem src_tup (hA : At R L H) (m : (D.tup ds, x) ∈ R) (q : ∀ a, x = .ref a → WalkD R (fun _ => True) (Itt K a) ds → P (Itt K a) H) : ∃ a, x = .ref a ∧ (∃ xs, SqT K H a xs) ∧ IR P (Itt K a) H := by
  obtain ⟨a, xs, rfl, hr, hl, k⟩ := hA.tupR m
  exact ⟨a, rfl, ⟨xs, .inl hr⟩, q a rfl (wd_tup m)⟩
theorem src_rng {n : Int} (h0 : -(2 ^ 62) ≤ n) (h1 : n < 2 ^ 62) (q : WalkD R (fun _ => True) (Itr 0 n.toNat) (rngD 0 n.toNat) → P (Itr 0 n.toNat) H) : ∃ j : Int, [V.int n] = [.int j] ∧ -(2 ^ 62) ≤ j ∧ j < 2 ^ 62 ∧ IR P (Itr 0 j.toNat) H := ⟨n, rfl, h0, h1, q wd_rng⟩
theorem src_enumT (hA : At R L H) (m : (D.tup ds, x) ∈ R) (q : ∀ a, x = .ref a → WalkD R (fun _ => True) (Itet K a) (numd ds) → P (Itet K a) H) : ∃ a xs, [x] = [.ref a] ∧ SqT K H a xs ∧ IR P (Itet K a) H := by
  obtain ⟨a, xs, rfl, hr, hl, k⟩ := hA.tupR m
  exact ⟨a, xs, rfl, .inl hr, q a rfl (wd_enumT m)⟩
theorem src_enumL (hA : At R L H) (m : (D.lst ds, x) ∈ R) (q : ∀ a, x = .ref a → WalkD R (fun _ => True) (Ite K a) (numd ds) → P (Ite K a) H) : ∃ a xs, [x] = [.ref a] ∧ SqL K H a xs ∧ IR P (Ite K a) H := by
  obtain ⟨a, xs, rfl, hr, hl, k⟩ := hA.lstR m
  exact ⟨a, xs, rfl, .inl hr, q a rfl (wd_enumL m)⟩
theorem src_rev (hA : At R L H) (m : (D.lst ds, x) ∈ R) (q : ∀ a, x = .ref a → WalkD R (fun _ => True) (Itv K a ds.length) ds.reverse → P (Itv K a ds.length) H) : ∃ (a : Addr) (xs : List V), [x] = [.ref a] ∧ SqL K H a xs ∧ IR P (Itv K a xs.length) H := by
  obtain ⟨a, xs, rfl, hr, hl, k⟩ := hA.lstR m
  exact ⟨a, xs, rfl, .inl hr, by rw [hl]; exact q a rfl (wd_rev m)⟩
theorem src_keys (hA : At R L H) (hl : (d, OD.lck o kvs) ∈ L) (q : P (Itk d o kvs) H) : ∃ d' o', V.ref d = .ref d' ∧ ((∃ kvs, H d' = some (.frz o' (.dK kvs)) ∧ IR P (Itk d' o' kvs) H) ∨ ∃ kvs, H d' = some (.frz o' (.dT kvs)) ∧ IR P (Itkt d' o' kvs) H) :=
  ⟨d, o, rfl, .inl ⟨kvs, hA.lck hl, q⟩⟩
theorem src_items (hA : At R L H) (hl : (d, OD.lck o kvs) ∈ L) (q : P (Iti d o kvs) H) : ∃ d' o' kvs, V.ref d = .ref d' ∧ H d' = some (.frz o' (.dK kvs)) ∧ IR P (Iti d' o' kvs) H := ⟨d, o, kvs, rfl, hA.lck hl, q⟩
theorem s_iKeys (q : td σ H fun x H1 => ∃ d o, x = .ref d ∧ ((∃ kvs, H1 d = some (.frz o (.dK kvs)) ∧ IR P (Itk d o kvs) H1) ∨ ∃ kvs, H1 d = some (.frz o (.dT kvs)) ∧ IR P (Itkt d o kvs) H1)) : iKeys td σ H P := q
theorem s_iItems (q : td σ H fun x H1 => ∃ d o kvs, x = .ref d ∧ H1 d = some (.frz o (.dK kvs)) ∧ IR P (Iti d o kvs) H1) : iItems td σ H P := q
theorem s_iEnumT (q : ta σ H fun vs H1 => ∃ a xs, vs = [.ref a] ∧ SqT K H1 a xs ∧ IR P (Itet K a) H1) : iEnumT K ta σ H P := q
theorem s_iEnum (q : ta σ H fun vs H1 => ∃ a xs, vs = [.ref a] ∧ SqL K H1 a xs ∧ IR P (Ite K a) H1) : iEnum K ta σ H P := q
theorem s_iRev (q : ta σ H fun vs H1 => ∃ (a : Addr) (xs : List V), vs = [.ref a] ∧ SqL K H1 a xs ∧ IR P (Itv K a xs.length) H1) : iRev K ta σ H P := q
theorem s_dc {wi : TI} {g : TG} {tt : TT} {tk tv : TE} {vs : List Nat} {Q : VK} (q : wi σ H fun J H1 => DcW J g tt tk tv vs σ Q H1) : tDc wi g tt tk tv vs σ H Q := q
end
end Nw
set_option maxRecDepth 100000
set_option maxHeartbeats 4000000
namespace Nw
open PySem PySem.Spec PyProof.Rows L2
/-! ### isinstance -/
inductive HasTy (R : RL) (L : LL) : V → String → Prop
  | int (i : Int) : HasTy R L (.int i) "int"
  | bl (b : Bool) : HasTy R L (.bl b) "bool"
  | str (z : PySem.Str) : HasTy R L (.str z) "str"
  | non : HasTy R L .non "NoneType"
  | lst {x : V} {ds : List D} : (D.lst ds, x) ∈ R → HasTy R L x "list"
  | tup {x : V} {ds : List D} : (D.tup ds, x) ∈ R → HasTy R L x "tuple"
  | own {p : Addr} {ds : List D} : (p, OD.lst ds) ∈ L → HasTy R L (.ref p) "list"
section
variable {K : PySem.W.Frag} {R : RL} {L : LL} {H : Hp} {x v : V} {t n : String} {Q : VK} {b : Bool} {d : D}
theorem HasTy.tyx (hA : At R L H) (h : HasTy R L x t) : TyX K H x (.type t) := by
  cases h with
  | int i => exact .base (.int i)
  | bl b => exact .base (.bl b)
  | str z => exact .base (.str z)
  | non => exact .base .non
  | lst m =>
    obtain ⟨a, xs, rfl, hr, _, _⟩ := hA.lstR m
    rcases hr with e | ⟨o, e⟩
    · exact .base (.lst e)
    · exact .base (.frz e)
  | tup m =>
    obtain ⟨a, xs, rfl, hr, _, _⟩ := hA.tupR m
    rcases hr with e | ⟨o, e⟩
    · exact .base (.tup e)
    · exact .fTuple e
  | own m =>
    obtain ⟨xs, e, _, _⟩ := hA.lst m
    exact .base (.lst e)
def isT (t n : String) : Option Bool := PySem.W.kitOne [] (.type t) (.type n)
def isTs (t : String) (ns : List String) : Option Bool := PySem.W.kitAny [] (.type t) (ns.map Value.type)
theorem kit_ty : PySem.W.kitOne K (.type t) (.type n) = isT t n := rfl
theorem kit_tys : ∀ ns : List String, PySem.W.kitAny K (.type t) (ns.map Value.type) = isTs t ns
  | [] => rfl
  | n :: ns => by
    have e := kit_tys ns
    unfold isTs at e ⊢
    rw [List.map_cons]
    unfold PySem.W.kitAny
    rw [e] <;> rfl
theorem r_isi (hA : At R L H) (h : HasTy R L x t) (e : isT t n = some b) (q : Q (.bl b) H) : BR (rIsi K) [x, .ty n] H Q := ⟨x, _, _, _, b, rfl, .ty n, h.tyx hA, kit_ty.trans e, q⟩
theorem r_isiT {ns : List String} {p : Addr} (hA : At R L H) (hp : H p = none) (h : HasTy R L x t) (e : isTs t ns = some b) (q : ∀ H', At R L H' → Q (.bl b) H') : BR (rIsiT K) [x, .ref p] (upd H p (.tup (ns.map V.ty))) Q := by
  have h2 := (hA.newTup (ds := (ns.map V.ty).map D.sc) hp (AllR.scs _)).drop
  refine ⟨x, p, _, _, _, b, rfl, upd_same, ?_, h.tyx h2, (kit_tys ns).trans e, q _ h2⟩
  clear e
  induction ns with
  | nil => exact .nil
  | cons n ns ih => exact .cons (.ty n) (ih (hA.newTup (ds := (ns.map V.ty).map D.sc) hp (AllR.scs _)).drop)
/-! ### objects -/
theorem At.junk {dx : Addr} {o : HO} (h : At R L H) (hd : H dx = none) : At R L (upd H dx o) := by
  obtain ⟨B, s, r, w⟩ := h
  have nd : ∀ {a : Addr} {u : HO}, H a = some u → a ≠ dx := fun {a u} e z => by rw [z, hd] at e; cases e
  refine ⟨B, fun a u e => by rw [upd_ne (nd (s a u e))]; exact s a u e, r, w.nd, w.lk, fun p od m => ?_⟩
  rcases w.at_ p od m with k | ⟨h1, u, eu, q⟩
  · exact .inl k
  · exact .inr ⟨h1, u, by rw [upd_ne (nd eu)]; exact eu, q.mono (Ext.refl B) fun dy e1 e2 => ⟨by rw [upd_ne (nd e1)]; exact e1, e2⟩⟩
theorem At.newIns {C a dx : Addr} (h : At R L H) (ha : H a = none) (hd : H dx = none) (hne : dx ≠ a) : At R ((a, .ins C []) :: L) (upd (upd H dx (.own a)) a (.ins C dx [])) := by
  have h1 := h.junk (o := .own a) hd
  obtain ⟨B, s, r, w⟩ := h
  have bd : B dx = none := by
    cases e : B dx with
    | none => rfl
    | some u => rw [s dx u e] at hd; cases hd
  have ba : B a = none := by
    cases e : B a with
    | none => rfl
    | some u => rw [s a u e] at ha; cases ha
  have nd : ∀ {b : Addr} {u : HO}, H b = some u → b ≠ dx := fun {b u} e z => by rw [z, hd] at e; cases e
  have na : ∀ {b : Addr} {u : HO}, H b = some u → b ≠ a := fun {b u} e z => by rw [z, ha] at e; cases e
  have up : ∀ {b : Addr} {u : HO}, H b = some u → upd (upd H dx (.own a)) a (.ins C dx []) b = some u := fun {b u} e => by rw [upd_ne (na e), upd_ne (nd e)]; exact e
  refine ⟨B, fun b u e => up (s b u e), r, List.nodup_cons.mpr ⟨fun m => ?_, w.nd⟩, fun b o kvs e => List.mem_cons_of_mem _ (w.lk b o kvs e), fun q od m => ?_⟩
  · obtain ⟨⟨q, od⟩, m', e⟩ := List.mem_map.mp m
    have z : q = a := e
    rcases w.at_ q od m' with ⟨_, _, _, eb⟩ | ⟨_, u, eu, _⟩
    · rw [z, ba] at eb; cases eb
    · rw [z, ha] at eu; cases eu
  · rcases List.mem_cons.mp m with e | m
    · cases e
      exact .inr ⟨ba, _, upd_same, dx, [], rfl, by rw [upd_ne hne, upd_same], bd, rfl, fun i p q e => by simp at e⟩
    · rcases w.at_ q od m with k | ⟨h1, u, eu, q2⟩
      · exact .inl k
      · exact .inr ⟨h1, u, up eu, q2.mono (Ext.refl B) fun dy e1 e2 => ⟨up e1, e2⟩⟩
def putFD (f : PySem.Str) (v : D) : List (PySem.Str × D) → List (PySem.Str × D)
  | [] => [(f, v)]
  | (g, x) :: r => if g = f then (g, v) :: r else (g, x) :: putFD f v r
theorem RepsK.putF {B : Hp} {f : PySem.Str} {d : D} {x : V} (rx : Rep B d x) : ∀ {ds : List (PySem.Str × D)} {xs : List (PySem.Str × V)}, RepsK B ds xs → RepsK B (putFD f d ds) (L2.putF f x xs)
  | [], [], h => ⟨rfl, fun i p q e1 e2 => by
    cases i with
    | zero =>
      simp [putFD, L2.putF] at e1 e2
      subst e1 e2
      exact rx
    | succ i => simp [putFD] at e1⟩
  | [], _ :: _, h => by cases h.1
  | _ :: _, [], h => by cases h.1
  | (g, z) :: ds, (g', y) :: xs, h => by
    have e0 : g' = g := by have := h.1; simp at this; exact this.1
    have h' : RepsK B ds xs := ⟨by have := h.1; simp at this; exact this.2, fun i p q e1 e2 => h.2 (i + 1) p q (by simpa using e1) (by simpa using e2)⟩
    subst e0
    unfold putFD L2.putF
    by_cases e : g' = f
    · rw [if_pos e, if_pos e]
      refine ⟨by have := h'.1; simp [this], fun i p q e1 e2 => ?_⟩
      cases i with
      | zero =>
        simp at e1 e2
        subst e1 e2
        exact rx
      | succ i => exact h'.2 i p q (by simpa using e1) (by simpa using e2)
    · rw [if_neg e, if_neg e]
      have ih := RepsK.putF (f := f) rx h'
      refine ⟨by have := ih.1; simp [this], fun i p q e1 e2 => ?_⟩
      cases i with
      | zero => exact h.2 0 p q (by simpa using e1) (by simpa using e2)
      | succ i => exact ih.2 i p q (by simpa using e1) (by simpa using e2)
/-- self.f = v -/
def SetFQ (K : PySem.W.Frag) (x : V) (f : PySem.Str) (y : V) (P : Hp → Prop) (H : Hp) : Prop := ∃ a C dx fs, x = .ref a ∧ H a = some (.ins C dx fs) ∧ Cls K C ∧ NoAttr K C f ∧ fs.length < 1000 ∧ P (upd H a (.ins C dx (L2.putF f y fs)))
/-- self.f = v -/
theorem w_fld (L1 : LL) {L3 : LL} {C p : Addr} {fs : List (PySem.Str × D)} {f : PySem.Str} {P : Hp → Prop} (hA : At R (L1 ++ (p, OD.ins C fs) :: L3) H) (cl : Cls K C) (no : NoAttr K C f) (hl : fs.length < 1000) (m : InR R d v) (q : ∀ H', At R (L1 ++ (p, OD.ins C (putFD f d fs)) :: L3) H' → P H') :
    SetFQ K (.ref p) f v P H := by
  have hF := hA.front
  obtain ⟨o, B, e, s, r, dx, xs, rfl, h1, h2, hk⟩ := hF.own List.mem_cons_self (fun _ _ z => nomatch z)
  have el : xs.length = fs.length := by simpa using congrArg List.length hk.1
  refine ⟨p, C, dx, xs, rfl, e, cl, no, by omega, q _ (At.back (hF.write (fun _ _ z => nomatch z) (ins_no e) fun B' o0 e0 r' q0 keep => ?_))⟩
  rw [e] at e0
  cases e0
  obtain ⟨dx', xs', z, k1, k2, k3⟩ := q0
  cases z
  exact ⟨dx, _, rfl, (keep dx k1 k2).1, k2, k3.putF (m.rep r')⟩
theorem lookup_at {α β : Type} {f : PySem.Str} : ∀ {ds : List (PySem.Str × α)} {xs : List (PySem.Str × β)} {d : α}, xs.map (·.1) = ds.map (·.1) → ds.lookup f = some d → ∃ (i : Nat) (g : PySem.Str) (x : β), ds[i]? = some (g, d) ∧ xs[i]? = some (g, x) ∧ xs.lookup f = some x
  | [], _, _, _, h => by cases h
  | _ :: _, [], _, e, _ => by cases e
  | (g, z) :: ds, (g', y) :: xs, d, e, h => by
    simp at e
    obtain ⟨rfl, e⟩ := e
    rw [List.lookup_cons] at h ⊢
    cases q : (f == g') with
    | true =>
      rw [q] at h
      cases h
      exact ⟨0, g', y, rfl, rfl, rfl⟩
    | false =>
      rw [q] at h
      obtain ⟨i, g, x, h1, h2, h3⟩ := lookup_at e h
      exact ⟨i + 1, g, x, by simpa using h1, by simpa using h2, h3⟩
theorem r_fld {C : Addr} {ds : List (PySem.Str × D)} {f : PySem.Str} (hA : At R L H) (m : (D.obj C ds, x) ∈ R) (cl : Cls K C) (no : NoAttr K C f) (hl : ds.lookup f = some d) (q : ∀ v, At ((d, v) :: R) L H → Q v H) :
    ∃ a C dx fs v, x = .ref a ∧ H a = some (.ins C dx fs) ∧ Cls K C ∧ NoAttr K C f ∧ fs.lookup f = some v ∧ Q v H := by
  obtain ⟨a, dx, fs, rfl, e, hk, k⟩ := hA.objR m
  obtain ⟨i, g, y, h1, h2, h3⟩ := lookup_at hk hl
  exact ⟨a, C, dx, fs, y, rfl, e, cl, no, h3, q y (k i _ _ h1 h2)⟩
theorem r_fldO {C p : Addr} {ds : List (PySem.Str × D)} {f : PySem.Str} (hA : At R L H) (m : (p, OD.ins C ds) ∈ L) (cl : Cls K C) (no : NoAttr K C f) (hl : ds.lookup f = some d) (q : ∀ v, At ((d, v) :: R) L H → Q v H) :
    ∃ a C dx fs v, V.ref p = .ref a ∧ H a = some (.ins C dx fs) ∧ Cls K C ∧ NoAttr K C f ∧ fs.lookup f = some v ∧ Q v H := by
  obtain ⟨o, B, e, s, r, dx, xs, rfl, h1, h2, hk⟩ := hA.own m (fun _ _ z => nomatch z)
  obtain ⟨i, g, y, e1, e2, e3⟩ := lookup_at hk.1 hl
  refine ⟨p, C, dx, xs, y, rfl, e, cl, no, e3, q y (hA.add fun B' s' r' w' => ?_)⟩
  obtain ⟨_, o', e', dx', xs', rfl, _, _, hk'⟩ := (w'.at_ _ _ m).own (fun _ _ z => nomatch z)
  rw [e] at e'
  cases e'
  exact hk'.2 i _ _ e1 e2
theorem s_fld {σ : L2.St} {ta : TE} {f : PySem.Str} (q : ta σ H fun x H1 => ∃ a C dx fs v, x = .ref a ∧ H1 a = some (.ins C dx fs) ∧ Cls K C ∧ NoAttr K C f ∧ fs.lookup f = some v ∧ Q v H1) : tFld K ta f σ H Q := q
theorem s_setF {σ : L2.St} {ta tv : TE} {f : PySem.Str} {D : Ends} (q : tv σ H fun y H1 => ta σ H1 fun x H2 => SetFQ K x f y (fun H' => D.nx σ H') H2) : sFld K ta tv f D σ H := q
end
end Nw
set_option maxRecDepth 100000
set_option maxHeartbeats 4000000
namespace Nw
open PySem PySem.Spec PyProof.Rows L2
theorem hu_le {A : Around} {k n : Nat} (hr : Room k A) (h : n ≤ 200) : A.units + n < cLine := by
  have := hr.un
  omega
theorem hu_0 {A : Around} {k : Nat} (hr : Room k A) : A.units < cLine := by
  have := hr.un
  omega
section
variable {K : PySem.W.Frag} {R : RL} {L : LL} {H : Hp} {x y v : V} {Q : VK} {d : D} {σ : L2.St}
theorem At.newXd {f : PySem.Str} {p : Addr} (h : At R L H) (hp : H p = none) (m : InR R d v) : At R ((p, .xd [(f, d)]) :: L) (upd H p (.xd [(f, v)])) := h.new hp fun B r => ⟨_, rfl, rfl, fun i a b e1 e2 => by
  cases i with
  | zero =>
    simp at e1 e2
    subst e1 e2
    exact m.rep r
  | succ i => simp at e1⟩
/-- x(v) raised -/
theorem r_raise1 {P : Program} {mg : PySem.Str → Option Value} {n fld : PySem.Str} {C : Addr} {Q : XK} (M : Ex1 P K mg n fld C) (hA : At R L H) (m : InR R d v) (q : ∀ p H', At R ((p, OD.xd [(fld, d)]) :: L) H' → Q (.ref C) (some p) H') : MkX1 K C fld v H Q :=
  r_mkX1 M fun p hp => q p _ (hA.newXd hp m)
/-! ### texts -/
def repS (z : PySem.Str) (k : Nat) : PySem.Str := ⟨(List.replicate k z.cps).foldl (· ++ ·) #[]⟩
/-- a text times an int -/
theorem fold_cat (c : Array Nat) : ∀ (k : Nat) (a : Array Nat), ((List.replicate k c).foldl (· ++ ·) a).toList = a.toList ++ (List.replicate k c.toList).flatten
  | 0, a => by simp
  | k + 1, a => by
    rw [List.replicate_succ, List.foldl_cons, fold_cat c k, List.replicate_succ, List.flatten_cons]
    simp
theorem repS_cps (z : PySem.Str) (k : Nat) : (repS z k).cps.toList = (List.replicate k z.cps.toList).flatten := by
  unfold repS
  rw [fold_cat]
  simp
theorem repS_len (z : PySem.Str) (k : Nat) : (repS z k).length = k * z.length := by
  have e : (repS z k).length = (repS z k).cps.toList.length := by simp [PySem.Str.length]
  rw [e, repS_cps]
  simp [PySem.Str.length]
def rRepS : R2 := fun x y H Q => ∃ (z : PySem.Str) (n : Int), x = .str z ∧ y = .int n ∧ 2 ≤ n ∧ n ≤ 1000 ∧ 0 < z.length ∧ z.length ≤ 1000 ∧ Q (.str (repS z n.toNat)) H
theorem op_repS {X : Cx} : OpR X (binaryOp .Mult) rRepS := by
  intro pins s σ H x y v u Q I rx ry h
  obtain ⟨z, n, rfl, rfl, h1, h2, h3, h4, q⟩ := h
  obtain ⟨t, rfl⟩ := rx
  obtain ⟨t', rfl⟩ := ry
  have hn : ¬ n < 1 := by omega
  have he : (n == 1 || z.length == 0) = false := by
    have a : (n == 1) = false := beq_eq_false_iff_ne.mpr (by omega)
    have b : (z.length == 0) = false := beq_eq_false_iff_ne.mpr (by omega)
    rw [a, b] <;> rfl
  have hlen : z.length * n.toNat ≤ 1000000 := by
    have : n.toNat ≤ 1000 := by omega
    calc z.length * n.toNat ≤ 1000 * 1000 := Nat.mul_le_mul h4 this
      _ ≤ 1000000 := by decide
  have hl : PySem.Builtin.Str.tooLong (z.length * n.toNat) = false := decide_eq_false (by rw [sizeLine_eq]; omega)
  have hb : ¬ ((z.length : Int) > (2 ^ 63 - 1) / n) := by
    have e1 : (1000 : Int) ≤ (2 ^ 63 - 1) / n := by
      rw [Int.le_ediv_iff_mul_le (by omega)]
      omega
    omega
  refine PySem.P.mul_str (by rw [decide_eq_false (by omega), decide_eq_false (by omega)] <;> rfl) (fun _ _ => hb) (fun _ _ => hl) ?_
  rw [if_neg hn, if_neg (by rw [he]; exact Bool.false_ne_true)]
  refine ⟨?_, .str (repS z n.toNat), H, I.tok _, ⟨_, rfl⟩, q⟩
  show (repS z n.toNat).length ≤ sizeLine
  rw [repS_len, Nat.mul_comm]
  exact line_of hlen
end
end Nw
set_option maxRecDepth 100000
set_option maxHeartbeats 4000000
namespace Nw
open PySem PySem.Spec PyProof.Rows L2
/-! ### list(reversed(l)) -/
section
variable {prog : Program} {w : World} {A : Around} {E : Value → Shared → Prop} {s : Shared}
theorem rev_extend {it l S : Addr} {items : Array Value} {R : Result → Shared → Prop} {c₀ : Nat} (hh : A.handled = none) (hit : s.heap.IsRevIter it l ((items.size : Int) - 1)) (hl : s.heap.IsList l items) (hne : l ≠ it) (hn : items.size ≤ sizeLine)
    (hS : s.heap.get? S = some { cls := .type "list", data := .seq #[] c₀ }) (hSi : S ≠ it) (hSl : S ≠ l)
    (hR : ∀ h' tk acc c', (∀ b o, b ≠ S → b ≠ it → s.heap.get? b = some o → h'.get? b = some o) → h'.get? S = some { cls := .type "list", dict := none, data := .seq acc c', slots := #[] } → ItemsOf (fun i v => items[items.size - 1 - i]? = some v) acc items.size → R (.ok (.ret .none)) { s with heap := h', toks := tk }) :
    wpAny (model prog w) A.in1 (Builtin.List.listExtendWith (.ref S) (.ref it) .none) (fun fin s' => match fin with | .done f => R (.ok f) s' | .again c' => c'.quiet = true ∧ codeAny (model prog w) A c' R s') (fun e s' => R (.error e) s') s := by
  have W := (Walks.listRev (prog := prog) (w := w) (A := A.in1) hh it l hne items).toS
  have hSf : S ∉ [it, l] := by simp [hSi, hSl]
  have hT : s.TypeIs (.ref it) "list_reverseiterator" := hit.typeIs
  have h1 : Builtin.List.listSameRef (.ref S) (.ref it) = false := by simp [Builtin.List.listSameRef, hSi]
  unfold Builtin.List.listExtendWith; refine wpAny_bind (wpAny_typeOf hT ?_); rw [if_neg (by rw [h1]; decide)]
  refine wpAny_bind (wpAny_pyIter_revIter hit (wpAny_bind (wpAny_holding ?_)))
  unfold Builtin.List.listLengthHint; refine wpAny_bind (wpAny_specialOf hT RT.nolen_lri ?_)
  show wpAny _ A.in1 (specialOf (Value.ref it) (Str.ofString "__length_hint__") >>= _) _ _ _; refine wpAny_bind (wpAny_specialOf hT RT.hint_lri ?_)
  generalize hid : ("list_reverseiterator.__length_hint__" : String) = id0; wp_delta
  rw [show splitId id0 = some ("list_reverseiterator", "__length_hint__") from by subst hid; decide +kernel]; subst hid
  refine wpAny_bind (wpAny_isInstance (b := true) hT (by rw [isSubtype_type]; kernel_rfl) (wpAny_pure ?_)); rw [if_neg (by decide)]
  have e0 : ((items.size : Nat) : Int) - 1 - ((0 : Nat) : Int) = (items.size : Int) - 1 := by omega
  refine wpAny_pure ⟨plainId_quiet F.plain_extend_loop _, codeAny_extend_loopS W hn S hSf _ items.size 0 _ _ _ rfl (Nat.zero_le _) ⟨Nat.zero_le _, by rw [e0]; exact hit, hl⟩ hS (ItemsOf.nil _) fun s' acc' c' hm hS' hacc => ?_⟩
  rw [Moved.eq_with hm]
  refine hR s'.heap s'.toks acc' c' (fun b o hb hb2 e => hm.heap b o (fun hmem => ?_) e) hS' hacc
  rcases List.mem_cons.mp hmem with e' | hmem
  · exact hb e'
  · exact hb2 (List.mem_singleton.mp hmem)
theorem call_listRev {it l : Addr} {items : Array Value} {Q : Value → Shared → Prop} (hh : A.handled = none) (hit : s.heap.IsRevIter it l ((items.size : Int) - 1)) (hl : s.heap.IsList l items) (hne : l ≠ it) (hn : items.size ≤ sizeLine)
    (hQ : ∀ h' tk acc c', (∀ b o, b ≠ it → s.heap.get? b = some o → h'.get? b = some o) → h'.get? s.heap.objs.size = some { cls := .type "list", dict := none, data := .seq acc c', slots := #[] } → ItemsOf (fun i v => items[items.size - 1 - i]? = some v) acc items.size → Q (.ref s.heap.objs.size) { s with heap := h', toks := tk }) :
    wpAny (model prog w) A (call (.type "list") [.ref it]) Q E s := by
  refine callType_codes (Q₁ := fun obj s₁ => obj = .ref s.heap.objs.size ∧ s₁ = { s with heap := s.heap.push { cls := .type "list", data := .seq #[] } }) PySem.F.called_list (PySem.F.typeCall_list_1 _) PySem.F.entry_list_init (code_list_new _ ⟨rfl, rfl⟩) fun obj s₁ h₁ => ?_
  obtain ⟨rfl, rfl⟩ := h₁
  have hS : (s.heap.push { cls := .type "list", data := .seq #[] }).get? s.heap.objs.size = some { cls := .type "list", data := .seq #[] } := Heap.get?_push_size _ rfl
  obtain ⟨oi, hoi, _⟩ := id hit; obtain ⟨ol, hol, _⟩ := id hl
  have hSi : s.heap.objs.size ≠ it := Nat.ne_of_gt (Heap.lt_size hoi); have hSl : s.heap.objs.size ≠ l := Nat.ne_of_gt (Heap.lt_size hol)
  refine ⟨⟨_, hS, rfl⟩, PySem.F.args_list_init_2 _ _, ?_⟩
  show wpAny _ _ (do let old ← Builtin.List.listItems (.ref s.heap.objs.size); Builtin.List.listUpdate (.ref s.heap.objs.size) (fun _ => #[]); letGo old.toList.reverse; Builtin.List.listExtendWith (.ref s.heap.objs.size) (.ref it) .none) _ _ _
  refine wpAny_bind ?_; unfold Builtin.List.listItems; refine wpAny_bind (wpAny_seqItems hS rfl (wpAny_pure ?_))
  show wpAny _ _ (updateSeq s.heap.objs.size (fun _ => #[]) >>= fun _ => letGo (#[] : Array Value).toList.reverse >>= fun _ => Builtin.List.listExtendWith (.ref s.heap.objs.size) (.ref it) .none) _ _ _
  refine wpAny_bind (wpAny_updateSeq hS rfl (wpAny_bind (wpAny_letGo ?_)))
  have hS₂ := Heap.get?_update_self (Obj.mapSeq (fun _ => (#[] : Array Value))) hS rfl
  have oth : ∀ b o, b ≠ s.heap.objs.size → (s.heap.push { cls := .type "list", data := .seq #[] }).get? b = some o → ((s.heap.push { cls := .type "list", data := .seq #[] }).update s.heap.objs.size (Obj.mapSeq (fun _ => (#[] : Array Value)))).get? b = some o := fun b o hb e => (Heap.get?_update_other _ _ (Ne.symm hb)).trans e
  have up : ∀ b o, s.heap.get? b = some o → ((s.heap.push { cls := .type "list", data := .seq #[] }).update s.heap.objs.size (Obj.mapSeq (fun _ => (#[] : Array Value)))).get? b = some o := fun b o e => oth b o (Nat.ne_of_lt (Heap.lt_size e)) (Heap.get?_push_of_some _ e)
  refine rev_extend (A := A.in1) hh (hit.at fun o e => up _ _ e) (hl.at fun o e => up _ _ e) hne hn hS₂ hSi hSl fun h' tk acc c' hk hS' hacc => ?_
  exact ⟨rfl, hQ h' tk acc c' (fun b o hb e => hk b o (Nat.ne_of_lt (Heap.lt_size e)) hb (up b o e)) hS' hacc⟩
end
def tLstRev (K : PySem.W.Frag) (te : TE) : TE := fun σ H Q => te σ H fun v H1 => ∃ (a : Addr) (xs : List V), v = .ref a ∧ SqL K H1 a xs ∧ ∀ q, H1 q = none → Q (.ref q) (upd H1 q (.lst xs.reverse))
theorem pe_listRev {X : Cx} {e : Expr} {te : TE} {p p2 pos pos2 : Pos} (hc : X.calm = true) (hg : Gl X "list") (hm : X.mg "list" = none) (hg2 : Gl X "reversed") (hm2 : X.mg "reversed" = none) (he : PE X e te) (hs : starEach [e] X.env = (false, eval e X.env) :: starEach [] X.env := by rfl)
    (hs2 : starEach [.Call (.Name "reversed" p2) [e] [] pos2] X.env = (false, eval (.Call (.Name "reversed" p2) [e] [] pos2) X.env) :: starEach [] X.env := by rfl) : PE X (.Call (.Name "list" p) [.Call (.Name "reversed" p2) [e] [] pos2] [] pos) (tLstRev X.K te) := by
  refine ⟨fun pins s σ H Q I h => Call_ (ld_blt I hg hm boot_list (PyProof.Rows.callWith_type1 (args_cons (Call_ (ld_blt I hg2 hm2 PyProof.Rows.boot_reversed (PyProof.Rows.callWith_type1 (args_cons (thn (he.run pins s σ H _ I h) fun u s1 ⟨v, H1, I1, r1, q1⟩ => args_nil ?_) hs) hs rfl))) hs2) hs2 rfl))⟩
  obtain ⟨a, xs, ev, hq, q⟩ := q1
  subst ev
  obtain rfl : u = Value.ref a := r1
  obtain ⟨its, rv, p', hz⟩ := I1.list hq
  have hl := p'.isList
  refine call_reversed_list hl (args_nil ?_)
  have I2 : Inv X pins σ H1 { s1 with heap := s1.heap.push (revObj a ((its.toArray.size : Int) - 1)) } := I1.kept (t' := s1.toks) fun b o e => Heap.get?_push_of_some _ e
  obtain ⟨f0, f1, f2, f3, f4, f5⟩ := I1.fpOk (H' := H1) (b := s1.heap.objs.size) (Nat.le_refl _) (I1.hok.fresh (Nat.le_refl _))
  obtain ⟨ol, hol, _⟩ := id hl
  have hn : its.toArray.size ≤ sizeLine := by rw [List.size_toArray, ← rv.length]; exact hz
  have hsz : (s1.heap.push (revObj a ((its.toArray.size : Int) - 1))).objs.size = s1.heap.objs.size + 1 := Heap.size_push ..
  refine call_listRev (s := { s1 with heap := s1.heap.push (revObj a ((its.toArray.size : Int) - 1)) }) (I1.ok.hd hc) ⟨_, Heap.get?_push_size _ rfl, rfl, rfl⟩ (hl.push _) (Nat.ne_of_lt (Heap.lt_size hol)) hn fun h' tk acc c' hk hS hi => ?_
  have hv : Vals xs.reverse acc.toList := RT.vals_rev rv hi
  have I3 : Inv X pins σ (upd H1 (s1.heap.push (revObj a ((its.toArray.size : Int) - 1))).objs.size (.lst xs.reverse)) { s1 with heap := h', toks := tk } :=
    I2.turnedNew (ch := [s1.heap.objs.size]) (T := (s1.heap.push (revObj a ((its.toArray.size : Int) - 1))).objs.size) (fun b o hb e => hk b o (fun z => hb (by simp [z])) e) (fun b hb => by rw [List.mem_singleton.mp hb]; exact ⟨f0, f1, f2, f3, f4, f5⟩) (Nat.le_refl _)
      ⟨by rw [List.length_reverse]; exact hz, acc.toList, c', hv, by rw [Array.toArray_toList]; exact hS⟩
  exact ⟨.ref _, _, I3, rfl, q _ (I2.hok.fresh (Nat.le_refl _))⟩
section
variable {K : PySem.W.Frag} {R : RL} {L : LL} {H : Hp} {x : V} {ds : List D} {Q : VK}
def RevL (K : PySem.W.Frag) (x : V) (Q : VK) (H : Hp) : Prop := ∃ (a : Addr) (xs : List V), x = .ref a ∧ SqL K H a xs ∧ ∀ q, H q = none → Q (.ref q) (upd H q (.lst xs.reverse))
theorem s_lstRev {σ : L2.St} {te : TE} (q : te σ H fun v H1 => RevL K v Q H1) : tLstRev K te σ H Q := q
theorem r_lstRev (hA : At R L H) (m : HasL R L x ds) (q : ∀ p H', At R ((p, OD.lst ds.reverse) :: L) H' → Q (.ref p) H') : RevL K x Q H := by
  obtain ⟨p, xs, rfl, hr, hl, h⟩ := hA.items m
  refine ⟨p, xs, rfl, .inl hr, fun p' hp => q p' _ (h.mkL hp ?_)⟩
  have a := AllR.of_mem (R := ds.zip xs ++ R) (zs := (ds.zip xs).reverse) fun z m => List.mem_append_left _ (List.mem_reverse.mp m)
  rwa [List.map_reverse, List.map_reverse, zip_fst hl, zip_snd hl] at a
end
end Nw
set_option maxRecDepth 100000
set_option maxHeartbeats 4000000
namespace Nw
open PySem PySem.Spec PyProof.Rows L2
/-! ### d == {} -/
def rEqE (neg : Bool) : R2 := fun x y H Q => ∃ (a b : Addr) (ks : List (Key × V)), x = .ref a ∧ y = .ref b ∧ Rd H a (.dK ks) ∧ Rd H b (.dK []) ∧ Q (.bl (neg ^^ ks.isEmpty)) H
theorem op_eqE {X : Cx} (hu : X.A.units < cLine) : OpR X (compareOp .Eq) (rEqE false) := by
  intro pins s σ H x y v u Q I rx ry h
  obtain ⟨a, b, ks, rfl, rfl, ea, eb, q⟩ := h
  obtain rfl : v = Value.ref a := rx
  obtain rfl : u = Value.ref b := ry
  obtain ⟨_, ya, va, ra, da⟩ := dk_rd I.hok ea
  obtain ⟨_, yb, vb, rb, db⟩ := dk_rd I.hok eb
  have hb : vb = [] := List.eq_nil_of_length_eq_zero (by rw [← rb.length] <;> rfl)
  subst hb
  refine PySem.W.keq_eq (knd := mixKind X.prog X.w) (r := true) ya yb da db hu (fun e => ?_) ?_
  · have hn : va = [] := List.eq_nil_of_length_eq_zero (by simpa using e)
    subst hn
    exact .nil
  · refine fin_bl I q ?_
    have hl : ks.length = va.length := ra.length
    cases ks with
    | nil =>
      have hv : va = [] := List.eq_nil_of_length_eq_zero hl.symm
      subst hv
      rfl
    | cons p r =>
      cases va with
      | nil => cases hl
      | cons z zs => rfl
section
variable {R : RL} {L : LL} {H : Hp} {x y : V} {Q : VK} {p q : Addr} {ds : List (Key × D)}
theorem r_eqE (hA : At R L H) (m1 : (p, OD.dct ds) ∈ L) (m2 : (q, OD.dct []) ∈ L) (k : Q (.bl ds.isEmpty) H) : OR (rEqE false) (.ref p) (.ref q) H Q := by
  obtain ⟨ks, e1, k1, _⟩ := hA.dct m1
  obtain ⟨ls, e2, k2, _⟩ := hA.dct m2
  have hl : ls = [] := List.eq_nil_of_length_eq_zero (by simpa using congrArg List.length k2)
  subst hl
  refine ⟨p, q, ks, rfl, rfl, .inl e1, .inl e2, ?_⟩
  have e : (false ^^ ks.isEmpty) = ds.isEmpty := by
    have hl : ks.length = ds.length := by simpa using congrArg List.length k1
    cases ks <;> cases ds <;> first | rfl | cases hl
  rw [e]
  exact k
end
end Nw
set_option maxRecDepth 100000
set_option maxHeartbeats 4000000
namespace Nw
open PySem PySem.Spec PyProof.Rows L2
/-! ### what the head tells of own exceptions -/
def oexA (K : PySem.W.Frag) (C : Addr) : Bool := match K.lookup C with
  | some ⟨.type t, _, .cls cd, sl⟩ => decide (t = "type") && (cd.hasDict && (!cd.hasDel && (match cd.mro, sl.toList with
    | .ref C' :: bm, [_, _, _, _, some (.builtin n), _] => decide (C' = C) && (decide (n = "ValueError.__new__") && PySem.HandSPX.refsVE bm)
    | _, _ => false)))
  | _ => false
theorem oexA_ok {K : PySem.W.Frag} {C : Addr} (h : oexA K C = true) : ∃ nm q N bs bm sn sub ab col dd k0 k1 k2 k3 k5, K.lookup C = some (excClassObj nm q C N bs bm true sn sub ab col dd k0 k1 k2 k3 k5 "ValueError.__new__") ∧ PySem.HandSPX.refsVE bm = true := by
  unfold oexA at h
  split at h
  · rename_i t dd cd sl e
    simp only [Bool.and_eq_true, decide_eq_true_eq] at h
    obtain ⟨h1, h2, h3, h4⟩ := h
    obtain ⟨nm, bs, mro, ns, qn, hd, sn, sub, ab, col, del⟩ := cd
    obtain ⟨sl⟩ := sl
    dsimp only at h2 h3 h4
    subst h1
    split at h4
    · rename_i C' bm k0 k1 k2 k3 n k5
      simp only [Bool.and_eq_true, decide_eq_true_eq] at h4
      obtain ⟨h5, h6, h7⟩ := h4
      have h3' : del = false := by simpa using h3
      subst h2 h3' h5 h6
      exact ⟨nm, qn, ns, bs, bm, sn, sub, ab, col, dd, k0, k1, k2, k3, k5, e, h7⟩
    · cases h4
  · cases h
def oexB (K : PySem.W.Frag) (C : Addr) : Bool := oexA K C && (decide (PySem.W.findIn K (.ref C) "__setattr__" = some (some (.builtin "object.__setattr__"))) && (decide (PySem.W.subIn K (.ref C) (.type "BaseException") = some true) && (decide (PySem.W.typeIn K (.ref C) = some (.type "type")) && PySem.W.keepIn K (.ref C))))
theorem oexB_ok {K : PySem.W.Frag} {C : Addr} (h : oexB K C = true) : OexC K C := by
  unfold oexB at h
  simp only [Bool.and_eq_true, decide_eq_true_eq] at h
  obtain ⟨h1, h2, h3, h4, h5⟩ := h
  exact ⟨oexA_ok h1, h2, h3, h4, h5⟩
def supB (K : PySem.W.Frag) (C : Addr) : Bool := (PySem.W.clsIn K C).isSome && (decide (PySem.W.mroIn K C (.ref C) = some true) && (decide (PySem.W.ks_superIn K C C "__init__" = some (some (.builtin "ValueError.__init__"))) && (decide (PySem.W.subIn K (.ref C) (.type "ValueError") = some true) && decide (PySem.W.nsIn K cStatics "thirdparty.any" = some none))))
theorem supB_ok {K : PySem.W.Frag} {C : Addr} (h : supB K C = true) : SupC K C C := by
  unfold supB at h
  simp only [Bool.and_eq_true, decide_eq_true_eq] at h
  obtain ⟨h1, h2, h3, h4, h5⟩ := h
  have e := Option.isSome_iff_exists.mp h1
  exact ⟨e, e, h2, h3, h4, h5⟩
def xcB (K : PySem.W.Frag) (D : Addr) : Bool := decide (PySem.W.findIn K (.ref D) "__getattribute__" = some (some (.builtin "BaseException.__getattribute__"))) && (decide (PySem.W.findIn K (.ref D) "__getattr__" = some none) && (decide (PySem.W.subIn K (.ref D) (.type "BaseException") = some true) && (PySem.W.hasDictIn K D && (decide (PySem.W.findIn K (.ref D) "__class__" = some (some (.builtin "object.__class__"))) &&
  (decide (PySem.W.specialIn K (.builtin "object.__class__") "__get__" = some (some (.builtin "getset_descriptor.__get__"))) && (decide (PySem.W.takesIn K (.builtin "object.__class__") = some true) && decide (PySem.W.mroIn K D (.type "object") = some true)))))))
theorem xcB_ok {K : PySem.W.Frag} {D : Addr} (h : xcB K D = true) : ExcC K D ∧ XfC K D := by
  unfold xcB at h
  simp only [Bool.and_eq_true, decide_eq_true_eq] at h
  obtain ⟨h1, h2, h3, h4, h5, h6, h7, h8⟩ := h
  exact ⟨⟨h1, h2, h3, h4, h5, h6, h7, h8⟩, h1, h2, h3, h4⟩
/-- a def whose closure is the one cell __class__ -/
abbrev SuW : Type := Option (PySem.Str × PySem.Str × Arguments × FuncBody × Scope × Addr × PySem.Str × Addr)
def suW (K : PySem.W.Frag) (p : PySem.Str × Option PySem.Str) : SuW := match K.lookup (He.fAd K p) with
  | some ⟨_, _, .func fd, _⟩ => (match fd.closure with
    | [(n, _)] => some (fd.name, fd.qualname, fd.params, fd.body, fd.scope, fd.globals, n, fd.builtins)
    | _ => none)
  | _ => none
structure SuD where
  cls : PySem.Str
  qual : PySem.Str
  params : Arguments
  body : List Stmt
  scope : Scope
  fld : PySem.Str
def SuD.val (d : SuD) : SuW := some ("__init__", d.qual, d.params, .stmts d.body, d.scope, mainGlobals, "__class__", builtinsNs)
def suCell (K : PySem.W.Frag) (c D : Addr) : Bool := match K.lookup c with
  | some ⟨_, _, .cell (some (.ref a)), _⟩ => decide (a = D)
  | _ => false
def suFile (K : PySem.W.Frag) (c : Addr) (file : PySem.Str) : Bool := match K.lookup c with
  | some ⟨_, _, .fields vs, _⟩ => (match (vs[2]? : Option Value) with
    | some (Value.str f _) => decide (f = file)
    | _ => false)
  | _ => false
def SuD.ok (file : PySem.Str) (K : PySem.W.Frag) (d : SuD) : Bool := (match K.lookup (He.fAd K (d.cls, some "__init__")) with
  | some ⟨_, _, .func fd, _⟩ => (match fd.closure, fd.code, fd.defaults with
    | [(_, cc)], .ref cd, .none => PySem.W.codeIn K (.ref cd) d.qual && (suFile K cd file && suCell K cc (He.ga K d.cls))
    | _, _, _ => false)
  | _ => false) && (oexB K (He.ga K d.cls) && (supB K (He.ga K d.cls) && (xcB K (He.ga K d.cls) && (decide (PySem.W.findIn K (.ref (He.ga K d.cls)) d.fld = some none) &&
    (decide (PySem.W.findIn K (.ref (He.ga K d.cls)) "__init__" = some (some (.ref (He.fAd K (d.cls, some "__init__"))))) && decide (PySem.W.typeIn K (.ref (He.fAd K (d.cls, some "__init__"))) = some (.type "function")))))))
structure SuSays (file : PySem.Str) (K : PySem.W.Frag) (d : SuD) (C : Addr) : Prop where
  T : OexC K C
  G : SupC K C C
  xc : ExcC K C
  xf : XfC K C
  no : PySem.W.findIn K (.ref C) d.fld = some none
  fn : ∃ (fI cda cc : Addr) (fd : FuncData), PySem.W.findIn K (.ref C) "__init__" = some (some (.ref fI)) ∧ PySem.W.typeIn K (.ref fI) = some (.type "function") ∧ FnS K "__init__" d.qual d.params d.body d.scope C file fI cda cc fd
theorem SuD.says {file : PySem.Str} {K : PySem.W.Frag} {d : SuD} (e : suW K (d.cls, some "__init__") = d.val) (h : d.ok file K = true) : SuSays file K d (He.ga K d.cls) := by
  unfold SuD.ok at h
  simp only [Bool.and_eq_true, decide_eq_true_eq] at h
  obtain ⟨h1, h2, h3, h4, h5, h6, h7⟩ := h
  refine ⟨oexB_ok h2, supB_ok h3, (xcB_ok h4).1, (xcB_ok h4).2, h5, ?_⟩
  unfold suW at e
  split at h1
  · rename_i oc od fd osl lk
    rw [lk] at e
    obtain ⟨n1, n2, n3, n4, n5, n6, n7, n8, n9, n10, n11, n12, n13, n14, n15⟩ := fd
    dsimp only at h1 e
    split at h1
    · rename_i nm cc cd
      dsimp only at e
      have e2 : (some (n1, n2, n3, n4, n5, n6, nm, n15) : SuW) = some (("__init__" : PySem.Str), d.qual, d.params, FuncBody.stmts d.body, d.scope, mainGlobals, ("__class__" : PySem.Str), builtinsNs) := e
      simp only [Option.some.injEq, Prod.mk.injEq] at e2
      obtain ⟨g1, g2, g3, g4, g5, g6, g7, g8⟩ := e2
      subst g1 g2 g3 g4 g5 g6 g7 g8
      simp only [Bool.and_eq_true] at h1
      obtain ⟨k1, k2, k3⟩ := h1
      refine ⟨_, cd, cc, _, h6, h7, ⟨oc, od, osl, .none, n9, n10, n11, n14, n12, rfl, lk, rfl⟩, k1, ?_, ?_⟩
      · unfold suFile at k2
        split at k2
        · rename_i oc2 od2 vs osl2 lk2
          split at k2
          · rename_i f tf ev
            have ef : f = file := of_decide_eq_true k2
            subst ef
            exact ⟨oc2, od2, osl2, vs, tf, lk2, ev⟩
          · cases k2
        · cases k2
      · unfold suCell at k3
        split at k3
        · rename_i oc3 od3 a osl3 lk3
          have ea : a = He.ga K d.cls := of_decide_eq_true k3
          subst ea
          exact ⟨oc3, od3, osl3, lk3⟩
        · cases k3
    · cases h1
  · cases h1
/-! ### the Hook -/
abbrev AlN : Type := He.AlD × Bool × List SuW
def obsN (file : PySem.Str) (fa : List He.Fa) (fn : List He.DefD) (su : List SuD) (xs : List (PySem.W.Frag → Bool)) (K : PySem.W.Frag) : AlN := (He.obsD fa fn K, (su.all fun d => d.ok file K) && xs.all fun x => x K, su.map fun d => suW K (d.cls, some "__init__"))
def valN (fn : List He.DefD) (su : List SuD) : AlN := (He.valD fn, true, su.map SuD.val)
def SaysN (file : PySem.Str) (fa : List He.Fa) (fn : List He.DefD) (su : List SuD) (xs : List (PySem.W.Frag → Bool)) (K : PySem.W.Frag) : Prop := obsN file fa fn su xs K = valN fn su
def obsNG (file : PySem.Str) (n : Nat) (fa : List He.Fa) (fn : List He.DefD) (su : List SuD) (xs : List (PySem.W.Frag → Bool)) (g : Addr → Option Obj) : AlN := obsN file fa fn su xs (He.frG g (cStatics :: He.asD g n))
def hookN (file : PySem.Str) (n : Nat) (fa : List He.Fa) (fn : List He.DefD) (su : List SuD) (xs : List (PySem.W.Frag → Bool)) : PySem.W.Hook where
  α := AlN
  obs := fun s => obsNG file n fa fn su xs s.heap.get?
  val := fun _ => valN fn su
  says := fun _ h => ∃ K : PySem.W.Frag, K.In h ∧ SaysN file fa fn su xs K
  of := fun _ _ e => ⟨_, He.frG_in, e⟩
  keeps := fun _ _ _ ⟨K, hK, c⟩ k => ⟨K, PySem.W.Frag.In.keeps hK k, c⟩
theorem obsNG_eq {file : PySem.Str} {n : Nat} {fa : List He.Fa} {fn : List He.DefD} {su : List SuD} {xs : List (PySem.W.Frag → Bool)} {g : Addr → Option Obj} {s : Shared} (h : ∀ a, g a = s.heap.get? a) : obsNG file n fa fn su xs g = (hookN file n fa fn su xs).obs s := by
  rw [show g = s.heap.get? from funext h] <;> rfl
section
variable {file : PySem.Str} {fa : List He.Fa} {fn : List He.DefD} {su : List SuD} {xs : List (PySem.W.Frag → Bool)} {K : PySem.W.Frag}
theorem SaysN.d (c : SaysN file fa fn su xs K) : He.SaysD fa fn K := congrArg (fun z : AlN => z.1) c
theorem SaysN.x (c : SaysN file fa fn su xs K) (i : Nat) {x : PySem.W.Frag → Bool} (h : xs[i]? = some x := by rfl) : x K = true := by
  have e : ((su.all fun d => d.ok file K) && xs.all fun x => x K) = true := congrArg (fun z : AlN => z.2.1) c
  exact List.all_eq_true.mp (Bool.and_eq_true_iff.mp e).2 x (List.mem_of_getElem? h)
theorem SaysN.sup (c : SaysN file fa fn su xs K) (i : Nat) {d : SuD} (h : su[i]? = some d := by rfl) : SuSays file K d (He.ga K d.cls) := by
  have e : ((su.all fun d => d.ok file K) && xs.all fun x => x K) = true := congrArg (fun z : AlN => z.2.1) c
  have e2 : su.map (fun d => suW K (d.cls, some "__init__")) = su.map SuD.val := congrArg (fun z : AlN => z.2.2) c
  have e3 : (su.map fun d => suW K (d.cls, some "__init__"))[i]? = (su.map SuD.val)[i]? := by rw [e2]
  rw [List.getElem?_map, List.getElem?_map, h] at e3
  exact SuD.says (Option.some.inj e3) (List.all_eq_true.mp (Bool.and_eq_true_iff.mp e).1 d (List.mem_of_getElem? h))
end
end Nw
set_option maxRecDepth 100000
set_option maxHeartbeats 4000000
namespace Nw
open PySem PySem.Spec PyProof.Rows L2
/-- a suite that only an exception of the class at C (with a dict) enters -/
theorem pss_when {X : Cx} {st : List Stmt} {cls : Value} {d : Option Addr} {oe : Obj} {C : Addr} {tt : Addr → TS} (hz : Zc cls d oe) (h : ∀ dd, Zc (.ref C) (some dd) oe → PSs X st (tt dd)) : PSs X st (fun D σ H => ∃ dd, cls = .ref C ∧ d = some dd ∧ tt dd D σ H) :=
  ⟨fun pins s σ H D I ⟨dd, e1, e2, q⟩ => (h dd (by rw [← e1, ← e2]; exact hz)).run pins s σ H D I q⟩
/-- a call in a try's body: what it lets out is told by the slots -/
theorem pe_fnS {X : Cx} {k j : Nat} {x : PySem.Str} {ps : List PySem.Str} {sp : Sp} {W : WX} {p pos : Pos} {e : Expr} {es : List Expr} {t : TA} (F : Fn X.prog X.w X.K X.mg X.base k x ps sp) (hr : Room j X.A) (hk : k ≤ j) (tk : Takes X W) (hg : Gl X x) (ha : PA X (e :: es) t) (hdb : (x == ("__debug__" : PySem.Str)) = false := by decide)
    (he : starEach (e :: es) X.env = (false, eval e X.env) :: starEach es X.env := by rfl) (hpl : (backTo pos (starEach es X.env)).any (·.1) = false := by rfl) : PE X (.Call (.Name x p) (e :: es) [] pos) (tCallS sp (WE W) t) := by
  obtain ⟨f, fd, a, b, c, d⟩ := F.ex
  exact pe_callS a (hr.mono hk) hg b c d (fun σ => passAt tk σ) ha hdb he hpl
theorem s_callS {sp : Sp} {E : L2.St → XK} {t : TA} {σ : L2.St} {H : Hp} {Q : VK} (q : t σ H fun vs H1 => sp vs H1 Q (E σ)) : tCallS sp E t σ H Q := q
/-- C.f, a whole number that stands in the class -/
def cvB (K : PySem.W.Frag) (C : Addr) (f : PySem.Str) (i : Int) : Bool := PySem.W.readsIn K C (.type "type") && (decide (PySem.W.specialIn K (.ref C) "__getattribute__" = some (some (.builtin "type.__getattribute__"))) && (match PySem.W.findCls K (.ref C) (.type "type") f with
  | some (.val (.int j _)) => decide (j = i)
  | _ => false))
structure CvI (K : PySem.W.Frag) (C : Addr) (f : PySem.Str) (i : Int) : Prop where
  rd : ClX.CRead K C (.type "type")
  vl : ∃ u, ClX.CVal K C (.type "type") f (.int i) u
theorem cvB_ok {K : PySem.W.Frag} {C : Addr} {f : PySem.Str} {i : Int} (h : cvB K C f i = true) : CvI K C f i := by
  unfold cvB at h
  simp only [Bool.and_eq_true, decide_eq_true_eq] at h
  obtain ⟨h1, h2, h3⟩ := h
  refine ⟨⟨h1, h2⟩, ?_⟩
  split at h3
  · rename_i j t e
    have ej : j = i := of_decide_eq_true h3
    subst ej
    exact ⟨_, e, ⟨_, rfl⟩⟩
  · cases h3
section
variable {K : PySem.W.Frag} {C : Addr} {f : PySem.Str} {i : Int} {σ : L2.St} {H : Hp} {Q : VK} {te : TE}
theorem s_cval (q : te σ H fun x H1 => ∃ C mc v u, x = .ref C ∧ ClX.CRead K C mc ∧ ClX.CVal K C mc f v u ∧ Q v H1) : ClX.tCVal K te f σ H Q := q
theorem r_cval (c : CvI K C f i) (q : Q (.int i) H) : ∃ C' mc v u, V.ref C = .ref C' ∧ ClX.CRead K C' mc ∧ ClX.CVal K C' mc f v u ∧ Q v H := by
  obtain ⟨u, hu⟩ := c.vl
  exact ⟨C, _, _, u, rfl, c.rd, hu, q⟩
end
end Nw
set_option maxRecDepth 100000
set_option maxHeartbeats 4000000
namespace K26
open PySem PySem.Spec PyProof.Rows L2 Nw
def top (i : Nat) : Stmt := PySem.Challenge.pw_netwright_k26_steps_by_sums.main.body.getD i (.Pass ⟨0, 0, 0, 0⟩)
abbrev s_law : Stmt := top 63
def n_law : List PySem.Str := ["script", "pot", "world", "net", "markings", "asked", "marking", "bad", "answer", "due"]
theorem sc_law : FnScope n_law ["script"] (defScope s_law) := ⟨rfl, rfl, rfl, by decide +kernel, rfl, by decide +kernel, by decide +kernel⟩
abbrev s__law_pot : Stmt := top 44
def n__law_pot : List PySem.Str := ["script", "pot", "cell"]
theorem sc__law_pot : FnScope n__law_pot ["script"] (defScope s__law_pot) := ⟨rfl, rfl, rfl, by decide +kernel, rfl, by decide +kernel, by decide +kernel⟩
abbrev s__law_world : Stmt := top 50
def n__law_world : List PySem.Str := ["pot", "size", "many", "count", "names", "takes_v", "gives_v", "k", "inputs"]
theorem sc__law_world : FnScope n__law_world ["pot"] (defScope s__law_world) := ⟨rfl, rfl, rfl, by decide +kernel, rfl, by decide +kernel, by decide +kernel⟩
abbrev s__law_net : Stmt := top 53
def n__law_net : List PySem.Str := ["pot", "world", "places", "k", "way", "transitions", "labels", "name"]
theorem sc__law_net : FnScope n__law_net ["pot", "world"] (defScope s__law_net) := ⟨rfl, rfl, rfl, by decide +kernel, rfl, by decide +kernel, by decide +kernel⟩
abbrev s__law_bad : Stmt := top 58
def n__law_bad : List PySem.Str := ["pot", "marking", "way", "at", "odd"]
theorem sc__law_bad : FnScope n__law_bad ["pot", "marking"] (defScope s__law_bad) := ⟨rfl, rfl, rfl, by decide +kernel, rfl, by decide +kernel, by decide +kernel⟩
abbrev s__law_asked : Stmt := top 61
def n__law_asked : List PySem.Str := ["net", "marking", "told", "e", "fits"]
theorem sc__law_asked : FnScope n__law_asked ["net", "marking"] (defScope s__law_asked) := ⟨rfl, rfl, rfl, by decide +kernel, rfl, by decide +kernel, by decide +kernel⟩
abbrev s__law_due : Stmt := top 60
def n__law_due : List PySem.Str := ["world", "marking", "ready", "scarce", "tokens", "found", "k", "take", "grown", "row", "need", "i", "j"]
theorem sc__law_due : FnScope n__law_due ["world", "marking"] (defScope s__law_due) := ⟨rfl, rfl, rfl, by decide +kernel, rfl, by decide +kernel, by decide +kernel⟩
abbrev s__law_agrees : Stmt := top 62
def n__law_agrees : List PySem.Str := ["net", "world", "marking", "due", "answer", "told", "k", "row", "j"]
theorem sc__law_agrees : FnScope n__law_agrees ["net", "world", "marking"] (defScope s__law_agrees) := ⟨rfl, rfl, rfl, by decide +kernel, rfl, by decide +kernel, by decide +kernel⟩
abbrev s__law_joint : Stmt := top 55
def n__law_joint : List PySem.Str := ["pot", "world", "wanted", "tokens", "i", "way", "at", "k"]
theorem sc__law_joint : FnScope n__law_joint ["pot", "world"] (defScope s__law_joint) := ⟨rfl, rfl, rfl, by decide +kernel, rfl, by decide +kernel, by decide +kernel⟩
abbrev s__law_most : Stmt := top 56
def n__law_most : List PySem.Str := ["pot", "world", "wanted", "tokens", "i", "k"]
theorem sc__law_most : FnScope n__law_most ["pot", "world"] (defScope s__law_most) := ⟨rfl, rfl, rfl, by decide +kernel, rfl, by decide +kernel, by decide +kernel⟩
abbrev s__law_lowered : Stmt := top 57
def n__law_lowered : List PySem.Str := ["pot", "marking", "full", "at", "i"]
theorem sc__law_lowered : FnScope n__law_lowered ["pot", "marking"] (defScope s__law_lowered) := ⟨rfl, rfl, rfl, by decide +kernel, rfl, by decide +kernel, by decide +kernel⟩
abbrev s__law_draw : Stmt := top 45
def n__law_draw : List PySem.Str := ["pot", "many", "cell", "digit"]
theorem sc__law_draw : FnScope n__law_draw ["pot", "many"] (defScope s__law_draw) := ⟨rfl, rfl, rfl, by decide +kernel, rfl, by decide +kernel, by decide +kernel⟩
abbrev s__law_names : Stmt := top 47
def n__law_names : List PySem.Str := ["pot", "many", "signs", "names", "stem", "at", "hop", "turn", "shift", "k", "code", "wide", "word"]
theorem sc__law_names : FnScope n__law_names ["pot", "many"] (defScope s__law_names) := ⟨rfl, rfl, rfl, by decide +kernel, rfl, by decide +kernel, by decide +kernel⟩
abbrev s__law_row : Stmt := top 49
def n__law_row : List PySem.Str := ["pot", "many", "count", "row", "k", "at"]
theorem sc__law_row : FnScope n__law_row ["pot", "many", "count"] (defScope s__law_row) := ⟨rfl, rfl, rfl, by decide +kernel, rfl, by decide +kernel, by decide +kernel⟩
abbrev s__law_order : Stmt := top 52
def n__law_order : List PySem.Str := ["pot", "many", "turn", "order", "k"]
theorem sc__law_order : FnScope n__law_order ["pot", "many"] (defScope s__law_order) := ⟨rfl, rfl, rfl, by decide +kernel, rfl, by decide +kernel, by decide +kernel⟩
abbrev s_Net_init : Stmt := inClass (top 18) 2
def n_Net_init : List PySem.Str := ["self", "places", "transitions", "labels", "given", "at", "place", "name"]
theorem sc_Net_init : FnScope n_Net_init ["self", "places", "transitions", "labels"] (defScope s_Net_init) := ⟨rfl, rfl, rfl, by decide +kernel, rfl, by decide +kernel, by decide +kernel⟩
abbrev s__law_side : Stmt := top 51
def n__law_side : List PySem.Str := ["places", "row", "side", "k"]
theorem sc__law_side : FnScope n__law_side ["places", "row"] (defScope s__law_side) := ⟨rfl, rfl, rfl, by decide +kernel, rfl, by decide +kernel, by decide +kernel⟩
abbrev s__law_word : Stmt := top 46
def n__law_word : List PySem.Str := ["pot", "wide", "signs", "size", "first", "k"]
theorem sc__law_word : FnScope n__law_word ["pot", "wide"] (defScope s__law_word) := ⟨rfl, rfl, rfl, by decide +kernel, rfl, by decide +kernel, by decide +kernel⟩
abbrev s_steps : Stmt := top 39
def n_steps : List PySem.Str := ["net", "marking", "step", "_"]
theorem sc_steps : FnScope n_steps ["net", "marking"] (defScope s_steps) := ⟨rfl, rfl, rfl, by decide +kernel, rfl, by decide +kernel, by decide +kernel⟩
abbrev s__law_covers : Stmt := top 59
def n__law_covers : List PySem.Str := ["tokens", "row", "i"]
theorem sc__law_covers : FnScope n__law_covers ["tokens", "row"] (defScope s__law_covers) := ⟨rfl, rfl, rfl, by decide +kernel, rfl, by decide +kernel, by decide +kernel⟩
abbrev s__law_wanted : Stmt := top 54
def n__law_wanted : List PySem.Str := ["pot", "world", "count", "way", "picks", "coins", "k"]
theorem sc__law_wanted : FnScope n__law_wanted ["pot", "world"] (defScope s__law_wanted) := ⟨rfl, rfl, rfl, by decide +kernel, rfl, by decide +kernel, by decide +kernel⟩
abbrev s__law_weight : Stmt := top 48
def n__law_weight : List PySem.Str := ["pot", "way"]
theorem sc__law_weight : FnScope n__law_weight ["pot"] (defScope s__law_weight) := ⟨rfl, rfl, rfl, by decide +kernel, rfl, by decide +kernel, by decide +kernel⟩
abbrev s_check_sizes : Stmt := top 19
def n_check_sizes : List PySem.Str := ["places", "transitions"]
theorem sc_check_sizes : FnScope n_check_sizes ["places", "transitions"] (defScope s_check_sizes) := ⟨rfl, rfl, rfl, by decide +kernel, rfl, by decide +kernel, by decide +kernel⟩
abbrev s_check_tokens : Stmt := top 20
def n_check_tokens : List PySem.Str := ["places", "place"]
theorem sc_check_tokens : FnScope n_check_tokens ["places"] (defScope s_check_tokens) := ⟨rfl, rfl, rfl, by decide +kernel, rfl, by decide +kernel, by decide +kernel⟩
abbrev s_check_arcs : Stmt := top 21
def n_check_arcs : List PySem.Str := ["places", "transitions", "name", "side", "place"]
theorem sc_check_arcs : FnScope n_check_arcs ["places", "transitions"] (defScope s_check_arcs) := ⟨rfl, rfl, rfl, by decide +kernel, rfl, by decide +kernel, by decide +kernel⟩
abbrev s_check_labels : Stmt := top 22
def n_check_labels : List PySem.Str := ["transitions", "labels", "name"]
theorem sc_check_labels : FnScope n_check_labels ["transitions", "labels"] (defScope s_check_labels) := ⟨rfl, rfl, rfl, by decide +kernel, rfl, by decide +kernel, by decide +kernel⟩
abbrev s_users : Stmt := top 24
def n_users : List PySem.Str := ["places", "arcs", "found", "place", "name", "at", "_"]
theorem sc_users : FnScope n_users ["places", "arcs"] (defScope s_users) := ⟨rfl, rfl, rfl, by decide +kernel, rfl, by decide +kernel, by decide +kernel⟩
abbrev s_indexed : Stmt := top 23
def n_indexed : List PySem.Str := ["index", "side", "place"]
theorem sc_indexed : FnScope n_indexed ["index", "side"] (defScope s_indexed) := ⟨rfl, rfl, rfl, by decide +kernel, rfl, by decide +kernel, by decide +kernel⟩
abbrev s_check_marking : Stmt := top 31
def n_check_marking : List PySem.Str := ["net", "marking"]
theorem sc_check_marking : FnScope n_check_marking ["net", "marking"] (defScope s_check_marking) := ⟨rfl, rfl, rfl, by decide +kernel, rfl, by decide +kernel, by decide +kernel⟩
abbrev s_steps_and_markings : Stmt := top 40
def n_steps_and_markings : List PySem.Str := ["net", "marking", "names", "found", "name", "chosen", "left", "step"]
theorem sc_steps_and_markings : FnScope n_steps_and_markings ["net", "marking"] (defScope s_steps_and_markings) := ⟨rfl, rfl, rfl, by decide +kernel, rfl, by decide +kernel, by decide +kernel⟩
abbrev s_is_name : Stmt := top 14
def n_is_name : List PySem.Str := ["word", "sign"]
theorem sc_is_name : FnScope n_is_name ["word"] (defScope s_is_name) := ⟨rfl, rfl, rfl, by decide +kernel, rfl, by decide +kernel, by decide +kernel⟩
abbrev s_is_between : Stmt := top 16
def n_is_between : List PySem.Str := ["value", "least", "greatest"]
theorem sc_is_between : FnScope n_is_between ["value", "least", "greatest"] (defScope s_is_between) := ⟨rfl, rfl, rfl, by decide +kernel, rfl, by decide +kernel, by decide +kernel⟩
abbrev s_is_marking : Stmt := top 30
def n_is_marking : List PySem.Str := ["net", "marking", "tokens"]
theorem sc_is_marking : FnScope n_is_marking ["net", "marking"] (defScope s_is_marking) := ⟨rfl, rfl, rfl, by decide +kernel, rfl, by decide +kernel, by decide +kernel⟩
abbrev s_enabled_names : Stmt := top 36
def n_enabled_names : List PySem.Str := ["net", "marking", "name"]
theorem sc_enabled_names : FnScope n_enabled_names ["net", "marking"] (defScope s_enabled_names) := ⟨rfl, rfl, rfl, by decide +kernel, rfl, by decide +kernel, by decide +kernel⟩
abbrev s_is_enabled : Stmt := top 35
def n_is_enabled : List PySem.Str := ["net", "marking", "name", "place", "weight"]
theorem sc_is_enabled : FnScope n_is_enabled ["net", "marking", "name"] (defScope s_is_enabled) := ⟨rfl, rfl, rfl, by decide +kernel, rfl, by decide +kernel, by decide +kernel⟩
abbrev s_with_outputs : Stmt := top 42
def n_with_outputs : List PySem.Str := ["net", "marking", "step", "tokens", "name", "place", "weight"]
theorem sc_with_outputs : FnScope n_with_outputs ["net", "marking", "step"] (defScope s_with_outputs) := ⟨rfl, rfl, rfl, by decide +kernel, rfl, by decide +kernel, by decide +kernel⟩
abbrev s_without_inputs : Stmt := top 41
def n_without_inputs : List PySem.Str := ["net", "marking", "name", "tokens", "place", "weight"]
theorem sc_without_inputs : FnScope n_without_inputs ["net", "marking", "name"] (defScope s_without_inputs) := ⟨rfl, rfl, rfl, by decide +kernel, rfl, by decide +kernel, by decide +kernel⟩
abbrev s_is_integer : Stmt := top 15
def n_is_integer : List PySem.Str := ["value"]
theorem sc_is_integer : FnScope n_is_integer ["value"] (defScope s_is_integer) := ⟨rfl, rfl, rfl, by decide +kernel, rfl, by decide +kernel, by decide +kernel⟩
abbrev s_takes : Stmt := top 32
def n_takes : List PySem.Str := ["net", "name"]
theorem sc_takes : FnScope n_takes ["net", "name"] (defScope s_takes) := ⟨rfl, rfl, rfl, by decide +kernel, rfl, by decide +kernel, by decide +kernel⟩
abbrev s_gives : Stmt := top 33
def n_gives : List PySem.Str := ["net", "name"]
theorem sc_gives : FnScope n_gives ["net", "name"] (defScope s_gives) := ⟨rfl, rfl, rfl, by decide +kernel, rfl, by decide +kernel, by decide +kernel⟩
end K26
set_option maxRecDepth 100000
set_option maxHeartbeats 0
namespace K26
open PySem PySem.Spec PyProof.Rows L2 Nw
def d_law : He.DefD := ⟨("law", none), "law", "law", defArgs s_law, defBody s_law, defScope s_law, [], []⟩
def d__law_pot : He.DefD := ⟨("_law_pot", none), "_law_pot", "_law_pot", defArgs s__law_pot, defBody s__law_pot, defScope s__law_pot, [], []⟩
def d__law_world : He.DefD := ⟨("_law_world", none), "_law_world", "_law_world", defArgs s__law_world, defBody s__law_world, defScope s__law_world, [], []⟩
def d__law_net : He.DefD := ⟨("_law_net", none), "_law_net", "_law_net", defArgs s__law_net, defBody s__law_net, defScope s__law_net, [], []⟩
def d__law_bad : He.DefD := ⟨("_law_bad", none), "_law_bad", "_law_bad", defArgs s__law_bad, defBody s__law_bad, defScope s__law_bad, [], []⟩
def d__law_asked : He.DefD := ⟨("_law_asked", none), "_law_asked", "_law_asked", defArgs s__law_asked, defBody s__law_asked, defScope s__law_asked, [], []⟩
def d__law_due : He.DefD := ⟨("_law_due", none), "_law_due", "_law_due", defArgs s__law_due, defBody s__law_due, defScope s__law_due, [], []⟩
def d__law_agrees : He.DefD := ⟨("_law_agrees", none), "_law_agrees", "_law_agrees", defArgs s__law_agrees, defBody s__law_agrees, defScope s__law_agrees, [], []⟩
def d__law_joint : He.DefD := ⟨("_law_joint", none), "_law_joint", "_law_joint", defArgs s__law_joint, defBody s__law_joint, defScope s__law_joint, [], []⟩
def d__law_most : He.DefD := ⟨("_law_most", none), "_law_most", "_law_most", defArgs s__law_most, defBody s__law_most, defScope s__law_most, [], []⟩
def d__law_lowered : He.DefD := ⟨("_law_lowered", none), "_law_lowered", "_law_lowered", defArgs s__law_lowered, defBody s__law_lowered, defScope s__law_lowered, [], []⟩
def d__law_draw : He.DefD := ⟨("_law_draw", none), "_law_draw", "_law_draw", defArgs s__law_draw, defBody s__law_draw, defScope s__law_draw, [], []⟩
def d__law_names : He.DefD := ⟨("_law_names", none), "_law_names", "_law_names", defArgs s__law_names, defBody s__law_names, defScope s__law_names, [], []⟩
def d__law_row : He.DefD := ⟨("_law_row", none), "_law_row", "_law_row", defArgs s__law_row, defBody s__law_row, defScope s__law_row, [], []⟩
def d__law_order : He.DefD := ⟨("_law_order", none), "_law_order", "_law_order", defArgs s__law_order, defBody s__law_order, defScope s__law_order, [], []⟩
def d_Net_init : He.DefD := ⟨("Net", some "__init__"), "__init__", "Net.__init__", defArgs s_Net_init, defBody s_Net_init, defScope s_Net_init, [.non], []⟩
def d__law_side : He.DefD := ⟨("_law_side", none), "_law_side", "_law_side", defArgs s__law_side, defBody s__law_side, defScope s__law_side, [], []⟩
def d__law_word : He.DefD := ⟨("_law_word", none), "_law_word", "_law_word", defArgs s__law_word, defBody s__law_word, defScope s__law_word, [], []⟩
def d_steps : He.DefD := ⟨("steps", none), "steps", "steps", defArgs s_steps, defBody s_steps, defScope s_steps, [], []⟩
def d__law_covers : He.DefD := ⟨("_law_covers", none), "_law_covers", "_law_covers", defArgs s__law_covers, defBody s__law_covers, defScope s__law_covers, [], []⟩
def d__law_wanted : He.DefD := ⟨("_law_wanted", none), "_law_wanted", "_law_wanted", defArgs s__law_wanted, defBody s__law_wanted, defScope s__law_wanted, [], []⟩
def d__law_weight : He.DefD := ⟨("_law_weight", none), "_law_weight", "_law_weight", defArgs s__law_weight, defBody s__law_weight, defScope s__law_weight, [], []⟩
def d_check_sizes : He.DefD := ⟨("check_sizes", none), "check_sizes", "check_sizes", defArgs s_check_sizes, defBody s_check_sizes, defScope s_check_sizes, [], []⟩
def d_check_tokens : He.DefD := ⟨("check_tokens", none), "check_tokens", "check_tokens", defArgs s_check_tokens, defBody s_check_tokens, defScope s_check_tokens, [], []⟩
def d_check_arcs : He.DefD := ⟨("check_arcs", none), "check_arcs", "check_arcs", defArgs s_check_arcs, defBody s_check_arcs, defScope s_check_arcs, [], []⟩
def d_check_labels : He.DefD := ⟨("check_labels", none), "check_labels", "check_labels", defArgs s_check_labels, defBody s_check_labels, defScope s_check_labels, [], []⟩
def d_users : He.DefD := ⟨("users", none), "users", "users", defArgs s_users, defBody s_users, defScope s_users, [], []⟩
def d_indexed : He.DefD := ⟨("indexed", none), "indexed", "indexed", defArgs s_indexed, defBody s_indexed, defScope s_indexed, [], []⟩
def d_check_marking : He.DefD := ⟨("check_marking", none), "check_marking", "check_marking", defArgs s_check_marking, defBody s_check_marking, defScope s_check_marking, [], []⟩
def d_steps_and_markings : He.DefD := ⟨("steps_and_markings", none), "steps_and_markings", "steps_and_markings", defArgs s_steps_and_markings, defBody s_steps_and_markings, defScope s_steps_and_markings, [], []⟩
def d_is_name : He.DefD := ⟨("is_name", none), "is_name", "is_name", defArgs s_is_name, defBody s_is_name, defScope s_is_name, [], []⟩
def d_is_between : He.DefD := ⟨("is_between", none), "is_between", "is_between", defArgs s_is_between, defBody s_is_between, defScope s_is_between, [], []⟩
def d_is_marking : He.DefD := ⟨("is_marking", none), "is_marking", "is_marking", defArgs s_is_marking, defBody s_is_marking, defScope s_is_marking, [], []⟩
def d_enabled_names : He.DefD := ⟨("enabled_names", none), "enabled_names", "enabled_names", defArgs s_enabled_names, defBody s_enabled_names, defScope s_enabled_names, [], []⟩
def d_is_enabled : He.DefD := ⟨("is_enabled", none), "is_enabled", "is_enabled", defArgs s_is_enabled, defBody s_is_enabled, defScope s_is_enabled, [], []⟩
def d_with_outputs : He.DefD := ⟨("with_outputs", none), "with_outputs", "with_outputs", defArgs s_with_outputs, defBody s_with_outputs, defScope s_with_outputs, [], []⟩
def d_without_inputs : He.DefD := ⟨("without_inputs", none), "without_inputs", "without_inputs", defArgs s_without_inputs, defBody s_without_inputs, defScope s_without_inputs, [], []⟩
def d_is_integer : He.DefD := ⟨("is_integer", none), "is_integer", "is_integer", defArgs s_is_integer, defBody s_is_integer, defScope s_is_integer, [], []⟩
def d_takes : He.DefD := ⟨("takes", none), "takes", "takes", defArgs s_takes, defBody s_takes, defScope s_takes, [], []⟩
def d_gives : He.DefD := ⟨("gives", none), "gives", "gives", defArgs s_gives, defBody s_gives, defScope s_gives, [], []⟩
def fn : List He.DefD := [d_law, d__law_pot, d__law_world, d__law_net, d__law_bad, d__law_asked, d__law_due, d__law_agrees, d__law_joint, d__law_most, d__law_lowered, d__law_draw, d__law_names, d__law_row, d__law_order, d_Net_init, d__law_side, d__law_word, d_steps, d__law_covers, d__law_wanted, d__law_weight, d_check_sizes, d_check_tokens, d_check_arcs, d_check_labels, d_users, d_indexed, d_check_marking, d_steps_and_markings, d_is_name, d_is_between, d_is_marking, d_enabled_names, d_is_enabled, d_with_outputs, d_without_inputs, d_is_integer, d_takes, d_gives]
abbrev s_TooLarge_init : Stmt := inClass (top 4) 0
def u_TooLarge : SuD := ⟨"TooLarge", "TooLarge.__init__", defArgs s_TooLarge_init, defBody s_TooLarge_init, defScope s_TooLarge_init, "limit"⟩
abbrev s_TooMany_init : Stmt := inClass (top 5) 0
def u_TooMany : SuD := ⟨"TooMany", "TooMany.__init__", defArgs s_TooMany_init, defBody s_TooMany_init, defScope s_TooMany_init, "limit"⟩
abbrev s_InvalidNet_init : Stmt := inClass (top 6) 0
def u_InvalidNet : SuD := ⟨"InvalidNet", "InvalidNet.__init__", defArgs s_InvalidNet_init, defBody s_InvalidNet_init, defScope s_InvalidNet_init, "name"⟩
abbrev s_InvalidMarking_init : Stmt := inClass (top 7) 0
def u_InvalidMarking : SuD := ⟨"InvalidMarking", "InvalidMarking.__init__", defArgs s_InvalidMarking_init, defBody s_InvalidMarking_init, defScope s_InvalidMarking_init, "marking"⟩
def su : List SuD := [u_TooLarge, u_TooMany, u_InvalidNet, u_InvalidMarking]
def fa : List He.Fa := [.glo "law", .glo "_law_pot", .glo "_law_world", .glo "_law_net", .glo "_law_bad", .glo "_law_asked", .glo "_law_due", .glo "_law_agrees", .glo "_law_joint", .glo "_law_most", .glo "_law_lowered", .glo "_law_draw", .glo "_law_names", .glo "_law_row", .glo "_law_order", .glo "_law_side", .glo "_law_word", .glo "steps", .glo "_law_covers", .glo "_law_wanted", .glo "_law_weight", .glo "check_sizes", .glo "check_tokens", .glo "check_arcs", .glo "check_labels", .glo "users", .glo "indexed", .glo "check_marking", .glo "steps_and_markings", .glo "is_name", .glo "is_between", .glo "is_marking", .glo "enabled_names", .glo "is_enabled", .glo "with_outputs", .glo "without_inputs", .glo "is_integer", .glo "takes", .glo "gives", .glo "NetError", .glo "OverLimit", .glo "TooLarge", .glo "TooMany", .glo "InvalidNet", .glo "InvalidMarking", .glo "UnknownName", .glo "NameClash", .glo "Net", .str "LETTERS" "abcdefghijklmnopqrstuvwxyz", .str "NAME_SIGNS" "abcdefghijklmnopqrstuvwxyz0123456789_", .int "NAME_LENGTH" 24, .int "MOST_TOGETHER" 12, .free "len", .free "range", .free "sorted", .free "tuple", .free "list", .free "enumerate", .free "isinstance", .free "all", .free "sum", .free "max", .free "min", .free "abs", .free "int", .free "str", .free "bool", .free "reversed", .free "ValueError", .free "super", .cls "Net", .mkr "Net", .noat "Net" "places", .noat "Net" "transitions", .noat "Net" "start", .noat "Net" "_index", .noat "Net" "_takes", .noat "Net" "_gives", .noat "Net" "_takers", .noat "Net" "_givers", .noat "Net" "_labels"]
def xs : List (PySem.W.Frag → Bool) := [fun K => cvB K (He.ga K "Net") "SIZE" 60,
  fun K => cvB K (He.ga K "Net") "MOST" 1000000000,
  fun K => decide (PySem.W.kitOne K (.ref (He.ga K "InvalidMarking")) (.ref (He.ga K "NetError")) = some true),
  fun K => decide (PySem.W.kitOne K (.ref (He.ga K "InvalidMarking")) (.type "ValueError") = some true),
  fun K => decide (PySem.W.kitOne K (.ref (He.ga K "InvalidMarking")) (.ref (He.ga K "OverLimit")) = some false),
  fun K => decide (PySem.W.kitOne K (.ref (He.ga K "TooLarge")) (.ref (He.ga K "OverLimit")) = some true),
  fun K => decide (PySem.W.kitOne K (.ref (He.ga K "TooLarge")) (.ref (He.ga K "NetError")) = some true),
  fun K => decide (PySem.W.kitOne K (.ref (He.ga K "TooLarge")) (.type "ValueError") = some true),
  fun K => decide (PySem.W.kitOne K (.ref (He.ga K "TooLarge")) (.ref (He.ga K "TooMany")) = some false),
  fun K => decide (PySem.W.exmOne K (.ref (He.ga K "InvalidMarking")) (.ref (He.ga K "InvalidMarking")) = some true),
  fun K => decide (PySem.W.exmOne K (.ref (He.ga K "TooLarge")) (.ref (He.ga K "InvalidMarking")) = some false),
  fun K => decide (PySem.W.exmOne K (.ref (He.ga K "TooLarge")) (.ref (He.ga K "TooLarge")) = some true)]
def ln0 : List PySem.Str := ["_wall", "NetError", "OverLimit", "TooLarge", "TooMany", "InvalidNet", "InvalidMarking", "UnknownName", "NameClash", "LETTERS", "NAME_SIGNS", "NAME_LENGTH", "is_name", "is_integer", "is_between", "Net"]
def ln1 : List PySem.Str := ["check_sizes", "check_tokens", "check_arcs", "check_labels", "indexed", "users", "written_move", "written_side", "written_arc", "united", "same_shape", "is_marking", "check_marking", "takes", "gives", "is_enabled"]
def ln2 : List PySem.Str := ["enabled_names", "MOST_TOGETHER", "steps", "steps_and_markings", "without_inputs", "with_outputs", "_law_pot", "_law_draw", "_law_word", "_law_names", "_law_weight", "_law_row", "_law_world", "_law_side", "_law_order", "_law_net"]
def ln3 : List PySem.Str := ["_law_wanted", "_law_joint", "_law_most", "_law_lowered", "_law_bad", "_law_covers", "_law_due", "_law_asked", "_law_agrees"]
def loose : List PySem.Str := ln0 ++ ln1 ++ ln2 ++ ln3
def file : PySem.Str := PySem.Challenge.pw_netwright_k26_steps_by_sums.main.file
abbrev R : PySem.W.OpenRow := PySem.W.OpenLaw.row PySem.Challenge.rw_netwright_k26_steps_by_sums
abbrev hk : PySem.W.Hook := hookN file 5 fa fn su xs
def ob (s : PySem.W.SharedT) : AlN := obsNG file 5 fa fn su xs (HandSHeadRun.getT s)
theorem ob_eq (s : PySem.W.SharedT) : ob s = hk.obs s.abs := obsNG_eq (HandSHeadRun.getT_eq s)
theorem run (w : World) : HandSHeadRun.RunEq R (PySem.W.view R.prog [63]) hk ob 6000 loose w := by
  intro os
  kernel_rfl
end K26
set_option maxRecDepth 100000
set_option maxHeartbeats 4000000
namespace Nw
open PySem PySem.Spec PyProof.Rows L2
def strD (z : PySem.Str) : List D := z.cps.toList.map fun c => D.str ⟨#[c]⟩
section
variable {K : PySem.W.Frag} {R : RL} {L : LL} {H : Hp} {x y v : V} {Q : VK} {z z' : PySem.Str} {i : Int} {σ : L2.St} {P : It → Hp → Prop} {te tl' to : TE} {ta : TA}
theorem wd_str : WalkD R (fun _ => True) (Its z) (strD z) := by
  have hl : (strD z).length = z.cps.size := by simp [strD]
  refine ⟨fun i H hi _ => ?_, fun H _ => ?_, fun i H v H' hi _ y => ?_⟩
  · have hi' : i < z.cps.size := by rwa [hl] at hi
    exact hi'
  · show z.cps.size ≤ (strD z).length
    rw [hl] <;> exact Nat.le_refl _
  · have y' : H' = H ∧ ∃ c, z.cps[i]? = some c ∧ v = .str ⟨#[c]⟩ := y
    obtain ⟨rfl, c, hc, rfl⟩ := y'
    exact ⟨_, by unfold strD; rw [List.getElem?_map, Array.getElem?_toList, hc] <;> rfl, fun L' h => h.addR .sc⟩
theorem s_yes {Q : Bool → Hp → Prop} (q : Q true H) : tYes σ H Q := q
/-- a scalar that was walked to -/
theorem At.sc_of (h : At ((.sc v, x) :: R) L H) : x = v := (h.rep List.mem_cons_self).sc_eq
theorem s_iStr (q : te σ H fun v H1 => ∃ x, v = .str x ∧ IR P (Its x) H1) : iStr te σ H P := q
theorem src_str (q : WalkD R (fun _ => True) (Its z) (strD z) → P (Its z) H) : ∃ x, V.str z = .str x ∧ IR P (Its x) H := ⟨z, rfl, q wd_str⟩
theorem r_lenS (h : z.length ≤ 1000000) (q : Q (.int z.length) H) : BR (fun xs H Q => ∃ z : PySem.Str, xs = [.str z] ∧ z.length ≤ sizeLine ∧ Q (.int z.length) H) [.str z] H Q := ⟨z, rfl, line_of h, q⟩
theorem r_inS {c : Nat} (q : Q (.bl (decide (c ∈ z.cps.toList))) H) : OR (fun x y H Q => ∃ (c : Nat) (z : PySem.Str), x = .str ⟨#[c]⟩ ∧ y = .str z ∧ Q (.bl (decide (c ∈ z.cps.toList))) H) (.str ⟨#[c]⟩) (.str z) H Q := ⟨c, z, rfl, rfl, q⟩
theorem r_addS (h : z.length + z'.length ≤ 1000000) (q : Q (.str (z ++ z')) H) : OR (fun x y H Q => ∃ i j : PySem.Str, x = .str i ∧ y = .str j ∧ i.length + j.length ≤ sizeLine ∧ Q (.str (i ++ j)) H) (.str z) (.str z') H Q := ⟨z, z', rfl, rfl, line_of h, q⟩
theorem r_repS {n : Int} (h1 : 2 ≤ n) (h2 : n ≤ 1000) (h3 : 0 < z.length) (h4 : z.length ≤ 1000) (q : Q (.str (repS z n.toNat)) H) : OR rRepS (.str z) (.int n) H Q := ⟨z, n, rfl, rfl, h1, h2, h3, h4, q⟩
theorem r_slS {lo hi : Option Int} (h : z.length ≤ 1000000) (q : Q (.str (cutS z lo hi)) H) : rSlS (.str z) lo hi H Q := ⟨z, rfl, line_of h, q⟩
theorem s_sl {r : V → Option Int → Option Int → Hp → VK → Prop} {tl th : TO} (q : te σ H fun x H1 => tl σ H1 fun l H2 => th σ H2 fun u H3 => r x l u H3 Q) : tSl r te tl th σ H Q := q
theorem s_noPart {Q : Option Int → Hp → Prop} (q : Q none H) : tNoPart σ H Q := q
def PartQ (x : V) (Q : Option Int → Hp → Prop) (H : Hp) : Prop := ∃ i, x = .int i ∧ Q (some i) H
theorem s_part {Q : Option Int → Hp → Prop} (q : te σ H fun x H1 => PartQ x Q H1) : tPart te σ H Q := q
theorem r_part {Q : Option Int → Hp → Prop} (q : Q (some i) H) : PartQ (.int i) Q H := ⟨i, rfl, q⟩
abbrev MR (r : V → List V → Hp → VK → Prop) (x : V) (xs : List V) (H : Hp) (Q : VK) : Prop := r x xs H Q
theorem s_m1 {r : V → List V → Hp → VK → Prop} (q : to σ H fun x H1 => (∃ a, x = .str a) ∧ te σ H1 fun y H2 => MR r x [y] H2 Q) : tM1 r to te σ H Q := q
theorem r_join {zs : List PySem.Str} (hA : At R L H) (m : HasL R L x (zs.map D.str)) (hz : (zs.map (·.length)).sum + zs.length * z.length ≤ 1000000) (q : Q (.str (Txt.join z zs)) H) :
    MR (fun x xs H Q => ∃ a p, ∃ ys : List PySem.Str, x = .str a ∧ xs = [.ref p] ∧ (SqL K H p (ys.map V.str) ∨ SqT K H p (ys.map V.str)) ∧ (ys.map (·.length)).sum + ys.length * a.length ≤ 16777216 ∧ Q (.str (Txt.join a ys)) H) (.str z) [x] H Q := by
  obtain ⟨p, rfl, hr⟩ := scs_of (zs := zs.map V.str) hA (by rw [List.map_map]; exact m)
  exact ⟨z, p, zs, rfl, rfl, .inl (.inl hr), by omega, q⟩
theorem r_strI (h : i.natAbs.log2 < 1920) (q : Q (.str (toString i)) H) : BR (fun xs H Q => ∃ i : Int, xs = [.int i] ∧ i.natAbs.log2 < 1920 ∧ Q (.str (toString i)) H) [.int i] H Q := ⟨i, rfl, h, q⟩
theorem s_chain {r r' : R2} {ta tb tc : TE} (q : ta σ H fun x H1 => tb σ H1 fun y H2 => OR r x y H2 fun z H3 => ∃ k, z = .bl k ∧ (if k = true then tc σ H3 fun w' H4 => OR r' y w' H4 Q else Q (.bl false) H3)) : tChain r r' ta tb tc σ H Q := q
theorem r_max2 {i j : Int} (q : Q (.int (if j > i then j else i)) H) : BR (fun xs H Q => ∃ i j : Int, xs = [.int i, .int j] ∧ Q (.int (if j > i then j else i)) H) [.int i, .int j] H Q := ⟨i, j, rfl, q⟩
theorem r_truT {ds : List D} {Q : Bool → Hp → Prop} (hA : At R L H) (m : (D.tup ds, x) ∈ R) (q : Q (!ds.isEmpty) H) : ∃ k, TruV K x H k ∧ Q k H := by
  obtain ⟨a, xs, rfl, hr, hl, _⟩ := hA.tupR m
  refine ⟨!ds.isEmpty, .inr (.inl ⟨xs, .inl hr, ?_⟩), q⟩
  cases xs <;> cases ds <;> first | rfl | cases hl
end
end Nw
set_option maxRecDepth 100000
set_option maxHeartbeats 4000000
namespace Nw
open PySem PySem.Spec PyProof.Rows L2
/-! ### ascending lists -/
theorem pw_unique {α : Type} {r : α → α → Prop} (irr : ∀ a, ¬ r a a) (tr : ∀ a b c, r a b → r b c → r a c) : ∀ {l m : List α}, l.Pairwise r → m.Pairwise r → (∀ x, x ∈ l ↔ x ∈ m) → l = m
  | [], [], _, _, _ => rfl
  | [], b :: m, _, _, h => absurd ((h b).mpr List.mem_cons_self) (by simp)
  | a :: l, [], _, _, h => absurd ((h a).mp List.mem_cons_self) (by simp)
  | a :: l, b :: m, hl, hm, h => by
    rw [List.pairwise_cons] at hl hm
    have e : a = b := by
      rcases List.mem_cons.mp ((h a).mp List.mem_cons_self) with e | ha
      · exact e
      · rcases List.mem_cons.mp ((h b).mpr List.mem_cons_self) with e | hb
        · exact e.symm
        · exact absurd (tr _ _ _ (hl.1 b hb) (hm.1 a ha)) (irr a)
    subst e
    congr 1
    refine pw_unique irr tr hl.2 hm.2 fun x => ⟨fun hx => ?_, fun hx => ?_⟩
    · rcases List.mem_cons.mp ((h x).mp (List.mem_cons_of_mem _ hx)) with e | hx'
      · exact absurd (e ▸ hl.1 x hx) (irr a)
      · exact hx'
    · rcases List.mem_cons.mp ((h x).mpr (List.mem_cons_of_mem _ hx)) with e | hx'
      · exact absurd (e ▸ hm.1 x hx) (irr a)
      · exact hx'
theorem pw_nodup {α : Type} {r : α → α → Prop} (irr : ∀ a, ¬ r a a) {l : List α} (h : l.Pairwise r) : l.Nodup := by
  refine List.Pairwise.imp ?_ h
  rintro a b q rfl
  exact irr _ q
/-! ### sorted data -/
def DLt (a b : D) : Prop := PySem.W.dataLt a.pd b.pd = true
theorem DLt.irr (a : D) : ¬ DLt a a := fun h => by rw [DLt, PySem.W.dataLt_self] at h; cases h
theorem DLt.tr (a b c : D) (h : DLt a b) (k : DLt b c) : DLt a c := PyProof.Rows.lex_trans (O := PyProof.Rows.itemOrd) _ _ _ h k
theorem dle_total : PySem.W.TotalLe (PySem.W.dataLe false D.pd) := PySem.W.sortLe_total _ _ _
theorem dle_of {a b : D} (h : DLt a b) : PySem.W.dataLe false D.pd a b = true := by
  show (!PySem.W.dataLt b.pd a.pd) = true
  cases e : PySem.W.dataLt b.pd a.pd with
  | false => rfl
  | true => exact absurd (DLt.tr a b a h e) (DLt.irr a)
theorem sortD_pw (ds : List D) : (sortD ds).Pairwise fun a b => PySem.W.dataLe false D.pd a b = true := List.pairwise_mergeSort dle_total.trans (fun a b => by
  rcases dle_total.total a b with h | h
  · rw [h]; rfl
  · rw [h]; cases PySem.W.dataLe false D.pd a b <;> rfl) ds
theorem sortD_perm (ds : List D) : (sortD ds).Perm ds := List.mergeSort_perm _ _
theorem sortD_mem {ds : List D} {d : D} : d ∈ sortD ds ↔ d ∈ ds := (sortD_perm ds).mem_iff
/-- what sorted tells is the ascending list of the same items -/
theorem sortD_of {ds m : List D} (hp : m.Perm ds) (hs : m.Pairwise DLt) : sortD ds = m := by
  refine List.Perm.eq_of_pairwise (le := fun a b => PySem.W.dataLe false D.pd a b = true) ?_ (sortD_pw ds) (hs.imp dle_of) ((sortD_perm ds).trans hp.symm)
  intro a b ha hb h1 h2
  have ha' : a ∈ m := hp.mem_iff.mpr (sortD_mem.mp ha)
  obtain ⟨i, hi, ea⟩ := List.mem_iff_getElem.mp ha'
  obtain ⟨j, hj, eb⟩ := List.mem_iff_getElem.mp hb
  have key : ∀ {x y : D}, DLt x y → PySem.W.dataLe false D.pd y x = true → False := fun {x y} p q => by
    have q' : (!PySem.W.dataLt x.pd y.pd) = true := q
    rw [show PySem.W.dataLt x.pd y.pd = true from p] at q'
    cases q'
  rcases Nat.lt_trichotomy i j with h | h | h
  · exact (key (ea ▸ eb ▸ List.pairwise_iff_getElem.mp hs i j hi hj h) h2).elim
  · subst h
    exact ea.symm.trans eb
  · exact (key (ea ▸ eb ▸ List.pairwise_iff_getElem.mp hs j i hj hi h) h1).elim
/-! ### texts -/
def SLt (a b : PySem.Str) : Prop := a.cps.toList < b.cps.toList
instance : DecidableRel SLt := fun a b => inferInstanceAs (Decidable (a.cps.toList < b.cps.toList))
theorem SLt.irr (a : PySem.Str) : ¬ SLt a a := List.lt_irrefl _
theorem SLt.tr (a b c : PySem.Str) (h : SLt a b) (k : SLt b c) : SLt a c := List.lt_trans h k
theorem strD_lt (a b : PySem.Str) : DLt (D.str a) (D.str b) ↔ SLt a b := by
  show PySem.W.dataLt (.str a) (.str b) = true ↔ _
  rw [PySem.W.dataLt_str]
  exact decide_eq_true_iff
theorem str_eq {a b : PySem.Str} (h : a.cps.toList = b.cps.toList) : a = b := by
  obtain ⟨a⟩ := a
  obtain ⟨b⟩ := b
  exact congrArg PySem.Str.mk (Array.ext' h)
theorem SLt.total {a b : PySem.Str} (h : ¬ SLt a b) (k : ¬ SLt b a) : a = b := str_eq (List.le_antisymm (List.not_lt.mp k) (List.not_lt.mp h))
def sortS (zs : List PySem.Str) : List PySem.Str := zs.mergeSort fun a b => decide (¬ SLt b a)
theorem sortS_perm (zs : List PySem.Str) : (sortS zs).Perm zs := List.mergeSort_perm _ _
theorem sortS_mem {zs : List PySem.Str} {z : PySem.Str} : z ∈ sortS zs ↔ z ∈ zs := (sortS_perm zs).mem_iff
theorem sortS_pw {zs : List PySem.Str} (nd : zs.Nodup) : (sortS zs).Pairwise SLt := by
  have h : (sortS zs).Pairwise fun a b => decide (¬ SLt b a) = true := by
    refine List.pairwise_mergeSort (fun a b c h1 h2 => ?_) (fun a b => ?_) zs
    · have h1' := of_decide_eq_true h1
      have h2' := of_decide_eq_true h2
      exact decide_eq_true fun h => List.not_lt.mpr (List.le_trans (List.not_lt.mp h1') (List.not_lt.mp h2')) h
    · by_cases h : SLt b a
      · have k : ¬ SLt a b := fun k => SLt.irr _ (SLt.tr _ _ _ h k)
        rw [decide_eq_true k]
        simp
      · rw [decide_eq_true h]
        rfl
  have nd' : (sortS zs).Nodup := (sortS_perm zs).nodup_iff.mpr nd
  refine (h.and nd').imp fun {a b} ⟨h1, h2⟩ => ?_
  have h1' := of_decide_eq_true h1
  by_cases k : SLt a b
  · exact k
  · exact absurd (SLt.total k h1') h2
theorem sortD_str {zs : List PySem.Str} (nd : zs.Nodup) : sortD (zs.map D.str) = (sortS zs).map D.str := by
  refine sortD_of ((sortS_perm zs).map _) ?_
  rw [List.pairwise_map]
  exact (sortS_pw nd).imp fun h => (strD_lt _ _).mpr h
/-- sorting what is ascending by its order -/
theorem sortD_map {α : Type} {f : α → D} {l m : List α} (hp : m.Perm l) (hs : m.Pairwise fun a b => DLt (f a) (f b)) : sortD (l.map f) = m.map f := sortD_of (hp.map f) (List.pairwise_map.mpr hs)
/-! ### the premises of sorted -/
section
variable {K : PySem.W.Frag} {R : RL} {L : LL} {H : Hp} {x : V} {Q : VK}
theorem r_sortS {zs : List PySem.Str} (hA : At R L H) (m : HasL R L x (zs.map D.str)) (q : ∀ p H', At R ((p, OD.lst (sortD (zs.map D.str))) :: L) H' → Q (.ref p) H') : BR (rSortN K) [x] H Q := by
  refine r_sort hA m (fun d hd => ?_) ?_ ?_ q
  · obtain ⟨z, _, rfl⟩ := List.mem_map.mp hd
    exact ⟨rfl, Nat.zero_le _⟩
  · rw [List.map_map]
    exact PySem.W.AllAlike.of fun a b => by show PySem.W.alike (.str a) (.str b) = true; simp only [PySem.W.alike]
  · rw [List.map_map]
    exact PySem.W.Sortable.others fun b => ⟨(by intro e; have e' : PyData.str b = .none := e; cases e'), (by intro xs e; have e' : PyData.str b = .tuple xs := e; cases e')⟩
/-- pairs of numbers -/
def iiD (p : Int × Int) : D := .tup [D.int p.1, D.int p.2]
theorem iiD_lt {p q : Int × Int} (h : p.1 < q.1) : DLt (iiD p) (iiD q) := by
  show PySem.W.dataLt (PySem.W.Datum.toD (α := Int × Int) p) (PySem.W.Datum.toD (α := Int × Int) q) = true
  rw [PySem.W.DatumOrd.lt_eq p q]
  show (if p.1 = q.1 then PySem.W.DatumOrd.lt p.2 q.2 else PySem.W.DatumOrd.lt p.1 q.1) = true
  rw [if_neg (by omega)]
  exact decide_eq_true h
theorem r_sortII {ps : List (Int × Int)} (hA : At R L H) (m : HasL R L x (ps.map iiD)) (q : ∀ p H', At R ((p, OD.lst (sortD (ps.map iiD))) :: L) H' → Q (.ref p) H') : BR (rSortN K) [x] H Q := by
  refine r_sort hA m (fun d hd => ?_) ?_ ?_ q
  · obtain ⟨z, _, rfl⟩ := List.mem_map.mp hd
    exact ⟨rfl, by show PyData.depthAll [PyData.int _, PyData.int _] + 1 ≤ 64; simp [PyData.depthAll, PyData.depth]⟩
  · rw [List.map_map]
    exact PySem.W.AllAlike.of fun a b => PySem.W.DatumOrd.alike (α := Int × Int) a b
  · rw [List.map_map]
    exact PySem.W.Sortable.tuples fun b => ⟨_, _, rfl⟩
end
end Nw
set_option maxRecDepth 100000
set_option maxHeartbeats 4000000
namespace Nw
open PySem PySem.Spec PyProof.Rows L2
/-! ### isinstance of own types -/
theorem isT_int_int : isT "int" "int" = some true := by decide +kernel
theorem isT_int_bool : isT "int" "bool" = some false := by decide +kernel
theorem isT_int_str : isT "int" "str" = some false := by decide +kernel
theorem isT_int_list : isT "int" "list" = some false := by decide +kernel
theorem isT_int_tuple : isT "int" "tuple" = some false := by decide +kernel
theorem isT_bool_int : isT "bool" "int" = some true := by decide +kernel
theorem isT_bool_bool : isT "bool" "bool" = some true := by decide +kernel
theorem isT_bool_str : isT "bool" "str" = some false := by decide +kernel
theorem isT_bool_list : isT "bool" "list" = some false := by decide +kernel
theorem isT_bool_tuple : isT "bool" "tuple" = some false := by decide +kernel
theorem isT_str_int : isT "str" "int" = some false := by decide +kernel
theorem isT_str_bool : isT "str" "bool" = some false := by decide +kernel
theorem isT_str_str : isT "str" "str" = some true := by decide +kernel
theorem isT_str_list : isT "str" "list" = some false := by decide +kernel
theorem isT_str_tuple : isT "str" "tuple" = some false := by decide +kernel
theorem isT_NoneType_int : isT "NoneType" "int" = some false := by decide +kernel
theorem isT_NoneType_bool : isT "NoneType" "bool" = some false := by decide +kernel
theorem isT_NoneType_str : isT "NoneType" "str" = some false := by decide +kernel
theorem isT_NoneType_list : isT "NoneType" "list" = some false := by decide +kernel
theorem isT_NoneType_tuple : isT "NoneType" "tuple" = some false := by decide +kernel
theorem isT_list_int : isT "list" "int" = some false := by decide +kernel
theorem isT_list_bool : isT "list" "bool" = some false := by decide +kernel
theorem isT_list_str : isT "list" "str" = some false := by decide +kernel
theorem isT_list_list : isT "list" "list" = some true := by decide +kernel
theorem isT_list_tuple : isT "list" "tuple" = some false := by decide +kernel
theorem isT_tuple_int : isT "tuple" "int" = some false := by decide +kernel
theorem isT_tuple_bool : isT "tuple" "bool" = some false := by decide +kernel
theorem isT_tuple_str : isT "tuple" "str" = some false := by decide +kernel
theorem isT_tuple_list : isT "tuple" "list" = some false := by decide +kernel
theorem isT_tuple_tuple : isT "tuple" "tuple" = some true := by decide +kernel
def CvQ (K : PySem.W.Frag) (f : PySem.Str) (x : V) (Q : VK) (H : Hp) : Prop := ∃ C mc v u, x = .ref C ∧ ClX.CRead K C mc ∧ ClX.CVal K C mc f v u ∧ Q v H
theorem s_cvalQ {K : PySem.W.Frag} {f : PySem.Str} {σ : L2.St} {H : Hp} {Q : VK} {te : TE} (q : te σ H fun x H1 => CvQ K f x Q H1) : ClX.tCVal K te f σ H Q := q
theorem r_cvalQ {K : PySem.W.Frag} {C : Addr} {f : PySem.Str} {i : Int} {H : Hp} {Q : VK} (c : CvI K C f i) (q : Q (.int i) H) : CvQ K f (.ref C) Q H := r_cval c q
def DgQ (x y : V) (Q : VK) (H : Hp) : Prop := ∃ a v, x = .ref a ∧ DGet H a y (some v) ∧ Q v H
section
variable {K : PySem.W.Frag} {σ : L2.St} {H : Hp} {Q : VK} {R : RL} {L : LL} {x y v : V} {p : Addr} {d : D} {kds : List (Key × D)} {z : PySem.Str}
theorem s_dgetQ {td ty : TE} (q : td σ H fun x H1 => ty σ H1 fun y H2 => DgQ x y Q H2) : tDGet td ty σ H Q := q
theorem r_dgS (hA : At R L H) (m : (D.dct kds, x) ∈ R) (hk : lk kds (Sum.inr z) = some d) (q : ∀ v, At ((d, v) :: R) L H → Q v H) : DgQ x (.str z) Q H := r_dgetS hA m hk q
theorem r_dgSs (hA : At R L H) (m : (D.dct kds, x) ∈ R) (hk : lk kds (Sum.inr z) = some (.sc y)) (q : Q y H) : DgQ x (.str z) Q H := r_dgetSs hA m hk q
theorem r_dgOS (hA : At R L H) (m : (p, OD.dct kds) ∈ L) (hk : lk kds (Sum.inr z) = some d) (q : ∀ v, At ((d, v) :: R) L H → Q v H) : DgQ (.ref p) (.str z) Q H := r_dgetOS hA m hk q
end
theorem i_nt {a b : Prop} (q : b) : if (!true) = true then a else b := q
theorem i_nf {a b : Prop} (q : a) : if (!false) = true then a else b := q
end Nw
set_option maxRecDepth 100000
set_option maxHeartbeats 4000000
namespace Nw
open PySem PySem.Spec PyProof.Rows L2
theorem Rd.tupU {H : Hp} {a : Addr} {xs ys : List V} (h : Rd H a (.tup xs)) (k : Rd H a (.tup ys)) : xs = ys := by
  rcases h with e | ⟨o, e⟩ <;> rcases k with f | ⟨o', f⟩ <;> rw [e] at f <;> cases f <;> rfl
section
variable {K : PySem.W.Frag} {R : RL} {L : LL} {H : Hp} {v : V} {σ : L2.St} {i j : Nat} {d1 d2 : D} {Q : L2.St → Hp → Prop}
/-- for x, y in ..: the pair is taken apart -/
theorem r_gtup2 (hA : At R L H) (m : (D.tup [d1, d2], v) ∈ R) (q : ∀ x1 x2, At ((d1, x1) :: (d2, x2) :: R) L H → Q ((σ.set i (some x1)).set j (some x2)) H) : gTup K 2 (gCons (gName i) (gCons (gName j) gNil)) v σ H Q := by
  obtain ⟨a, xs, rfl, hr, hl, k⟩ := hA.tupR m
  match xs, hl with
  | [x1, x2], _ =>
    have h2 := k 1 _ x2 rfl rfl L H rfl hA
    obtain ⟨a', xs', e', hr', hl', k'⟩ := h2.tupR (List.mem_cons_of_mem _ m)
    cases e'
    obtain rfl := Rd.tupU hr hr'
    have h1 := k' 0 _ x1 rfl rfl L H rfl h2
    exact ⟨a, [x1, x2], rfl, .inl hr, rfl, x1, [x2], rfl, x2, [], rfl, rfl, q x1 x2 h1⟩
end
/-! ### owned objects forgotten, many at once -/
theorem At.forgets {R : RL} {L : LL} {H : Hp} : ∀ {U : List (Addr × List D)}, At R (U.map (fun u => (u.1, OD.lst u.2)) ++ L) H → At R L H
  | [], h => h
  | u :: U, h => At.forgets (U := U) (At.forget h)
end Nw
set_option maxRecDepth 100000
set_option maxHeartbeats 4000000
namespace Nw
open PySem PySem.Spec PyProof.Rows L2
/-! ### readings that name the fragment, so that they may stand within comprehensions -/
section
variable {X : Cx} (K : PySem.W.Frag) (ek : X.K = K)
include ek
theorem ix_listK : IxR X (rIxL K) := by subst ek; exact ix_list
theorem ix_tupK : IxR X (rIxT K) := by subst ek; exact ix_tup
theorem call_len_seqK : CallR X (.builtin "len") (fun xs H Q => ∃ p ys, xs = [V.ref p] ∧ (SqL K H p ys ∨ SqT K H p ys) ∧ Q (V.int ↑ys.length) H) := by subst ek; exact call_len_seq
theorem call_tuple_ofK : CallR X (.type "tuple") (fun xs H Q => ∃ p ys, xs = [.ref p] ∧ ((SqL K H p ys ∧ ∀ l, H l = none → Q (.ref l) (upd H l (.tup ys))) ∨ (SqT K H p ys ∧ Q (.ref p) H))) := by subst ek; exact call_tuple_of
theorem call_list_ofK : CallR X (.type "list") (fun xs H Q => ∃ p ys, xs = [.ref p] ∧ (SqL K H p ys ∨ SqT K H p ys) ∧ ∀ l, H l = none → Q (.ref l) (upd H l (.lst ys))) := by subst ek; exact call_list_of
theorem call_isiK' : CallR X (.builtin "isinstance") (rIsi K) := by subst ek; exact call_isi
theorem call_isiTK : CallR X (.builtin "isinstance") (rIsiT K) := by subst ek; exact call_isiT
theorem sl_listK : SlR X (rSlL K) := by subst ek; exact sl_list
theorem sl_tupAK : SlR X (rSlA K) := by subst ek; exact sl_tupA
theorem op_catAK : OpR X (binaryOp .Add) (rCatA K) := by subst ek; exact op_catA
theorem op_catLK : OpR X (binaryOp .Add) (rCatL K) := by subst ek; exact op_catL
theorem op_in_seqK : OpR X (compareOp .In) (rIn K false) := by subst ek; exact op_in_seq
theorem cr_sumK (hc : X.calm = true) : CallR X (.builtin "sum") (rSum K) := by subst ek; exact cr_sum hc
theorem cr_allK (hc : X.calm = true) : CallR X (.builtin "all") (rAll K) := by subst ek; exact cr_all hc
theorem cr_maxK (hc : X.calm = true) : CallR X (.builtin "max") (rMax K) := by subst ek; exact cr_max hc
theorem cr_sortNK (h : X.A.units + 100 < cLine) : CallR X (.builtin "sorted") (rSortN K) := by subst ek; exact cr_sortN h
theorem op_eqDK (h : X.A.units + 64 < cLine) : OpR X (compareOp .Eq) (rEqD K) := by subst ek; exact op_eqD h
theorem op_neDK (h : X.A.units + 64 < cLine) : OpR X (compareOp .NotEq) (rNeD K) := by subst ek; exact op_neD h
theorem op_notInDK (h : X.A.units + 65 < cLine) : OpR X (compareOp .NotIn) (rNotInD K) := by subst ek; exact op_notInD h
theorem pi_listK {tg l : Expr} {tl : TE} (h : PE X l tl) : PI X tg l (iList K tl) := by subst ek; exact pi_list h
theorem pi_tupK {tg l : Expr} {tl : TE} (h : PE X l tl) : PI X tg l (iTup K tl) := by subst ek; exact pi_tup h
theorem pe_fldK {e : Expr} {f : PySem.Str} {pos : Pos} {ta : TE} (h : PE X e ta) (hb : attributeBase e f X.env (eval e X.env) = eval e X.env) : PE X (.Attribute e f pos) (tFld K ta f) := by subst ek; exact pe_fld h hb
theorem pg_tupK {pos : Pos} {es : List Expr} {k : Nat} {t : TGs} {n : Nat} (hc : X.calm = true) (h : PGs X es t) (hn : (assignEach es X.env).length = n := by rfl) (hst : (assignEach es X.env).findIdx? (·.1) = none := by rfl) : PG X (.Tuple es k pos) (gTup K n t) := by subst ek; exact pg_tup hc h hn hst
theorem ps_fldK {o value : Expr} {f : PySem.Str} {pos pos' : Pos} {ta tv : TE} (ha : PE X o ta) (hv : PE X value tv) (hs : swapsWith value (some (.Attribute o f pos')) pos.line X.env = pure false) : PS X (.Assign [.Attribute o f pos'] value pos) (sFld K ta tv f) := by subst ek; exact ps_fld ha hv hs
theorem pi_enumTK {e : Expr} {ta : TA} {p pos tpos : Pos} {elts : List Expr} {kk : Nat} (hg : Gl X "enumerate") (hm : X.mg "enumerate" = none) (ha : PA X [e] ta) (hs : starEach [e] X.env = [(false, eval e X.env)] := by rfl) :
    PI X (.Tuple elts kk tpos) (.Call (.Name "enumerate" p) [e] [] pos) (iEnumT K ta) := by subst ek; exact pi_enumT hg hm ha hs
theorem pi_enumK {e : Expr} {ta : TA} {p pos tpos : Pos} {elts : List Expr} {kk : Nat} (hg : Gl X "enumerate") (hm : X.mg "enumerate" = none) (ha : PA X [e] ta) (hs : starEach [e] X.env = [(false, eval e X.env)] := by rfl) :
    PI X (.Tuple elts kk tpos) (.Call (.Name "enumerate" p) [e] [] pos) (iEnum K ta) := by subst ek; exact pi_enum hg hm ha hs
theorem op_notIn_seqK : OpR X (compareOp .NotIn) (rIn K true) := by subst ek; exact op_notIn_seq
theorem op_inDK (h : X.A.units + 65 < cLine) : OpR X (compareOp .In) (rInD K) := by subst ek; exact op_inD h
theorem cr_anyK (hc : X.calm = true) : CallR X (.builtin "any") (rAny K) := by subst ek; exact cr_any hc
theorem cr_minKK (hc : X.calm = true) : CallR X (.builtin "min") (rMin K) := by subst ek; exact cr_min hc
end
/-! ### fields, the reading named -/
def FdQ (K : PySem.W.Frag) (f : PySem.Str) (x : V) (Q : VK) (H : Hp) : Prop := ∃ a C dx fs v, x = .ref a ∧ H a = some (.ins C dx fs) ∧ Cls K C ∧ NoAttr K C f ∧ fs.lookup f = some v ∧ Q v H
section
variable {K : PySem.W.Frag} {R : RL} {L : LL} {H : Hp} {Q : VK} {x v : V} {d : D} {σ : L2.St} {ta : TE} {C p : Addr} {ds : List (PySem.Str × D)} {f : PySem.Str}
theorem s_fldQ (q : ta σ H fun x H1 => FdQ K f x Q H1) : tFld K ta f σ H Q := q
theorem r_fd (hA : At R L H) (m : (D.obj C ds, x) ∈ R) (cl : Cls K C) (no : NoAttr K C f) (hl : ds.lookup f = some d) (q : ∀ v, At ((d, v) :: R) L H → Q v H) : FdQ K f x Q H := r_fld hA m cl no hl q
theorem r_fdO (hA : At R L H) (m : (p, OD.ins C ds) ∈ L) (cl : Cls K C) (no : NoAttr K C f) (hl : ds.lookup f = some d) (q : ∀ v, At ((d, v) :: R) L H → Q v H) : FdQ K f (.ref p) Q H := r_fldO hA m cl no hl q
end
end Nw
set_option maxRecDepth 100000
set_option maxHeartbeats 4000000
namespace Nw
open PySem PySem.Spec PyProof.Rows L2
/-- a class whose __init__ keeps its promise: called with values, the defaults dvs fill up -/
structure Ini (P : Program) (w : World) (K : PySem.W.Frag) (mg : PySem.Str → Option Value) (base : Heap) (k : Nat) (x : PySem.Str) (C : Addr) (ps : List PySem.Str) (dvs : List V) (sp : Sp) : Prop where
  ex : ∃ (f : Addr) (fd : FuncData) (ds : List Value), Mk K C f ∧ FnOk P w K mg base (L2.CX P w) k f fd ps sp ∧ mg x = some (.ref C) ∧ Vals dvs ds ∧ Binds K fd ps ds
theorem pe_mkI {X : Cx} {k j : Nat} {x : PySem.Str} {C : Addr} {ps : List PySem.Str} {dvs : List V} {sp : Sp} {E : XK} {p pos : Pos} {e : Expr} {es : List Expr} {t : TA} (I : Ini X.prog X.w X.K X.mg X.base k x C ps dvs sp) (hr : Room j X.A) (hk : k + 1 ≤ j) (hx : Passes (L2.CX X.prog X.w) X E) (hg : Gl X x) (ha : PA X (e :: es) t) (hdb : (x == ("__debug__" : PySem.Str)) = false := by decide)
    (he : starEach (e :: es) X.env = (false, eval e X.env) :: starEach es X.env := by rfl) (hpl : (backTo pos (starEach es X.env)).any (·.1) = false := by rfl) : PE X (.Call (.Name x p) (e :: es) [] pos) (tMake C sp dvs E t) := by
  obtain ⟨f, fd, ds, M, F, hm, hv, hb⟩ := I.ex
  exact pe_make M F (hr.mono hk) hg hm hb hv hx ha hdb he hpl
/-- the making of an instance: vs the arguments, the defaults behind them -/
def MkQ (C : Addr) (sp : Sp) (vs : List V) (E : XK) (H : Hp) (Q : VK) : Prop := ∀ x dx, H x = none → H dx = none → dx ≠ x → sp (.ref x :: vs) (upd (upd H dx (.own x)) x (.ins C dx [])) (fun v H2 => v = .non ∧ Q (.ref x) H2) E
section
variable {R : RL} {L : LL} {H : Hp} {Q : VK} {σ : L2.St} {C : Addr} {sp : Sp} {E : XK} {t : TA} {dvs vs : List V}
theorem s_make (q : t σ H fun vs H1 => MkQ C sp (vs ++ dvs) E H1 Q) : tMake C sp dvs E t σ H Q := q
theorem r_make (hA : At R L H) (q : ∀ x H', At R ((x, .ins C []) :: L) H' → sp (.ref x :: vs) H' (fun v H2 => v = .non ∧ Q (.ref x) H2) E) : MkQ C sp vs E H Q := fun x dx hx hd hn => q x _ (hA.newIns hx hd hn)
end
end Nw
set_option maxRecDepth 100000
set_option maxHeartbeats 4000000
namespace Nw
open PySem PySem.Spec PyProof.Rows L2
theorem take_snoc {α : Type} {l : List α} {i : Nat} {a : α} (h : l[i]? = some a) : l.take (i + 1) = l.take i ++ [a] := by
  obtain ⟨hi, rfl⟩ := List.getElem?_eq_some_iff.mp h
  rw [List.take_succ_eq_append_getElem hi]
theorem numd_of {ds : List D} {i : Nat} {d : D} (h : (numd ds)[i]? = some d) : ∃ e, ds[i]? = some e ∧ d = .tup [D.int (i : Nat), e] := by
  have hl := (List.getElem?_eq_some_iff.mp h).1
  rw [numd_len] at hl
  have e := numd_get (ds := ds) (List.getElem?_eq_getElem hl)
  rw [e] at h
  exact ⟨_, List.getElem?_eq_getElem hl, (Option.some.inj h).symm⟩
/-- a dict that is filled key by key, the keys unlike -/
theorem put_next {α : Type} {l : List α} {f : α → Key × D} (nd : (l.map fun a => (f a).1).Nodup) {i : Nat} {x : α} (h : l[i]? = some x) : put ((l.take i).map f) (f x).1 (f x).2 = (l.take (i + 1)).map f := by
  rw [take_snoc h, List.map_append]
  refine put_new _ (lk_none fun m => ?_)
  have s : ((l.take (i + 1)).map fun a => (f a).1).Sublist (l.map fun a => (f a).1) := (List.take_sublist _ _).map _
  have nd2 := s.nodup nd
  rw [take_snoc h, List.map_append] at nd2
  rw [List.map_map] at m
  exact (List.nodup_append.mp nd2).2.2 _ m _ (List.mem_singleton.mpr rfl) rfl
/-- d.get(key, else) -/
def DgoQ (a : Addr) (y z : V) (Q : VK) (H : Hp) : Prop := ∃ o, DGet H a y o ∧ Q (o.getD z) H
section
variable {R : RL} {L : LL} {H : Hp} {Q : VK} {σ : L2.St} {td ty tx : TE} {a : Addr} {z : V} {kds : List (Key × D)} {k : PySem.Str} {n : Int} {x : V} {p : Addr}
theorem s_dget2Q (q : td σ H fun x H1 => ∃ a, x = .ref a ∧ IsD H1 a ∧ ty σ H1 fun y H2 => tx σ H2 fun z H3 => DgoQ a y z Q H3) : tDGet2 td ty tx σ H Q := q
theorem r_dgoK {key : Key} (hA : At R L H) (m : (D.dct kds, V.ref a) ∈ R) (q1 : ∀ d v, lk kds key = some d → At ((d, v) :: R) L H → Q v H) (q2 : lk kds key = none → Q z H) : DgoQ a (kV key) z Q H := by
  obtain ⟨a', kvs, e, hr, hl, f⟩ := hA.dctR m
  cases e
  cases hk : lk kds key with
  | none => exact ⟨none, by rw [← keys_no hl hk]; exact DGet.rd hr, q2 hk⟩
  | some d =>
    obtain ⟨j, v, h1, h2, h3⟩ := keys_at hl hk
    exact ⟨some v, by rw [← h3]; exact DGet.rd hr, q1 d v hk (f _ _ _ h1 h2 L H rfl hA)⟩
theorem r_dgo (hA : At R L H) (m : (D.dct kds, V.ref a) ∈ R) (q1 : ∀ d v, lk kds (Sum.inr k) = some d → At ((d, v) :: R) L H → Q v H) (q2 : lk kds (Sum.inr k) = none → Q z H) : DgoQ a (.str k) z Q H := r_dgoK (key := Sum.inr k) hA m q1 q2
theorem r_dgoI (hA : At R L H) (m : (D.dct kds, V.ref a) ∈ R) (q1 : ∀ d v, lk kds (Sum.inl n) = some d → At ((d, v) :: R) L H → Q v H) (q2 : lk kds (Sum.inl n) = none → Q z H) : DgoQ a (.int n) z Q H := r_dgoK (key := Sum.inl n) hA m q1 q2
end
section
variable {H : Hp} {Q : VK} {a : Addr} {i : Int} {z : PySem.Str} {b : Bool}
abbrev isNR : R2 := fun x y H Q => y = V.non ∧ Q (V.bl (decide (x = V.non))) H
abbrev notNR : R2 := fun x y H Q => y = V.non ∧ Q (V.bl (!decide (x = V.non))) H
theorem n_isR (q : Q (.bl false) H) : OR (fun x y H Q => y = V.non ∧ Q (V.bl (decide (x = V.non))) H) (.ref a) .non H Q := ⟨rfl, q⟩
theorem n_isN (q : Q (.bl true) H) : OR (fun x y H Q => y = V.non ∧ Q (V.bl (decide (x = V.non))) H) .non .non H Q := ⟨rfl, q⟩
theorem n_isI (q : Q (.bl false) H) : OR (fun x y H Q => y = V.non ∧ Q (V.bl (decide (x = V.non))) H) (.int i) .non H Q := ⟨rfl, q⟩
theorem n_isS (q : Q (.bl false) H) : OR (fun x y H Q => y = V.non ∧ Q (V.bl (decide (x = V.non))) H) (.str z) .non H Q := ⟨rfl, q⟩
theorem n_isB (q : Q (.bl false) H) : OR (fun x y H Q => y = V.non ∧ Q (V.bl (decide (x = V.non))) H) (.bl b) .non H Q := ⟨rfl, q⟩
theorem n_ntR (q : Q (.bl true) H) : OR (fun x y H Q => y = V.non ∧ Q (V.bl (!decide (x = V.non))) H) (.ref a) .non H Q := ⟨rfl, q⟩
theorem n_ntN (q : Q (.bl false) H) : OR (fun x y H Q => y = V.non ∧ Q (V.bl (!decide (x = V.non))) H) .non .non H Q := ⟨rfl, q⟩
theorem n_ntI (q : Q (.bl true) H) : OR (fun x y H Q => y = V.non ∧ Q (V.bl (!decide (x = V.non))) H) (.int i) .non H Q := ⟨rfl, q⟩
theorem n_ntS (q : Q (.bl true) H) : OR (fun x y H Q => y = V.non ∧ Q (V.bl (!decide (x = V.non))) H) (.str z) .non H Q := ⟨rfl, q⟩
theorem n_ntB (q : Q (.bl true) H) : OR (fun x y H Q => y = V.non ∧ Q (V.bl (!decide (x = V.non))) H) (.bl b) .non H Q := ⟨rfl, q⟩
end
/-! ### list(range(n)) -/
def natD (k : Nat) : D := .int (k : Int)
def RgQ (x : V) (Q : VK) (H : Hp) : Prop := ∃ n, x = .int n ∧ (RgOk 0 n ∧ ∀ q, H q = none → Q (.ref q) (upd H q (.lst (rgV 0 n))))
section
variable {R : RL} {L : LL} {H : Hp} {Q : VK} {σ : L2.St} {ta : TE} {n : Int}
theorem s_lstRg (q : ta σ H fun x H1 => RgQ x Q H1) : tLstRg (tRg1 ta) σ H Q := q
theorem r_lstRg (hA : At R L H) (h0 : 0 ≤ n) (h1 : n ≤ 1000000) (q : ∀ p H', At R ((p, OD.lst ((List.range n.toNat).map natD)) :: L) H' → Q (.ref p) H') : RgQ (.int n) Q H := by
  refine ⟨n, rfl, RgOk.of_le (by omega) (by omega) (by omega) (by omega), fun p hp => ?_⟩
  have e : rgV 0 n = (List.range n.toNat).map fun (i : Nat) => V.int (i : Nat) := by
    unfold rgV
    rw [Int.sub_zero]
    refine List.map_congr_left fun i _ => ?_
    rw [Int.zero_add]
  rw [e]
  refine q p _ (hA.newLst hp ?_)
  have := AllR.scs (R := R) ((List.range n.toNat).map fun (i : Nat) => V.int (i : Nat))
  rw [List.map_map] at this
  exact this
end
theorem rng0_get {n i : Nat} {d : D} (h : (rngD 0 n)[i]? = some d) : i < n ∧ d = natD i := by
  obtain ⟨h1, h2⟩ := rngD_get h
  rw [Int.zero_add] at h2
  exact ⟨h1, h2⟩
end Nw
set_option maxRecDepth 100000
set_option maxHeartbeats 4000000
namespace Nw
open PySem PySem.Spec PyProof.Rows L2
/-! ### data compared, owned or known -/
inductive HasD (R : RL) (L : LL) : V → D → Prop
  | r {x : V} {d : D} : (d, x) ∈ R → HasD R L x d
  | o {p : Addr} {ds : List D} : (p, OD.lst ds) ∈ L → HasD R L (.ref p) (.lst ds)
  | s {x : V} : HasD R L x (.sc x)
/-- what a comparison asks of data: of scalars, lists and tuples, not deep, texts of known size -/
def D.cmp (d : D) : Bool := d.sq && SeqAt.shaped d.pd
section
variable {K : PySem.W.Frag} {R : RL} {L : LL} {H : Hp} {x y : V} {d e : D} {Q : VK}
theorem HasD.rep (h : HasD R L x d) (hA : At R L H) : Rep H d x := by
  cases h with
  | r m => exact hA.rep m
  | s => exact .sc
  | o m =>
    obtain ⟨o, B, e, s, r, q⟩ := hA.own m (fun _ _ z => nomatch z)
    obtain ⟨xs, rfl, q⟩ := q
    exact .lst (.inl e) q.1 fun i d x a b => (q.2 i d x a b).mono (.of s)
theorem r_eqH (hA : At R L H) (m1 : HasD R L x d) (m2 : HasD R L y e) (s1 : d.cmp = true) (s2 : e.cmp = true) (q : Q (.bl (PyData.eqv d.pd e.pd)) H) : OR (rEqD K) x y H Q := by
  obtain ⟨a1, a2⟩ := (Bool.and_eq_true _ _).mp s1
  obtain ⟨b1, b2⟩ := (Bool.and_eq_true _ _).mp s2
  exact ⟨_, _, Rep.dp _ _ (m1.rep hA) a1, Rep.dp _ _ (m2.rep hA) b1, a2, b2, q⟩
theorem r_neH (hA : At R L H) (m1 : HasD R L x d) (m2 : HasD R L y e) (s1 : d.cmp = true) (s2 : e.cmp = true) (q : Q (.bl (!PyData.eqv d.pd e.pd)) H) : OR (rNeD K) x y H Q := by
  obtain ⟨a1, a2⟩ := (Bool.and_eq_true _ _).mp s1
  obtain ⟨b1, b2⟩ := (Bool.and_eq_true _ _).mp s2
  exact ⟨_, _, Rep.dp _ _ (m1.rep hA) a1, Rep.dp _ _ (m2.rep hA) b1, a2, b2, q⟩
end
/-! #### what compares: flat lists -/
/-- a scalar that compares -/
def okV : V → Bool
  | .int _ => true
  | .str z => PySem.PyData.strOk z
  | .bl _ => true
  | .non => true
  | _ => false
theorem pds_sc (xs : List V) : D.pds (xs.map D.sc) = xs.map fun x => (D.sc x).pd := by rw [D.pds_map, List.map_map]; rfl
theorem okV_lay {x : V} (h : okV x = true) : (D.sc x).sq = true ∧ (D.sc x).pd.canLay0 = true ∧ (D.sc x).pd.depth = 0 := by
  cases x <;> first | exact ⟨rfl, rfl, rfl⟩ | exact ⟨rfl, h, rfl⟩ | cases h
theorem flat_sq : ∀ xs : List V, xs.all okV = true → D.sqs (xs.map D.sc) = true ∧ PyData.canLayAll0 (D.pds (xs.map D.sc)) = true ∧ PyData.depthAll (D.pds (xs.map D.sc)) = 0
  | [], _ => ⟨rfl, rfl, rfl⟩
  | x :: r, h => by
    rw [List.all_cons] at h
    obtain ⟨h1, h2⟩ := (Bool.and_eq_true _ _).mp h
    obtain ⟨a1, a2, a3⟩ := okV_lay h1
    obtain ⟨b1, b2, b3⟩ := flat_sq r h2
    rw [List.map_cons, D.sqs, D.pds, PyData.canLayAll0, PyData.depthAll, a1, a2, a3, b1, b2, b3]
    exact ⟨rfl, rfl, rfl⟩
theorem cmp_lst {xs : List V} (h : xs.all okV = true) : (D.lst (xs.map D.sc)).cmp = true := by
  obtain ⟨b1, b2, b3⟩ := flat_sq xs h
  rw [D.cmp, D.sq, D.pd, SeqAt.shaped, PyData.canLay0, PyData.depth, b1, b2, b3]
  rfl
theorem cmp_tup {xs : List V} (h : xs.all okV = true) : (D.tup (xs.map D.sc)).cmp = true := by
  obtain ⟨b1, b2, b3⟩ := flat_sq xs h
  rw [D.cmp, D.sq, D.pd, SeqAt.shaped, PyData.canLay0, PyData.depth, b1, b2, b3]
  rfl
theorem cmp_refl {d : D} (h : d.cmp = true) : PyData.eqv d.pd d.pd = true := by
  obtain ⟨a1, a2⟩ := (Bool.and_eq_true _ _).mp h
  exact SeqAt.eqv_refl _ (SeqAt.canLay_of_shaped a2)
theorem eqv_lst0 (ds : List D) : PyData.eqv (D.lst ds).pd (D.lst []).pd = ds.isEmpty := by cases ds <;> rfl
theorem eqv_tup0 (ds : List D) : PyData.eqv (D.tup ds).pd (D.tup []).pd = ds.isEmpty := by cases ds <;> rfl
theorem eqv_int (i j : Int) : PyData.eqv (D.int i).pd (D.int j).pd = decide (i = j) := by
  show (i == j) = _
  rw [Bool.beq_eq_decide_eq]
theorem eqvAll_map {α : Type} [DecidableEq α] {f : α → D} (h : ∀ a b, PyData.eqv (f a).pd (f b).pd = decide (a = b)) : ∀ xs ys : List α, PyData.eqvAll (D.pds (xs.map f)) (D.pds (ys.map f)) = decide (xs = ys)
  | [], [] => rfl
  | [], y :: ys => rfl
  | x :: xs, [] => rfl
  | x :: xs, y :: ys => by
    rw [List.map_cons, List.map_cons, D.pds, D.pds, PyData.eqvAll, h, eqvAll_map h xs ys]
    by_cases e1 : x = y <;> by_cases e2 : xs = ys <;> simp [e1, e2]
theorem eqv_lst {α : Type} [DecidableEq α] {f : α → D} (h : ∀ a b, PyData.eqv (f a).pd (f b).pd = decide (a = b)) (xs ys : List α) : PyData.eqv (D.lst (xs.map f)).pd (D.lst (ys.map f)).pd = decide (xs = ys) := eqvAll_map h xs ys
theorem eqv_tup {α : Type} [DecidableEq α] {f : α → D} (h : ∀ a b, PyData.eqv (f a).pd (f b).pd = decide (a = b)) (xs ys : List α) : PyData.eqv (D.tup (xs.map f)).pd (D.tup (ys.map f)).pd = decide (xs = ys) := eqvAll_map h xs ys
theorem ints_ok (ns : List Int) : (ns.map V.int).all okV = true := by
  rw [List.all_eq_true]
  intro x hx
  obtain ⟨i, _, rfl⟩ := List.mem_map.mp hx
  rfl
theorem cmp_lstI (ns : List Int) : (D.lst (ns.map D.int)).cmp = true := by
  have := cmp_lst (ints_ok ns)
  rw [List.map_map] at this
  exact this
theorem cmp_tupI (ns : List Int) : (D.tup (ns.map D.int)).cmp = true := by
  have := cmp_tup (ints_ok ns)
  rw [List.map_map] at this
  exact this
theorem i_ne {α : Type} {l : List α} {A B : Prop} (h1 : l ≠ [] → A) (h2 : l = [] → B) : if (!l.isEmpty) = true then A else B := by
  cases l with
  | nil => exact h2 rfl
  | cons x r => exact h1 (by simp)
theorem i_em {α : Type} {l : List α} {A B : Prop} (h1 : l = [] → A) (h2 : l ≠ [] → B) : if l.isEmpty = true then A else B := by
  cases l with
  | nil => exact h1 rfl
  | cons x r => exact h2 (by simp)
end Nw
set_option maxRecDepth 100000
set_option maxHeartbeats 4000000
namespace Nw
open PySem PySem.Spec PyProof.Rows L2
open PySem.W (Datum DatumOrd Tup)
/-! ### data that the kit's Datum knows -/
structure DatF {α : Type} [DecidableEq α] [DatumOrd α] (f : α → D) : Prop where
  pd : ∀ a, (f a).pd = Datum.toD a
  sq : ∀ a, (f a).sq = true
section
variable {α β : Type} [DecidableEq α] [DatumOrd α] [DecidableEq β] [DatumOrd β] {f : α → D} {g : β → D}
theorem DatF.int : DatF D.int := ⟨fun _ => rfl, fun _ => rfl⟩
theorem DatF.str : DatF D.str := ⟨fun _ => rfl, fun _ => rfl⟩
theorem DatF.bl : DatF D.bl := ⟨fun _ => rfl, fun _ => rfl⟩
theorem DatF.pds (h : DatF f) (xs : List α) : D.pds (xs.map f) = xs.map Datum.toD := by
  rw [D.pds_map, List.map_map]
  exact List.map_congr_left fun a _ => h.pd a
theorem DatF.sqs (h : DatF f) (xs : List α) : D.sqs (xs.map f) = true := by
  rw [D.sqs_all, List.all_eq_true]
  intro d hd
  obtain ⟨a, _, rfl⟩ := List.mem_map.mp hd
  exact h.sq a
def tupF (f : α → D) (t : Tup α) : D := .tup (t.items.map f)
def lstF (f : α → D) (t : List α) : D := .lst (t.map f)
def prF (f : α → D) (g : β → D) (p : α × β) : D := .tup [f p.1, g p.2]
theorem DatF.tup (h : DatF f) : DatF (tupF f) := ⟨fun t => congrArg PyData.tuple (h.pds _), fun t => h.sqs _⟩
theorem DatF.lst (h : DatF f) : DatF (lstF f) := ⟨fun t => congrArg PyData.list (h.pds _), fun t => h.sqs _⟩
theorem DatF.pr (h : DatF f) (k : DatF g) : DatF (prF f g) := ⟨fun p => by
    show PyData.tuple [(f p.1).pd, (g p.2).pd] = PyData.tuple [Datum.toD p.1, Datum.toD p.2]
    rw [h.pd, k.pd], fun p => by
    show ((f p.1).sq && ((g p.2).sq && true)) = true
    rw [h.sq, k.sq]
    rfl⟩
theorem DatF.eqv (h : DatF f) (a b : α) : PyData.eqv (f a).pd (f b).pd = decide (a = b) := by rw [h.pd, h.pd, Datum.eqv]
theorem DatF.lt (h : DatF f) (a b : α) : DLt (f a) (f b) ↔ DatumOrd.lt a b = true := by rw [DLt, h.pd, h.pd, DatumOrd.lt_eq]
theorem DatF.depth (h : DatF f) (a : α) : (f a).pd.depth ≤ Datum.depth α := by rw [h.pd]; exact Datum.depth_le a
variable {K : PySem.W.Frag} {R : RL} {L : LL} {H : Hp} {x : V} {Q : VK}
/-- sorted(..): m is what was sorted, ascending -/
theorem r_sortF (h : DatF f) {xs m : List α} (hA : At R L H) (hm : HasL R L x (xs.map f)) (hd : Datum.depth α ≤ 64) (hs : (∀ a ∈ xs, ∃ y r, Datum.toD a = .tuple (y :: r)) ∨ (∀ a ∈ xs, ∀ ys, Datum.toD a ≠ .tuple ys)) (hp : m.Perm xs) (hw : m.Pairwise fun a b => DatumOrd.lt a b = true)
    (q : ∀ p H', At R ((p, OD.lst (m.map f)) :: L) H' → Q (.ref p) H') : BR (rSortN K) [x] H Q := by
  have e : sortD (xs.map f) = m.map f := sortD_map hp (hw.imp fun h' => (h.lt _ _).mpr h')
  refine r_sort hA hm (fun d hd' => ?_) ?_ ?_ (by rw [e]; exact q)
  · obtain ⟨a, _, rfl⟩ := List.mem_map.mp hd'
    exact ⟨h.sq a, Nat.le_trans (h.depth a) hd⟩
  · intro d hd1 d' hd2
    obtain ⟨z, hz, rfl⟩ := List.mem_map.mp hd1
    obtain ⟨z', hz', rfl⟩ := List.mem_map.mp hd2
    obtain ⟨a, _, rfl⟩ := List.mem_map.mp hz
    obtain ⟨b, _, rfl⟩ := List.mem_map.mp hz'
    rw [h.pd, h.pd]
    exact DatumOrd.alike a b
  · rcases hs with hs | hs
    · refine .inl fun d hd' => ?_
      obtain ⟨z, hz, rfl⟩ := List.mem_map.mp hd'
      obtain ⟨a, ha, rfl⟩ := List.mem_map.mp hz
      rw [h.pd]
      exact hs a ha
    · refine .inr fun d hd' => ?_
      obtain ⟨z, hz, rfl⟩ := List.mem_map.mp hd'
      obtain ⟨a, ha, rfl⟩ := List.mem_map.mp hz
      rw [h.pd]
      exact ⟨DatumOrd.notNone a, hs a ha⟩
end
/-- a permutation of the images is one of the things -/
theorem perm_lift {α β : Type} {f : α → β} : ∀ {k : List β} {l : List α}, k.Perm (l.map f) → ∃ m : List α, m.Perm l ∧ m.map f = k
  | [], l, h => by
    have : l = [] := by simpa using h.symm.eq_nil
    subst this
    exact ⟨[], .refl _, rfl⟩
  | b :: k, l, h => by
    have hb : b ∈ l.map f := h.subset List.mem_cons_self
    obtain ⟨a, ha, rfl⟩ := List.mem_map.mp hb
    obtain ⟨l1, l2, rfl⟩ := List.append_of_mem ha
    have h2 : k.Perm ((l1 ++ l2).map f) := by
      have h3 : (f a :: k).Perm (f a :: (l1 ++ l2).map f) := by
        refine h.trans ?_
        rw [← List.map_cons]
        exact (List.perm_middle).map f
      exact h3.cons_inv
    obtain ⟨m, hm, e⟩ := perm_lift h2
    exact ⟨a :: m, (hm.cons a).trans List.perm_middle.symm, by rw [List.map_cons, e]⟩
end Nw
set_option maxRecDepth 100000
set_option maxHeartbeats 4000000
namespace Nw
open PySem PySem.Spec PyProof.Rows L2
/-! ### truth, starred items: the readings named -/
def TruQ (K : PySem.W.Frag) (x : V) (Q : Bool → Hp → Prop) (H : Hp) : Prop := ∃ k, TruV K x H k ∧ Q k H
def tTruN (K : PySem.W.Frag) (ta : TE) : TT := fun σ H Q => ta σ H fun x H' => TruQ K x Q H'
theorem pt_truthK {X : Cx} (K : PySem.W.Frag) (ek : X.K = K) {a : Expr} {ta : TE} (ha : PE X a ta) (he : ∀ whole, isTrue a X.env whole = (do let v ← whole; standAt a.pos; holding [v] (truthy v))) : PT X a (tTruN K ta) := by
  subst ek
  exact pt_truth ha he
def StarQ (K : PySem.W.Frag) (x : V) (P : List V → Hp → Prop) (H : Hp) : Prop := ∃ p xs, x = V.ref p ∧ (SqT K H p xs ∨ SqL K H p xs) ∧ P xs H
theorem pa_starK {X : Cx} (K : PySem.W.Frag) (ek : X.K = K) {e : Expr} {es : List Expr} {p : Pos} {te : TE} {t : TA} (he : PE X e te) (hr : PA X es t) (hs : starEach (.Starred e p :: es) X.env = (true, eval e X.env) :: starEach es X.env := by rfl) : PA X (.Starred e p :: es) (StX.tStar K te t) := by
  subst ek
  exact StX.pa_star he hr hs
section
variable {K : PySem.W.Frag} {R : RL} {L : LL} {H : Hp} {x : V} {σ : L2.St} {ds : List D} {Q : Bool → Hp → Prop} {P : List V → Hp → Prop} {te : TE} {t : TA} {kds : List (Key × D)} {p : Addr}
theorem s_tru (q : te σ H fun x H' => TruQ K x Q H') : tTruN K te σ H Q := q
theorem s_star {Q : List V → Hp → Prop} (q : te σ H fun x H1 => StarQ K x (fun xs H1 => t σ H1 fun ys H2 => Q (xs ++ ys) H2) H1) : StX.tStar K te t σ H Q := q
theorem r_tqT (hA : At R L H) (m : (D.tup ds, x) ∈ R) (q : Q (!ds.isEmpty) H) : TruQ K x Q H := r_truT hA m q
theorem r_starT (hA : At R L H) (m : (D.tup ds, x) ∈ R) (q : ∀ xs, AllR (ds.zip xs ++ R) ds xs → At (ds.zip xs ++ R) L H → P xs H) : StarQ K x P H := by
  obtain ⟨p, xs, rfl, hr, hl, h⟩ := hA.itemsT m
  exact ⟨p, xs, rfl, .inl (.inl hr), q xs (all_zip (zs' := []) hl) h⟩
theorem r_starL (hA : At R L H) (m : HasL R L x ds) (q : ∀ xs, AllR (ds.zip xs ++ R) ds xs → At (ds.zip xs ++ R) L H → P xs H) : StarQ K x P H := by
  obtain ⟨p, xs, rfl, hr, hl, h⟩ := hA.items m
  exact ⟨p, xs, rfl, .inr (.inl hr), q xs (all_zip (zs' := []) hl) h⟩
end
end Nw
set_option maxRecDepth 100000
set_option maxHeartbeats 4000000
namespace Nw
open PySem PySem.Spec PyProof.Rows L2
/-! ### an item of a list or of a tuple -/
def rIxLT (K : PySem.W.Frag) : R2 := fun x y H Q => rIxL K x y H Q ∨ rIxT K x y H Q
theorem ix_lt {X : Cx} (K : PySem.W.Frag) (ek : X.K = K) : IxR X (rIxLT K) := by
  subst ek
  intro value slice pins s σ H x y v u Q I rx ry h hs
  rcases h with h | h
  · exact ix_list value slice pins s σ H x y v u Q I rx ry h hs
  · exact ix_tup value slice pins s σ H x y v u Q I rx ry h hs
/-- known or owned lists, known tuples -/
inductive HasS (R : RL) (L : LL) : V → List D → Prop
  | l {x : V} {ds : List D} : HasL R L x ds → HasS R L x ds
  | t {x : V} {ds : List D} : (D.tup ds, x) ∈ R → HasS R L x ds
section
variable {K : PySem.W.Frag} {R : RL} {L : LL} {H : Hp} {x z : V} {i : Int} {ds : List D} {Q : VK} {d : D}
theorem HasS.mono {R' : RL} (h : HasS R L x ds) (k : ∀ x, x ∈ R → x ∈ R') : HasS R' L x ds := by
  cases h with
  | l h => exact .l (h.mono k)
  | t m => exact .t (k _ m)
theorem r_ixAs (hA : At R L H) (m : HasS R L x ds) (h0 : 0 ≤ i) (hd : ds[i.toNat]? = some (.sc z)) (q : Q z H) : OR (rIxLT K) x (.int i) H Q := by
  cases m with
  | l m =>
    cases m with
    | r m => exact .inl (r_ixLs hA m h0 hd q)
    | o m => exact .inl (r_ixOs hA m h0 hd q)
  | t m => exact .inr (r_ixTs hA m h0 hd q)
theorem r_ixA (hA : At R L H) (m : HasS R L x ds) (h0 : 0 ≤ i) (hd : ds[i.toNat]? = some d) (q : ∀ v, At ((d, v) :: R) L H → Q v H) : OR (rIxLT K) x (.int i) H Q := by
  cases m with
  | l m =>
    cases m with
    | r m => exact .inl (r_ixL hA m h0 hd q)
    | o m => exact .inl (r_ixO hA m h0 hd q)
  | t m => exact .inr (r_ixT hA m h0 hd q)
theorem r_lenA (hA : At R L H) (m : HasS R L x ds) (q : Q (.int ds.length) H) : BR (fun xs H Q => ∃ p ys, xs = [V.ref p] ∧ (SqL K H p ys ∨ SqT K H p ys) ∧ Q (.int ys.length) H) [x] H Q := by
  cases m with
  | l m =>
    cases m with
    | r m => exact r_lenL hA m q
    | o m => exact r_lenO hA m q
  | t m => exact r_lenT hA m q
end
end Nw
set_option maxRecDepth 100000
set_option maxHeartbeats 4000000
namespace Nw
open PySem PySem.Spec PyProof.Rows L2
/-! ### the exception that a suite holds -/
section
variable {K : PySem.W.Frag} {R : RL} {L : LL} {H : Hp} {Q : VK} {a D C dd : Addr} {fs : List (PySem.Str × Nw.D)} {b : Bool} {n : String} {f : PySem.Str} {d : Nw.D} {σ : L2.St} {te : TE} {v : V} {cls : Value} {od : Option Addr}
theorem At.xd (hA : At R L H) (m : (dd, OD.xd fs) ∈ L) : ∃ gs, H dd = some (.xd gs) ∧ gs.map (·.1) = fs.map (·.1) ∧ ∀ (i : Nat) p q, fs[i]? = some p → gs[i]? = some q → At ((p.2, q.2) :: R) L H := by
  obtain ⟨B, s, r, w⟩ := hA
  obtain ⟨bp, o, e, xs, rfl, q⟩ := (w.at_ dd _ m).own (fun _ _ z => nomatch z)
  exact ⟨xs, e, q.1, fun i d x a b => At.add ⟨B, s, r, w⟩ fun B' s' r' w' => by
    obtain ⟨_, o', e', xs', rfl, q'⟩ := (w'.at_ dd _ m).own (fun _ _ z => nomatch z)
    rw [e] at e'
    cases e'
    exact q'.2 i d x a b⟩
theorem r_isX (hA : At R L H) (m : (dd, OD.xd fs) ∈ L) (ki : PySem.W.kitOne K (.ref D) (.ref C) = some b) (q : Q (.bl b) H) : BR (fun xs H Q => (∃ fs, H dd = some (.xd fs)) ∧ rIsE K D a xs H Q) [.ref a, .ref C] H Q := by
  obtain ⟨gs, e, _⟩ := hA.xd m
  exact ⟨⟨gs, e⟩, .ref C, .ref C, b, rfl, fun u h => h, ki, q⟩
theorem r_isXt (hA : At R L H) (m : (dd, OD.xd fs) ∈ L) (ki : PySem.W.kitOne K (.ref D) (.type n) = some b) (q : Q (.bl b) H) : BR (fun xs H Q => (∃ fs, H dd = some (.xd fs)) ∧ rIsE K D a xs H Q) [.ref a, .ty n] H Q := by
  obtain ⟨gs, e, _⟩ := hA.xd m
  exact ⟨⟨gs, e⟩, .ty n, .type n, b, rfl, fun u h => h, ki, q⟩
/-- e.f -/
def XfQ (a : Addr) (cls : Value) (od : Option Addr) (C : Addr) (f : PySem.Str) (x : V) (Q : VK) (H : Hp) : Prop := x = .ref a ∧ cls = .ref C ∧ ∃ (dd : Addr) (fs : List (PySem.Str × V)) (v : V), od = some dd ∧ H dd = some (.xd fs) ∧ fs.lookup f = some v ∧ Q v H
theorem s_xf (q : te σ H fun x H1 => XfQ a cls od C f x Q H1) : tXf a cls od C f te σ H Q := q
theorem r_xf (hA : At R L H) (m : (dd, OD.xd fs) ∈ L) (hl : fs.lookup f = some d) (q : ∀ v, At ((d, v) :: R) L H → Q v H) : XfQ a (.ref C) (some dd) C f (.ref a) Q H := by
  obtain ⟨gs, e, hk, k⟩ := hA.xd m
  obtain ⟨i, g, x, h1, h2, h3⟩ := lookup_at hk hl
  exact ⟨rfl, rfl, dd, gs, x, rfl, e, h3, q x (k i _ _ h1 h2)⟩
end
end Nw
set_option maxRecDepth 100000
set_option maxHeartbeats 4000000
/-! plain: the sets of transitions whose sums a marking has, by two ways -/
namespace P26
abbrev Sp := List Nat
theorem snoc_ind {α : Type} {p : List α → Prop} (h0 : p []) (hs : ∀ l a, p l → p (l ++ [a])) (l : List α) : p l := by
  have key : ∀ r : List α, p r.reverse := by
    intro r
    induction r with
    | nil => exact h0
    | cons a r ih => rw [List.reverse_cons]; exact hs _ _ ih
  have := key l.reverse
  rwa [List.reverse_reverse] at this
/-- the sum of one place over a set -/
def tot (rw : Nat → List Int) (S : Sp) (i : Nat) : Int := (S.map fun k => (rw k).getD i 0).sum
def covF (n : Nat) (l row : Nat → Int) : Prop := ∀ i, i < n → row i ≤ l i
theorem tot_nil (rw : Nat → List Int) (i : Nat) : tot rw [] i = 0 := rfl
theorem tot_cons (rw : Nat → List Int) (k : Nat) (S : Sp) (i : Nat) : tot rw (k :: S) i = (rw k).getD i 0 + tot rw S i := by
  unfold tot
  rw [List.map_cons, List.sum_cons]
theorem tot_app (rw : Nat → List Int) (S T : Sp) (i : Nat) : tot rw (S ++ T) i = tot rw S i + tot rw T i := by
  unfold tot
  rw [List.map_append, List.sum_append]
theorem tot_snoc (rw : Nat → List Int) (k : Nat) (S : Sp) (i : Nat) : tot rw (S ++ [k]) i = tot rw S i + (rw k).getD i 0 := by
  rw [tot_app, tot_cons, tot_nil, Int.add_zero]
theorem tot_nn {rw : Nat → List Int} (h : ∀ k i, 0 ≤ (rw k).getD i 0) : ∀ (S : Sp) (i : Nat), 0 ≤ tot rw S i
  | [], i => Int.le_refl 0
  | k :: S, i => by
    have h1 := h k i
    have h2 := tot_nn h S i
    rw [tot_cons]
    omega
theorem tot_sub {rw : Nat → List Int} (h : ∀ k i, 0 ≤ (rw k).getD i 0) {S T : Sp} (s : S.Sublist T) (i : Nat) : tot rw S i ≤ tot rw T i := by
  induction s with
  | slnil => exact Int.le_refl _
  | cons a s ih => rw [tot_cons]; have := h a i; omega
  | cons_cons a s ih => rw [tot_cons, tot_cons]; omega
/-- a set fits -/
def Fits (rw : Nat → List Int) (ms : List Int) (S : Sp) : Prop := ∀ i, i < ms.length → tot rw S i ≤ ms.getD i 0
theorem zip_all {p : Int → Int → Bool} : ∀ {a b : List Int}, a.length = b.length → ((a.zip b).all (fun x => p x.1 x.2) = true ↔ ∀ i, i < a.length → p (a.getD i 0) (b.getD i 0) = true)
  | [], [], _ => ⟨fun _ i hi => absurd hi (Nat.not_lt_zero i), fun _ => rfl⟩
  | x :: a, y :: b, h => by
    have ih := zip_all (p := p) (a := a) (b := b) (by simpa using h)
    rw [List.zip_cons_cons, List.all_cons, Bool.and_eq_true, ih]
    constructor
    · rintro ⟨h1, h2⟩ i hi
      cases i with
      | zero => exact h1
      | succ i => exact h2 i (by simpa using hi)
    · intro hh
      exact ⟨hh 0 (by simp), fun i hi => hh (i + 1) (by simpa using hi)⟩
  | [], y :: b, h => by cases h
  | x :: a, [], h => by cases h
def cov (ms row : List Int) : Bool := (ms.zip row).all fun p => decide (p.2 ≤ p.1)
theorem cov_iff {ms row : List Int} (h : ms.length = row.length) : cov ms row = true ↔ ∀ i, i < ms.length → row.getD i 0 ≤ ms.getD i 0 := by
  unfold cov
  have := zip_all (p := fun a b => decide (b ≤ a)) h
  rw [this]
  simp
theorem zipWith_getD {f : Int → Int → Int} {a b : List Int} (h : a.length = b.length) {i : Nat} (hi : i < a.length) : (List.zipWith f a b).getD i 0 = f (a.getD i 0) (b.getD i 0) := by
  simp [List.getElem?_zipWith, List.getElem?_eq_getElem hi, List.getElem?_eq_getElem (show i < b.length by omega)]

/-! ### the program's way -/
section
variable (rw : Nat → List Int)
def grow (F : List (Sp × List Int)) (k : Nat) : List (Sp × List Int) := F ++ (F.filter fun f => cov f.2 (rw k)).map fun f => (f.1 ++ [k], List.zipWith (· - ·) f.2 (rw k))
def pst (ms : List Int) (p : List Nat) : List (Sp × List Int) := p.foldl (grow rw) [([], ms)]
end
section
variable {rw : Nat → List Int} {ms : List Int}
theorem pst_snoc (p : List Nat) (k : Nat) : pst rw ms (p ++ [k]) = grow rw (pst rw ms p) k := by
  unfold pst
  rw [List.foldl_append]
  rfl
theorem pst_len (p : List Nat) : (pst rw ms p).length ≤ 2 ^ p.length := by
  refine snoc_ind (p := fun p => (pst rw ms p).length ≤ 2 ^ p.length) (Nat.le_refl _) (fun p k ih => ?_) p
  show (pst rw ms (p ++ [k])).length ≤ 2 ^ (p ++ [k]).length
  rw [pst_snoc, grow, List.length_append, List.length_map, List.length_append]
  have h := List.length_filter_le (fun f : Sp × List Int => cov f.2 (rw k)) (pst rw ms p)
  have e : 2 ^ (p.length + [k].length) = 2 * 2 ^ p.length := by
    show 2 ^ (p.length + 1) = _
    rw [Nat.pow_succ, Nat.mul_comm]
  rw [e]
  omega
theorem sub_snoc {S p : Sp} {k : Nat} : S.Sublist (p ++ [k]) ↔ S.Sublist p ∨ ∃ S', S = S' ++ [k] ∧ S'.Sublist p := by
  rw [List.sublist_append_iff]
  constructor
  · rintro ⟨a, b, rfl, h1, h2⟩
    cases b with
    | nil => rw [List.append_nil]; exact .inl h1
    | cons x b =>
      right
      have h3 := h2.length_le
      have : b = [] := by
        cases b with
        | nil => rfl
        | cons y b => simp at h3
      subst this
      have : x = k := by simpa using h2
      subst this
      exact ⟨a, rfl, h1⟩
  · rintro (h | ⟨S', rfl, h⟩)
    · exact ⟨S, [], by simp, h, List.nil_sublist _⟩
    · exact ⟨S', [k], rfl, h, List.Sublist.refl _⟩
/-- what stands in the program's list: the sublists that fit, with what is left -/
def PstR (rw : Nat → List Int) (ms : List Int) (p : List Nat) : Prop := (∀ f ∈ pst rw ms p, f.1.Sublist p ∧ Fits rw ms f.1 ∧ f.2.length = ms.length ∧ ∀ i, i < ms.length → f.2.getD i 0 = ms.getD i 0 - tot rw f.1 i) ∧ (∀ S, S.Sublist p → Fits rw ms S → ∃ l, (S, l) ∈ pst rw ms p)
def PstOk (rw : Nat → List Int) (ms : List Int) (p : List Nat) : Prop := (∀ k ∈ p, (rw k).length = ms.length) → PstR rw ms p
theorem pst_mem (hn : ∀ k i, 0 ≤ (rw k).getD i 0) (h0 : ∀ i, i < ms.length → 0 ≤ ms.getD i 0) (p : List Nat) : PstOk rw ms p := by
  refine snoc_ind (p := PstOk rw ms) (fun _ => ?_) (fun p k ih hl => ?_) p
  · refine ⟨fun f hf => ?_, fun S hS _ => ?_⟩
    · rw [List.mem_singleton.mp hf]
      exact ⟨List.Sublist.refl _, h0, rfl, fun i _ => by rw [tot_nil, Int.sub_zero]⟩
    · have : S = [] := List.sublist_nil.mp hS
      subst this
      exact ⟨ms, List.mem_singleton.mpr rfl⟩
  · obtain ⟨ih1, ih2⟩ := ih fun j hj => hl j (List.mem_append_left _ hj)
    have hk := hl k (List.mem_append_right _ (List.mem_singleton.mpr rfl))
    unfold PstR
    rw [pst_snoc, grow]
    refine ⟨fun f hf => ?_, fun S hS hF => ?_⟩
    · rcases List.mem_append.mp hf with h | h
      · obtain ⟨a, b, c, d⟩ := ih1 f h
        exact ⟨a.trans (List.sublist_append_left _ _), b, c, d⟩
      · obtain ⟨g, hg, rfl⟩ := List.mem_map.mp h
        obtain ⟨hg1, hg2⟩ := List.mem_filter.mp hg
        obtain ⟨a, b, c, d⟩ := ih1 g hg1
        have hc := (cov_iff (by rw [c, hk])).mp hg2
        refine ⟨a.append (List.Sublist.refl _), fun i hi => ?_, ?_, fun i hi => ?_⟩
        · have := hc i (by rw [c]; exact hi)
          rw [d i hi] at this
          show tot rw (g.1 ++ [k]) i ≤ _
          rw [tot_snoc]
          omega
        · show (List.zipWith _ g.2 (rw k)).length = _
          rw [List.length_zipWith, c, hk]
          omega
        · show (List.zipWith _ g.2 (rw k)).getD i 0 = _ - tot rw (g.1 ++ [k]) i
          rw [zipWith_getD (by rw [c, hk]) (by rw [c]; exact hi), d i hi, tot_snoc]
          omega
    · rcases sub_snoc.mp hS with h | ⟨S', rfl, h⟩
      · obtain ⟨l, hm⟩ := ih2 S h hF
        exact ⟨l, List.mem_append_left _ hm⟩
      · obtain ⟨l, hm⟩ := ih2 S' h fun i hi => by
          have h1 := hF i hi
          have h2 := hn k i
          rw [tot_snoc] at h1
          omega
        obtain ⟨_, _, c, d⟩ := ih1 _ hm
        refine ⟨_, List.mem_append_right _ (List.mem_map.mpr ⟨(S', l), List.mem_filter.mpr ⟨hm, ?_⟩, rfl⟩)⟩
        refine (cov_iff (by show l.length = _; rw [c, hk])).mpr fun i hi => ?_
        have hi' : i < ms.length := by rw [← c]; exact hi
        have h1 := hF i hi'
        have h2 := d i hi'
        rw [tot_snoc] at h1
        show (rw k).getD i 0 ≤ l.getD i 0
        rw [show l.getD i 0 = _ from h2]
        show (rw k).getD i 0 ≤ ms.getD i 0 - tot rw S' i
        omega
theorem pst_sub (p : List Nat) : ∀ f ∈ pst rw ms p, f.1.Sublist p := by
  refine snoc_ind (p := fun p => ∀ f ∈ pst rw ms p, f.1.Sublist p) (fun f hf => ?_) (fun p k ih f hf => ?_) p
  · rw [List.mem_singleton.mp hf]
    exact List.Sublist.refl _
  · rw [pst_snoc, grow] at hf
    rcases List.mem_append.mp hf with h | h
    · exact (ih f h).trans (List.sublist_append_left _ _)
    · obtain ⟨g, hg, rfl⟩ := List.mem_map.mp h
      exact (ih g (List.mem_filter.mp hg).1).append (List.Sublist.refl _)
theorem pst_nd (p : List Nat) (nd : p.Nodup) : ((pst rw ms p).map (·.1)).Nodup := by
  revert nd
  refine snoc_ind (p := fun p => p.Nodup → ((pst rw ms p).map (·.1)).Nodup) (fun _ => ?_) (fun p k ih nd => ?_) p
  · simp [pst]
  · rw [List.nodup_append] at nd
    rw [pst_snoc, grow, List.map_append, List.nodup_append]
    refine ⟨ih nd.1, ?_, fun a ha b hb e => ?_⟩
    · rw [List.map_map]
      have h1 : (((pst rw ms p).filter fun f => cov f.2 (rw k)).map (·.1)).Nodup := (List.filter_sublist.map _).nodup (ih nd.1)
      have e : ((fun x : Sp × List Int => x.1) ∘ fun f : Sp × List Int => (f.1 ++ [k], List.zipWith (· - ·) f.2 (rw k))) = (fun S : Sp => S ++ [k]) ∘ (·.1) := rfl
      rw [e, ← List.map_map, List.nodup_iff_pairwise_ne, List.pairwise_map]
      exact h1.imp fun h e => h (List.append_cancel_right e)
    · obtain ⟨f, hf, rfl⟩ := List.mem_map.mp ha
      obtain ⟨g, hg, rfl⟩ := List.mem_map.mp hb
      obtain ⟨g', hg', rfl⟩ := List.mem_map.mp hg
      have s := pst_sub p f hf
      have hk : k ∈ f.1 := by
        rw [e]
        exact List.mem_append_right _ (List.mem_singleton.mpr rfl)
      exact nd.2.2 k (s.subset hk) k (List.mem_singleton.mpr rfl) rfl
end
/-! ### the law's way -/
section
variable (rw : Nat → List Int) (ms : List Int) (sc : List Nat)
def tak (k : Nat) : List Int := sc.map fun i => (rw k).getD i 0
def dstep (k : Nat) (F : List (Sp × List Int)) : List (Sp × List Int) := (([k], tak rw sc k) :: (F.filter fun f => cov (sc.map fun i => ms.getD i 0) (List.zipWith (· + ·) f.2 (tak rw sc k))).map fun f => (k :: f.1, List.zipWith (· + ·) f.2 (tak rw sc k))) ++ F
def due (r : List Nat) : List (Sp × List Int) := r.foldr (dstep rw ms sc) []
end
section
variable {rw : Nat → List Int} {ms : List Int} {sc : List Nat}
theorem zip_map {f : Int → Int → Int} (g h : Nat → Int) : ∀ sc : List Nat, List.zipWith f (sc.map g) (sc.map h) = sc.map fun i => f (g i) (h i)
  | [] => rfl
  | a :: r => by rw [List.map_cons, List.map_cons, List.zipWith_cons_cons, zip_map g h r, List.map_cons]
theorem cov_map (g h : Nat → Int) : ∀ sc : List Nat, cov (sc.map g) (sc.map h) = true ↔ ∀ i ∈ sc, h i ≤ g i
  | [] => ⟨fun _ i hi => absurd hi List.not_mem_nil, fun _ => rfl⟩
  | a :: r => by
    have ih := cov_map g h r
    unfold cov at ih ⊢
    rw [List.map_cons, List.map_cons, List.zip_cons_cons, List.all_cons, Bool.and_eq_true, ih]
    simp
def FitsS (rw : Nat → List Int) (ms : List Int) (sc : List Nat) (S : Sp) : Prop := ∀ i ∈ sc, tot rw S i ≤ ms.getD i 0
def DueR (rw : Nat → List Int) (ms : List Int) (sc : List Nat) (r : List Nat) : Prop :=
    (∀ f ∈ due rw ms sc r, f.1 ≠ [] ∧ f.1.Sublist r ∧ FitsS rw ms sc f.1 ∧ f.2 = sc.map (tot rw f.1)) ∧ (∀ S, S ≠ [] → S.Sublist r → FitsS rw ms sc S → (S, sc.map (tot rw S)) ∈ due rw ms sc r)
theorem due_mem (hn : ∀ k i, 0 ≤ (rw k).getD i 0) : ∀ (r : List Nat), (∀ k ∈ r, ∀ i ∈ sc, (rw k).getD i 0 ≤ ms.getD i 0) → DueR rw ms sc r
  | [], _ => ⟨fun f hf => (by cases hf), fun S h1 h2 _ => absurd (List.sublist_nil.mp h2) h1⟩
  | k :: r, hr => by
    obtain ⟨ih1, ih2⟩ := due_mem hn r fun j hj => hr j (List.mem_cons_of_mem _ hj)
    have one : ∀ S : Sp, (sc.map fun i => tot rw S i + (rw k).getD i 0) = sc.map (tot rw (k :: S)) := fun S => List.map_congr_left fun i _ => by rw [tot_cons, Int.add_comm]
    show (∀ f ∈ dstep rw ms sc k (due rw ms sc r), _) ∧ ∀ S, _ → _ → _ → _ ∈ dstep rw ms sc k (due rw ms sc r)
    unfold dstep
    refine ⟨fun f hf => ?_, fun S h1 h2 h3 => ?_⟩
    · rcases List.mem_append.mp hf with hf | hf
      · rcases List.mem_cons.mp hf with rfl | hf
        · refine ⟨by simp, by simp, fun i hi => ?_, ?_⟩
          · show tot rw [k] i ≤ _
            rw [tot_cons, tot_nil, Int.add_zero]
            exact hr k List.mem_cons_self i hi
          · exact List.map_congr_left fun i _ => by rw [tot_cons, tot_nil, Int.add_zero]
        · obtain ⟨g, hg, rfl⟩ := List.mem_map.mp hf
          obtain ⟨hg1, hg2⟩ := List.mem_filter.mp hg
          obtain ⟨a, b, c, d⟩ := ih1 g hg1
          rw [d, tak, zip_map, one] at hg2
          refine ⟨by simp, b.cons_cons k, (cov_map _ _ sc).mp hg2, ?_⟩
          show List.zipWith _ g.2 (tak rw sc k) = sc.map (tot rw (k :: g.1))
          rw [d, tak, zip_map, one]
      · obtain ⟨a, b, c, d⟩ := ih1 f hf
        exact ⟨a, b.cons k, c, d⟩
    · cases h2 with
      | cons _ h2 => exact List.mem_append_right _ (ih2 S h1 h2 h3)
      | cons_cons _ h2 =>
        rename_i T
        refine List.mem_append_left _ ?_
        by_cases hT : T = []
        · subst hT
          have : (sc.map (tot rw [k])) = tak rw sc k := List.map_congr_left fun i _ => by rw [tot_cons, tot_nil, Int.add_zero]
          rw [this]
          exact List.mem_cons_self
        · have hF : FitsS rw ms sc T := fun i hi => by
            have h4 := h3 i hi
            rw [tot_cons] at h4
            have := hn k i
            omega
          refine List.mem_cons_of_mem _ (List.mem_map.mpr ⟨_, List.mem_filter.mpr ⟨ih2 T hT h2 hF, ?_⟩, ?_⟩)
          · show cov _ (List.zipWith _ (sc.map (tot rw T)) (tak rw sc k)) = true
            rw [tak, zip_map, one]
            exact (cov_map _ _ sc).mpr h3
          · show (k :: T, List.zipWith _ (sc.map (tot rw T)) (tak rw sc k)) = _
            rw [tak, zip_map, one]
theorem due_len : ∀ r : List Nat, (due rw ms sc r).length + 1 ≤ 2 ^ r.length
  | [] => Nat.le_refl _
  | k :: r => by
    have ih := due_len r
    show (dstep rw ms sc k (due rw ms sc r)).length + 1 ≤ 2 ^ (r.length + 1)
    unfold dstep
    rw [List.length_append, List.length_cons, List.length_map, Nat.pow_succ]
    have h := List.length_filter_le (fun f : Sp × List Int => cov (sc.map fun i => ms.getD i 0) (List.zipWith (· + ·) f.2 (tak rw sc k))) (due rw ms sc r)
    omega
/-- the law's list ascends -/
theorem due_lt : ∀ (r : List Nat), r.Pairwise (· < ·) → (∀ f ∈ due rw ms sc r, f.1 ≠ [] ∧ f.1.Sublist r) → (∀ q, q.Sublist r → ∀ f ∈ due rw ms sc q, f.1 ≠ [] ∧ f.1.Sublist q) → ((due rw ms sc r).map (·.1)).Pairwise (· < ·)
  | [], _, _, _ => List.Pairwise.nil
  | k :: r, hp, hm, hq => by
    obtain ⟨hk, hp⟩ := List.pairwise_cons.mp hp
    have ih := due_lt r hp (hq r (List.sublist_cons_self _ _)) fun q s => hq q (s.trans (List.sublist_cons_self _ _))
    have hm' := hq r (List.sublist_cons_self _ _)
    show ((dstep rw ms sc k (due rw ms sc r)).map (·.1)).Pairwise (· < ·)
    unfold dstep
    rw [List.map_append, List.pairwise_append]
    have lt_head : ∀ (T : Sp) (f : Sp × List Int), f ∈ due rw ms sc r → (k :: T) < f.1 := fun T f hf => by
      obtain ⟨h1, h2⟩ := hm' f hf
      cases hf1 : f.1 with
      | nil => exact absurd hf1 h1
      | cons x X =>
        rw [hf1] at h2
        exact List.cons_lt_cons_iff.mpr (.inl (hk x (h2.subset List.mem_cons_self)))
    refine ⟨?_, ih, fun a ha b hb => ?_⟩
    · rw [List.map_cons, List.map_map, List.pairwise_cons]
      refine ⟨fun a ha => ?_, ?_⟩
      · obtain ⟨f, hf, rfl⟩ := List.mem_map.mp ha
        have h1 := (hm' f (List.mem_filter.mp hf).1).1
        show [k] < k :: f.1
        refine List.cons_lt_cons_iff.mpr (.inr ⟨rfl, ?_⟩)
        cases hf1 : f.1 with
        | nil => exact absurd hf1 h1
        | cons x X => exact List.nil_lt_cons _ _
      · have h1 : (((due rw ms sc r).filter fun f => cov (sc.map fun i => ms.getD i 0) (List.zipWith (· + ·) f.2 (tak rw sc k))).map (·.1)).Pairwise (· < ·) := ih.sublist (List.filter_sublist.map _)
        rw [List.pairwise_map] at h1 ⊢
        exact h1.imp fun h => List.cons_lt_cons_iff.mpr (.inr ⟨rfl, h⟩)
    · obtain ⟨f, hf, rfl⟩ := List.mem_map.mp hb
      rcases List.mem_map.mp ha with ⟨g, hg, rfl⟩
      rcases List.mem_cons.mp hg with rfl | hg
      · exact lt_head [] f hf
      · obtain ⟨g', hg', rfl⟩ := List.mem_map.mp hg
        exact lt_head _ f hf
end
end P26
set_option maxRecDepth 100000
set_option maxHeartbeats 4000000
namespace K26
open PySem PySem.Spec PyProof.Rows L2 Nw
structure Bun (P : Program) (K : PySem.W.Frag) (mg : PySem.Str → Option Value) : Prop where
  T : Bi mg
  d_law : Df K mg "law" "law" s_law
  d__law_pot : Df K mg "_law_pot" "_law_pot" s__law_pot
  d__law_world : Df K mg "_law_world" "_law_world" s__law_world
  d__law_net : Df K mg "_law_net" "_law_net" s__law_net
  d__law_bad : Df K mg "_law_bad" "_law_bad" s__law_bad
  d__law_asked : Df K mg "_law_asked" "_law_asked" s__law_asked
  d__law_due : Df K mg "_law_due" "_law_due" s__law_due
  d__law_agrees : Df K mg "_law_agrees" "_law_agrees" s__law_agrees
  d__law_joint : Df K mg "_law_joint" "_law_joint" s__law_joint
  d__law_most : Df K mg "_law_most" "_law_most" s__law_most
  d__law_lowered : Df K mg "_law_lowered" "_law_lowered" s__law_lowered
  d__law_draw : Df K mg "_law_draw" "_law_draw" s__law_draw
  d__law_names : Df K mg "_law_names" "_law_names" s__law_names
  d__law_row : Df K mg "_law_row" "_law_row" s__law_row
  d__law_order : Df K mg "_law_order" "_law_order" s__law_order
  d__law_side : Df K mg "_law_side" "_law_side" s__law_side
  d__law_word : Df K mg "_law_word" "_law_word" s__law_word
  d_steps : Df K mg "steps" "steps" s_steps
  d__law_covers : Df K mg "_law_covers" "_law_covers" s__law_covers
  d__law_wanted : Df K mg "_law_wanted" "_law_wanted" s__law_wanted
  d__law_weight : Df K mg "_law_weight" "_law_weight" s__law_weight
  d_check_sizes : Df K mg "check_sizes" "check_sizes" s_check_sizes
  d_check_tokens : Df K mg "check_tokens" "check_tokens" s_check_tokens
  d_check_arcs : Df K mg "check_arcs" "check_arcs" s_check_arcs
  d_check_labels : Df K mg "check_labels" "check_labels" s_check_labels
  d_users : Df K mg "users" "users" s_users
  d_indexed : Df K mg "indexed" "indexed" s_indexed
  d_check_marking : Df K mg "check_marking" "check_marking" s_check_marking
  d_steps_and_markings : Df K mg "steps_and_markings" "steps_and_markings" s_steps_and_markings
  d_is_name : Df K mg "is_name" "is_name" s_is_name
  d_is_between : Df K mg "is_between" "is_between" s_is_between
  d_is_marking : Df K mg "is_marking" "is_marking" s_is_marking
  d_enabled_names : Df K mg "enabled_names" "enabled_names" s_enabled_names
  d_is_enabled : Df K mg "is_enabled" "is_enabled" s_is_enabled
  d_with_outputs : Df K mg "with_outputs" "with_outputs" s_with_outputs
  d_without_inputs : Df K mg "without_inputs" "without_inputs" s_without_inputs
  d_is_integer : Df K mg "is_integer" "is_integer" s_is_integer
  d_takes : Df K mg "takes" "takes" s_takes
  d_gives : Df K mg "gives" "gives" s_gives
  c_LETTERS : ∃ t, mg "LETTERS" = some (.str "abcdefghijklmnopqrstuvwxyz" t)
  c_NAME_SIGNS : ∃ t, mg "NAME_SIGNS" = some (.str "abcdefghijklmnopqrstuvwxyz0123456789_" t)
  c_NAME_LENGTH : ∃ t, mg "NAME_LENGTH" = some (.int 24 t)
  c_MOST_TOGETHER : ∃ t, mg "MOST_TOGETHER" = some (.int 12 t)
  g_NetError : mg "NetError" = some (.ref (He.ga K "NetError"))
  g_OverLimit : mg "OverLimit" = some (.ref (He.ga K "OverLimit"))
  g_TooLarge : mg "TooLarge" = some (.ref (He.ga K "TooLarge"))
  g_TooMany : mg "TooMany" = some (.ref (He.ga K "TooMany"))
  g_InvalidNet : mg "InvalidNet" = some (.ref (He.ga K "InvalidNet"))
  g_InvalidMarking : mg "InvalidMarking" = some (.ref (He.ga K "InvalidMarking"))
  g_UnknownName : mg "UnknownName" = some (.ref (He.ga K "UnknownName"))
  g_NameClash : mg "NameClash" = some (.ref (He.ga K "NameClash"))
  g_Net : mg "Net" = some (.ref (He.ga K "Net"))
  x_TooLarge : Ex1 P K mg "TooLarge" "limit" (He.ga K "TooLarge")
  xc_TooLarge : ExcC K (He.ga K "TooLarge")
  xf_TooLarge : XfC K (He.ga K "TooLarge")
  xno_TooLarge : PySem.W.findIn K (.ref (He.ga K "TooLarge")) "limit" = some none
  x_TooMany : Ex1 P K mg "TooMany" "limit" (He.ga K "TooMany")
  xc_TooMany : ExcC K (He.ga K "TooMany")
  xf_TooMany : XfC K (He.ga K "TooMany")
  xno_TooMany : PySem.W.findIn K (.ref (He.ga K "TooMany")) "limit" = some none
  x_InvalidNet : Ex1 P K mg "InvalidNet" "name" (He.ga K "InvalidNet")
  xc_InvalidNet : ExcC K (He.ga K "InvalidNet")
  xf_InvalidNet : XfC K (He.ga K "InvalidNet")
  xno_InvalidNet : PySem.W.findIn K (.ref (He.ga K "InvalidNet")) "name" = some none
  x_InvalidMarking : Ex1 P K mg "InvalidMarking" "marking" (He.ga K "InvalidMarking")
  xc_InvalidMarking : ExcC K (He.ga K "InvalidMarking")
  xf_InvalidMarking : XfC K (He.ga K "InvalidMarking")
  xno_InvalidMarking : PySem.W.findIn K (.ref (He.ga K "InvalidMarking")) "marking" = some none
  n_cls : Cls K (He.ga K "Net")
  n_places : NoAttr K (He.ga K "Net") "places"
  n_transitions : NoAttr K (He.ga K "Net") "transitions"
  n_start : NoAttr K (He.ga K "Net") "start"
  n_index : NoAttr K (He.ga K "Net") "_index"
  n_takes : NoAttr K (He.ga K "Net") "_takes"
  n_gives : NoAttr K (He.ga K "Net") "_gives"
  n_takers : NoAttr K (He.ga K "Net") "_takers"
  n_givers : NoAttr K (He.ga K "Net") "_givers"
  n_labels : NoAttr K (He.ga K "Net") "_labels"
  n_mk : Mk K (He.ga K "Net") (He.fAd K ("Net", some "__init__"))
  n_size : CvI K (He.ga K "Net") "SIZE" 60
  n_most : CvI K (He.ga K "Net") "MOST" 1000000000
  n_ini : ∃ fd, FunD K "__init__" "Net.__init__" (defArgs s_Net_init) (defBody s_Net_init) (defScope s_Net_init) [.non] [] (He.fAd K ("Net", some "__init__")) fd
  ki_InvalidMarking_NetError : PySem.W.kitOne K (.ref (He.ga K "InvalidMarking")) (.ref (He.ga K "NetError")) = some true
  ki_InvalidMarking_ValueError : PySem.W.kitOne K (.ref (He.ga K "InvalidMarking")) (.type "ValueError") = some true
  ki_InvalidMarking_OverLimit : PySem.W.kitOne K (.ref (He.ga K "InvalidMarking")) (.ref (He.ga K "OverLimit")) = some false
  ki_TooLarge_OverLimit : PySem.W.kitOne K (.ref (He.ga K "TooLarge")) (.ref (He.ga K "OverLimit")) = some true
  ki_TooLarge_NetError : PySem.W.kitOne K (.ref (He.ga K "TooLarge")) (.ref (He.ga K "NetError")) = some true
  ki_TooLarge_ValueError : PySem.W.kitOne K (.ref (He.ga K "TooLarge")) (.type "ValueError") = some true
  ki_TooLarge_TooMany : PySem.W.kitOne K (.ref (He.ga K "TooLarge")) (.ref (He.ga K "TooMany")) = some false
  em_InvalidMarking_InvalidMarking : PySem.W.exmOne K (.ref (He.ga K "InvalidMarking")) (.ref (He.ga K "InvalidMarking")) = some true
  em_TooLarge_InvalidMarking : PySem.W.exmOne K (.ref (He.ga K "TooLarge")) (.ref (He.ga K "InvalidMarking")) = some false
  em_TooLarge_TooLarge : PySem.W.exmOne K (.ref (He.ga K "TooLarge")) (.ref (He.ga K "TooLarge")) = some true
end K26
set_option maxRecDepth 100000
set_option maxHeartbeats 4000000
namespace K26
open PySem PySem.Spec PyProof.Rows L2 Nw
set_option hygiene false in
local macro_rules | `(tactic| walk_at "nf") => `(tactic| first | exact B.n_cls | exact B.n_places | exact B.n_transitions | exact B.n_start | exact B.n_index | exact B.n_takes | exact B.n_gives | exact B.n_takers | exact B.n_givers | exact B.n_labels)
local macro_rules | `(tactic| walk_at "nm") => `(tactic| first | exact .head _ | exact .tail _ (.head _) | exact .tail _ (.tail _ (.head _)) | exact .tail _ (.tail _ (.tail _ (.head _))) | exact .tail _ (.tail _ (.tail _ (.tail _ (.head _)))) | exact .tail _ (.tail _ (.tail _ (.tail _ (.tail _ (.head _))))) | exact .tail _ (.tail _ (.tail _ (.tail _ (.tail _ (.tail _ (.head _)))))) | exact List.mem_append_right _ (.head _) | exact List.mem_append_right _ (.tail _ (.head _)) | exact .tail _ (List.mem_append_right _ (.head _)) | exact .tail _ (.tail _ (List.mem_append_right _ (.head _))) | exact .tail _ (.tail _ (.tail _ (List.mem_append_right _ (.head _)))) | (repeat (first | assumption | refine List.mem_cons_of_mem _ ?_)))
set_option hygiene false in
local macro_rules | `(tactic| walk_at "dr") => `(tactic| repeat (first | exact hA | apply At.drop))
local macro_rules | `(tactic| walk_at "mm") => `(tactic| repeat (first | assumption | exact List.mem_cons_self | refine List.mem_cons_of_mem _ ?_))
local macro_rules | `(tactic| walk_at "nb") => `(tactic| first | exact isT_int_int | exact isT_int_bool | exact isT_int_str | exact isT_int_list | exact isT_int_tuple | exact isT_bool_int | exact isT_bool_bool | exact isT_bool_str | exact isT_bool_list | exact isT_bool_tuple | exact isT_str_int | exact isT_str_bool | exact isT_str_str | exact isT_str_list | exact isT_str_tuple | exact isT_NoneType_int | exact isT_NoneType_bool | exact isT_NoneType_str | exact isT_NoneType_list | exact isT_NoneType_tuple | exact isT_list_int | exact isT_list_bool | exact isT_list_str | exact isT_list_list | exact isT_list_tuple | exact isT_tuple_int | exact isT_tuple_bool | exact isT_tuple_str | exact isT_tuple_list | exact isT_tuple_tuple | decide +kernel)
local macro_rules | `(tactic| walk_at "ni") => `(tactic| first | exact InR.mem (by walk_at "nm") | exact InR.sc | assumption)
local macro_rules | `(tactic| walk_at "nc") => `(tactic| first | omega | decide | (unfold CMul; omega) | (unfold CDiv; omega) | (unfold CPow; omega) | (unfold CPow; decide))
local macro_rules | `(tactic| walk_at "nl") => `(tactic| first | omega | decide | (simp only [List.length_cons, List.length_nil, List.length_append, List.length_map, List.length_set]; omega) | (simp; omega))
local macro_rules | `(tactic| walk_at "nh") => `(tactic| first | exact HasL.r (by walk_at "nm") | exact HasL.o (by walk_at "nm") | assumption)
local macro_rules | `(tactic| walk_at "na") => `(tactic| first | exact AllR.nil | (refine AllR.cons (by walk_at "ni") ?_; walk_at "na"))
local macro_rules | `(tactic| walk_at "nt") => `(tactic| first | exact HasTy.int _ | exact HasTy.str _ | exact HasTy.bl _ | exact HasTy.non | exact HasTy.lst (by walk_at "nm") | exact HasTy.tup (by walk_at "nm") | exact HasTy.own (by walk_at "nm"))
set_option hygiene false in
local macro_rules | `(tactic| walk_at "nw") => `(tactic| first
  | (with_reducible refine' s_seq ?_)
  | (with_reducible refine' s_asg ?_)
  | (with_reducible refine' s_name ?_)
  | (with_reducible refine' s_ret ?_)
  | (with_reducible refine' s_drop ?_)
  | (with_reducible refine' s_next ?_)
  | (with_reducible refine' s_op ?_)
  | (with_reducible refine' s_un ?_)
  | (with_reducible refine' s_c ?_)
  | (with_reducible refine' s_cons ?_)
  | (with_reducible refine' s_nil ?_)
  | (with_reducible refine' s_cb ?_)
  | (with_reducible refine' s_call ?_)
  | (with_reducible refine' s_callS ?_)
  | (with_reducible refine' s_test ?_)
  | (with_reducible refine' s_tb ?_)
  | (with_reducible refine' s_bl ?_)
  | (with_reducible refine' s_not ?_)
  | (with_reducible refine' s_if ?_)
  | (with_reducible refine' s_ifE ?_)
  | (with_reducible refine' s_and ?_)
  | (with_reducible refine' s_or ?_)
  | (with_reducible refine' s_andV ?_)
  | (with_reducible refine' s_orV ?_)
  | (with_reducible refine' s_notV ?_)
  | (with_reducible refine' s_sub ?_)
  | (with_reducible refine' s_chain ?_)
  | (with_reducible refine' s_sl ?_)
  | (with_reducible refine' s_noPart ?_)
  | (with_reducible refine' s_part ?_)
  | (with_reducible refine' r_part ?_)
  | (with_reducible refine' s_m1 ?_)
  | (with_reducible refine' s_fldQ ?_)
  | (with_reducible refine' s_setF ?_)
  | (with_reducible refine' s_cvalQ ?_)
  | (with_reducible refine' s_lstRev ?_)
  | (with_reducible refine' s_dgetQ ?_)
  | (with_reducible refine' s_din ?_)
  | (with_reducible refine' s_dnotin ?_)
  | (with_reducible refine' s_dput ?_)
  | (with_reducible refine' s_dget2Q ?_)
  | (with_reducible refine' s_mkX1 ?_)
  | (with_reducible refine' s_make ?_)
  | (with_reducible refine' s_lstRg ?_)
  | (with_reducible refine' s_tru ?_)
  | (with_reducible refine' s_star ?_)
  | (with_reducible refine' s_xf ?_)
  | (with_reducible refine' s_yes ?_)
  | (with_reducible refine' r_I0 ?_)
  | (with_reducible refine' r_U ?_)
  | (with_reducible refine' r_eqI ?_)
  | (with_reducible refine' r_neI ?_)
  | (with_reducible refine' r_eqS ?_)
  | (with_reducible refine' r_neS ?_)
  | (with_reducible refine' n_isR ?_)
  | (with_reducible refine' n_isN ?_)
  | (with_reducible refine' n_isI ?_)
  | (with_reducible refine' n_isS ?_)
  | (with_reducible refine' n_isB ?_)
  | (with_reducible refine' n_ntR ?_)
  | (with_reducible refine' n_ntN ?_)
  | (with_reducible refine' n_ntI ?_)
  | (with_reducible refine' n_ntS ?_)
  | (with_reducible refine' n_ntB ?_)
  | (with_reducible refine' i_t ?_)
  | (with_reducible refine' i_f ?_)
  | (with_reducible refine' i_nt ?_)
  | (with_reducible refine' i_nf ?_)
  | ((with_reducible refine' s_var ?g1 ?_); (case g1 => rfl))
  | ((with_reducible refine' r_I ?g1 ?_); (case g1 => walk_at "nc"))
  | ((with_reducible refine' w_int ?_))
  | ((with_reducible refine' w_abs ?_))
  | ((with_reducible refine' r_max2 ?_))
  | ((with_reducible refine' r_lenS ?g1 ?_); (case g1 => walk_at "nl"))
  | ((with_reducible refine' r_addS ?g1 ?_); (case g1 => walk_at "nl"))
  | ((with_reducible refine' r_slS ?g1 ?_); (case g1 => walk_at "nl"))
  | ((with_reducible refine' r_inS ?_))
  | ((with_reducible refine' r_ixOs hA ?g1 ?g2 ?g3 ?_); (case g1 => walk_at "nm"); (case g2 => walk_at "nc"); (case g3 => rfl))
  | ((with_reducible refine' r_ixLs hA ?g1 ?g2 ?g3 ?_); (case g1 => walk_at "nm"); (case g2 => walk_at "nc"); (case g3 => rfl))
  | ((with_reducible refine' r_ixTs hA ?g1 ?g2 ?g3 ?_); (case g1 => walk_at "nm"); (case g2 => walk_at "nc"); (case g3 => rfl))
  | (((with_reducible refine' r_ixO hA ?g1 ?g2 ?g3 ?_); (case g1 => walk_at "nm"); (case g2 => walk_at "nc"); (case g3 => rfl)); intro v hA)
  | (((with_reducible refine' r_ixL hA ?g1 ?g2 ?g3 ?_); (case g1 => walk_at "nm"); (case g2 => walk_at "nc"); (case g3 => rfl)); intro v hA)
  | (((with_reducible refine' r_ixT hA ?g1 ?g2 ?g3 ?_); (case g1 => walk_at "nm"); (case g2 => walk_at "nc"); (case g3 => rfl)); intro v hA)
  | ((with_reducible refine' r_lenO hA ?g1 ?_); (case g1 => walk_at "nm"))
  | ((with_reducible refine' r_lenL hA ?g1 ?_); (case g1 => walk_at "nm"))
  | ((with_reducible refine' r_lenT hA ?g1 ?_); (case g1 => walk_at "nm"))
  | ((with_reducible refine' r_lenD hA ?g1 ?_); (case g1 => walk_at "nm"))
  | ((with_reducible refine' r_tqT hA ?g1 ?_); (case g1 => walk_at "nm"))
  | (((with_reducible refine' w_setL [] (o := .non) hA ?g1 ?g2 ?g3 ?_); (case g1 => walk_at "ni"); (case g2 => walk_at "nc"); (case g3 => walk_at "nl")); (try clear hA); intro H hA; dsimp only [List.set, Int.toNat, List.cons_append, List.nil_append] at hA)
  | (((with_reducible refine' w_setL [_] (o := .non) hA ?g1 ?g2 ?g3 ?_); (case g1 => walk_at "ni"); (case g2 => walk_at "nc"); (case g3 => walk_at "nl")); (try clear hA); intro H hA; dsimp only [List.set, Int.toNat, List.cons_append, List.nil_append] at hA)
  | (((with_reducible refine' w_setL [_, _] (o := .non) hA ?g1 ?g2 ?g3 ?_); (case g1 => walk_at "ni"); (case g2 => walk_at "nc"); (case g3 => walk_at "nl")); (try clear hA); intro H hA; dsimp only [List.set, Int.toNat, List.cons_append, List.nil_append] at hA)
  | (((with_reducible refine' w_setL [_, _, _] (o := .non) hA ?g1 ?g2 ?g3 ?_); (case g1 => walk_at "ni"); (case g2 => walk_at "nc"); (case g3 => walk_at "nl")); (try clear hA); intro H hA; dsimp only [List.set, Int.toNat, List.cons_append, List.nil_append] at hA)
  | ((with_reducible refine' s_bm ?_); skip)
  | (((with_reducible refine' w_append [] hA ?g1 ?g2 ?_); (case g1 => walk_at "ni"); (case g2 => walk_at "nl")); (try clear hA); intro H hA; dsimp only [List.set, Int.toNat, List.cons_append, List.nil_append] at hA)
  | (((with_reducible refine' w_append [_] hA ?g1 ?g2 ?_); (case g1 => walk_at "ni"); (case g2 => walk_at "nl")); (try clear hA); intro H hA; dsimp only [List.set, Int.toNat, List.cons_append, List.nil_append] at hA)
  | (((with_reducible refine' w_append [_, _] hA ?g1 ?g2 ?_); (case g1 => walk_at "ni"); (case g2 => walk_at "nl")); (try clear hA); intro H hA; dsimp only [List.set, Int.toNat, List.cons_append, List.nil_append] at hA)
  | (((with_reducible refine' w_append [_, _, _] hA ?g1 ?g2 ?_); (case g1 => walk_at "ni"); (case g2 => walk_at "nl")); (try clear hA); intro H hA; dsimp only [List.set, Int.toNat, List.cons_append, List.nil_append] at hA)
  | ((with_reducible refine' ⟨ty_lst hA ?g1, ?_⟩); (case g1 => walk_at "nm"))
  | ((with_reducible refine' r_isi hA ?g1 ?g2 ?_); (case g1 => walk_at "nt"); (case g2 => walk_at "nb"))
  | (((with_reducible refine' r_lstRg hA ?g1 ?g2 ?_); (case g1 => walk_at "nc"); (case g2 => walk_at "nc")); intro p H hA)
  | (((with_reducible refine' r_list hA ?g1 ?_); (case g1 => walk_at "nh")); intro p H hA)
  | (((with_reducible refine' r_slL hA ?g1 ?_); (case g1 => walk_at "nh")); intro p H hA)
  | (((with_reducible refine' r_listT hA ?g1 ?_); (case g1 => walk_at "nm")); intro p H hA)
  | (((with_reducible refine' r_listD hA ?g1 ?_); (case g1 => walk_at "nm")); intro p H hA)
  | (((with_reducible refine' r_tuple hA ?g1 ?_); (case g1 => walk_at "nh")); intro v H hA)
  | (((with_reducible refine' r_slT hA ?g1 ?_); (case g1 => walk_at "nm")); intro v H hA)
  | (((with_reducible refine' r_lstRev hA ?g1 ?_); (case g1 => walk_at "nh")); intro p H hA)
  | ((with_reducible refine' s_tup ?_); skip)
  | ((with_reducible refine' s_lst ?_); skip)
  | (((with_reducible refine' r_tup hA ?g1 ?g2 ?_); (case g1 => walk_at "na"); (case g2 => walk_at "nl")); intro v H hA)
  | (with_reducible refine' r_dnew hA ?_; intro p H hA)
  | (((with_reducible refine' r_fdO hA ?g1 ?g2 ?g3 ?g4 ?_); (case g1 => walk_at "nm"); (case g2 => walk_at "nf"); (case g3 => walk_at "nf"); (case g4 => rfl)); intro v hA)
  | (((with_reducible refine' r_fd hA ?g1 ?g2 ?g3 ?g4 ?_); (case g1 => walk_at "nm"); (case g2 => walk_at "nf"); (case g3 => walk_at "nf"); (case g4 => rfl)); intro v hA)
  | (with_reducible refine' i_dec (fun hc => ?_) (fun hc => ?_))
  | (with_reducible refine' i_ndec (fun hc => ?_) (fun hc => ?_))
  | (with_reducible refine' i_ne (fun hc => ?_) (fun hc => ?_))
  | (with_reducible refine' i_em (fun hc => ?_) (fun hc => ?_)))
/-! ### the pot -/
def PotD (a b c d : Int) (cs : List Int) : List D := D.int a :: D.int b :: D.int c :: D.int d :: cs.map D.int
structure PotOk (pt : List D) : Prop where
  ex : ∃ (a b c d : Int) (cs : List Int), pt = PotD a b c d cs ∧ 4 ≤ c ∧ cs.length ≤ 63
theorem PotD.get {a b c d i : Int} {cs : List Int} (h : 4 ≤ i) (hl : i < cs.length + 1 + 1 + 1 + 1) : ∃ z : Int, (D.int a :: D.int b :: D.int c :: D.int d :: List.map D.int cs)[i.toNat]? = some (.sc (.int z)) := by
  obtain ⟨j, hj⟩ : ∃ j, i.toNat = j + 4 := ⟨i.toNat - 4, by omega⟩
  rw [hj]
  refine ⟨cs[j]'(by omega), ?_⟩
  show (List.map D.int cs)[j]? = _
  rw [List.getElem?_map, List.getElem?_eq_getElem (by omega)] <;> rfl
def sp__law_draw (K : PySem.W.Frag) : Sp := fun vs H Q E => ∃ R L1 L2 p pt many, vs = [.ref p, .int many] ∧ PotOk pt ∧ 0 < many ∧ many < 2 ^ 30 ∧ At R (L1 ++ (p, .lst pt) :: L2) H ∧
  ∀ v pt' H', PotOk pt' → 0 ≤ v → v < many → At R (L1 ++ (p, .lst pt') :: L2) H' → Q (.int v) H'
theorem r_draw {K : PySem.W.Frag} {R : RL} (L1 : LL) {L3 : LL} {H : Hp} {p : Addr} {pt : List D} {many : Int} {Q : VK} {E : XK} (hA : At R (L1 ++ (p, .lst pt) :: L3) H) (hp : PotOk pt) (h0 : 0 < many) (h1 : many < 2 ^ 30)
    (q : ∀ v pt' H', PotOk pt' → 0 ≤ v → v < many → At R (L1 ++ (p, .lst pt') :: L3) H' → Q (.int v) H') : sp__law_draw K [.ref p, .int many] H Q E := ⟨R, L1, L3, p, pt, many, rfl, hp, h0, h1, hA, q⟩
section
variable {P : Program} {w : World} {K : PySem.W.Frag} {mg : PySem.Str → Option Value} {base : Heap}
set_option hygiene false in
local macro_rules | `(tactic| walk_at "term _law_draw") => `(tactic| refine ⟨_, PSs.nox (pss_cons (ps_asg (pe_op op_add (pe_ix (ix_listK K rfl) (pv 0) pe_int (fun _ _ => rfl)) pe_int) (pg_sub (pv 0) pe_int set_list))
  (pss_cons (ps_if (PW.pt (pw_and (pt_cmpR op_eq (pe_ix (ix_listK K rfl) (pv 0) pe_int (fun _ _ => rfl)) pe_int (nomark _)) (pw_and1 (pt_cmpR op_lt (pe_ix (ix_listK K rfl) (pv 0) pe_int (fun _ _ => rfl)) (pe_callB (call_len_seqK K rfl) (by rfl) B.T.len (by decide +kernel) (pa_cons (pv 0) pa_nil)) (nomark _)))))
  (pss_cons (ps_set (i := 2) sc__law_draw.nd rfl (Or.inl rfl) (pe_ix (ix_listK K rfl) (pv 0) (pe_ix (ix_listK K rfl) (pv 0) pe_int (fun _ _ => rfl)) (fun _ _ => rfl)))
  (pss_cons (ps_asg (pe_op op_add (pe_ix (ix_listK K rfl) (pv 0) pe_int (fun _ _ => rfl)) pe_int) (pg_sub (pv 0) pe_int set_list))
  (pss_one (ps_if (pt_cmpR op_ge (pv 2) (pe_op op_pow pe_int pe_int) (nomark _))
  (pss_one (ps_asg (pv 2) (pg_sub (pv 0) pe_int set_list)))
  (pss_one (ps_asg (pe_op op_mod (pe_callTy call_int1 (by rfl) B.T.int (by decide +kernel) (pa_cons (pe_op op_add (pe_op op_add (pe_op op_add (pe_op op_mul (pe_ix (ix_listK K rfl) (pv 0) pe_int (fun _ _ => rfl)) pe_int) (pe_op op_mul (pv 2) pe_int)) (pe_op op_fdiv (pv 2) pe_int)) (pe_ix (ix_listK K rfl) (pv 0) pe_int (fun _ _ => rfl))) pa_nil)) pe_int) (pg_sub (pv 0) pe_int set_list)))))))
  pss_nil)
  (pss_cons (ps_if (pt_cmpR op_gt (pe_ix (ix_listK K rfl) (pv 0) pe_int (fun _ _ => rfl)) pe_int (nomark _))
  (pss_cons (ps_set (i := 3) sc__law_draw.nd rfl (Or.inl rfl) (pe_op op_mod (pe_callTy call_int1 (by rfl) B.T.int (by decide +kernel) (pa_cons (pe_ix (ix_listK K rfl) (pv 0) pe_int (fun _ _ => rfl)) pa_nil)) (pv 1)))
  (pss_cons (ps_asg (pe_op op_fdiv (pe_ix (ix_listK K rfl) (pv 0) pe_int (fun _ _ => rfl)) (pv 1)) (pg_sub (pv 0) pe_int set_list))
  (pss_one (ps_ret (pv 3)))))
  pss_nil)
  (pss_cons (ps_asg (pe_op op_mod (pe_callTy call_int1 (by rfl) B.T.int (by decide +kernel) (pa_cons (pe_op op_add (pe_op op_add (pe_op op_mul (pe_ix (ix_listK K rfl) (pv 0) pe_int (fun _ _ => rfl)) pe_int) (pe_op op_mul (pe_ix (ix_listK K rfl) (pv 0) pe_int (fun _ _ => rfl)) pe_int)) pe_int) pa_nil)) pe_int) (pg_sub (pv 0) pe_int set_list))
  (pss_one (ps_ret (pe_op op_mod (pe_op op_fdiv (pe_op op_mod (pe_callTy call_int1 (by rfl) B.T.int (by decide +kernel) (pa_cons (pe_op op_add (pe_op op_mul (pe_op op_fdiv (pe_ix (ix_listK K rfl) (pv 0) pe_int (fun _ _ => rfl)) pe_int) pe_int) (pe_ix (ix_listK K rfl) (pv 0) pe_int (fun _ _ => rfl))) pa_nil)) pe_int) pe_int) (pv 1)))))))), ?_⟩)
theorem F__law_draw (B : Bun P K mg) : Fn P w K mg base 2 "_law_draw" ["pot", "many"] (sp__law_draw K) := by
  refine B.d__law_draw.fn (k := 1) sc__law_draw (fun vs H Q E h => ?_) (fun _ _ _ _ _ _ us hl => match us, hl with | [_, _], _ => rfl) fun f cdv A outer s H vs Q E hr h => ?_
  · obtain ⟨_, _, _, _, _, _, rfl, _⟩ := h
    rfl
  · obtain ⟨R, L1, L2, p, pt, many, rfl, hp, hm0, hm1, hA, q⟩ := h
    walk_at "term _law_draw"
    obtain ⟨a, b, c, d, cs, rfl, hc4, hcs⟩ := hp.ex
    unfold PotD at hA
    replace hA := hA.front
    repeat' walk_at "nw"
    · obtain ⟨z, hz⟩ := PotD.get (a := a + 1) (b := b) (c := c) (d := d) (cs := cs) (by omega) (by simpa using hc)
      refine r_ixOs hA (.head _) (by omega) hz ?_
      repeat' walk_at "nw"
      all_goals (try unfold CMul)
      all_goals (try omega)
      all_goals (refine q _ _ _ ⟨_, _, _, _, _, rfl, ?_, ?_⟩ ?_ ?_ hA.back)
      all_goals first | omega | (exact Int.emod_nonneg _ (by omega)) | exact Int.emod_lt_of_pos _ hm0
    all_goals (refine q _ _ _ ⟨_, _, _, _, _, rfl, ?_, ?_⟩ ?_ ?_ hA.back)
    all_goals first | omega | (exact Int.emod_nonneg _ (by omega)) | exact Int.emod_lt_of_pos _ hm0
/-! ### words -/
def SG : PySem.Str := "abcdefghijklmnopqrstuvwxyz0123456789_"
def LT : PySem.Str := "abcdefghijklmnopqrstuvwxyz"
/-- a letter, then signs, at most n -/
def WordOk (n : Nat) (z : PySem.Str) : Prop := ∃ c r, z.cps.toList = c :: r ∧ c ∈ LT.cps.toList ∧ (∀ x ∈ r, x ∈ SG.cps.toList) ∧ r.length ≤ n
theorem sg_at {i : Nat} (h : i < 37) : ∃ c, SG.cps.toList[i]? = some c ∧ c ∈ SG.cps.toList := by
  have hl : SG.cps.toList.length = 37 := by decide +kernel
  exact ⟨_, List.getElem?_eq_getElem (by omega), List.getElem_mem _⟩
theorem lt_at {i : Nat} (h : i < 26) : ∃ c, SG.cps.toList[i]? = some c ∧ c ∈ LT.cps.toList := by
  have key : ∀ j : Fin 26, ∃ c, SG.cps.toList[j.val]? = some c ∧ c ∈ LT.cps.toList := by
    intro j
    have e : (SG.cps.toList[j.val]?).any (fun c => decide (c ∈ LT.cps.toList)) = true := by
      revert j
      decide +kernel
    cases q : SG.cps.toList[j.val]? with
    | none => rw [q] at e; cases e
    | some c => rw [q] at e; exact ⟨c, rfl, by simpa using e⟩
  exact key ⟨i, h⟩
theorem join_cps (cs : List Nat) : (Txt.join Str.empty (cs.map fun c => (⟨#[c]⟩ : PySem.Str))).cps.toList = cs := by
  have key : ∀ cs : List Nat, TL.joinL [] (cs.map fun c => [c]) = cs := by
    intro cs
    induction cs with
    | nil => rfl
    | cons c r ih =>
      cases r with
      | nil => rfl
      | cons d r =>
        have e : TL.joinL [] ((c :: d :: r).map fun c => [c]) = [c] ++ ([] ++ TL.joinL [] ((d :: r).map fun c => [c])) := rfl
        rw [e, ih] <;> rfl
  have e := TL.tl_join Str.empty (cs.map fun c => (⟨#[c]⟩ : PySem.Str))
  rw [List.map_map] at e
  rw [TL.join_eq]
  exact e.trans (key cs)
theorem sum_ones {α : Type} : ∀ cs : List α, (cs.map fun _ => 1).sum = cs.length
  | [] => rfl
  | c :: r => by rw [List.map_cons, List.sum_cons, sum_ones r, List.length_cons, Nat.add_comm]
theorem app_cps (a b : PySem.Str) : (a ++ b).cps.toList = a.cps.toList ++ b.cps.toList := by
  show (a.cps ++ b.cps).toList = _
  simp
theorem one_cps (c : Nat) : (⟨#[c]⟩ : PySem.Str).cps.toList = [c] := rfl
def sp__law_word (K : PySem.W.Frag) : Sp := fun vs H Q E => ∃ R L p pt wide, vs = [.ref p, .int wide] ∧ PotOk pt ∧ 1 ≤ wide ∧ wide ≤ 23 ∧ At R ((p, .lst pt) :: L) H ∧
  ∀ z pt' H', PotOk pt' → WordOk (wide.toNat - 1) z → At R ((p, .lst pt') :: L) H' → Q (.str z) H'
theorem r_word {K : PySem.W.Frag} {R : RL} {L : LL} {H : Hp} {p : Addr} {pt : List D} {wide : Int} {Q : VK} {E : XK} (hA : At R ((p, .lst pt) :: L) H) (hp : PotOk pt) (h0 : 1 ≤ wide) (h1 : wide ≤ 23)
    (q : ∀ z pt' H', PotOk pt' → WordOk (wide.toNat - 1) z → At R ((p, .lst pt') :: L) H' → Q (.str z) H') : sp__law_word K [.ref p, .int wide] H Q E := ⟨R, L, p, pt, wide, rfl, hp, h0, h1, hA, q⟩
set_option hygiene false in
local macro_rules | `(tactic| walk_at "term _law_word") => `(tactic| refine ⟨_, PSs.nox (pss_cons (ps_set (i := 2) sc__law_word.nd rfl (Or.inr rfl) pe_str)
  (pss_cons (ps_set (i := 3) sc__law_word.nd rfl (Or.inl rfl) (pe_fn (F__law_draw (P := P) (K := K) (mg := mg) B) hr (by decide) passL rfl (pa_cons (pv 0) (pa_cons (pv 1) pa_nil))))
  (pss_cons (ps_set (i := 4) sc__law_word.nd rfl (Or.inl rfl) (pe_ix ix_str (pv 2) (pe_fn (F__law_draw (P := P) (K := K) (mg := mg) B) hr (by decide) passL rfl (pa_cons (pv 0) (pa_cons pe_int pa_nil))) (fun _ _ => rfl)))
  (pss_one (ps_ret (pe_op op_add_str (pv 4) (pe_join pe_str (pe_lc (own := [("k", 5)]) rfl sc__law_word.nd (pi_range1 rfl B.T.range (pa_cons (pv 3) pa_nil)) (blkOk_by (own := [("k", 5)]) (N := n__law_word) (sc := defScope s__law_word) (by decide +kernel)) (fun _ _ _ _ _ => (pg_name (i := 5) sc__law_word.nd rfl (Or.inl rfl))) (fun _ _ _ _ _ => pts_nil) (fun _ _ _ _ _ => (pe_ix ix_str (pv 2) (pe_fn (F__law_draw (P := P) (K := K) (mg := mg) B) hr (by decide) passL rfl (pa_cons (pv 0) (pa_cons pe_int pa_nil))) (fun _ _ => rfl))))))))))), ?_⟩)
theorem F__law_word (B : Bun P K mg) : Fn P w K mg base 3 "_law_word" ["pot", "wide"] (sp__law_word K) := by
  refine B.d__law_word.fn (k := 2) sc__law_word (fun vs H Q E h => ?_) (fun _ _ _ _ _ _ us hl => match us, hl with | [_, _], _ => rfl) fun f cdv A outer s H vs Q E hr h => ?_
  · obtain ⟨_, _, _, _, _, rfl, _⟩ := h
    rfl
  · obtain ⟨R, L, p, pt, wide, rfl, hp, hw0, hw1, hA, q⟩ := h
    walk_at "term _law_word"
    repeat' walk_at "nw"
    refine r_draw [] hA hp (by omega) (by omega) fun size pt H hp h0 h1 hA => ?_
    repeat' walk_at "nw"
    refine r_draw [] hA hp (by omega) (by omega) fun i pt H hp i0 i1 hA => ?_
    obtain ⟨c, hc, hcL⟩ := lt_at (i := i.toNat) (by omega)
    refine r_ixS (by decide +kernel) i0 hc ?_
    repeat' walk_at "nw"
    refine ⟨⟨_, rfl⟩, ?_⟩
    refine s_lc (s_iRng1 (s_cons (s_var rfl (s_nil (src_rng ?_ ?_ fun W => lc_D W hA (fun i as L' => ∃ (pt' : List D) (cs : List Nat), PotOk pt' ∧ L' = (p, .lst pt') :: L ∧ as = (cs.map fun c => (⟨#[c]⟩ : PySem.Str)).map D.str ∧ cs.length = i ∧ ∀ x ∈ cs, x ∈ SG.cps.toList) ?_ ?_ ?_ ?_)))))
    · omega
    · omega
    · exact ⟨pt, [], hp, rfl, rfl, rfl, fun x hx => by cases hx⟩
    · exact fun _ _ _ _ _ => True.intro
    · rintro j d v as L1 H p2 hd ⟨pt, cs, hp, rfl, rfl, hcl, hcs⟩ hlen hA
      obtain ⟨hj, rfl⟩ := rngD_get hd
      refine s_name ⟨rfl, ?_⟩
      repeat' walk_at "nw"
      refine r_draw [_] hA hp (by omega) (by omega) fun i pt H hp i0 i1 hA => ?_
      obtain ⟨c, hc, hcL⟩ := sg_at (i := i.toNat) (by omega)
      refine r_ixS (by decide +kernel) i0 hc ?_
      refine lc_end hA (fun z hz => List.mem_cons_of_mem _ hz) .sc hlen (by omega) ⟨pt, cs ++ [c], hp, rfl, by simp, by simp [hcl], fun x hx => ?_⟩
      rcases List.mem_append.mp hx with hx | hx
      · exact hcs x hx
      · rw [List.mem_singleton.mp hx]
        exact hcL
    · rintro p2 as L1 H ⟨pt, cs, hp, rfl, rfl, hcl, hcs⟩ hlen hA
      rw [rngD_len] at hcl
      refine r_join hA (.o (.head _)) ?_ ?_
      · have e : ((cs.map fun c => (⟨#[c]⟩ : PySem.Str)).map (·.length)) = cs.map fun _ => 1 := by
          rw [List.map_map]
          rfl
        have hs : (cs.map fun _ => 1).sum = cs.length := sum_ones cs
        rw [e, hs, List.length_map]
        show cs.length + cs.length * 0 ≤ 1000000
        omega
      · refine r_addS ?_ ?_
        · have e1 : (Txt.join Str.empty (cs.map fun c => (⟨#[c]⟩ : PySem.Str))).length = cs.length := by
            have e := congrArg List.length (join_cps cs)
            simpa [PySem.Str.length] using e
          show (⟨#[c]⟩ : PySem.Str).length + (Txt.join Str.empty (cs.map fun c => (⟨#[c]⟩ : PySem.Str))).length ≤ 1000000
          rw [e1]
          show 1 + cs.length ≤ 1000000
          omega
        · refine q _ _ _ hp ⟨c, cs, ?_, hcL, hcs, by omega⟩ hA.forget
          rw [app_cps, one_cps]
          exact congrArg (List.cons c) (join_cps cs)
/-! ### the pot is made -/
/-- a list of ints that is known, or stands in the written part -/
def KnowI (K : PySem.W.Frag) (R : RL) (a : Addr) (ns : List Int) : Prop := (D.lst (ns.map D.int), V.ref a) ∈ R ∨ ∀ H : Hp, SqL K H a (ns.map V.int)
theorem know_of {K : PySem.W.Frag} {H : Hp} {a : Addr} {ns : List Int} (h : SqL K H a (ns.map V.int)) : ∃ R, At R [] H ∧ KnowI K R a ns := by
  have rep : ∀ B : Hp, Rd B a (.lst (ns.map V.int)) → Rep B (.lst (ns.map D.int)) (.ref a) := fun B hr => .lst hr (by simp) fun i d x e1 e2 => by
    rw [List.getElem?_map] at e1 e2
    cases q : ns[i]? with
    | none => rw [q] at e1; cases e1
    | some z =>
      rw [q] at e1 e2
      cases e1
      cases e2
      exact .sc
  rcases h with h | h
  · refine ⟨[(D.lst (ns.map D.int), V.ref a)], ⟨fun b => if b = a then H a else none, fun b o e => ?_, fun d v m => ?_, List.Pairwise.nil, fun b o kvs e => ?_, fun _ _ m => (by cases m)⟩, .inl List.mem_cons_self⟩
    · by_cases z : b = a
      · simp only [z, if_true] at e
        rw [z]
        exact e
      · simp only [z, if_false] at e
        cases e
    · cases List.mem_singleton.mp m
      refine rep _ ?_
      rcases h with e | ⟨o, e⟩
      · exact .inl (by simp only [if_true]; exact e)
      · exact .inr ⟨o, by simp only [if_true]; exact e⟩
    · by_cases z : b = a
      · simp only [z, if_true] at e
        rcases h with e' | ⟨o', e'⟩ <;> rw [e'] at e <;> cases e
      · simp only [z, if_false] at e
        cases e
  · exact ⟨[], ⟨fun _ => none, fun _ _ e => (by cases e), fun _ _ m => (by cases m), List.Pairwise.nil, fun _ _ _ e => (by cases e), fun _ _ m => (by cases m)⟩, .inr fun H' => .inr h⟩
def sp__law_pot (K : PySem.W.Frag) : Sp := fun vs H Q E => ∃ (a : Addr) (ns : List Int) (R : RL), vs = [.ref a] ∧ At R [] H ∧ KnowI K R a ns ∧ ns.length ≤ 63 ∧ ∀ p pt H', PotOk pt → At [] [(p, .lst pt)] H' → Q (.ref p) H'
theorem cut63 {α : Type} (xs : List α) (h : xs.length ≤ 63) : cut xs none (some 63) = xs := by
  unfold cut
  have e1 : HT.sIx xs.length 0 none = 0 := rfl
  have e2 : HT.sIx xs.length xs.length (some 63) = xs.length := by
    show (if (63 : Int) < 0 then ((63 : Int) + (xs.length : Int)).toNat else min (63 : Int).toNat xs.length) = xs.length
    rw [if_neg (by decide)]
    show min 63 xs.length = xs.length
    omega
  rw [e1, e2]
  simp
set_option hygiene false in
local macro_rules | `(tactic| walk_at "term _law_pot") => `(tactic| refine ⟨_, PSs.nox (pss_cons (ps_set (i := 1) sc__law_pot.nd rfl (Or.inl rfl) (pe_lst (pa_cons pe_int (pa_cons pe_int (pa_cons pe_int (pa_cons pe_int pa_nil))))))
  (pss_cons (ps_for PassesOwn.never rfl (pi_listK K rfl (pe_slice (sl_listK K rfl) (pv 0) po_none (po_some pe_int))) (pg_name (i := 2) sc__law_pot.nd rfl (Or.inl rfl))
  (pss_one (ps_expr (pe_bm PySem.F.plainAttrs_list PySem.F.slot_list_append PySem.F.type_list_append mt_append (pv 1) (pa_cons (pe_callB call_abs (by rfl) B.T.abs (by decide +kernel) (pa_cons (pe_callTy call_int1 (by rfl) B.T.int (by decide +kernel) (pa_cons (pv 2) pa_nil)) pa_nil)) pa_nil)))))
  (pss_one (ps_ret (pv 1))))), ?_⟩)
theorem F__law_pot (B : Bun P K mg) : Fn P w K mg base 2 "_law_pot" ["script"] (sp__law_pot K) := by
  refine B.d__law_pot.fn (k := 1) sc__law_pot (fun vs H Q E h => ?_) (fun _ _ _ _ _ _ us hl => match us, hl with | [_], _ => rfl) fun f cdv A outer s H vs Q E hr h => ?_
  · obtain ⟨_, _, _, rfl, _⟩ := h
    rfl
  · obtain ⟨a, ns, R, rfl, hA, hS, hn, q⟩ := h
    walk_at "term _law_pot"
    repeat' walk_at "nw"
    refine r_lst hA (.cons .sc (.cons .sc (.cons .sc (.cons .sc .nil)))) (by show 4 ≤ 1000000; omega) fun p H1 hA => ?_
    repeat' walk_at "nw"
    refine s_for (s_iList ?_)
    repeat' walk_at "nw"
    have h63 : ∃ xs, SqL K H1 a xs ∧ xs = ns.map V.int := by
      rcases hS with m | k
      · obtain ⟨a', e, hr⟩ := scs_of (zs := ns.map V.int) hA (.r (by rw [List.map_map]; exact m))
        cases e
        exact ⟨_, .inl hr, rfl⟩
      · exact ⟨_, k H1, rfl⟩
    obtain ⟨xs, hS1, rfl⟩ := h63
    refine ⟨a, ns.map V.int, rfl, hS1, fun p2 h2 => ?_⟩
    have e63 : cutV (ns.map V.int) none (some 63) = ns.map V.int := cut63 _ (by simpa using hn)
    rw [e63]
    replace hA := hA.newLstR (ds := (ns.map V.int).map D.sc) h2 (AllR.scs _)
    refine src_lst hA (.head _) fun b eb W => for_D W hA (fun i σ L' => (∃ c, σ = [some (.ref a), some (.ref p), c]) ∧ ∃ cs : List Int, L' = [(p, .lst (PotD 0 0 4 7 cs))] ∧ cs.length = i) ?_ ?_ ?_ ?_
    · exact ⟨⟨none, rfl⟩, [], rfl, rfl⟩
    · exact fun _ _ _ _ => True.intro
    · rintro i d v σ L1 H hd ⟨⟨c, rfl⟩, cs, rfl, hl⟩ hA
      obtain ⟨z, rfl⟩ : ∃ z : Int, d = D.int z := by
        rw [List.map_map, List.getElem?_map] at hd
        cases q : ns[i]? with
        | none => rw [q] at hd; cases hd
        | some z => rw [q] at hd; exact ⟨z, (Option.some.inj hd).symm⟩
      obtain rfl := hA.sc_of
      have hi : i < ns.length := by simpa using (List.getElem?_eq_some_iff.mp hd).1
      unfold PotD at hA
      repeat' walk_at "nw"
      refine ⟨_, ⟨⟨_, rfl⟩, cs ++ [if z < 0 then -z else z], rfl, by simp [hl]⟩, ?_⟩
      have e : PotD 0 0 4 7 (cs ++ [if z < 0 then -z else z]) = D.int 0 :: D.int 0 :: D.int 4 :: D.int 7 :: (cs.map D.int ++ [D.int (if z < 0 then -z else z)]) := by simp [PotD]
      rw [e]
      exact hA.drop
    · rintro σ L1 H ⟨⟨c, rfl⟩, cs, rfl, hl⟩ hA
      repeat' walk_at "nw"
      refine q _ _ _ ⟨_, _, _, _, cs, rfl, by omega, ?_⟩ (hA.sub fun _ m => by cases m)
      simp at hl
      omega
end
end K26
set_option maxRecDepth 100000
set_option maxHeartbeats 4000000
namespace K26
open PySem PySem.Spec PyProof.Rows L2 Nw
set_option hygiene false in
local macro_rules | `(tactic| walk_at "nf") => `(tactic| first | exact B.n_cls | exact B.n_places | exact B.n_transitions | exact B.n_start | exact B.n_index | exact B.n_takes | exact B.n_gives | exact B.n_takers | exact B.n_givers | exact B.n_labels)
local macro_rules | `(tactic| walk_at "nm") => `(tactic| first | exact .head _ | exact .tail _ (.head _) | exact .tail _ (.tail _ (.head _)) | exact .tail _ (.tail _ (.tail _ (.head _))) | exact .tail _ (.tail _ (.tail _ (.tail _ (.head _)))) | exact .tail _ (.tail _ (.tail _ (.tail _ (.tail _ (.head _))))) | exact .tail _ (.tail _ (.tail _ (.tail _ (.tail _ (.tail _ (.head _)))))) | exact List.mem_append_right _ (.head _) | exact List.mem_append_right _ (.tail _ (.head _)) | exact .tail _ (List.mem_append_right _ (.head _)) | exact .tail _ (.tail _ (List.mem_append_right _ (.head _))) | exact .tail _ (.tail _ (.tail _ (List.mem_append_right _ (.head _)))) | (repeat (first | assumption | refine List.mem_cons_of_mem _ ?_)))
set_option hygiene false in
local macro_rules | `(tactic| walk_at "dr") => `(tactic| repeat (first | exact hA | apply At.drop))
local macro_rules | `(tactic| walk_at "mm") => `(tactic| repeat (first | assumption | exact List.mem_cons_self | refine List.mem_cons_of_mem _ ?_))
local macro_rules | `(tactic| walk_at "nb") => `(tactic| first | exact isT_int_int | exact isT_int_bool | exact isT_int_str | exact isT_int_list | exact isT_int_tuple | exact isT_bool_int | exact isT_bool_bool | exact isT_bool_str | exact isT_bool_list | exact isT_bool_tuple | exact isT_str_int | exact isT_str_bool | exact isT_str_str | exact isT_str_list | exact isT_str_tuple | exact isT_NoneType_int | exact isT_NoneType_bool | exact isT_NoneType_str | exact isT_NoneType_list | exact isT_NoneType_tuple | exact isT_list_int | exact isT_list_bool | exact isT_list_str | exact isT_list_list | exact isT_list_tuple | exact isT_tuple_int | exact isT_tuple_bool | exact isT_tuple_str | exact isT_tuple_list | exact isT_tuple_tuple | decide +kernel)
local macro_rules | `(tactic| walk_at "ni") => `(tactic| first | exact InR.mem (by walk_at "nm") | exact InR.sc | assumption)
local macro_rules | `(tactic| walk_at "nc") => `(tactic| first | omega | decide | (unfold CMul; omega) | (unfold CDiv; omega) | (unfold CPow; omega) | (unfold CPow; decide))
local macro_rules | `(tactic| walk_at "nl") => `(tactic| first | omega | decide | (simp only [List.length_cons, List.length_nil, List.length_append, List.length_map, List.length_set]; omega) | (simp; omega))
local macro_rules | `(tactic| walk_at "nh") => `(tactic| first | exact HasL.r (by walk_at "nm") | exact HasL.o (by walk_at "nm") | assumption)
local macro_rules | `(tactic| walk_at "na") => `(tactic| first | exact AllR.nil | (refine AllR.cons (by walk_at "ni") ?_; walk_at "na"))
local macro_rules | `(tactic| walk_at "nt") => `(tactic| first | exact HasTy.int _ | exact HasTy.str _ | exact HasTy.bl _ | exact HasTy.non | exact HasTy.lst (by walk_at "nm") | exact HasTy.tup (by walk_at "nm") | exact HasTy.own (by walk_at "nm"))
set_option hygiene false in
local macro_rules | `(tactic| walk_at "nw") => `(tactic| first
  | (with_reducible refine' s_seq ?_)
  | (with_reducible refine' s_asg ?_)
  | (with_reducible refine' s_name ?_)
  | (with_reducible refine' s_ret ?_)
  | (with_reducible refine' s_drop ?_)
  | (with_reducible refine' s_next ?_)
  | (with_reducible refine' s_op ?_)
  | (with_reducible refine' s_un ?_)
  | (with_reducible refine' s_c ?_)
  | (with_reducible refine' s_cons ?_)
  | (with_reducible refine' s_nil ?_)
  | (with_reducible refine' s_cb ?_)
  | (with_reducible refine' s_call ?_)
  | (with_reducible refine' s_callS ?_)
  | (with_reducible refine' s_test ?_)
  | (with_reducible refine' s_tb ?_)
  | (with_reducible refine' s_bl ?_)
  | (with_reducible refine' s_not ?_)
  | (with_reducible refine' s_if ?_)
  | (with_reducible refine' s_ifE ?_)
  | (with_reducible refine' s_and ?_)
  | (with_reducible refine' s_or ?_)
  | (with_reducible refine' s_andV ?_)
  | (with_reducible refine' s_orV ?_)
  | (with_reducible refine' s_notV ?_)
  | (with_reducible refine' s_sub ?_)
  | (with_reducible refine' s_chain ?_)
  | (with_reducible refine' s_sl ?_)
  | (with_reducible refine' s_noPart ?_)
  | (with_reducible refine' s_part ?_)
  | (with_reducible refine' r_part ?_)
  | (with_reducible refine' s_m1 ?_)
  | (with_reducible refine' s_fldQ ?_)
  | (with_reducible refine' s_setF ?_)
  | (with_reducible refine' s_cvalQ ?_)
  | (with_reducible refine' s_lstRev ?_)
  | (with_reducible refine' s_dgetQ ?_)
  | (with_reducible refine' s_din ?_)
  | (with_reducible refine' s_dnotin ?_)
  | (with_reducible refine' s_dput ?_)
  | (with_reducible refine' s_dget2Q ?_)
  | (with_reducible refine' s_mkX1 ?_)
  | (with_reducible refine' s_make ?_)
  | (with_reducible refine' s_lstRg ?_)
  | (with_reducible refine' s_tru ?_)
  | (with_reducible refine' s_star ?_)
  | (with_reducible refine' s_xf ?_)
  | (with_reducible refine' s_yes ?_)
  | (with_reducible refine' r_I0 ?_)
  | (with_reducible refine' r_U ?_)
  | (with_reducible refine' r_eqI ?_)
  | (with_reducible refine' r_neI ?_)
  | (with_reducible refine' r_eqS ?_)
  | (with_reducible refine' r_neS ?_)
  | (with_reducible refine' n_isR ?_)
  | (with_reducible refine' n_isN ?_)
  | (with_reducible refine' n_isI ?_)
  | (with_reducible refine' n_isS ?_)
  | (with_reducible refine' n_isB ?_)
  | (with_reducible refine' n_ntR ?_)
  | (with_reducible refine' n_ntN ?_)
  | (with_reducible refine' n_ntI ?_)
  | (with_reducible refine' n_ntS ?_)
  | (with_reducible refine' n_ntB ?_)
  | (with_reducible refine' i_t ?_)
  | (with_reducible refine' i_f ?_)
  | (with_reducible refine' i_nt ?_)
  | (with_reducible refine' i_nf ?_)
  | ((with_reducible refine' s_var ?g1 ?_); (case g1 => rfl))
  | ((with_reducible refine' r_I ?g1 ?_); (case g1 => walk_at "nc"))
  | ((with_reducible refine' w_int ?_))
  | ((with_reducible refine' w_abs ?_))
  | ((with_reducible refine' r_max2 ?_))
  | ((with_reducible refine' r_lenS ?g1 ?_); (case g1 => walk_at "nl"))
  | ((with_reducible refine' r_addS ?g1 ?_); (case g1 => walk_at "nl"))
  | ((with_reducible refine' r_slS ?g1 ?_); (case g1 => walk_at "nl"))
  | ((with_reducible refine' r_inS ?_))
  | ((with_reducible refine' r_ixOs hA ?g1 ?g2 ?g3 ?_); (case g1 => walk_at "nm"); (case g2 => walk_at "nc"); (case g3 => rfl))
  | ((with_reducible refine' r_ixLs hA ?g1 ?g2 ?g3 ?_); (case g1 => walk_at "nm"); (case g2 => walk_at "nc"); (case g3 => rfl))
  | ((with_reducible refine' r_ixTs hA ?g1 ?g2 ?g3 ?_); (case g1 => walk_at "nm"); (case g2 => walk_at "nc"); (case g3 => rfl))
  | (((with_reducible refine' r_ixO hA ?g1 ?g2 ?g3 ?_); (case g1 => walk_at "nm"); (case g2 => walk_at "nc"); (case g3 => rfl)); intro v hA)
  | (((with_reducible refine' r_ixL hA ?g1 ?g2 ?g3 ?_); (case g1 => walk_at "nm"); (case g2 => walk_at "nc"); (case g3 => rfl)); intro v hA)
  | (((with_reducible refine' r_ixT hA ?g1 ?g2 ?g3 ?_); (case g1 => walk_at "nm"); (case g2 => walk_at "nc"); (case g3 => rfl)); intro v hA)
  | ((with_reducible refine' r_lenO hA ?g1 ?_); (case g1 => walk_at "nm"))
  | ((with_reducible refine' r_lenL hA ?g1 ?_); (case g1 => walk_at "nm"))
  | ((with_reducible refine' r_lenT hA ?g1 ?_); (case g1 => walk_at "nm"))
  | ((with_reducible refine' r_lenD hA ?g1 ?_); (case g1 => walk_at "nm"))
  | ((with_reducible refine' r_tqT hA ?g1 ?_); (case g1 => walk_at "nm"))
  | (((with_reducible refine' w_setL [] (o := .non) hA ?g1 ?g2 ?g3 ?_); (case g1 => walk_at "ni"); (case g2 => walk_at "nc"); (case g3 => walk_at "nl")); (try clear hA); intro H hA; dsimp only [List.set, Int.toNat, List.cons_append, List.nil_append] at hA)
  | (((with_reducible refine' w_setL [_] (o := .non) hA ?g1 ?g2 ?g3 ?_); (case g1 => walk_at "ni"); (case g2 => walk_at "nc"); (case g3 => walk_at "nl")); (try clear hA); intro H hA; dsimp only [List.set, Int.toNat, List.cons_append, List.nil_append] at hA)
  | (((with_reducible refine' w_setL [_, _] (o := .non) hA ?g1 ?g2 ?g3 ?_); (case g1 => walk_at "ni"); (case g2 => walk_at "nc"); (case g3 => walk_at "nl")); (try clear hA); intro H hA; dsimp only [List.set, Int.toNat, List.cons_append, List.nil_append] at hA)
  | (((with_reducible refine' w_setL [_, _, _] (o := .non) hA ?g1 ?g2 ?g3 ?_); (case g1 => walk_at "ni"); (case g2 => walk_at "nc"); (case g3 => walk_at "nl")); (try clear hA); intro H hA; dsimp only [List.set, Int.toNat, List.cons_append, List.nil_append] at hA)
  | ((with_reducible refine' s_bm ?_); skip)
  | (((with_reducible refine' w_append [] hA ?g1 ?g2 ?_); (case g1 => walk_at "ni"); (case g2 => walk_at "nl")); (try clear hA); intro H hA; dsimp only [List.set, Int.toNat, List.cons_append, List.nil_append] at hA)
  | (((with_reducible refine' w_append [_] hA ?g1 ?g2 ?_); (case g1 => walk_at "ni"); (case g2 => walk_at "nl")); (try clear hA); intro H hA; dsimp only [List.set, Int.toNat, List.cons_append, List.nil_append] at hA)
  | (((with_reducible refine' w_append [_, _] hA ?g1 ?g2 ?_); (case g1 => walk_at "ni"); (case g2 => walk_at "nl")); (try clear hA); intro H hA; dsimp only [List.set, Int.toNat, List.cons_append, List.nil_append] at hA)
  | (((with_reducible refine' w_append [_, _, _] hA ?g1 ?g2 ?_); (case g1 => walk_at "ni"); (case g2 => walk_at "nl")); (try clear hA); intro H hA; dsimp only [List.set, Int.toNat, List.cons_append, List.nil_append] at hA)
  | ((with_reducible refine' ⟨ty_lst hA ?g1, ?_⟩); (case g1 => walk_at "nm"))
  | ((with_reducible refine' r_isi hA ?g1 ?g2 ?_); (case g1 => walk_at "nt"); (case g2 => walk_at "nb"))
  | (((with_reducible refine' r_lstRg hA ?g1 ?g2 ?_); (case g1 => walk_at "nc"); (case g2 => walk_at "nc")); intro p H hA)
  | (((with_reducible refine' r_list hA ?g1 ?_); (case g1 => walk_at "nh")); intro p H hA)
  | (((with_reducible refine' r_slL hA ?g1 ?_); (case g1 => walk_at "nh")); intro p H hA)
  | (((with_reducible refine' r_listT hA ?g1 ?_); (case g1 => walk_at "nm")); intro p H hA)
  | (((with_reducible refine' r_listD hA ?g1 ?_); (case g1 => walk_at "nm")); intro p H hA)
  | (((with_reducible refine' r_tuple hA ?g1 ?_); (case g1 => walk_at "nh")); intro v H hA)
  | (((with_reducible refine' r_slT hA ?g1 ?_); (case g1 => walk_at "nm")); intro v H hA)
  | (((with_reducible refine' r_lstRev hA ?g1 ?_); (case g1 => walk_at "nh")); intro p H hA)
  | ((with_reducible refine' s_tup ?_); skip)
  | ((with_reducible refine' s_lst ?_); skip)
  | (((with_reducible refine' r_tup hA ?g1 ?g2 ?_); (case g1 => walk_at "na"); (case g2 => walk_at "nl")); intro v H hA)
  | (with_reducible refine' r_dnew hA ?_; intro p H hA)
  | (((with_reducible refine' r_fdO hA ?g1 ?g2 ?g3 ?g4 ?_); (case g1 => walk_at "nm"); (case g2 => walk_at "nf"); (case g3 => walk_at "nf"); (case g4 => rfl)); intro v hA)
  | (((with_reducible refine' r_fd hA ?g1 ?g2 ?g3 ?g4 ?_); (case g1 => walk_at "nm"); (case g2 => walk_at "nf"); (case g3 => walk_at "nf"); (case g4 => rfl)); intro v hA)
  | (with_reducible refine' i_dec (fun hc => ?_) (fun hc => ?_))
  | (with_reducible refine' i_ndec (fun hc => ?_) (fun hc => ?_))
  | (with_reducible refine' i_ne (fun hc => ?_) (fun hc => ?_))
  | (with_reducible refine' i_em (fun hc => ?_) (fun hc => ?_)))
section
variable {P : Program} {w : World} {K : PySem.W.Frag} {mg : PySem.Str → Option Value} {base : Heap}
def sp__law_weight (K : PySem.W.Frag) : Sp := fun vs H Q E => ∃ R L1 L2 p pt, vs = [.ref p] ∧ PotOk pt ∧ At R (L1 ++ (p, .lst pt) :: L2) H ∧ ∀ v pt' H', PotOk pt' → 1 ≤ v → v ≤ 1000000000 → At R (L1 ++ (p, .lst pt') :: L2) H' → Q (.int v) H'
theorem r_weight {R : RL} (L1 : LL) {L3 : LL} {H : Hp} {p : Addr} {pt : List D} {Q : VK} {E : XK} (hA : At R (L1 ++ (p, .lst pt) :: L3) H) (hp : PotOk pt)
    (q : ∀ v pt' H', PotOk pt' → 1 ≤ v → v ≤ 1000000000 → At R (L1 ++ (p, .lst pt') :: L3) H' → Q (.int v) H') : sp__law_weight K [.ref p] H Q E := ⟨R, L1, L3, p, pt, rfl, hp, hA, q⟩
set_option hygiene false in
local macro_rules | `(tactic| walk_at "term _law_weight") => `(tactic| refine ⟨_, PSs.nox (pss_cons (ps_set (i := 1) sc__law_weight.nd rfl (Or.inl rfl) (pe_fn (F__law_draw (P := P) (K := K) (mg := mg) B) hr (by decide) passL rfl (pa_cons (pv 0) (pa_cons pe_int pa_nil))))
  (pss_cons (ps_if (pt_cmpR op_lt (pv 1) pe_int (nomark _))
  (pss_one (ps_ret pe_int))
  pss_nil)
  (pss_cons (ps_if (pt_cmpR op_lt (pv 1) pe_int (nomark _))
  (pss_one (ps_ret pe_int))
  pss_nil)
  (pss_cons (ps_if (pt_cmpR op_eq (pv 1) pe_int (nomark _))
  (pss_one (ps_ret (pe_op op_add pe_int (pe_fn (F__law_draw (P := P) (K := K) (mg := mg) B) hr (by decide) passL rfl (pa_cons (pv 0) (pa_cons pe_int pa_nil))))))
  pss_nil)
  (pss_one (ps_ret (pe_op op_add pe_int (pe_fn (F__law_draw (P := P) (K := K) (mg := mg) B) hr (by decide) passL rfl (pa_cons (pv 0) (pa_cons (pe_op op_pow pe_int pe_int) pa_nil)))))))))), ?_⟩)
theorem F__law_weight (B : Bun P K mg) : Fn P w K mg base 3 "_law_weight" ["pot"] (sp__law_weight K) := by
  refine B.d__law_weight.fn (k := 2) sc__law_weight (fun vs H Q E h => ?_) (fun _ _ _ _ _ _ us hl => match us, hl with | [_], _ => rfl) fun f cdv A outer s H vs Q E hr h => ?_
  · obtain ⟨_, _, _, _, _, rfl, _⟩ := h
    rfl
  · obtain ⟨R, L1, L2, p, pt, rfl, hp, hA, q⟩ := h
    walk_at "term _law_weight"
    replace hA := hA.front
    repeat' walk_at "nw"
    refine r_draw [] hA hp (by omega) (by omega) fun way pt H hp h0 h1 hA => ?_
    repeat' walk_at "nw"
    · exact q _ _ _ hp (by omega) (by omega) hA.back
    · exact q _ _ _ hp (by omega) (by omega) hA.back
    · refine r_draw [] hA hp (by omega) (by omega) fun v pt H hp h0 h1 hA => ?_
      repeat' walk_at "nw"
      exact q _ _ _ hp (by omega) (by omega) hA.back
    · refine r_draw [] hA hp (by decide) (by decide) fun v pt H hp h0 h1 hA => ?_
      repeat' walk_at "nw"
      refine q _ _ _ hp (by omega) ?_ hA.back
      have e : (10 : Int) ^ (9 : Int).toNat = 1000000000 := by decide
      rw [e] at h1
      omega
/-! ### rows -/
def RowOk (n : Nat) (ns : List Int) : Prop := ns.length = n ∧ ∀ x ∈ ns, 0 ≤ x ∧ x ≤ 1000000000
def sp__law_row (K : PySem.W.Frag) : Sp := fun vs H Q E => ∃ R L p pt many count, vs = [.ref p, .int many, .int count] ∧ PotOk pt ∧ 0 ≤ many ∧ many ≤ 60 ∧ 0 ≤ count ∧ count ≤ 60 ∧ At R ((p, .lst pt) :: L) H ∧
  ∀ v ns pt' H', PotOk pt' → RowOk many.toNat ns → At ((D.lst (ns.map D.int), v) :: R) ((p, .lst pt') :: L) H' → Q v H'
theorem r_row {R : RL} {L : LL} {H : Hp} {p : Addr} {pt : List D} {many count : Int} {Q : VK} {E : XK} (hA : At R ((p, .lst pt) :: L) H) (hp : PotOk pt) (h0 : 0 ≤ many) (h1 : many ≤ 60) (h2 : 0 ≤ count) (h3 : count ≤ 60)
    (q : ∀ v ns pt' H', PotOk pt' → RowOk many.toNat ns → At ((D.lst (ns.map D.int), v) :: R) ((p, .lst pt') :: L) H' → Q v H') : sp__law_row K [.ref p, .int many, .int count] H Q E := ⟨R, L, p, pt, many, count, rfl, hp, h0, h1, h2, h3, hA, q⟩
theorem map_set_int (ns : List Int) (k : Nat) (v : Int) : (ns.map D.int).set k (D.int v) = (ns.set k v).map D.int := by rw [List.map_set]
set_option hygiene false in
local macro_rules | `(tactic| walk_at "term _law_row") => `(tactic| refine ⟨_, PSs.nox (pss_cons (ps_set (i := 3) sc__law_row.nd rfl (Or.inl rfl) (pe_op op_rep (pe_lst (pa_cons pe_int pa_nil)) (pv 1)))
  (pss_cons (ps_if (pt_cmpR op_gt (pv 1) pe_int (nomark _))
  (pss_one (ps_for PassesOwn.never rfl (pi_range1 rfl B.T.range (pa_cons (pv 2) pa_nil)) (pg_name (i := 4) sc__law_row.nd rfl (Or.inl rfl))
  (pss_cons (ps_set (i := 5) sc__law_row.nd rfl (Or.inl rfl) (pe_fn (F__law_draw (P := P) (K := K) (mg := mg) B) hr (by decide) passL rfl (pa_cons (pv 0) (pa_cons (pv 1) pa_nil))))
  (pss_one (ps_asg (pe_fn (F__law_weight (P := P) (K := K) (mg := mg) B) hr (by decide) passL rfl (pa_cons (pv 0) pa_nil)) (pg_sub (pv 3) (pv 5) set_list))))))
  pss_nil)
  (pss_one (ps_ret (pv 3))))), ?_⟩)
theorem F__law_row (B : Bun P K mg) : Fn P w K mg base 4 "_law_row" ["pot", "many", "count"] (sp__law_row K) := by
  refine B.d__law_row.fn (k := 3) sc__law_row (fun vs H Q E h => ?_) (fun _ _ _ _ _ _ us hl => match us, hl with | [_, _, _], _ => rfl) fun f cdv A outer s H vs Q E hr h => ?_
  · obtain ⟨_, _, _, _, _, _, rfl, _⟩ := h
    rfl
  · obtain ⟨R, L, p, pt, many, count, rfl, hp, h0, h1, h2, h3, hA, q⟩ := h
    walk_at "term _law_row"
    repeat' walk_at "nw"
    refine r_lst hA (.cons .sc .nil) (by show 1 ≤ 1000000; omega) fun p1 H hA => ?_
    repeat' walk_at "nw"
    refine r_rep hA (.head _) (by omega) (by omega) (by show 1 * many.toNat ≤ 1000000; omega) fun p2 H hA => ?_
    replace hA := hA.swap.forget
    have e0 : (List.replicate many.toNat [D.sc (V.int 0)]).flatten = (List.replicate many.toNat (0 : Int)).map D.int := by
      induction many.toNat with
      | zero => rfl
      | succ n ih => rw [List.replicate_succ, List.flatten_cons, ih, List.replicate_succ] <;> rfl
    rw [e0] at hA
    have r0 : RowOk many.toNat (List.replicate many.toNat (0 : Int)) := ⟨by simp, fun x hx => by rw [List.eq_of_mem_replicate hx]; omega⟩
    repeat' walk_at "nw"
    · refine s_for (s_iRng1 (s_cons (s_var rfl (s_nil (src_rng (by omega) (by omega) fun W => for_D W hA (fun i σ L' => (∃ c d, σ = [some (.ref p), some (.int many), some (.int count), some (.ref p2), c, d]) ∧ ∃ ns pt, PotOk pt ∧ RowOk many.toNat ns ∧ L' = (p2, .lst (ns.map D.int)) :: (p, .lst pt) :: L) ?_ ?_ ?_ ?_)))))
      · exact ⟨⟨none, none, rfl⟩, _, _, hp, r0, rfl⟩
      · exact fun _ _ _ _ => True.intro
      · rintro i d v σ L1 H hd ⟨⟨c, d', rfl⟩, ns, pt, hp, hr, rfl⟩ hA
        repeat' walk_at "nw"
        refine r_draw [_] hA hp (by omega) (by omega) fun at_ pt H hp a0 a1 hA => ?_
        repeat' walk_at "nw"
        refine r_weight [_] hA hp fun v pt H hp v0 v1 hA => ?_
        repeat' walk_at "nw"
        refine w_setL [] (o := .non) hA .sc a0 (by rw [List.length_map, hr.1]; omega) fun H hA => ?_
        rw [map_set_int] at hA
        refine ⟨_, ⟨⟨_, _, rfl⟩, _, _, hp, ⟨by rw [List.length_set]; exact hr.1, fun x hx => ?_⟩, rfl⟩, hA.drop⟩
        rcases List.mem_or_eq_of_mem_set hx with hx | rfl
        · exact hr.2 x hx
        · omega
      · rintro σ L1 H ⟨⟨c, d', rfl⟩, ns, pt, hp, hr, rfl⟩ hA
        repeat' walk_at "nw"
        exact q _ _ _ _ hp hr hA.frzLst
    · exact q _ _ _ _ hp r0 hA.frzLst
end
end K26
set_option maxRecDepth 100000
set_option maxHeartbeats 4000000
namespace K26
open PySem PySem.Spec PyProof.Rows L2 Nw
set_option hygiene false in
local macro_rules | `(tactic| walk_at "nf") => `(tactic| first | exact B.n_cls | exact B.n_places | exact B.n_transitions | exact B.n_start | exact B.n_index | exact B.n_takes | exact B.n_gives | exact B.n_takers | exact B.n_givers | exact B.n_labels)
local macro_rules | `(tactic| walk_at "nm") => `(tactic| first | exact .head _ | exact .tail _ (.head _) | exact .tail _ (.tail _ (.head _)) | exact .tail _ (.tail _ (.tail _ (.head _))) | exact .tail _ (.tail _ (.tail _ (.tail _ (.head _)))) | exact .tail _ (.tail _ (.tail _ (.tail _ (.tail _ (.head _))))) | exact .tail _ (.tail _ (.tail _ (.tail _ (.tail _ (.tail _ (.head _)))))) | exact List.mem_append_right _ (.head _) | exact List.mem_append_right _ (.tail _ (.head _)) | exact .tail _ (List.mem_append_right _ (.head _)) | exact .tail _ (.tail _ (List.mem_append_right _ (.head _))) | exact .tail _ (.tail _ (.tail _ (List.mem_append_right _ (.head _)))) | (repeat (first | assumption | refine List.mem_cons_of_mem _ ?_)))
set_option hygiene false in
local macro_rules | `(tactic| walk_at "dr") => `(tactic| repeat (first | exact hA | apply At.drop))
local macro_rules | `(tactic| walk_at "mm") => `(tactic| repeat (first | assumption | exact List.mem_cons_self | refine List.mem_cons_of_mem _ ?_))
local macro_rules | `(tactic| walk_at "nb") => `(tactic| first | exact isT_int_int | exact isT_int_bool | exact isT_int_str | exact isT_int_list | exact isT_int_tuple | exact isT_bool_int | exact isT_bool_bool | exact isT_bool_str | exact isT_bool_list | exact isT_bool_tuple | exact isT_str_int | exact isT_str_bool | exact isT_str_str | exact isT_str_list | exact isT_str_tuple | exact isT_NoneType_int | exact isT_NoneType_bool | exact isT_NoneType_str | exact isT_NoneType_list | exact isT_NoneType_tuple | exact isT_list_int | exact isT_list_bool | exact isT_list_str | exact isT_list_list | exact isT_list_tuple | exact isT_tuple_int | exact isT_tuple_bool | exact isT_tuple_str | exact isT_tuple_list | exact isT_tuple_tuple | decide +kernel)
local macro_rules | `(tactic| walk_at "ni") => `(tactic| first | exact InR.mem (by walk_at "nm") | exact InR.sc | assumption)
local macro_rules | `(tactic| walk_at "nc") => `(tactic| first | omega | decide | (unfold CMul; omega) | (unfold CDiv; omega) | (unfold CPow; omega) | (unfold CPow; decide))
local macro_rules | `(tactic| walk_at "nl") => `(tactic| first | omega | decide | (simp only [List.length_cons, List.length_nil, List.length_append, List.length_map, List.length_set]; omega) | (simp; omega))
local macro_rules | `(tactic| walk_at "nh") => `(tactic| first | exact HasL.r (by walk_at "nm") | exact HasL.o (by walk_at "nm") | assumption)
local macro_rules | `(tactic| walk_at "na") => `(tactic| first | exact AllR.nil | (refine AllR.cons (by walk_at "ni") ?_; walk_at "na"))
local macro_rules | `(tactic| walk_at "nt") => `(tactic| first | exact HasTy.int _ | exact HasTy.str _ | exact HasTy.bl _ | exact HasTy.non | exact HasTy.lst (by walk_at "nm") | exact HasTy.tup (by walk_at "nm") | exact HasTy.own (by walk_at "nm"))
set_option hygiene false in
local macro_rules | `(tactic| walk_at "nw") => `(tactic| first
  | (with_reducible refine' s_seq ?_)
  | (with_reducible refine' s_asg ?_)
  | (with_reducible refine' s_name ?_)
  | (with_reducible refine' s_ret ?_)
  | (with_reducible refine' s_drop ?_)
  | (with_reducible refine' s_next ?_)
  | (with_reducible refine' s_op ?_)
  | (with_reducible refine' s_un ?_)
  | (with_reducible refine' s_c ?_)
  | (with_reducible refine' s_cons ?_)
  | (with_reducible refine' s_nil ?_)
  | (with_reducible refine' s_cb ?_)
  | (with_reducible refine' s_call ?_)
  | (with_reducible refine' s_callS ?_)
  | (with_reducible refine' s_test ?_)
  | (with_reducible refine' s_tb ?_)
  | (with_reducible refine' s_bl ?_)
  | (with_reducible refine' s_not ?_)
  | (with_reducible refine' s_if ?_)
  | (with_reducible refine' s_ifE ?_)
  | (with_reducible refine' s_and ?_)
  | (with_reducible refine' s_or ?_)
  | (with_reducible refine' s_andV ?_)
  | (with_reducible refine' s_orV ?_)
  | (with_reducible refine' s_notV ?_)
  | (with_reducible refine' s_sub ?_)
  | (with_reducible refine' s_chain ?_)
  | (with_reducible refine' s_sl ?_)
  | (with_reducible refine' s_noPart ?_)
  | (with_reducible refine' s_part ?_)
  | (with_reducible refine' r_part ?_)
  | (with_reducible refine' s_m1 ?_)
  | (with_reducible refine' s_fldQ ?_)
  | (with_reducible refine' s_setF ?_)
  | (with_reducible refine' s_cvalQ ?_)
  | (with_reducible refine' s_lstRev ?_)
  | (with_reducible refine' s_dgetQ ?_)
  | (with_reducible refine' s_din ?_)
  | (with_reducible refine' s_dnotin ?_)
  | (with_reducible refine' s_dput ?_)
  | (with_reducible refine' s_dget2Q ?_)
  | (with_reducible refine' s_mkX1 ?_)
  | (with_reducible refine' s_make ?_)
  | (with_reducible refine' s_lstRg ?_)
  | (with_reducible refine' s_tru ?_)
  | (with_reducible refine' s_star ?_)
  | (with_reducible refine' s_xf ?_)
  | (with_reducible refine' s_yes ?_)
  | (with_reducible refine' r_I0 ?_)
  | (with_reducible refine' r_U ?_)
  | (with_reducible refine' r_eqI ?_)
  | (with_reducible refine' r_neI ?_)
  | (with_reducible refine' r_eqS ?_)
  | (with_reducible refine' r_neS ?_)
  | (with_reducible refine' n_isR ?_)
  | (with_reducible refine' n_isN ?_)
  | (with_reducible refine' n_isI ?_)
  | (with_reducible refine' n_isS ?_)
  | (with_reducible refine' n_isB ?_)
  | (with_reducible refine' n_ntR ?_)
  | (with_reducible refine' n_ntN ?_)
  | (with_reducible refine' n_ntI ?_)
  | (with_reducible refine' n_ntS ?_)
  | (with_reducible refine' n_ntB ?_)
  | (with_reducible refine' i_t ?_)
  | (with_reducible refine' i_f ?_)
  | (with_reducible refine' i_nt ?_)
  | (with_reducible refine' i_nf ?_)
  | ((with_reducible refine' s_var ?g1 ?_); (case g1 => rfl))
  | ((with_reducible refine' r_I ?g1 ?_); (case g1 => walk_at "nc"))
  | ((with_reducible refine' w_int ?_))
  | ((with_reducible refine' w_abs ?_))
  | ((with_reducible refine' r_max2 ?_))
  | ((with_reducible refine' r_lenS ?g1 ?_); (case g1 => walk_at "nl"))
  | ((with_reducible refine' r_addS ?g1 ?_); (case g1 => walk_at "nl"))
  | ((with_reducible refine' r_slS ?g1 ?_); (case g1 => walk_at "nl"))
  | ((with_reducible refine' r_inS ?_))
  | ((with_reducible refine' r_ixOs hA ?g1 ?g2 ?g3 ?_); (case g1 => walk_at "nm"); (case g2 => walk_at "nc"); (case g3 => rfl))
  | ((with_reducible refine' r_ixLs hA ?g1 ?g2 ?g3 ?_); (case g1 => walk_at "nm"); (case g2 => walk_at "nc"); (case g3 => rfl))
  | ((with_reducible refine' r_ixTs hA ?g1 ?g2 ?g3 ?_); (case g1 => walk_at "nm"); (case g2 => walk_at "nc"); (case g3 => rfl))
  | (((with_reducible refine' r_ixO hA ?g1 ?g2 ?g3 ?_); (case g1 => walk_at "nm"); (case g2 => walk_at "nc"); (case g3 => rfl)); intro v hA)
  | (((with_reducible refine' r_ixL hA ?g1 ?g2 ?g3 ?_); (case g1 => walk_at "nm"); (case g2 => walk_at "nc"); (case g3 => rfl)); intro v hA)
  | (((with_reducible refine' r_ixT hA ?g1 ?g2 ?g3 ?_); (case g1 => walk_at "nm"); (case g2 => walk_at "nc"); (case g3 => rfl)); intro v hA)
  | ((with_reducible refine' r_lenO hA ?g1 ?_); (case g1 => walk_at "nm"))
  | ((with_reducible refine' r_lenL hA ?g1 ?_); (case g1 => walk_at "nm"))
  | ((with_reducible refine' r_lenT hA ?g1 ?_); (case g1 => walk_at "nm"))
  | ((with_reducible refine' r_lenD hA ?g1 ?_); (case g1 => walk_at "nm"))
  | ((with_reducible refine' r_tqT hA ?g1 ?_); (case g1 => walk_at "nm"))
  | (((with_reducible refine' w_setL [] (o := .non) hA ?g1 ?g2 ?g3 ?_); (case g1 => walk_at "ni"); (case g2 => walk_at "nc"); (case g3 => walk_at "nl")); (try clear hA); intro H hA; dsimp only [List.set, Int.toNat, List.cons_append, List.nil_append] at hA)
  | (((with_reducible refine' w_setL [_] (o := .non) hA ?g1 ?g2 ?g3 ?_); (case g1 => walk_at "ni"); (case g2 => walk_at "nc"); (case g3 => walk_at "nl")); (try clear hA); intro H hA; dsimp only [List.set, Int.toNat, List.cons_append, List.nil_append] at hA)
  | (((with_reducible refine' w_setL [_, _] (o := .non) hA ?g1 ?g2 ?g3 ?_); (case g1 => walk_at "ni"); (case g2 => walk_at "nc"); (case g3 => walk_at "nl")); (try clear hA); intro H hA; dsimp only [List.set, Int.toNat, List.cons_append, List.nil_append] at hA)
  | (((with_reducible refine' w_setL [_, _, _] (o := .non) hA ?g1 ?g2 ?g3 ?_); (case g1 => walk_at "ni"); (case g2 => walk_at "nc"); (case g3 => walk_at "nl")); (try clear hA); intro H hA; dsimp only [List.set, Int.toNat, List.cons_append, List.nil_append] at hA)
  | ((with_reducible refine' s_bm ?_); skip)
  | (((with_reducible refine' w_append [] hA ?g1 ?g2 ?_); (case g1 => walk_at "ni"); (case g2 => walk_at "nl")); (try clear hA); intro H hA; dsimp only [List.set, Int.toNat, List.cons_append, List.nil_append] at hA)
  | (((with_reducible refine' w_append [_] hA ?g1 ?g2 ?_); (case g1 => walk_at "ni"); (case g2 => walk_at "nl")); (try clear hA); intro H hA; dsimp only [List.set, Int.toNat, List.cons_append, List.nil_append] at hA)
  | (((with_reducible refine' w_append [_, _] hA ?g1 ?g2 ?_); (case g1 => walk_at "ni"); (case g2 => walk_at "nl")); (try clear hA); intro H hA; dsimp only [List.set, Int.toNat, List.cons_append, List.nil_append] at hA)
  | (((with_reducible refine' w_append [_, _, _] hA ?g1 ?g2 ?_); (case g1 => walk_at "ni"); (case g2 => walk_at "nl")); (try clear hA); intro H hA; dsimp only [List.set, Int.toNat, List.cons_append, List.nil_append] at hA)
  | ((with_reducible refine' ⟨ty_lst hA ?g1, ?_⟩); (case g1 => walk_at "nm"))
  | ((with_reducible refine' r_isi hA ?g1 ?g2 ?_); (case g1 => walk_at "nt"); (case g2 => walk_at "nb"))
  | (((with_reducible refine' r_lstRg hA ?g1 ?g2 ?_); (case g1 => walk_at "nc"); (case g2 => walk_at "nc")); intro p H hA)
  | (((with_reducible refine' r_list hA ?g1 ?_); (case g1 => walk_at "nh")); intro p H hA)
  | (((with_reducible refine' r_slL hA ?g1 ?_); (case g1 => walk_at "nh")); intro p H hA)
  | (((with_reducible refine' r_listT hA ?g1 ?_); (case g1 => walk_at "nm")); intro p H hA)
  | (((with_reducible refine' r_listD hA ?g1 ?_); (case g1 => walk_at "nm")); intro p H hA)
  | (((with_reducible refine' r_tuple hA ?g1 ?_); (case g1 => walk_at "nh")); intro v H hA)
  | (((with_reducible refine' r_slT hA ?g1 ?_); (case g1 => walk_at "nm")); intro v H hA)
  | (((with_reducible refine' r_lstRev hA ?g1 ?_); (case g1 => walk_at "nh")); intro p H hA)
  | ((with_reducible refine' s_tup ?_); skip)
  | ((with_reducible refine' s_lst ?_); skip)
  | (((with_reducible refine' r_tup hA ?g1 ?g2 ?_); (case g1 => walk_at "na"); (case g2 => walk_at "nl")); intro v H hA)
  | (with_reducible refine' r_dnew hA ?_; intro p H hA)
  | (((with_reducible refine' r_fdO hA ?g1 ?g2 ?g3 ?g4 ?_); (case g1 => walk_at "nm"); (case g2 => walk_at "nf"); (case g3 => walk_at "nf"); (case g4 => rfl)); intro v hA)
  | (((with_reducible refine' r_fd hA ?g1 ?g2 ?g3 ?g4 ?_); (case g1 => walk_at "nm"); (case g2 => walk_at "nf"); (case g3 => walk_at "nf"); (case g4 => rfl)); intro v hA)
  | (with_reducible refine' i_dec (fun hc => ?_) (fun hc => ?_))
  | (with_reducible refine' i_ndec (fun hc => ?_) (fun hc => ?_))
  | (with_reducible refine' i_ne (fun hc => ?_) (fun hc => ?_))
  | (with_reducible refine' i_em (fun hc => ?_) (fun hc => ?_)))
/-! ### texts cut -/
theorem str_len (z : PySem.Str) : z.length = z.cps.toList.length := by simp [PySem.Str.length]
theorem str_ext {a b : PySem.Str} (h : a.cps.toList = b.cps.toList) : a = b := by
  obtain ⟨a⟩ := a
  obtain ⟨b⟩ := b
  exact congrArg PySem.Str.mk (Array.ext' h)
theorem sIx_in {n d : Nat} {i : Int} (h0 : 0 ≤ i) (h1 : i ≤ n) : HT.sIx n d (some i) = i.toNat := by
  show (if i < 0 then (i + (n : Int)).toNat else min i.toNat n) = i.toNat
  rw [if_neg (by omega)]
  omega
theorem cut_pre {z : PySem.Str} {i : Int} (h0 : 0 ≤ i) (h1 : i ≤ z.length) : (cutS z none (some i)).cps.toList = z.cps.toList.take i.toNat := by
  show ((z.cps.toList.drop (HT.sIx z.length 0 none)).take (HT.sIx z.length z.length (some i) - HT.sIx z.length 0 none)) = _
  rw [sIx_in h0 h1]
  have e : HT.sIx z.length 0 none = 0 := rfl
  rw [e]
  simp
theorem cut_suf {z : PySem.Str} {i : Int} (h0 : 0 ≤ i) (h1 : i ≤ z.length) : (cutS z (some i) none).cps.toList = z.cps.toList.drop i.toNat := by
  show ((z.cps.toList.drop (HT.sIx z.length 0 (some i))).take (HT.sIx z.length z.length none - HT.sIx z.length 0 (some i))) = _
  rw [sIx_in h0 h1]
  have e : HT.sIx z.length z.length none = z.length := rfl
  rw [e, List.take_of_length_le]
  rw [List.length_drop, str_len]
  exact Nat.le_refl _
theorem len_app (a b : PySem.Str) : (a ++ b).length = a.length + b.length := by rw [str_len, app_cps, List.length_append, ← str_len, ← str_len]
theorem len_one (c : Nat) : (⟨#[c]⟩ : PySem.Str).length = 1 := rfl
theorem cut_len (z : PySem.Str) (lo hi : Option Int) : (cutS z lo hi).length ≤ z.length := by
  have e : (cutS z lo hi).cps.toList = ((z.cps.toList.drop (HT.sIx z.length 0 lo)).take (HT.sIx z.length z.length hi - HT.sIx z.length 0 lo)) := rfl
  rw [str_len, e, str_len, List.length_take, List.length_drop]
  omega
/-! ### names -/
def NameOk (z : PySem.Str) : Prop := WordOk 23 z
theorem WordOk.mono {m n : Nat} {z : PySem.Str} (h : WordOk m z) (k : m ≤ n) : WordOk n z := by
  obtain ⟨c, r, e, h1, h2, h3⟩ := h
  exact ⟨c, r, e, h1, h2, by omega⟩
theorem WordOk.len {n : Nat} {z : PySem.Str} (h : WordOk n z) : 1 ≤ z.length ∧ z.length ≤ n + 1 := by
  obtain ⟨c, r, e, _, _, h3⟩ := h
  rw [str_len, e, List.length_cons]
  omega
theorem sg_inj {i j c : Nat} (hi : SG.cps.toList[i]? = some c) (hj : SG.cps.toList[j]? = some c) : i = j := by
  have nd : ∀ a b : Fin 37, SG.cps.toList[a.val]? = SG.cps.toList[b.val]? → a = b := by decide +kernel
  have hl : SG.cps.toList.length = 37 := by decide +kernel
  obtain ⟨h1, e1⟩ := List.getElem?_eq_some_iff.mp hi
  obtain ⟨h2, e2⟩ := List.getElem?_eq_some_iff.mp hj
  exact congrArg Fin.val (nd ⟨i, by omega⟩ ⟨j, by omega⟩ (hi.trans hj.symm))
theorem lt_sg {c : Nat} (h : c ∈ LT.cps.toList) : c ∈ SG.cps.toList := by
  have k : ∀ c ∈ LT.cps.toList, c ∈ SG.cps.toList := by decide +kernel
  exact k c h
/-- the k-th name of the first way -/
theorem mid_name {stem z a b s t : PySem.Str} {at_ : Int} (hs : WordOk 21 stem) (h1 : 1 ≤ at_) (h2 : at_ ≤ stem.length) {c d : Nat} (hc : c ∈ SG.cps.toList) (hd : d ∈ SG.cps.toList) :
    NameOk (cutS stem none (some at_) ++ ⟨#[c]⟩ ++ ⟨#[d]⟩ ++ cutS stem (some at_) none) ∧ (cutS stem none (some at_) ++ ⟨#[c]⟩ ++ ⟨#[d]⟩ ++ cutS stem (some at_) none).cps.toList = stem.cps.toList.take at_.toNat ++ c :: d :: stem.cps.toList.drop at_.toNat := by
  have e : (cutS stem none (some at_) ++ ⟨#[c]⟩ ++ ⟨#[d]⟩ ++ cutS stem (some at_) none).cps.toList = stem.cps.toList.take at_.toNat ++ c :: d :: stem.cps.toList.drop at_.toNat := by
    rw [app_cps, app_cps, app_cps, cut_pre (by omega) h2, cut_suf (by omega) h2, one_cps, one_cps]
    simp
  refine ⟨?_, e⟩
  obtain ⟨x, r, ex, hx, hr, hl⟩ := hs
  obtain ⟨k, hk⟩ : ∃ k, at_.toNat = k + 1 := ⟨at_.toNat - 1, by omega⟩
  refine ⟨x, r.take k ++ c :: d :: r.drop k, ?_, hx, fun y hy => ?_, ?_⟩
  · rw [e, ex, hk]
    simp
  · rcases List.mem_append.mp hy with h | h
    · exact hr y (List.mem_of_mem_take h)
    · rcases List.mem_cons.mp h with h | h
      · rw [h]; exact hc
      · rcases List.mem_cons.mp h with h | h
        · rw [h]; exact hd
        · exact hr y (List.mem_of_mem_drop h)
  · simp
    omega
theorem mid_inj {l1 l2 : List Nat} {c d c' d' : Nat} (h : l1 ++ c :: d :: l2 = l1 ++ c' :: d' :: l2) : c = c' ∧ d = d' := by
  have e := List.append_cancel_left h
  injection e with e1 e2
  injection e2 with e2 e3
  exact ⟨e1, e2⟩
/-- z, a number of three digits, twenty strokes -/
def zName (k : Nat) : PySem.Str := ("z" : PySem.Str) ++ (toString ((100 : Int) + (k : Int)) : String) ++ repS ("_" : PySem.Str) 20
theorem zName_cps {k : Nat} (h : k < 121) : (zName k).cps.toList = 122 :: ([48 + (100 + k) / 100, 48 + (100 + k) / 10 % 10, 48 + k % 10] ++ List.replicate 20 95) := by
  have key : ∀ j : Fin 121, (zName j.val).cps.toList = 122 :: ([48 + (100 + j.val) / 100, 48 + (100 + j.val) / 10 % 10, 48 + j.val % 10] ++ List.replicate 20 95) := by decide +kernel
  exact key ⟨k, h⟩
theorem zName_ok {k : Nat} (h : k < 121) : NameOk (zName k) := by
  have key : ∀ j : Fin 121, ∀ x ∈ [48 + (100 + j.val) / 100, 48 + (100 + j.val) / 10 % 10, 48 + j.val % 10] ++ List.replicate 20 95, x ∈ SG.cps.toList := by decide +kernel
  exact ⟨122, _, zName_cps h, by decide +kernel, key ⟨k, h⟩, by simp⟩
theorem zName_inj {j k : Nat} (hj : j < 121) (hk : k < 121) (h : zName j = zName k) : j = k := by
  have e := congrArg (fun z : PySem.Str => z.cps.toList) h
  simp only [zName_cps hj, zName_cps hk] at e
  injection e with _ e
  have e2 := List.append_cancel_right e
  injection e2 with a1 e2
  injection e2 with a2 e2
  injection e2 with a3 _
  omega
theorem zName_len {k : Nat} (h : k < 121) : (zName k).length = 24 := by
  rw [str_len, zName_cps h]
  simp
theorem prime127 {h d : Int} (h0 : 1 ≤ h) (h1 : h ≤ 126) (d0 : 1 ≤ d) (d1 : d ≤ 126) : (d * h) % 127 ≠ 0 := by
  have key : ∀ a b : Fin 126, ((a.val + 1) * (b.val + 1)) % 127 ≠ 0 := by decide +kernel
  have k := key ⟨d.toNat - 1, by omega⟩ ⟨h.toNat - 1, by omega⟩
  intro e
  apply k
  have e1 : ((d.toNat - 1 + 1 : Nat) : Int) = d := by omega
  have e2 : ((h.toNat - 1 + 1 : Nat) : Int) = h := by omega
  have : (((d.toNat - 1 + 1) * (h.toNat - 1 + 1) % 127 : Nat) : Int) = 0 := by
    rw [Int.natCast_emod, Int.natCast_mul, e1, e2]
    exact e
  exact_mod_cast this
theorem code_inj {h t : Int} {i j : Nat} (h0 : 1 ≤ h) (h1 : h ≤ 126) (hi : i < j) (hj : j ≤ 126) (e : ((i : Int) * h + t) % 127 = ((j : Int) * h + t) % 127) : False := by
  have k := prime127 h0 h1 (d := (j : Int) - i) (by omega) (by omega)
  apply k
  rw [Int.sub_mul]
  omega
theorem code_rt {a b : Int} (h0 : 0 ≤ a) (h1 : 0 ≤ b) (e1 : a / 12 = b / 12) (e2 : a % 12 = b % 12) : a = b := by omega
/-- what a made name of the first way is -/
def MidOk (stem : PySem.Str) (at_ hop turn shift : Int) (i : Nat) (z : PySem.Str) : Prop := ∃ c d, SG.cps.toList[(shift + ((i : Int) * hop + turn) % 127 / 12).toNat]? = some c ∧ SG.cps.toList[(shift + ((i : Int) * hop + turn) % 127 % 12).toNat]? = some d ∧
  z.cps.toList = stem.cps.toList.take at_.toNat ++ c :: d :: stem.cps.toList.drop at_.toNat
theorem MidOk.ne {stem : PySem.Str} {at_ hop turn shift : Int} {i j : Nat} {z z' : PySem.Str} (h : MidOk stem at_ hop turn shift i z) (h' : MidOk stem at_ hop turn shift j z') (h0 : 1 ≤ hop) (h1 : hop ≤ 126) (s0 : 0 ≤ shift) (hi : i < j) (hj : j ≤ 126) : z ≠ z' := by
  rintro rfl
  obtain ⟨c, d, e1, e2, e3⟩ := h
  obtain ⟨c', d', f1, f2, f3⟩ := h'
  obtain ⟨rfl, rfl⟩ := mid_inj (e3.symm.trans f3)
  have a := sg_inj e1 f1
  have b := sg_inj e2 f2
  have p := Int.emod_nonneg ((i : Int) * hop + turn) (by decide : (127 : Int) ≠ 0)
  have p' := Int.emod_nonneg ((j : Int) * hop + turn) (by decide : (127 : Int) ≠ 0)
  exact code_inj h0 h1 hi hj (t := turn) (code_rt p p' (by omega) (by omega))
section
variable {P : Program} {w : World} {K : PySem.W.Frag} {mg : PySem.Str → Option Value} {base : Heap}
def sp__law_names (K : PySem.W.Frag) : Sp := fun vs H Q E => ∃ R L p pt many, vs = [.ref p, .int many] ∧ PotOk pt ∧ 0 ≤ many ∧ many ≤ 121 ∧ At R ((p, .lst pt) :: L) H ∧
  ∀ v (zs : List PySem.Str) pt' H', PotOk pt' → zs.length = many.toNat → zs.Nodup → (∀ z ∈ zs, NameOk z) → At ((D.lst (zs.map D.str), v) :: R) ((p, .lst pt') :: L) H' → Q v H'
theorem r_names {R : RL} {L : LL} {H : Hp} {p : Addr} {pt : List D} {many : Int} {Q : VK} {E : XK} (hA : At R ((p, .lst pt) :: L) H) (hp : PotOk pt) (h0 : 0 ≤ many) (h1 : many ≤ 121)
    (q : ∀ v (zs : List PySem.Str) pt' H', PotOk pt' → zs.length = many.toNat → zs.Nodup → (∀ z ∈ zs, NameOk z) → At ((D.lst (zs.map D.str), v) :: R) ((p, .lst pt') :: L) H' → Q v H') : sp__law_names K [.ref p, .int many] H Q E := ⟨R, L, p, pt, many, rfl, hp, h0, h1, hA, q⟩
theorem nodup_snoc {α : Type} {l : List α} {a : α} (h : l.Nodup) (k : ∀ b ∈ l, b ≠ a) : (l ++ [a]).Nodup := by
  rw [List.nodup_append]
  exact ⟨h, by simp, fun b hb c hc => by rw [List.mem_singleton.mp hc]; exact k b hb⟩
set_option hygiene false in
local macro_rules | `(tactic| walk_at "term _law_names") => `(tactic| refine ⟨_, PSs.nox (pss_cons (ps_set (i := 2) sc__law_names.nd rfl (Or.inl rfl) pe_str)
  (pss_cons (ps_set (i := 3) sc__law_names.nd rfl (Or.inl rfl) (pe_lst pa_nil))
  (pss_cons (ps_if (pt_cmpR op_eq (pe_fn (F__law_draw (P := P) (K := K) (mg := mg) B) hr (by decide) passL rfl (pa_cons (pv 0) (pa_cons pe_int pa_nil))) pe_int (nomark _))
  (pss_cons (ps_set (i := 4) sc__law_names.nd rfl (Or.inl rfl) (pe_fn (F__law_word (P := P) (K := K) (mg := mg) B) hr (by decide) passL rfl (pa_cons (pv 0) (pa_cons pe_int pa_nil))))
  (pss_cons (ps_set (i := 5) sc__law_names.nd rfl (Or.inl rfl) (pe_op op_add pe_int (pe_fn (F__law_draw (P := P) (K := K) (mg := mg) B) hr (by decide) passL rfl (pa_cons (pv 0) (pa_cons (pe_callB call_len_str (by rfl) B.T.len (by decide +kernel) (pa_cons (pv 4) pa_nil)) pa_nil)))))
  (pss_cons (ps_set (i := 6) sc__law_names.nd rfl (Or.inl rfl) (pe_op op_add pe_int (pe_fn (F__law_draw (P := P) (K := K) (mg := mg) B) hr (by decide) passL rfl (pa_cons (pv 0) (pa_cons pe_int pa_nil)))))
  (pss_cons (ps_set (i := 7) sc__law_names.nd rfl (Or.inl rfl) (pe_fn (F__law_draw (P := P) (K := K) (mg := mg) B) hr (by decide) passL rfl (pa_cons (pv 0) (pa_cons pe_int pa_nil))))
  (pss_cons (ps_set (i := 8) sc__law_names.nd rfl (Or.inl rfl) (pe_fn (F__law_draw (P := P) (K := K) (mg := mg) B) hr (by decide) passL rfl (pa_cons (pv 0) (pa_cons pe_int pa_nil))))
  (pss_cons (ps_for PassesOwn.never rfl (pi_range1 rfl B.T.range (pa_cons (pv 1) pa_nil)) (pg_name (i := 9) sc__law_names.nd rfl (Or.inl rfl))
  (pss_cons (ps_set (i := 10) sc__law_names.nd rfl (Or.inl rfl) (pe_op op_mod (pe_callTy call_int1 (by rfl) B.T.int (by decide +kernel) (pa_cons (pe_op op_add (pe_op op_mul (pv 9) (pv 6)) (pv 7)) pa_nil)) pe_int))
  (pss_one (ps_expr (pe_bm PySem.F.plainAttrs_list PySem.F.slot_list_append PySem.F.type_list_append mt_append (pv 3) (pa_cons (pe_op op_add_str (pe_op op_add_str (pe_op op_add_str (pe_slice sl_str (pv 4) po_none (po_some (pv 5))) (pe_ix ix_str (pv 2) (pe_op op_add (pv 8) (pe_op op_fdiv (pv 10) pe_int)) (fun _ _ => rfl))) (pe_ix ix_str (pv 2) (pe_op op_add (pv 8) (pe_op op_mod (pe_callTy call_int1 (by rfl) B.T.int (by decide +kernel) (pa_cons (pv 10) pa_nil)) pe_int)) (fun _ _ => rfl))) (pe_slice sl_str (pv 4) (po_some (pv 5)) po_none)) pa_nil))))))
  (pss_one (ps_ret (pv 3)))))))))
  pss_nil)
  (pss_cons (ps_set (i := 11) sc__law_names.nd rfl (Or.inl rfl) (pe_ix (ix_listK K rfl) (pe_lst (pa_cons pe_int (pa_cons pe_int (pa_cons pe_int pa_nil)))) (pe_fn (F__law_draw (P := P) (K := K) (mg := mg) B) hr (by decide) passL rfl (pa_cons (pv 0) (pa_cons pe_int pa_nil))) (fun _ _ => rfl)))
  (pss_cons (ps_for PassesOwn.never rfl (pi_range1 rfl B.T.range (pa_cons (pv 1) pa_nil)) (pg_name (i := 9) sc__law_names.nd rfl (Or.inl rfl))
  (pss_cons (ps_set (i := 12) sc__law_names.nd rfl (Or.inl rfl) (pe_fn (F__law_word (P := P) (K := K) (mg := mg) B) hr (by decide) passL rfl (pa_cons (pv 0) (pa_cons (pv 11) pa_nil))))
  (pss_cons (ps_if (pt_cmpR (op_in_seqK K rfl) (pv 12) (pv 3) rfl)
  (pss_one (ps_set (i := 12) sc__law_names.nd rfl (Or.inl rfl) (pe_op op_add_str (pe_op op_add_str pe_str (pe_callTy call_str_int (by rfl) B.T.str (by decide +kernel) (pa_cons (pe_op op_add pe_int (pv 9)) pa_nil))) (pe_op op_repS pe_str pe_int))))
  pss_nil)
  (pss_one (ps_expr (pe_bm PySem.F.plainAttrs_list PySem.F.slot_list_append PySem.F.type_list_append mt_append (pv 3) (pa_cons (pv 12) pa_nil)))))))
  (pss_one (ps_ret (pv 3)))))))), ?_⟩)
theorem F__law_names (B : Bun P K mg) : Fn P w K mg base 4 "_law_names" ["pot", "many"] (sp__law_names K) := by
  refine B.d__law_names.fn (k := 3) sc__law_names (fun vs H Q E h => ?_) (fun _ _ _ _ _ _ us hl => match us, hl with | [_, _], _ => rfl) fun f cdv A outer s H vs Q E hr h => ?_
  · obtain ⟨_, _, _, _, _, rfl, _⟩ := h
    rfl
  · obtain ⟨R, L, p, pt, many, rfl, hp, hm0, hm1, hA, q⟩ := h
    walk_at "term _law_names"
    repeat' walk_at "nw"
    refine r_lst hA .nil (by decide) fun p2 H hA => ?_
    repeat' walk_at "nw"
    refine r_draw [_] hA hp (by omega) (by omega) fun way pt H hp h0 h1 hA => ?_
    repeat' walk_at "nw"
    · refine r_word hA.swap hp (by omega) (by omega) fun stem pt H hp hs hA => ?_
      repeat' walk_at "nw"
      have hl := hs.len
      refine r_lenS (by omega) ?_
      repeat' walk_at "nw"
      refine r_draw [] hA hp (by omega) (by omega) fun at_ pt H hp a0 a1 hA => ?_
      repeat' walk_at "nw"
      refine r_draw [] hA hp (by omega) (by omega) fun hop pt H hp b0 b1 hA => ?_
      repeat' walk_at "nw"
      refine r_draw [] hA hp (by omega) (by omega) fun turn pt H hp c0 c1 hA => ?_
      repeat' walk_at "nw"
      refine r_draw [] hA hp (by omega) (by omega) fun shift pt H hp d0 d1 hA => ?_
      repeat' walk_at "nw"
      replace hA := hA.swap
      refine s_for (s_iRng1 (s_cons (s_var rfl (s_nil (src_rng (by omega) (by omega) fun W => for_D W hA (fun i σ L' => (∃ c d, σ = [some (.ref p), some (.int many), some (.str SG), some (.ref p2), some (.str stem), some (.int (1 + at_)), some (.int (1 + hop)), some (.int turn), some (.int shift), c, d, none, none]) ∧ ∃ zs : List PySem.Str, zs.length = i ∧ zs.Nodup ∧ (∀ j z, zs[j]? = some z → NameOk z ∧ MidOk stem (1 + at_) (1 + hop) turn shift j z) ∧ L' = (p2, .lst (zs.map D.str)) :: (p, .lst pt) :: L) ?_ ?_ ?_ ?_)))))
      · exact ⟨⟨none, none, rfl⟩, [], rfl, .nil, fun j z h => by simp at h, rfl⟩
      · exact fun _ _ _ _ => True.intro
      · rintro i d v σ L1 H hd ⟨⟨c, d', rfl⟩, zs, hzl, hzn, hz, rfl⟩ hA
        obtain ⟨hi, rfl⟩ := rngD_get hd
        obtain rfl := hA.sc_of
        replace hA := hA.drop
        rw [Int.zero_add]
        have cn : 0 ≤ ((i : Int) * (1 + hop) + turn) % 127 := Int.emod_nonneg _ (by decide)
        have cl : ((i : Int) * (1 + hop) + turn) % 127 < 127 := Int.emod_lt_of_pos _ (by decide)
        repeat' walk_at "nw"
        obtain ⟨c1', hc1, hm1⟩ := sg_at (i := (shift + ((i : Int) * (1 + hop) + turn) % 127 / 12).toNat) (by omega)
        obtain ⟨c2', hc2, hm2⟩ := sg_at (i := (shift + ((i : Int) * (1 + hop) + turn) % 127 % 12).toNat) (by omega)
        have l1 := cut_len stem none (some (1 + at_))
        have l2 := cut_len stem (some (1 + at_)) none
        refine r_ixS (by decide +kernel) (by omega) hc1 ?_
        refine r_addS (by rw [len_one]; omega) ?_
        repeat' walk_at "nw"
        refine r_ixS (by decide +kernel) (by omega) hc2 ?_
        refine r_addS (by rw [len_app, len_one, len_one]; omega) ?_
        repeat' walk_at "nw"
        refine r_addS (by rw [len_app, len_app, len_one, len_one]; omega) ?_
        repeat' walk_at "nw"
        obtain ⟨ok, ec⟩ := mid_name (z := stem) (a := stem) (b := stem) (s := stem) (t := stem) hs (at_ := 1 + at_) (by omega) (by omega) hm1 hm2
        have mo : MidOk stem (1 + at_) (1 + hop) turn shift i (cutS stem none (some (1 + at_)) ++ ⟨#[c1']⟩ ++ ⟨#[c2']⟩ ++ cutS stem (some (1 + at_)) none) := ⟨_, _, hc1, hc2, ec⟩
        refine ⟨_, ⟨⟨_, _, rfl⟩, zs ++ [cutS stem none (some (1 + at_)) ++ ⟨#[c1']⟩ ++ ⟨#[c2']⟩ ++ cutS stem (some (1 + at_)) none], by rw [List.length_append, hzl]; rfl, nodup_snoc hzn fun z' hz' => ?_, fun j z' hj => ?_, by rw [List.map_append]; rfl⟩, hA⟩
        · obtain ⟨j, hj⟩ := List.getElem?_of_mem hz'
          have jl := (List.getElem?_eq_some_iff.mp hj).1
          exact (hz j z' hj).2.ne mo (by omega) (by omega) d0 (by omega) (by omega)
        · rcases Nat.lt_or_ge j zs.length with jl | jl
          · rw [List.getElem?_append_left jl] at hj
            exact hz j z' hj
          · rw [List.getElem?_append_right jl] at hj
            have je : j - zs.length = 0 := by
              have := (List.getElem?_eq_some_iff.mp hj).1
              simp at this
              omega
            rw [je] at hj
            obtain rfl : _ = z' := Option.some.inj hj
            have : j = i := by omega
            subst this
            exact ⟨ok, mo⟩
      · rintro σ L1 H ⟨⟨c, d', rfl⟩, zs, hzl, hzn, hz, rfl⟩ hA
        rw [rngD_len] at hzl
        repeat' walk_at "nw"
        exact q _ zs _ _ hp hzl hzn (fun z hz' => (List.getElem?_of_mem hz').elim fun j hj => (hz j z hj).1) hA.frzLst
    · refine r_lstR hA (ds := [D.int 2, D.int 5, D.int 23]) (.cons .sc (.cons .sc (.cons .sc .nil))) (by decide) fun ws H hA => ?_
      repeat' walk_at "nw"
      refine r_draw [_] hA hp (by omega) (by omega) fun i pt H hp i0 i1 hA => ?_
      obtain ⟨wide, hw, w0, w1⟩ : ∃ wide : Int, [D.int 2, D.int 5, D.int 23][i.toNat]? = some (D.int wide) ∧ 1 ≤ wide ∧ wide ≤ 23 := by
        have : i = 0 ∨ i = 1 ∨ i = 2 := by omega
        rcases this with rfl | rfl | rfl
        · exact ⟨2, rfl, by decide, by decide⟩
        · exact ⟨5, rfl, by decide, by decide⟩
        · exact ⟨23, rfl, by decide, by decide⟩
      refine r_ixLs hA (.head _) i0 hw ?_
      replace hA := hA.drop
      repeat' walk_at "nw"
      refine s_for (s_iRng1 (s_cons (s_var rfl (s_nil (src_rng (by omega) (by omega) fun W => for_D W hA (fun i σ L' => (∃ c d, σ = [some (.ref p), some (.int many), some (.str SG), some (.ref p2), none, none, none, none, none, c, none, some (.int wide), d]) ∧ ∃ (zs : List PySem.Str) (pt : List D), PotOk pt ∧ zs.length = i ∧ zs.Nodup ∧ (∀ z ∈ zs, NameOk z ∧ (z.length ≤ 23 ∨ ∃ j, j < i ∧ z = zName j)) ∧ L' = (p2, .lst (zs.map D.str)) :: (p, .lst pt) :: L) ?_ ?_ ?_ ?_)))))
      · exact ⟨⟨none, none, rfl⟩, [], _, hp, rfl, .nil, fun z h => by simp at h, rfl⟩
      · exact fun _ _ _ _ => True.intro
      · rintro i d v σ L1 H hd ⟨⟨c, d', rfl⟩, zs, pt, hp, hzl, hzn, hz, rfl⟩ hA
        obtain ⟨hi, rfl⟩ := rngD_get hd
        obtain rfl := hA.sc_of
        replace hA := hA.drop
        rw [Int.zero_add]
        repeat' walk_at "nw"
        refine r_word hA.swap hp (by omega) (by omega) fun z pt H hp hs hA => ?_
        replace hA := hA.swap
        repeat' walk_at "nw"
        refine r_in (zs := zs.map V.str) hA (.o (by rw [List.map_map]; exact .head _)) rfl (by simp [flatV]) ?_
        rw [inV_str]
        have hln := hs.len
        repeat' walk_at "nw"
        · refine r_strI ?_ ?_
          · exact Nat.lt_of_lt_of_le ((Nat.log2_lt (by omega)).mpr (show (100 + (i : Int)).natAbs < 2 ^ 8 by omega)) (by decide)
          have k1 : ∀ j : Fin 121, ((Str.ofString "z").length + (Str.ofString (toString ((100 : Int) + (j.val : Int)))).length ≤ 1000000) ∧ ((Str.ofString "z") ++ (Str.ofString (toString ((100 : Int) + (j.val : Int))))).length + (repS (Str.ofString "_") (20 : Int).toNat).length ≤ 1000000 := by decide +kernel
          have hi' : i < 121 := by omega
          refine r_addS (k1 ⟨i, hi'⟩).1 ?_
          repeat' walk_at "nw"
          refine r_repS (by decide) (by decide) (by decide) (by decide) ?_
          refine r_addS (k1 ⟨i, hi'⟩).2 ?_
          repeat' walk_at "nw"
          refine ⟨_, ⟨⟨_, _, rfl⟩, zs ++ [zName i], pt, hp, by rw [List.length_append, hzl]; rfl, nodup_snoc hzn fun z' hz' e => ?_, fun z' hz' => ?_, by rw [List.map_append]; rfl⟩, hA⟩
          · rcases (hz z' hz').2 with h | ⟨j, hj, rfl⟩
            · rw [e, zName_len hi'] at h
              omega
            · have := zName_inj (by omega) hi' e
              omega
          · rcases List.mem_append.mp hz' with h | h
            · refine ⟨(hz z' h).1, (hz z' h).2.imp id fun ⟨j, hj, e⟩ => ⟨j, by omega, e⟩⟩
            · rw [List.mem_singleton.mp h]
              exact ⟨zName_ok hi', Or.inr ⟨i, by omega, rfl⟩⟩
        · refine ⟨_, ⟨⟨_, _, rfl⟩, zs ++ [z], pt, hp, by rw [List.length_append, hzl]; rfl, nodup_snoc hzn fun z' hz' e => hc (e ▸ hz'), fun z' hz' => ?_, by rw [List.map_append]; rfl⟩, hA⟩
          rcases List.mem_append.mp hz' with h | h
          · refine ⟨(hz z' h).1, (hz z' h).2.imp id fun ⟨j, hj, e⟩ => ⟨j, by omega, e⟩⟩
          · rw [List.mem_singleton.mp h]
            exact ⟨hs.mono (by omega), Or.inl (by omega)⟩
      · rintro σ L1 H ⟨⟨c, d', rfl⟩, zs, pt, hp, hzl, hzn, hz, rfl⟩ hA
        rw [rngD_len] at hzl
        repeat' walk_at "nw"
        exact q _ zs _ _ hp hzl hzn (fun z hz' => (hz z hz').1) hA.frzLst
end
end K26
set_option maxRecDepth 100000
set_option maxHeartbeats 4000000
namespace K26
open PySem PySem.Spec PyProof.Rows L2 Nw
set_option hygiene false in
local macro_rules | `(tactic| walk_at "nf") => `(tactic| first | exact B.n_cls | exact B.n_places | exact B.n_transitions | exact B.n_start | exact B.n_index | exact B.n_takes | exact B.n_gives | exact B.n_takers | exact B.n_givers | exact B.n_labels)
local macro_rules | `(tactic| walk_at "nm") => `(tactic| first | exact .head _ | exact .tail _ (.head _) | exact .tail _ (.tail _ (.head _)) | exact .tail _ (.tail _ (.tail _ (.head _))) | exact .tail _ (.tail _ (.tail _ (.tail _ (.head _)))) | exact .tail _ (.tail _ (.tail _ (.tail _ (.tail _ (.head _))))) | exact .tail _ (.tail _ (.tail _ (.tail _ (.tail _ (.tail _ (.head _)))))) | exact List.mem_append_right _ (.head _) | exact List.mem_append_right _ (.tail _ (.head _)) | exact .tail _ (List.mem_append_right _ (.head _)) | exact .tail _ (.tail _ (List.mem_append_right _ (.head _))) | exact .tail _ (.tail _ (.tail _ (List.mem_append_right _ (.head _)))) | (repeat (first | assumption | refine List.mem_cons_of_mem _ ?_)))
set_option hygiene false in
local macro_rules | `(tactic| walk_at "dr") => `(tactic| repeat (first | exact hA | apply At.drop))
local macro_rules | `(tactic| walk_at "mm") => `(tactic| repeat (first | assumption | exact List.mem_cons_self | refine List.mem_cons_of_mem _ ?_))
local macro_rules | `(tactic| walk_at "nb") => `(tactic| first | exact isT_int_int | exact isT_int_bool | exact isT_int_str | exact isT_int_list | exact isT_int_tuple | exact isT_bool_int | exact isT_bool_bool | exact isT_bool_str | exact isT_bool_list | exact isT_bool_tuple | exact isT_str_int | exact isT_str_bool | exact isT_str_str | exact isT_str_list | exact isT_str_tuple | exact isT_NoneType_int | exact isT_NoneType_bool | exact isT_NoneType_str | exact isT_NoneType_list | exact isT_NoneType_tuple | exact isT_list_int | exact isT_list_bool | exact isT_list_str | exact isT_list_list | exact isT_list_tuple | exact isT_tuple_int | exact isT_tuple_bool | exact isT_tuple_str | exact isT_tuple_list | exact isT_tuple_tuple | decide +kernel)
local macro_rules | `(tactic| walk_at "ni") => `(tactic| first | exact InR.mem (by walk_at "nm") | exact InR.sc | assumption)
local macro_rules | `(tactic| walk_at "nc") => `(tactic| first | omega | decide | (unfold CMul; omega) | (unfold CDiv; omega) | (unfold CPow; omega) | (unfold CPow; decide))
local macro_rules | `(tactic| walk_at "nl") => `(tactic| first | omega | decide | (simp only [List.length_cons, List.length_nil, List.length_append, List.length_map, List.length_set]; omega) | (simp; omega))
local macro_rules | `(tactic| walk_at "nh") => `(tactic| first | exact HasL.r (by walk_at "nm") | exact HasL.o (by walk_at "nm") | assumption)
local macro_rules | `(tactic| walk_at "na") => `(tactic| first | exact AllR.nil | (refine AllR.cons (by walk_at "ni") ?_; walk_at "na"))
local macro_rules | `(tactic| walk_at "nt") => `(tactic| first | exact HasTy.int _ | exact HasTy.str _ | exact HasTy.bl _ | exact HasTy.non | exact HasTy.lst (by walk_at "nm") | exact HasTy.tup (by walk_at "nm") | exact HasTy.own (by walk_at "nm"))
set_option hygiene false in
local macro_rules | `(tactic| walk_at "nw") => `(tactic| first
  | (with_reducible refine' s_seq ?_)
  | (with_reducible refine' s_asg ?_)
  | (with_reducible refine' s_name ?_)
  | (with_reducible refine' s_ret ?_)
  | (with_reducible refine' s_drop ?_)
  | (with_reducible refine' s_next ?_)
  | (with_reducible refine' s_op ?_)
  | (with_reducible refine' s_un ?_)
  | (with_reducible refine' s_c ?_)
  | (with_reducible refine' s_cons ?_)
  | (with_reducible refine' s_nil ?_)
  | (with_reducible refine' s_cb ?_)
  | (with_reducible refine' s_call ?_)
  | (with_reducible refine' s_callS ?_)
  | (with_reducible refine' s_test ?_)
  | (with_reducible refine' s_tb ?_)
  | (with_reducible refine' s_bl ?_)
  | (with_reducible refine' s_not ?_)
  | (with_reducible refine' s_if ?_)
  | (with_reducible refine' s_ifE ?_)
  | (with_reducible refine' s_and ?_)
  | (with_reducible refine' s_or ?_)
  | (with_reducible refine' s_andV ?_)
  | (with_reducible refine' s_orV ?_)
  | (with_reducible refine' s_notV ?_)
  | (with_reducible refine' s_sub ?_)
  | (with_reducible refine' s_chain ?_)
  | (with_reducible refine' s_sl ?_)
  | (with_reducible refine' s_noPart ?_)
  | (with_reducible refine' s_part ?_)
  | (with_reducible refine' r_part ?_)
  | (with_reducible refine' s_m1 ?_)
  | (with_reducible refine' s_fldQ ?_)
  | (with_reducible refine' s_setF ?_)
  | (with_reducible refine' s_cvalQ ?_)
  | (with_reducible refine' s_lstRev ?_)
  | (with_reducible refine' s_dgetQ ?_)
  | (with_reducible refine' s_din ?_)
  | (with_reducible refine' s_dnotin ?_)
  | (with_reducible refine' s_dput ?_)
  | (with_reducible refine' s_dget2Q ?_)
  | (with_reducible refine' s_mkX1 ?_)
  | (with_reducible refine' s_make ?_)
  | (with_reducible refine' s_lstRg ?_)
  | (with_reducible refine' s_tru ?_)
  | (with_reducible refine' s_star ?_)
  | (with_reducible refine' s_xf ?_)
  | (with_reducible refine' s_yes ?_)
  | (with_reducible refine' r_I0 ?_)
  | (with_reducible refine' r_U ?_)
  | (with_reducible refine' r_eqI ?_)
  | (with_reducible refine' r_neI ?_)
  | (with_reducible refine' r_eqS ?_)
  | (with_reducible refine' r_neS ?_)
  | (with_reducible refine' n_isR ?_)
  | (with_reducible refine' n_isN ?_)
  | (with_reducible refine' n_isI ?_)
  | (with_reducible refine' n_isS ?_)
  | (with_reducible refine' n_isB ?_)
  | (with_reducible refine' n_ntR ?_)
  | (with_reducible refine' n_ntN ?_)
  | (with_reducible refine' n_ntI ?_)
  | (with_reducible refine' n_ntS ?_)
  | (with_reducible refine' n_ntB ?_)
  | (with_reducible refine' i_t ?_)
  | (with_reducible refine' i_f ?_)
  | (with_reducible refine' i_nt ?_)
  | (with_reducible refine' i_nf ?_)
  | ((with_reducible refine' s_var ?g1 ?_); (case g1 => rfl))
  | ((with_reducible refine' r_I ?g1 ?_); (case g1 => walk_at "nc"))
  | ((with_reducible refine' w_int ?_))
  | ((with_reducible refine' w_abs ?_))
  | ((with_reducible refine' r_max2 ?_))
  | ((with_reducible refine' r_lenS ?g1 ?_); (case g1 => walk_at "nl"))
  | ((with_reducible refine' r_addS ?g1 ?_); (case g1 => walk_at "nl"))
  | ((with_reducible refine' r_slS ?g1 ?_); (case g1 => walk_at "nl"))
  | ((with_reducible refine' r_inS ?_))
  | ((with_reducible refine' r_ixOs hA ?g1 ?g2 ?g3 ?_); (case g1 => walk_at "nm"); (case g2 => walk_at "nc"); (case g3 => rfl))
  | ((with_reducible refine' r_ixLs hA ?g1 ?g2 ?g3 ?_); (case g1 => walk_at "nm"); (case g2 => walk_at "nc"); (case g3 => rfl))
  | ((with_reducible refine' r_ixTs hA ?g1 ?g2 ?g3 ?_); (case g1 => walk_at "nm"); (case g2 => walk_at "nc"); (case g3 => rfl))
  | (((with_reducible refine' r_ixO hA ?g1 ?g2 ?g3 ?_); (case g1 => walk_at "nm"); (case g2 => walk_at "nc"); (case g3 => rfl)); intro v hA)
  | (((with_reducible refine' r_ixL hA ?g1 ?g2 ?g3 ?_); (case g1 => walk_at "nm"); (case g2 => walk_at "nc"); (case g3 => rfl)); intro v hA)
  | (((with_reducible refine' r_ixT hA ?g1 ?g2 ?g3 ?_); (case g1 => walk_at "nm"); (case g2 => walk_at "nc"); (case g3 => rfl)); intro v hA)
  | ((with_reducible refine' r_lenO hA ?g1 ?_); (case g1 => walk_at "nm"))
  | ((with_reducible refine' r_lenL hA ?g1 ?_); (case g1 => walk_at "nm"))
  | ((with_reducible refine' r_lenT hA ?g1 ?_); (case g1 => walk_at "nm"))
  | ((with_reducible refine' r_lenD hA ?g1 ?_); (case g1 => walk_at "nm"))
  | ((with_reducible refine' r_tqT hA ?g1 ?_); (case g1 => walk_at "nm"))
  | (((with_reducible refine' w_setL [] (o := .non) hA ?g1 ?g2 ?g3 ?_); (case g1 => walk_at "ni"); (case g2 => walk_at "nc"); (case g3 => walk_at "nl")); (try clear hA); intro H hA; dsimp only [List.set, Int.toNat, List.cons_append, List.nil_append] at hA)
  | (((with_reducible refine' w_setL [_] (o := .non) hA ?g1 ?g2 ?g3 ?_); (case g1 => walk_at "ni"); (case g2 => walk_at "nc"); (case g3 => walk_at "nl")); (try clear hA); intro H hA; dsimp only [List.set, Int.toNat, List.cons_append, List.nil_append] at hA)
  | (((with_reducible refine' w_setL [_, _] (o := .non) hA ?g1 ?g2 ?g3 ?_); (case g1 => walk_at "ni"); (case g2 => walk_at "nc"); (case g3 => walk_at "nl")); (try clear hA); intro H hA; dsimp only [List.set, Int.toNat, List.cons_append, List.nil_append] at hA)
  | (((with_reducible refine' w_setL [_, _, _] (o := .non) hA ?g1 ?g2 ?g3 ?_); (case g1 => walk_at "ni"); (case g2 => walk_at "nc"); (case g3 => walk_at "nl")); (try clear hA); intro H hA; dsimp only [List.set, Int.toNat, List.cons_append, List.nil_append] at hA)
  | ((with_reducible refine' s_bm ?_); skip)
  | (((with_reducible refine' w_append [] hA ?g1 ?g2 ?_); (case g1 => walk_at "ni"); (case g2 => walk_at "nl")); (try clear hA); intro H hA; dsimp only [List.set, Int.toNat, List.cons_append, List.nil_append] at hA)
  | (((with_reducible refine' w_append [_] hA ?g1 ?g2 ?_); (case g1 => walk_at "ni"); (case g2 => walk_at "nl")); (try clear hA); intro H hA; dsimp only [List.set, Int.toNat, List.cons_append, List.nil_append] at hA)
  | (((with_reducible refine' w_append [_, _] hA ?g1 ?g2 ?_); (case g1 => walk_at "ni"); (case g2 => walk_at "nl")); (try clear hA); intro H hA; dsimp only [List.set, Int.toNat, List.cons_append, List.nil_append] at hA)
  | (((with_reducible refine' w_append [_, _, _] hA ?g1 ?g2 ?_); (case g1 => walk_at "ni"); (case g2 => walk_at "nl")); (try clear hA); intro H hA; dsimp only [List.set, Int.toNat, List.cons_append, List.nil_append] at hA)
  | ((with_reducible refine' ⟨ty_lst hA ?g1, ?_⟩); (case g1 => walk_at "nm"))
  | ((with_reducible refine' r_isi hA ?g1 ?g2 ?_); (case g1 => walk_at "nt"); (case g2 => walk_at "nb"))
  | (((with_reducible refine' r_lstRg hA ?g1 ?g2 ?_); (case g1 => walk_at "nc"); (case g2 => walk_at "nc")); intro p H hA)
  | (((with_reducible refine' r_list hA ?g1 ?_); (case g1 => walk_at "nh")); intro p H hA)
  | (((with_reducible refine' r_slL hA ?g1 ?_); (case g1 => walk_at "nh")); intro p H hA)
  | (((with_reducible refine' r_listT hA ?g1 ?_); (case g1 => walk_at "nm")); intro p H hA)
  | (((with_reducible refine' r_listD hA ?g1 ?_); (case g1 => walk_at "nm")); intro p H hA)
  | (((with_reducible refine' r_tuple hA ?g1 ?_); (case g1 => walk_at "nh")); intro v H hA)
  | (((with_reducible refine' r_slT hA ?g1 ?_); (case g1 => walk_at "nm")); intro v H hA)
  | (((with_reducible refine' r_lstRev hA ?g1 ?_); (case g1 => walk_at "nh")); intro p H hA)
  | ((with_reducible refine' s_tup ?_); skip)
  | ((with_reducible refine' s_lst ?_); skip)
  | (((with_reducible refine' r_tup hA ?g1 ?g2 ?_); (case g1 => walk_at "na"); (case g2 => walk_at "nl")); intro v H hA)
  | (with_reducible refine' r_dnew hA ?_; intro p H hA)
  | (((with_reducible refine' r_fdO hA ?g1 ?g2 ?g3 ?g4 ?_); (case g1 => walk_at "nm"); (case g2 => walk_at "nf"); (case g3 => walk_at "nf"); (case g4 => rfl)); intro v hA)
  | (((with_reducible refine' r_fd hA ?g1 ?g2 ?g3 ?g4 ?_); (case g1 => walk_at "nm"); (case g2 => walk_at "nf"); (case g3 => walk_at "nf"); (case g4 => rfl)); intro v hA)
  | (with_reducible refine' i_dec (fun hc => ?_) (fun hc => ?_))
  | (with_reducible refine' i_ndec (fun hc => ?_) (fun hc => ?_))
  | (with_reducible refine' i_ne (fun hc => ?_) (fun hc => ?_))
  | (with_reducible refine' i_em (fun hc => ?_) (fun hc => ?_)))
/-! ### the world of a script -/
def rowD (ns : List Int) : D := .lst (ns.map D.int)
structure Wd where
  ps : List PySem.Str
  ts : List PySem.Str
  tk : List (List Int)
  gv : List (List Int)
  size : Int
structure Wd.Ok (W : Wd) : Prop where
  pl : W.ps.length ≤ 60
  tl : W.ts.length ≤ 60
  pp : W.ps.Pairwise SLt
  tp : W.ts.Pairwise SLt
  pn : ∀ z ∈ W.ps, NameOk z
  tn : ∀ z ∈ W.ts, NameOk z
  dis : ∀ z ∈ W.ts, z ∉ W.ps
  kl : W.tk.length = W.ts.length
  kr : ∀ r ∈ W.tk, RowOk W.ps.length r
  gl : W.gv.length = W.ts.length
  gr : ∀ r ∈ W.gv, RowOk W.ps.length r
def Wd.D (W : Wd) : D := .lst [.lst (W.ps.map D.str), .lst (W.ts.map D.str), .lst (W.tk.map rowD), .lst (W.gv.map rowD), .int W.size]
theorem cut_take {α : Type} {xs : List α} {n : Nat} (h : n ≤ xs.length) : cut xs none (some (n : Int)) = xs.take n := by
  unfold cut
  rw [sIx_in (by omega) (by omega)]
  have e : HT.sIx xs.length 0 none = 0 := rfl
  rw [e]
  simp
theorem cut_drop {α : Type} {xs : List α} {n : Nat} (h : n ≤ xs.length) : cut xs (some (n : Int)) none = xs.drop n := by
  unfold cut
  rw [sIx_in (by omega) (by omega)]
  have e : HT.sIx xs.length xs.length none = xs.length := rfl
  rw [e, Int.toNat_natCast, List.take_of_length_le]
  rw [List.length_drop]
  exact Nat.le_refl _
section
variable {P : Program} {w : World} {K : PySem.W.Frag} {mg : PySem.Str → Option Value} {base : Heap}
def sp__law_world (K : PySem.W.Frag) : Sp := fun vs H Q E => ∃ R L p pt, vs = [.ref p] ∧ PotOk pt ∧ At R ((p, .lst pt) :: L) H ∧
  ∀ v (W : Wd) pt' H', PotOk pt' → W.Ok → At ((W.D, v) :: R) ((p, .lst pt') :: L) H' → Q v H'
theorem r_world {R : RL} {L : LL} {H : Hp} {p : Addr} {pt : List D} {Q : VK} {E : XK} (hA : At R ((p, .lst pt) :: L) H) (hp : PotOk pt)
    (q : ∀ v (W : Wd) pt' H', PotOk pt' → W.Ok → At ((W.D, v) :: R) ((p, .lst pt') :: L) H' → Q v H') : sp__law_world K [.ref p] H Q E := ⟨R, L, p, pt, rfl, hp, hA, q⟩
set_option hygiene false in
local macro_rules | `(tactic| walk_at "term _law_world") => `(tactic| refine ⟨_, PSs.nox (pss_cons (ps_set (i := 1) sc__law_world.nd rfl (Or.inl rfl) (pe_fn (F__law_draw (P := P) (K := K) (mg := mg) B) hr (by decide) passL rfl (pa_cons (pv 0) (pa_cons pe_int pa_nil))))
  (pss_cons (ps_if (pt_cmpR op_lt (pv 1) pe_int (nomark _))
  (pss_cons (ps_set (i := 2) sc__law_world.nd rfl (Or.inl rfl) (pe_fn (F__law_draw (P := P) (K := K) (mg := mg) B) hr (by decide) passL rfl (pa_cons (pv 0) (pa_cons pe_int pa_nil))))
  (pss_one (ps_set (i := 3) sc__law_world.nd rfl (Or.inl rfl) (pe_fn (F__law_draw (P := P) (K := K) (mg := mg) B) hr (by decide) passL rfl (pa_cons (pv 0) (pa_cons pe_int pa_nil))))))
  (pss_one (ps_if (pt_cmpR op_eq (pv 1) pe_int (nomark _))
  (pss_cons (ps_set (i := 2) sc__law_world.nd rfl (Or.inl rfl) (pe_op op_add pe_int (pe_fn (F__law_draw (P := P) (K := K) (mg := mg) B) hr (by decide) passL rfl (pa_cons (pv 0) (pa_cons pe_int pa_nil)))))
  (pss_one (ps_set (i := 3) sc__law_world.nd rfl (Or.inl rfl) (pe_op op_add pe_int (pe_fn (F__law_draw (P := P) (K := K) (mg := mg) B) hr (by decide) passL rfl (pa_cons (pv 0) (pa_cons pe_int pa_nil)))))))
  (pss_one (ps_if (pt_cmpR op_eq (pv 1) pe_int (nomark _))
  (pss_cons (ps_set (i := 2) sc__law_world.nd rfl (Or.inl rfl) (pe_fn (F__law_draw (P := P) (K := K) (mg := mg) B) hr (by decide) passL rfl (pa_cons (pv 0) (pa_cons pe_int pa_nil))))
  (pss_one (ps_set (i := 3) sc__law_world.nd rfl (Or.inl rfl) (pe_op op_add pe_int (pe_fn (F__law_draw (P := P) (K := K) (mg := mg) B) hr (by decide) passL rfl (pa_cons (pv 0) (pa_cons pe_int pa_nil)))))))
  (pss_cons (ps_set (i := 2) sc__law_world.nd rfl (Or.inl rfl) (pe_op op_add pe_int (pe_fn (F__law_draw (P := P) (K := K) (mg := mg) B) hr (by decide) passL rfl (pa_cons (pv 0) (pa_cons pe_int pa_nil)))))
  (pss_one (ps_set (i := 3) sc__law_world.nd rfl (Or.inl rfl) (pe_op op_add pe_int (pe_fn (F__law_draw (P := P) (K := K) (mg := mg) B) hr (by decide) passL rfl (pa_cons (pv 0) (pa_cons pe_int pa_nil))))))))))))
  (pss_cons (ps_set (i := 4) sc__law_world.nd rfl (Or.inl rfl) (pe_fn (F__law_names (P := P) (K := K) (mg := mg) B) hr (by decide) passL rfl (pa_cons (pv 0) (pa_cons (pe_op op_add (pv 2) (pv 3)) pa_nil))))
  (pss_cons (ps_set (i := 5) sc__law_world.nd rfl (Or.inl rfl) (pe_lst pa_nil))
  (pss_cons (ps_set (i := 6) sc__law_world.nd rfl (Or.inl rfl) (pe_lst pa_nil))
  (pss_cons (ps_for PassesOwn.never rfl (pi_range1 rfl B.T.range (pa_cons (pv 3) pa_nil)) (pg_name (i := 7) sc__law_world.nd rfl (Or.inl rfl))
  (pss_cons (ps_set (i := 8) sc__law_world.nd rfl (Or.inl rfl) (pe_fn (F__law_draw (P := P) (K := K) (mg := mg) B) hr (by decide) passL rfl (pa_cons (pv 0) (pa_cons pe_int pa_nil))))
  (pss_cons (ps_if (PW.pt (pw_and (pt_cmpR op_eq (pv 1) pe_int (nomark _)) (pw_and1 (pt_cmpR op_ge (pv 7) pe_int (nomark _)))))
  (pss_one (ps_set (i := 8) sc__law_world.nd rfl (Or.inl rfl) (pe_callB (call_max2 rfl) (by rfl) B.T.max (by decide +kernel) (pa_cons pe_int (pa_cons (pv 8) pa_nil)))))
  pss_nil)
  (pss_cons (ps_expr (pe_bm PySem.F.plainAttrs_list PySem.F.slot_list_append PySem.F.type_list_append mt_append (pv 5) (pa_cons (pe_fn (F__law_row (P := P) (K := K) (mg := mg) B) hr (by decide) passL rfl (pa_cons (pv 0) (pa_cons (pv 2) (pa_cons (pv 8) pa_nil)))) pa_nil)))
  (pss_one (ps_expr (pe_bm PySem.F.plainAttrs_list PySem.F.slot_list_append PySem.F.type_list_append mt_append (pv 6) (pa_cons (pe_fn (F__law_row (P := P) (K := K) (mg := mg) B) hr (by decide) passL rfl (pa_cons (pv 0) (pa_cons (pv 2) (pa_cons (pe_fn (F__law_draw (P := P) (K := K) (mg := mg) B) hr (by decide) passL rfl (pa_cons (pv 0) (pa_cons pe_int pa_nil))) pa_nil)))) pa_nil))))))))
  (pss_one (ps_ret (pe_lst (pa_cons (pe_callB (cr_sortNK K rfl (hu_le hr (by decide))) (by rfl) B.T.sorted (by decide +kernel) (pa_cons (pe_slice (sl_listK K rfl) (pv 4) po_none (po_some (pv 2))) pa_nil)) (pa_cons (pe_callB (cr_sortNK K rfl (hu_le hr (by decide))) (by rfl) B.T.sorted (by decide +kernel) (pa_cons (pe_slice (sl_listK K rfl) (pv 4) (po_some (pv 2)) po_none) pa_nil)) (pa_cons (pv 5) (pa_cons (pv 6) (pa_cons (pv 1) pa_nil)))))))))))))), ?_⟩)
theorem F__law_world (B : Bun P K mg) : Fn P w K mg base 5 "_law_world" ["pot"] (sp__law_world K) := by
  refine B.d__law_world.fn (k := 4) sc__law_world (fun vs H Q E h => ?_) (fun _ _ _ _ _ _ us hl => match us, hl with | [_], _ => rfl) fun f cdv A outer s H vs Q E hr h => ?_
  · obtain ⟨_, _, _, _, rfl, _⟩ := h
    rfl
  · obtain ⟨R, L, p, pt, rfl, hp, hA, q⟩ := h
    have fin : ∀ {nx : L2.St → Hp → Prop} {R : RL} {L : LL} {H : Hp} {p : Addr} {pt : List D} {size many count : Int}, (∀ σ H, (∃ (many count : Nat) (pt : List D), many ≤ 60 ∧ count ≤ 60 ∧ PotOk pt ∧ σ = [some (.ref p), some (.int size), some (.int many), some (.int count), none, none, none, none, none] ∧ At R ((p, .lst pt) :: L) H) → nx σ H) → 0 ≤ many → many ≤ 60 → 0 ≤ count → count ≤ 60 → PotOk pt → At R ((p, .lst pt) :: L) H → nx [some (.ref p), some (.int size), some (.int many), some (.int count), none, none, none, none, none] H := by
      intro nx R L H p pt size many count h m0 m1 c0 c1 hp hA
      obtain ⟨m, rfl⟩ := Int.eq_ofNat_of_zero_le m0
      obtain ⟨c, rfl⟩ := Int.eq_ofNat_of_zero_le c0
      exact h _ _ ⟨m, c, _, by omega, by omega, hp, rfl, hA⟩
    walk_at "term _law_world"
    repeat' walk_at "nw"
    refine r_draw [] hA hp (by omega) (by omega) fun size pt H hp s0 s1 hA => ?_
    walk_at "nw"
    dsimp only
    refine s_cut (fun σ H => ∃ (many count : Nat) (pt : List D), many ≤ 60 ∧ count ≤ 60 ∧ PotOk pt ∧ σ = [some (.ref p), some (.int size), some (.int many), some (.int count), none, none, none, none, none] ∧ At R ((p, .lst pt) :: L) H) ?_ fun nx hnx => ?_
    · rintro σ H ⟨many, count, pt, hm, hc, hp, rfl, hA⟩
      repeat' walk_at "nw"
      refine r_names hA hp (by omega) (by omega) fun ns zs pt H hp zl zn zo hA => ?_
      repeat' walk_at "nw"
      refine r_lst hA .nil (by decide) fun tk H hA => ?_
      repeat' walk_at "nw"
      refine r_lst hA .nil (by decide) fun gv H hA => ?_
      repeat' walk_at "nw"
      refine s_for (s_iRng1 (s_cons (s_var rfl (s_nil (src_rng (by omega) (by omega) fun W => for_D W hA (fun i σ L' => (∃ c d, σ = [some (.ref p), some (.int size), some (.int many), some (.int count), some ns, some (.ref tk), some (.ref gv), c, d]) ∧ ∃ (rs us : List (List Int)) (pt : List D), PotOk pt ∧ rs.length = i ∧ us.length = i ∧ (∀ r ∈ rs, RowOk many r) ∧ (∀ r ∈ us, RowOk many r) ∧ L' = (gv, .lst (us.map rowD)) :: (tk, .lst (rs.map rowD)) :: (p, .lst pt) :: L) ?_ ?_ ?_ ?_)))))
      · exact ⟨⟨none, none, rfl⟩, [], [], _, hp, rfl, rfl, fun r h => by simp at h, fun r h => by simp at h, rfl⟩
      · exact fun _ _ _ _ => True.intro
      · rintro i d v σ L1 H hd ⟨⟨c, d', rfl⟩, rs, us, pt, hp, rl, ul, ro, uo, rfl⟩ hA
        obtain ⟨hi, rfl⟩ := rngD_get hd
        obtain rfl := hA.sc_of
        replace hA := hA.drop
        repeat' walk_at "nw"
        refine r_draw [_, _] hA hp (by omega) (by omega) fun ins pt H hp i0 i1 hA => ?_
        walk_at "nw"
        dsimp only
        refine s_cut (fun σ H => ∃ ins : Int, 0 ≤ ins ∧ ins ≤ 3 ∧ σ = [some (.ref p), some (.int size), some (.int many), some (.int count), some ns, some (.ref tk), some (.ref gv), some (.int (0 + (i : Int))), some (.int ins)] ∧ At ((D.lst (zs.map D.str), ns) :: R) ((p, .lst pt) :: (gv, .lst (us.map rowD)) :: (tk, .lst (rs.map rowD)) :: L) H) ?_ fun nx hnx => ?_
        · rintro σ H ⟨ins, i0, i1, rfl, hA⟩
          repeat' walk_at "nw"
          refine r_row hA hp (by omega) (by omega) (by omega) (by omega) fun row ns1 pt H hp hr hA => ?_
          repeat' walk_at "nw"
          replace hA := hA.drop
          repeat' walk_at "nw"
          refine r_draw [] hA hp (by omega) (by omega) fun outs pt H hp o0 o1 hA => ?_
          repeat' walk_at "nw"
          refine r_row hA hp (by omega) (by omega) (by omega) (by omega) fun row2 ns2 pt H hp hr2 hA => ?_
          repeat' walk_at "nw"
          replace hA := hA.drop
          repeat' walk_at "nw"
          refine ⟨_, ⟨⟨_, _, rfl⟩, rs ++ [ns1], us ++ [ns2], _, hp, by rw [List.length_append, rl]; rfl, by rw [List.length_append, ul]; rfl, fun r hr' => ?_, fun r hr' => ?_, rfl⟩, ?_⟩
          · rcases List.mem_append.mp hr' with h | h
            · exact ro r h
            · rw [List.mem_singleton.mp h]; exact hr
          · rcases List.mem_append.mp hr' with h | h
            · exact uo r h
            · rw [List.mem_singleton.mp h]; exact hr2
          · rw [List.map_append, List.map_append]
            exact At.back (L1 := [_, _]) hA
        · repeat' walk_at "nw"
          all_goals refine hnx _ _ ⟨_, ?_, ?_, rfl, At.front (L1 := [_, _]) hA⟩
          all_goals (first | omega | (split <;> omega))
      · rintro σ L1 H ⟨⟨c, d', rfl⟩, rs, us, pt, hp, rl, ul, ro, uo, rfl⟩ hA
        rw [rngD_len] at rl ul
        repeat' walk_at "nw"
        rw [cut_take (by rw [List.length_map]; omega), ← List.map_take] at hA
        refine r_sortS hA (.o (.head _)) fun p1 H hA => ?_
        have hA := hA.frzLst.forget
        have nd1 : (zs.take many).Nodup := List.Sublist.nodup (List.take_sublist _ _) zn
        have nd2 : (zs.drop many).Nodup := List.Sublist.nodup (List.drop_sublist _ _) zn
        rw [sortD_str nd1] at hA
        repeat' walk_at "nw"
        rw [cut_drop (by rw [List.length_map]; omega), ← List.map_drop] at hA
        refine r_sortS hA (.o (.head _)) fun p2 H hA => ?_
        have hA := hA.frzLst.forget
        rw [sortD_str nd2] at hA
        have hA := hA.frzLst.frzLst
        repeat' walk_at "nw"
        refine r_lstR hA (.cons (.mem (.tail _ (.tail _ (.tail _ (.head _))))) (.cons (.mem (.tail _ (.tail _ (.head _)))) (.cons (.mem (.head _)) (.cons (.mem (.tail _ (.head _))) (.cons .sc .nil))))) (by show 5 ≤ 1000000; omega) fun v H hA => ?_
        have l1 : (zs.take many).length = many := by rw [List.length_take]; omega
        have l2 : (zs.drop many).length = count := by rw [List.length_drop]; omega
        refine q v ⟨sortS (zs.take many), sortS (zs.drop many), rs, us, size⟩ _ _ hp ?_ (hA.sub fun x m => ?_)
        · exact {
            pl := by show (sortS _).length ≤ 60; rw [(sortS_perm _).length_eq, l1]; exact hm
            tl := by show (sortS _).length ≤ 60; rw [(sortS_perm _).length_eq, l2]; exact hc
            pp := sortS_pw nd1
            tp := sortS_pw nd2
            pn := fun z hz => zo z (List.mem_of_mem_take (sortS_mem.mp hz))
            tn := fun z hz => zo z (List.mem_of_mem_drop (sortS_mem.mp hz))
            dis := fun z hz hz' => by
              have h1 := sortS_mem.mp hz
              have h2 := sortS_mem.mp hz'
              have e : zs.take many ++ zs.drop many = zs := List.take_append_drop _ _
              rw [← e] at zn
              exact (List.nodup_append.mp zn).2.2 z h2 z h1 rfl
            kl := by show rs.length = (sortS _).length; rw [(sortS_perm _).length_eq, l2, rl]; rfl
            gl := by show us.length = (sortS _).length; rw [(sortS_perm _).length_eq, l2, ul]; rfl
            kr := fun r hr => by show RowOk (sortS _).length r; rw [(sortS_perm _).length_eq, l1]; exact ro r hr
            gr := fun r hr => by show RowOk (sortS _).length r; rw [(sortS_perm _).length_eq, l1]; exact uo r hr }
        · rcases List.mem_cons.mp m with rfl | m
          · exact .head _
          · exact .tail _ (.tail _ (.tail _ (.tail _ (.tail _ (.tail _ m)))))
    · repeat' walk_at "nw"
      · refine r_draw [] hA hp (by omega) (by omega) fun many pt H hp m0 m1 hA => ?_
        repeat' walk_at "nw"
        refine r_draw [] hA hp (by omega) (by omega) fun count pt H hp c0 c1 hA => ?_
        repeat' walk_at "nw"
        exact fin hnx m0 (by omega) c0 (by omega) hp hA
      · refine r_draw [] hA hp (by omega) (by omega) fun many pt H hp m0 m1 hA => ?_
        repeat' walk_at "nw"
        refine r_draw [] hA hp (by omega) (by omega) fun count pt H hp c0 c1 hA => ?_
        repeat' walk_at "nw"
        exact fin hnx (by omega) (by omega) (by omega) (by omega) hp hA
      · refine r_draw [] hA hp (by omega) (by omega) fun many pt H hp m0 m1 hA => ?_
        repeat' walk_at "nw"
        refine r_draw [] hA hp (by omega) (by omega) fun count pt H hp c0 c1 hA => ?_
        repeat' walk_at "nw"
        exact fin hnx (by omega) (by omega) (by omega) (by omega) hp hA
      · refine r_draw [] hA hp (by omega) (by omega) fun many pt H hp m0 m1 hA => ?_
        repeat' walk_at "nw"
        refine r_draw [] hA hp (by omega) (by omega) fun count pt H hp c0 c1 hA => ?_
        repeat' walk_at "nw"
        exact fin hnx (by omega) (by omega) (by omega) (by omega) hp hA
/-! ### one side of a transition -/
def pairK (p : PySem.Str × Int) : Key × D := (Sum.inr p.1, D.int p.2)
def sideL (l : List (PySem.Str × Int)) : List (Key × D) := (l.filter fun p => decide (0 < p.2)).map pairK
def sideK (ps : List PySem.Str) (ns : List Int) : List (Key × D) := sideL (ps.zip ns)
theorem zip_get {α β : Type} {l : List α} {m : List β} {i : Nat} {a : α} {b : β} (h : l[i]? = some a) (k : m[i]? = some b) : (l.zip m)[i]? = some (a, b) := by
  rw [List.getElem?_zip_eq_some]
  exact ⟨h, k⟩
theorem side_new {ps : List PySem.Str} {ns : List Int} {i : Nat} {z : PySem.Str} (nd : ps.Nodup) (h : ps[i]? = some z) : lk (sideL ((ps.zip ns).take i)) (Sum.inr z) = none := by
  refine lk_none fun m => ?_
  obtain ⟨kd, hk, e⟩ := List.mem_map.mp m
  obtain ⟨p, hp, rfl⟩ := List.mem_map.mp hk
  have e1 : p.1 = z := Sum.inr.inj e
  have hp1 := (List.mem_filter.mp hp).1
  obtain ⟨j, hj, ej⟩ := List.mem_iff_getElem.mp hp1
  rw [List.length_take] at hj
  rw [List.getElem_take] at ej
  obtain ⟨hi, ei⟩ := List.getElem?_eq_some_iff.mp h
  have hjp : j < ps.length := by rw [List.length_zip] at hj; omega
  have e2 : ps[j] = z := by rw [← e1, ← ej, List.getElem_zip]
  have := List.pairwise_iff_getElem.mp nd j i hjp hi (by omega)
  exact this (e2.trans ei.symm)
def sp__law_side (K : PySem.W.Frag) : Sp := fun vs H Q E => ∃ R L v1 v2 ps ns, vs = [v1, v2] ∧ (D.lst (ps.map D.str), v1) ∈ R ∧ (rowD ns, v2) ∈ R ∧ ps.Nodup ∧ ps.length ≤ 60 ∧ ns.length = ps.length ∧ At R L H ∧
  ∀ v H', At ((D.dct (sideK ps ns), v) :: R) L H' → Q v H'
theorem r_side {R : RL} {L : LL} {H : Hp} {v1 v2 : V} {ps : List PySem.Str} {ns : List Int} {Q : VK} {E : XK} (hA : At R L H) (m1 : (D.lst (ps.map D.str), v1) ∈ R) (m2 : (rowD ns, v2) ∈ R) (nd : ps.Nodup) (hl : ps.length ≤ 60) (hn : ns.length = ps.length)
    (q : ∀ v H', At ((D.dct (sideK ps ns), v) :: R) L H' → Q v H') : sp__law_side K [v1, v2] H Q E := ⟨R, L, v1, v2, ps, ns, rfl, m1, m2, nd, hl, hn, hA, q⟩
set_option hygiene false in
local macro_rules | `(tactic| walk_at "term _law_side") => `(tactic| refine ⟨_, PSs.nox (pss_cons (ps_set (i := 2) sc__law_side.nd rfl (Or.inl rfl) pe_dnewK)
  (pss_cons (ps_for PassesOwn.never rfl (pi_range1 rfl B.T.range (pa_cons (pe_callB (call_len_seqK K rfl) (by rfl) B.T.len (by decide +kernel) (pa_cons (pv 0) pa_nil)) pa_nil)) (pg_name (i := 3) sc__law_side.nd rfl (Or.inl rfl))
  (pss_one (ps_if (pt_cmpR op_gt (pe_ix (ix_listK K rfl) (pv 1) (pv 3) (fun _ _ => rfl)) pe_int (nomark _))
  (pss_one (ps_dput (hu_le hr (by decide)) (pv 2) (pe_ix (ix_listK K rfl) (pv 0) (pv 3) (fun _ _ => rfl)) (pe_ix (ix_listK K rfl) (pv 1) (pv 3) (fun _ _ => rfl)) rfl))
  pss_nil)))
  (pss_one (ps_ret (pv 2))))), ?_⟩)
theorem F__law_side (B : Bun P K mg) : Fn P w K mg base 2 "_law_side" ["places", "row"] (sp__law_side K) := by
  refine B.d__law_side.fn (k := 1) sc__law_side (fun vs H Q E h => ?_) (fun _ _ _ _ _ _ us hl => match us, hl with | [_, _], _ => rfl) fun f cdv A outer s H vs Q E hr h => ?_
  · obtain ⟨_, _, _, _, _, _, rfl, _⟩ := h
    rfl
  · obtain ⟨R, L, v1, v2, ps, ns, rfl, m1, m2, nd, hl, hn, hA, q⟩ := h
    unfold rowD at m2
    walk_at "term _law_side"
    repeat' walk_at "nw"
    refine s_for (s_iRng1 ?_)
    repeat' walk_at "nw"
    refine src_rng (by omega) (by rw [List.length_map]; omega) fun W => for_D W hA (fun i σ L' => (∃ c, σ = [some v1, some v2, some (.ref p), c]) ∧ L' = (p, .dct (sideL ((ps.zip ns).take i))) :: L) ?_ ?_ ?_ ?_
    · exact ⟨⟨none, rfl⟩, rfl⟩
    · exact fun _ _ _ _ => True.intro
    · rintro i d v σ L1 H hd ⟨⟨c, rfl⟩, rfl⟩ hA
      obtain ⟨hi, rfl⟩ := rngD_get hd
      obtain rfl := hA.sc_of
      replace hA := hA.drop
      have hi1 : i < ps.length := by rw [List.length_map] at hi; omega
      have hi2 : i < ns.length := by omega
      have g1 : ps[i]? = some ps[i] := List.getElem?_eq_getElem hi1
      have g2 : ns[i]? = some ns[i] := List.getElem?_eq_getElem hi2
      have k1 : (ps.map D.str)[(0 + (i : Int)).toNat]? = some (D.str ps[i]) := by rw [Int.zero_add, Int.toNat_natCast, List.getElem?_map, g1]; rfl
      have k2 : (ns.map D.int)[(0 + (i : Int)).toNat]? = some (D.int ns[i]) := by rw [Int.zero_add, Int.toNat_natCast, List.getElem?_map, g2]; rfl
      have e1 := take_snoc (zip_get g1 g2)
      repeat' walk_at "nw"
      refine r_ixLs hA m2 (by omega) k2 ?_
      repeat' walk_at "nw"
      · refine r_ixLs hA m2 (by omega) k2 ?_
        repeat' walk_at "nw"
        refine r_ixLs hA m1 (by omega) k1 ?_
        refine w_dputS [] hA .sc ?_ fun H hA => ?_
        · show (sideL _).length < 1000000
          rw [sideL, List.length_map]
          have := List.length_filter_le (fun p : PySem.Str × Int => decide (0 < p.2)) ((ps.zip ns).take i)
          rw [List.length_take] at this
          omega
        · refine ⟨_, ⟨⟨_, rfl⟩, ?_⟩, hA⟩
          rw [put_new _ (side_new nd g1), e1]
          unfold sideL
          rw [List.filter_append, List.map_append, List.filter_cons, if_pos (by simpa using hc)]
          rfl
      · refine ⟨_, ⟨⟨_, rfl⟩, ?_⟩, hA⟩
        rw [e1]
        unfold sideL
        rw [List.filter_append, List.filter_cons, if_neg (by simpa using hc)]
        simp
    · rintro σ L1 H ⟨⟨c, rfl⟩, rfl⟩ hA
      rw [rngD_len] at hA
      repeat' walk_at "nw"
      rw [List.take_of_length_le (by rw [List.length_zip, List.length_map]; omega)] at hA
      exact q _ _ hA.frzDct
/-! ### an order -/
def OrdOk (many : Nat) (ks : List Nat) : Prop := ks.length = many ∧ ks.Nodup ∧ ∀ j, j ∈ ks ↔ j < many
theorem rot_ok {many t : Nat} : OrdOk many ((List.range many).map fun k => (k + t) % many) := by
  have inj : ∀ a b, a < many → b < many → (a + t) % many = (b + t) % many → a = b := by
    intro a b ha hb e
    rcases Nat.lt_trichotomy a b with h | h | h
    · have e1 := Nat.sub_mod_eq_zero_of_mod_eq e.symm
      rw [show b + t - (a + t) = b - a by omega, Nat.mod_eq_of_lt (by omega)] at e1
      omega
    · exact h
    · have e1 := Nat.sub_mod_eq_zero_of_mod_eq e
      rw [show a + t - (b + t) = a - b by omega, Nat.mod_eq_of_lt (by omega)] at e1
      omega
  have nd : ((List.range many).map fun k => (k + t) % many).Nodup := by
    rw [List.nodup_iff_pairwise_ne, List.pairwise_map]
    refine List.Pairwise.imp_of_mem ?_ List.nodup_range
    intro a b ha hb hab e
    exact hab (inj a b (List.mem_range.mp ha) (List.mem_range.mp hb) e)
  refine ⟨by simp, nd, fun j => ⟨fun hj => ?_, fun hj => ?_⟩⟩
  · obtain ⟨k, hk, rfl⟩ := List.mem_map.mp hj
    have := List.mem_range.mp hk
    exact Nat.mod_lt _ (by omega)
  · refine List.mem_map.mpr ⟨(j + (many - t % many)) % many, List.mem_range.mpr (Nat.mod_lt _ (by omega)), ?_⟩
    have hj' := hj
    have h1 : t % many < many := Nat.mod_lt _ (by omega)
    have e : j + (many - t % many) + t = j + many * (t / many + 1) := by
      have := Nat.div_add_mod t many
      rw [Nat.mul_add]
      omega
    rw [Nat.mod_add_mod, e, Nat.add_mul_mod_self_left, Nat.mod_eq_of_lt hj]
theorem OrdOk.rev {many : Nat} {ks : List Nat} (h : OrdOk many ks) : OrdOk many ks.reverse :=
  ⟨by rw [List.length_reverse]; exact h.1, (List.reverse_perm ks).nodup_iff.mpr h.2.1, fun j => by rw [List.mem_reverse]; exact h.2.2 j⟩
def sp__law_order (K : PySem.W.Frag) : Sp := fun vs H Q E => ∃ R L p pt many, vs = [.ref p, .int (many : Nat)] ∧ PotOk pt ∧ many ≤ 60 ∧ At R ((p, .lst pt) :: L) H ∧
  ∀ v ks pt' H', PotOk pt' → OrdOk many ks → At ((D.lst (ks.map natD), v) :: R) ((p, .lst pt') :: L) H' → Q v H'
theorem r_order {R : RL} {L : LL} {H : Hp} {p : Addr} {pt : List D} {many : Nat} {Q : VK} {E : XK} (hA : At R ((p, .lst pt) :: L) H) (hp : PotOk pt) (h1 : many ≤ 60)
    (q : ∀ v ks pt' H', PotOk pt' → OrdOk many ks → At ((D.lst (ks.map natD), v) :: R) ((p, .lst pt') :: L) H' → Q v H') : sp__law_order K [.ref p, .int (many : Nat)] H Q E := ⟨R, L, p, pt, many, rfl, hp, h1, hA, q⟩
set_option hygiene false in
local macro_rules | `(tactic| walk_at "term _law_order") => `(tactic| refine ⟨_, PSs.nox (pss_cons (ps_set (i := 2) sc__law_order.nd rfl (Or.inr rfl) (pe_fn (F__law_draw (P := P) (K := K) (mg := mg) B) hr (by decide) passL rfl (pa_cons (pv 0) (pa_cons (pe_op op_add (pv 1) pe_int) pa_nil))))
  (pss_cons (ps_setLc (i := 3) (own := [("k", 4)]) rfl sc__law_order.nd rfl rfl (sw_true rfl rfl rfl (by decide +kernel)) (pi_range1 rfl B.T.range (pa_cons (pv 1) pa_nil)) (blkOk_by (own := [("k", 4)]) (N := n__law_order) (sc := defScope s__law_order) (by decide +kernel)) (fun _ _ _ _ _ => (pg_name (i := 4) sc__law_order.nd rfl (Or.inl rfl))) (fun _ _ _ _ _ => pts_nil) (fun _ _ _ _ _ => (pe_op op_mod (pe_callTy call_int1 (by rfl) B.T.int (by decide +kernel) (pa_cons (pe_op op_add (pv 4) (pv 2)) pa_nil)) (pv 1))))
  (pss_cons (ps_if (pt_cmpR op_eq (pe_fn (F__law_draw (P := P) (K := K) (mg := mg) B) hr (by decide) passL rfl (pa_cons (pv 0) (pa_cons pe_int pa_nil))) pe_int (nomark _))
  (pss_one (ps_set (i := 3) sc__law_order.nd rfl (Or.inl rfl) (pe_listRev rfl rfl B.T.list rfl B.T.reversed (pv 3))))
  pss_nil)
  (pss_one (ps_ret (pv 3)))))), ?_⟩)
theorem F__law_order (B : Bun P K mg) : Fn P w K mg base 3 "_law_order" ["pot", "many"] (sp__law_order K) := by
  refine B.d__law_order.fn (k := 2) sc__law_order (fun vs H Q E h => ?_) (fun _ _ _ _ _ _ us hl => match us, hl with | [_, _], _ => rfl) fun f cdv A outer s H vs Q E hr h => ?_
  · obtain ⟨_, _, _, _, _, rfl, _⟩ := h
    rfl
  · obtain ⟨R, L, p, pt, many, rfl, hp, h1, hA, q⟩ := h
    walk_at "term _law_order"
    repeat' walk_at "nw"
    refine r_draw [] hA hp (by omega) (by omega) fun turn pt H hp t0 t1 hA => ?_
    obtain ⟨t, rfl⟩ := Int.eq_ofNat_of_zero_le t0
    repeat' walk_at "nw"
    refine s_lc (s_iRng1 (s_cons (s_var rfl (s_nil (src_rng (by omega) (by omega) fun W => lc_D W hA (fun i as L' => L' = (p, .lst pt) :: L ∧ as = ((List.range i).map fun k => (k + t) % many).map natD) ?_ ?_ ?_ ?_)))))
    · exact ⟨rfl, rfl⟩
    · exact fun _ _ _ _ _ => True.intro
    · rintro j d v as L1 H p2 hd ⟨rfl, rfl⟩ hlen hA
      obtain ⟨hj, rfl⟩ := rngD_get hd
      obtain rfl := hA.sc_of
      refine s_name ⟨rfl, ?_⟩
      repeat' walk_at "nw"
      refine lc_end hA (fun z hz => List.mem_cons_of_mem _ hz) .sc hlen (by omega) ⟨rfl, ?_⟩
      rw [List.range_succ, List.map_append, List.map_append]
      have e : (0 + (j : Int) + (t : Int)) % (many : Int) = (((j + t) % many : Nat) : Int) := by rw [Int.natCast_emod, Int.natCast_add, Int.zero_add]
      rw [e]
      rfl
    · rintro p2 as L1 H ⟨rfl, rfl⟩ hlen hA
      rw [rngD_len] at hA
      repeat' walk_at "nw"
      refine r_draw [_] hA hp (by omega) (by omega) fun coin pt H hp c0 c1 hA => ?_
      repeat' walk_at "nw"
      · rw [← List.map_reverse] at hA
        have hA := hA.frzLst
        exact q _ _ _ _ hp (OrdOk.rev rot_ok) (At.forget hA)
      · exact q _ _ _ _ hp rot_ok hA.frzLst
end
end K26
set_option maxRecDepth 100000
set_option maxHeartbeats 4000000
namespace K26
open PySem PySem.Spec PyProof.Rows L2 Nw
set_option hygiene false in
local macro_rules | `(tactic| walk_at "nf") => `(tactic| first | exact B.n_cls | exact B.n_places | exact B.n_transitions | exact B.n_start | exact B.n_index | exact B.n_takes | exact B.n_gives | exact B.n_takers | exact B.n_givers | exact B.n_labels)
local macro_rules | `(tactic| walk_at "nm") => `(tactic| first | exact .head _ | exact .tail _ (.head _) | exact .tail _ (.tail _ (.head _)) | exact .tail _ (.tail _ (.tail _ (.head _))) | exact .tail _ (.tail _ (.tail _ (.tail _ (.head _)))) | exact .tail _ (.tail _ (.tail _ (.tail _ (.tail _ (.head _))))) | exact .tail _ (.tail _ (.tail _ (.tail _ (.tail _ (.tail _ (.head _)))))) | exact List.mem_append_right _ (.head _) | exact List.mem_append_right _ (.tail _ (.head _)) | exact .tail _ (List.mem_append_right _ (.head _)) | exact .tail _ (.tail _ (List.mem_append_right _ (.head _))) | exact .tail _ (.tail _ (.tail _ (List.mem_append_right _ (.head _)))) | (repeat (first | assumption | refine List.mem_cons_of_mem _ ?_)))
set_option hygiene false in
local macro_rules | `(tactic| walk_at "dr") => `(tactic| repeat (first | exact hA | apply At.drop))
local macro_rules | `(tactic| walk_at "mm") => `(tactic| repeat (first | assumption | exact List.mem_cons_self | refine List.mem_cons_of_mem _ ?_))
local macro_rules | `(tactic| walk_at "nb") => `(tactic| first | exact isT_int_int | exact isT_int_bool | exact isT_int_str | exact isT_int_list | exact isT_int_tuple | exact isT_bool_int | exact isT_bool_bool | exact isT_bool_str | exact isT_bool_list | exact isT_bool_tuple | exact isT_str_int | exact isT_str_bool | exact isT_str_str | exact isT_str_list | exact isT_str_tuple | exact isT_NoneType_int | exact isT_NoneType_bool | exact isT_NoneType_str | exact isT_NoneType_list | exact isT_NoneType_tuple | exact isT_list_int | exact isT_list_bool | exact isT_list_str | exact isT_list_list | exact isT_list_tuple | exact isT_tuple_int | exact isT_tuple_bool | exact isT_tuple_str | exact isT_tuple_list | exact isT_tuple_tuple | decide +kernel)
local macro_rules | `(tactic| walk_at "ni") => `(tactic| first | exact InR.mem (by walk_at "nm") | exact InR.sc | assumption)
local macro_rules | `(tactic| walk_at "nc") => `(tactic| first | omega | decide | (unfold CMul; omega) | (unfold CDiv; omega) | (unfold CPow; omega) | (unfold CPow; decide))
local macro_rules | `(tactic| walk_at "nl") => `(tactic| first | omega | decide | (simp only [List.length_cons, List.length_nil, List.length_append, List.length_map, List.length_set]; omega) | (simp; omega))
local macro_rules | `(tactic| walk_at "nh") => `(tactic| first | exact HasL.r (by walk_at "nm") | exact HasL.o (by walk_at "nm") | assumption)
local macro_rules | `(tactic| walk_at "na") => `(tactic| first | exact AllR.nil | (refine AllR.cons (by walk_at "ni") ?_; walk_at "na"))
local macro_rules | `(tactic| walk_at "nt") => `(tactic| first | exact HasTy.int _ | exact HasTy.str _ | exact HasTy.bl _ | exact HasTy.non | exact HasTy.lst (by walk_at "nm") | exact HasTy.tup (by walk_at "nm") | exact HasTy.own (by walk_at "nm"))
set_option hygiene false in
local macro_rules | `(tactic| walk_at "nw") => `(tactic| first
  | (with_reducible refine' s_seq ?_)
  | (with_reducible refine' s_asg ?_)
  | (with_reducible refine' s_name ?_)
  | (with_reducible refine' s_ret ?_)
  | (with_reducible refine' s_drop ?_)
  | (with_reducible refine' s_next ?_)
  | (with_reducible refine' s_op ?_)
  | (with_reducible refine' s_un ?_)
  | (with_reducible refine' s_c ?_)
  | (with_reducible refine' s_cons ?_)
  | (with_reducible refine' s_nil ?_)
  | (with_reducible refine' s_cb ?_)
  | (with_reducible refine' s_call ?_)
  | (with_reducible refine' s_callS ?_)
  | (with_reducible refine' s_test ?_)
  | (with_reducible refine' s_tb ?_)
  | (with_reducible refine' s_bl ?_)
  | (with_reducible refine' s_not ?_)
  | (with_reducible refine' s_if ?_)
  | (with_reducible refine' s_ifE ?_)
  | (with_reducible refine' s_and ?_)
  | (with_reducible refine' s_or ?_)
  | (with_reducible refine' s_andV ?_)
  | (with_reducible refine' s_orV ?_)
  | (with_reducible refine' s_notV ?_)
  | (with_reducible refine' s_sub ?_)
  | (with_reducible refine' s_chain ?_)
  | (with_reducible refine' s_sl ?_)
  | (with_reducible refine' s_noPart ?_)
  | (with_reducible refine' s_part ?_)
  | (with_reducible refine' r_part ?_)
  | (with_reducible refine' s_m1 ?_)
  | (with_reducible refine' s_fldQ ?_)
  | (with_reducible refine' s_setF ?_)
  | (with_reducible refine' s_cvalQ ?_)
  | (with_reducible refine' s_lstRev ?_)
  | (with_reducible refine' s_dgetQ ?_)
  | (with_reducible refine' s_din ?_)
  | (with_reducible refine' s_dnotin ?_)
  | (with_reducible refine' s_dput ?_)
  | (with_reducible refine' s_dget2Q ?_)
  | (with_reducible refine' s_mkX1 ?_)
  | (with_reducible refine' s_make ?_)
  | (with_reducible refine' s_lstRg ?_)
  | (with_reducible refine' s_tru ?_)
  | (with_reducible refine' s_star ?_)
  | (with_reducible refine' s_xf ?_)
  | (with_reducible refine' s_yes ?_)
  | (with_reducible refine' r_I0 ?_)
  | (with_reducible refine' r_U ?_)
  | (with_reducible refine' r_eqI ?_)
  | (with_reducible refine' r_neI ?_)
  | (with_reducible refine' r_eqS ?_)
  | (with_reducible refine' r_neS ?_)
  | (with_reducible refine' n_isR ?_)
  | (with_reducible refine' n_isN ?_)
  | (with_reducible refine' n_isI ?_)
  | (with_reducible refine' n_isS ?_)
  | (with_reducible refine' n_isB ?_)
  | (with_reducible refine' n_ntR ?_)
  | (with_reducible refine' n_ntN ?_)
  | (with_reducible refine' n_ntI ?_)
  | (with_reducible refine' n_ntS ?_)
  | (with_reducible refine' n_ntB ?_)
  | (with_reducible refine' i_t ?_)
  | (with_reducible refine' i_f ?_)
  | (with_reducible refine' i_nt ?_)
  | (with_reducible refine' i_nf ?_)
  | ((with_reducible refine' s_var ?g1 ?_); (case g1 => rfl))
  | ((with_reducible refine' r_I ?g1 ?_); (case g1 => walk_at "nc"))
  | ((with_reducible refine' w_int ?_))
  | ((with_reducible refine' w_abs ?_))
  | ((with_reducible refine' r_max2 ?_))
  | ((with_reducible refine' r_lenS ?g1 ?_); (case g1 => walk_at "nl"))
  | ((with_reducible refine' r_addS ?g1 ?_); (case g1 => walk_at "nl"))
  | ((with_reducible refine' r_slS ?g1 ?_); (case g1 => walk_at "nl"))
  | ((with_reducible refine' r_inS ?_))
  | ((with_reducible refine' r_ixOs hA ?g1 ?g2 ?g3 ?_); (case g1 => walk_at "nm"); (case g2 => walk_at "nc"); (case g3 => rfl))
  | ((with_reducible refine' r_ixLs hA ?g1 ?g2 ?g3 ?_); (case g1 => walk_at "nm"); (case g2 => walk_at "nc"); (case g3 => rfl))
  | ((with_reducible refine' r_ixTs hA ?g1 ?g2 ?g3 ?_); (case g1 => walk_at "nm"); (case g2 => walk_at "nc"); (case g3 => rfl))
  | (((with_reducible refine' r_ixO hA ?g1 ?g2 ?g3 ?_); (case g1 => walk_at "nm"); (case g2 => walk_at "nc"); (case g3 => rfl)); intro v hA)
  | (((with_reducible refine' r_ixL hA ?g1 ?g2 ?g3 ?_); (case g1 => walk_at "nm"); (case g2 => walk_at "nc"); (case g3 => rfl)); intro v hA)
  | (((with_reducible refine' r_ixT hA ?g1 ?g2 ?g3 ?_); (case g1 => walk_at "nm"); (case g2 => walk_at "nc"); (case g3 => rfl)); intro v hA)
  | ((with_reducible refine' r_lenO hA ?g1 ?_); (case g1 => walk_at "nm"))
  | ((with_reducible refine' r_lenL hA ?g1 ?_); (case g1 => walk_at "nm"))
  | ((with_reducible refine' r_lenT hA ?g1 ?_); (case g1 => walk_at "nm"))
  | ((with_reducible refine' r_lenD hA ?g1 ?_); (case g1 => walk_at "nm"))
  | ((with_reducible refine' r_tqT hA ?g1 ?_); (case g1 => walk_at "nm"))
  | (((with_reducible refine' w_setL [] (o := .non) hA ?g1 ?g2 ?g3 ?_); (case g1 => walk_at "ni"); (case g2 => walk_at "nc"); (case g3 => walk_at "nl")); (try clear hA); intro H hA; dsimp only [List.set, Int.toNat, List.cons_append, List.nil_append] at hA)
  | (((with_reducible refine' w_setL [_] (o := .non) hA ?g1 ?g2 ?g3 ?_); (case g1 => walk_at "ni"); (case g2 => walk_at "nc"); (case g3 => walk_at "nl")); (try clear hA); intro H hA; dsimp only [List.set, Int.toNat, List.cons_append, List.nil_append] at hA)
  | (((with_reducible refine' w_setL [_, _] (o := .non) hA ?g1 ?g2 ?g3 ?_); (case g1 => walk_at "ni"); (case g2 => walk_at "nc"); (case g3 => walk_at "nl")); (try clear hA); intro H hA; dsimp only [List.set, Int.toNat, List.cons_append, List.nil_append] at hA)
  | (((with_reducible refine' w_setL [_, _, _] (o := .non) hA ?g1 ?g2 ?g3 ?_); (case g1 => walk_at "ni"); (case g2 => walk_at "nc"); (case g3 => walk_at "nl")); (try clear hA); intro H hA; dsimp only [List.set, Int.toNat, List.cons_append, List.nil_append] at hA)
  | ((with_reducible refine' s_bm ?_); skip)
  | (((with_reducible refine' w_append [] hA ?g1 ?g2 ?_); (case g1 => walk_at "ni"); (case g2 => walk_at "nl")); (try clear hA); intro H hA; dsimp only [List.set, Int.toNat, List.cons_append, List.nil_append] at hA)
  | (((with_reducible refine' w_append [_] hA ?g1 ?g2 ?_); (case g1 => walk_at "ni"); (case g2 => walk_at "nl")); (try clear hA); intro H hA; dsimp only [List.set, Int.toNat, List.cons_append, List.nil_append] at hA)
  | (((with_reducible refine' w_append [_, _] hA ?g1 ?g2 ?_); (case g1 => walk_at "ni"); (case g2 => walk_at "nl")); (try clear hA); intro H hA; dsimp only [List.set, Int.toNat, List.cons_append, List.nil_append] at hA)
  | (((with_reducible refine' w_append [_, _, _] hA ?g1 ?g2 ?_); (case g1 => walk_at "ni"); (case g2 => walk_at "nl")); (try clear hA); intro H hA; dsimp only [List.set, Int.toNat, List.cons_append, List.nil_append] at hA)
  | ((with_reducible refine' ⟨ty_lst hA ?g1, ?_⟩); (case g1 => walk_at "nm"))
  | ((with_reducible refine' r_isi hA ?g1 ?g2 ?_); (case g1 => walk_at "nt"); (case g2 => walk_at "nb"))
  | (((with_reducible refine' r_lstRg hA ?g1 ?g2 ?_); (case g1 => walk_at "nc"); (case g2 => walk_at "nc")); intro p H hA)
  | (((with_reducible refine' r_list hA ?g1 ?_); (case g1 => walk_at "nh")); intro p H hA)
  | (((with_reducible refine' r_slL hA ?g1 ?_); (case g1 => walk_at "nh")); intro p H hA)
  | (((with_reducible refine' r_listT hA ?g1 ?_); (case g1 => walk_at "nm")); intro p H hA)
  | (((with_reducible refine' r_listD hA ?g1 ?_); (case g1 => walk_at "nm")); intro p H hA)
  | (((with_reducible refine' r_tuple hA ?g1 ?_); (case g1 => walk_at "nh")); intro v H hA)
  | (((with_reducible refine' r_slT hA ?g1 ?_); (case g1 => walk_at "nm")); intro v H hA)
  | (((with_reducible refine' r_lstRev hA ?g1 ?_); (case g1 => walk_at "nh")); intro p H hA)
  | ((with_reducible refine' s_tup ?_); skip)
  | ((with_reducible refine' s_lst ?_); skip)
  | (((with_reducible refine' r_tup hA ?g1 ?g2 ?_); (case g1 => walk_at "na"); (case g2 => walk_at "nl")); intro v H hA)
  | (with_reducible refine' r_dnew hA ?_; intro p H hA)
  | (((with_reducible refine' r_fdO hA ?g1 ?g2 ?g3 ?g4 ?_); (case g1 => walk_at "nm"); (case g2 => walk_at "nf"); (case g3 => walk_at "nf"); (case g4 => rfl)); intro v hA)
  | (((with_reducible refine' r_fd hA ?g1 ?g2 ?g3 ?g4 ?_); (case g1 => walk_at "nm"); (case g2 => walk_at "nf"); (case g3 => walk_at "nf"); (case g4 => rfl)); intro v hA)
  | (with_reducible refine' i_dec (fun hc => ?_) (fun hc => ?_))
  | (with_reducible refine' i_ndec (fun hc => ?_) (fun hc => ?_))
  | (with_reducible refine' i_ne (fun hc => ?_) (fun hc => ?_))
  | (with_reducible refine' i_em (fun hc => ?_) (fun hc => ?_)))
section
variable {P : Program} {w : World} {K : PySem.W.Frag} {mg : PySem.Str → Option Value} {base : Heap}
/-! ### what a name is -/
def sp_is_integer (K : PySem.W.Frag) : Sp := fun vs H Q E => ∃ R L v, vs = [v] ∧ At R L H ∧ ((∃ i, v = .int i) ∨ (∃ k, v = .bl k) ∨ v = .non ∨ ∃ z, v = .str z) ∧ Q (.bl (match v with | .int _ => true | _ => false)) H
theorem r_isint {R : RL} {L : LL} {H : Hp} {i : Int} {Q : VK} {E : XK} (hA : At R L H) (q : Q (.bl true) H) : sp_is_integer K [.int i] H Q E := ⟨R, L, _, rfl, hA, .inl ⟨i, rfl⟩, q⟩
set_option hygiene false in
local macro_rules | `(tactic| walk_at "term is_integer") => `(tactic| refine ⟨_, PSs.nox (pss_one (ps_ret (pe_and (pe_callB (call_isiK' K rfl) (by rfl) B.T.isinstance (by decide +kernel) (pa_cons (pv 0) (pa_cons (pe_bltn (v := .ty "int") (u := .type "int") (by rfl) B.T.int (by decide +kernel) rfl) pa_nil))) (pe_one (pe_not (pe_callB (call_isiK' K rfl) (by rfl) B.T.isinstance (by decide +kernel) (pa_cons (pv 0) (pa_cons (pe_bltn (v := .ty "bool") (u := .type "bool") (by rfl) B.T.bool (by decide +kernel) rfl) pa_nil)))))))), ?_⟩)
theorem F_is_integer (B : Bun P K mg) : Fn P w K mg base 2 "is_integer" ["value"] (sp_is_integer K) := by
  refine B.d_is_integer.fn (k := 1) sc_is_integer (fun vs H Q E h => ?_) (fun _ _ _ _ _ _ us hl => match us, hl with | [_], _ => rfl) fun f cdv A outer s H vs Q E hr h => ?_
  · obtain ⟨_, _, _, rfl, _⟩ := h
    rfl
  · obtain ⟨R, L, v, rfl, hA, hv, q⟩ := h
    walk_at "term is_integer"
    rcases hv with ⟨i, rfl⟩ | ⟨k, rfl⟩ | rfl | ⟨z, rfl⟩
    all_goals (repeat' walk_at "nw")
    all_goals exact q
def sp_is_between (K : PySem.W.Frag) : Sp := fun vs H Q E => ∃ R L i a b, vs = [.int i, .int a, .int b] ∧ At R L H ∧ a ≤ i ∧ i ≤ b ∧ Q (.bl true) H
theorem r_between {R : RL} {L : LL} {H : Hp} {i a b : Int} {Q : VK} {E : XK} (hA : At R L H) (h1 : a ≤ i) (h2 : i ≤ b) (q : Q (.bl true) H) : sp_is_between K [.int i, .int a, .int b] H Q E := ⟨R, L, i, a, b, rfl, hA, h1, h2, q⟩
set_option hygiene false in
local macro_rules | `(tactic| walk_at "term is_between") => `(tactic| refine ⟨_, PSs.nox (pss_one (ps_ret (pe_and (pe_fn (F_is_integer (P := P) (K := K) (mg := mg) B) hr (by decide) passL rfl (pa_cons (pv 0) pa_nil)) (pe_one (pe_chain op_le op_le (pv 1) (pv 0) (pv 2)))))), ?_⟩)
theorem F_is_between (B : Bun P K mg) : Fn P w K mg base 3 "is_between" ["value", "least", "greatest"] (sp_is_between K) := by
  refine B.d_is_between.fn (k := 2) sc_is_between (fun vs H Q E h => ?_) (fun _ _ _ _ _ _ us hl => match us, hl with | [_, _, _], _ => rfl) fun f cdv A outer s H vs Q E hr h => ?_
  · obtain ⟨_, _, _, _, _, rfl, _⟩ := h
    rfl
  · obtain ⟨R, L, i, a, b, rfl, hA, h1, h2, q⟩ := h
    walk_at "term is_between"
    repeat' walk_at "nw"
    refine r_isint hA ?_
    repeat' walk_at "nw"
    · rw [decide_eq_true h2]
      exact q
    · exact absurd h1 hc
def sp_is_name (K : PySem.W.Frag) : Sp := fun vs H Q E => ∃ R L z, vs = [.str z] ∧ At R L H ∧ NameOk z ∧ ∀ H', At R L H' → Q (.bl true) H'
theorem r_name {R : RL} {L : LL} {H : Hp} {z : PySem.Str} {Q : VK} {E : XK} (hA : At R L H) (h : NameOk z) (q : ∀ H', At R L H' → Q (.bl true) H') : sp_is_name K [.str z] H Q E := ⟨R, L, z, rfl, hA, h, q⟩
set_option hygiene false in
local macro_rules | `(tactic| walk_at "term is_name") => `(tactic| refine ⟨_, PSs.nox (pss_cons (ps_if (PW.pt (pw_or (pt_not (pt_val (pe_callB (call_isiK' K rfl) (by rfl) B.T.isinstance (by decide +kernel) (pa_cons (pv 0) (pa_cons (pe_bltn (v := .ty "str") (u := .type "str") (by rfl) B.T.str (by decide +kernel) rfl) pa_nil))))) (pw_or1 (pt_not (pt_chain op_le op_le pe_int (pe_callB call_len_str (by rfl) B.T.len (by decide +kernel) (pa_cons (pv 0) pa_nil)) (pe_gint rfl B.c_NAME_LENGTH))))))
  (pss_one (ps_ret pe_bl))
  pss_nil)
  (pss_one (ps_ret (pe_and (pe_cmpR op_in_sign (pe_ix ix_str (pv 0) pe_int (fun _ _ => rfl)) (pe_gstr rfl B.c_LETTERS) rfl) (pe_one (pe_callB (cr_allK K rfl rfl) (by rfl) B.T.all (by decide +kernel) (pa_cons (pe_lc (own := [("sign", 1)]) rfl sc_is_name.nd (pi_str (pv 0)) (blkOk_by (own := [("sign", 1)]) (N := n_is_name) (sc := defScope s_is_name) (by decide +kernel)) (fun _ _ _ _ _ => (pg_name (i := 1) sc_is_name.nd rfl (Or.inl rfl))) (fun _ _ _ _ _ => pts_nil) (fun _ _ _ _ _ => (pe_cmpR op_in_sign (pv 1) (pe_gstr rfl B.c_NAME_SIGNS) rfl))) pa_nil))))))), ?_⟩)
theorem F_is_name (B : Bun P K mg) : Fn P w K mg base 2 "is_name" ["word"] (sp_is_name K) := by
  refine B.d_is_name.fn (k := 1) sc_is_name (fun vs H Q E h => ?_) (fun _ _ _ _ _ _ us hl => match us, hl with | [_], _ => rfl) fun f cdv A outer s H vs Q E hr h => ?_
  · obtain ⟨_, _, _, rfl, _⟩ := h
    rfl
  · obtain ⟨R, L, z, rfl, hA, hz, q⟩ := h
    walk_at "term is_name"
    have hl := hz.len
    obtain ⟨c, r, ez, hc1, hr1, _⟩ := hz
    repeat' walk_at "nw"
    · omega
    · refine r_ixS (c := c) (by omega) (by decide) (by rw [ez]; rfl) ?_
      repeat' walk_at "nw"
      rotate_left
      · exact absurd hc1 hc
      have ha : ∀ x ∈ z.cps.toList, x ∈ SG.cps.toList := by
        rw [ez]
        intro x hx
        rcases List.mem_cons.mp hx with rfl | hx
        · exact lt_sg hc1
        · exact hr1 x hx
      have hsl : (strD z).length = z.length := by rw [str_len]; simp [strD]
      refine s_lc (s_iStr (s_var rfl (src_str fun W => lc_D W hA (fun i as L' => L' = L ∧ as = (List.replicate i true).map D.bl) ?_ ?_ ?_ ?_)))
      · exact ⟨rfl, rfl⟩
      · exact fun _ _ _ _ _ => True.intro
      · rintro j d v as L1 H p2 hd ⟨rfl, rfl⟩ hlen hA
        have hj := (List.getElem?_eq_some_iff.mp hd).1
        unfold strD at hd
        rw [List.getElem?_map, Option.map_eq_some_iff] at hd
        obtain ⟨x, hx, rfl⟩ := hd
        obtain rfl := hA.sc_of
        refine s_name ⟨rfl, ?_⟩
        repeat' walk_at "nw"
        refine lc_end hA (fun z hz => List.mem_cons_of_mem _ hz) .sc hlen (by omega) ⟨rfl, ?_⟩
        rw [decide_eq_true (show x ∈ (Str.ofString "abcdefghijklmnopqrstuvwxyz0123456789_").cps.toList from ha x (List.mem_of_getElem? hx)), List.replicate_succ', List.map_append]
        rfl
      · rintro p2 as L1 H ⟨rfl, rfl⟩ hlen hA
        refine r_all hA (.o (.head _)) ?_
        have e : (List.replicate (strD z).length true).all id = true := by
          rw [List.all_eq_true]
          intro x hx
          exact (List.mem_replicate.mp hx).2
        rw [e]
        exact q _ hA.forget
    · omega
/-! ### the checks of a net that is in order -/
def keysOf (kds : List (Key × D)) : List Key := kds.map (·.1)
/-- the places of the net that is made -/
structure PlOk (ps : List PySem.Str) (l : List (PySem.Str × Int)) : Prop where
  nd : (l.map (·.1)).Nodup
  mem : ∀ z, z ∈ l.map (·.1) ↔ z ∈ ps
  val : ∀ x ∈ l, 0 ≤ x.2 ∧ x.2 ≤ 1000000000
def trK (ps : List PySem.Str) (x : PySem.Str × List Int × List Int) : Key × D := (Sum.inr x.1, .tup [.dct (sideK ps x.2.1), .dct (sideK ps x.2.2)])
/-- its transitions -/
structure TrOk (W : Wd) (l : List (PySem.Str × List Int × List Int)) : Prop where
  nd : (l.map (·.1)).Nodup
  mem : ∀ z, z ∈ l.map (·.1) ↔ z ∈ W.ts
  val : ∀ x ∈ l, ∃ k : Nat, (W.ts)[k]? = some x.1 ∧ (W.tk)[k]? = some x.2.1 ∧ (W.gv)[k]? = some x.2.2
def labK (x : PySem.Str × PySem.Str) : Key × D := (Sum.inr x.1, .str x.2)
/-- its labels -/
structure LabOk (W : Wd) (l : List (PySem.Str × PySem.Str)) : Prop where
  nd : (l.map (·.1)).Nodup
  mem : ∀ z, z ∈ l.map (·.1) → z ∈ W.ts
  val : ∀ x ∈ l, x.2 = "" ∨ NameOk x.2
def sp_check_sizes (K : PySem.W.Frag) : Sp := fun vs H Q E => ∃ R L v1 v2 k1 k2, vs = [v1, v2] ∧ At R L H ∧ (D.dct k1, v1) ∈ R ∧ (D.dct k2, v2) ∈ R ∧ k1.length ≤ 60 ∧ k2.length ≤ 60 ∧ Q .non H
theorem r_sizes {R : RL} {L : LL} {H : Hp} {v1 v2 : V} {k1 k2 : List (Key × D)} {Q : VK} {E : XK} (hA : At R L H) (m1 : (D.dct k1, v1) ∈ R) (m2 : (D.dct k2, v2) ∈ R) (h1 : k1.length ≤ 60) (h2 : k2.length ≤ 60) (q : Q .non H) : sp_check_sizes K [v1, v2] H Q E := ⟨R, L, v1, v2, k1, k2, rfl, hA, m1, m2, h1, h2, q⟩
set_option hygiene false in
local macro_rules | `(tactic| walk_at "term check_sizes") => `(tactic| refine ⟨_, PSs.nox (pss_one (ps_if (PW.pt (pw_or (pt_cmpR op_gt (pe_callB call_lenR (by rfl) B.T.len (by decide +kernel) (pa_cons (pv 0) pa_nil)) (ClX.pe_cval (pe_glob (v := .ref (He.ga K "Net")) rfl B.g_Net rfl) rfl) (nomark _)) (pw_or1 (pt_cmpR op_gt (pe_callB call_lenR (by rfl) B.T.len (by decide +kernel) (pa_cons (pv 1) pa_nil)) (ClX.pe_cval (pe_glob (v := .ref (He.ga K "Net")) rfl B.g_Net rfl) rfl) (nomark _)))))
  (pss_one (ps_never))
  pss_nil)), ?_⟩)
theorem F_check_sizes (B : Bun P K mg) : Fn P w K mg base 2 "check_sizes" ["places", "transitions"] (sp_check_sizes K) := by
  refine B.d_check_sizes.fn (k := 1) sc_check_sizes (fun vs H Q E h => ?_) (fun _ _ _ _ _ _ us hl => match us, hl with | [_, _], _ => rfl) fun f cdv A outer s H vs Q E hr h => ?_
  · obtain ⟨_, _, _, _, _, _, rfl, _⟩ := h
    rfl
  · obtain ⟨R, L, v1, v2, k1, k2, rfl, hA, m1, m2, h1, h2, q⟩ := h
    walk_at "term check_sizes"
    repeat' walk_at "nw"
    refine r_cvalQ B.n_size ?_
    repeat' walk_at "nw"
    · omega
    · refine r_cvalQ B.n_size ?_
      repeat' walk_at "nw"
      · omega
      · exact q
theorem keys_get {α : Type} {l : List α} {f : α → Key × D} {i : Nat} {d : D} (h : ((l.map f).map fun kd => keyD kd.1)[i]? = some d) : ∃ x, l[i]? = some x ∧ d = keyD (f x).1 := by
  rw [List.map_map, List.getElem?_map, Option.map_eq_some_iff] at h
  obtain ⟨x, hx, rfl⟩ := h
  exact ⟨x, hx, rfl⟩
theorem lk_pairs {α : Type} {l : List α} {k : α → PySem.Str} {f : α → D} (nd : (l.map k).Nodup) {x : α} (h : x ∈ l) : lk (l.map fun x => ((Sum.inr (k x) : Key), f x)) (Sum.inr (k x)) = some (f x) := by
  refine lk_mem ?_ (List.mem_map.mpr ⟨x, h, rfl⟩)
  rw [List.map_map]
  have e : l.map ((fun x : Key × D => x.1) ∘ fun x => ((Sum.inr (k x) : Key), f x)) = (l.map k).map Sum.inr := by rw [List.map_map]; rfl
  rw [e, List.nodup_iff_pairwise_ne, List.pairwise_map]
  exact nd.imp fun h e => h (Sum.inr.inj e)
def sp_check_tokens (K : PySem.W.Frag) : Sp := fun vs H Q E => ∃ R L v1 ps l, vs = [v1] ∧ At R L H ∧ (D.dct (l.map pairK), v1) ∈ R ∧ PlOk ps l ∧ l.length ≤ 60 ∧ (∀ z ∈ ps, NameOk z) ∧ ∀ H', At R L H' → Q .non H'
theorem r_tokens {R : RL} {L : LL} {H : Hp} {v1 : V} {ps : List PySem.Str} {l : List (PySem.Str × Int)} {Q : VK} {E : XK} (hA : At R L H) (m1 : (D.dct (l.map pairK), v1) ∈ R) (h1 : PlOk ps l) (h2 : l.length ≤ 60) (h3 : ∀ z ∈ ps, NameOk z) (q : ∀ H', At R L H' → Q .non H') : sp_check_tokens K [v1] H Q E := ⟨R, L, v1, ps, l, rfl, hA, m1, h1, h2, h3, q⟩
set_option hygiene false in
local macro_rules | `(tactic| walk_at "term check_tokens") => `(tactic| refine ⟨_, PSs.nox (pss_one (ps_lockO (ps_for PassesOwn.never rfl (pi_keys (pv 0)) (pg_name (i := 1) sc_check_tokens.nd rfl (Or.inl rfl))
  (pss_one (ps_if (PW.pt (pw_or (pt_not (pt_val (pe_fn (F_is_name (P := P) (K := K) (mg := mg) B) hr (by decide) passL rfl (pa_cons (pv 1) pa_nil)))) (pw_or1 (pt_not (pt_val (pe_fn (F_is_between (P := P) (K := K) (mg := mg) B) hr (by decide) passL rfl (pa_cons (pe_dget (hu_le hr (by decide)) (pv 0) (pv 1) (fun _ _ => rfl)) (pa_cons pe_int (pa_cons (ClX.pe_cval (pe_glob (v := .ref (He.ga K "Net")) rfl B.g_Net rfl) rfl) pa_nil)))))))))
  (pss_one (ps_never))
  pss_nil))))), ?_⟩)
theorem F_check_tokens (B : Bun P K mg) : Fn P w K mg base 4 "check_tokens" ["places"] (sp_check_tokens K) := by
  refine B.d_check_tokens.fn (k := 3) sc_check_tokens (fun vs H Q E h => ?_) (fun _ _ _ _ _ _ us hl => match us, hl with | [_], _ => rfl) fun f cdv A outer s H vs Q E hr h => ?_
  · obtain ⟨_, _, _, _, _, rfl, _⟩ := h
    rfl
  · obtain ⟨R, L, v1, ps, l, rfl, hA, m1, h1, h2, h3, q⟩ := h
    walk_at "term check_tokens"
    obtain ⟨d, _, rfl, _⟩ := hA.dctR m1
    refine s_lockO [] hA m1 (fun _ _ h => by cases h) fun o kvs M H1 D1 hk hm hA ends => ?_
    refine s_for (s_iKeys (s_var rfl (src_keys hA (hm []) (for_D (wd_keys hk) hA (fun i σ L' => (∃ c, σ = [some (.ref d), c]) ∧ L' = M ++ ([] ++ L)) ?_ ?_ ?_ ?_))))
    · exact ⟨⟨none, rfl⟩, rfl⟩
    · rintro _ _ _ ⟨_, rfl⟩
      exact hm []
    · rintro i dd v σ L1 H hd ⟨⟨c, rfl⟩, rfl⟩ hA
      obtain ⟨x, hx, rfl⟩ := keys_get hd
      obtain rfl : v = .str x.1 := hA.sc_of
      replace hA := hA.drop
      have hx' := List.mem_of_getElem? hx
      have hv := h1.val x hx'
      have hg : lk (l.map pairK) (Sum.inr x.1) = some (.int x.2) := lk_pairs (k := fun x : PySem.Str × Int => x.1) (f := fun x : PySem.Str × Int => D.int x.2) h1.nd hx'
      repeat' walk_at "nw"
      refine r_name hA (h3 _ ((h1.mem _).mp (List.mem_map.mpr ⟨x, hx', rfl⟩))) fun H hA => ?_
      repeat' walk_at "nw"
      refine r_dgSs hA m1 hg ?_
      repeat' walk_at "nw"
      refine r_cvalQ B.n_most ?_
      repeat' walk_at "nw"
      refine r_between hA hv.1 hv.2 ?_
      repeat' walk_at "nw"
      exact ⟨_, ⟨⟨_, rfl⟩, rfl⟩, hA⟩
    · rintro σ L1 H ⟨⟨c, rfl⟩, rfl⟩ hA
      refine ends.nx _ _ _ _ hA fun H3 hA => ?_
      exact q _ hA
/-! #### arcs -/
theorem zip_fst {α β : Type} : ∀ (l : List α) (m : List β), m.length = l.length → (l.zip m).map (·.1) = l
  | [], _, _ => rfl
  | a :: l, [], h => by cases h
  | a :: l, b :: m, h => by
    rw [List.zip_cons_cons, List.map_cons, zip_fst l m (by simpa using h)]
theorem side_nd {ps : List PySem.Str} {ns : List Int} (nd : ps.Nodup) (h : ns.length = ps.length) : (((ps.zip ns).filter fun p => decide (0 < p.2)).map (·.1)).Nodup := by
  have s : (((ps.zip ns).filter fun p => decide (0 < p.2)).map (·.1)).Sublist ((ps.zip ns).map (·.1)) := List.filter_sublist.map _
  rw [zip_fst ps ns h] at s
  exact s.nodup nd
theorem side_lk {ps : List PySem.Str} {ns : List Int} {x : PySem.Str × Int} (nd : ps.Nodup) (h : ns.length = ps.length) (hx : x ∈ (ps.zip ns).filter fun p => decide (0 < p.2)) : lk (sideK ps ns) (Sum.inr x.1) = some (.int x.2) :=
  lk_pairs (k := fun x : PySem.Str × Int => x.1) (f := fun x : PySem.Str × Int => D.int x.2) (side_nd nd h) hx
theorem side_mem {ps : List PySem.Str} {ns : List Int} {x : PySem.Str × Int} {n : Nat} (hr : RowOk n ns) (hx : x ∈ (ps.zip ns).filter fun p => decide (0 < p.2)) : x.1 ∈ ps ∧ 1 ≤ x.2 ∧ x.2 ≤ 1000000000 := by
  obtain ⟨h1, h2⟩ := List.mem_filter.mp hx
  obtain ⟨h3, h4⟩ := List.of_mem_zip (a := x.1) (b := x.2) h1
  have h5 := of_decide_eq_true h2
  have h6 := hr.2 _ h4
  exact ⟨h3, by omega, h6.2⟩
theorem PlOk.lk {ps : List PySem.Str} {l : List (PySem.Str × Int)} (h : PlOk ps l) {z : PySem.Str} (hz : z ∈ ps) : ∃ n, Nw.lk (l.map pairK) (Sum.inr z) = some (.int n) ∧ (z, n) ∈ l := by
  obtain ⟨x, hx, rfl⟩ := List.mem_map.mp ((h.mem z).mpr hz)
  exact ⟨x.2, lk_pairs (k := fun x : PySem.Str × Int => x.1) (f := fun x : PySem.Str × Int => D.int x.2) h.nd hx, hx⟩
theorem PlOk.no {ps : List PySem.Str} {l : List (PySem.Str × Int)} (h : PlOk ps l) {z : PySem.Str} (hz : z ∉ ps) : Nw.lk (l.map pairK) (Sum.inr z) = none := by
  refine lk_none fun m => ?_
  rw [List.map_map] at m
  obtain ⟨x, hx, e⟩ := List.mem_map.mp m
  have e1 : x.1 = z := Sum.inr.inj e
  exact hz ((h.mem z).mp (List.mem_map.mpr ⟨x, hx, e1⟩))
theorem TrOk.lk {W : Wd} {t : List (PySem.Str × List Int × List Int)} (h : TrOk W t) {x : PySem.Str × List Int × List Int} (hx : x ∈ t) : Nw.lk (t.map (trK W.ps)) (Sum.inr x.1) = some (.tup [.dct (sideK W.ps x.2.1), .dct (sideK W.ps x.2.2)]) :=
  lk_pairs (k := fun x : PySem.Str × List Int × List Int => x.1) (f := fun x : PySem.Str × List Int × List Int => D.tup [.dct (sideK W.ps x.2.1), .dct (sideK W.ps x.2.2)]) h.nd hx
theorem TrOk.row {W : Wd} {t : List (PySem.Str × List Int × List Int)} (h : TrOk W t) (o : W.Ok) {x : PySem.Str × List Int × List Int} (hx : x ∈ t) : x.1 ∈ W.ts ∧ RowOk W.ps.length x.2.1 ∧ RowOk W.ps.length x.2.2 := by
  obtain ⟨k, h1, h2, h3⟩ := h.val x hx
  exact ⟨List.mem_of_getElem? h1, o.kr _ (List.mem_of_getElem? h2), o.gr _ (List.mem_of_getElem? h3)⟩
theorem Wd.Ok.pnd {W : Wd} (o : W.Ok) : W.ps.Nodup := pw_nodup SLt.irr o.pp
theorem Wd.Ok.tnd {W : Wd} (o : W.Ok) : W.ts.Nodup := pw_nodup SLt.irr o.tp
theorem if_no {A B : Prop} {b : Bool} (e : b = false) (q : B) : if b = true then A else B := by rw [e]; exact i_f q
def sp_check_arcs (K : PySem.W.Frag) : Sp := fun vs H Q E => ∃ R L v1 v2 W l t, vs = [v1, v2] ∧ At R L H ∧ (D.dct (l.map pairK), v1) ∈ R ∧ (D.dct (t.map (trK W.ps)), v2) ∈ R ∧ W.Ok ∧ PlOk W.ps l ∧ TrOk W t ∧ ∀ H', At R L H' → Q .non H'
theorem r_arcs {R : RL} {L : LL} {H : Hp} {v1 v2 : V} {W : Wd} {l : List (PySem.Str × Int)} {t : List (PySem.Str × List Int × List Int)} {Q : VK} {E : XK} (hA : At R L H) (m1 : (D.dct (l.map pairK), v1) ∈ R) (m2 : (D.dct (t.map (trK W.ps)), v2) ∈ R) (o : W.Ok) (h1 : PlOk W.ps l) (h2 : TrOk W t) (q : ∀ H', At R L H' → Q .non H') : sp_check_arcs K [v1, v2] H Q E := ⟨R, L, v1, v2, W, l, t, rfl, hA, m1, m2, o, h1, h2, q⟩
set_option hygiene false in
local macro_rules | `(tactic| walk_at "term check_arcs") => `(tactic| refine ⟨_, PSs.nox (pss_one (ps_lockO (ps_for PassesOwn.never rfl (pi_keys (pv 1)) (pg_name (i := 2) sc_check_arcs.nd rfl (Or.inl rfl))
  (pss_cons (ps_if (PW.pt (pw_or (pt_not (pt_val (pe_fn (F_is_name (P := P) (K := K) (mg := mg) B) hr (by decide) passL rfl (pa_cons (pv 2) pa_nil)))) (pw_or1 (pt_cmp (pc_din (hu_le hr (by decide)) (pv 2) (pv 0))))))
  (pss_one (ps_never))
  pss_nil)
  (pss_one (ps_for PassesOwn.never rfl (pi_tupK K rfl (pe_dget (hu_le hr (by decide)) (pv 1) (pv 2) (fun _ _ => rfl))) (pg_name (i := 3) sc_check_arcs.nd rfl (Or.inl rfl))
  (pss_one (ps_lockO (ps_for PassesOwn.never rfl (pi_keys (pv 3)) (pg_name (i := 4) sc_check_arcs.nd rfl (Or.inl rfl))
  (pss_one (ps_if (PW.pt (pw_or (pt_cmp (pc_dnotin (hu_le hr (by decide)) (pv 4) (pv 0))) (pw_or1 (pt_not (pt_val (pe_fn (F_is_between (P := P) (K := K) (mg := mg) B) hr (by decide) passL rfl (pa_cons (pe_dget (hu_le hr (by decide)) (pv 3) (pv 4) (fun _ _ => rfl)) (pa_cons pe_int (pa_cons (ClX.pe_cval (pe_glob (v := .ref (He.ga K "Net")) rfl B.g_Net rfl) rfl) pa_nil)))))))))
  (pss_one (ps_never))
  pss_nil))))))))))), ?_⟩)
theorem F_check_arcs (B : Bun P K mg) : Fn P w K mg base 4 "check_arcs" ["places", "transitions"] (sp_check_arcs K) := by
  refine B.d_check_arcs.fn (k := 3) sc_check_arcs (fun vs H Q E h => ?_) (fun _ _ _ _ _ _ us hl => match us, hl with | [_, _], _ => rfl) fun f cdv A outer s H vs Q E hr h => ?_
  · obtain ⟨_, _, _, _, _, _, _, rfl, _⟩ := h
    rfl
  · obtain ⟨R, L, v1, v2, W, l, t, rfl, hA, m1, m2, o, h1, h2, q⟩ := h
    walk_at "term check_arcs"
    obtain ⟨d, _, rfl, _⟩ := hA.dctR m2
    refine s_lockO [] hA m2 (fun _ _ h => by cases h) fun ob kvs M H1 D1 hk hm hA ends => ?_
    refine s_for (s_iKeys (s_var rfl (src_keys hA (hm []) (for_D (wd_keys hk) hA (fun i σ L' => (∃ c c1 c2, σ = [some v1, some (.ref d), c, c1, c2]) ∧ L' = M ++ ([] ++ L)) ?_ ?_ ?_ ?_))))
    · exact ⟨⟨none, none, none, rfl⟩, rfl⟩
    · rintro _ _ _ ⟨_, rfl⟩
      exact hm []
    · rintro i dd v σ L1 H hd ⟨⟨c, c1, c2, rfl⟩, rfl⟩ hA
      obtain ⟨x, hx, rfl⟩ := keys_get hd
      obtain rfl : v = .str x.1 := hA.sc_of
      replace hA := hA.drop
      have hx' := List.mem_of_getElem? hx
      have hv := h2.row o hx'
      repeat' walk_at "nw"
      refine r_name hA (o.tn _ hv.1) fun H hA => ?_
      repeat' walk_at "nw"
      refine r_dinS hA m1 ?_
      rw [h1.no (o.dis _ hv.1)]
      repeat' walk_at "nw"
      refine if_no rfl ?_
      repeat' walk_at "nw"
      dsimp only
      refine s_for ?_
      refine s_iTup ?_
      repeat' walk_at "nw"
      refine r_dgS hA m2 (h2.lk hx') fun tv hA => ?_
      refine src_tup hA (.head _) fun a ea W2 => for_D W2 hA (fun i σ L' => (∃ c c1, σ = [some v1, some (.ref d), some (.str x.1), c, c1]) ∧ L' = M ++ ([] ++ L)) ?_ ?_ ?_ ?_
      · exact ⟨⟨_, _, rfl⟩, rfl⟩
      · exact fun _ _ _ _ => True.intro
      · rintro j sd sv σ L1 H hsd ⟨⟨c, c1, rfl⟩, rfl⟩ hA
        obtain ⟨ns, hns, rfl⟩ : ∃ ns, RowOk W.ps.length ns ∧ sd = .dct (sideK W.ps ns) := by
          rcases j with _ | _ | j
          · exact ⟨_, hv.2.1, (Option.some.inj hsd).symm⟩
          · exact ⟨_, hv.2.2, (Option.some.inj hsd).symm⟩
          · cases hsd
        refine s_name ?_
        obtain ⟨d2, _, rfl, _⟩ := hA.dctR (List.mem_cons_self)
        refine s_lockO [] hA (List.mem_cons_self) (fun _ _ h => by cases h) fun ob2 kvs2 M2 H2 D2 hk2 hm2 hA ends2 => ?_
        refine s_for (s_iKeys (s_var rfl (src_keys hA (hm2 []) (for_D (wd_keys hk2) hA (fun i σ L' => (∃ c1, σ = [some v1, some (.ref d), some (.str x.1), some (.ref d2), c1]) ∧ L' = M2 ++ ([] ++ (M ++ ([] ++ L)))) ?_ ?_ ?_ ?_))))
        · exact ⟨⟨_, rfl⟩, rfl⟩
        · rintro _ _ _ ⟨_, rfl⟩
          exact hm2 []
        · rintro i2 dd v σ L1 H hd ⟨⟨c, rfl⟩, rfl⟩ hA
          unfold sideK sideL at hd
          obtain ⟨y, hy, rfl⟩ := keys_get hd
          obtain rfl : v = .str y.1 := hA.sc_of
          replace hA := hA.drop
          have hy' := List.mem_of_getElem? hy
          have hm' := side_mem hns hy'
          have hlk := side_lk o.pnd hns.1 hy'
          obtain ⟨n, hn, _⟩ := h1.lk hm'.1
          repeat' walk_at "nw"
          refine r_dninS hA (.tail _ (.tail _ m1)) ?_
          rw [hn]
          repeat' walk_at "nw"
          refine if_no rfl ?_
          repeat' walk_at "nw"
          refine r_dgSs hA (List.mem_cons_self) hlk ?_
          repeat' walk_at "nw"
          refine r_cvalQ B.n_most ?_
          repeat' walk_at "nw"
          refine r_between hA hm'.2.1 hm'.2.2 ?_
          repeat' walk_at "nw"
          exact ⟨_, ⟨⟨_, rfl⟩, rfl⟩, hA⟩
        · rintro σ L1 H ⟨⟨c, rfl⟩, rfl⟩ hA
          refine ends2.nx _ _ _ _ hA fun H3 hA => ?_
          exact ⟨_, ⟨⟨_, _, rfl⟩, rfl⟩, hA.drop⟩
      · rintro σ L1 H ⟨⟨c, c1, rfl⟩, rfl⟩ hA
        exact ⟨_, ⟨⟨_, _, _, rfl⟩, rfl⟩, hA.drop⟩
    · rintro σ L1 H ⟨⟨c, c1, c2, rfl⟩, rfl⟩ hA
      refine ends.nx _ _ _ _ hA fun H3 hA => ?_
      exact q _ hA
end
end K26
set_option maxRecDepth 100000
set_option maxHeartbeats 4000000
namespace K26
open PySem PySem.Spec PyProof.Rows L2 Nw
set_option hygiene false in
local macro_rules | `(tactic| walk_at "nf") => `(tactic| first | exact B.n_cls | exact B.n_places | exact B.n_transitions | exact B.n_start | exact B.n_index | exact B.n_takes | exact B.n_gives | exact B.n_takers | exact B.n_givers | exact B.n_labels)
local macro_rules | `(tactic| walk_at "nm") => `(tactic| first | exact .head _ | exact .tail _ (.head _) | exact .tail _ (.tail _ (.head _)) | exact .tail _ (.tail _ (.tail _ (.head _))) | exact .tail _ (.tail _ (.tail _ (.tail _ (.head _)))) | exact .tail _ (.tail _ (.tail _ (.tail _ (.tail _ (.head _))))) | exact .tail _ (.tail _ (.tail _ (.tail _ (.tail _ (.tail _ (.head _)))))) | exact List.mem_append_right _ (.head _) | exact List.mem_append_right _ (.tail _ (.head _)) | exact .tail _ (List.mem_append_right _ (.head _)) | exact .tail _ (.tail _ (List.mem_append_right _ (.head _))) | exact .tail _ (.tail _ (.tail _ (List.mem_append_right _ (.head _)))) | (repeat (first | assumption | refine List.mem_cons_of_mem _ ?_)))
set_option hygiene false in
local macro_rules | `(tactic| walk_at "dr") => `(tactic| repeat (first | exact hA | apply At.drop))
local macro_rules | `(tactic| walk_at "mm") => `(tactic| repeat (first | assumption | exact List.mem_cons_self | refine List.mem_cons_of_mem _ ?_))
local macro_rules | `(tactic| walk_at "nb") => `(tactic| first | exact isT_int_int | exact isT_int_bool | exact isT_int_str | exact isT_int_list | exact isT_int_tuple | exact isT_bool_int | exact isT_bool_bool | exact isT_bool_str | exact isT_bool_list | exact isT_bool_tuple | exact isT_str_int | exact isT_str_bool | exact isT_str_str | exact isT_str_list | exact isT_str_tuple | exact isT_NoneType_int | exact isT_NoneType_bool | exact isT_NoneType_str | exact isT_NoneType_list | exact isT_NoneType_tuple | exact isT_list_int | exact isT_list_bool | exact isT_list_str | exact isT_list_list | exact isT_list_tuple | exact isT_tuple_int | exact isT_tuple_bool | exact isT_tuple_str | exact isT_tuple_list | exact isT_tuple_tuple | decide +kernel)
local macro_rules | `(tactic| walk_at "ni") => `(tactic| first | exact InR.mem (by walk_at "nm") | exact InR.sc | assumption)
local macro_rules | `(tactic| walk_at "nc") => `(tactic| first | omega | decide | (unfold CMul; omega) | (unfold CDiv; omega) | (unfold CPow; omega) | (unfold CPow; decide))
local macro_rules | `(tactic| walk_at "nl") => `(tactic| first | omega | decide | (simp only [List.length_cons, List.length_nil, List.length_append, List.length_map, List.length_set]; omega) | (simp; omega))
local macro_rules | `(tactic| walk_at "nh") => `(tactic| first | exact HasL.r (by walk_at "nm") | exact HasL.o (by walk_at "nm") | assumption)
local macro_rules | `(tactic| walk_at "na") => `(tactic| first | exact AllR.nil | (refine AllR.cons (by walk_at "ni") ?_; walk_at "na"))
local macro_rules | `(tactic| walk_at "nt") => `(tactic| first | exact HasTy.int _ | exact HasTy.str _ | exact HasTy.bl _ | exact HasTy.non | exact HasTy.lst (by walk_at "nm") | exact HasTy.tup (by walk_at "nm") | exact HasTy.own (by walk_at "nm"))
set_option hygiene false in
local macro_rules | `(tactic| walk_at "nw") => `(tactic| first
  | (with_reducible refine' s_seq ?_)
  | (with_reducible refine' s_asg ?_)
  | (with_reducible refine' s_name ?_)
  | (with_reducible refine' s_ret ?_)
  | (with_reducible refine' s_drop ?_)
  | (with_reducible refine' s_next ?_)
  | (with_reducible refine' s_op ?_)
  | (with_reducible refine' s_un ?_)
  | (with_reducible refine' s_c ?_)
  | (with_reducible refine' s_cons ?_)
  | (with_reducible refine' s_nil ?_)
  | (with_reducible refine' s_cb ?_)
  | (with_reducible refine' s_call ?_)
  | (with_reducible refine' s_callS ?_)
  | (with_reducible refine' s_test ?_)
  | (with_reducible refine' s_tb ?_)
  | (with_reducible refine' s_bl ?_)
  | (with_reducible refine' s_not ?_)
  | (with_reducible refine' s_if ?_)
  | (with_reducible refine' s_ifE ?_)
  | (with_reducible refine' s_and ?_)
  | (with_reducible refine' s_or ?_)
  | (with_reducible refine' s_andV ?_)
  | (with_reducible refine' s_orV ?_)
  | (with_reducible refine' s_notV ?_)
  | (with_reducible refine' s_sub ?_)
  | (with_reducible refine' s_chain ?_)
  | (with_reducible refine' s_sl ?_)
  | (with_reducible refine' s_noPart ?_)
  | (with_reducible refine' s_part ?_)
  | (with_reducible refine' r_part ?_)
  | (with_reducible refine' s_m1 ?_)
  | (with_reducible refine' s_fldQ ?_)
  | (with_reducible refine' s_setF ?_)
  | (with_reducible refine' s_cvalQ ?_)
  | (with_reducible refine' s_lstRev ?_)
  | (with_reducible refine' s_dgetQ ?_)
  | (with_reducible refine' s_din ?_)
  | (with_reducible refine' s_dnotin ?_)
  | (with_reducible refine' s_dput ?_)
  | (with_reducible refine' s_dget2Q ?_)
  | (with_reducible refine' s_mkX1 ?_)
  | (with_reducible refine' s_make ?_)
  | (with_reducible refine' s_lstRg ?_)
  | (with_reducible refine' s_tru ?_)
  | (with_reducible refine' s_star ?_)
  | (with_reducible refine' s_xf ?_)
  | (with_reducible refine' s_yes ?_)
  | (with_reducible refine' r_I0 ?_)
  | (with_reducible refine' r_U ?_)
  | (with_reducible refine' r_eqI ?_)
  | (with_reducible refine' r_neI ?_)
  | (with_reducible refine' r_eqS ?_)
  | (with_reducible refine' r_neS ?_)
  | (with_reducible refine' n_isR ?_)
  | (with_reducible refine' n_isN ?_)
  | (with_reducible refine' n_isI ?_)
  | (with_reducible refine' n_isS ?_)
  | (with_reducible refine' n_isB ?_)
  | (with_reducible refine' n_ntR ?_)
  | (with_reducible refine' n_ntN ?_)
  | (with_reducible refine' n_ntI ?_)
  | (with_reducible refine' n_ntS ?_)
  | (with_reducible refine' n_ntB ?_)
  | (with_reducible refine' i_t ?_)
  | (with_reducible refine' i_f ?_)
  | (with_reducible refine' i_nt ?_)
  | (with_reducible refine' i_nf ?_)
  | ((with_reducible refine' s_var ?g1 ?_); (case g1 => rfl))
  | ((with_reducible refine' r_I ?g1 ?_); (case g1 => walk_at "nc"))
  | ((with_reducible refine' w_int ?_))
  | ((with_reducible refine' w_abs ?_))
  | ((with_reducible refine' r_max2 ?_))
  | ((with_reducible refine' r_lenS ?g1 ?_); (case g1 => walk_at "nl"))
  | ((with_reducible refine' r_addS ?g1 ?_); (case g1 => walk_at "nl"))
  | ((with_reducible refine' r_slS ?g1 ?_); (case g1 => walk_at "nl"))
  | ((with_reducible refine' r_inS ?_))
  | ((with_reducible refine' r_ixOs hA ?g1 ?g2 ?g3 ?_); (case g1 => walk_at "nm"); (case g2 => walk_at "nc"); (case g3 => rfl))
  | ((with_reducible refine' r_ixLs hA ?g1 ?g2 ?g3 ?_); (case g1 => walk_at "nm"); (case g2 => walk_at "nc"); (case g3 => rfl))
  | ((with_reducible refine' r_ixTs hA ?g1 ?g2 ?g3 ?_); (case g1 => walk_at "nm"); (case g2 => walk_at "nc"); (case g3 => rfl))
  | (((with_reducible refine' r_ixO hA ?g1 ?g2 ?g3 ?_); (case g1 => walk_at "nm"); (case g2 => walk_at "nc"); (case g3 => rfl)); intro v hA)
  | (((with_reducible refine' r_ixL hA ?g1 ?g2 ?g3 ?_); (case g1 => walk_at "nm"); (case g2 => walk_at "nc"); (case g3 => rfl)); intro v hA)
  | (((with_reducible refine' r_ixT hA ?g1 ?g2 ?g3 ?_); (case g1 => walk_at "nm"); (case g2 => walk_at "nc"); (case g3 => rfl)); intro v hA)
  | ((with_reducible refine' r_lenO hA ?g1 ?_); (case g1 => walk_at "nm"))
  | ((with_reducible refine' r_lenL hA ?g1 ?_); (case g1 => walk_at "nm"))
  | ((with_reducible refine' r_lenT hA ?g1 ?_); (case g1 => walk_at "nm"))
  | ((with_reducible refine' r_lenD hA ?g1 ?_); (case g1 => walk_at "nm"))
  | ((with_reducible refine' r_tqT hA ?g1 ?_); (case g1 => walk_at "nm"))
  | (((with_reducible refine' w_setL [] (o := .non) hA ?g1 ?g2 ?g3 ?_); (case g1 => walk_at "ni"); (case g2 => walk_at "nc"); (case g3 => walk_at "nl")); (try clear hA); intro H hA; dsimp only [List.set, Int.toNat, List.cons_append, List.nil_append] at hA)
  | (((with_reducible refine' w_setL [_] (o := .non) hA ?g1 ?g2 ?g3 ?_); (case g1 => walk_at "ni"); (case g2 => walk_at "nc"); (case g3 => walk_at "nl")); (try clear hA); intro H hA; dsimp only [List.set, Int.toNat, List.cons_append, List.nil_append] at hA)
  | (((with_reducible refine' w_setL [_, _] (o := .non) hA ?g1 ?g2 ?g3 ?_); (case g1 => walk_at "ni"); (case g2 => walk_at "nc"); (case g3 => walk_at "nl")); (try clear hA); intro H hA; dsimp only [List.set, Int.toNat, List.cons_append, List.nil_append] at hA)
  | (((with_reducible refine' w_setL [_, _, _] (o := .non) hA ?g1 ?g2 ?g3 ?_); (case g1 => walk_at "ni"); (case g2 => walk_at "nc"); (case g3 => walk_at "nl")); (try clear hA); intro H hA; dsimp only [List.set, Int.toNat, List.cons_append, List.nil_append] at hA)
  | ((with_reducible refine' s_bm ?_); skip)
  | (((with_reducible refine' w_append [] hA ?g1 ?g2 ?_); (case g1 => walk_at "ni"); (case g2 => walk_at "nl")); (try clear hA); intro H hA; dsimp only [List.set, Int.toNat, List.cons_append, List.nil_append] at hA)
  | (((with_reducible refine' w_append [_] hA ?g1 ?g2 ?_); (case g1 => walk_at "ni"); (case g2 => walk_at "nl")); (try clear hA); intro H hA; dsimp only [List.set, Int.toNat, List.cons_append, List.nil_append] at hA)
  | (((with_reducible refine' w_append [_, _] hA ?g1 ?g2 ?_); (case g1 => walk_at "ni"); (case g2 => walk_at "nl")); (try clear hA); intro H hA; dsimp only [List.set, Int.toNat, List.cons_append, List.nil_append] at hA)
  | (((with_reducible refine' w_append [_, _, _] hA ?g1 ?g2 ?_); (case g1 => walk_at "ni"); (case g2 => walk_at "nl")); (try clear hA); intro H hA; dsimp only [List.set, Int.toNat, List.cons_append, List.nil_append] at hA)
  | ((with_reducible refine' ⟨ty_lst hA ?g1, ?_⟩); (case g1 => walk_at "nm"))
  | ((with_reducible refine' r_isi hA ?g1 ?g2 ?_); (case g1 => walk_at "nt"); (case g2 => walk_at "nb"))
  | (((with_reducible refine' r_lstRg hA ?g1 ?g2 ?_); (case g1 => walk_at "nc"); (case g2 => walk_at "nc")); intro p H hA)
  | (((with_reducible refine' r_list hA ?g1 ?_); (case g1 => walk_at "nh")); intro p H hA)
  | (((with_reducible refine' r_slL hA ?g1 ?_); (case g1 => walk_at "nh")); intro p H hA)
  | (((with_reducible refine' r_listT hA ?g1 ?_); (case g1 => walk_at "nm")); intro p H hA)
  | (((with_reducible refine' r_listD hA ?g1 ?_); (case g1 => walk_at "nm")); intro p H hA)
  | (((with_reducible refine' r_tuple hA ?g1 ?_); (case g1 => walk_at "nh")); intro v H hA)
  | (((with_reducible refine' r_slT hA ?g1 ?_); (case g1 => walk_at "nm")); intro v H hA)
  | (((with_reducible refine' r_lstRev hA ?g1 ?_); (case g1 => walk_at "nh")); intro p H hA)
  | ((with_reducible refine' s_tup ?_); skip)
  | ((with_reducible refine' s_lst ?_); skip)
  | (((with_reducible refine' r_tup hA ?g1 ?g2 ?_); (case g1 => walk_at "na"); (case g2 => walk_at "nl")); intro v H hA)
  | (with_reducible refine' r_dnew hA ?_; intro p H hA)
  | (((with_reducible refine' r_fdO hA ?g1 ?g2 ?g3 ?g4 ?_); (case g1 => walk_at "nm"); (case g2 => walk_at "nf"); (case g3 => walk_at "nf"); (case g4 => rfl)); intro v hA)
  | (((with_reducible refine' r_fd hA ?g1 ?g2 ?g3 ?g4 ?_); (case g1 => walk_at "nm"); (case g2 => walk_at "nf"); (case g3 => walk_at "nf"); (case g4 => rfl)); intro v hA)
  | (with_reducible refine' i_dec (fun hc => ?_) (fun hc => ?_))
  | (with_reducible refine' i_ndec (fun hc => ?_) (fun hc => ?_))
  | (with_reducible refine' i_ne (fun hc => ?_) (fun hc => ?_))
  | (with_reducible refine' i_em (fun hc => ?_) (fun hc => ?_)))
section
variable {P : Program} {w : World} {K : PySem.W.Frag} {mg : PySem.Str → Option Value} {base : Heap}
/-! ### labels -/
theorem TrOk.has {W : Wd} {t : List (PySem.Str × List Int × List Int)} (h : TrOk W t) {z : PySem.Str} (hz : z ∈ W.ts) : ∃ x ∈ t, x.1 = z := by
  obtain ⟨x, hx, e⟩ := List.mem_map.mp ((h.mem z).mpr hz)
  exact ⟨x, hx, e⟩
def sp_check_labels (K : PySem.W.Frag) : Sp := fun vs H Q E => ∃ R L v1 v2 W t lb, vs = [v1, v2] ∧ At R L H ∧ (D.dct (t.map (trK W.ps)), v1) ∈ R ∧ (D.dct (lb.map labK), v2) ∈ R ∧ TrOk W t ∧ LabOk W lb ∧ ∀ H', At R L H' → Q .non H'
theorem r_labels {R : RL} {L : LL} {H : Hp} {v1 v2 : V} {W : Wd} {t : List (PySem.Str × List Int × List Int)} {lb : List (PySem.Str × PySem.Str)} {Q : VK} {E : XK} (hA : At R L H) (m1 : (D.dct (t.map (trK W.ps)), v1) ∈ R) (m2 : (D.dct (lb.map labK), v2) ∈ R) (h1 : TrOk W t) (h2 : LabOk W lb) (q : ∀ H', At R L H' → Q .non H') : sp_check_labels K [v1, v2] H Q E := ⟨R, L, v1, v2, W, t, lb, rfl, hA, m1, m2, h1, h2, q⟩
set_option hygiene false in
local macro_rules | `(tactic| walk_at "term check_labels") => `(tactic| refine ⟨_, PSs.nox (pss_one (ps_lockO (ps_for PassesOwn.never rfl (pi_keys (pv 1)) (pg_name (i := 2) sc_check_labels.nd rfl (Or.inl rfl))
  (pss_cons (ps_if (pt_cmp (pc_dnotin (hu_le hr (by decide)) (pv 2) (pv 0)))
  (pss_one (ps_never))
  pss_nil)
  (pss_one (ps_if (PW.pt (pw_and (pt_cmpR op_ne (pe_dget (hu_le hr (by decide)) (pv 1) (pv 2) (fun _ _ => rfl)) pe_str (nomark _)) (pw_and1 (pt_not (pt_val (pe_fn (F_is_name (P := P) (K := K) (mg := mg) B) hr (by decide) passL rfl (pa_cons (pe_dget (hu_le hr (by decide)) (pv 1) (pv 2) (fun _ _ => rfl)) pa_nil)))))))
  (pss_one (ps_never))
  pss_nil)))))), ?_⟩)
theorem F_check_labels (B : Bun P K mg) : Fn P w K mg base 3 "check_labels" ["transitions", "labels"] (sp_check_labels K) := by
  refine B.d_check_labels.fn (k := 2) sc_check_labels (fun vs H Q E h => ?_) (fun _ _ _ _ _ _ us hl => match us, hl with | [_, _], _ => rfl) fun f cdv A outer s H vs Q E hr h => ?_
  · obtain ⟨_, _, _, _, _, _, _, rfl, _⟩ := h
    rfl
  · obtain ⟨R, L, v1, v2, W, t, lb, rfl, hA, m1, m2, h1, h2, q⟩ := h
    walk_at "term check_labels"
    obtain ⟨d, _, rfl, _⟩ := hA.dctR m2
    refine s_lockO [] hA m2 (fun _ _ h => by cases h) fun o kvs M H1 D1 hk hm hA ends => ?_
    refine s_for (s_iKeys (s_var rfl (src_keys hA (hm []) (for_D (wd_keys hk) hA (fun i σ L' => (∃ c, σ = [some v1, some (.ref d), c]) ∧ L' = M ++ ([] ++ L)) ?_ ?_ ?_ ?_))))
    · exact ⟨⟨none, rfl⟩, rfl⟩
    · rintro _ _ _ ⟨_, rfl⟩
      exact hm []
    · rintro i dd v σ L1 H hd ⟨⟨c, rfl⟩, rfl⟩ hA
      obtain ⟨x, hx, rfl⟩ := keys_get hd
      obtain rfl : v = .str x.1 := hA.sc_of
      replace hA := hA.drop
      have hx' := List.mem_of_getElem? hx
      have hv := h2.val x hx'
      obtain ⟨y, hy, ey⟩ := h1.has (h2.mem _ (List.mem_map.mpr ⟨x, hx', rfl⟩))
      have hlk := h1.lk hy
      rw [ey] at hlk
      have hg : lk (lb.map labK) (Sum.inr x.1) = some (.str x.2) := lk_pairs (k := fun x : PySem.Str × PySem.Str => x.1) (f := fun x : PySem.Str × PySem.Str => D.str x.2) h2.nd hx'
      repeat' walk_at "nw"
      refine r_dninS hA m1 ?_
      rw [hlk]
      repeat' walk_at "nw"
      refine if_no rfl ?_
      repeat' walk_at "nw"
      refine r_dgSs hA m2 hg ?_
      repeat' walk_at "nw"
      · refine r_dgSs hA m2 hg ?_
        repeat' walk_at "nw"
        refine r_name hA (hv.resolve_left hc) fun H hA => ?_
        repeat' walk_at "nw"
        exact ⟨_, ⟨⟨_, rfl⟩, rfl⟩, hA⟩
      · exact ⟨_, ⟨⟨_, rfl⟩, rfl⟩, hA⟩
    · rintro σ L1 H ⟨⟨c, rfl⟩, rfl⟩ hA
      refine ends.nx _ _ _ _ hA fun H3 hA => ?_
      exact q _ hA
/-! ### arcs by index -/
def arcsFrom (k : Nat) : List Int → List (Int × Int)
  | [] => []
  | n :: ns => if 0 < n then ((k : Nat), n) :: arcsFrom (k + 1) ns else arcsFrom (k + 1) ns
def arcsOf (ns : List Int) : List (Int × Int) := arcsFrom 0 ns
theorem arcs_lt : ∀ (ns : List Int) (k : Nat), (∀ x ∈ arcsFrom k ns, (k : Int) ≤ x.1) ∧ (arcsFrom k ns).Pairwise fun a b => a.1 < b.1
  | [], k => ⟨fun x h => (by cases h), List.Pairwise.nil⟩
  | n :: ns, k => by
    obtain ⟨h1, h2⟩ := arcs_lt ns (k + 1)
    rw [arcsFrom]
    split
    · refine ⟨fun x hx => ?_, List.pairwise_cons.mpr ⟨fun x hx => ?_, h2⟩⟩
      · rcases List.mem_cons.mp hx with rfl | hx
        · exact Int.le_refl _
        · have := h1 x hx; omega
      · have := h1 x hx
        show (k : Int) < x.1
        omega
    · exact ⟨fun x hx => by have := h1 x hx; omega, h2⟩
def ixOf (ps : List PySem.Str) (y : PySem.Str × Int) : Int × Int := ((ps.idxOf y.1 : Nat), y.2)
theorem ix_arcs {ps : List PySem.Str} (nd : ps.Nodup) : ∀ (qs pre : List PySem.Str) (ns : List Int), ps = pre ++ qs → ((qs.zip ns).filter fun p => decide (0 < p.2)).map (ixOf ps) = arcsFrom pre.length (ns.take qs.length)
  | [], pre, ns, _ => by simp [arcsFrom]
  | q :: qs, pre, [], _ => by simp [arcsFrom]
  | q :: qs, pre, n :: ns, e => by
    have ih := ix_arcs nd qs (pre ++ [q]) ns (by rw [e]; simp)
    rw [List.length_append] at ih
    have iq : ps.idxOf q = pre.length := by
      have hn : q ∉ pre := fun h => by
        rw [e] at nd
        exact (List.nodup_append.mp nd).2.2 q h q List.mem_cons_self rfl
      rw [e, List.idxOf_append, if_neg hn, List.idxOf_cons_self]
      omega
    rw [List.zip_cons_cons, List.filter_cons, List.length_cons, List.take_succ_cons, arcsFrom]
    by_cases h : 0 < n
    · rw [if_pos (by simpa using h), if_pos h, List.map_cons, ih]
      unfold ixOf
      rw [iq]
      simp
    · rw [if_neg (by simpa using h), if_neg h, ih]
      rfl
theorem arcs_ok {ps : List PySem.Str} {ns : List Int} (nd : ps.Nodup) (h : ns.length = ps.length) : ((ps.zip ns).filter fun p => decide (0 < p.2)).map (ixOf ps) = arcsOf ns := by
  have e := ix_arcs nd ps [] ns rfl
  rw [List.take_of_length_le (by omega)] at e
  exact e
/-- the index of the places -/
def idxK (ps : List PySem.Str) : List (Key × D) := ps.map fun z => (Sum.inr z, .int (ps.idxOf z : Nat))
theorem idx_lk {ps : List PySem.Str} (nd : ps.Nodup) {z : PySem.Str} (h : z ∈ ps) : lk (idxK ps) (Sum.inr z) = some (.int (ps.idxOf z : Nat)) :=
  lk_pairs (k := fun z : PySem.Str => z) (f := fun z => D.int (ps.idxOf z : Nat)) (by rw [List.map_id']; exact nd) h
def sp_indexed (K : PySem.W.Frag) : Sp := fun vs H Q E => ∃ R L v1 v2 ps ns, vs = [v1, v2] ∧ At R L H ∧ (D.dct (idxK ps), v1) ∈ R ∧ (D.dct (sideK ps ns), v2) ∈ R ∧ ps.Nodup ∧ ps.length ≤ 60 ∧ RowOk ps.length ns ∧ ∀ v H', At ((D.lst ((arcsOf ns).map iiD), v) :: R) L H' → Q v H'
theorem r_indexed {R : RL} {L : LL} {H : Hp} {v1 v2 : V} {ps : List PySem.Str} {ns : List Int} {Q : VK} {E : XK} (hA : At R L H) (m1 : (D.dct (idxK ps), v1) ∈ R) (m2 : (D.dct (sideK ps ns), v2) ∈ R) (nd : ps.Nodup) (hl : ps.length ≤ 60) (hr : RowOk ps.length ns) (q : ∀ v H', At ((D.lst ((arcsOf ns).map iiD), v) :: R) L H' → Q v H') : sp_indexed K [v1, v2] H Q E := ⟨R, L, v1, v2, ps, ns, rfl, hA, m1, m2, nd, hl, hr, q⟩
set_option hygiene false in
local macro_rules | `(tactic| walk_at "term indexed") => `(tactic| refine ⟨_, PSs.nox (pss_one (ps_ret (pe_callB (cr_sortNK K rfl (hu_le hr (by decide))) (by rfl) B.T.sorted (by decide +kernel) (pa_cons (pe_lockO (pe_lc (own := [("place", 2)]) rfl sc_indexed.nd (pi_keys (pv 1)) (blkOk_by (own := [("place", 2)]) (N := n_indexed) (sc := defScope s_indexed) (by decide +kernel)) (fun _ _ _ _ _ => (pg_name (i := 2) sc_indexed.nd rfl (Or.inl rfl))) (fun _ _ _ _ _ => pts_nil) (fun _ _ _ _ _ => (pe_tup (pa_cons (pe_dget (hu_le hr (by decide)) (pv 0) (pv 2) (fun _ _ => rfl)) (pa_cons (pe_dget (hu_le hr (by decide)) (pv 1) (pv 2) (fun _ _ => rfl)) pa_nil)))))) pa_nil)))), ?_⟩)
theorem F_indexed (B : Bun P K mg) : Fn P w K mg base 2 "indexed" ["index", "side"] (sp_indexed K) := by
  refine B.d_indexed.fn (k := 1) sc_indexed (fun vs H Q E h => ?_) (fun _ _ _ _ _ _ us hl => match us, hl with | [_, _], _ => rfl) fun f cdv A outer s H vs Q E hr h => ?_
  · obtain ⟨_, _, _, _, _, _, rfl, _⟩ := h
    rfl
  · obtain ⟨R, L, v1, v2, ps, ns, rfl, hA, m1, m2, nd, hl, ho, q⟩ := h
    walk_at "term indexed"
    obtain ⟨d, _, rfl, _⟩ := hA.dctR m2
    repeat' walk_at "nw"
    refine s_lockOE [] hA m2 (fun _ _ h => by cases h) fun o kvs M H1 Q1 hk hm hA ends => ?_
    refine s_lc (s_iKeys (s_var rfl (src_keys hA (hm []) (lc_D (wd_keys hk) hA (fun i as L' => L' = M ++ ([] ++ L) ∧ as = ((((ps.zip ns).filter fun p => decide (0 < p.2)).take i).map (ixOf ps)).map iiD) ?_ ?_ ?_ ?_))))
    · exact ⟨rfl, rfl⟩
    · rintro _ _ _ p ⟨rfl, _⟩
      exact List.mem_cons_of_mem _ (hm [])
    · rintro j dd v as L1 H p2 hd ⟨rfl, rfl⟩ hlen hA
      have hj := (List.getElem?_eq_some_iff.mp hd).1
      unfold sideK sideL at hd
      obtain ⟨y, hy, rfl⟩ := keys_get hd
      obtain rfl : v = .str y.1 := hA.sc_of
      have hy' := List.mem_of_getElem? hy
      have hm' := side_mem ho hy'
      have hlk := side_lk nd ho.1 hy'
      refine s_name ⟨rfl, ?_⟩
      repeat' walk_at "nw"
      refine r_dgSs hA (.tail _ m1) (idx_lk nd hm'.1) ?_
      repeat' walk_at "nw"
      refine r_dgSs hA (.tail _ m2) hlk ?_
      repeat' walk_at "nw"
      refine r_tup hA (ds := [D.int (ps.idxOf y.1 : Nat), D.int y.2]) (.cons .sc (.cons .sc .nil)) (by show 2 ≤ 1000000; omega) fun v H hA => ?_
      have hz : j < 1000000 := by
        have := List.length_filter_le (fun p : PySem.Str × Int => decide (0 < p.2)) (ps.zip ns)
        rw [List.length_zip] at this
        unfold sideK sideL at hj
        rw [List.length_map, List.length_map] at hj
        omega
      refine lc_end hA (fun z hz => List.mem_cons_of_mem _ (List.mem_cons_of_mem _ hz)) (.mem (.head _)) hlen hz ⟨rfl, ?_⟩
      rw [take_snoc hy, List.map_append, List.map_append]
      rfl
    · rintro p2 as L1 H ⟨rfl, rfl⟩ hlen hA
      rw [List.take_of_length_le (by unfold sideK sideL; simp), arcs_ok nd ho.1] at hA
      refine ends R [(p2, .lst ((arcsOf ns).map iiD))] _ _ (At.back (L1 := M) hA) fun H hA => ?_
      repeat' walk_at "nw"
      refine r_sortII hA (.o (.head _)) fun p3 H hA => ?_
      have e : sortD ((arcsOf ns).map iiD) = (arcsOf ns).map iiD := sortD_map (.refl _) ((arcs_lt ns 0).2.imp iiD_lt)
      rw [e] at hA
      exact q _ _ (At.forget hA.frzLst)
end
end K26
set_option maxRecDepth 100000
set_option maxHeartbeats 4000000
namespace K26
open PySem PySem.Spec PyProof.Rows L2 Nw
set_option hygiene false in
local macro_rules | `(tactic| walk_at "nf") => `(tactic| first | exact B.n_cls | exact B.n_places | exact B.n_transitions | exact B.n_start | exact B.n_index | exact B.n_takes | exact B.n_gives | exact B.n_takers | exact B.n_givers | exact B.n_labels)
local macro_rules | `(tactic| walk_at "nm") => `(tactic| first | exact .head _ | exact .tail _ (.head _) | exact .tail _ (.tail _ (.head _)) | exact .tail _ (.tail _ (.tail _ (.head _))) | exact .tail _ (.tail _ (.tail _ (.tail _ (.head _)))) | exact .tail _ (.tail _ (.tail _ (.tail _ (.tail _ (.head _))))) | exact .tail _ (.tail _ (.tail _ (.tail _ (.tail _ (.tail _ (.head _)))))) | exact List.mem_append_right _ (.head _) | exact List.mem_append_right _ (.tail _ (.head _)) | exact .tail _ (List.mem_append_right _ (.head _)) | exact .tail _ (.tail _ (List.mem_append_right _ (.head _))) | exact .tail _ (.tail _ (.tail _ (List.mem_append_right _ (.head _)))) | (repeat (first | assumption | refine List.mem_cons_of_mem _ ?_)))
set_option hygiene false in
local macro_rules | `(tactic| walk_at "dr") => `(tactic| repeat (first | exact hA | apply At.drop))
local macro_rules | `(tactic| walk_at "mm") => `(tactic| repeat (first | assumption | exact List.mem_cons_self | refine List.mem_cons_of_mem _ ?_))
local macro_rules | `(tactic| walk_at "nb") => `(tactic| first | exact isT_int_int | exact isT_int_bool | exact isT_int_str | exact isT_int_list | exact isT_int_tuple | exact isT_bool_int | exact isT_bool_bool | exact isT_bool_str | exact isT_bool_list | exact isT_bool_tuple | exact isT_str_int | exact isT_str_bool | exact isT_str_str | exact isT_str_list | exact isT_str_tuple | exact isT_NoneType_int | exact isT_NoneType_bool | exact isT_NoneType_str | exact isT_NoneType_list | exact isT_NoneType_tuple | exact isT_list_int | exact isT_list_bool | exact isT_list_str | exact isT_list_list | exact isT_list_tuple | exact isT_tuple_int | exact isT_tuple_bool | exact isT_tuple_str | exact isT_tuple_list | exact isT_tuple_tuple | decide +kernel)
local macro_rules | `(tactic| walk_at "ni") => `(tactic| first | exact InR.mem (by walk_at "nm") | exact InR.sc | assumption)
local macro_rules | `(tactic| walk_at "nc") => `(tactic| first | omega | decide | (unfold CMul; omega) | (unfold CDiv; omega) | (unfold CPow; omega) | (unfold CPow; decide))
local macro_rules | `(tactic| walk_at "nl") => `(tactic| first | omega | decide | (simp only [List.length_cons, List.length_nil, List.length_append, List.length_map, List.length_set]; omega) | (simp; omega))
local macro_rules | `(tactic| walk_at "nh") => `(tactic| first | exact HasL.r (by walk_at "nm") | exact HasL.o (by walk_at "nm") | assumption)
local macro_rules | `(tactic| walk_at "na") => `(tactic| first | exact AllR.nil | (refine AllR.cons (by walk_at "ni") ?_; walk_at "na"))
local macro_rules | `(tactic| walk_at "nt") => `(tactic| first | exact HasTy.int _ | exact HasTy.str _ | exact HasTy.bl _ | exact HasTy.non | exact HasTy.lst (by walk_at "nm") | exact HasTy.tup (by walk_at "nm") | exact HasTy.own (by walk_at "nm"))
set_option hygiene false in
local macro_rules | `(tactic| walk_at "nw") => `(tactic| first
  | (with_reducible refine' s_seq ?_)
  | (with_reducible refine' s_asg ?_)
  | (with_reducible refine' s_name ?_)
  | (with_reducible refine' s_ret ?_)
  | (with_reducible refine' s_drop ?_)
  | (with_reducible refine' s_next ?_)
  | (with_reducible refine' s_op ?_)
  | (with_reducible refine' s_un ?_)
  | (with_reducible refine' s_c ?_)
  | (with_reducible refine' s_cons ?_)
  | (with_reducible refine' s_nil ?_)
  | (with_reducible refine' s_cb ?_)
  | (with_reducible refine' s_call ?_)
  | (with_reducible refine' s_callS ?_)
  | (with_reducible refine' s_test ?_)
  | (with_reducible refine' s_tb ?_)
  | (with_reducible refine' s_bl ?_)
  | (with_reducible refine' s_not ?_)
  | (with_reducible refine' s_if ?_)
  | (with_reducible refine' s_ifE ?_)
  | (with_reducible refine' s_and ?_)
  | (with_reducible refine' s_or ?_)
  | (with_reducible refine' s_andV ?_)
  | (with_reducible refine' s_orV ?_)
  | (with_reducible refine' s_notV ?_)
  | (with_reducible refine' s_sub ?_)
  | (with_reducible refine' s_chain ?_)
  | (with_reducible refine' s_sl ?_)
  | (with_reducible refine' s_noPart ?_)
  | (with_reducible refine' s_part ?_)
  | (with_reducible refine' r_part ?_)
  | (with_reducible refine' s_m1 ?_)
  | (with_reducible refine' s_fldQ ?_)
  | (with_reducible refine' s_setF ?_)
  | (with_reducible refine' s_cvalQ ?_)
  | (with_reducible refine' s_lstRev ?_)
  | (with_reducible refine' s_dgetQ ?_)
  | (with_reducible refine' s_din ?_)
  | (with_reducible refine' s_dnotin ?_)
  | (with_reducible refine' s_dput ?_)
  | (with_reducible refine' s_dget2Q ?_)
  | (with_reducible refine' s_mkX1 ?_)
  | (with_reducible refine' s_make ?_)
  | (with_reducible refine' s_lstRg ?_)
  | (with_reducible refine' s_tru ?_)
  | (with_reducible refine' s_star ?_)
  | (with_reducible refine' s_xf ?_)
  | (with_reducible refine' s_yes ?_)
  | (with_reducible refine' r_I0 ?_)
  | (with_reducible refine' r_U ?_)
  | (with_reducible refine' r_eqI ?_)
  | (with_reducible refine' r_neI ?_)
  | (with_reducible refine' r_eqS ?_)
  | (with_reducible refine' r_neS ?_)
  | (with_reducible refine' n_isR ?_)
  | (with_reducible refine' n_isN ?_)
  | (with_reducible refine' n_isI ?_)
  | (with_reducible refine' n_isS ?_)
  | (with_reducible refine' n_isB ?_)
  | (with_reducible refine' n_ntR ?_)
  | (with_reducible refine' n_ntN ?_)
  | (with_reducible refine' n_ntI ?_)
  | (with_reducible refine' n_ntS ?_)
  | (with_reducible refine' n_ntB ?_)
  | (with_reducible refine' i_t ?_)
  | (with_reducible refine' i_f ?_)
  | (with_reducible refine' i_nt ?_)
  | (with_reducible refine' i_nf ?_)
  | ((with_reducible refine' s_var ?g1 ?_); (case g1 => rfl))
  | ((with_reducible refine' r_I ?g1 ?_); (case g1 => walk_at "nc"))
  | ((with_reducible refine' w_int ?_))
  | ((with_reducible refine' w_abs ?_))
  | ((with_reducible refine' r_max2 ?_))
  | ((with_reducible refine' r_lenS ?g1 ?_); (case g1 => walk_at "nl"))
  | ((with_reducible refine' r_addS ?g1 ?_); (case g1 => walk_at "nl"))
  | ((with_reducible refine' r_slS ?g1 ?_); (case g1 => walk_at "nl"))
  | ((with_reducible refine' r_inS ?_))
  | ((with_reducible refine' r_ixOs hA ?g1 ?g2 ?g3 ?_); (case g1 => walk_at "nm"); (case g2 => walk_at "nc"); (case g3 => rfl))
  | ((with_reducible refine' r_ixLs hA ?g1 ?g2 ?g3 ?_); (case g1 => walk_at "nm"); (case g2 => walk_at "nc"); (case g3 => rfl))
  | ((with_reducible refine' r_ixTs hA ?g1 ?g2 ?g3 ?_); (case g1 => walk_at "nm"); (case g2 => walk_at "nc"); (case g3 => rfl))
  | (((with_reducible refine' r_ixO hA ?g1 ?g2 ?g3 ?_); (case g1 => walk_at "nm"); (case g2 => walk_at "nc"); (case g3 => rfl)); intro v hA)
  | (((with_reducible refine' r_ixL hA ?g1 ?g2 ?g3 ?_); (case g1 => walk_at "nm"); (case g2 => walk_at "nc"); (case g3 => rfl)); intro v hA)
  | (((with_reducible refine' r_ixT hA ?g1 ?g2 ?g3 ?_); (case g1 => walk_at "nm"); (case g2 => walk_at "nc"); (case g3 => rfl)); intro v hA)
  | ((with_reducible refine' r_lenO hA ?g1 ?_); (case g1 => walk_at "nm"))
  | ((with_reducible refine' r_lenL hA ?g1 ?_); (case g1 => walk_at "nm"))
  | ((with_reducible refine' r_lenT hA ?g1 ?_); (case g1 => walk_at "nm"))
  | ((with_reducible refine' r_lenD hA ?g1 ?_); (case g1 => walk_at "nm"))
  | ((with_reducible refine' r_tqT hA ?g1 ?_); (case g1 => walk_at "nm"))
  | (((with_reducible refine' w_setL [] (o := .non) hA ?g1 ?g2 ?g3 ?_); (case g1 => walk_at "ni"); (case g2 => walk_at "nc"); (case g3 => walk_at "nl")); (try clear hA); intro H hA; dsimp only [List.set, Int.toNat, List.cons_append, List.nil_append] at hA)
  | (((with_reducible refine' w_setL [_] (o := .non) hA ?g1 ?g2 ?g3 ?_); (case g1 => walk_at "ni"); (case g2 => walk_at "nc"); (case g3 => walk_at "nl")); (try clear hA); intro H hA; dsimp only [List.set, Int.toNat, List.cons_append, List.nil_append] at hA)
  | (((with_reducible refine' w_setL [_, _] (o := .non) hA ?g1 ?g2 ?g3 ?_); (case g1 => walk_at "ni"); (case g2 => walk_at "nc"); (case g3 => walk_at "nl")); (try clear hA); intro H hA; dsimp only [List.set, Int.toNat, List.cons_append, List.nil_append] at hA)
  | (((with_reducible refine' w_setL [_, _, _] (o := .non) hA ?g1 ?g2 ?g3 ?_); (case g1 => walk_at "ni"); (case g2 => walk_at "nc"); (case g3 => walk_at "nl")); (try clear hA); intro H hA; dsimp only [List.set, Int.toNat, List.cons_append, List.nil_append] at hA)
  | ((with_reducible refine' s_bm ?_); skip)
  | (((with_reducible refine' w_append [] hA ?g1 ?g2 ?_); (case g1 => walk_at "ni"); (case g2 => walk_at "nl")); (try clear hA); intro H hA; dsimp only [List.set, Int.toNat, List.cons_append, List.nil_append] at hA)
  | (((with_reducible refine' w_append [_] hA ?g1 ?g2 ?_); (case g1 => walk_at "ni"); (case g2 => walk_at "nl")); (try clear hA); intro H hA; dsimp only [List.set, Int.toNat, List.cons_append, List.nil_append] at hA)
  | (((with_reducible refine' w_append [_, _] hA ?g1 ?g2 ?_); (case g1 => walk_at "ni"); (case g2 => walk_at "nl")); (try clear hA); intro H hA; dsimp only [List.set, Int.toNat, List.cons_append, List.nil_append] at hA)
  | (((with_reducible refine' w_append [_, _, _] hA ?g1 ?g2 ?_); (case g1 => walk_at "ni"); (case g2 => walk_at "nl")); (try clear hA); intro H hA; dsimp only [List.set, Int.toNat, List.cons_append, List.nil_append] at hA)
  | ((with_reducible refine' ⟨ty_lst hA ?g1, ?_⟩); (case g1 => walk_at "nm"))
  | ((with_reducible refine' r_isi hA ?g1 ?g2 ?_); (case g1 => walk_at "nt"); (case g2 => walk_at "nb"))
  | (((with_reducible refine' r_lstRg hA ?g1 ?g2 ?_); (case g1 => walk_at "nc"); (case g2 => walk_at "nc")); intro p H hA)
  | (((with_reducible refine' r_list hA ?g1 ?_); (case g1 => walk_at "nh")); intro p H hA)
  | (((with_reducible refine' r_slL hA ?g1 ?_); (case g1 => walk_at "nh")); intro p H hA)
  | (((with_reducible refine' r_listT hA ?g1 ?_); (case g1 => walk_at "nm")); intro p H hA)
  | (((with_reducible refine' r_listD hA ?g1 ?_); (case g1 => walk_at "nm")); intro p H hA)
  | (((with_reducible refine' r_tuple hA ?g1 ?_); (case g1 => walk_at "nh")); intro v H hA)
  | (((with_reducible refine' r_slT hA ?g1 ?_); (case g1 => walk_at "nm")); intro v H hA)
  | (((with_reducible refine' r_lstRev hA ?g1 ?_); (case g1 => walk_at "nh")); intro p H hA)
  | ((with_reducible refine' s_tup ?_); skip)
  | ((with_reducible refine' s_lst ?_); skip)
  | (((with_reducible refine' r_tup hA ?g1 ?g2 ?_); (case g1 => walk_at "na"); (case g2 => walk_at "nl")); intro v H hA)
  | (with_reducible refine' r_dnew hA ?_; intro p H hA)
  | (((with_reducible refine' r_fdO hA ?g1 ?g2 ?g3 ?g4 ?_); (case g1 => walk_at "nm"); (case g2 => walk_at "nf"); (case g3 => walk_at "nf"); (case g4 => rfl)); intro v hA)
  | (((with_reducible refine' r_fd hA ?g1 ?g2 ?g3 ?g4 ?_); (case g1 => walk_at "nm"); (case g2 => walk_at "nf"); (case g3 => walk_at "nf"); (case g4 => rfl)); intro v hA)
  | (with_reducible refine' i_dec (fun hc => ?_) (fun hc => ?_))
  | (with_reducible refine' i_ndec (fun hc => ?_) (fun hc => ?_))
  | (with_reducible refine' i_ne (fun hc => ?_) (fun hc => ?_))
  | (with_reducible refine' i_em (fun hc => ?_) (fun hc => ?_)))
/-! ### users: a dict of lists that grow -/
def arcK (x : PySem.Str × List (Int × Int)) : Key × D := (Sum.inr x.1, .lst (x.2.map iiD))
structure ArcOk (n : Nat) (al : List (PySem.Str × List (Int × Int))) : Prop where
  nd : (al.map (·.1)).Nodup
  len : al.length ≤ 60
  rows : ∀ x ∈ al, x.2.length ≤ 60 ∧ ∀ y ∈ x.2, 0 ≤ y.1 ∧ y.1 < (n : Int)
abbrev UL := List (Addr × List D)
def fU (U : UL) : LL := U.map fun u => (u.1, OD.lst u.2)
def fF (pf : Addr) (kds : List (Key × D)) (U : UL) : LL := (pf, OD.dct kds) :: fU U
def Found (ps : List PySem.Str) (kds : List (Key × D)) (U : UL) : Prop := ∀ z ∈ ps, ∃ a, lk kds (Sum.inr z) = some (.sc (.ref a)) ∧ a ∈ U.map (·.1)
section
variable {K : PySem.W.Frag} {R : RL} {M L : LL} {H : Hp} {pf a : Addr} {kds : List (Key × D)} {U : UL} {d : D} {v : V} {Q : VK} {n : Nat}
theorem w_appU (hA : At R (M ++ (fF pf kds U ++ L)) H) (ha : a ∈ U.map (·.1)) (m : InR R d v) (hl : ∀ u ∈ U, u.2.length ≤ n) (hn : n < 1000000)
    (q : ∀ U' H', U'.map (·.1) = U.map (·.1) → (∀ u ∈ U', u.2.length ≤ n + 1) → At R (M ++ (fF pf kds U' ++ L)) H' → Q .non H') : rAppend (.ref a) [v] H Q := by
  obtain ⟨⟨a', ds⟩, hu, rfl⟩ := List.mem_map.mp ha
  obtain ⟨U1, U2, rfl⟩ := List.append_of_mem hu
  have e : ∀ es : List D, M ++ (fF pf kds (U1 ++ (a', es) :: U2) ++ L) = (M ++ (pf, OD.dct kds) :: fU U1) ++ (a', OD.lst es) :: (fU U2 ++ L) := fun es => by
    unfold fF fU
    simp
  rw [e] at hA
  refine w_append (M ++ (pf, OD.dct kds) :: fU U1) hA m (by have h : ds.length ≤ n := hl _ hu; omega) fun H' hA => ?_
  rw [← e] at hA
  refine q (U1 ++ (a', ds ++ [d]) :: U2) _ (by simp) (fun u hu' => ?_) hA
  rcases List.mem_append.mp hu' with h | h
  · have := hl u (List.mem_append_left _ h); omega
  · rcases List.mem_cons.mp h with rfl | h
    · have h : ds.length ≤ n := hl _ hu
      show (ds ++ [d]).length ≤ n + 1
      rw [List.length_append]
      show ds.length + 1 ≤ n + 1
      omega
    · have := hl u (List.mem_append_right _ (List.mem_cons_of_mem _ h)); omega
theorem At.mU (hA : At R (M ++ (fF pf kds U ++ L)) H) (ha : a ∈ U.map (·.1)) : ∃ ds, (a, OD.lst ds) ∈ M ++ (fF pf kds U ++ L) := by
  obtain ⟨⟨a', ds⟩, hu, rfl⟩ := List.mem_map.mp ha
  exact ⟨ds, List.mem_append_right _ (List.mem_append_left _ (List.mem_cons_of_mem _ (List.mem_map.mpr ⟨_, hu, rfl⟩)))⟩
end
section
variable {P : Program} {w : World} {K : PySem.W.Frag} {mg : PySem.Str → Option Value} {base : Heap}
def sp_users (K : PySem.W.Frag) : Sp := fun vs H Q E => ∃ R L v1 v2, ∃ ps : List PySem.Str, ∃ al : List (PySem.Str × List (Int × Int)), vs = [v1, v2] ∧ At R L H ∧ (D.tup (ps.map D.str), v1) ∈ R ∧ (D.dct (al.map arcK), v2) ∈ R ∧ ps.length ≤ 60 ∧ ArcOk ps.length al ∧ ∀ v kds H', At ((D.dct kds, v) :: R) L H' → Q v H'
theorem r_users {R : RL} {L : LL} {H : Hp} {v1 v2 : V} {ps : List PySem.Str} {al : List (PySem.Str × List (Int × Int))} {Q : VK} {E : XK} (hA : At R L H) (m1 : (D.tup (ps.map D.str), v1) ∈ R) (m2 : (D.dct (al.map arcK), v2) ∈ R) (hl : ps.length ≤ 60) (ho : ArcOk ps.length al) (q : ∀ v kds H', At ((D.dct kds, v) :: R) L H' → Q v H') : sp_users K [v1, v2] H Q E := ⟨R, L, v1, v2, ps, al, rfl, hA, m1, m2, hl, ho, q⟩
set_option hygiene false in
local macro_rules | `(tactic| walk_at "term users") => `(tactic| refine ⟨_, PSs.nox (pss_cons (ps_set (i := 2) sc_users.nd rfl (Or.inr rfl) pe_dnewK)
  (pss_cons (ps_for PassesOwn.never rfl (pi_tupK K rfl (pv 0)) (pg_name (i := 3) sc_users.nd rfl (Or.inl rfl))
  (pss_one (ps_dput (hu_le hr (by decide)) (pv 2) (pv 3) (pe_lst pa_nil) rfl)))
  (pss_cons (ps_lockO (ps_for PassesOwn.never rfl (pi_keys (pv 1)) (pg_name (i := 4) sc_users.nd rfl (Or.inl rfl))
  (pss_one (ps_for PassesOwn.never rfl (pi_listK K rfl (pe_dget (hu_le hr (by decide)) (pv 1) (pv 4) (fun _ _ => rfl))) (pg_tupK K rfl (n := 2) rfl (pgs_cons (pg_name (i := 5) sc_users.nd rfl (Or.inl rfl)) (pgs_cons (pg_name (i := 6) sc_users.nd rfl (Or.inl rfl)) pgs_nil)))
  (pss_one (ps_expr (pe_bm PySem.F.plainAttrs_list PySem.F.slot_list_append PySem.F.type_list_append mt_append (pe_dget (hu_le hr (by decide)) (pv 2) (pe_ix (ix_tupK K rfl) (pv 0) (pv 5) (fun _ _ => rfl)) (fun _ _ => rfl)) (pa_cons (pv 4) pa_nil))))))))
  (pss_one (ps_ret (pe_dc (own := [("place", 3)]) rfl sc_users.nd (pi_tupK K rfl (pv 0)) (blkOk_by (own := [("place", 3)]) (N := n_users) (sc := defScope s_users) (by decide +kernel)) (fun _ _ _ _ _ => (pg_name (i := 3) sc_users.nd rfl (Or.inl rfl))) (fun _ _ _ _ _ => pts_nil) (fun _ _ _ _ _ => (pv 3)) (fun _ _ _ _ _ => (pe_callTy (call_tuple_ofK K rfl) (by rfl) B.T.tuple (by decide +kernel) (pa_cons (pe_dget (hu_le hr (by decide)) (pv 2) (pv 3) (fun _ _ => rfl)) pa_nil))))))))), ?_⟩)
theorem F_users (B : Bun P K mg) : Fn P w K mg base 2 "users" ["places", "arcs"] (sp_users K) := by
  refine B.d_users.fn (k := 1) sc_users (fun vs H Q E h => ?_) (fun _ _ _ _ _ _ us hl => match us, hl with | [_, _], _ => rfl) fun f cdv A outer s H vs Q E hr h => ?_
  · obtain ⟨_, _, _, _, _, _, rfl, _⟩ := h
    rfl
  · obtain ⟨R, L, v1, v2, ps, al, rfl, hA, m1, m2, hl, ho, q⟩ := h
    walk_at "term users"
    obtain ⟨d, _, rfl, _⟩ := hA.dctR m2
    repeat' walk_at "nw"
    refine s_for (s_iTup (s_var rfl (src_tup hA m1 fun a ea W => for_D W hA (fun i σ L' => (∃ c, σ = [some v1, some (.ref d), some (.ref p), c, none, none, none]) ∧ ∃ kds U, kds.length ≤ i ∧ (∀ u ∈ U, u.2.length ≤ 0) ∧ Found (ps.take i) kds U ∧ L' = fF p kds U ++ L) ?_ ?_ ?_ ?_)))
    · exact ⟨⟨none, rfl⟩, [], [], Nat.le_refl _, (fun u h => by cases h), (fun z h => by cases h), rfl⟩
    · exact fun _ _ _ _ => True.intro
    · rintro i dd v σ L1 H hd ⟨⟨c, rfl⟩, kds, U, hk, hU, hF, rfl⟩ hA
      rw [List.getElem?_map, Option.map_eq_some_iff] at hd
      obtain ⟨z, hz, rfl⟩ := hd
      obtain rfl : v = .str z := hA.sc_of
      replace hA := hA.drop
      have hi : i < ps.length := (List.getElem?_eq_some_iff.mp hz).1
      repeat' walk_at "nw"
      refine r_lst hA .nil (by show 0 ≤ 1000000; omega) fun p' H hA => ?_
      repeat' walk_at "nw"
      refine w_dputS [_] hA .sc (by omega) fun H hA => ?_
      refine ⟨_, ⟨⟨_, rfl⟩, put kds (Sum.inr z) (.sc (.ref p')), (p', []) :: U, Nat.le_trans (put_len _ _ _) (by omega), fun u hu => ?_, fun z' hz' => ?_, rfl⟩, hA.swap⟩
      · rcases List.mem_cons.mp hu with rfl | hu
        · exact Nat.le_refl _
        · exact hU u hu
      · rw [lk_put]
        by_cases e : z' = z
        · subst e
          exact ⟨p', by rw [if_pos rfl], List.mem_cons_self⟩
        · rw [if_neg (fun h => e (Sum.inr.inj h))]
          rw [take_snoc hz] at hz'
          rcases List.mem_append.mp hz' with h | h
          · obtain ⟨a, h1, h2⟩ := hF z' h
            exact ⟨a, h1, List.mem_cons_of_mem _ h2⟩
          · exact absurd (List.mem_singleton.mp h) e
    · rintro σ L1 H ⟨⟨c, rfl⟩, kds, U, hk, hU, hF, rfl⟩ hA
      rw [List.length_map, List.take_length] at hF
      dsimp only
      refine s_lockO (fF p kds U) hA m2 (fun o kvs h => ?_) fun o kvs M H1 D1 hk hm hA ends => ?_
      · rcases List.mem_cons.mp h with h | h
        · cases h
        · obtain ⟨u, _, e⟩ := List.mem_map.mp h
          cases e
      obtain ⟨UA, hUA⟩ : ∃ UA, UA = U.map (·.1) := ⟨_, rfl⟩
      have hkF : ∀ z ∈ ps, ∃ a, lk kds (Sum.inr z) = some (.sc (.ref a)) ∧ a ∈ UA := by rw [hUA]; exact hF
      refine s_for (s_iKeys (s_var rfl (src_keys hA (hm _) (for_D (wd_keys hk) hA (fun i σ L' => (∃ c c1 c2 c3, σ = [some v1, some (.ref d), some (.ref p), c, c1, c2, c3]) ∧ ∃ U : UL, U.map (·.1) = UA ∧ (∀ u ∈ U, u.2.length ≤ i * 60) ∧ L' = M ++ (fF p kds U ++ L)) ?_ ?_ ?_ ?_))))
      · exact ⟨⟨_, _, _, _, rfl⟩, U, hUA.symm, (fun u hu => by have := hU u hu; omega), rfl⟩
      · rintro _ _ _ ⟨_, U, _, _, rfl⟩
        exact hm _
      · rintro i dd v σ L1 H hd ⟨⟨c, c1, c2, c3, rfl⟩, U, hUA, hU, rfl⟩ hA
        obtain ⟨x, hx, rfl⟩ := keys_get hd
        obtain rfl : v = .str x.1 := hA.sc_of
        replace hA := hA.drop
        have hx' := List.mem_of_getElem? hx
        have hi : i < al.length := (List.getElem?_eq_some_iff.mp hx).1
        have hg : lk (al.map arcK) (Sum.inr x.1) = some (.lst (x.2.map iiD)) := lk_pairs (k := fun x : PySem.Str × List (Int × Int) => x.1) (f := fun x : PySem.Str × List (Int × Int) => D.lst (x.2.map iiD)) ho.nd hx'
        obtain ⟨r1, r2⟩ := ho.rows x hx'
        have al60 := ho.len
        repeat' walk_at "nw"
        refine s_for (s_iList ?_)
        repeat' walk_at "nw"
        refine r_dgS hA m2 hg fun tv hA => ?_
        refine src_lst hA (.head _) fun a2 ea2 W2 => for_D W2 hA (fun j σ L' => (∃ c c2 c3, σ = [some v1, some (.ref d), some (.ref p), c, some (.str x.1), c2, c3]) ∧ ∃ U : UL, U.map (·.1) = UA ∧ (∀ u ∈ U, u.2.length ≤ i * 60 + j) ∧ L' = M ++ (fF p kds U ++ L)) ?_ ?_ ?_ ?_
        · exact ⟨⟨_, _, _, rfl⟩, U, hUA, (fun u hu => by have := hU u hu; omega), rfl⟩
        · exact fun _ _ _ _ => True.intro
        · rintro j dd v σ L1 H hd ⟨⟨c, c2, c3, rfl⟩, U, hUA, hU, rfl⟩ hA
          rw [List.getElem?_map, Option.map_eq_some_iff] at hd
          obtain ⟨y, hy, rfl⟩ := hd
          have hj : j < x.2.length := (List.getElem?_eq_some_iff.mp hy).1
          obtain ⟨y0, y1⟩ := r2 y (List.mem_of_getElem? hy)
          refine r_gtup2 hA (.head _) fun x1 x2 hA => ?_
          obtain rfl : x1 = .int y.1 := hA.sc_of
          have hA := hA.drop.drop.drop
          obtain ⟨z, hz⟩ : ∃ z, ps[y.1.toNat]? = some z := ⟨_, List.getElem?_eq_getElem (by omega)⟩
          have hz' : (ps.map D.str)[y.1.toNat]? = some (D.str z) := by rw [List.getElem?_map, hz]; rfl
          obtain ⟨b, hb, hbU⟩ := hkF z (List.mem_of_getElem? hz)
          obtain ⟨bs, hbs⟩ := At.mU hA (by rw [hUA]; exact hbU)
          repeat' walk_at "nw"
          refine r_ixTs hA (.tail _ m1) y0 hz' ?_
          refine r_dgOS hA (List.mem_append_right _ (.head _)) hb fun bv hA => ?_
          obtain rfl : bv = .ref b := hA.sc_of
          replace hA := hA.drop
          refine ⟨ty_lst hA hbs, ?_⟩
          repeat' walk_at "nw"
          refine w_appU hA (by rw [hUA]; exact hbU) .sc hU (by omega) fun U' H e1 e2 hA => ?_
          refine ⟨_, ⟨⟨_, _, _, rfl⟩, U', e1.trans hUA, fun u hu => ?_, rfl⟩, hA⟩
          have := e2 u hu
          omega
        · rintro σ L1 H ⟨⟨c, c2, c3, rfl⟩, U, hUA, hU, rfl⟩ hA
          refine ⟨_, ⟨⟨_, _, _, _, rfl⟩, U, hUA, (fun u hu => ?_), rfl⟩, hA.drop⟩
          have := hU u hu
          rw [List.length_map] at this
          omega
      · rintro σ L1 H ⟨⟨c, c1, c2, c3, rfl⟩, U, hUA, hU, rfl⟩ hA
        refine ends.nx _ _ _ _ hA fun H3 hA => ?_
        repeat' walk_at "nw"
        refine s_dc (s_iTup (s_var rfl (src_tup hA m1 fun a3 ea3 W3 => dc_D W3 hA (fun i as L' => L' = fF p kds U ++ L) ?_ ?_ ?_ ?_)))
        · rfl
        · exact fun _ _ _ _ _ => True.intro
        · rintro j dd v as L1 H p2 hd rfl hlen hA
          rw [List.getElem?_map, Option.map_eq_some_iff] at hd
          obtain ⟨z, hz, rfl⟩ := hd
          have hj : j < ps.length := (List.getElem?_eq_some_iff.mp hz).1
          obtain rfl : v = .str z := hA.sc_of
          obtain ⟨b, hb, hbU⟩ := hkF z (List.mem_of_getElem? hz)
          obtain ⟨bs, hbs⟩ := At.mU (M := [_]) hA (by rw [hUA]; exact hbU)
          refine s_name ⟨rfl, ?_⟩
          repeat' walk_at "nw"
          refine r_dgOS hA (.tail _ (.head _)) hb fun bv hA => ?_
          obtain rfl : bv = .ref b := hA.sc_of
          replace hA := hA.drop
          refine r_tuple hA (.o hbs) fun tv H hA => ?_
          exact dc_end (k := Sum.inr z) hA (fun z hz => List.mem_cons_of_mem _ (List.mem_cons_of_mem _ hz)) rfl (.mem (.head _)) hlen (by omega) rfl
        · intro p2 as L1 H e hlen hA
          subst e
          have hA := hA.frzDct
          exact q _ _ _ (At.forgets (U := U) (At.forget hA))
end
end K26
set_option maxRecDepth 100000
set_option maxHeartbeats 4000000
namespace K26
open PySem PySem.Spec PyProof.Rows L2 Nw
set_option hygiene false in
local macro_rules | `(tactic| walk_at "nf") => `(tactic| first | exact B.n_cls | exact B.n_places | exact B.n_transitions | exact B.n_start | exact B.n_index | exact B.n_takes | exact B.n_gives | exact B.n_takers | exact B.n_givers | exact B.n_labels)
local macro_rules | `(tactic| walk_at "nm") => `(tactic| first | exact .head _ | exact .tail _ (.head _) | exact .tail _ (.tail _ (.head _)) | exact .tail _ (.tail _ (.tail _ (.head _))) | exact .tail _ (.tail _ (.tail _ (.tail _ (.head _)))) | exact .tail _ (.tail _ (.tail _ (.tail _ (.tail _ (.head _))))) | exact .tail _ (.tail _ (.tail _ (.tail _ (.tail _ (.tail _ (.head _)))))) | exact List.mem_append_right _ (.head _) | exact List.mem_append_right _ (.tail _ (.head _)) | exact .tail _ (List.mem_append_right _ (.head _)) | exact .tail _ (.tail _ (List.mem_append_right _ (.head _))) | exact .tail _ (.tail _ (.tail _ (List.mem_append_right _ (.head _)))) | (repeat (first | assumption | refine List.mem_cons_of_mem _ ?_)))
set_option hygiene false in
local macro_rules | `(tactic| walk_at "dr") => `(tactic| repeat (first | exact hA | apply At.drop))
local macro_rules | `(tactic| walk_at "mm") => `(tactic| repeat (first | assumption | exact List.mem_cons_self | refine List.mem_cons_of_mem _ ?_))
local macro_rules | `(tactic| walk_at "nb") => `(tactic| first | exact isT_int_int | exact isT_int_bool | exact isT_int_str | exact isT_int_list | exact isT_int_tuple | exact isT_bool_int | exact isT_bool_bool | exact isT_bool_str | exact isT_bool_list | exact isT_bool_tuple | exact isT_str_int | exact isT_str_bool | exact isT_str_str | exact isT_str_list | exact isT_str_tuple | exact isT_NoneType_int | exact isT_NoneType_bool | exact isT_NoneType_str | exact isT_NoneType_list | exact isT_NoneType_tuple | exact isT_list_int | exact isT_list_bool | exact isT_list_str | exact isT_list_list | exact isT_list_tuple | exact isT_tuple_int | exact isT_tuple_bool | exact isT_tuple_str | exact isT_tuple_list | exact isT_tuple_tuple | decide +kernel)
local macro_rules | `(tactic| walk_at "ni") => `(tactic| first | exact InR.mem (by walk_at "nm") | exact InR.sc | assumption)
local macro_rules | `(tactic| walk_at "nc") => `(tactic| first | omega | decide | (unfold CMul; omega) | (unfold CDiv; omega) | (unfold CPow; omega) | (unfold CPow; decide))
local macro_rules | `(tactic| walk_at "nl") => `(tactic| first | omega | decide | (simp only [List.length_cons, List.length_nil, List.length_append, List.length_map, List.length_set]; omega) | (simp; omega))
local macro_rules | `(tactic| walk_at "nh") => `(tactic| first | exact HasL.r (by walk_at "nm") | exact HasL.o (by walk_at "nm") | assumption)
local macro_rules | `(tactic| walk_at "na") => `(tactic| first | exact AllR.nil | (refine AllR.cons (by walk_at "ni") ?_; walk_at "na"))
local macro_rules | `(tactic| walk_at "nt") => `(tactic| first | exact HasTy.int _ | exact HasTy.str _ | exact HasTy.bl _ | exact HasTy.non | exact HasTy.lst (by walk_at "nm") | exact HasTy.tup (by walk_at "nm") | exact HasTy.own (by walk_at "nm"))
set_option hygiene false in
local macro_rules | `(tactic| walk_at "nw") => `(tactic| first
  | (with_reducible refine' s_seq ?_)
  | (with_reducible refine' s_asg ?_)
  | (with_reducible refine' s_name ?_)
  | (with_reducible refine' s_ret ?_)
  | (with_reducible refine' s_drop ?_)
  | (with_reducible refine' s_next ?_)
  | (with_reducible refine' s_op ?_)
  | (with_reducible refine' s_un ?_)
  | (with_reducible refine' s_c ?_)
  | (with_reducible refine' s_cons ?_)
  | (with_reducible refine' s_nil ?_)
  | (with_reducible refine' s_cb ?_)
  | (with_reducible refine' s_call ?_)
  | (with_reducible refine' s_callS ?_)
  | (with_reducible refine' s_test ?_)
  | (with_reducible refine' s_tb ?_)
  | (with_reducible refine' s_bl ?_)
  | (with_reducible refine' s_not ?_)
  | (with_reducible refine' s_if ?_)
  | (with_reducible refine' s_ifE ?_)
  | (with_reducible refine' s_and ?_)
  | (with_reducible refine' s_or ?_)
  | (with_reducible refine' s_andV ?_)
  | (with_reducible refine' s_orV ?_)
  | (with_reducible refine' s_notV ?_)
  | (with_reducible refine' s_sub ?_)
  | (with_reducible refine' s_chain ?_)
  | (with_reducible refine' s_sl ?_)
  | (with_reducible refine' s_noPart ?_)
  | (with_reducible refine' s_part ?_)
  | (with_reducible refine' r_part ?_)
  | (with_reducible refine' s_m1 ?_)
  | (with_reducible refine' s_fldQ ?_)
  | (with_reducible refine' s_setF ?_)
  | (with_reducible refine' s_cvalQ ?_)
  | (with_reducible refine' s_lstRev ?_)
  | (with_reducible refine' s_dgetQ ?_)
  | (with_reducible refine' s_din ?_)
  | (with_reducible refine' s_dnotin ?_)
  | (with_reducible refine' s_dput ?_)
  | (with_reducible refine' s_dget2Q ?_)
  | (with_reducible refine' s_mkX1 ?_)
  | (with_reducible refine' s_make ?_)
  | (with_reducible refine' s_lstRg ?_)
  | (with_reducible refine' s_tru ?_)
  | (with_reducible refine' s_star ?_)
  | (with_reducible refine' s_xf ?_)
  | (with_reducible refine' s_yes ?_)
  | (with_reducible refine' r_I0 ?_)
  | (with_reducible refine' r_U ?_)
  | (with_reducible refine' r_eqI ?_)
  | (with_reducible refine' r_neI ?_)
  | (with_reducible refine' r_eqS ?_)
  | (with_reducible refine' r_neS ?_)
  | (with_reducible refine' n_isR ?_)
  | (with_reducible refine' n_isN ?_)
  | (with_reducible refine' n_isI ?_)
  | (with_reducible refine' n_isS ?_)
  | (with_reducible refine' n_isB ?_)
  | (with_reducible refine' n_ntR ?_)
  | (with_reducible refine' n_ntN ?_)
  | (with_reducible refine' n_ntI ?_)
  | (with_reducible refine' n_ntS ?_)
  | (with_reducible refine' n_ntB ?_)
  | (with_reducible refine' i_t ?_)
  | (with_reducible refine' i_f ?_)
  | (with_reducible refine' i_nt ?_)
  | (with_reducible refine' i_nf ?_)
  | ((with_reducible refine' s_var ?g1 ?_); (case g1 => rfl))
  | ((with_reducible refine' r_I ?g1 ?_); (case g1 => walk_at "nc"))
  | ((with_reducible refine' w_int ?_))
  | ((with_reducible refine' w_abs ?_))
  | ((with_reducible refine' r_max2 ?_))
  | ((with_reducible refine' r_lenS ?g1 ?_); (case g1 => walk_at "nl"))
  | ((with_reducible refine' r_addS ?g1 ?_); (case g1 => walk_at "nl"))
  | ((with_reducible refine' r_slS ?g1 ?_); (case g1 => walk_at "nl"))
  | ((with_reducible refine' r_inS ?_))
  | ((with_reducible refine' r_ixOs hA ?g1 ?g2 ?g3 ?_); (case g1 => walk_at "nm"); (case g2 => walk_at "nc"); (case g3 => rfl))
  | ((with_reducible refine' r_ixLs hA ?g1 ?g2 ?g3 ?_); (case g1 => walk_at "nm"); (case g2 => walk_at "nc"); (case g3 => rfl))
  | ((with_reducible refine' r_ixTs hA ?g1 ?g2 ?g3 ?_); (case g1 => walk_at "nm"); (case g2 => walk_at "nc"); (case g3 => rfl))
  | (((with_reducible refine' r_ixO hA ?g1 ?g2 ?g3 ?_); (case g1 => walk_at "nm"); (case g2 => walk_at "nc"); (case g3 => rfl)); intro v hA)
  | (((with_reducible refine' r_ixL hA ?g1 ?g2 ?g3 ?_); (case g1 => walk_at "nm"); (case g2 => walk_at "nc"); (case g3 => rfl)); intro v hA)
  | (((with_reducible refine' r_ixT hA ?g1 ?g2 ?g3 ?_); (case g1 => walk_at "nm"); (case g2 => walk_at "nc"); (case g3 => rfl)); intro v hA)
  | ((with_reducible refine' r_lenO hA ?g1 ?_); (case g1 => walk_at "nm"))
  | ((with_reducible refine' r_lenL hA ?g1 ?_); (case g1 => walk_at "nm"))
  | ((with_reducible refine' r_lenT hA ?g1 ?_); (case g1 => walk_at "nm"))
  | ((with_reducible refine' r_lenD hA ?g1 ?_); (case g1 => walk_at "nm"))
  | ((with_reducible refine' r_tqT hA ?g1 ?_); (case g1 => walk_at "nm"))
  | (((with_reducible refine' w_setL [] (o := .non) hA ?g1 ?g2 ?g3 ?_); (case g1 => walk_at "ni"); (case g2 => walk_at "nc"); (case g3 => walk_at "nl")); (try clear hA); intro H hA; dsimp only [List.set, Int.toNat, List.cons_append, List.nil_append] at hA)
  | (((with_reducible refine' w_setL [_] (o := .non) hA ?g1 ?g2 ?g3 ?_); (case g1 => walk_at "ni"); (case g2 => walk_at "nc"); (case g3 => walk_at "nl")); (try clear hA); intro H hA; dsimp only [List.set, Int.toNat, List.cons_append, List.nil_append] at hA)
  | (((with_reducible refine' w_setL [_, _] (o := .non) hA ?g1 ?g2 ?g3 ?_); (case g1 => walk_at "ni"); (case g2 => walk_at "nc"); (case g3 => walk_at "nl")); (try clear hA); intro H hA; dsimp only [List.set, Int.toNat, List.cons_append, List.nil_append] at hA)
  | (((with_reducible refine' w_setL [_, _, _] (o := .non) hA ?g1 ?g2 ?g3 ?_); (case g1 => walk_at "ni"); (case g2 => walk_at "nc"); (case g3 => walk_at "nl")); (try clear hA); intro H hA; dsimp only [List.set, Int.toNat, List.cons_append, List.nil_append] at hA)
  | ((with_reducible refine' s_bm ?_); skip)
  | (((with_reducible refine' w_append [] hA ?g1 ?g2 ?_); (case g1 => walk_at "ni"); (case g2 => walk_at "nl")); (try clear hA); intro H hA; dsimp only [List.set, Int.toNat, List.cons_append, List.nil_append] at hA)
  | (((with_reducible refine' w_append [_] hA ?g1 ?g2 ?_); (case g1 => walk_at "ni"); (case g2 => walk_at "nl")); (try clear hA); intro H hA; dsimp only [List.set, Int.toNat, List.cons_append, List.nil_append] at hA)
  | (((with_reducible refine' w_append [_, _] hA ?g1 ?g2 ?_); (case g1 => walk_at "ni"); (case g2 => walk_at "nl")); (try clear hA); intro H hA; dsimp only [List.set, Int.toNat, List.cons_append, List.nil_append] at hA)
  | (((with_reducible refine' w_append [_, _, _] hA ?g1 ?g2 ?_); (case g1 => walk_at "ni"); (case g2 => walk_at "nl")); (try clear hA); intro H hA; dsimp only [List.set, Int.toNat, List.cons_append, List.nil_append] at hA)
  | ((with_reducible refine' ⟨ty_lst hA ?g1, ?_⟩); (case g1 => walk_at "nm"))
  | ((with_reducible refine' r_isi hA ?g1 ?g2 ?_); (case g1 => walk_at "nt"); (case g2 => walk_at "nb"))
  | (((with_reducible refine' r_lstRg hA ?g1 ?g2 ?_); (case g1 => walk_at "nc"); (case g2 => walk_at "nc")); intro p H hA)
  | (((with_reducible refine' r_list hA ?g1 ?_); (case g1 => walk_at "nh")); intro p H hA)
  | (((with_reducible refine' r_slL hA ?g1 ?_); (case g1 => walk_at "nh")); intro p H hA)
  | (((with_reducible refine' r_listT hA ?g1 ?_); (case g1 => walk_at "nm")); intro p H hA)
  | (((with_reducible refine' r_listD hA ?g1 ?_); (case g1 => walk_at "nm")); intro p H hA)
  | (((with_reducible refine' r_tuple hA ?g1 ?_); (case g1 => walk_at "nh")); intro v H hA)
  | (((with_reducible refine' r_slT hA ?g1 ?_); (case g1 => walk_at "nm")); intro v H hA)
  | (((with_reducible refine' r_lstRev hA ?g1 ?_); (case g1 => walk_at "nh")); intro p H hA)
  | ((with_reducible refine' s_tup ?_); skip)
  | ((with_reducible refine' s_lst ?_); skip)
  | (((with_reducible refine' r_tup hA ?g1 ?g2 ?_); (case g1 => walk_at "na"); (case g2 => walk_at "nl")); intro v H hA)
  | (with_reducible refine' r_dnew hA ?_; intro p H hA)
  | (((with_reducible refine' r_fdO hA ?g1 ?g2 ?g3 ?g4 ?_); (case g1 => walk_at "nm"); (case g2 => walk_at "nf"); (case g3 => walk_at "nf"); (case g4 => rfl)); intro v hA)
  | (((with_reducible refine' r_fd hA ?g1 ?g2 ?g3 ?g4 ?_); (case g1 => walk_at "nm"); (case g2 => walk_at "nf"); (case g3 => walk_at "nf"); (case g4 => rfl)); intro v hA)
  | (with_reducible refine' i_dec (fun hc => ?_) (fun hc => ?_))
  | (with_reducible refine' i_ndec (fun hc => ?_) (fun hc => ?_))
  | (with_reducible refine' i_ne (fun hc => ?_) (fun hc => ?_))
  | (with_reducible refine' i_em (fun hc => ?_) (fun hc => ?_)))
/-! ### the net -/
def labKs (lb : List (PySem.Str × PySem.Str)) (v : V) (R : RL) : Prop := (lb = [] ∧ v = .non) ∨ (D.dct (lb.map labK), v) ∈ R
abbrev NF := List (PySem.Str × D)
def tkK (W : Wd) : List (Key × D) := (W.ts.zip W.tk).map fun x => arcK (x.1, arcsOf x.2)
def gvK (W : Wd) : List (Key × D) := (W.ts.zip W.gv).map fun x => arcK (x.1, arcsOf x.2)
abbrev nf2 (W : Wd) : NF := [("places", .tup (W.ps.map D.str)), ("transitions", .tup (W.ts.map D.str))]
abbrev nf3 (W : Wd) (st : List Int) : NF := [("places", .tup (W.ps.map D.str)), ("transitions", .tup (W.ts.map D.str)), ("start", .tup (st.map D.int))]
abbrev nf4 (W : Wd) (st : List Int) : NF := [("places", .tup (W.ps.map D.str)), ("transitions", .tup (W.ts.map D.str)), ("start", .tup (st.map D.int)), ("_index", .dct (idxK W.ps))]
abbrev nf5 (W : Wd) (st : List Int) : NF := [("places", .tup (W.ps.map D.str)), ("transitions", .tup (W.ts.map D.str)), ("start", .tup (st.map D.int)), ("_index", .dct (idxK W.ps)), ("_takes", .dct (tkK W))]
abbrev nf6 (W : Wd) (st : List Int) : NF := [("places", .tup (W.ps.map D.str)), ("transitions", .tup (W.ts.map D.str)), ("start", .tup (st.map D.int)), ("_index", .dct (idxK W.ps)), ("_takes", .dct (tkK W)), ("_gives", .dct (gvK W))]
abbrev nf8 (W : Wd) (st : List Int) (k1 k2 : List (Key × D)) : NF := [("places", .tup (W.ps.map D.str)), ("transitions", .tup (W.ts.map D.str)), ("start", .tup (st.map D.int)), ("_index", .dct (idxK W.ps)), ("_takes", .dct (tkK W)), ("_gives", .dct (gvK W)), ("_takers", .dct k1), ("_givers", .dct k2)]
def netFs (W : Wd) (st : List Int) (k1 k2 k3 : List (Key × D)) : NF := [("places", .tup (W.ps.map D.str)), ("transitions", .tup (W.ts.map D.str)), ("start", .tup (st.map D.int)), ("_index", .dct (idxK W.ps)),
  ("_takes", .dct (tkK W)), ("_gives", .dct (gvK W)), ("_takers", .dct k1), ("_givers", .dct k2), ("_labels", .dct k3)]
theorem nodup_get {l : List PySem.Str} (nd : l.Nodup) {i j : Nat} {z : PySem.Str} (h : l[i]? = some z) (k : l[j]? = some z) : i = j := by
  obtain ⟨h1, e1⟩ := List.getElem?_eq_some_iff.mp h
  obtain ⟨h2, e2⟩ := List.getElem?_eq_some_iff.mp k
  exact (List.getElem_inj nd).mp (e1.trans e2.symm)
theorem zip_take {α : Type} : ∀ (l : List PySem.Str) (m : List α), (l.zip m).map (·.1) = l.take m.length
  | [], m => by simp
  | a :: l, [] => by simp
  | a :: l, b :: m => by rw [List.zip_cons_cons, List.map_cons, zip_take l m, List.length_cons, List.take_succ_cons]
theorem zip_nd {α : Type} {l : List PySem.Str} (nd : l.Nodup) (m : List α) {f : PySem.Str × α → D} : ((l.zip m).map fun x => (((Sum.inr x.1 : Key), f x) : Key × D).1).Nodup := by
  have e : ((l.zip m).map fun x => (((Sum.inr x.1 : Key), f x) : Key × D).1) = ((l.zip m).map (·.1)).map Sum.inr := by rw [List.map_map]; rfl
  rw [e, zip_take, List.nodup_iff_pairwise_ne, List.pairwise_map]
  exact ((List.take_sublist _ _).nodup nd).imp fun h e => h (Sum.inr.inj e)
def alOf (ts : List PySem.Str) (rs : List (List Int)) : List (PySem.Str × List (Int × Int)) := (ts.zip rs).map fun x => (x.1, arcsOf x.2)
theorem tkK_eq (W : Wd) : tkK W = (alOf W.ts W.tk).map arcK := by unfold alOf; rw [List.map_map]; rfl
theorem gvK_eq (W : Wd) : gvK W = (alOf W.ts W.gv).map arcK := by unfold alOf; rw [List.map_map]; rfl
theorem arcs_b : ∀ (ns : List Int) (k : Nat), (arcsFrom k ns).length ≤ ns.length ∧ ∀ y ∈ arcsFrom k ns, 0 ≤ y.1 ∧ y.1 < ((k + ns.length : Nat) : Int)
  | [], k => ⟨Nat.le_refl _, fun y h => (by cases h)⟩
  | n :: ns, k => by
    obtain ⟨h1, h2⟩ := arcs_b ns (k + 1)
    rw [arcsFrom, List.length_cons]
    split
    · refine ⟨by rw [List.length_cons]; omega, fun y hy => ?_⟩
      rcases List.mem_cons.mp hy with rfl | hy
      · exact ⟨by show (0 : Int) ≤ (k : Nat); omega, by show ((k : Nat) : Int) < _; omega⟩
      · have := h2 y hy; omega
    · exact ⟨by omega, fun y hy => by have := h2 y hy; omega⟩
theorem al_ok {n : Nat} {ts : List PySem.Str} {rs : List (List Int)} (nd : ts.Nodup) (hl : ts.length ≤ 60) (hn : n ≤ 60) (hr : ∀ r ∈ rs, RowOk n r) : ArcOk n (alOf ts rs) where
  nd := by
    unfold alOf
    rw [List.map_map]
    have e : (ts.zip rs).map ((fun x : PySem.Str × List (Int × Int) => x.1) ∘ fun x => (x.1, arcsOf x.2)) = (ts.zip rs).map (·.1) := rfl
    rw [e, zip_take]
    exact (List.take_sublist _ _).nodup nd
  len := by unfold alOf; rw [List.length_map, List.length_zip]; omega
  rows := fun x hx => by
    obtain ⟨y, hy, rfl⟩ := List.mem_map.mp hx
    have h1 := hr _ (List.of_mem_zip (a := y.1) (b := y.2) hy).2
    obtain ⟨h2, h3⟩ := arcs_b y.2 0
    rw [h1.1] at h2 h3
    exact ⟨Nat.le_trans h2 hn, fun z hz => by have := h3 z hz; omega⟩
theorem perm_of {a b : List PySem.Str} (h : a.Nodup) (k : b.Nodup) (m : ∀ z, z ∈ a ↔ z ∈ b) : a.Perm b := (List.perm_ext_iff_of_nodup h k).mpr m
theorem PlOk.perm {ps : List PySem.Str} {l : List (PySem.Str × Int)} (h : PlOk ps l) (k : ps.Nodup) : (l.map (·.1)).Perm ps := perm_of h.nd k h.mem
theorem TrOk.perm {W : Wd} {t : List (PySem.Str × List Int × List Int)} (h : TrOk W t) (k : W.ts.Nodup) : (t.map (·.1)).Perm W.ts := perm_of h.nd k h.mem
theorem sort_to {zs ps : List PySem.Str} (hp : zs.Perm ps) (h : ps.Pairwise SLt) : sortD (zs.map D.str) = ps.map D.str := sortD_map hp.symm (h.imp fun h => (strD_lt _ _).mpr h)
section
variable {P : Program} {w : World} {K : PySem.W.Frag} {mg : PySem.Str → Option Value} {base : Heap}
def sp_Net_init (K : PySem.W.Frag) : Sp := fun vs H Q E => ∃ R L x v1 v2 v3 W l t lb, vs = [.ref x, v1, v2, v3] ∧ At R ((x, .ins (He.ga K "Net") []) :: L) H ∧ (D.dct (l.map pairK), v1) ∈ R ∧ (D.dct (t.map (trK W.ps)), v2) ∈ R ∧ labKs lb v3 R ∧ W.Ok ∧ PlOk W.ps l ∧ TrOk W t ∧ LabOk W lb ∧
  ∀ st k1 k2 k3 H', At R ((x, .ins (He.ga K "Net") (netFs W st k1 k2 k3)) :: L) H' → Q .non H'
set_option hygiene false in
local macro_rules | `(tactic| walk_at "term Net_init") => `(tactic| refine ⟨_, PSs.nox (pss_cons (ps_set (i := 4) sc_Net_init.nd rfl (Or.inr rfl) (pe_ifExp (pt_cmpR op_isN (pv 3) pe_non (nomark _)) pe_dnewK (pv 3)))
  (pss_cons (ps_expr (pe_fn (F_check_sizes (P := P) (K := K) (mg := mg) B) hr (by decide) passL rfl (pa_cons (pv 1) (pa_cons (pv 2) pa_nil))))
  (pss_cons (ps_expr (pe_fn (F_check_tokens (P := P) (K := K) (mg := mg) B) hr (by decide) passL rfl (pa_cons (pv 1) pa_nil)))
  (pss_cons (ps_expr (pe_fn (F_check_arcs (P := P) (K := K) (mg := mg) B) hr (by decide) passL rfl (pa_cons (pv 1) (pa_cons (pv 2) pa_nil))))
  (pss_cons (ps_expr (pe_fn (F_check_labels (P := P) (K := K) (mg := mg) B) hr (by decide) passL rfl (pa_cons (pv 2) (pa_cons (pv 4) pa_nil))))
  (pss_cons (ps_fldK K rfl (pv 0) (pe_callTy (call_tuple_ofK K rfl) (by rfl) B.T.tuple (by decide +kernel) (pa_cons (pe_callB (cr_sortNK K rfl (hu_le hr (by decide))) (by rfl) B.T.sorted (by decide +kernel) (pa_cons (pe_callTy (call_listD rfl) (by rfl) B.T.list (by decide +kernel) (pa_cons (pv 1) pa_nil)) pa_nil)) pa_nil)) rfl)
  (pss_cons (ps_fldK K rfl (pv 0) (pe_callTy (call_tuple_ofK K rfl) (by rfl) B.T.tuple (by decide +kernel) (pa_cons (pe_callB (cr_sortNK K rfl (hu_le hr (by decide))) (by rfl) B.T.sorted (by decide +kernel) (pa_cons (pe_callTy (call_listD rfl) (by rfl) B.T.list (by decide +kernel) (pa_cons (pv 2) pa_nil)) pa_nil)) pa_nil)) rfl)
  (pss_cons (ps_fldK K rfl (pv 0) (pe_callTy (call_tuple_ofK K rfl) (by rfl) B.T.tuple (by decide +kernel) (pa_cons (pe_lc (own := [("place", 6)]) rfl sc_Net_init.nd (pi_tupK K rfl (pe_fldK K rfl (pv 0) rfl)) (blkOk_by (own := [("place", 6)]) (N := n_Net_init) (sc := defScope s_Net_init) (by decide +kernel)) (fun _ _ _ _ _ => (pg_name (i := 6) sc_Net_init.nd rfl (Or.inl rfl))) (fun _ _ _ _ _ => pts_nil) (fun _ _ _ _ _ => (pe_dget (hu_le hr (by decide)) (pv 1) (pv 6) (fun _ _ => rfl)))) pa_nil)) rfl)
  (pss_cons (ps_fldK K rfl (pv 0) (pe_dc (own := [("at", 5), ("place", 6)]) rfl sc_Net_init.nd (pi_enumTK K rfl (by rfl) B.T.enumerate (pa_cons (pe_fldK K rfl (pv 0) rfl) pa_nil)) (blkOk_by (own := [("at", 5), ("place", 6)]) (N := n_Net_init) (sc := defScope s_Net_init) (by decide +kernel)) (fun _ _ _ _ _ => (pg_tupK K rfl (n := 2) rfl (pgs_cons (pg_name (i := 5) sc_Net_init.nd rfl (Or.inl rfl)) (pgs_cons (pg_name (i := 6) sc_Net_init.nd rfl (Or.inl rfl)) pgs_nil)))) (fun _ _ _ _ _ => pts_nil) (fun _ _ _ _ _ => (pv 6)) (fun _ _ _ _ _ => (pv 5))) rfl)
  (pss_cons (ps_fldK K rfl (pv 0) (pe_dc (own := [("name", 7)]) rfl sc_Net_init.nd (pi_tupK K rfl (pe_fldK K rfl (pv 0) rfl)) (blkOk_by (own := [("name", 7)]) (N := n_Net_init) (sc := defScope s_Net_init) (by decide +kernel)) (fun _ _ _ _ _ => (pg_name (i := 7) sc_Net_init.nd rfl (Or.inl rfl))) (fun _ _ _ _ _ => pts_nil) (fun _ _ _ _ _ => (pv 7)) (fun _ _ _ _ _ => (pe_fn (F_indexed (P := P) (K := K) (mg := mg) B) hr (by decide) passL rfl (pa_cons (pe_fldK K rfl (pv 0) rfl) (pa_cons (pe_ix (ix_tupK K rfl) (pe_dget (hu_le hr (by decide)) (pv 2) (pv 7) (fun _ _ => rfl)) pe_int (fun _ _ => rfl)) pa_nil))))) rfl)
  (pss_cons (ps_fldK K rfl (pv 0) (pe_dc (own := [("name", 7)]) rfl sc_Net_init.nd (pi_tupK K rfl (pe_fldK K rfl (pv 0) rfl)) (blkOk_by (own := [("name", 7)]) (N := n_Net_init) (sc := defScope s_Net_init) (by decide +kernel)) (fun _ _ _ _ _ => (pg_name (i := 7) sc_Net_init.nd rfl (Or.inl rfl))) (fun _ _ _ _ _ => pts_nil) (fun _ _ _ _ _ => (pv 7)) (fun _ _ _ _ _ => (pe_fn (F_indexed (P := P) (K := K) (mg := mg) B) hr (by decide) passL rfl (pa_cons (pe_fldK K rfl (pv 0) rfl) (pa_cons (pe_ix (ix_tupK K rfl) (pe_dget (hu_le hr (by decide)) (pv 2) (pv 7) (fun _ _ => rfl)) pe_int (fun _ _ => rfl)) pa_nil))))) rfl)
  (pss_cons (ps_fldK K rfl (pv 0) (pe_fn (F_users (P := P) (K := K) (mg := mg) B) hr (by decide) passL rfl (pa_cons (pe_fldK K rfl (pv 0) rfl) (pa_cons (pe_fldK K rfl (pv 0) rfl) pa_nil))) rfl)
  (pss_cons (ps_fldK K rfl (pv 0) (pe_fn (F_users (P := P) (K := K) (mg := mg) B) hr (by decide) passL rfl (pa_cons (pe_fldK K rfl (pv 0) rfl) (pa_cons (pe_fldK K rfl (pv 0) rfl) pa_nil))) rfl)
  (pss_one (ps_fldK K rfl (pv 0) (pe_dc (own := [("name", 7)]) rfl sc_Net_init.nd (pi_tupK K rfl (pe_fldK K rfl (pv 0) rfl)) (blkOk_by (own := [("name", 7)]) (N := n_Net_init) (sc := defScope s_Net_init) (by decide +kernel)) (fun _ _ _ _ _ => (pg_name (i := 7) sc_Net_init.nd rfl (Or.inl rfl))) (fun _ _ _ _ _ => pts_nil) (fun _ _ _ _ _ => (pv 7)) (fun _ _ _ _ _ => (pe_dget2 (hu_le hr (by decide)) (pv 4) (pv 7) (pv 7) ⟨rfl, rfl, rfl, rfl⟩))) rfl))))))))))))))), ?_⟩)

theorem F_Net_init (B : Bun P K mg) : ∃ fd, FnOk P w K mg base (L2.CX P w) 5 (He.fAd K ("Net", some "__init__")) fd ["self", "places", "transitions", "labels"] (sp_Net_init K) ∧ (∃ ds, Vals [.non] ds ∧ Binds K fd ["self", "places", "transitions", "labels"] ds) ∧ Binds K fd ["self", "places", "transitions", "labels"] [] := by
  obtain ⟨fd, F⟩ := B.n_ini
  refine ⟨fd, F.ok (k := 4) sc_Net_init (fun vs H Q E h => ?_) fun cdv A outer s H vs Q E hr h => ?_, ?_, ?_⟩
  · obtain ⟨_, _, _, _, _, _, _, _, _, _, rfl, _⟩ := h
    rfl
  · obtain ⟨R, L, x, v1, v2, v3, W, l, t, lb, rfl, hA, m1, m2, m3, o, hl, ht, hlb, q⟩ := h
    walk_at "term Net_init"
    refine s_cut (fun σ H => ∃ v4, σ = [some (.ref x), some v1, some v2, some v3, some v4, none, none, none] ∧ At ((D.dct (lb.map labK), v4) :: R) ((x, .ins (He.ga K "Net") []) :: L) H) ?_ fun nx hnx => ?_
    · rintro σ H ⟨v4, rfl, hA⟩
      have pl60 : l.length ≤ 60 := by have := hl.perm o.pnd; rw [← List.length_map (as := l) (·.1), this.length_eq]; exact o.pl
      have tl60 : t.length ≤ 60 := by have := ht.perm o.tnd; rw [← List.length_map (as := t) (·.1), this.length_eq]; exact o.tl
      repeat' walk_at "nw"
      refine r_sizes hA (.tail _ m1) (.tail _ m2) (by rw [List.length_map]; exact pl60) (by rw [List.length_map]; exact tl60) ?_
      repeat' walk_at "nw"
      refine r_tokens hA (.tail _ m1) hl pl60 o.pn fun H hA => ?_
      repeat' walk_at "nw"
      refine r_arcs hA (.tail _ m1) (.tail _ m2) o hl ht fun H hA => ?_
      repeat' walk_at "nw"
      refine r_labels hA (.tail _ m2) (.head _) ht hlb fun H hA => ?_
      repeat' walk_at "nw"
      have e1 : (l.map pairK).map (fun kd => keyD kd.1) = (l.map (·.1)).map D.str := by rw [List.map_map, List.map_map]; rfl
      rw [e1] at hA
      repeat' walk_at "nw"
      refine r_sortS hA (.o (.head _)) fun q2 H hA => ?_
      rw [sort_to (hl.perm o.pnd) o.pp] at hA
      repeat' walk_at "nw"
      have hA := hA.forget.forget
      refine w_fld [] hA B.n_cls B.n_places (by decide) (.mem (.head _)) fun H hA => ?_
      have hA := hA.drop
      repeat' walk_at "nw"
      have e1 : (t.map (trK W.ps)).map (fun kd => keyD kd.1) = (t.map (·.1)).map D.str := by rw [List.map_map, List.map_map]; rfl
      rw [e1] at hA
      repeat' walk_at "nw"
      refine r_sortS hA (.o (.head _)) fun q2 H hA => ?_
      rw [sort_to (ht.perm o.tnd) o.tp] at hA
      repeat' walk_at "nw"
      have hA := hA.forget.forget
      refine w_fld [] hA B.n_cls B.n_transitions (by show 1 < 1000; decide) (.mem (.head _)) fun H hA => ?_
      have hA := hA.drop
      replace hA : At _ ((x, .ins (He.ga K "Net") (nf2 W)) :: L) H := hA
      repeat' walk_at "nw"
      refine s_lc (s_iTup ?_)
      repeat' walk_at "nw"
      refine src_tup hA (.head _) fun a ea W1 => lc_D W1 hA (fun i as L' => L' = (x, .ins (He.ga K "Net") (nf2 W)) :: L ∧ ∃ st : List Int, as = st.map D.int) ?_ ?_ ?_ ?_
      · exact ⟨rfl, [], rfl⟩
      · exact fun _ _ _ _ _ => True.intro
      · rintro j dd v as L1 H p2 hd ⟨rfl, st, rfl⟩ hlen hA
        rw [List.getElem?_map, Option.map_eq_some_iff] at hd
        obtain ⟨z, hz, rfl⟩ := hd
        obtain rfl : v = .str z := hA.sc_of
        have hj : j < W.ps.length := (List.getElem?_eq_some_iff.mp hz).1
        have p60 := o.pl
        obtain ⟨n, hn, _⟩ := hl.lk (List.mem_of_getElem? hz)
        refine s_name ⟨rfl, ?_⟩
        repeat' walk_at "nw"
        refine r_dgSs hA (.tail _ (.tail _ (.tail _ m1))) hn ?_
        exact lc_end hA (fun z hz => List.mem_cons_of_mem _ hz) .sc hlen (by omega) ⟨rfl, st ++ [n], by rw [List.map_append]; rfl⟩
      · rintro p2 as L1 H ⟨rfl, st, rfl⟩ hlen hA
        repeat' walk_at "nw"
        have hA := hA.forget
        refine w_fld [] hA B.n_cls B.n_start (by show 2 < 1000; decide) (.mem (.head _)) fun H hA => ?_
        replace hA : At ((D.dct (lb.map labK), v4) :: R) ((x, .ins (He.ga K "Net") (nf3 W st)) :: L) H := hA.drop.drop
        repeat' walk_at "nw"
        refine s_dc (s_iEnumT ?_)
        repeat' walk_at "nw"
        refine src_enumT hA (.head _) fun a ea W1 => dc_D W1 hA (fun i as L' => L' = (x, .ins (He.ga K "Net") (nf3 W st)) :: L ∧ as = (W.ps.take i).map fun z => ((Sum.inr z : Key), D.int (W.ps.idxOf z : Nat))) ?_ ?_ ?_ ?_
        · exact ⟨rfl, rfl⟩
        · exact fun _ _ _ _ _ => True.intro
        · rintro j dd v as L1 H p2 hd ⟨rfl, rfl⟩ hlen hA
          obtain ⟨e, he, rfl⟩ := numd_of hd
          rw [List.getElem?_map, Option.map_eq_some_iff] at he
          obtain ⟨z, hz, rfl⟩ := he
          have hj : j < W.ps.length := (List.getElem?_eq_some_iff.mp hz).1
          have p60 := o.pl
          refine r_gtup2 hA (.head _) fun x1 x2 hA => ?_
          obtain rfl : x1 = .int (j : Nat) := hA.sc_of
          obtain rfl : x2 = .str z := (hA.drop).sc_of
          refine ⟨rfl, ?_⟩
          repeat' walk_at "nw"
          refine dc_end (k := Sum.inr z) hA (fun z hz => List.mem_cons_of_mem _ (List.mem_cons_of_mem _ (List.mem_cons_of_mem _ hz))) rfl .sc hlen (by omega) ⟨rfl, ?_⟩
          have ej : W.ps.idxOf z = j := by
            obtain ⟨h, rfl⟩ := List.getElem?_eq_some_iff.mp hz
            exact List.Nodup.idxOf_getElem o.pnd _ h
          have := put_next (l := W.ps) (f := fun z => ((Sum.inr z : Key), D.int (W.ps.idxOf z : Nat))) (by have := o.pnd; rw [List.nodup_iff_pairwise_ne, List.pairwise_map]; exact this.imp fun h e => h (Sum.inr.inj e)) hz
          rw [ej] at this
          exact this
        · rintro p2 as L1 H ⟨rfl, rfl⟩ hlen hA
          rw [numd_len, List.length_map, List.take_length] at hA
          have hA := hA.frzDct
          repeat' walk_at "nw"
          refine w_fld [] hA B.n_cls B.n_index (by show 3 < 1000; decide) (.mem (.head _)) fun H hA => ?_
          replace hA : At ((D.dct (lb.map labK), v4) :: R) ((x, .ins (He.ga K "Net") (nf4 W st)) :: L) H := hA.drop.drop
          repeat' walk_at "nw"
          refine s_dc (s_iTup ?_)
          repeat' walk_at "nw"
          refine src_tup hA (.head _) fun a ea W1 => dc_D W1 hA (fun i as L' => L' = (x, .ins (He.ga K "Net") (nf4 W st)) :: L ∧ as = ((W.ts.zip W.tk).take i).map fun x => arcK (x.1, arcsOf x.2)) ?_ ?_ ?_ ?_
          · exact ⟨rfl, rfl⟩
          · exact fun _ _ _ _ _ => True.intro
          · rintro j dd v as L1 H p2 hd ⟨rfl, rfl⟩ hlen hA
            rw [List.getElem?_map, Option.map_eq_some_iff] at hd
            obtain ⟨z, hz, rfl⟩ := hd
            obtain rfl : v = .str z := hA.sc_of
            have hj : j < W.ts.length := (List.getElem?_eq_some_iff.mp hz).1
            have t60 := o.tl
            obtain ⟨y, hy, ey⟩ := ht.has (List.mem_of_getElem? hz)
            have hlk := ht.lk hy
            rw [ey] at hlk
            obtain ⟨_, r1, r2⟩ := ht.row o hy
            have hrow : W.tk[j]? = some y.2.1 := by
              obtain ⟨k, h1, h2, h3⟩ := ht.val y hy
              rw [ey] at h1
              have := nodup_get o.tnd h1 hz
              subst this
              exact h2
            refine s_name ⟨rfl, ?_⟩
            repeat' walk_at "nw"
            refine r_dgS hA (.tail _ (.tail _ (.tail _ (.tail _ m2)))) hlk fun tv hA => ?_
            repeat' walk_at "nw"
            refine r_indexed hA (.tail _ (.tail _ (.head _))) (.head _) o.pnd o.pl r1 fun v H hA => ?_
            refine dc_end (k := Sum.inr z) hA (fun z hz => by repeat (first | exact hz | refine List.mem_cons_of_mem _ ?_)) rfl (.mem (.head _)) hlen (by omega) ⟨rfl, ?_⟩
            exact put_next (l := W.ts.zip W.tk) (f := fun x => arcK (x.1, arcsOf x.2)) (zip_nd o.tnd _) (zip_get hz hrow)
          · rintro p2 as L1 H ⟨rfl, rfl⟩ hlen hA
            rw [List.length_map, List.take_of_length_le (by rw [List.length_zip]; omega)] at hA
            have hA := hA.frzDct
            repeat' walk_at "nw"
            refine w_fld [] hA B.n_cls B.n_takes (by show 4 < 1000; decide) (.mem (.head _)) fun H hA => ?_
            replace hA : At ((D.dct (lb.map labK), v4) :: R) ((x, .ins (He.ga K "Net") (nf5 W st)) :: L) H := hA.drop.drop
            repeat' walk_at "nw"
            refine s_dc (s_iTup ?_)
            repeat' walk_at "nw"
            refine src_tup hA (.head _) fun a ea W1 => dc_D W1 hA (fun i as L' => L' = (x, .ins (He.ga K "Net") (nf5 W st)) :: L ∧ as = ((W.ts.zip W.gv).take i).map fun x => arcK (x.1, arcsOf x.2)) ?_ ?_ ?_ ?_
            · exact ⟨rfl, rfl⟩
            · exact fun _ _ _ _ _ => True.intro
            · rintro j dd v as L1 H p2 hd ⟨rfl, rfl⟩ hlen hA
              rw [List.getElem?_map, Option.map_eq_some_iff] at hd
              obtain ⟨z, hz, rfl⟩ := hd
              obtain rfl : v = .str z := hA.sc_of
              have hj : j < W.ts.length := (List.getElem?_eq_some_iff.mp hz).1
              have t60 := o.tl
              obtain ⟨y, hy, ey⟩ := ht.has (List.mem_of_getElem? hz)
              have hlk := ht.lk hy
              rw [ey] at hlk
              obtain ⟨_, r1, r2⟩ := ht.row o hy
              have hrow : W.gv[j]? = some y.2.2 := by
                obtain ⟨k, h1, h2, h3⟩ := ht.val y hy
                rw [ey] at h1
                have := nodup_get o.tnd h1 hz
                subst this
                exact h3
              refine s_name ⟨rfl, ?_⟩
              repeat' walk_at "nw"
              refine r_dgS hA (.tail _ (.tail _ (.tail _ (.tail _ m2)))) hlk fun tv hA => ?_
              repeat' walk_at "nw"
              refine r_indexed hA (.tail _ (.tail _ (.head _))) (.head _) o.pnd o.pl r2 fun v H hA => ?_
              refine dc_end (k := Sum.inr z) hA (fun z hz => by repeat (first | exact hz | refine List.mem_cons_of_mem _ ?_)) rfl (.mem (.head _)) hlen (by omega) ⟨rfl, ?_⟩
              exact put_next (l := W.ts.zip W.gv) (f := fun x => arcK (x.1, arcsOf x.2)) (zip_nd o.tnd _) (zip_get hz hrow)
            · rintro p2 as L1 H ⟨rfl, rfl⟩ hlen hA
              rw [List.length_map, List.take_of_length_le (by rw [List.length_zip]; omega)] at hA
              have hA := hA.frzDct
              repeat' walk_at "nw"
              refine w_fld [] hA B.n_cls B.n_gives (by show 5 < 1000; decide) (.mem (.head _)) fun H hA => ?_
              replace hA : At ((D.dct (lb.map labK), v4) :: R) ((x, .ins (He.ga K "Net") (nf6 W st)) :: L) H := hA.drop.drop
              repeat' walk_at "nw"
              refine r_users hA (.tail _ (.head _)) (by rw [← tkK_eq]; exact .head _) o.pl (al_ok o.tnd o.tl o.pl o.kr) fun uv k1 H hA => ?_
              repeat' walk_at "nw"
              refine w_fld [] hA B.n_cls B.n_takers (by show 6 < 1000; decide) (.mem (.head _)) fun H hA => ?_
              have hA := hA.drop.drop.drop
              repeat' walk_at "nw"
              refine r_users hA (.tail _ (.head _)) (by rw [← gvK_eq]; exact .head _) o.pl (al_ok o.tnd o.tl o.pl o.gr) fun uv k2 H hA => ?_
              repeat' walk_at "nw"
              refine w_fld [] hA B.n_cls B.n_givers (by show 7 < 1000; decide) (.mem (.head _)) fun H hA => ?_
              replace hA : At ((D.dct (lb.map labK), v4) :: R) ((x, .ins (He.ga K "Net") (nf8 W st k1 k2)) :: L) H := hA.drop.drop.drop
              repeat' walk_at "nw"
              refine s_dc (s_iTup ?_)
              repeat' walk_at "nw"
              refine src_tup hA (.head _) fun a ea W1 => dc_D W1 hA (fun i as L' => L' = (x, .ins (He.ga K "Net") (nf8 W st k1 k2)) :: L) ?_ ?_ ?_ ?_
              · rfl
              · exact fun _ _ _ _ _ => True.intro
              · rintro j dd v as L1 H p2 hd rfl hlen hA
                rw [List.getElem?_map, Option.map_eq_some_iff] at hd
                obtain ⟨z, hz, rfl⟩ := hd
                obtain rfl : v = .str z := hA.sc_of
                have hj : j < W.ts.length := (List.getElem?_eq_some_iff.mp hz).1
                have t60 := o.tl
                refine s_name ⟨rfl, ?_⟩
                repeat' walk_at "nw"
                refine r_isD hA (.tail _ (.tail _ (.head _))) fun b eb => ?_
                subst eb
                repeat' walk_at "nw"
                refine r_dgo hA (.tail _ (.tail _ (.head _))) (fun d v _ hA => ?_) fun _ => ?_
                · exact dc_end (k := Sum.inr z) hA (fun z hz => by repeat (first | exact hz | refine List.mem_cons_of_mem _ ?_)) rfl (.mem (.head _)) hlen (by omega) rfl
                · exact dc_end (k := Sum.inr z) hA (fun z hz => by repeat (first | exact hz | refine List.mem_cons_of_mem _ ?_)) rfl .sc hlen (by omega) rfl
              · intro p2 as L1 H e hlen hA
                subst e
                have hA := hA.frzDct
                repeat' walk_at "nw"
                refine w_fld [] hA B.n_cls B.n_labels (by show 8 < 1000; decide) (.mem (.head _)) fun H hA => ?_
                exact q st k1 k2 as _ hA.drop.drop.drop
    · rcases m3 with ⟨rfl, rfl⟩ | m3
      · repeat' walk_at "nw"
        exact hnx _ _ ⟨_, rfl, hA.frzDct⟩
      · obtain ⟨b, _, rfl, _⟩ := hA.dctR m3
        repeat' walk_at "nw"
        exact hnx _ _ ⟨_, rfl, hA.addR (.mem m3)⟩
  · obtain ⟨ds, h1, h2⟩ := F.binds1 (ps := ["self", "places", "transitions", "labels"]) 3 0 (by simp) rfl fun T kV doc pm an cdv ct us its e1 e2 => match us, its, e1, e2 with
      | [_, _, _], [_], _, _ => ⟨_, rfl, rfl⟩
    exact ⟨ds, h1, h2⟩
  · obtain ⟨ds, h1, h2⟩ := F.binds1 (ps := ["self", "places", "transitions", "labels"]) 4 1 (by simp) rfl fun T kV doc pm an cdv ct us its e1 e2 => match us, its, e1, e2 with
      | [_, _, _, _], [_], _, _ => ⟨_, rfl, rfl⟩
    cases h1
    exact h2
end
end K26
set_option maxRecDepth 100000
set_option maxHeartbeats 4000000
namespace K26
open PySem PySem.Spec PyProof.Rows L2 Nw
set_option hygiene false in
local macro_rules | `(tactic| walk_at "nf") => `(tactic| first | exact B.n_cls | exact B.n_places | exact B.n_transitions | exact B.n_start | exact B.n_index | exact B.n_takes | exact B.n_gives | exact B.n_takers | exact B.n_givers | exact B.n_labels)
local macro_rules | `(tactic| walk_at "nm") => `(tactic| first | exact .head _ | exact .tail _ (.head _) | exact .tail _ (.tail _ (.head _)) | exact .tail _ (.tail _ (.tail _ (.head _))) | exact .tail _ (.tail _ (.tail _ (.tail _ (.head _)))) | exact .tail _ (.tail _ (.tail _ (.tail _ (.tail _ (.head _))))) | exact .tail _ (.tail _ (.tail _ (.tail _ (.tail _ (.tail _ (.head _)))))) | exact List.mem_append_right _ (.head _) | exact List.mem_append_right _ (.tail _ (.head _)) | exact .tail _ (List.mem_append_right _ (.head _)) | exact .tail _ (.tail _ (List.mem_append_right _ (.head _))) | exact .tail _ (.tail _ (.tail _ (List.mem_append_right _ (.head _)))) | (repeat (first | assumption | refine List.mem_cons_of_mem _ ?_)))
set_option hygiene false in
local macro_rules | `(tactic| walk_at "dr") => `(tactic| repeat (first | exact hA | apply At.drop))
local macro_rules | `(tactic| walk_at "mm") => `(tactic| repeat (first | assumption | exact List.mem_cons_self | refine List.mem_cons_of_mem _ ?_))
local macro_rules | `(tactic| walk_at "nb") => `(tactic| first | exact isT_int_int | exact isT_int_bool | exact isT_int_str | exact isT_int_list | exact isT_int_tuple | exact isT_bool_int | exact isT_bool_bool | exact isT_bool_str | exact isT_bool_list | exact isT_bool_tuple | exact isT_str_int | exact isT_str_bool | exact isT_str_str | exact isT_str_list | exact isT_str_tuple | exact isT_NoneType_int | exact isT_NoneType_bool | exact isT_NoneType_str | exact isT_NoneType_list | exact isT_NoneType_tuple | exact isT_list_int | exact isT_list_bool | exact isT_list_str | exact isT_list_list | exact isT_list_tuple | exact isT_tuple_int | exact isT_tuple_bool | exact isT_tuple_str | exact isT_tuple_list | exact isT_tuple_tuple | decide +kernel)
local macro_rules | `(tactic| walk_at "ni") => `(tactic| first | exact InR.mem (by walk_at "nm") | exact InR.sc | assumption)
local macro_rules | `(tactic| walk_at "nc") => `(tactic| first | omega | decide | (unfold CMul; omega) | (unfold CDiv; omega) | (unfold CPow; omega) | (unfold CPow; decide))
local macro_rules | `(tactic| walk_at "nl") => `(tactic| first | omega | decide | (simp only [List.length_cons, List.length_nil, List.length_append, List.length_map, List.length_set]; omega) | (simp; omega))
local macro_rules | `(tactic| walk_at "nh") => `(tactic| first | exact HasL.r (by walk_at "nm") | exact HasL.o (by walk_at "nm") | assumption)
local macro_rules | `(tactic| walk_at "na") => `(tactic| first | exact AllR.nil | (refine AllR.cons (by walk_at "ni") ?_; walk_at "na"))
local macro_rules | `(tactic| walk_at "nt") => `(tactic| first | exact HasTy.int _ | exact HasTy.str _ | exact HasTy.bl _ | exact HasTy.non | exact HasTy.lst (by walk_at "nm") | exact HasTy.tup (by walk_at "nm") | exact HasTy.own (by walk_at "nm"))
set_option hygiene false in
local macro_rules | `(tactic| walk_at "nw") => `(tactic| first
  | (with_reducible refine' s_seq ?_)
  | (with_reducible refine' s_asg ?_)
  | (with_reducible refine' s_name ?_)
  | (with_reducible refine' s_ret ?_)
  | (with_reducible refine' s_drop ?_)
  | (with_reducible refine' s_next ?_)
  | (with_reducible refine' s_op ?_)
  | (with_reducible refine' s_un ?_)
  | (with_reducible refine' s_c ?_)
  | (with_reducible refine' s_cons ?_)
  | (with_reducible refine' s_nil ?_)
  | (with_reducible refine' s_cb ?_)
  | (with_reducible refine' s_call ?_)
  | (with_reducible refine' s_callS ?_)
  | (with_reducible refine' s_test ?_)
  | (with_reducible refine' s_tb ?_)
  | (with_reducible refine' s_bl ?_)
  | (with_reducible refine' s_not ?_)
  | (with_reducible refine' s_if ?_)
  | (with_reducible refine' s_ifE ?_)
  | (with_reducible refine' s_and ?_)
  | (with_reducible refine' s_or ?_)
  | (with_reducible refine' s_andV ?_)
  | (with_reducible refine' s_orV ?_)
  | (with_reducible refine' s_notV ?_)
  | (with_reducible refine' s_sub ?_)
  | (with_reducible refine' s_chain ?_)
  | (with_reducible refine' s_sl ?_)
  | (with_reducible refine' s_noPart ?_)
  | (with_reducible refine' s_part ?_)
  | (with_reducible refine' r_part ?_)
  | (with_reducible refine' s_m1 ?_)
  | (with_reducible refine' s_fldQ ?_)
  | (with_reducible refine' s_setF ?_)
  | (with_reducible refine' s_cvalQ ?_)
  | (with_reducible refine' s_lstRev ?_)
  | (with_reducible refine' s_dgetQ ?_)
  | (with_reducible refine' s_din ?_)
  | (with_reducible refine' s_dnotin ?_)
  | (with_reducible refine' s_dput ?_)
  | (with_reducible refine' s_dget2Q ?_)
  | (with_reducible refine' s_mkX1 ?_)
  | (with_reducible refine' s_make ?_)
  | (with_reducible refine' s_lstRg ?_)
  | (with_reducible refine' s_tru ?_)
  | (with_reducible refine' s_star ?_)
  | (with_reducible refine' s_xf ?_)
  | (with_reducible refine' s_yes ?_)
  | (with_reducible refine' r_I0 ?_)
  | (with_reducible refine' r_U ?_)
  | (with_reducible refine' r_eqI ?_)
  | (with_reducible refine' r_neI ?_)
  | (with_reducible refine' r_eqS ?_)
  | (with_reducible refine' r_neS ?_)
  | (with_reducible refine' n_isR ?_)
  | (with_reducible refine' n_isN ?_)
  | (with_reducible refine' n_isI ?_)
  | (with_reducible refine' n_isS ?_)
  | (with_reducible refine' n_isB ?_)
  | (with_reducible refine' n_ntR ?_)
  | (with_reducible refine' n_ntN ?_)
  | (with_reducible refine' n_ntI ?_)
  | (with_reducible refine' n_ntS ?_)
  | (with_reducible refine' n_ntB ?_)
  | (with_reducible refine' i_t ?_)
  | (with_reducible refine' i_f ?_)
  | (with_reducible refine' i_nt ?_)
  | (with_reducible refine' i_nf ?_)
  | ((with_reducible refine' s_var ?g1 ?_); (case g1 => rfl))
  | ((with_reducible refine' r_I ?g1 ?_); (case g1 => walk_at "nc"))
  | ((with_reducible refine' w_int ?_))
  | ((with_reducible refine' w_abs ?_))
  | ((with_reducible refine' r_max2 ?_))
  | ((with_reducible refine' r_lenS ?g1 ?_); (case g1 => walk_at "nl"))
  | ((with_reducible refine' r_addS ?g1 ?_); (case g1 => walk_at "nl"))
  | ((with_reducible refine' r_slS ?g1 ?_); (case g1 => walk_at "nl"))
  | ((with_reducible refine' r_inS ?_))
  | ((with_reducible refine' r_ixOs hA ?g1 ?g2 ?g3 ?_); (case g1 => walk_at "nm"); (case g2 => walk_at "nc"); (case g3 => rfl))
  | ((with_reducible refine' r_ixLs hA ?g1 ?g2 ?g3 ?_); (case g1 => walk_at "nm"); (case g2 => walk_at "nc"); (case g3 => rfl))
  | ((with_reducible refine' r_ixTs hA ?g1 ?g2 ?g3 ?_); (case g1 => walk_at "nm"); (case g2 => walk_at "nc"); (case g3 => rfl))
  | (((with_reducible refine' r_ixO hA ?g1 ?g2 ?g3 ?_); (case g1 => walk_at "nm"); (case g2 => walk_at "nc"); (case g3 => rfl)); intro v hA)
  | (((with_reducible refine' r_ixL hA ?g1 ?g2 ?g3 ?_); (case g1 => walk_at "nm"); (case g2 => walk_at "nc"); (case g3 => rfl)); intro v hA)
  | (((with_reducible refine' r_ixT hA ?g1 ?g2 ?g3 ?_); (case g1 => walk_at "nm"); (case g2 => walk_at "nc"); (case g3 => rfl)); intro v hA)
  | ((with_reducible refine' r_lenO hA ?g1 ?_); (case g1 => walk_at "nm"))
  | ((with_reducible refine' r_lenL hA ?g1 ?_); (case g1 => walk_at "nm"))
  | ((with_reducible refine' r_lenT hA ?g1 ?_); (case g1 => walk_at "nm"))
  | ((with_reducible refine' r_lenD hA ?g1 ?_); (case g1 => walk_at "nm"))
  | ((with_reducible refine' r_tqT hA ?g1 ?_); (case g1 => walk_at "nm"))
  | (((with_reducible refine' w_setL [] (o := .non) hA ?g1 ?g2 ?g3 ?_); (case g1 => walk_at "ni"); (case g2 => walk_at "nc"); (case g3 => walk_at "nl")); (try clear hA); intro H hA; dsimp only [List.set, Int.toNat, List.cons_append, List.nil_append] at hA)
  | (((with_reducible refine' w_setL [_] (o := .non) hA ?g1 ?g2 ?g3 ?_); (case g1 => walk_at "ni"); (case g2 => walk_at "nc"); (case g3 => walk_at "nl")); (try clear hA); intro H hA; dsimp only [List.set, Int.toNat, List.cons_append, List.nil_append] at hA)
  | (((with_reducible refine' w_setL [_, _] (o := .non) hA ?g1 ?g2 ?g3 ?_); (case g1 => walk_at "ni"); (case g2 => walk_at "nc"); (case g3 => walk_at "nl")); (try clear hA); intro H hA; dsimp only [List.set, Int.toNat, List.cons_append, List.nil_append] at hA)
  | (((with_reducible refine' w_setL [_, _, _] (o := .non) hA ?g1 ?g2 ?g3 ?_); (case g1 => walk_at "ni"); (case g2 => walk_at "nc"); (case g3 => walk_at "nl")); (try clear hA); intro H hA; dsimp only [List.set, Int.toNat, List.cons_append, List.nil_append] at hA)
  | ((with_reducible refine' s_bm ?_); skip)
  | (((with_reducible refine' w_append [] hA ?g1 ?g2 ?_); (case g1 => walk_at "ni"); (case g2 => walk_at "nl")); (try clear hA); intro H hA; dsimp only [List.set, Int.toNat, List.cons_append, List.nil_append] at hA)
  | (((with_reducible refine' w_append [_] hA ?g1 ?g2 ?_); (case g1 => walk_at "ni"); (case g2 => walk_at "nl")); (try clear hA); intro H hA; dsimp only [List.set, Int.toNat, List.cons_append, List.nil_append] at hA)
  | (((with_reducible refine' w_append [_, _] hA ?g1 ?g2 ?_); (case g1 => walk_at "ni"); (case g2 => walk_at "nl")); (try clear hA); intro H hA; dsimp only [List.set, Int.toNat, List.cons_append, List.nil_append] at hA)
  | (((with_reducible refine' w_append [_, _, _] hA ?g1 ?g2 ?_); (case g1 => walk_at "ni"); (case g2 => walk_at "nl")); (try clear hA); intro H hA; dsimp only [List.set, Int.toNat, List.cons_append, List.nil_append] at hA)
  | ((with_reducible refine' ⟨ty_lst hA ?g1, ?_⟩); (case g1 => walk_at "nm"))
  | ((with_reducible refine' r_isi hA ?g1 ?g2 ?_); (case g1 => walk_at "nt"); (case g2 => walk_at "nb"))
  | (((with_reducible refine' r_lstRg hA ?g1 ?g2 ?_); (case g1 => walk_at "nc"); (case g2 => walk_at "nc")); intro p H hA)
  | (((with_reducible refine' r_list hA ?g1 ?_); (case g1 => walk_at "nh")); intro p H hA)
  | (((with_reducible refine' r_slL hA ?g1 ?_); (case g1 => walk_at "nh")); intro p H hA)
  | (((with_reducible refine' r_listT hA ?g1 ?_); (case g1 => walk_at "nm")); intro p H hA)
  | (((with_reducible refine' r_listD hA ?g1 ?_); (case g1 => walk_at "nm")); intro p H hA)
  | (((with_reducible refine' r_tuple hA ?g1 ?_); (case g1 => walk_at "nh")); intro v H hA)
  | (((with_reducible refine' r_slT hA ?g1 ?_); (case g1 => walk_at "nm")); intro v H hA)
  | (((with_reducible refine' r_lstRev hA ?g1 ?_); (case g1 => walk_at "nh")); intro p H hA)
  | ((with_reducible refine' s_tup ?_); skip)
  | ((with_reducible refine' s_lst ?_); skip)
  | (((with_reducible refine' r_tup hA ?g1 ?g2 ?_); (case g1 => walk_at "na"); (case g2 => walk_at "nl")); intro v H hA)
  | (with_reducible refine' r_dnew hA ?_; intro p H hA)
  | (((with_reducible refine' r_fdO hA ?g1 ?g2 ?g3 ?g4 ?_); (case g1 => walk_at "nm"); (case g2 => walk_at "nf"); (case g3 => walk_at "nf"); (case g4 => rfl)); intro v hA)
  | (((with_reducible refine' r_fd hA ?g1 ?g2 ?g3 ?g4 ?_); (case g1 => walk_at "nm"); (case g2 => walk_at "nf"); (case g3 => walk_at "nf"); (case g4 => rfl)); intro v hA)
  | (with_reducible refine' i_dec (fun hc => ?_) (fun hc => ?_))
  | (with_reducible refine' i_ndec (fun hc => ?_) (fun hc => ?_))
  | (with_reducible refine' i_ne (fun hc => ?_) (fun hc => ?_))
  | (with_reducible refine' i_em (fun hc => ?_) (fun hc => ?_)))
section
variable {P : Program} {w : World} {K : PySem.W.Frag} {mg : PySem.Str → Option Value} {base : Heap}
theorem I_Net2 (B : Bun P K mg) : Ini P w K mg base 5 "Net" (He.ga K "Net") ["self", "places", "transitions", "labels"] [.non] (sp_Net_init K) := by
  obtain ⟨fd, F, ⟨ds, h1, h2⟩, _⟩ := F_Net_init (w := w) (base := base) B
  exact ⟨_, fd, ds, B.n_mk, F, B.g_Net, h1, h2⟩
theorem I_Net3 (B : Bun P K mg) : Ini P w K mg base 5 "Net" (He.ga K "Net") ["self", "places", "transitions", "labels"] [] (sp_Net_init K) := by
  obtain ⟨fd, F, _, h2⟩ := F_Net_init (w := w) (base := base) B
  exact ⟨_, fd, [], B.n_mk, F, B.g_Net, .nil, h2⟩
def netD (K : PySem.W.Frag) (W : Wd) (st : List Int) (k1 k2 k3 : List (Key × D)) : D := .obj (He.ga K "Net") (netFs W st k1 k2 k3)
theorem r_mkNet {R : RL} {L : LL} {H : Hp} {v1 v2 v3 : V} {W : Wd} {l : List (PySem.Str × Int)} {t : List (PySem.Str × List Int × List Int)} {lb : List (PySem.Str × PySem.Str)} {Q : VK} {E : XK} (hA : At R L H) (m1 : (D.dct (l.map pairK), v1) ∈ R) (m2 : (D.dct (t.map (trK W.ps)), v2) ∈ R) (m3 : labKs lb v3 R) (o : W.Ok) (hl : PlOk W.ps l) (ht : TrOk W t) (hb : LabOk W lb)
    (q : ∀ v st k1 k2 k3 H', At ((netD K W st k1 k2 k3, v) :: R) L H' → Q v H') : MkQ (He.ga K "Net") (sp_Net_init K) [v1, v2, v3] E H Q :=
  r_make hA fun x H' hA => ⟨R, L, x, v1, v2, v3, W, l, t, lb, rfl, hA, m1, m2, m3, o, hl, ht, hb, fun st k1 k2 k3 H' hA => ⟨rfl, q _ st k1 k2 k3 _ hA.frzIns⟩⟩
/-! ### the net of a script -/
theorem map_get {α : Type} {f : α → D} {xs : List α} {i : Nat} {a : α} (h : xs[i]? = some a) : (xs.map f)[i]? = some (f a) := by rw [List.getElem?_map, h]; rfl
theorem put_app {l : List (Key × D)} {k : Key} {d : D} (h : k ∉ l.map (·.1)) : put l k d = l ++ [(k, d)] := put_new _ (lk_none h)
theorem put_twice {l : List (Key × D)} {k : Key} {d e : D} (h : k ∉ l.map (·.1)) : put (put l k d) k e = l ++ [(k, e)] := by
  rw [put_app h]
  unfold put
  rw [if_pos (by simp)]
  rw [List.map_append]
  have : l.map (fun kv => if kv.1 = k then (kv.1, e) else kv) = l := by
    conv => rhs; rw [← List.map_id l]
    refine List.map_congr_left fun a ha => ?_
    rw [if_neg (fun z : a.1 = k => h (z ▸ List.mem_map.mpr ⟨a, ha, rfl⟩))]
    rfl
  rw [this]
  simp
def nm (ps : List PySem.Str) (k : Nat) : PySem.Str := ps.getD k ""
theorem ord_perm {ps : List PySem.Str} {ks : List Nat} (h : OrdOk ps.length ks) : (ks.map (nm ps)).Perm ps := by
  have p : ks.Perm (List.range ps.length) := (List.perm_ext_iff_of_nodup h.2.1 List.nodup_range).mpr fun j => by rw [h.2.2, List.mem_range]
  have e : (List.range ps.length).map (nm ps) = ps := by
    refine List.ext_getElem (by simp) fun i h1 h2 => ?_
    simp [nm, List.getElem?_eq_getElem h2]
  have q := p.map (nm ps)
  rw [e] at q
  exact q
theorem nm_get {ps : List PySem.Str} {k : Nat} (h : k < ps.length) : ps[k]? = some (nm ps k) := by simp [nm, List.getElem?_eq_getElem h]
theorem ord_new {ps : List PySem.Str} (nd : ps.Nodup) {ks : List Nat} (h : OrdOk ps.length ks) {i k : Nat} (hk : ks[i]? = some k) : nm ps k ∉ (ks.take i).map (nm ps) := by
  have n := (ord_perm h).nodup_iff.mpr nd
  have s : ((ks.take (i + 1)).map (nm ps)).Nodup := ((List.take_sublist _ _).map _).nodup n
  rw [take_snoc hk, List.map_append] at s
  intro m
  exact (List.nodup_append.mp s).2.2 _ m _ (List.mem_singleton.mpr rfl) rfl
def trOf (W : Wd) (k : Nat) : PySem.Str × List Int × List Int := (nm W.ts k, W.tk.getD k [], W.gv.getD k [])
def sp__law_net (K : PySem.W.Frag) : Sp := fun vs H Q E => ∃ R L p v pt W, vs = [.ref p, v] ∧ PotOk pt ∧ W.Ok ∧ (W.D, v) ∈ R ∧ At R ((p, .lst pt) :: L) H ∧ ∀ u st k1 k2 k3 pt' H', PotOk pt' → At ((netD K W st k1 k2 k3, u) :: R) ((p, .lst pt') :: L) H' → Q u H'
theorem r_net {R : RL} {L : LL} {H : Hp} {p : Addr} {pt : List D} {v : V} {W : Wd} {Q : VK} {E : XK} (hA : At R ((p, .lst pt) :: L) H) (hp : PotOk pt) (o : W.Ok) (m : (W.D, v) ∈ R) (q : ∀ u st k1 k2 k3 pt' H', PotOk pt' → At ((netD K W st k1 k2 k3, u) :: R) ((p, .lst pt') :: L) H' → Q u H') : sp__law_net K [.ref p, v] H Q E := ⟨R, L, p, v, pt, W, rfl, hp, o, m, hA, q⟩
set_option hygiene false in
local macro_rules | `(tactic| walk_at "term _law_net") => `(tactic| refine ⟨_, PSs.nox (pss_cons (ps_set (i := 2) sc__law_net.nd rfl (Or.inl rfl) pe_dnewK)
  (pss_cons (ps_for PassesOwn.never rfl (pi_listK K rfl (pe_fn (F__law_order (P := P) (K := K) (mg := mg) B) hr (by decide) passL rfl (pa_cons (pv 0) (pa_cons (pe_callB (call_len_seqK K rfl) (by rfl) B.T.len (by decide +kernel) (pa_cons (pe_ix (ix_listK K rfl) (pv 1) pe_int (fun _ _ => rfl)) pa_nil)) pa_nil)))) (pg_name (i := 3) sc__law_net.nd rfl (Or.inl rfl))
  (pss_cons (ps_set (i := 4) sc__law_net.nd rfl (Or.inl rfl) (pe_fn (F__law_draw (P := P) (K := K) (mg := mg) B) hr (by decide) passL rfl (pa_cons (pv 0) (pa_cons pe_int pa_nil))))
  (pss_cons (ps_dput (hu_le hr (by decide)) (pv 2) (pe_ix (ix_listK K rfl) (pe_ix (ix_listK K rfl) (pv 1) pe_int (fun _ _ => rfl)) (pv 3) (fun _ _ => rfl)) (pv 4) rfl)
  (pss_one (ps_if (pt_cmpR op_eq (pv 4) pe_int (nomark _))
  (pss_one (ps_dput (hu_le hr (by decide)) (pv 2) (pe_ix (ix_listK K rfl) (pe_ix (ix_listK K rfl) (pv 1) pe_int (fun _ _ => rfl)) (pv 3) (fun _ _ => rfl)) (pe_fn (F__law_draw (P := P) (K := K) (mg := mg) B) hr (by decide) passL rfl (pa_cons (pv 0) (pa_cons (pe_op op_add (pe_op op_pow pe_int pe_int) pe_int) pa_nil))) rfl))
  pss_nil)))))
  (pss_cons (ps_set (i := 5) sc__law_net.nd rfl (Or.inl rfl) pe_dnewK)
  (pss_cons (ps_set (i := 6) sc__law_net.nd rfl (Or.inl rfl) pe_dnewK)
  (pss_cons (ps_for PassesOwn.never rfl (pi_listK K rfl (pe_fn (F__law_order (P := P) (K := K) (mg := mg) B) hr (by decide) passL rfl (pa_cons (pv 0) (pa_cons (pe_callB (call_len_seqK K rfl) (by rfl) B.T.len (by decide +kernel) (pa_cons (pe_ix (ix_listK K rfl) (pv 1) pe_int (fun _ _ => rfl)) pa_nil)) pa_nil)))) (pg_name (i := 3) sc__law_net.nd rfl (Or.inl rfl))
  (pss_cons (ps_set (i := 7) sc__law_net.nd rfl (Or.inl rfl) (pe_ix (ix_listK K rfl) (pe_ix (ix_listK K rfl) (pv 1) pe_int (fun _ _ => rfl)) (pv 3) (fun _ _ => rfl)))
  (pss_cons (ps_dput (hu_le hr (by decide)) (pv 5) (pv 7) (pe_tup (pa_cons (pe_fn (F__law_side (P := P) (K := K) (mg := mg) B) hr (by decide) passL rfl (pa_cons (pe_ix (ix_listK K rfl) (pv 1) pe_int (fun _ _ => rfl)) (pa_cons (pe_ix (ix_listK K rfl) (pe_ix (ix_listK K rfl) (pv 1) pe_int (fun _ _ => rfl)) (pv 3) (fun _ _ => rfl)) pa_nil))) (pa_cons (pe_fn (F__law_side (P := P) (K := K) (mg := mg) B) hr (by decide) passL rfl (pa_cons (pe_ix (ix_listK K rfl) (pv 1) pe_int (fun _ _ => rfl)) (pa_cons (pe_ix (ix_listK K rfl) (pe_ix (ix_listK K rfl) (pv 1) pe_int (fun _ _ => rfl)) (pv 3) (fun _ _ => rfl)) pa_nil))) pa_nil))) rfl)
  (pss_cons (ps_set (i := 4) sc__law_net.nd rfl (Or.inl rfl) (pe_fn (F__law_draw (P := P) (K := K) (mg := mg) B) hr (by decide) passL rfl (pa_cons (pv 0) (pa_cons pe_int pa_nil))))
  (pss_cons (ps_if (pt_cmpR op_eq (pv 4) pe_int (nomark _))
  (pss_one (ps_dput (hu_le hr (by decide)) (pv 6) (pv 7) pe_str rfl))
  pss_nil)
  (pss_one (ps_if (pt_cmpR op_eq (pv 4) pe_int (nomark _))
  (pss_one (ps_dput (hu_le hr (by decide)) (pv 6) (pv 7) (pe_fn (F__law_word (P := P) (K := K) (mg := mg) B) hr (by decide) passL rfl (pa_cons (pv 0) (pa_cons pe_int pa_nil))) rfl))
  pss_nil)))))))
  (pss_cons (ps_if (pt_cmpR (op_eqE (hu_0 hr)) (pv 6) pe_dnewK (nomark _))
  (pss_one (ps_ret (pe_mkI (I_Net2 (P := P) (K := K) (mg := mg) B) hr (by decide) passL rfl (pa_cons (pv 2) (pa_cons (pv 5) pa_nil)))))
  pss_nil)
  (pss_one (ps_ret (pe_mkI (I_Net3 (P := P) (K := K) (mg := mg) B) hr (by decide) passL rfl (pa_cons (pv 2) (pa_cons (pv 5) (pa_cons (pv 6) pa_nil)))))))))))), ?_⟩)
theorem F__law_net (B : Bun P K mg) : Fn P w K mg base 7 "_law_net" ["pot", "world"] (sp__law_net K) := by
  refine B.d__law_net.fn (k := 6) sc__law_net (fun vs H Q E h => ?_) (fun _ _ _ _ _ _ us hl => match us, hl with | [_, _], _ => rfl) fun f cdv A outer s H vs Q E hr h => ?_
  · obtain ⟨_, _, _, _, _, _, rfl, _⟩ := h
    rfl
  · obtain ⟨R, L, pp, wv, pt, W, rfl, hp, o, m, hA, q⟩ := h
    unfold Wd.D at m
    have p60 := o.pl
    have t60 := o.tl
    walk_at "term _law_net"
    repeat' walk_at "nw"
    rename Addr => pd
    refine s_for (s_iList ?_)
    repeat' walk_at "nw"
    rw [List.length_map]
    refine r_order hA.swap hp p60 fun kv ks pt H hp hks hA => ?_
    replace hA := hA.swap
    refine src_lst hA (.head _) fun a ea W1 => for_D W1 hA (fun i σ L' => (∃ c c1, σ = [some (.ref pp), some wv, some (.ref pd), c, c1, none, none, none]) ∧ ∃ (l : List (PySem.Str × Int)) (pt : List D), PotOk pt ∧ l.map (·.1) = (ks.take i).map (nm W.ps) ∧ (∀ x ∈ l, 0 ≤ x.2 ∧ x.2 ≤ 1000000000) ∧ L' = (pd, .dct (l.map pairK)) :: (pp, .lst pt) :: L) ?_ ?_ ?_ ?_
    · exact ⟨⟨_, _, rfl⟩, [], _, hp, rfl, (fun x h => by cases h), rfl⟩
    · exact fun _ _ _ _ => True.intro
    · rintro i d v σ L1 H hd ⟨⟨c, c1, rfl⟩, l, pt, hp, hl, hv, rfl⟩ hA
      rw [List.getElem?_map, Option.map_eq_some_iff] at hd
      obtain ⟨k, hk, rfl⟩ := hd
      obtain rfl : v = .int (k : Nat) := hA.sc_of
      replace hA := hA.drop
      have hkl : k < W.ps.length := (hks.2.2 k).mp (List.mem_of_getElem? hk)
      have hil : i < W.ps.length := by rw [← hks.1]; exact (List.getElem?_eq_some_iff.mp hk).1
      have hln : l.length ≤ 60 := by
        have := congrArg List.length hl
        rw [List.length_map, List.length_map, List.length_take] at this
        omega
      have hg : (W.ps.map D.str)[(k : Int).toNat]? = some (D.str (nm W.ps k)) := map_get (nm_get hkl)
      have hnew : (Sum.inr (nm W.ps k) : Key) ∉ (l.map pairK).map (·.1) := fun h => by
        rw [List.map_map] at h
        obtain ⟨x, hx, e⟩ := List.mem_map.mp h
        have e1 : x.1 = nm W.ps k := Sum.inr.inj e
        have := ord_new o.pnd hks hk
        rw [← hl] at this
        exact this (List.mem_map.mpr ⟨x, hx, e1⟩)
      have hl' : ∀ n : Int, (l ++ [(nm W.ps k, n)]).map (·.1) = (ks.take (i + 1)).map (nm W.ps) := fun n => by rw [List.map_append, hl, take_snoc hk, List.map_append]; rfl
      have hv' : ∀ n : Int, 0 ≤ n → n ≤ 1000000000 → ∀ x ∈ l ++ [(nm W.ps k, n)], 0 ≤ x.2 ∧ x.2 ≤ 1000000000 := fun n h0 h1 x hx => by
        rcases List.mem_append.mp hx with h | h
        · exact hv x h
        · rw [List.mem_singleton.mp h]; exact ⟨h0, h1⟩
      have hm' : ∀ n : Int, (l.map pairK) ++ [((Sum.inr (nm W.ps k) : Key), D.int n)] = (l ++ [(nm W.ps k, n)]).map pairK := fun n => by rw [List.map_append]; rfl
      repeat' walk_at "nw"
      refine r_draw [_] hA hp (by omega) (by omega) fun way pt H hp w0 w1 hA => ?_
      repeat' walk_at "nw"
      refine r_ixLs hA (.head _) (by omega) hg ?_
      replace hA := hA.drop
      refine w_dputS [] hA .sc (by rw [List.length_map]; omega) fun H hA => ?_
      repeat' walk_at "nw"
      · refine r_draw [_] hA hp (by decide) (by decide) fun v pt H hp v0 v1 hA => ?_
        have e9 : (10 : Int) ^ (9 : Int).toNat + 1 = 1000000001 := by decide
        rw [e9] at v1
        repeat' walk_at "nw"
        refine r_ixLs hA (.head _) (by omega) hg ?_
        replace hA := hA.drop
        refine w_dputS [] hA .sc (Nat.lt_of_le_of_lt (put_len _ _ _) (by rw [List.length_map]; omega)) fun H hA => ?_
        rw [List.nil_append, put_twice hnew, hm'] at hA
        exact ⟨_, ⟨⟨_, _, rfl⟩, _, _, hp, hl' _, hv' _ v0 (by omega), rfl⟩, hA⟩
      · rw [List.nil_append, put_app hnew, hm'] at hA
        exact ⟨_, ⟨⟨_, _, rfl⟩, _, _, hp, hl' _, hv' _ w0 (by omega), rfl⟩, hA⟩
    · rintro σ L1 H ⟨⟨c, c1, rfl⟩, l, pt, hp, hl, hv, rfl⟩ hA
      rw [List.length_map, List.take_length] at hl
      replace hA := hA.drop.drop
      have hP : PlOk W.ps l := by
        have pm := ord_perm hks
        rw [← hl] at pm
        exact ⟨pm.nodup_iff.mpr o.pnd, fun z => pm.mem_iff, hv⟩
      clear hl hv hks W1
      iterate 4 walk_at "nw"
      rename Addr => td
      iterate 4 walk_at "nw"
      rename Addr => ld
      repeat' walk_at "nw"
      refine s_for (s_iList ?_)
      repeat' walk_at "nw"
      rw [List.length_map]
      refine r_order (At.front (L1 := [_, _, _]) hA) hp t60 fun kv ks pt H hp hks hA => ?_
      replace hA := At.back (L1 := [_, _, _]) hA
      refine src_lst hA (.head _) fun a ea W1 => for_D W1 hA (fun i σ L' => (∃ c c1 c2, σ = [some (.ref pp), some wv, some (.ref pd), c, c1, some (.ref td), some (.ref ld), c2]) ∧ ∃ (lb : List (PySem.Str × PySem.Str)) (pt : List D), PotOk pt ∧ (lb.map (·.1)).Nodup ∧ (∀ z ∈ lb.map (·.1), z ∈ (ks.take i).map (nm W.ts)) ∧ (∀ x ∈ lb, x.2 = "" ∨ NameOk x.2) ∧ lb.length ≤ i ∧ L' = (ld, .dct (lb.map labK)) :: (td, .dct (((ks.take i).map (trOf W)).map (trK W.ps))) :: (pd, .dct (l.map pairK)) :: (pp, .lst pt) :: L) ?_ ?_ ?_ ?_
      · exact ⟨⟨_, _, _, rfl⟩, [], _, hp, .nil, (fun z h => by cases h), (fun x h => by cases h), Nat.le_refl _, rfl⟩
      · exact fun _ _ _ _ => True.intro
      · rintro i d v σ L1 H hd ⟨⟨c, c1, c2, rfl⟩, lb, pt, hp, hb1, hb2, hb3, hbl, rfl⟩ hA
        rw [List.getElem?_map, Option.map_eq_some_iff] at hd
        obtain ⟨k, hk, rfl⟩ := hd
        obtain rfl : v = .int (k : Nat) := hA.sc_of
        replace hA := hA.drop
        have hkl : k < W.ts.length := (hks.2.2 k).mp (List.mem_of_getElem? hk)
        have hil : i < W.ts.length := by rw [← hks.1]; exact (List.getElem?_eq_some_iff.mp hk).1
        have g1 : (W.ts.map D.str)[(k : Int).toNat]? = some (D.str (nm W.ts k)) := map_get (nm_get hkl)
        have g2 : (W.tk.map rowD)[(k : Int).toNat]? = some (rowD (W.tk.getD k [])) := map_get (by rw [Int.toNat_natCast]; simp [List.getElem?_eq_getElem (show k < W.tk.length by rw [o.kl]; exact hkl)])
        have g3 : (W.gv.map rowD)[(k : Int).toNat]? = some (rowD (W.gv.getD k [])) := map_get (by rw [Int.toNat_natCast]; simp [List.getElem?_eq_getElem (show k < W.gv.length by rw [o.gl]; exact hkl)])
        repeat' walk_at "nw"
        refine r_ixLs hA (.head _) (by omega) g1 ?_
        replace hA := hA.drop
        have rk : RowOk W.ps.length (W.tk.getD k []) := o.kr _ (by simp [List.getElem?_eq_getElem (show k < W.tk.length by rw [o.kl]; exact hkl)])
        have rg : RowOk W.ps.length (W.gv.getD k []) := o.gr _ (by simp [List.getElem?_eq_getElem (show k < W.gv.length by rw [o.gl]; exact hkl)])
        have hnew : (Sum.inr (nm W.ts k) : Key) ∉ (((ks.take i).map (trOf W)).map (trK W.ps)).map (·.1) := fun h => by
          rw [List.map_map, List.map_map] at h
          obtain ⟨j, hj, e⟩ := List.mem_map.mp h
          exact ord_new o.tnd hks hk (List.mem_map.mpr ⟨j, hj, Sum.inr.inj e⟩)
        have hput : (((ks.take i).map (trOf W)).map (trK W.ps)) ++ [((Sum.inr (nm W.ts k) : Key), D.tup [.dct (sideK W.ps (W.tk.getD k [])), .dct (sideK W.ps (W.gv.getD k []))])] = ((ks.take (i + 1)).map (trOf W)).map (trK W.ps) := by
          rw [take_snoc hk, List.map_append, List.map_append]
          rfl
        have hb4 : ∀ z : PySem.Str, (lb ++ [(nm W.ts k, z)]).map (·.1) = lb.map (·.1) ++ [nm W.ts k] := fun z => by rw [List.map_append]; rfl
        have hnl : nm W.ts k ∉ lb.map (·.1) := fun h => ord_new o.tnd hks hk (hb2 _ h)
        have hb1' : ∀ z : PySem.Str, ((lb ++ [(nm W.ts k, z)]).map (·.1)).Nodup := fun z => by
          rw [hb4]
          exact nodup_snoc hb1 fun b hb e => hnl (e ▸ hb)
        have hb2' : ∀ z : PySem.Str, ∀ y ∈ (lb ++ [(nm W.ts k, z)]).map (·.1), y ∈ (ks.take (i + 1)).map (nm W.ts) := fun z y hy => by
          rw [hb4] at hy
          rw [take_snoc hk, List.map_append]
          rcases List.mem_append.mp hy with h | h
          · exact List.mem_append_left _ (hb2 y h)
          · exact List.mem_append_right _ h
        have hb3' : ∀ z : PySem.Str, (z = "" ∨ NameOk z) → ∀ x ∈ lb ++ [(nm W.ts k, z)], x.2 = "" ∨ NameOk x.2 := fun z hz x hx => by
          rcases List.mem_append.mp hx with h | h
          · exact hb3 x h
          · rw [List.mem_singleton.mp h]; exact hz
        have hb0 : ∀ y ∈ lb.map (·.1), y ∈ (ks.take (i + 1)).map (nm W.ts) := fun y hy => by
          rw [take_snoc hk, List.map_append]
          exact List.mem_append_left _ (hb2 y hy)
        have hlput : ∀ z : PySem.Str, put (lb.map labK) (Sum.inr (nm W.ts k)) (D.str z) = (lb ++ [(nm W.ts k, z)]).map labK := fun z => by
          rw [put_app, List.map_append]
          · rfl
          · rw [List.map_map]
            intro h
            obtain ⟨j, hj, e⟩ := List.mem_map.mp h
            exact hnl (List.mem_map.mpr ⟨j, hj, Sum.inr.inj e⟩)
        repeat' walk_at "nw"
        refine r_ixL hA (.head _) (by omega) g2 fun rv hA => ?_
        repeat' walk_at "nw"
        refine r_side hA (by walk_at "mm") (List.mem_cons_self) o.pnd o.pl rk.1 fun sv H hA => ?_
        repeat' walk_at "nw"
        refine r_ixL hA (.head _) (by omega) g3 fun rv hA => ?_
        repeat' walk_at "nw"
        refine r_side hA (by walk_at "mm") (List.mem_cons_self) o.pnd o.pl rg.1 fun sv2 H hA => ?_
        repeat' walk_at "nw"
        refine r_tup hA (ds := [.dct (sideK W.ps (W.tk.getD k [])), .dct (sideK W.ps (W.gv.getD k []))]) (.cons (.mem (by walk_at "mm")) (.cons (.mem List.mem_cons_self) .nil)) (by show 2 ≤ 1000000; decide) fun tv H hA => ?_
        repeat' walk_at "nw"
        refine w_dputS [_] hA (.mem List.mem_cons_self) (by rw [List.length_map, List.length_map, List.length_take]; omega) fun H hA => ?_
        rw [put_app hnew, hput] at hA
        repeat' walk_at "nw"
        refine r_draw [_, _, _] hA hp (by omega) (by omega) fun way pt H hp w0 w1 hA => ?_
        have hbl' : lb.length < 1000000 := by omega
        repeat' walk_at "nw"
        · refine w_dputS [] hA .sc (by rw [List.length_map]; exact hbl') fun H hA => ?_
          repeat' walk_at "nw"
          · omega
          · rw [List.nil_append, hlput] at hA
            exact ⟨_, ⟨⟨_, _, _, rfl⟩, _, _, hp, hb1' _, hb2' _, hb3' _ (.inl rfl), by rw [List.length_append]; show lb.length + 1 ≤ i + 1; omega, rfl⟩, by walk_at "dr"⟩
        · refine r_word (At.front (L1 := [_, _, _]) hA) hp (by omega) (by omega) fun z pt H hp hz hA => ?_
          repeat' walk_at "nw"
          replace hA := At.back (L1 := [_, _, _]) hA
          refine w_dputS [] hA .sc (by rw [List.length_map]; exact hbl') fun H hA => ?_
          rw [List.nil_append, hlput] at hA
          exact ⟨_, ⟨⟨_, _, _, rfl⟩, _, _, hp, hb1' _, hb2' _, hb3' _ (.inr (hz.mono (by omega))), by rw [List.length_append]; show lb.length + 1 ≤ i + 1; omega, rfl⟩, by walk_at "dr"⟩
        · exact ⟨_, ⟨⟨_, _, _, rfl⟩, _, _, hp, hb1, hb0, hb3, by omega, rfl⟩, by walk_at "dr"⟩
      · rintro σ L1 H ⟨⟨c, c1, c2, rfl⟩, lb, pt, hp, hb1, hb2, hb3, hbl, rfl⟩ hA
        rw [List.length_map, List.take_length] at hb2
        rw [List.length_map, List.take_length] at hA
        replace hA := hA.drop.drop
        have hT : TrOk W (ks.map (trOf W)) := by
          have pm := ord_perm hks
          have e : (ks.map (trOf W)).map (·.1) = ks.map (nm W.ts) := by rw [List.map_map]; rfl
          refine ⟨by rw [e]; exact pm.nodup_iff.mpr o.tnd, fun z => by rw [e]; exact pm.mem_iff, fun x hx => ?_⟩
          obtain ⟨k, hk, rfl⟩ := List.mem_map.mp hx
          have hkl := (hks.2.2 k).mp hk
          exact ⟨k, nm_get hkl, by simp [trOf, List.getElem?_eq_getElem (show k < W.tk.length by rw [o.kl]; exact hkl)], by simp [trOf, List.getElem?_eq_getElem (show k < W.gv.length by rw [o.gl]; exact hkl)]⟩
        have hL : LabOk W lb := ⟨hb1, fun z hz => (ord_perm hks).mem_iff.mp (hb2 z hz), hb3⟩
        repeat' walk_at "nw"
        refine r_eqE hA (.tail _ (.head _)) (.head _) ?_
        have hA := hA.forget.frzDct.frzDct.frzDct
        refine s_bl ?_
        cases lb with
        | nil =>
          refine i_t ?_
          repeat' walk_at "nw"
          refine r_mkNet (lb := []) hA (by walk_at "mm") (by walk_at "mm") (.inl ⟨rfl, rfl⟩) o hP hT hL fun u st k1 k2 k3 H hA => ?_
          refine q u st k1 k2 k3 _ _ hp ?_
          exact hA.sub fun z m => (List.mem_cons.mp m).elim (fun e => e ▸ List.mem_cons_self) fun m => by walk_at "mm"
        | cons x lb =>
          refine i_f ?_
          repeat' walk_at "nw"
          refine r_mkNet (lb := x :: lb) hA (by walk_at "mm") (by walk_at "mm") (.inr (by walk_at "mm")) o hP hT hL fun u st k1 k2 k3 H hA => ?_
          refine q u st k1 k2 k3 _ _ hp ?_
          exact hA.sub fun z m => (List.mem_cons.mp m).elim (fun e => e ▸ List.mem_cons_self) fun m => by walk_at "mm"
end
end K26
set_option maxRecDepth 100000
set_option maxHeartbeats 4000000
namespace K26
open PySem PySem.Spec PyProof.Rows L2 Nw
set_option hygiene false in
local macro_rules | `(tactic| walk_at "nf") => `(tactic| first | exact B.n_cls | exact B.n_places | exact B.n_transitions | exact B.n_start | exact B.n_index | exact B.n_takes | exact B.n_gives | exact B.n_takers | exact B.n_givers | exact B.n_labels)
local macro_rules | `(tactic| walk_at "nm") => `(tactic| first | exact .head _ | exact .tail _ (.head _) | exact .tail _ (.tail _ (.head _)) | exact .tail _ (.tail _ (.tail _ (.head _))) | exact .tail _ (.tail _ (.tail _ (.tail _ (.head _)))) | exact .tail _ (.tail _ (.tail _ (.tail _ (.tail _ (.head _))))) | exact .tail _ (.tail _ (.tail _ (.tail _ (.tail _ (.tail _ (.head _)))))) | exact List.mem_append_right _ (.head _) | exact List.mem_append_right _ (.tail _ (.head _)) | exact .tail _ (List.mem_append_right _ (.head _)) | exact .tail _ (.tail _ (List.mem_append_right _ (.head _))) | exact .tail _ (.tail _ (.tail _ (List.mem_append_right _ (.head _)))) | (repeat (first | assumption | refine List.mem_cons_of_mem _ ?_)))
set_option hygiene false in
local macro_rules | `(tactic| walk_at "dr") => `(tactic| repeat (first | exact hA | apply At.drop))
local macro_rules | `(tactic| walk_at "mm") => `(tactic| repeat (first | assumption | exact List.mem_cons_self | refine List.mem_cons_of_mem _ ?_))
local macro_rules | `(tactic| walk_at "nb") => `(tactic| first | exact isT_int_int | exact isT_int_bool | exact isT_int_str | exact isT_int_list | exact isT_int_tuple | exact isT_bool_int | exact isT_bool_bool | exact isT_bool_str | exact isT_bool_list | exact isT_bool_tuple | exact isT_str_int | exact isT_str_bool | exact isT_str_str | exact isT_str_list | exact isT_str_tuple | exact isT_NoneType_int | exact isT_NoneType_bool | exact isT_NoneType_str | exact isT_NoneType_list | exact isT_NoneType_tuple | exact isT_list_int | exact isT_list_bool | exact isT_list_str | exact isT_list_list | exact isT_list_tuple | exact isT_tuple_int | exact isT_tuple_bool | exact isT_tuple_str | exact isT_tuple_list | exact isT_tuple_tuple | decide +kernel)
local macro_rules | `(tactic| walk_at "ni") => `(tactic| first | exact InR.mem (by walk_at "nm") | exact InR.sc | assumption)
local macro_rules | `(tactic| walk_at "nc") => `(tactic| first | omega | decide | (unfold CMul; omega) | (unfold CDiv; omega) | (unfold CPow; omega) | (unfold CPow; decide))
local macro_rules | `(tactic| walk_at "nl") => `(tactic| first | omega | decide | (simp only [List.length_cons, List.length_nil, List.length_append, List.length_map, List.length_set]; omega) | (simp; omega))
local macro_rules | `(tactic| walk_at "nh") => `(tactic| first | exact HasL.r (by walk_at "nm") | exact HasL.o (by walk_at "nm") | assumption)
local macro_rules | `(tactic| walk_at "na") => `(tactic| first | exact AllR.nil | (refine AllR.cons (by walk_at "ni") ?_; walk_at "na"))
local macro_rules | `(tactic| walk_at "nt") => `(tactic| first | exact HasTy.int _ | exact HasTy.str _ | exact HasTy.bl _ | exact HasTy.non | exact HasTy.lst (by walk_at "nm") | exact HasTy.tup (by walk_at "nm") | exact HasTy.own (by walk_at "nm"))
set_option hygiene false in
local macro_rules | `(tactic| walk_at "nw") => `(tactic| first
  | (with_reducible refine' s_seq ?_)
  | (with_reducible refine' s_asg ?_)
  | (with_reducible refine' s_name ?_)
  | (with_reducible refine' s_ret ?_)
  | (with_reducible refine' s_drop ?_)
  | (with_reducible refine' s_next ?_)
  | (with_reducible refine' s_op ?_)
  | (with_reducible refine' s_un ?_)
  | (with_reducible refine' s_c ?_)
  | (with_reducible refine' s_cons ?_)
  | (with_reducible refine' s_nil ?_)
  | (with_reducible refine' s_cb ?_)
  | (with_reducible refine' s_call ?_)
  | (with_reducible refine' s_callS ?_)
  | (with_reducible refine' s_test ?_)
  | (with_reducible refine' s_tb ?_)
  | (with_reducible refine' s_bl ?_)
  | (with_reducible refine' s_not ?_)
  | (with_reducible refine' s_if ?_)
  | (with_reducible refine' s_ifE ?_)
  | (with_reducible refine' s_and ?_)
  | (with_reducible refine' s_or ?_)
  | (with_reducible refine' s_andV ?_)
  | (with_reducible refine' s_orV ?_)
  | (with_reducible refine' s_notV ?_)
  | (with_reducible refine' s_sub ?_)
  | (with_reducible refine' s_chain ?_)
  | (with_reducible refine' s_sl ?_)
  | (with_reducible refine' s_noPart ?_)
  | (with_reducible refine' s_part ?_)
  | (with_reducible refine' r_part ?_)
  | (with_reducible refine' s_m1 ?_)
  | (with_reducible refine' s_fldQ ?_)
  | (with_reducible refine' s_setF ?_)
  | (with_reducible refine' s_cvalQ ?_)
  | (with_reducible refine' s_lstRev ?_)
  | (with_reducible refine' s_dgetQ ?_)
  | (with_reducible refine' s_din ?_)
  | (with_reducible refine' s_dnotin ?_)
  | (with_reducible refine' s_dput ?_)
  | (with_reducible refine' s_dget2Q ?_)
  | (with_reducible refine' s_mkX1 ?_)
  | (with_reducible refine' s_make ?_)
  | (with_reducible refine' s_lstRg ?_)
  | (with_reducible refine' s_tru ?_)
  | (with_reducible refine' s_star ?_)
  | (with_reducible refine' s_xf ?_)
  | (with_reducible refine' s_yes ?_)
  | (with_reducible refine' r_I0 ?_)
  | (with_reducible refine' r_U ?_)
  | (with_reducible refine' r_eqI ?_)
  | (with_reducible refine' r_neI ?_)
  | (with_reducible refine' r_eqS ?_)
  | (with_reducible refine' r_neS ?_)
  | (with_reducible refine' n_isR ?_)
  | (with_reducible refine' n_isN ?_)
  | (with_reducible refine' n_isI ?_)
  | (with_reducible refine' n_isS ?_)
  | (with_reducible refine' n_isB ?_)
  | (with_reducible refine' n_ntR ?_)
  | (with_reducible refine' n_ntN ?_)
  | (with_reducible refine' n_ntI ?_)
  | (with_reducible refine' n_ntS ?_)
  | (with_reducible refine' n_ntB ?_)
  | (with_reducible refine' i_t ?_)
  | (with_reducible refine' i_f ?_)
  | (with_reducible refine' i_nt ?_)
  | (with_reducible refine' i_nf ?_)
  | ((with_reducible refine' s_var ?g1 ?_); (case g1 => rfl))
  | ((with_reducible refine' r_I ?g1 ?_); (case g1 => walk_at "nc"))
  | ((with_reducible refine' w_int ?_))
  | ((with_reducible refine' w_abs ?_))
  | ((with_reducible refine' r_max2 ?_))
  | ((with_reducible refine' r_lenS ?g1 ?_); (case g1 => walk_at "nl"))
  | ((with_reducible refine' r_addS ?g1 ?_); (case g1 => walk_at "nl"))
  | ((with_reducible refine' r_slS ?g1 ?_); (case g1 => walk_at "nl"))
  | ((with_reducible refine' r_inS ?_))
  | ((with_reducible refine' r_ixOs hA ?g1 ?g2 ?g3 ?_); (case g1 => walk_at "nm"); (case g2 => walk_at "nc"); (case g3 => rfl))
  | ((with_reducible refine' r_ixLs hA ?g1 ?g2 ?g3 ?_); (case g1 => walk_at "nm"); (case g2 => walk_at "nc"); (case g3 => rfl))
  | ((with_reducible refine' r_ixTs hA ?g1 ?g2 ?g3 ?_); (case g1 => walk_at "nm"); (case g2 => walk_at "nc"); (case g3 => rfl))
  | (((with_reducible refine' r_ixO hA ?g1 ?g2 ?g3 ?_); (case g1 => walk_at "nm"); (case g2 => walk_at "nc"); (case g3 => rfl)); intro v hA)
  | (((with_reducible refine' r_ixL hA ?g1 ?g2 ?g3 ?_); (case g1 => walk_at "nm"); (case g2 => walk_at "nc"); (case g3 => rfl)); intro v hA)
  | (((with_reducible refine' r_ixT hA ?g1 ?g2 ?g3 ?_); (case g1 => walk_at "nm"); (case g2 => walk_at "nc"); (case g3 => rfl)); intro v hA)
  | ((with_reducible refine' r_lenO hA ?g1 ?_); (case g1 => walk_at "nm"))
  | ((with_reducible refine' r_lenL hA ?g1 ?_); (case g1 => walk_at "nm"))
  | ((with_reducible refine' r_lenT hA ?g1 ?_); (case g1 => walk_at "nm"))
  | ((with_reducible refine' r_lenD hA ?g1 ?_); (case g1 => walk_at "nm"))
  | ((with_reducible refine' r_tqT hA ?g1 ?_); (case g1 => walk_at "nm"))
  | (((with_reducible refine' w_setL [] (o := .non) hA ?g1 ?g2 ?g3 ?_); (case g1 => walk_at "ni"); (case g2 => walk_at "nc"); (case g3 => walk_at "nl")); (try clear hA); intro H hA; dsimp only [List.set, Int.toNat, List.cons_append, List.nil_append] at hA)
  | (((with_reducible refine' w_setL [_] (o := .non) hA ?g1 ?g2 ?g3 ?_); (case g1 => walk_at "ni"); (case g2 => walk_at "nc"); (case g3 => walk_at "nl")); (try clear hA); intro H hA; dsimp only [List.set, Int.toNat, List.cons_append, List.nil_append] at hA)
  | (((with_reducible refine' w_setL [_, _] (o := .non) hA ?g1 ?g2 ?g3 ?_); (case g1 => walk_at "ni"); (case g2 => walk_at "nc"); (case g3 => walk_at "nl")); (try clear hA); intro H hA; dsimp only [List.set, Int.toNat, List.cons_append, List.nil_append] at hA)
  | (((with_reducible refine' w_setL [_, _, _] (o := .non) hA ?g1 ?g2 ?g3 ?_); (case g1 => walk_at "ni"); (case g2 => walk_at "nc"); (case g3 => walk_at "nl")); (try clear hA); intro H hA; dsimp only [List.set, Int.toNat, List.cons_append, List.nil_append] at hA)
  | ((with_reducible refine' s_bm ?_); skip)
  | (((with_reducible refine' w_append [] hA ?g1 ?g2 ?_); (case g1 => walk_at "ni"); (case g2 => walk_at "nl")); (try clear hA); intro H hA; dsimp only [List.set, Int.toNat, List.cons_append, List.nil_append] at hA)
  | (((with_reducible refine' w_append [_] hA ?g1 ?g2 ?_); (case g1 => walk_at "ni"); (case g2 => walk_at "nl")); (try clear hA); intro H hA; dsimp only [List.set, Int.toNat, List.cons_append, List.nil_append] at hA)
  | (((with_reducible refine' w_append [_, _] hA ?g1 ?g2 ?_); (case g1 => walk_at "ni"); (case g2 => walk_at "nl")); (try clear hA); intro H hA; dsimp only [List.set, Int.toNat, List.cons_append, List.nil_append] at hA)
  | (((with_reducible refine' w_append [_, _, _] hA ?g1 ?g2 ?_); (case g1 => walk_at "ni"); (case g2 => walk_at "nl")); (try clear hA); intro H hA; dsimp only [List.set, Int.toNat, List.cons_append, List.nil_append] at hA)
  | ((with_reducible refine' ⟨ty_lst hA ?g1, ?_⟩); (case g1 => walk_at "nm"))
  | ((with_reducible refine' r_isi hA ?g1 ?g2 ?_); (case g1 => walk_at "nt"); (case g2 => walk_at "nb"))
  | (((with_reducible refine' r_lstRg hA ?g1 ?g2 ?_); (case g1 => walk_at "nc"); (case g2 => walk_at "nc")); intro p H hA)
  | (((with_reducible refine' r_list hA ?g1 ?_); (case g1 => walk_at "nh")); intro p H hA)
  | (((with_reducible refine' r_slL hA ?g1 ?_); (case g1 => walk_at "nh")); intro p H hA)
  | (((with_reducible refine' r_listT hA ?g1 ?_); (case g1 => walk_at "nm")); intro p H hA)
  | (((with_reducible refine' r_listD hA ?g1 ?_); (case g1 => walk_at "nm")); intro p H hA)
  | (((with_reducible refine' r_tuple hA ?g1 ?_); (case g1 => walk_at "nh")); intro v H hA)
  | (((with_reducible refine' r_slT hA ?g1 ?_); (case g1 => walk_at "nm")); intro v H hA)
  | (((with_reducible refine' r_lstRev hA ?g1 ?_); (case g1 => walk_at "nh")); intro p H hA)
  | ((with_reducible refine' s_tup ?_); skip)
  | ((with_reducible refine' s_lst ?_); skip)
  | (((with_reducible refine' r_tup hA ?g1 ?g2 ?_); (case g1 => walk_at "na"); (case g2 => walk_at "nl")); intro v H hA)
  | (with_reducible refine' r_dnew hA ?_; intro p H hA)
  | (((with_reducible refine' r_fdO hA ?g1 ?g2 ?g3 ?g4 ?_); (case g1 => walk_at "nm"); (case g2 => walk_at "nf"); (case g3 => walk_at "nf"); (case g4 => rfl)); intro v hA)
  | (((with_reducible refine' r_fd hA ?g1 ?g2 ?g3 ?g4 ?_); (case g1 => walk_at "nm"); (case g2 => walk_at "nf"); (case g3 => walk_at "nf"); (case g4 => rfl)); intro v hA)
  | (with_reducible refine' i_dec (fun hc => ?_) (fun hc => ?_))
  | (with_reducible refine' i_ndec (fun hc => ?_) (fun hc => ?_))
  | (with_reducible refine' i_ne (fun hc => ?_) (fun hc => ?_))
  | (with_reducible refine' i_em (fun hc => ?_) (fun hc => ?_)))
section
variable {P : Program} {w : World} {K : PySem.W.Frag} {mg : PySem.Str → Option Value} {base : Heap}
/-! ### indexes that are wanted -/
def WtOk (n : Nat) (ws : List Nat) : Prop := ws.length ≤ 60 ∧ ∀ k ∈ ws, k < n
def sp__law_wanted (K : PySem.W.Frag) : Sp := fun vs H Q E => ∃ R L p v pt, ∃ W : Wd, vs = [.ref p, v] ∧ PotOk pt ∧ W.Ok ∧ (W.D, v) ∈ R ∧ At R ((p, .lst pt) :: L) H ∧ ∀ u ws pt' H', PotOk pt' → WtOk W.ts.length ws → At ((D.lst (ws.map natD), u) :: R) ((p, .lst pt') :: L) H' → Q u H'
theorem r_wanted {R : RL} {L : LL} {H : Hp} {p : Addr} {pt : List D} {v : V} {W : Wd} {Q : VK} {E : XK} (hA : At R ((p, .lst pt) :: L) H) (hp : PotOk pt) (o : W.Ok) (m : (W.D, v) ∈ R) (q : ∀ u ws pt' H', PotOk pt' → WtOk W.ts.length ws → At ((D.lst (ws.map natD), u) :: R) ((p, .lst pt') :: L) H' → Q u H') : sp__law_wanted K [.ref p, v] H Q E := ⟨R, L, p, v, pt, W, rfl, hp, o, m, hA, q⟩
set_option hygiene false in
local macro_rules | `(tactic| walk_at "term _law_wanted") => `(tactic| refine ⟨_, PSs.nox (pss_cons (ps_set (i := 2) sc__law_wanted.nd rfl (Or.inr rfl) (pe_callB (call_len_seqK K rfl) (by rfl) B.T.len (by decide +kernel) (pa_cons (pe_ix (ix_listK K rfl) (pv 1) pe_int (fun _ _ => rfl)) pa_nil)))
  (pss_cons (ps_set (i := 3) sc__law_wanted.nd rfl (Or.inl rfl) (pe_fn (F__law_draw (P := P) (K := K) (mg := mg) B) hr (by decide) passL rfl (pa_cons (pv 0) (pa_cons pe_int pa_nil))))
  (pss_cons (ps_if (pt_cmpR op_eq (pe_ix (ix_listK K rfl) (pv 1) pe_int (fun _ _ => rfl)) pe_int (nomark _))
  (pss_one (ps_set (i := 3) sc__law_wanted.nd rfl (Or.inl rfl) pe_int))
  pss_nil)
  (pss_cons (ps_if (pt_cmpR op_eq (pe_ix (ix_listK K rfl) (pv 1) pe_int (fun _ _ => rfl)) pe_int (nomark _))
  (pss_one (ps_set (i := 3) sc__law_wanted.nd rfl (Or.inl rfl) pe_int))
  pss_nil)
  (pss_cons (ps_if (PW.pt (pw_or (pt_cmpR op_eq (pv 3) pe_int (nomark _)) (pw_or1 (pt_cmpR op_eq (pv 2) pe_int (nomark _)))))
  (pss_one (ps_ret (pe_listRg rfl rfl B.T.list (prg_1 rfl B.T.range (pv 2)))))
  pss_nil)
  (pss_cons (ps_if (pt_cmpR op_eq (pv 3) pe_int (nomark _))
  (pss_cons (ps_set (i := 4) sc__law_wanted.nd rfl (Or.inr rfl) (pe_lc (own := [("k", 6)]) rfl sc__law_wanted.nd (pi_range1 rfl B.T.range (pa_cons (pe_fn (F__law_draw (P := P) (K := K) (mg := mg) B) hr (by decide) passL rfl (pa_cons (pv 0) (pa_cons pe_int pa_nil))) pa_nil)) (blkOk_by (own := [("k", 6)]) (N := n__law_wanted) (sc := defScope s__law_wanted) (by decide +kernel)) (fun _ _ _ _ _ => (pg_name (i := 6) sc__law_wanted.nd rfl (Or.inl rfl))) (fun _ _ _ _ _ => pts_nil) (fun _ _ _ _ _ => (pe_fn (F__law_draw (P := P) (K := K) (mg := mg) B) hr (by decide) passL rfl (pa_cons (pv 0) (pa_cons (pv 2) pa_nil))))))
  (pss_one (ps_ret (pe_lc (own := [("k", 6)]) rfl sc__law_wanted.nd (pi_range1 rfl B.T.range (pa_cons (pv 2) pa_nil)) (blkOk_by (own := [("k", 6)]) (N := n__law_wanted) (sc := defScope s__law_wanted) (by decide +kernel)) (fun _ _ _ _ _ => (pg_name (i := 6) sc__law_wanted.nd rfl (Or.inl rfl))) (fun _ _ _ _ _ => (pts_one (pt_cmpR (op_in_seqK K rfl) (pv 6) (pv 4) rfl))) (fun _ _ _ _ _ => (pv 6))))))
  pss_nil)
  (pss_cons (ps_set (i := 5) sc__law_wanted.nd rfl (Or.inr rfl) (pe_lc (own := [("k", 6)]) rfl sc__law_wanted.nd (pi_range1 rfl B.T.range (pa_cons (pv 2) pa_nil)) (blkOk_by (own := [("k", 6)]) (N := n__law_wanted) (sc := defScope s__law_wanted) (by decide +kernel)) (fun _ _ _ _ _ => (pg_name (i := 6) sc__law_wanted.nd rfl (Or.inl rfl))) (fun _ _ _ _ _ => pts_nil) (fun _ _ _ _ _ => (pe_fn (F__law_draw (P := P) (K := K) (mg := mg) B) hr (by decide) passL rfl (pa_cons (pv 0) (pa_cons pe_int pa_nil))))))
  (pss_one (ps_ret (pe_lc (own := [("k", 6)]) rfl sc__law_wanted.nd (pi_range1 rfl B.T.range (pa_cons (pv 2) pa_nil)) (blkOk_by (own := [("k", 6)]) (N := n__law_wanted) (sc := defScope s__law_wanted) (by decide +kernel)) (fun _ _ _ _ _ => (pg_name (i := 6) sc__law_wanted.nd rfl (Or.inl rfl))) (fun _ _ _ _ _ => (pts_one (pt_cmpR op_eq (pe_ix (ix_listK K rfl) (pv 5) (pv 6) (fun _ _ => rfl)) pe_int (nomark _)))) (fun _ _ _ _ _ => (pv 6)))))))))))), ?_⟩)
theorem F__law_wanted (B : Bun P K mg) : Fn P w K mg base 3 "_law_wanted" ["pot", "world"] (sp__law_wanted K) := by
  refine B.d__law_wanted.fn (k := 2) sc__law_wanted (fun vs H Q E h => ?_) (fun _ _ _ _ _ _ us hl => match us, hl with | [_, _], _ => rfl) fun f cdv A outer s H vs Q E hr h => ?_
  · obtain ⟨_, _, _, _, _, _, rfl, _⟩ := h
    rfl
  · obtain ⟨R, L, pp, wv, pt, W, rfl, hp, o, m, hA, q⟩ := h
    unfold Wd.D at m
    have t60 := o.tl
    walk_at "term _law_wanted"
    repeat' walk_at "nw"
    rw [List.length_map]
    refine r_draw [] hA hp (by omega) (by omega) fun way pt H hp w0 w1 hA => ?_
    have hA := hA.drop
    walk_at "nw"
    dsimp only
    have one : ∀ {nx : L2.St → Hp → Prop} {rt : VK} {c : Int} {d : Int} {H : Hp} {way : Int} {pt : List D}, (∀ σ H, (∃ way : Int, 0 ≤ way ∧ way ≤ 2 ∧ σ = [some (.ref pp), some wv, some (.int (W.ts.length : Nat)), some (.int way), none, none, none] ∧ At R ((pp, .lst pt) :: L) H) → nx σ H) → 0 ≤ way → way ≤ 2 → 0 ≤ d → d ≤ 2 → At R ((pp, .lst pt) :: L) H →
        tIfS (tTest (tOp rEq (tOp (rIxL K) (tVar 1) (tC (V.int 4))) (tC (V.int c)))) (tAsg (tC (V.int d)) (gName 3)) tNext { nx := nx, rt := rt } [some (.ref pp), some wv, some (.int (W.ts.length : Nat)), some (.int way), none, none, none] H := by
      intro nx rt c d H way pt hnx w0 w1 d0 d1 hA
      repeat' walk_at "nw"
      · exact hnx _ _ ⟨_, d0, d1, rfl, hA⟩
      · exact hnx _ _ ⟨_, w0, w1, rfl, hA⟩
    refine s_cut (fun σ H => ∃ way : Int, 0 ≤ way ∧ way ≤ 2 ∧ σ = [some (.ref pp), some wv, some (.int (W.ts.length : Nat)), some (.int way), none, none, none] ∧ At R ((pp, .lst pt) :: L) H) ?_ fun nx hnx => one hnx w0 (by omega) (by omega) (by omega) hA
    rintro σ H ⟨way, w0, w1, rfl, hA⟩
    refine s_cut (fun σ H => ∃ way : Int, 0 ≤ way ∧ way ≤ 2 ∧ σ = [some (.ref pp), some wv, some (.int (W.ts.length : Nat)), some (.int way), none, none, none] ∧ At R ((pp, .lst pt) :: L) H) ?_ fun nx hnx => one hnx w0 (by omega) (by omega) (by omega) hA
    rintro σ H ⟨way, w0, w1, rfl, hA⟩
    have full : WtOk W.ts.length (List.range (W.ts.length : Int).toNat) := ⟨by simpa using t60, fun k hk => by simpa using hk⟩
    have n0 : (0 : Int) ≤ (W.ts.length : Nat) := by omega
    have n60 : ((W.ts.length : Nat) : Int) ≤ 60 := by omega
    repeat' walk_at "nw"
    · exact q _ _ _ _ hp full hA.frzLst
    · exact q _ _ _ _ hp full hA.frzLst
    · refine s_lc (s_iRng1 ?_)
      repeat' walk_at "nw"
      refine r_draw [] hA hp (by omega) (by omega) fun many pt H hp h0 h1 hA => ?_
      repeat' walk_at "nw"
      refine src_rng (by omega) (by omega) fun W1 => lc_D W1 hA (fun i as L' => ∃ (pt : List D) (zs : List Int), PotOk pt ∧ L' = (pp, .lst pt) :: L ∧ as = zs.map D.int) ?_ ?_ ?_ ?_
      · exact ⟨_, [], hp, rfl, rfl⟩
      · exact fun _ _ _ _ _ => True.intro
      · rintro j d v as L1 H p2 hd ⟨pt, zs, hp, rfl, rfl⟩ hlen hA
        obtain ⟨hj, rfl⟩ := rngD_get hd
        refine s_name ⟨rfl, ?_⟩
        repeat' walk_at "nw"
        refine r_draw [_] hA hp (by omega) (by omega) fun z pt H hp h0 h1 hA => ?_
        exact lc_end hA (fun z hz => List.mem_cons_of_mem _ hz) .sc hlen (by omega) ⟨pt, zs ++ [z], hp, rfl, by rw [List.map_append]; rfl⟩
      · rintro p2 as L1 H ⟨pt, zs, hp, rfl, rfl⟩ hlen hA
        repeat' walk_at "nw"
        refine s_lc (s_iRng1 ?_)
        repeat' walk_at "nw"
        refine src_rng (by omega) (by omega) fun W1 => lc_D W1 hA (fun i as L' => L' = (p2, .lst (zs.map D.int)) :: (pp, .lst pt) :: L ∧ ∃ ws : List Nat, as = ws.map natD ∧ ws.length ≤ i ∧ ∀ k ∈ ws, k < W.ts.length) ?_ ?_ ?_ ?_
        · exact ⟨rfl, [], rfl, Nat.le_refl _, fun k hk => by cases hk⟩
        · exact fun _ _ _ _ _ => True.intro
        · rintro j d v as L1 H p3 hd ⟨rfl, ws, rfl, hwl, hw⟩ hlen hA
          obtain ⟨hj, rfl⟩ := rng0_get hd
          obtain rfl : v = .int (j : Nat) := hA.sc_of
          refine s_name ⟨rfl, ?_⟩
          repeat' walk_at "nw"
          refine r_in (zs := zs.map V.int) hA (.o (by rw [List.map_map]; exact .tail _ (.head _))) rfl (by simp [flatV]) ?_
          rw [inV_int]
          repeat' walk_at "nw"
          · exact lc_end hA (fun z hz => List.mem_cons_of_mem _ hz) .sc hlen (by omega) ⟨rfl, ws ++ [j], by rw [List.map_append]; rfl, by rw [List.length_append]; show ws.length + 1 ≤ j + 1; omega, fun k hk => by
              rcases List.mem_append.mp hk with h | h
              · exact hw k h
              · rw [List.mem_singleton.mp h]; simpa using hj⟩
          · exact lc_no hA.drop hlen ⟨rfl, ws, rfl, by omega, hw⟩
        · rintro p3 as L1 H ⟨rfl, ws, rfl, hwl, hw⟩ hlen hA
          rw [rngD_len] at hwl
          have hA := hA.frzLst.forget
          exact q _ ws _ _ hp ⟨by simp at hwl; omega, hw⟩ hA
    · refine s_lc (s_iRng1 ?_)
      repeat' walk_at "nw"
      refine src_rng (by omega) (by omega) fun W1 => lc_D W1 hA (fun i as L' => ∃ (pt : List D) (zs : List Int), PotOk pt ∧ L' = (pp, .lst pt) :: L ∧ as = zs.map D.int ∧ zs.length = i) ?_ ?_ ?_ ?_
      · exact ⟨_, [], hp, rfl, rfl, rfl⟩
      · exact fun _ _ _ _ _ => True.intro
      · rintro j d v as L1 H p2 hd ⟨pt, zs, hp, rfl, rfl, hzl⟩ hlen hA
        obtain ⟨hj, rfl⟩ := rngD_get hd
        refine s_name ⟨rfl, ?_⟩
        repeat' walk_at "nw"
        refine r_draw [_] hA hp (by omega) (by omega) fun z pt H hp h0 h1 hA => ?_
        exact lc_end hA (fun z hz => List.mem_cons_of_mem _ hz) .sc hlen (by omega) ⟨pt, zs ++ [z], hp, rfl, by rw [List.map_append]; rfl, by rw [List.length_append, hzl]; rfl⟩
      · rintro p2 as L1 H ⟨pt, zs, hp, rfl, rfl, hzl⟩ hlen hA
        rw [rngD_len] at hzl
        repeat' walk_at "nw"
        refine s_lc (s_iRng1 ?_)
        repeat' walk_at "nw"
        refine src_rng (by omega) (by omega) fun W1 => lc_D W1 hA (fun i as L' => L' = (p2, .lst (zs.map D.int)) :: (pp, .lst pt) :: L ∧ ∃ ws : List Nat, as = ws.map natD ∧ ws.length ≤ i ∧ ∀ k ∈ ws, k < W.ts.length) ?_ ?_ ?_ ?_
        · exact ⟨rfl, [], rfl, Nat.le_refl _, fun k hk => by cases hk⟩
        · exact fun _ _ _ _ _ => True.intro
        · rintro j d v as L1 H p3 hd ⟨rfl, ws, rfl, hwl, hw⟩ hlen hA
          obtain ⟨hj, rfl⟩ := rng0_get hd
          obtain rfl : v = .int (j : Nat) := hA.sc_of
          refine s_name ⟨rfl, ?_⟩
          repeat' walk_at "nw"
          obtain ⟨z, hz⟩ : ∃ z, zs[j]? = some z := ⟨_, List.getElem?_eq_getElem (by simp at hj; omega)⟩
          refine r_ixOs hA (.tail _ (.head _)) (by omega) (by rw [Int.toNat_natCast]; exact map_get hz) ?_
          repeat' walk_at "nw"
          · exact lc_end hA (fun z hz => List.mem_cons_of_mem _ hz) .sc hlen (by omega) ⟨rfl, ws ++ [j], by rw [List.map_append]; rfl, by rw [List.length_append]; show ws.length + 1 ≤ j + 1; omega, fun k hk => by
              rcases List.mem_append.mp hk with h | h
              · exact hw k h
              · rw [List.mem_singleton.mp h]; simpa using hj⟩
          · exact lc_no hA.drop hlen ⟨rfl, ws, rfl, by omega, hw⟩
        · rintro p3 as L1 H ⟨rfl, ws, rfl, hwl, hw⟩ hlen hA
          rw [rngD_len] at hwl
          have hA := hA.frzLst.forget
          exact q _ ws _ _ hp ⟨by simp at hwl; omega, hw⟩ hA
end
end K26
set_option maxRecDepth 100000
set_option maxHeartbeats 4000000
namespace K26
open PySem PySem.Spec PyProof.Rows L2 Nw
set_option hygiene false in
local macro_rules | `(tactic| walk_at "nf") => `(tactic| first | exact B.n_cls | exact B.n_places | exact B.n_transitions | exact B.n_start | exact B.n_index | exact B.n_takes | exact B.n_gives | exact B.n_takers | exact B.n_givers | exact B.n_labels)
local macro_rules | `(tactic| walk_at "nm") => `(tactic| first | exact .head _ | exact .tail _ (.head _) | exact .tail _ (.tail _ (.head _)) | exact .tail _ (.tail _ (.tail _ (.head _))) | exact .tail _ (.tail _ (.tail _ (.tail _ (.head _)))) | exact .tail _ (.tail _ (.tail _ (.tail _ (.tail _ (.head _))))) | exact .tail _ (.tail _ (.tail _ (.tail _ (.tail _ (.tail _ (.head _)))))) | exact List.mem_append_right _ (.head _) | exact List.mem_append_right _ (.tail _ (.head _)) | exact .tail _ (List.mem_append_right _ (.head _)) | exact .tail _ (.tail _ (List.mem_append_right _ (.head _))) | exact .tail _ (.tail _ (.tail _ (List.mem_append_right _ (.head _)))) | (repeat (first | assumption | refine List.mem_cons_of_mem _ ?_)))
set_option hygiene false in
local macro_rules | `(tactic| walk_at "dr") => `(tactic| repeat (first | exact hA | apply At.drop))
local macro_rules | `(tactic| walk_at "mm") => `(tactic| repeat (first | assumption | exact List.mem_cons_self | refine List.mem_cons_of_mem _ ?_))
local macro_rules | `(tactic| walk_at "nb") => `(tactic| first | exact isT_int_int | exact isT_int_bool | exact isT_int_str | exact isT_int_list | exact isT_int_tuple | exact isT_bool_int | exact isT_bool_bool | exact isT_bool_str | exact isT_bool_list | exact isT_bool_tuple | exact isT_str_int | exact isT_str_bool | exact isT_str_str | exact isT_str_list | exact isT_str_tuple | exact isT_NoneType_int | exact isT_NoneType_bool | exact isT_NoneType_str | exact isT_NoneType_list | exact isT_NoneType_tuple | exact isT_list_int | exact isT_list_bool | exact isT_list_str | exact isT_list_list | exact isT_list_tuple | exact isT_tuple_int | exact isT_tuple_bool | exact isT_tuple_str | exact isT_tuple_list | exact isT_tuple_tuple | decide +kernel)
local macro_rules | `(tactic| walk_at "ni") => `(tactic| first | exact InR.mem (by walk_at "nm") | exact InR.sc | assumption)
local macro_rules | `(tactic| walk_at "nc") => `(tactic| first | omega | decide | (unfold CMul; omega) | (unfold CDiv; omega) | (unfold CPow; omega) | (unfold CPow; decide))
local macro_rules | `(tactic| walk_at "nl") => `(tactic| first | omega | decide | (simp only [List.length_cons, List.length_nil, List.length_append, List.length_map, List.length_set]; omega) | (simp; omega))
local macro_rules | `(tactic| walk_at "nh") => `(tactic| first | exact HasL.r (by walk_at "nm") | exact HasL.o (by walk_at "nm") | assumption)
local macro_rules | `(tactic| walk_at "na") => `(tactic| first | exact AllR.nil | (refine AllR.cons (by walk_at "ni") ?_; walk_at "na"))
local macro_rules | `(tactic| walk_at "nt") => `(tactic| first | exact HasTy.int _ | exact HasTy.str _ | exact HasTy.bl _ | exact HasTy.non | exact HasTy.lst (by walk_at "nm") | exact HasTy.tup (by walk_at "nm") | exact HasTy.own (by walk_at "nm"))
set_option hygiene false in
local macro_rules | `(tactic| walk_at "nw") => `(tactic| first
  | (with_reducible refine' s_seq ?_)
  | (with_reducible refine' s_asg ?_)
  | (with_reducible refine' s_name ?_)
  | (with_reducible refine' s_ret ?_)
  | (with_reducible refine' s_drop ?_)
  | (with_reducible refine' s_next ?_)
  | (with_reducible refine' s_op ?_)
  | (with_reducible refine' s_un ?_)
  | (with_reducible refine' s_c ?_)
  | (with_reducible refine' s_cons ?_)
  | (with_reducible refine' s_nil ?_)
  | (with_reducible refine' s_cb ?_)
  | (with_reducible refine' s_call ?_)
  | (with_reducible refine' s_callS ?_)
  | (with_reducible refine' s_test ?_)
  | (with_reducible refine' s_tb ?_)
  | (with_reducible refine' s_bl ?_)
  | (with_reducible refine' s_not ?_)
  | (with_reducible refine' s_if ?_)
  | (with_reducible refine' s_ifE ?_)
  | (with_reducible refine' s_and ?_)
  | (with_reducible refine' s_or ?_)
  | (with_reducible refine' s_andV ?_)
  | (with_reducible refine' s_orV ?_)
  | (with_reducible refine' s_notV ?_)
  | (with_reducible refine' s_sub ?_)
  | (with_reducible refine' s_chain ?_)
  | (with_reducible refine' s_sl ?_)
  | (with_reducible refine' s_noPart ?_)
  | (with_reducible refine' s_part ?_)
  | (with_reducible refine' r_part ?_)
  | (with_reducible refine' s_m1 ?_)
  | (with_reducible refine' s_fldQ ?_)
  | (with_reducible refine' s_setF ?_)
  | (with_reducible refine' s_cvalQ ?_)
  | (with_reducible refine' s_lstRev ?_)
  | (with_reducible refine' s_dgetQ ?_)
  | (with_reducible refine' s_din ?_)
  | (with_reducible refine' s_dnotin ?_)
  | (with_reducible refine' s_dput ?_)
  | (with_reducible refine' s_dget2Q ?_)
  | (with_reducible refine' s_mkX1 ?_)
  | (with_reducible refine' s_make ?_)
  | (with_reducible refine' s_lstRg ?_)
  | (with_reducible refine' s_tru ?_)
  | (with_reducible refine' s_star ?_)
  | (with_reducible refine' s_xf ?_)
  | (with_reducible refine' s_yes ?_)
  | (with_reducible refine' r_I0 ?_)
  | (with_reducible refine' r_U ?_)
  | (with_reducible refine' r_eqI ?_)
  | (with_reducible refine' r_neI ?_)
  | (with_reducible refine' r_eqS ?_)
  | (with_reducible refine' r_neS ?_)
  | (with_reducible refine' n_isR ?_)
  | (with_reducible refine' n_isN ?_)
  | (with_reducible refine' n_isI ?_)
  | (with_reducible refine' n_isS ?_)
  | (with_reducible refine' n_isB ?_)
  | (with_reducible refine' n_ntR ?_)
  | (with_reducible refine' n_ntN ?_)
  | (with_reducible refine' n_ntI ?_)
  | (with_reducible refine' n_ntS ?_)
  | (with_reducible refine' n_ntB ?_)
  | (with_reducible refine' i_t ?_)
  | (with_reducible refine' i_f ?_)
  | (with_reducible refine' i_nt ?_)
  | (with_reducible refine' i_nf ?_)
  | ((with_reducible refine' s_var ?g1 ?_); (case g1 => rfl))
  | ((with_reducible refine' r_I ?g1 ?_); (case g1 => walk_at "nc"))
  | ((with_reducible refine' w_int ?_))
  | ((with_reducible refine' w_abs ?_))
  | ((with_reducible refine' r_max2 ?_))
  | ((with_reducible refine' r_lenS ?g1 ?_); (case g1 => walk_at "nl"))
  | ((with_reducible refine' r_addS ?g1 ?_); (case g1 => walk_at "nl"))
  | ((with_reducible refine' r_slS ?g1 ?_); (case g1 => walk_at "nl"))
  | ((with_reducible refine' r_inS ?_))
  | ((with_reducible refine' r_ixOs hA ?g1 ?g2 ?g3 ?_); (case g1 => walk_at "nm"); (case g2 => walk_at "nc"); (case g3 => rfl))
  | ((with_reducible refine' r_ixLs hA ?g1 ?g2 ?g3 ?_); (case g1 => walk_at "nm"); (case g2 => walk_at "nc"); (case g3 => rfl))
  | ((with_reducible refine' r_ixTs hA ?g1 ?g2 ?g3 ?_); (case g1 => walk_at "nm"); (case g2 => walk_at "nc"); (case g3 => rfl))
  | (((with_reducible refine' r_ixO hA ?g1 ?g2 ?g3 ?_); (case g1 => walk_at "nm"); (case g2 => walk_at "nc"); (case g3 => rfl)); intro v hA)
  | (((with_reducible refine' r_ixL hA ?g1 ?g2 ?g3 ?_); (case g1 => walk_at "nm"); (case g2 => walk_at "nc"); (case g3 => rfl)); intro v hA)
  | (((with_reducible refine' r_ixT hA ?g1 ?g2 ?g3 ?_); (case g1 => walk_at "nm"); (case g2 => walk_at "nc"); (case g3 => rfl)); intro v hA)
  | ((with_reducible refine' r_lenO hA ?g1 ?_); (case g1 => walk_at "nm"))
  | ((with_reducible refine' r_lenL hA ?g1 ?_); (case g1 => walk_at "nm"))
  | ((with_reducible refine' r_lenT hA ?g1 ?_); (case g1 => walk_at "nm"))
  | ((with_reducible refine' r_lenD hA ?g1 ?_); (case g1 => walk_at "nm"))
  | ((with_reducible refine' r_tqT hA ?g1 ?_); (case g1 => walk_at "nm"))
  | (((with_reducible refine' w_setL [] (o := .non) hA ?g1 ?g2 ?g3 ?_); (case g1 => walk_at "ni"); (case g2 => walk_at "nc"); (case g3 => walk_at "nl")); (try clear hA); intro H hA; dsimp only [List.set, Int.toNat, List.cons_append, List.nil_append] at hA)
  | (((with_reducible refine' w_setL [_] (o := .non) hA ?g1 ?g2 ?g3 ?_); (case g1 => walk_at "ni"); (case g2 => walk_at "nc"); (case g3 => walk_at "nl")); (try clear hA); intro H hA; dsimp only [List.set, Int.toNat, List.cons_append, List.nil_append] at hA)
  | (((with_reducible refine' w_setL [_, _] (o := .non) hA ?g1 ?g2 ?g3 ?_); (case g1 => walk_at "ni"); (case g2 => walk_at "nc"); (case g3 => walk_at "nl")); (try clear hA); intro H hA; dsimp only [List.set, Int.toNat, List.cons_append, List.nil_append] at hA)
  | (((with_reducible refine' w_setL [_, _, _] (o := .non) hA ?g1 ?g2 ?g3 ?_); (case g1 => walk_at "ni"); (case g2 => walk_at "nc"); (case g3 => walk_at "nl")); (try clear hA); intro H hA; dsimp only [List.set, Int.toNat, List.cons_append, List.nil_append] at hA)
  | ((with_reducible refine' s_bm ?_); skip)
  | (((with_reducible refine' w_append [] hA ?g1 ?g2 ?_); (case g1 => walk_at "ni"); (case g2 => walk_at "nl")); (try clear hA); intro H hA; dsimp only [List.set, Int.toNat, List.cons_append, List.nil_append] at hA)
  | (((with_reducible refine' w_append [_] hA ?g1 ?g2 ?_); (case g1 => walk_at "ni"); (case g2 => walk_at "nl")); (try clear hA); intro H hA; dsimp only [List.set, Int.toNat, List.cons_append, List.nil_append] at hA)
  | (((with_reducible refine' w_append [_, _] hA ?g1 ?g2 ?_); (case g1 => walk_at "ni"); (case g2 => walk_at "nl")); (try clear hA); intro H hA; dsimp only [List.set, Int.toNat, List.cons_append, List.nil_append] at hA)
  | (((with_reducible refine' w_append [_, _, _] hA ?g1 ?g2 ?_); (case g1 => walk_at "ni"); (case g2 => walk_at "nl")); (try clear hA); intro H hA; dsimp only [List.set, Int.toNat, List.cons_append, List.nil_append] at hA)
  | ((with_reducible refine' ⟨ty_lst hA ?g1, ?_⟩); (case g1 => walk_at "nm"))
  | ((with_reducible refine' r_isi hA ?g1 ?g2 ?_); (case g1 => walk_at "nt"); (case g2 => walk_at "nb"))
  | (((with_reducible refine' r_lstRg hA ?g1 ?g2 ?_); (case g1 => walk_at "nc"); (case g2 => walk_at "nc")); intro p H hA)
  | (((with_reducible refine' r_list hA ?g1 ?_); (case g1 => walk_at "nh")); intro p H hA)
  | (((with_reducible refine' r_slL hA ?g1 ?_); (case g1 => walk_at "nh")); intro p H hA)
  | (((with_reducible refine' r_listT hA ?g1 ?_); (case g1 => walk_at "nm")); intro p H hA)
  | (((with_reducible refine' r_listD hA ?g1 ?_); (case g1 => walk_at "nm")); intro p H hA)
  | (((with_reducible refine' r_tuple hA ?g1 ?_); (case g1 => walk_at "nh")); intro v H hA)
  | (((with_reducible refine' r_slT hA ?g1 ?_); (case g1 => walk_at "nm")); intro v H hA)
  | (((with_reducible refine' r_lstRev hA ?g1 ?_); (case g1 => walk_at "nh")); intro p H hA)
  | ((with_reducible refine' s_tup ?_); skip)
  | ((with_reducible refine' s_lst ?_); skip)
  | (((with_reducible refine' r_tup hA ?g1 ?g2 ?_); (case g1 => walk_at "na"); (case g2 => walk_at "nl")); intro v H hA)
  | (with_reducible refine' r_dnew hA ?_; intro p H hA)
  | (((with_reducible refine' r_fdO hA ?g1 ?g2 ?g3 ?g4 ?_); (case g1 => walk_at "nm"); (case g2 => walk_at "nf"); (case g3 => walk_at "nf"); (case g4 => rfl)); intro v hA)
  | (((with_reducible refine' r_fd hA ?g1 ?g2 ?g3 ?g4 ?_); (case g1 => walk_at "nm"); (case g2 => walk_at "nf"); (case g3 => walk_at "nf"); (case g4 => rfl)); intro v hA)
  | (with_reducible refine' i_dec (fun hc => ?_) (fun hc => ?_))
  | (with_reducible refine' i_ndec (fun hc => ?_) (fun hc => ?_))
  | (with_reducible refine' i_ne (fun hc => ?_) (fun hc => ?_))
  | (with_reducible refine' i_em (fun hc => ?_) (fun hc => ?_)))
section
variable {P : Program} {w : World} {K : PySem.W.Frag} {mg : PySem.Str → Option Value} {base : Heap}
/-! ### markings -/
def MkOk (n : Nat) (ms : List Int) : Prop := ms.length = n ∧ ∀ x ∈ ms, 0 ≤ x
theorem sum_nn : ∀ {ns : List Int}, (∀ x ∈ ns, 0 ≤ x) → 0 ≤ ns.sum
  | [], _ => by decide
  | n :: ns, h => by
    rw [List.sum_cons]
    have h1 := h n List.mem_cons_self
    have h2 := sum_nn (ns := ns) fun x hx => h x (List.mem_cons_of_mem _ hx)
    omega
theorem Wd.Ok.tkat {W : Wd} (o : W.Ok) {k i : Nat} (hk : k < W.ts.length) (hi : i < W.ps.length) : ∃ r n, W.tk[k]? = some r ∧ r[i]? = some n ∧ 0 ≤ n := by
  have hk' : k < W.tk.length := by rw [o.kl]; exact hk
  have hr := o.kr _ (List.getElem_mem hk')
  have hi' : i < (W.tk[k]).length := by rw [hr.1]; exact hi
  exact ⟨_, _, List.getElem?_eq_getElem hk', List.getElem?_eq_getElem hi', (hr.2 _ (List.getElem_mem hi')).1⟩
theorem set_nn {ns : List Int} {k : Nat} {v : Int} (h : ∀ x ∈ ns, 0 ≤ x) (hv : 0 ≤ v) : ∀ x ∈ ns.set k v, 0 ≤ x := fun x hx => by
  rcases List.mem_or_eq_of_mem_set hx with hx | rfl
  · exact h x hx
  · exact hv
def sp_mk (W : Wd → List Int → Prop) : Prop := True
def sp__law_joint (K : PySem.W.Frag) : Sp := fun vs H Q E => ∃ R L p v pt, ∃ W : Wd, vs = [.ref p, v] ∧ PotOk pt ∧ W.Ok ∧ (W.D, v) ∈ R ∧ At R ((p, .lst pt) :: L) H ∧ ∀ u ms pt' H', PotOk pt' → MkOk W.ps.length ms → At ((D.tup (ms.map D.int), u) :: R) ((p, .lst pt') :: L) H' → Q u H'
theorem r_joint {R : RL} {L : LL} {H : Hp} {p : Addr} {pt : List D} {v : V} {W : Wd} {Q : VK} {E : XK} (hA : At R ((p, .lst pt) :: L) H) (hp : PotOk pt) (o : W.Ok) (m : (W.D, v) ∈ R) (q : ∀ u ms pt' H', PotOk pt' → MkOk W.ps.length ms → At ((D.tup (ms.map D.int), u) :: R) ((p, .lst pt') :: L) H' → Q u H') : sp__law_joint K [.ref p, v] H Q E := ⟨R, L, p, v, pt, W, rfl, hp, o, m, hA, q⟩
set_option hygiene false in
local macro_rules | `(tactic| walk_at "term _law_joint") => `(tactic| refine ⟨_, PSs.nox (pss_cons (ps_set (i := 2) sc__law_joint.nd rfl (Or.inl rfl) (pe_fn (F__law_wanted (P := P) (K := K) (mg := mg) B) hr (by decide) passL rfl (pa_cons (pv 0) (pa_cons (pv 1) pa_nil))))
  (pss_cons (ps_set (i := 3) sc__law_joint.nd rfl (Or.inl rfl) (pe_lst pa_nil))
  (pss_cons (ps_for PassesOwn.never rfl (pi_range1 rfl B.T.range (pa_cons (pe_callB (call_len_seqK K rfl) (by rfl) B.T.len (by decide +kernel) (pa_cons (pe_ix (ix_listK K rfl) (pv 1) pe_int (fun _ _ => rfl)) pa_nil)) pa_nil)) (pg_name (i := 4) sc__law_joint.nd rfl (Or.inr rfl))
  (pss_one (ps_expr (pe_bm PySem.F.plainAttrs_list PySem.F.slot_list_append PySem.F.type_list_append mt_append (pv 3) (pa_cons (pe_callB (cr_sumK K rfl rfl) (by rfl) B.T.sum (by decide +kernel) (pa_cons (pe_lc (own := [("k", 7)]) rfl sc__law_joint.nd (pi_listK K rfl (pv 2)) (blkOk_by (own := [("k", 7)]) (N := n__law_joint) (sc := defScope s__law_joint) (by decide +kernel)) (fun _ _ _ _ _ => (pg_name (i := 7) sc__law_joint.nd rfl (Or.inl rfl))) (fun _ _ _ _ _ => pts_nil) (fun _ _ _ _ _ => (pe_ix (ix_listK K rfl) (pe_ix (ix_listK K rfl) (pe_ix (ix_listK K rfl) (pv 1) pe_int (fun _ _ => rfl)) (pv 7) (fun _ _ => rfl)) (pv 4) (fun _ _ => rfl)))) pa_nil)) pa_nil)))))
  (pss_cons (ps_set (i := 5) sc__law_joint.nd rfl (Or.inl rfl) (pe_fn (F__law_draw (P := P) (K := K) (mg := mg) B) hr (by decide) passL rfl (pa_cons (pv 0) (pa_cons pe_int pa_nil))))
  (pss_cons (ps_if (PW.pt (pw_and (pt_cmpR (op_neDK K rfl (hu_le hr (by decide))) (pv 3) (pe_lst pa_nil) (nomark _)) (pw_and1 (pt_cmpR op_gt (pv 5) pe_int (nomark _)))))
  (pss_cons (ps_set (i := 6) sc__law_joint.nd rfl (Or.inl rfl) (pe_fn (F__law_draw (P := P) (K := K) (mg := mg) B) hr (by decide) passL rfl (pa_cons (pv 0) (pa_cons (pe_callB (call_len_seqK K rfl) (by rfl) B.T.len (by decide +kernel) (pa_cons (pv 3) pa_nil)) pa_nil))))
  (pss_one (ps_if (pt_cmpR op_eq (pv 5) pe_int (nomark _))
  (pss_one (ps_asg (pe_callB (call_max2 rfl) (by rfl) B.T.max (by decide +kernel) (pa_cons pe_int (pa_cons (pe_op op_sub (pe_ix (ix_listK K rfl) (pv 3) (pv 6) (fun _ _ => rfl)) pe_int) pa_nil))) (pg_sub (pv 3) (pv 6) set_list)))
  (pss_one (ps_if (pt_cmpR op_eq (pv 5) pe_int (nomark _))
  (pss_one (ps_asg (pe_op op_add (pe_op op_add (pe_ix (ix_listK K rfl) (pv 3) (pv 6) (fun _ _ => rfl)) pe_int) (pe_fn (F__law_draw (P := P) (K := K) (mg := mg) B) hr (by decide) passL rfl (pa_cons (pv 0) (pa_cons pe_int pa_nil)))) (pg_sub (pv 3) (pv 6) set_list)))
  (pss_one (ps_asg (pe_op op_add (pe_ix (ix_listK K rfl) (pv 3) (pv 6) (fun _ _ => rfl)) (pe_op op_pow pe_int pe_int)) (pg_sub (pv 3) (pv 6) set_list))))))))
  pss_nil)
  (pss_one (ps_ret (pe_callTy (call_tuple_ofK K rfl) (by rfl) B.T.tuple (by decide +kernel) (pa_cons (pv 3) pa_nil))))))))), ?_⟩)
theorem F__law_joint (B : Bun P K mg) : Fn P w K mg base 4 "_law_joint" ["pot", "world"] (sp__law_joint K) := by
  refine B.d__law_joint.fn (k := 3) sc__law_joint (fun vs H Q E h => ?_) (fun _ _ _ _ _ _ us hl => match us, hl with | [_, _], _ => rfl) fun f cdv A outer s H vs Q E hr h => ?_
  · obtain ⟨_, _, _, _, _, _, rfl, _⟩ := h
    rfl
  · obtain ⟨R, L, pp, wv, pt, W, rfl, hp, o, m0, hA, q⟩ := h
    have m := m0
    unfold Wd.D at m
    have p60 := o.pl
    walk_at "term _law_joint"
    repeat' walk_at "nw"
    refine r_wanted hA hp o m0 fun u ws pt H hp hws hA => ?_
    repeat' walk_at "nw"
    refine r_lst hA .nil (by show 0 ≤ 1000000; decide) fun tp H hA => ?_
    repeat' walk_at "nw"
    refine s_for (s_iRng1 ?_)
    repeat' walk_at "nw"
    rw [List.length_map]
    have hA := hA.drop
    refine src_rng (by omega) (by omega) fun W1 => for_D W1 hA (fun i σ L' => (∃ c, σ = [some (.ref pp), some wv, some u, some (.ref tp), c, none, none, none]) ∧ ∃ ns : List Int, ns.length = i ∧ (∀ x ∈ ns, 0 ≤ x) ∧ L' = (tp, .lst (ns.map D.int)) :: (pp, .lst pt) :: L) ?_ ?_ ?_ ?_
    · exact ⟨⟨_, rfl⟩, [], rfl, (fun x h => by cases h), rfl⟩
    · exact fun _ _ _ _ => True.intro
    · rintro i d v σ L1 H hd ⟨⟨c, rfl⟩, ns, hnl, hn, rfl⟩ hA
      obtain ⟨hi, rfl⟩ := rng0_get hd
      obtain rfl : v = .int (i : Nat) := hA.sc_of
      replace hA := hA.drop
      rw [Int.toNat_natCast] at hi
      repeat' walk_at "nw"
      refine s_lc (s_iList ?_)
      repeat' walk_at "nw"
      refine src_lst hA (.head _) fun a ea W2 => lc_D W2 hA (fun j as L' => L' = (tp, .lst (ns.map D.int)) :: (pp, .lst pt) :: L ∧ ∃ zs : List Int, as = zs.map D.int ∧ ∀ x ∈ zs, 0 ≤ x) ?_ ?_ ?_ ?_
      · exact ⟨rfl, [], rfl, fun x h => by cases h⟩
      · exact fun _ _ _ _ _ => True.intro
      · rintro j d v as L1 H p3 hd ⟨rfl, zs, rfl, hz⟩ hlen hA
        rw [List.getElem?_map, Option.map_eq_some_iff] at hd
        obtain ⟨k, hk, rfl⟩ := hd
        obtain rfl : v = .int (k : Nat) := hA.sc_of
        have hj := (List.getElem?_eq_some_iff.mp hk).1
        have w60 := hws.1
        obtain ⟨r, n, h1, h2, h3⟩ := o.tkat (hws.2 k (List.mem_of_getElem? hk)) (i := i) hi
        refine s_name ⟨rfl, ?_⟩
        repeat' walk_at "nw"
        refine r_ixL hA (List.mem_cons_self) (by omega) (by rw [Int.toNat_natCast]; exact map_get h1) fun rv hA => ?_
        unfold rowD at hA
        repeat' walk_at "nw"
        refine r_ixLs hA (List.mem_cons_self) (by omega) (by rw [Int.toNat_natCast]; exact map_get h2) ?_
        refine lc_end hA (fun z hz => by walk_at "mm") .sc hlen (by omega) ⟨rfl, zs ++ [n], by rw [List.map_append]; rfl, fun x hx => ?_⟩
        rcases List.mem_append.mp hx with h | h
        · exact hz x h
        · rw [List.mem_singleton.mp h]; exact h3
      · rintro p3 as L1 H ⟨rfl, zs, rfl, hz⟩ hlen hA
        repeat' walk_at "nw"
        refine r_sum hA (.o (.head _)) ?_
        repeat' walk_at "nw"
        refine ⟨_, ⟨⟨_, rfl⟩, ns ++ [zs.sum], by rw [List.length_append, hnl]; rfl, fun x hx => ?_, rfl⟩, ?_⟩
        · rcases List.mem_append.mp hx with h | h
          · exact hn x h
          · rw [List.mem_singleton.mp h]; exact sum_nn hz
        · rw [List.map_append]
          exact hA.forget
    · rintro σ L1 H ⟨⟨c, rfl⟩, ns, hnl, hn, rfl⟩ hA
      rw [rngD_len, Int.toNat_natCast] at hnl
      replace hA := hA.drop
      repeat' walk_at "nw"
      refine r_draw [_] hA hp (by omega) (by omega) fun way pt H hp w0 w1 hA => ?_
      walk_at "nw"
      dsimp only
      refine s_cut (fun σ H => ∃ (ms : List Int) (pt : List D) (c1 c2 : Option V), PotOk pt ∧ MkOk W.ps.length ms ∧ σ = [some (.ref pp), some wv, some u, some (.ref tp), c, some (.int way), c1, c2] ∧ At R ((tp, .lst (ms.map D.int)) :: (pp, .lst pt) :: L) H) ?_ fun nx hnx => ?_
      · rintro σ H ⟨ms, pt, c1, c2, hp, hm, rfl, hA⟩
        repeat' walk_at "nw"
        exact q _ _ _ _ hp hm hA.forget
      · repeat' walk_at "nw"
        refine r_lst hA .nil (by show 0 ≤ 1000000; decide) fun e H hA => ?_
        repeat' walk_at "nw"
        refine r_neH hA (.o (.tail _ (.head _))) (.o (.head _)) (cmp_lstI ns) (cmp_lstI []) ?_
        rw [eqv_lst0]
        have hA := hA.forget
        have hmk : MkOk W.ps.length ns := ⟨hnl, hn⟩
        have hl1 : ns.length ≤ 60 := by omega
        have fin : ∀ {at_ : Int} {ms : List Int} {pt : List D} {H : Hp}, PotOk pt → MkOk W.ps.length ms → At R ((tp, .lst (ms.map D.int)) :: (pp, .lst pt) :: L) H → nx [some (.ref pp), some wv, some u, some (.ref tp), c, some (.int way), some (.int at_), none] H := fun hp hm hA => hnx _ _ ⟨_, _, _, _, hp, hm, rfl, hA⟩
        repeat' walk_at "nw"
        rotate_left 1
        · exact hnx _ _ ⟨_, _, _, _, hp, hmk, rfl, hA⟩
        · exact hnx _ _ ⟨_, _, _, _, hp, hmk, rfl, hA⟩
        have hn0 : 0 < ns.length := List.length_pos_iff.mpr (fun e => by rename (_ ≠ []) => hx; exact hx (by rw [e]; rfl))
        rw [List.length_map]
        refine r_draw [_] hA hp (by omega) (by omega) fun at_ pt H hp a0 a1 hA => ?_
        obtain ⟨n, hnat⟩ : ∃ n, ns[at_.toNat]? = some n := ⟨_, List.getElem?_eq_getElem (by omega)⟩
        have n0 : 0 ≤ n := hn n (List.mem_of_getElem? hnat)
        have hg : (ns.map D.int)[at_.toNat]? = some (D.int n) := map_get hnat
        have fs : ∀ {z : Int} {H : Hp}, 0 ≤ z → At R ([] ++ (tp, .lst ((ns.map D.int).set at_.toNat (D.int z))) :: (pp, .lst pt) :: L) H → nx [some (.ref pp), some wv, some u, some (.ref tp), c, some (.int way), some (.int at_), none] H := fun hz hA => by
          rw [map_set_int] at hA
          exact fin hp ⟨by rw [List.length_set]; exact hnl, set_nn hn hz⟩ hA
        repeat' walk_at "nw"
        · refine r_ixOs hA (.head _) a0 hg ?_
          repeat' walk_at "nw"
          refine fs ?_ hA
          split <;> omega
        · refine r_ixOs hA (.head _) a0 hg ?_
          repeat' walk_at "nw"
          refine r_draw [_] hA hp (by omega) (by omega) fun ad pt H hp d0 d1 hA => ?_
          repeat' walk_at "nw"
          replace hA : At R ((tp, .lst ((ns.map D.int).set at_.toNat (D.int (n + 1 + ad)))) :: (pp, .lst pt) :: L) H := hA
          rw [map_set_int] at hA
          exact fin hp ⟨by rw [List.length_set]; exact hnl, set_nn hn (by omega)⟩ hA
        · refine r_ixOs hA (.head _) a0 hg ?_
          repeat' walk_at "nw"
          refine fs ?_ hA
          have e : (0 : Int) ≤ 10 ^ 20 := by decide
          omega
/-! ### the greatest weights -/
def sp__law_most (K : PySem.W.Frag) : Sp := fun vs H Q E => ∃ R L p v pt, ∃ W : Wd, vs = [.ref p, v] ∧ PotOk pt ∧ W.Ok ∧ (W.D, v) ∈ R ∧ At R ((p, .lst pt) :: L) H ∧ ∀ u ms pt' H', PotOk pt' → MkOk W.ps.length ms → At ((D.tup (ms.map D.int), u) :: R) ((p, .lst pt') :: L) H' → Q u H'
theorem r_most {R : RL} {L : LL} {H : Hp} {p : Addr} {pt : List D} {v : V} {W : Wd} {Q : VK} {E : XK} (hA : At R ((p, .lst pt) :: L) H) (hp : PotOk pt) (o : W.Ok) (m : (W.D, v) ∈ R) (q : ∀ u ms pt' H', PotOk pt' → MkOk W.ps.length ms → At ((D.tup (ms.map D.int), u) :: R) ((p, .lst pt') :: L) H' → Q u H') : sp__law_most K [.ref p, v] H Q E := ⟨R, L, p, v, pt, W, rfl, hp, o, m, hA, q⟩
set_option hygiene false in
local macro_rules | `(tactic| walk_at "term _law_most") => `(tactic| refine ⟨_, PSs.nox (pss_cons (ps_set (i := 2) sc__law_most.nd rfl (Or.inl rfl) (pe_listRg rfl rfl B.T.list (prg_1 rfl B.T.range (pe_callB (call_len_seqK K rfl) (by rfl) B.T.len (by decide +kernel) (pa_cons (pe_ix (ix_listK K rfl) (pv 1) pe_int (fun _ _ => rfl)) pa_nil)))))
  (pss_cons (ps_if (pt_cmpR op_eq (pe_ix (ix_listK K rfl) (pv 1) pe_int (fun _ _ => rfl)) pe_int (nomark _))
  (pss_one (ps_set (i := 2) sc__law_most.nd rfl (Or.inl rfl) (pe_fn (F__law_wanted (P := P) (K := K) (mg := mg) B) hr (by decide) passL rfl (pa_cons (pv 0) (pa_cons (pv 1) pa_nil)))))
  pss_nil)
  (pss_cons (ps_set (i := 3) sc__law_most.nd rfl (Or.inl rfl) (pe_lst pa_nil))
  (pss_cons (ps_for PassesOwn.never rfl (pi_range1 rfl B.T.range (pa_cons (pe_callB (call_len_seqK K rfl) (by rfl) B.T.len (by decide +kernel) (pa_cons (pe_ix (ix_listK K rfl) (pv 1) pe_int (fun _ _ => rfl)) pa_nil)) pa_nil)) (pg_name (i := 4) sc__law_most.nd rfl (Or.inr rfl))
  (pss_one (ps_expr (pe_bm PySem.F.plainAttrs_list PySem.F.slot_list_append PySem.F.type_list_append mt_append (pv 3) (pa_cons (pe_callB (cr_maxK K rfl rfl) (by rfl) B.T.max (by decide +kernel) (pa_cons (pe_op (op_catLK K rfl) (pe_lst (pa_cons pe_int pa_nil)) (pe_lc (own := [("k", 5)]) rfl sc__law_most.nd (pi_listK K rfl (pv 2)) (blkOk_by (own := [("k", 5)]) (N := n__law_most) (sc := defScope s__law_most) (by decide +kernel)) (fun _ _ _ _ _ => (pg_name (i := 5) sc__law_most.nd rfl (Or.inl rfl))) (fun _ _ _ _ _ => pts_nil) (fun _ _ _ _ _ => (pe_ix (ix_listK K rfl) (pe_ix (ix_listK K rfl) (pe_ix (ix_listK K rfl) (pv 1) pe_int (fun _ _ => rfl)) (pv 5) (fun _ _ => rfl)) (pv 4) (fun _ _ => rfl))))) pa_nil)) pa_nil)))))
  (pss_one (ps_ret (pe_callTy (call_tuple_ofK K rfl) (by rfl) B.T.tuple (by decide +kernel) (pa_cons (pv 3) pa_nil)))))))), ?_⟩)
theorem F__law_most (B : Bun P K mg) : Fn P w K mg base 4 "_law_most" ["pot", "world"] (sp__law_most K) := by
  refine B.d__law_most.fn (k := 3) sc__law_most (fun vs H Q E h => ?_) (fun _ _ _ _ _ _ us hl => match us, hl with | [_, _], _ => rfl) fun f cdv A outer s H vs Q E hr h => ?_
  · obtain ⟨_, _, _, _, _, _, rfl, _⟩ := h
    rfl
  · obtain ⟨R, L, pp, wv, pt, W, rfl, hp, o, m0, hA, q⟩ := h
    have m := m0
    unfold Wd.D at m
    have p60 := o.pl
    have t60 := o.tl
    walk_at "term _law_most"
    repeat' walk_at "nw"
    rw [List.length_map]
    refine r_lstRg hA (by omega) (by omega) fun lp H hA => ?_
    rw [Int.toNat_natCast] at hA
    have full : WtOk W.ts.length (List.range W.ts.length) := ⟨by simpa using t60, fun k hk => by simpa using hk⟩
    have hA := hA.drop.frzLst
    walk_at "nw"
    dsimp only
    refine s_cut (fun σ H => ∃ (ws : List Nat) (pt : List D) (u : V), PotOk pt ∧ WtOk W.ts.length ws ∧ σ = [some (.ref pp), some wv, some u, none, none, none] ∧ At ((D.lst (ws.map natD), u) :: R) ((pp, .lst pt) :: L) H) ?_ fun nx hnx => ?_
    · rintro σ H ⟨ws, pt, u, hp, hws, rfl, hA⟩
      repeat' walk_at "nw"
      refine r_lst hA .nil (by show 0 ≤ 1000000; decide) fun tp H hA => ?_
      repeat' walk_at "nw"
      refine s_for (s_iRng1 ?_)
      repeat' walk_at "nw"
      rw [List.length_map]
      have hA := hA.drop
      refine src_rng (by omega) (by omega) fun W1 => for_D W1 hA (fun i σ L' => (∃ c, σ = [some (.ref pp), some wv, some u, some (.ref tp), c, none]) ∧ ∃ ns : List Int, ns.length = i ∧ (∀ x ∈ ns, 0 ≤ x) ∧ L' = (tp, .lst (ns.map D.int)) :: (pp, .lst pt) :: L) ?_ ?_ ?_ ?_
      · exact ⟨⟨_, rfl⟩, [], rfl, (fun x h => by cases h), rfl⟩
      · exact fun _ _ _ _ => True.intro
      · rintro i d v σ L1 H hd ⟨⟨c, rfl⟩, ns, hnl, hn, rfl⟩ hA
        obtain ⟨hi, rfl⟩ := rng0_get hd
        obtain rfl : v = .int (i : Nat) := hA.sc_of
        replace hA := hA.drop
        rw [Int.toNat_natCast] at hi
        repeat' walk_at "nw"
        refine r_lst hA (ds := [0].map D.int) (.cons .sc .nil) (by show 1 ≤ 1000000; decide) fun zp H hA => ?_
        repeat' walk_at "nw"
        refine s_lc (s_iList ?_)
        repeat' walk_at "nw"
        refine src_lst hA (.head _) fun a ea W2 => lc_D W2 hA (fun j as L' => L' = (zp, .lst ([0].map D.int)) :: (tp, .lst (ns.map D.int)) :: (pp, .lst pt) :: L ∧ ∃ zs : List Int, as = zs.map D.int ∧ zs.length ≤ j) ?_ ?_ ?_ ?_
        · exact ⟨rfl, [], rfl, Nat.le_refl _⟩
        · exact fun _ _ _ _ _ => True.intro
        · rintro j d v as L1 H p3 hd ⟨rfl, zs, rfl, hz⟩ hlen hA
          rw [List.getElem?_map, Option.map_eq_some_iff] at hd
          obtain ⟨k, hk, rfl⟩ := hd
          obtain rfl : v = .int (k : Nat) := hA.sc_of
          have hj := (List.getElem?_eq_some_iff.mp hk).1
          have w60 := hws.1
          obtain ⟨r, n, h1, h2, h3⟩ := o.tkat (hws.2 k (List.mem_of_getElem? hk)) (i := i) hi
          refine s_name ⟨rfl, ?_⟩
          repeat' walk_at "nw"
          refine r_ixL hA (List.mem_cons_self) (by omega) (by rw [Int.toNat_natCast]; exact map_get h1) fun rv hA => ?_
          unfold rowD at hA
          repeat' walk_at "nw"
          refine r_ixLs hA (List.mem_cons_self) (by omega) (by rw [Int.toNat_natCast]; exact map_get h2) ?_
          exact lc_end hA (fun z hz => by walk_at "mm") .sc hlen (by omega) ⟨rfl, zs ++ [n], by rw [List.map_append]; rfl, by rw [List.length_append]; show zs.length + 1 ≤ j + 1; omega⟩
        · rintro p3 as L1 H ⟨rfl, zs, rfl, hz⟩ hlen hA
          have w60 := hws.1
          rw [List.length_map] at hz
          refine r_catL hA (.o (.tail _ (.head _))) (.o (.head _)) (by rw [List.length_map, List.length_map]; show 1 + zs.length ≤ 1000000; omega) fun cp H hA => ?_
          rw [← List.map_append] at hA
          repeat' walk_at "nw"
          refine r_max hA (.o (.head _)) (by simp) fun k hk1 hk2 => ?_
          have k0 : 0 ≤ k := hk2 0 (by simp)
          have hA := hA.forget.forget.forget
          repeat' walk_at "nw"
          refine ⟨_, ⟨⟨_, rfl⟩, ns ++ [k], by rw [List.length_append, hnl]; rfl, fun x hx => ?_, rfl⟩, ?_⟩
          · rcases List.mem_append.mp hx with h | h
            · exact hn x h
            · rw [List.mem_singleton.mp h]; exact k0
          · rw [List.map_append]
            exact hA
      · rintro σ L1 H ⟨⟨c, rfl⟩, ns, hnl, hn, rfl⟩ hA
        rw [rngD_len, Int.toNat_natCast] at hnl
        replace hA := hA.drop
        repeat' walk_at "nw"
        exact q _ _ _ _ hp ⟨hnl, hn⟩ hA.forget
    · repeat' walk_at "nw"
      · refine r_wanted hA.drop hp o m0 fun u ws pt H hp hws hA => ?_
        repeat' walk_at "nw"
        exact hnx _ _ ⟨_, _, _, hp, hws, rfl, hA⟩
      · exact hnx _ _ ⟨_, _, _, hp, full, rfl, hA⟩
end
end K26
set_option maxRecDepth 100000
set_option maxHeartbeats 4000000
namespace K26
open PySem PySem.Spec PyProof.Rows L2 Nw
set_option hygiene false in
local macro_rules | `(tactic| walk_at "nf") => `(tactic| first | exact B.n_cls | exact B.n_places | exact B.n_transitions | exact B.n_start | exact B.n_index | exact B.n_takes | exact B.n_gives | exact B.n_takers | exact B.n_givers | exact B.n_labels)
local macro_rules | `(tactic| walk_at "nm") => `(tactic| first | exact .head _ | exact .tail _ (.head _) | exact .tail _ (.tail _ (.head _)) | exact .tail _ (.tail _ (.tail _ (.head _))) | exact .tail _ (.tail _ (.tail _ (.tail _ (.head _)))) | exact .tail _ (.tail _ (.tail _ (.tail _ (.tail _ (.head _))))) | exact .tail _ (.tail _ (.tail _ (.tail _ (.tail _ (.tail _ (.head _)))))) | exact List.mem_append_right _ (.head _) | exact List.mem_append_right _ (.tail _ (.head _)) | exact .tail _ (List.mem_append_right _ (.head _)) | exact .tail _ (.tail _ (List.mem_append_right _ (.head _))) | exact .tail _ (.tail _ (.tail _ (List.mem_append_right _ (.head _)))) | (repeat (first | assumption | refine List.mem_cons_of_mem _ ?_)))
set_option hygiene false in
local macro_rules | `(tactic| walk_at "dr") => `(tactic| repeat (first | exact hA | apply At.drop))
local macro_rules | `(tactic| walk_at "mm") => `(tactic| repeat (first | assumption | exact List.mem_cons_self | refine List.mem_cons_of_mem _ ?_))
local macro_rules | `(tactic| walk_at "nb") => `(tactic| first | exact isT_int_int | exact isT_int_bool | exact isT_int_str | exact isT_int_list | exact isT_int_tuple | exact isT_bool_int | exact isT_bool_bool | exact isT_bool_str | exact isT_bool_list | exact isT_bool_tuple | exact isT_str_int | exact isT_str_bool | exact isT_str_str | exact isT_str_list | exact isT_str_tuple | exact isT_NoneType_int | exact isT_NoneType_bool | exact isT_NoneType_str | exact isT_NoneType_list | exact isT_NoneType_tuple | exact isT_list_int | exact isT_list_bool | exact isT_list_str | exact isT_list_list | exact isT_list_tuple | exact isT_tuple_int | exact isT_tuple_bool | exact isT_tuple_str | exact isT_tuple_list | exact isT_tuple_tuple | decide +kernel)
local macro_rules | `(tactic| walk_at "ni") => `(tactic| first | exact InR.mem (by walk_at "nm") | exact InR.sc | assumption)
local macro_rules | `(tactic| walk_at "nc") => `(tactic| first | omega | decide | (unfold CMul; omega) | (unfold CDiv; omega) | (unfold CPow; omega) | (unfold CPow; decide))
local macro_rules | `(tactic| walk_at "nl") => `(tactic| first | omega | decide | (simp only [List.length_cons, List.length_nil, List.length_append, List.length_map, List.length_set]; omega) | (simp; omega))
local macro_rules | `(tactic| walk_at "nh") => `(tactic| first | exact HasL.r (by walk_at "nm") | exact HasL.o (by walk_at "nm") | assumption)
local macro_rules | `(tactic| walk_at "na") => `(tactic| first | exact AllR.nil | (refine AllR.cons (by walk_at "ni") ?_; walk_at "na"))
local macro_rules | `(tactic| walk_at "nt") => `(tactic| first | exact HasTy.int _ | exact HasTy.str _ | exact HasTy.bl _ | exact HasTy.non | exact HasTy.lst (by walk_at "nm") | exact HasTy.tup (by walk_at "nm") | exact HasTy.own (by walk_at "nm"))
set_option hygiene false in
local macro_rules | `(tactic| walk_at "nw") => `(tactic| first
  | (with_reducible refine' s_seq ?_)
  | (with_reducible refine' s_asg ?_)
  | (with_reducible refine' s_name ?_)
  | (with_reducible refine' s_ret ?_)
  | (with_reducible refine' s_drop ?_)
  | (with_reducible refine' s_next ?_)
  | (with_reducible refine' s_op ?_)
  | (with_reducible refine' s_un ?_)
  | (with_reducible refine' s_c ?_)
  | (with_reducible refine' s_cons ?_)
  | (with_reducible refine' s_nil ?_)
  | (with_reducible refine' s_cb ?_)
  | (with_reducible refine' s_call ?_)
  | (with_reducible refine' s_callS ?_)
  | (with_reducible refine' s_test ?_)
  | (with_reducible refine' s_tb ?_)
  | (with_reducible refine' s_bl ?_)
  | (with_reducible refine' s_not ?_)
  | (with_reducible refine' s_if ?_)
  | (with_reducible refine' s_ifE ?_)
  | (with_reducible refine' s_and ?_)
  | (with_reducible refine' s_or ?_)
  | (with_reducible refine' s_andV ?_)
  | (with_reducible refine' s_orV ?_)
  | (with_reducible refine' s_notV ?_)
  | (with_reducible refine' s_sub ?_)
  | (with_reducible refine' s_chain ?_)
  | (with_reducible refine' s_sl ?_)
  | (with_reducible refine' s_noPart ?_)
  | (with_reducible refine' s_part ?_)
  | (with_reducible refine' r_part ?_)
  | (with_reducible refine' s_m1 ?_)
  | (with_reducible refine' s_fldQ ?_)
  | (with_reducible refine' s_setF ?_)
  | (with_reducible refine' s_cvalQ ?_)
  | (with_reducible refine' s_lstRev ?_)
  | (with_reducible refine' s_dgetQ ?_)
  | (with_reducible refine' s_din ?_)
  | (with_reducible refine' s_dnotin ?_)
  | (with_reducible refine' s_dput ?_)
  | (with_reducible refine' s_dget2Q ?_)
  | (with_reducible refine' s_mkX1 ?_)
  | (with_reducible refine' s_make ?_)
  | (with_reducible refine' s_lstRg ?_)
  | (with_reducible refine' s_tru ?_)
  | (with_reducible refine' s_star ?_)
  | (with_reducible refine' s_xf ?_)
  | (with_reducible refine' s_yes ?_)
  | (with_reducible refine' r_I0 ?_)
  | (with_reducible refine' r_U ?_)
  | (with_reducible refine' r_eqI ?_)
  | (with_reducible refine' r_neI ?_)
  | (with_reducible refine' r_eqS ?_)
  | (with_reducible refine' r_neS ?_)
  | (with_reducible refine' n_isR ?_)
  | (with_reducible refine' n_isN ?_)
  | (with_reducible refine' n_isI ?_)
  | (with_reducible refine' n_isS ?_)
  | (with_reducible refine' n_isB ?_)
  | (with_reducible refine' n_ntR ?_)
  | (with_reducible refine' n_ntN ?_)
  | (with_reducible refine' n_ntI ?_)
  | (with_reducible refine' n_ntS ?_)
  | (with_reducible refine' n_ntB ?_)
  | (with_reducible refine' i_t ?_)
  | (with_reducible refine' i_f ?_)
  | (with_reducible refine' i_nt ?_)
  | (with_reducible refine' i_nf ?_)
  | ((with_reducible refine' s_var ?g1 ?_); (case g1 => rfl))
  | ((with_reducible refine' r_I ?g1 ?_); (case g1 => walk_at "nc"))
  | ((with_reducible refine' w_int ?_))
  | ((with_reducible refine' w_abs ?_))
  | ((with_reducible refine' r_max2 ?_))
  | ((with_reducible refine' r_lenS ?g1 ?_); (case g1 => walk_at "nl"))
  | ((with_reducible refine' r_addS ?g1 ?_); (case g1 => walk_at "nl"))
  | ((with_reducible refine' r_slS ?g1 ?_); (case g1 => walk_at "nl"))
  | ((with_reducible refine' r_inS ?_))
  | ((with_reducible refine' r_ixOs hA ?g1 ?g2 ?g3 ?_); (case g1 => walk_at "nm"); (case g2 => walk_at "nc"); (case g3 => rfl))
  | ((with_reducible refine' r_ixLs hA ?g1 ?g2 ?g3 ?_); (case g1 => walk_at "nm"); (case g2 => walk_at "nc"); (case g3 => rfl))
  | ((with_reducible refine' r_ixTs hA ?g1 ?g2 ?g3 ?_); (case g1 => walk_at "nm"); (case g2 => walk_at "nc"); (case g3 => rfl))
  | (((with_reducible refine' r_ixO hA ?g1 ?g2 ?g3 ?_); (case g1 => walk_at "nm"); (case g2 => walk_at "nc"); (case g3 => rfl)); intro v hA)
  | (((with_reducible refine' r_ixL hA ?g1 ?g2 ?g3 ?_); (case g1 => walk_at "nm"); (case g2 => walk_at "nc"); (case g3 => rfl)); intro v hA)
  | (((with_reducible refine' r_ixT hA ?g1 ?g2 ?g3 ?_); (case g1 => walk_at "nm"); (case g2 => walk_at "nc"); (case g3 => rfl)); intro v hA)
  | ((with_reducible refine' r_lenO hA ?g1 ?_); (case g1 => walk_at "nm"))
  | ((with_reducible refine' r_lenL hA ?g1 ?_); (case g1 => walk_at "nm"))
  | ((with_reducible refine' r_lenT hA ?g1 ?_); (case g1 => walk_at "nm"))
  | ((with_reducible refine' r_lenD hA ?g1 ?_); (case g1 => walk_at "nm"))
  | ((with_reducible refine' r_tqT hA ?g1 ?_); (case g1 => walk_at "nm"))
  | (((with_reducible refine' w_setL [] (o := .non) hA ?g1 ?g2 ?g3 ?_); (case g1 => walk_at "ni"); (case g2 => walk_at "nc"); (case g3 => walk_at "nl")); (try clear hA); intro H hA; dsimp only [List.set, Int.toNat, List.cons_append, List.nil_append] at hA)
  | (((with_reducible refine' w_setL [_] (o := .non) hA ?g1 ?g2 ?g3 ?_); (case g1 => walk_at "ni"); (case g2 => walk_at "nc"); (case g3 => walk_at "nl")); (try clear hA); intro H hA; dsimp only [List.set, Int.toNat, List.cons_append, List.nil_append] at hA)
  | (((with_reducible refine' w_setL [_, _] (o := .non) hA ?g1 ?g2 ?g3 ?_); (case g1 => walk_at "ni"); (case g2 => walk_at "nc"); (case g3 => walk_at "nl")); (try clear hA); intro H hA; dsimp only [List.set, Int.toNat, List.cons_append, List.nil_append] at hA)
  | (((with_reducible refine' w_setL [_, _, _] (o := .non) hA ?g1 ?g2 ?g3 ?_); (case g1 => walk_at "ni"); (case g2 => walk_at "nc"); (case g3 => walk_at "nl")); (try clear hA); intro H hA; dsimp only [List.set, Int.toNat, List.cons_append, List.nil_append] at hA)
  | ((with_reducible refine' s_bm ?_); skip)
  | (((with_reducible refine' w_append [] hA ?g1 ?g2 ?_); (case g1 => walk_at "ni"); (case g2 => walk_at "nl")); (try clear hA); intro H hA; dsimp only [List.set, Int.toNat, List.cons_append, List.nil_append] at hA)
  | (((with_reducible refine' w_append [_] hA ?g1 ?g2 ?_); (case g1 => walk_at "ni"); (case g2 => walk_at "nl")); (try clear hA); intro H hA; dsimp only [List.set, Int.toNat, List.cons_append, List.nil_append] at hA)
  | (((with_reducible refine' w_append [_, _] hA ?g1 ?g2 ?_); (case g1 => walk_at "ni"); (case g2 => walk_at "nl")); (try clear hA); intro H hA; dsimp only [List.set, Int.toNat, List.cons_append, List.nil_append] at hA)
  | (((with_reducible refine' w_append [_, _, _] hA ?g1 ?g2 ?_); (case g1 => walk_at "ni"); (case g2 => walk_at "nl")); (try clear hA); intro H hA; dsimp only [List.set, Int.toNat, List.cons_append, List.nil_append] at hA)
  | ((with_reducible refine' ⟨ty_lst hA ?g1, ?_⟩); (case g1 => walk_at "nm"))
  | ((with_reducible refine' r_isi hA ?g1 ?g2 ?_); (case g1 => walk_at "nt"); (case g2 => walk_at "nb"))
  | (((with_reducible refine' r_lstRg hA ?g1 ?g2 ?_); (case g1 => walk_at "nc"); (case g2 => walk_at "nc")); intro p H hA)
  | (((with_reducible refine' r_list hA ?g1 ?_); (case g1 => walk_at "nh")); intro p H hA)
  | (((with_reducible refine' r_slL hA ?g1 ?_); (case g1 => walk_at "nh")); intro p H hA)
  | (((with_reducible refine' r_listT hA ?g1 ?_); (case g1 => walk_at "nm")); intro p H hA)
  | (((with_reducible refine' r_listD hA ?g1 ?_); (case g1 => walk_at "nm")); intro p H hA)
  | (((with_reducible refine' r_tuple hA ?g1 ?_); (case g1 => walk_at "nh")); intro v H hA)
  | (((with_reducible refine' r_slT hA ?g1 ?_); (case g1 => walk_at "nm")); intro v H hA)
  | (((with_reducible refine' r_lstRev hA ?g1 ?_); (case g1 => walk_at "nh")); intro p H hA)
  | ((with_reducible refine' s_tup ?_); skip)
  | ((with_reducible refine' s_lst ?_); skip)
  | (((with_reducible refine' r_tup hA ?g1 ?g2 ?_); (case g1 => walk_at "na"); (case g2 => walk_at "nl")); intro v H hA)
  | (with_reducible refine' r_dnew hA ?_; intro p H hA)
  | (((with_reducible refine' r_fdO hA ?g1 ?g2 ?g3 ?g4 ?_); (case g1 => walk_at "nm"); (case g2 => walk_at "nf"); (case g3 => walk_at "nf"); (case g4 => rfl)); intro v hA)
  | (((with_reducible refine' r_fd hA ?g1 ?g2 ?g3 ?g4 ?_); (case g1 => walk_at "nm"); (case g2 => walk_at "nf"); (case g3 => walk_at "nf"); (case g4 => rfl)); intro v hA)
  | (with_reducible refine' i_dec (fun hc => ?_) (fun hc => ?_))
  | (with_reducible refine' i_ndec (fun hc => ?_) (fun hc => ?_))
  | (with_reducible refine' i_ne (fun hc => ?_) (fun hc => ?_))
  | (with_reducible refine' i_em (fun hc => ?_) (fun hc => ?_)))
section
variable {P : Program} {w : World} {K : PySem.W.Frag} {mg : PySem.Str → Option Value} {base : Heap}
theorem cut_mid {α : Type} {ds : List α} {k : Nat} {d : α} (h : k < ds.length) : cut ds none (some (k : Int)) ++ [d] ++ cut ds (some ((k : Int) + 1)) none = ds.set k d := by
  have e : ((k : Int) + 1) = ((k + 1 : Nat) : Int) := by omega
  rw [e, cut_take (by omega), cut_drop (by omega), List.set_eq_take_append_cons_drop, if_pos h]
  simp
/-! ### one place lowered -/
def sp__law_lowered (K : PySem.W.Frag) : Sp := fun vs H Q E => ∃ R L p v pt n ms, vs = [.ref p, v] ∧ PotOk pt ∧ n ≤ 60 ∧ MkOk n ms ∧ (D.tup (ms.map D.int), v) ∈ R ∧ At R ((p, .lst pt) :: L) H ∧ ∀ u ms pt' H', PotOk pt' → MkOk n ms → At ((D.tup (ms.map D.int), u) :: R) ((p, .lst pt') :: L) H' → Q u H'
theorem r_lowered {R : RL} {L : LL} {H : Hp} {p : Addr} {pt : List D} {v : V} {n : Nat} {ms : List Int} {Q : VK} {E : XK} (hA : At R ((p, .lst pt) :: L) H) (hp : PotOk pt) (hn : n ≤ 60) (o : MkOk n ms) (m : (D.tup (ms.map D.int), v) ∈ R) (q : ∀ u ms pt' H', PotOk pt' → MkOk n ms → At ((D.tup (ms.map D.int), u) :: R) ((p, .lst pt') :: L) H' → Q u H') : sp__law_lowered K [.ref p, v] H Q E := ⟨R, L, p, v, pt, n, ms, rfl, hp, hn, o, m, hA, q⟩
set_option hygiene false in
local macro_rules | `(tactic| walk_at "term _law_lowered") => `(tactic| refine ⟨_, PSs.nox (pss_cons (ps_setLc (i := 2) (own := [("i", 4)]) rfl sc__law_lowered.nd rfl rfl (sw_true rfl rfl rfl (by decide +kernel)) (pi_range1 rfl B.T.range (pa_cons (pe_callB (call_len_seqK K rfl) (by rfl) B.T.len (by decide +kernel) (pa_cons (pv 1) pa_nil)) pa_nil)) (blkOk_by (own := [("i", 4)]) (N := n__law_lowered) (sc := defScope s__law_lowered) (by decide +kernel)) (fun _ _ _ _ _ => (pg_name (i := 4) sc__law_lowered.nd rfl (Or.inl rfl))) (fun _ _ _ _ _ => (pts_one (pt_cmpR op_gt (pe_ix (ix_tupK K rfl) (pv 1) (pv 4) (fun _ _ => rfl)) pe_int (nomark _)))) (fun _ _ _ _ _ => (pv 4)))
  (pss_cons (ps_if (pt_cmpR (op_eqDK K rfl (hu_le hr (by decide))) (pv 2) (pe_lst pa_nil) (nomark _))
  (pss_one (ps_ret (pv 1)))
  pss_nil)
  (pss_cons (ps_set (i := 3) sc__law_lowered.nd rfl (Or.inl rfl) (pe_ix (ix_listK K rfl) (pv 2) (pe_fn (F__law_draw (P := P) (K := K) (mg := mg) B) hr (by decide) passL rfl (pa_cons (pv 0) (pa_cons (pe_callB (call_len_seqK K rfl) (by rfl) B.T.len (by decide +kernel) (pa_cons (pv 2) pa_nil)) pa_nil))) (fun _ _ => rfl)))
  (pss_one (ps_ret (pe_op (op_catAK K rfl) (pe_op (op_catAK K rfl) (pe_slice (sl_tupAK K rfl) (pv 1) po_none (po_some (pv 3))) (pe_tup (pa_cons (pe_op op_sub (pe_ix (ix_tupK K rfl) (pv 1) (pv 3) (fun _ _ => rfl)) pe_int) pa_nil))) (pe_slice (sl_tupAK K rfl) (pv 1) (po_some (pe_op op_add (pv 3) pe_int)) po_none))))))), ?_⟩)
theorem F__law_lowered (B : Bun P K mg) : Fn P w K mg base 3 "_law_lowered" ["pot", "marking"] (sp__law_lowered K) := by
  refine B.d__law_lowered.fn (k := 2) sc__law_lowered (fun vs H Q E h => ?_) (fun _ _ _ _ _ _ us hl => match us, hl with | [_, _], _ => rfl) fun f cdv A outer s H vs Q E hr h => ?_
  · obtain ⟨_, _, _, _, _, _, _, rfl, _⟩ := h
    rfl
  · obtain ⟨R, L, pp, mv, pt, n, ms, rfl, hp, hn, o, m, hA, q⟩ := h
    walk_at "term _law_lowered"
    repeat' walk_at "nw"
    refine s_lc (s_iRng1 ?_)
    repeat' walk_at "nw"
    rw [List.length_map]
    have hl := o.1
    refine src_rng (by omega) (by omega) fun W1 => lc_D W1 hA (fun i as L' => L' = (pp, .lst pt) :: L ∧ ∃ ks : List Nat, as = ks.map natD ∧ ks.length ≤ i ∧ ∀ k ∈ ks, ∃ z, ms[k]? = some z ∧ 0 < z) ?_ ?_ ?_ ?_
    · exact ⟨rfl, [], rfl, Nat.le_refl _, fun x h => by cases h⟩
    · exact fun _ _ _ _ _ => True.intro
    · rintro j d v as L1 H p3 hd ⟨rfl, ks, rfl, hkl, hk⟩ hlen hA
      obtain ⟨hj, rfl⟩ := rng0_get hd
      obtain rfl : v = .int (j : Nat) := hA.sc_of
      rw [Int.toNat_natCast] at hj
      obtain ⟨z, hz⟩ : ∃ z, ms[j]? = some z := ⟨_, List.getElem?_eq_getElem hj⟩
      refine s_name ⟨rfl, ?_⟩
      repeat' walk_at "nw"
      refine r_ixTs hA (.tail _ m) (by omega) (by rw [Int.toNat_natCast]; exact map_get hz) ?_
      repeat' walk_at "nw"
      · refine lc_end hA (fun z hz => by walk_at "mm") .sc hlen (by omega) ⟨rfl, ks ++ [j], by rw [List.map_append]; rfl, by rw [List.length_append]; show ks.length + 1 ≤ j + 1; omega, fun x hx => ?_⟩
        rcases List.mem_append.mp hx with h | h
        · exact hk x h
        · rw [List.mem_singleton.mp h]; exact ⟨z, hz, hc⟩
      · exact lc_no hA.drop hlen ⟨rfl, ks, rfl, by omega, hk⟩
    · rintro p3 as L1 H ⟨rfl, ks, rfl, hkl, hk⟩ hlen hA
      rw [rngD_len, Int.toNat_natCast] at hkl
      repeat' walk_at "nw"
      refine r_lst hA .nil (by show 0 ≤ 1000000; decide) fun e H hA => ?_
      repeat' walk_at "nw"
      have kI : (ks.map natD) = (ks.map fun k : Nat => (k : Int)).map D.int := by rw [List.map_map]; rfl
      refine r_eqH hA (.o (.tail _ (.head _))) (.o (.head _)) (by rw [kI]; exact cmp_lstI _) (cmp_lstI []) ?_
      rw [eqv_lst0]
      have hA := hA.forget
      repeat' walk_at "nw"
      · exact q _ ms _ _ hp o (hA.forget.addR (.mem m))
      · rename (_ ≠ []) => hne
        have hk0 : 0 < ks.length := List.length_pos_iff.mpr (fun e => hne (by rw [e]; rfl))
        rw [List.length_map]
        refine r_draw [_] hA hp (by omega) (by omega) fun at_ pt H hp a0 a1 hA => ?_
        obtain ⟨k, hka⟩ : ∃ k, ks[at_.toNat]? = some k := ⟨_, List.getElem?_eq_getElem (by omega)⟩
        obtain ⟨z, hz, z0⟩ := hk k (List.mem_of_getElem? hka)
        have hkn : k < ms.length := (List.getElem?_eq_some_iff.mp hz).1
        refine r_ixOs hA (.head _) a0 (map_get hka) ?_
        repeat' walk_at "nw"
        refine r_ixTs hA (.tail _ m) (by omega) (by rw [Int.toNat_natCast]; exact map_get hz) ?_
        repeat' walk_at "nw"
        refine r_tup hA (ds := [D.int (z - 1)]) (.cons .sc .nil) (by show 1 ≤ 1000000; decide) fun v1 H hA => ?_
        refine r_catT hA (by walk_at "mm") (List.mem_cons_self) ?_ fun v2 H hA => ?_
        · rw [cut_take (by rw [List.length_map]; omega), List.length_take, List.length_map]
          show min k ms.length + 1 ≤ 1000000
          omega
        repeat' walk_at "nw"
        refine r_catT hA (by walk_at "mm") (List.mem_cons_self) ?_ fun v4 H hA => ?_
        · rw [cut_take (by rw [List.length_map]; omega), show ((k : Int) + 1) = ((k + 1 : Nat) : Int) by omega, cut_drop (by rw [List.length_map]; omega), List.length_append, List.length_take, List.length_drop, List.length_map]
          show min k ms.length + 1 + (ms.length - (k + 1)) ≤ 1000000
          omega
        rw [cut_mid (by rw [List.length_map]; exact hkn), map_set_int] at hA
        repeat' walk_at "nw"
        refine q _ (ms.set k (z - 1)) _ _ hp ⟨by rw [List.length_set]; exact hl, set_nn o.2 (by omega)⟩ (At.sub hA.forget fun x m => ?_)
        rcases List.mem_cons.mp m with rfl | m
        · exact List.mem_cons_self
        · walk_at "mm"
/-! ### no marking -/
def okB : V → Prop
  | .int _ => True
  | .bl _ => True
  | .non => True
  | .str z => z = "1"
  | _ => False
def isBad : V → Prop
  | .int i => i < 0
  | _ => True
structure BadOk (n : Nat) (xs : List V) : Prop where
  ok : ∀ x ∈ xs, okB x
  bad : xs.length ≠ n ∨ ∃ x ∈ xs, isBad x
  len : xs.length ≤ 100
def sp__law_bad (K : PySem.W.Frag) : Sp := fun vs H Q E => ∃ R L p v pt n ms, vs = [.ref p, v] ∧ PotOk pt ∧ n ≤ 60 ∧ MkOk n ms ∧ (D.tup (ms.map D.int), v) ∈ R ∧ At R ((p, .lst pt) :: L) H ∧ ∀ u xs pt' H', PotOk pt' → BadOk n xs → At ((D.tup (xs.map D.sc), u) :: R) ((p, .lst pt') :: L) H' → Q u H'
theorem r_bad {R : RL} {L : LL} {H : Hp} {p : Addr} {pt : List D} {v : V} {n : Nat} {ms : List Int} {Q : VK} {E : XK} (hA : At R ((p, .lst pt) :: L) H) (hp : PotOk pt) (hn : n ≤ 60) (o : MkOk n ms) (m : (D.tup (ms.map D.int), v) ∈ R) (q : ∀ u xs pt' H', PotOk pt' → BadOk n xs → At ((D.tup (xs.map D.sc), u) :: R) ((p, .lst pt') :: L) H' → Q u H') : sp__law_bad K [.ref p, v] H Q E := ⟨R, L, p, v, pt, n, ms, rfl, hp, hn, o, m, hA, q⟩
set_option hygiene false in
local macro_rules | `(tactic| walk_at "term _law_bad") => `(tactic| refine ⟨_, PSs.nox (pss_cons (ps_set (i := 2) sc__law_bad.nd rfl (Or.inl rfl) (pe_fn (F__law_draw (P := P) (K := K) (mg := mg) B) hr (by decide) passL rfl (pa_cons (pv 0) (pa_cons pe_int pa_nil))))
  (pss_cons (ps_if (PW.pt (pw_or (pt_cmpR op_eq (pv 2) pe_int (nomark _)) (pw_or1 (pt_cmpR (op_eqDK K rfl (hu_le hr (by decide))) (pv 1) (pe_tup pa_nil) (nomark _)))))
  (pss_one (ps_ret (pe_op (op_catAK K rfl) (pv 1) (pe_tup (pa_cons (pe_fn (F__law_draw (P := P) (K := K) (mg := mg) B) hr (by decide) passL rfl (pa_cons (pv 0) (pa_cons pe_int pa_nil))) pa_nil)))))
  pss_nil)
  (pss_cons (ps_if (pt_cmpR op_eq (pv 2) pe_int (nomark _))
  (pss_one (ps_ret (pe_slice (sl_tupAK K rfl) (pv 1) (po_some pe_int) po_none)))
  pss_nil)
  (pss_cons (ps_set (i := 3) sc__law_bad.nd rfl (Or.inl rfl) (pe_fn (F__law_draw (P := P) (K := K) (mg := mg) B) hr (by decide) passL rfl (pa_cons (pv 0) (pa_cons (pe_callB (call_len_seqK K rfl) (by rfl) B.T.len (by decide +kernel) (pa_cons (pv 1) pa_nil)) pa_nil))))
  (pss_cons (ps_set (i := 4) sc__law_bad.nd rfl (Or.inl rfl) (pe_un un_neg pe_int))
  (pss_cons (ps_if (pt_cmpR op_eq (pv 2) pe_int (nomark _))
  (pss_one (ps_set (i := 4) sc__law_bad.nd rfl (Or.inl rfl) (pe_op op_sub (pe_un un_neg pe_int) (pe_fn (F__law_draw (P := P) (K := K) (mg := mg) B) hr (by decide) passL rfl (pa_cons (pv 0) (pa_cons (pe_op op_pow pe_int pe_int) pa_nil))))))
  pss_nil)
  (pss_cons (ps_if (pt_cmpR op_eq (pv 2) pe_int (nomark _))
  (pss_one (ps_set (i := 4) sc__law_bad.nd rfl (Or.inl rfl) pe_bl))
  pss_nil)
  (pss_cons (ps_if (pt_cmpR op_eq (pv 2) pe_int (nomark _))
  (pss_one (ps_set (i := 4) sc__law_bad.nd rfl (Or.inl rfl) (pe_ix (ix_listK K rfl) (pe_lst (pa_cons pe_non (pa_cons pe_str pa_nil))) (pe_fn (F__law_draw (P := P) (K := K) (mg := mg) B) hr (by decide) passL rfl (pa_cons (pv 0) (pa_cons pe_int pa_nil))) (fun _ _ => rfl))))
  pss_nil)
  (pss_one (ps_ret (pe_op (op_catAK K rfl) (pe_op (op_catAK K rfl) (pe_slice (sl_tupAK K rfl) (pv 1) po_none (po_some (pv 3))) (pe_tup (pa_cons (pv 4) pa_nil))) (pe_slice (sl_tupAK K rfl) (pv 1) (po_some (pe_op op_add (pv 3) pe_int)) po_none)))))))))))), ?_⟩)
theorem F__law_bad (B : Bun P K mg) : Fn P w K mg base 3 "_law_bad" ["pot", "marking"] (sp__law_bad K) := by
  refine B.d__law_bad.fn (k := 2) sc__law_bad (fun vs H Q E h => ?_) (fun _ _ _ _ _ _ us hl => match us, hl with | [_, _], _ => rfl) fun f cdv A outer s H vs Q E hr h => ?_
  · obtain ⟨_, _, _, _, _, _, _, rfl, _⟩ := h
    rfl
  · obtain ⟨R, L, pp, mv, pt, n, ms, rfl, hp, hn, o, m, hA, q⟩ := h
    have hl := o.1
    have hints : ∀ x ∈ ms.map V.int, okB x := fun x hx => by
      obtain ⟨i, _, rfl⟩ := List.mem_map.mp hx
      exact True.intro
    have eS : (ms.map V.int).map D.sc = ms.map D.int := by rw [List.map_map]; rfl
    walk_at "term _law_bad"
    repeat' walk_at "nw"
    refine r_draw [] hA hp (by omega) (by omega) fun way pt H hp w0 w1 hA => ?_
    have long : ∀ {Q2 : VK} {z : Int} {pt : List D} {H : Hp}, PotOk pt → At R ((pp, .lst pt) :: L) H → (∀ v xs pt' H', PotOk pt' → BadOk n xs → At ((D.tup (xs.map D.sc), v) :: R) ((pp, .lst pt') :: L) H' → Q2 v H') → NewT [V.int z] (fun y H2 => OR (rCatA K) mv y H2 Q2) H := by
      intro Q2 z pt H hp hA q
      refine r_tup hA (ds := [D.int z]) (.cons .sc .nil) (by show 1 ≤ 1000000; decide) fun v1 H hA => ?_
      refine r_catT hA (.tail _ m) (List.mem_cons_self) (by rw [List.length_map]; show ms.length + 1 ≤ 1000000; omega) fun v2 H hA => ?_
      refine q v2 (ms.map V.int ++ [.int z]) _ _ hp ⟨fun x hx => ?_, .inl (by simp; omega), by simp; omega⟩ (At.sub hA fun x m => ?_)
      · rcases List.mem_append.mp hx with h | h
        · exact hints x h
        · rw [List.mem_singleton.mp h]; exact True.intro
      · rcases List.mem_cons.mp m with rfl | m
        · rw [List.map_append, eS]; exact List.mem_cons_self
        · exact .tail _ (.tail _ m)
    have fin : ∀ {c : Option V} {odd v : V} {k : Nat} {pt : List D} {H : Hp}, PotOk pt → k < ms.length → okB odd → isBad odd → At ((D.tup (cut (ms.map D.int) none (some (k : Int))), v) :: R) ((pp, .lst pt) :: L) H →
        NewT [odd] (fun y H2 => OR (rCatA K) v y H2 fun x H1 => tSl (rSlA K) (tVar 1) (tPart (tOp (rI0 fun i j => V.int (i + j)) (tVar 3) (tC (.int 1)))) tNoPart [some (.ref pp), some mv, c, some (.int (k : Nat)), some odd] H1 fun y H2 => OR (rCatA K) x y H2 { nx := fun _ H' => Q V.non H', rt := Q : Ends }.rt) H := by
      intro c odd v k pt H hp hk hok hbad hA
      refine r_tup hA (ds := [D.sc odd]) (.cons .sc .nil) (by show 1 ≤ 1000000; decide) fun v1 H hA => ?_
      refine r_catT hA (by walk_at "mm") (List.mem_cons_self) ?_ fun v2 H hA => ?_
      · rw [cut_take (by rw [List.length_map]; omega), List.length_take, List.length_map]
        show min k ms.length + 1 ≤ 1000000
        omega
      repeat' walk_at "nw"
      refine r_catT hA (by walk_at "mm") (List.mem_cons_self) ?_ fun v4 H hA => ?_
      · rw [cut_take (by rw [List.length_map]; omega), show ((k : Int) + 1) = ((k + 1 : Nat) : Int) by omega, cut_drop (by rw [List.length_map]; omega), List.length_append, List.length_take, List.length_drop, List.length_map]
        show min k ms.length + 1 + (ms.length - (k + 1)) ≤ 1000000
        omega
      rw [cut_mid (by rw [List.length_map]; exact hk), ← eS, ← List.map_set] at hA
      refine q _ ((ms.map V.int).set k odd) _ _ hp ⟨fun x hx => ?_, .inr ⟨odd, ?_, hbad⟩, by simp; omega⟩ (At.sub hA fun x m => ?_)
      · rcases List.mem_or_eq_of_mem_set hx with h | rfl
        · exact hints x h
        · exact hok
      · exact List.mem_set (by rw [List.length_map]; exact hk) _
      · rcases List.mem_cons.mp m with rfl | m
        · exact List.mem_cons_self
        · walk_at "mm"
    repeat' walk_at "nw"
    · refine r_draw [] hA hp (by omega) (by omega) fun z pt H hp z0 z1 hA => ?_
      repeat' walk_at "nw"
      exact long hp hA q
    · refine r_eqH hA (.r (.tail _ m)) (.r List.mem_cons_self) (cmp_tupI ms) (cmp_tupI []) ?_
      rw [eqv_tup0]
      have hA := hA.drop
      repeat' walk_at "nw"
      · refine r_draw [] hA hp (by omega) (by omega) fun z pt H hp z0 z1 hA => ?_
        repeat' walk_at "nw"
        exact long hp hA q
      · rename (_ ≠ []) => hne
        have hk0 : 0 < ms.length := List.length_pos_iff.mpr (fun e => hne (by rw [e]; rfl))
        have e1 : cut (ms.map D.int) (some 1) none = (ms.drop 1).map D.int := by
          rw [show (1 : Int) = ((1 : Nat) : Int) by rfl, cut_drop (by rw [List.length_map]; omega), List.map_drop]
        rw [e1] at hA
        refine q _ ((ms.drop 1).map V.int) _ _ hp ⟨fun x hx => ?_, .inl ?_, ?_⟩ (by rw [List.map_map]; exact hA)
        · obtain ⟨i, _, rfl⟩ := List.mem_map.mp hx
          exact True.intro
        · rw [List.length_map, List.length_drop]; omega
        · rw [List.length_map, List.length_drop]; omega
      · rename (_ ≠ []) => hne
        have hk0 : 0 < ms.length := List.length_pos_iff.mpr (fun e => hne (by rw [e]; rfl))
        rw [List.length_map]
        refine r_draw [] hA hp (by omega) (by omega) fun at_ pt H hp a0 a1 hA => ?_
        obtain ⟨k, rfl⟩ := Int.eq_ofNat_of_zero_le a0
        have hkl : k < ms.length := by omega
        repeat' walk_at "nw"
        · refine r_draw [] hA hp (by decide) (by decide) fun z pt H hp z0 z1 hA => ?_
          repeat' walk_at "nw"
          all_goals first | (exfalso; omega) | skip
          refine fin hp hkl True.intro ?_ hA
          show -1 - z < 0
          omega
        · exfalso; omega
        · exact fin hp hkl True.intro True.intro hA
        · refine r_lstR hA (ds := [D.sc .non, D.str "1"]) (.cons .sc (.cons .sc .nil)) (by show 2 ≤ 1000000; decide) fun lv H hA => ?_
          repeat' walk_at "nw"
          refine r_draw [] hA hp (by omega) (by omega) fun z pt H hp z0 z1 hA => ?_
          obtain ⟨odd, ho, h1, h2⟩ : ∃ odd : V, [D.sc .non, D.str "1"][z.toNat]? = some (D.sc odd) ∧ okB odd ∧ isBad odd := by
            have : z = 0 ∨ z = 1 := by omega
            rcases this with rfl | rfl
            · exact ⟨_, rfl, True.intro, True.intro⟩
            · exact ⟨_, rfl, rfl, True.intro⟩
          refine r_ixLs hA (List.mem_cons_self) z0 ho ?_
          have hA := hA.drop
          repeat' walk_at "nw"
          exact fin hp hkl h1 h2 hA
        · exact fin hp hkl True.intro (by show (-1 : Int) < 0; decide) hA
end
end K26
set_option maxRecDepth 100000
set_option maxHeartbeats 4000000
namespace K26
open PySem PySem.Spec PyProof.Rows L2 Nw
set_option hygiene false in
local macro_rules | `(tactic| walk_at "nf") => `(tactic| first | exact B.n_cls | exact B.n_places | exact B.n_transitions | exact B.n_start | exact B.n_index | exact B.n_takes | exact B.n_gives | exact B.n_takers | exact B.n_givers | exact B.n_labels)
local macro_rules | `(tactic| walk_at "nm") => `(tactic| first | exact .head _ | exact .tail _ (.head _) | exact .tail _ (.tail _ (.head _)) | exact .tail _ (.tail _ (.tail _ (.head _))) | exact .tail _ (.tail _ (.tail _ (.tail _ (.head _)))) | exact .tail _ (.tail _ (.tail _ (.tail _ (.tail _ (.head _))))) | exact .tail _ (.tail _ (.tail _ (.tail _ (.tail _ (.tail _ (.head _)))))) | exact List.mem_append_right _ (.head _) | exact List.mem_append_right _ (.tail _ (.head _)) | exact .tail _ (List.mem_append_right _ (.head _)) | exact .tail _ (.tail _ (List.mem_append_right _ (.head _))) | exact .tail _ (.tail _ (.tail _ (List.mem_append_right _ (.head _)))) | (repeat (first | assumption | refine List.mem_cons_of_mem _ ?_)))
set_option hygiene false in
local macro_rules | `(tactic| walk_at "dr") => `(tactic| repeat (first | exact hA | apply At.drop))
local macro_rules | `(tactic| walk_at "mm") => `(tactic| repeat (first | assumption | exact List.mem_cons_self | refine List.mem_cons_of_mem _ ?_))
local macro_rules | `(tactic| walk_at "nb") => `(tactic| first | exact isT_int_int | exact isT_int_bool | exact isT_int_str | exact isT_int_list | exact isT_int_tuple | exact isT_bool_int | exact isT_bool_bool | exact isT_bool_str | exact isT_bool_list | exact isT_bool_tuple | exact isT_str_int | exact isT_str_bool | exact isT_str_str | exact isT_str_list | exact isT_str_tuple | exact isT_NoneType_int | exact isT_NoneType_bool | exact isT_NoneType_str | exact isT_NoneType_list | exact isT_NoneType_tuple | exact isT_list_int | exact isT_list_bool | exact isT_list_str | exact isT_list_list | exact isT_list_tuple | exact isT_tuple_int | exact isT_tuple_bool | exact isT_tuple_str | exact isT_tuple_list | exact isT_tuple_tuple | decide +kernel)
local macro_rules | `(tactic| walk_at "ni") => `(tactic| first | exact InR.mem (by walk_at "nm") | exact InR.sc | assumption)
local macro_rules | `(tactic| walk_at "nc") => `(tactic| first | omega | decide | (unfold CMul; omega) | (unfold CDiv; omega) | (unfold CPow; omega) | (unfold CPow; decide))
local macro_rules | `(tactic| walk_at "nl") => `(tactic| first | omega | decide | (simp only [List.length_cons, List.length_nil, List.length_append, List.length_map, List.length_set]; omega) | (simp; omega))
local macro_rules | `(tactic| walk_at "nh") => `(tactic| first | exact HasL.r (by walk_at "nm") | exact HasL.o (by walk_at "nm") | assumption)
local macro_rules | `(tactic| walk_at "na") => `(tactic| first | exact AllR.nil | (refine AllR.cons (by walk_at "ni") ?_; walk_at "na"))
local macro_rules | `(tactic| walk_at "nt") => `(tactic| first | exact HasTy.int _ | exact HasTy.str _ | exact HasTy.bl _ | exact HasTy.non | exact HasTy.lst (by walk_at "nm") | exact HasTy.tup (by walk_at "nm") | exact HasTy.own (by walk_at "nm"))
set_option hygiene false in
local macro_rules | `(tactic| walk_at "nw") => `(tactic| first
  | (with_reducible refine' s_seq ?_)
  | (with_reducible refine' s_asg ?_)
  | (with_reducible refine' s_name ?_)
  | (with_reducible refine' s_ret ?_)
  | (with_reducible refine' s_drop ?_)
  | (with_reducible refine' s_next ?_)
  | (with_reducible refine' s_op ?_)
  | (with_reducible refine' s_un ?_)
  | (with_reducible refine' s_c ?_)
  | (with_reducible refine' s_cons ?_)
  | (with_reducible refine' s_nil ?_)
  | (with_reducible refine' s_cb ?_)
  | (with_reducible refine' s_call ?_)
  | (with_reducible refine' s_callS ?_)
  | (with_reducible refine' s_test ?_)
  | (with_reducible refine' s_tb ?_)
  | (with_reducible refine' s_bl ?_)
  | (with_reducible refine' s_not ?_)
  | (with_reducible refine' s_if ?_)
  | (with_reducible refine' s_ifE ?_)
  | (with_reducible refine' s_and ?_)
  | (with_reducible refine' s_or ?_)
  | (with_reducible refine' s_andV ?_)
  | (with_reducible refine' s_orV ?_)
  | (with_reducible refine' s_notV ?_)
  | (with_reducible refine' s_sub ?_)
  | (with_reducible refine' s_chain ?_)
  | (with_reducible refine' s_sl ?_)
  | (with_reducible refine' s_noPart ?_)
  | (with_reducible refine' s_part ?_)
  | (with_reducible refine' r_part ?_)
  | (with_reducible refine' s_m1 ?_)
  | (with_reducible refine' s_fldQ ?_)
  | (with_reducible refine' s_setF ?_)
  | (with_reducible refine' s_cvalQ ?_)
  | (with_reducible refine' s_lstRev ?_)
  | (with_reducible refine' s_dgetQ ?_)
  | (with_reducible refine' s_din ?_)
  | (with_reducible refine' s_dnotin ?_)
  | (with_reducible refine' s_dput ?_)
  | (with_reducible refine' s_dget2Q ?_)
  | (with_reducible refine' s_mkX1 ?_)
  | (with_reducible refine' s_make ?_)
  | (with_reducible refine' s_lstRg ?_)
  | (with_reducible refine' s_tru ?_)
  | (with_reducible refine' s_star ?_)
  | (with_reducible refine' s_xf ?_)
  | (with_reducible refine' s_yes ?_)
  | (with_reducible refine' r_I0 ?_)
  | (with_reducible refine' r_U ?_)
  | (with_reducible refine' r_eqI ?_)
  | (with_reducible refine' r_neI ?_)
  | (with_reducible refine' r_eqS ?_)
  | (with_reducible refine' r_neS ?_)
  | (with_reducible refine' n_isR ?_)
  | (with_reducible refine' n_isN ?_)
  | (with_reducible refine' n_isI ?_)
  | (with_reducible refine' n_isS ?_)
  | (with_reducible refine' n_isB ?_)
  | (with_reducible refine' n_ntR ?_)
  | (with_reducible refine' n_ntN ?_)
  | (with_reducible refine' n_ntI ?_)
  | (with_reducible refine' n_ntS ?_)
  | (with_reducible refine' n_ntB ?_)
  | (with_reducible refine' i_t ?_)
  | (with_reducible refine' i_f ?_)
  | (with_reducible refine' i_nt ?_)
  | (with_reducible refine' i_nf ?_)
  | ((with_reducible refine' s_var ?g1 ?_); (case g1 => rfl))
  | ((with_reducible refine' r_I ?g1 ?_); (case g1 => walk_at "nc"))
  | ((with_reducible refine' w_int ?_))
  | ((with_reducible refine' w_abs ?_))
  | ((with_reducible refine' r_max2 ?_))
  | ((with_reducible refine' r_lenS ?g1 ?_); (case g1 => walk_at "nl"))
  | ((with_reducible refine' r_addS ?g1 ?_); (case g1 => walk_at "nl"))
  | ((with_reducible refine' r_slS ?g1 ?_); (case g1 => walk_at "nl"))
  | ((with_reducible refine' r_inS ?_))
  | ((with_reducible refine' r_ixOs hA ?g1 ?g2 ?g3 ?_); (case g1 => walk_at "nm"); (case g2 => walk_at "nc"); (case g3 => rfl))
  | ((with_reducible refine' r_ixLs hA ?g1 ?g2 ?g3 ?_); (case g1 => walk_at "nm"); (case g2 => walk_at "nc"); (case g3 => rfl))
  | ((with_reducible refine' r_ixTs hA ?g1 ?g2 ?g3 ?_); (case g1 => walk_at "nm"); (case g2 => walk_at "nc"); (case g3 => rfl))
  | (((with_reducible refine' r_ixO hA ?g1 ?g2 ?g3 ?_); (case g1 => walk_at "nm"); (case g2 => walk_at "nc"); (case g3 => rfl)); intro v hA)
  | (((with_reducible refine' r_ixL hA ?g1 ?g2 ?g3 ?_); (case g1 => walk_at "nm"); (case g2 => walk_at "nc"); (case g3 => rfl)); intro v hA)
  | (((with_reducible refine' r_ixT hA ?g1 ?g2 ?g3 ?_); (case g1 => walk_at "nm"); (case g2 => walk_at "nc"); (case g3 => rfl)); intro v hA)
  | ((with_reducible refine' r_lenO hA ?g1 ?_); (case g1 => walk_at "nm"))
  | ((with_reducible refine' r_lenL hA ?g1 ?_); (case g1 => walk_at "nm"))
  | ((with_reducible refine' r_lenT hA ?g1 ?_); (case g1 => walk_at "nm"))
  | ((with_reducible refine' r_lenD hA ?g1 ?_); (case g1 => walk_at "nm"))
  | ((with_reducible refine' r_tqT hA ?g1 ?_); (case g1 => walk_at "nm"))
  | (((with_reducible refine' w_setL [] (o := .non) hA ?g1 ?g2 ?g3 ?_); (case g1 => walk_at "ni"); (case g2 => walk_at "nc"); (case g3 => walk_at "nl")); (try clear hA); intro H hA; dsimp only [List.set, Int.toNat, List.cons_append, List.nil_append] at hA)
  | (((with_reducible refine' w_setL [_] (o := .non) hA ?g1 ?g2 ?g3 ?_); (case g1 => walk_at "ni"); (case g2 => walk_at "nc"); (case g3 => walk_at "nl")); (try clear hA); intro H hA; dsimp only [List.set, Int.toNat, List.cons_append, List.nil_append] at hA)
  | (((with_reducible refine' w_setL [_, _] (o := .non) hA ?g1 ?g2 ?g3 ?_); (case g1 => walk_at "ni"); (case g2 => walk_at "nc"); (case g3 => walk_at "nl")); (try clear hA); intro H hA; dsimp only [List.set, Int.toNat, List.cons_append, List.nil_append] at hA)
  | (((with_reducible refine' w_setL [_, _, _] (o := .non) hA ?g1 ?g2 ?g3 ?_); (case g1 => walk_at "ni"); (case g2 => walk_at "nc"); (case g3 => walk_at "nl")); (try clear hA); intro H hA; dsimp only [List.set, Int.toNat, List.cons_append, List.nil_append] at hA)
  | ((with_reducible refine' s_bm ?_); skip)
  | (((with_reducible refine' w_append [] hA ?g1 ?g2 ?_); (case g1 => walk_at "ni"); (case g2 => walk_at "nl")); (try clear hA); intro H hA; dsimp only [List.set, Int.toNat, List.cons_append, List.nil_append] at hA)
  | (((with_reducible refine' w_append [_] hA ?g1 ?g2 ?_); (case g1 => walk_at "ni"); (case g2 => walk_at "nl")); (try clear hA); intro H hA; dsimp only [List.set, Int.toNat, List.cons_append, List.nil_append] at hA)
  | (((with_reducible refine' w_append [_, _] hA ?g1 ?g2 ?_); (case g1 => walk_at "ni"); (case g2 => walk_at "nl")); (try clear hA); intro H hA; dsimp only [List.set, Int.toNat, List.cons_append, List.nil_append] at hA)
  | (((with_reducible refine' w_append [_, _, _] hA ?g1 ?g2 ?_); (case g1 => walk_at "ni"); (case g2 => walk_at "nl")); (try clear hA); intro H hA; dsimp only [List.set, Int.toNat, List.cons_append, List.nil_append] at hA)
  | ((with_reducible refine' ⟨ty_lst hA ?g1, ?_⟩); (case g1 => walk_at "nm"))
  | ((with_reducible refine' r_isi hA ?g1 ?g2 ?_); (case g1 => walk_at "nt"); (case g2 => walk_at "nb"))
  | (((with_reducible refine' r_lstRg hA ?g1 ?g2 ?_); (case g1 => walk_at "nc"); (case g2 => walk_at "nc")); intro p H hA)
  | (((with_reducible refine' r_list hA ?g1 ?_); (case g1 => walk_at "nh")); intro p H hA)
  | (((with_reducible refine' r_slL hA ?g1 ?_); (case g1 => walk_at "nh")); intro p H hA)
  | (((with_reducible refine' r_listT hA ?g1 ?_); (case g1 => walk_at "nm")); intro p H hA)
  | (((with_reducible refine' r_listD hA ?g1 ?_); (case g1 => walk_at "nm")); intro p H hA)
  | (((with_reducible refine' r_tuple hA ?g1 ?_); (case g1 => walk_at "nh")); intro v H hA)
  | (((with_reducible refine' r_slT hA ?g1 ?_); (case g1 => walk_at "nm")); intro v H hA)
  | (((with_reducible refine' r_lstRev hA ?g1 ?_); (case g1 => walk_at "nh")); intro p H hA)
  | ((with_reducible refine' s_tup ?_); skip)
  | ((with_reducible refine' s_lst ?_); skip)
  | (((with_reducible refine' r_tup hA ?g1 ?g2 ?_); (case g1 => walk_at "na"); (case g2 => walk_at "nl")); intro v H hA)
  | (with_reducible refine' r_dnew hA ?_; intro p H hA)
  | (((with_reducible refine' r_fdO hA ?g1 ?g2 ?g3 ?g4 ?_); (case g1 => walk_at "nm"); (case g2 => walk_at "nf"); (case g3 => walk_at "nf"); (case g4 => rfl)); intro v hA)
  | (((with_reducible refine' r_fd hA ?g1 ?g2 ?g3 ?g4 ?_); (case g1 => walk_at "nm"); (case g2 => walk_at "nf"); (case g3 => walk_at "nf"); (case g4 => rfl)); intro v hA)
  | (with_reducible refine' i_dec (fun hc => ?_) (fun hc => ?_))
  | (with_reducible refine' i_ndec (fun hc => ?_) (fun hc => ?_))
  | (with_reducible refine' i_ne (fun hc => ?_) (fun hc => ?_))
  | (with_reducible refine' i_em (fun hc => ?_) (fun hc => ?_)))
/-! ### what the transitions take and give -/
def cov (ms row : List Int) : Bool := (ms.zip row).all fun p => decide (p.2 ≤ p.1)
def arcOk (ms : List Int) (a : Int × Int) : Bool := decide (¬ ms.getD a.1.toNat 0 < a.2)
theorem arcs_all : ∀ (row ms pre : List Int), ms.length = row.length → (∀ x ∈ ms, 0 ≤ x) → (arcsFrom pre.length row).all (arcOk (pre ++ ms)) = cov ms row
  | [], [], pre, _, _ => rfl
  | n :: row, m :: ms, pre, hl, h => by
    have ih := arcs_all row ms (pre ++ [m]) (by simpa using hl) fun x hx => h x (List.mem_cons_of_mem _ hx)
    rw [List.append_assoc, List.length_append] at ih
    have hm := h m List.mem_cons_self
    have e : cov (m :: ms) (n :: row) = (decide (n ≤ m) && cov ms row) := rfl
    rw [e, arcsFrom]
    by_cases h0 : 0 < n
    · rw [if_pos h0, List.all_cons]
      have e2 : arcOk (pre ++ m :: ms) (((pre.length : Nat) : Int), n) = decide (n ≤ m) := by
        unfold arcOk
        simp
      rw [e2]
      exact congrArg _ ih
    · rw [if_neg h0, decide_eq_true (show n ≤ m by omega), Bool.true_and]
      exact ih
  | [], m :: ms, pre, hl, _ => by cases hl
  | n :: row, [], pre, hl, _ => by cases hl
def arcSet (f : Int → Int → Int) (l : List Int) (a : Int × Int) : List Int := l.set a.1.toNat (f (l.getD a.1.toNat 0) a.2)
theorem arcSet_len (f : Int → Int → Int) : ∀ (as : List (Int × Int)) (l : List Int), (as.foldl (arcSet f) l).length = l.length
  | [], l => rfl
  | a :: as, l => by rw [List.foldl_cons, arcSet_len f as, arcSet, List.length_set]
theorem arcs_fold {f : Int → Int → Int} (h0 : ∀ x, f x 0 = x) : ∀ (row ms pre : List Int), ms.length = row.length → (∀ x ∈ row, 0 ≤ x) → (arcsFrom pre.length row).foldl (arcSet f) (pre ++ ms) = pre ++ List.zipWith f ms row
  | [], [], pre, _, _ => rfl
  | n :: row, m :: ms, pre, hl, h => by
    have hn := h n List.mem_cons_self
    rw [arcsFrom, List.zipWith_cons_cons]
    have ih := arcs_fold h0 row ms (pre ++ [f m n]) (by simpa using hl) fun x hx => h x (List.mem_cons_of_mem _ hx)
    rw [List.append_assoc, List.append_assoc, List.length_append] at ih
    by_cases hp : 0 < n
    · rw [if_pos hp, List.foldl_cons]
      have e : arcSet f (pre ++ m :: ms) (((pre.length : Nat) : Int), n) = pre ++ f m n :: ms := by
        unfold arcSet
        simp
      rw [e]
      exact ih
    · rw [if_neg hp]
      have e : n = 0 := by omega
      rw [e, h0] at ih ⊢
      exact ih
  | [], m :: ms, pre, hl, _ => by cases hl
  | n :: row, [], pre, hl, _ => by cases hl
def subL (ms row : List Int) : List Int := List.zipWith (· - ·) ms row
def addL (ms row : List Int) : List Int := List.zipWith (· + ·) ms row
theorem sub_eq {ms row : List Int} (hl : ms.length = row.length) (h : ∀ x ∈ row, 0 ≤ x) : (arcsOf row).foldl (arcSet (· - ·)) ms = subL ms row := arcs_fold (f := (· - ·)) (fun x => Int.sub_zero x) row ms [] hl h
theorem add_eq {ms row : List Int} (hl : ms.length = row.length) (h : ∀ x ∈ row, 0 ≤ x) : (arcsOf row).foldl (arcSet (· + ·)) ms = addL ms row := arcs_fold (f := (· + ·)) (fun x => Int.add_zero x) row ms [] hl h
theorem cov_eq {ms row : List Int} (hl : ms.length = row.length) (h : ∀ x ∈ ms, 0 ≤ x) : (arcsOf row).all (arcOk ms) = cov ms row := arcs_all row ms [] hl h
def NetAt (K : PySem.W.Frag) (W : Wd) (R : RL) (v : V) : Prop := ∃ st k1 k2 k3, (netD K W st k1 k2 k3, v) ∈ R
theorem NetAt.mono {K : PySem.W.Frag} {W : Wd} {R R' : RL} {v : V} (h : NetAt K W R v) (k : ∀ x, x ∈ R → x ∈ R') : NetAt K W R' v := by
  obtain ⟨st, k1, k2, k3, m⟩ := h
  exact ⟨st, k1, k2, k3, k _ m⟩
theorem al_lk {ts : List PySem.Str} {rs : List (List Int)} (nd : ts.Nodup) {k : Nat} {z : PySem.Str} {row : List Int} (h1 : ts[k]? = some z) (h2 : rs[k]? = some row) : lk ((ts.zip rs).map fun x => arcK (x.1, arcsOf x.2)) (Sum.inr z) = some (.lst ((arcsOf row).map iiD)) := by
  have hm : (z, row) ∈ ts.zip rs := List.mem_of_getElem? (zip_get h1 h2)
  have nd2 : ((ts.zip rs).map (·.1)).Nodup := by rw [zip_take]; exact (List.take_sublist _ _).nodup nd
  exact lk_pairs (k := fun x : PySem.Str × List Int => x.1) (f := fun x : PySem.Str × List Int => D.lst ((arcsOf x.2).map iiD)) nd2 hm
/-- the transitions that are enabled, ascending -/
def rdy (W : Wd) (ms : List Int) : List Nat := (List.range W.ts.length).filter fun k => cov ms (W.tk.getD k [])
section
variable {P : Program} {w : World} {K : PySem.W.Frag} {mg : PySem.Str → Option Value} {base : Heap}
def sp_takes (K : PySem.W.Frag) : Sp := fun vs H Q E => ∃ (R : RL) (L : LL) (nv : V) (W : Wd) (k : Nat) (z : PySem.Str) (row : List Int), vs = [nv, .str z] ∧ At R L H ∧ (W.Ok) ∧ (NetAt K W R nv) ∧ (W.ts[k]? = some z) ∧ (W.tk[k]? = some row) ∧ (∀ u H', At ((D.lst ((arcsOf row).map iiD), u) :: R) L H' → Q u H')
theorem r_takes {R : RL} {L : LL} {H : Hp} {Q : VK} {E : XK} {nv : V} {W : Wd} {k : Nat} {z : PySem.Str} {row : List Int} (hA : At R L H) (o : W.Ok) (m : NetAt K W R nv) (h1 : W.ts[k]? = some z) (h2 : W.tk[k]? = some row) (q : ∀ u H', At ((D.lst ((arcsOf row).map iiD), u) :: R) L H' → Q u H') : sp_takes K [nv, .str z] H Q E := ⟨R, L, nv, W, k, z, row, rfl, hA, o, m, h1, h2, q⟩
set_option hygiene false in
local macro_rules | `(tactic| walk_at "term takes") => `(tactic| refine ⟨_, PSs.nox (pss_one (ps_ret (pe_callTy (call_list_ofK K rfl) (by rfl) B.T.list (by decide +kernel) (pa_cons (pe_dget (hu_le hr (by decide)) (pe_fldK K rfl (pv 0) rfl) (pv 1) (fun _ _ => rfl)) pa_nil)))), ?_⟩)
theorem F_takes (B : Bun P K mg) : Fn P w K mg base 2 "takes" ["net", "name"] (sp_takes K) := by
  refine B.d_takes.fn (k := 1) sc_takes (fun vs H Q E h => ?_) (fun _ _ _ _ _ _ us hl => match us, hl with | [_, _], _ => rfl) fun f cdv A outer s H vs Q E hr h => ?_
  · obtain ⟨_, _, _, _, _, _, _, rfl, _⟩ := h
    rfl
  · obtain ⟨R, L, nv, W, k, z, row, rfl, hA, o, m, h1, h2, q⟩ := h
    obtain ⟨st, k1, k2, k3, m⟩ := m
    unfold netD netFs tkK at m
    walk_at "term takes"
    repeat' walk_at "nw"
    refine r_dgS hA (List.mem_cons_self) (al_lk o.tnd h1 h2) fun v hA => ?_
    repeat' walk_at "nw"
    exact q _ _ hA.drop.drop.frzLst
def sp_gives (K : PySem.W.Frag) : Sp := fun vs H Q E => ∃ (R : RL) (L : LL) (nv : V) (W : Wd) (k : Nat) (z : PySem.Str) (row : List Int), vs = [nv, .str z] ∧ At R L H ∧ (W.Ok) ∧ (NetAt K W R nv) ∧ (W.ts[k]? = some z) ∧ (W.gv[k]? = some row) ∧ (∀ u H', At ((D.lst ((arcsOf row).map iiD), u) :: R) L H' → Q u H')
theorem r_gives {R : RL} {L : LL} {H : Hp} {Q : VK} {E : XK} {nv : V} {W : Wd} {k : Nat} {z : PySem.Str} {row : List Int} (hA : At R L H) (o : W.Ok) (m : NetAt K W R nv) (h1 : W.ts[k]? = some z) (h2 : W.gv[k]? = some row) (q : ∀ u H', At ((D.lst ((arcsOf row).map iiD), u) :: R) L H' → Q u H') : sp_gives K [nv, .str z] H Q E := ⟨R, L, nv, W, k, z, row, rfl, hA, o, m, h1, h2, q⟩
set_option hygiene false in
local macro_rules | `(tactic| walk_at "term gives") => `(tactic| refine ⟨_, PSs.nox (pss_one (ps_ret (pe_callTy (call_list_ofK K rfl) (by rfl) B.T.list (by decide +kernel) (pa_cons (pe_dget (hu_le hr (by decide)) (pe_fldK K rfl (pv 0) rfl) (pv 1) (fun _ _ => rfl)) pa_nil)))), ?_⟩)
theorem F_gives (B : Bun P K mg) : Fn P w K mg base 2 "gives" ["net", "name"] (sp_gives K) := by
  refine B.d_gives.fn (k := 1) sc_gives (fun vs H Q E h => ?_) (fun _ _ _ _ _ _ us hl => match us, hl with | [_, _], _ => rfl) fun f cdv A outer s H vs Q E hr h => ?_
  · obtain ⟨_, _, _, _, _, _, _, rfl, _⟩ := h
    rfl
  · obtain ⟨R, L, nv, W, k, z, row, rfl, hA, o, m, h1, h2, q⟩ := h
    obtain ⟨st, k1, k2, k3, m⟩ := m
    unfold netD netFs gvK at m
    walk_at "term gives"
    repeat' walk_at "nw"
    refine r_dgS hA (List.mem_cons_self) (al_lk o.tnd h1 h2) fun v hA => ?_
    repeat' walk_at "nw"
    exact q _ _ hA.drop.drop.frzLst
theorem Wd.Ok.krow {W : Wd} (o : W.Ok) {k : Nat} {row : List Int} (h : W.tk[k]? = some row) : RowOk W.ps.length row := o.kr _ (List.mem_of_getElem? h)
theorem Wd.Ok.grow {W : Wd} (o : W.Ok) {k : Nat} {row : List Int} (h : W.gv[k]? = some row) : RowOk W.ps.length row := o.gr _ (List.mem_of_getElem? h)
theorem get_D {α : Type} {l : List α} {i : Nat} {d : α} (h : i < l.length) : l[i]? = some (l.getD i d) := by simp [List.getElem?_eq_getElem h]
theorem iiD_D (y : Int × Int) : iiD y = D.tup [D.int y.1, D.int y.2] := rfl
def sp_is_enabled (K : PySem.W.Frag) : Sp := fun vs H Q E => ∃ (R : RL) (L : LL) (nv mv : V) (W : Wd) (k : Nat) (z : PySem.Str) (row ms : List Int), vs = [nv, mv, .str z] ∧ At R L H ∧ (W.Ok) ∧ (NetAt K W R nv) ∧ ((D.tup (ms.map D.int), mv) ∈ R) ∧ (MkOk W.ps.length ms) ∧ (W.ts[k]? = some z) ∧ (W.tk[k]? = some row) ∧ (∀ H', At R L H' → Q (.bl (cov ms row)) H')
theorem r_enabled {R : RL} {L : LL} {H : Hp} {Q : VK} {E : XK} {nv mv : V} {W : Wd} {k : Nat} {z : PySem.Str} {row ms : List Int} (hA : At R L H) (o : W.Ok) (m : NetAt K W R nv) (m2 : (D.tup (ms.map D.int), mv) ∈ R) (hm : MkOk W.ps.length ms) (h1 : W.ts[k]? = some z) (h2 : W.tk[k]? = some row) (q : ∀ H', At R L H' → Q (.bl (cov ms row)) H') : sp_is_enabled K [nv, mv, .str z] H Q E := ⟨R, L, nv, mv, W, k, z, row, ms, rfl, hA, o, m, m2, hm, h1, h2, q⟩
set_option hygiene false in
local macro_rules | `(tactic| walk_at "term is_enabled") => `(tactic| refine ⟨_, PSs.nox (pss_cons (ps_for PassesOwn.never rfl (pi_listK K rfl (pe_fn (F_takes (P := P) (K := K) (mg := mg) B) hr (by decide) passL rfl (pa_cons (pv 0) (pa_cons (pv 2) pa_nil)))) (pg_tupK K rfl (n := 2) rfl (pgs_cons (pg_name (i := 3) sc_is_enabled.nd rfl (Or.inl rfl)) (pgs_cons (pg_name (i := 4) sc_is_enabled.nd rfl (Or.inl rfl)) pgs_nil)))
  (pss_one (ps_if (pt_cmpR op_lt (pe_ix (ix_tupK K rfl) (pv 1) (pv 3) (fun _ _ => rfl)) (pv 4) (nomark _))
  (pss_one (ps_ret pe_bl))
  pss_nil)))
  (pss_one (ps_ret pe_bl))), ?_⟩)
theorem F_is_enabled (B : Bun P K mg) : Fn P w K mg base 3 "is_enabled" ["net", "marking", "name"] (sp_is_enabled K) := by
  refine B.d_is_enabled.fn (k := 2) sc_is_enabled (fun vs H Q E h => ?_) (fun _ _ _ _ _ _ us hl => match us, hl with | [_, _, _], _ => rfl) fun f cdv A outer s H vs Q E hr h => ?_
  · obtain ⟨_, _, _, _, _, _, _, _, _, rfl, _⟩ := h
    rfl
  · obtain ⟨R, L, nv, mv, W, k, z, row, ms, rfl, hA, o, m, m2, hm, h1, h2, q⟩ := h
    have hr' := o.krow h2
    have hb := arcs_b row 0
    have hce := cov_eq (ms := ms) (row := row) (by rw [hm.1, hr'.1]) hm.2
    walk_at "term is_enabled"
    repeat' walk_at "nw"
    refine s_for (s_iList ?_)
    repeat' walk_at "nw"
    refine r_takes hA o m h1 h2 fun u H hA => ?_
    refine src_lst hA (.head _) fun a ea W1 => for_D W1 hA (fun i σ L' => (∃ c c1, σ = [some nv, some mv, some (.str z), c, c1]) ∧ ((arcsOf row).take i).all (arcOk ms) = true ∧ L' = L) ?_ ?_ ?_ ?_
    · exact ⟨⟨_, _, rfl⟩, rfl, rfl⟩
    · exact fun _ _ _ _ => True.intro
    · rintro i d v σ L1 H hd ⟨⟨c, c1, rfl⟩, hall, rfl⟩ hA
      rw [List.getElem?_map, Option.map_eq_some_iff] at hd
      obtain ⟨y, hy, rfl⟩ := hd
      have hym := List.mem_of_getElem? hy
      have hyb := hb.2 y hym
      rw [hr'.1] at hyb
      rw [iiD_D] at hA
      refine r_gtup2 hA (.head _) fun x1 x2 hA => ?_
      obtain rfl : x1 = .int y.1 := hA.sc_of
      obtain rfl : x2 = .int y.2 := hA.drop.sc_of
      repeat' walk_at "nw"
      refine r_ixTs (ds := ms.map D.int) hA (by walk_at "mm") hyb.1 (map_get (f := D.int) (get_D (d := 0) (by rw [hm.1]; omega))) ?_
      repeat' walk_at "nw"
      · have e : cov ms row = false := by
          rw [← hce, Bool.eq_false_iff]
          intro hx
          have := List.all_eq_true.mp hx y hym
          exact of_decide_eq_true this hc
        rw [← e]
        exact q _ hA.drop.drop.drop.drop
      · refine ⟨_, ⟨⟨_, _, rfl⟩, ?_, rfl⟩, hA.drop.drop.drop⟩
        rw [take_snoc hy, List.all_append, hall, List.all_cons, arcOk, decide_eq_true hc]
        rfl
    · rintro σ L1 H ⟨⟨c, c1, rfl⟩, hall, rfl⟩ hA
      rw [List.length_map, List.take_length, hce] at hall
      repeat' walk_at "nw"
      rw [← hall]
      exact q _ hA.drop
def sp_enabled_names (K : PySem.W.Frag) : Sp := fun vs H Q E => ∃ (R : RL) (L : LL) (nv mv : V) (W : Wd) (ms : List Int), vs = [nv, mv] ∧ At R L H ∧ (W.Ok) ∧ (NetAt K W R nv) ∧ ((D.tup (ms.map D.int), mv) ∈ R) ∧ (MkOk W.ps.length ms) ∧ (∀ u H', At ((D.lst ((rdy W ms).map fun k => D.str (nm W.ts k)), u) :: R) L H' → Q u H')
theorem r_ennames {R : RL} {L : LL} {H : Hp} {Q : VK} {E : XK} {nv mv : V} {W : Wd} {ms : List Int} (hA : At R L H) (o : W.Ok) (m : NetAt K W R nv) (m2 : (D.tup (ms.map D.int), mv) ∈ R) (hm : MkOk W.ps.length ms) (q : ∀ u H', At ((D.lst ((rdy W ms).map fun k => D.str (nm W.ts k)), u) :: R) L H' → Q u H') : sp_enabled_names K [nv, mv] H Q E := ⟨R, L, nv, mv, W, ms, rfl, hA, o, m, m2, hm, q⟩
set_option hygiene false in
local macro_rules | `(tactic| walk_at "term enabled_names") => `(tactic| refine ⟨_, PSs.nox (pss_one (ps_ret (pe_lc (own := [("name", 2)]) rfl sc_enabled_names.nd (pi_tupK K rfl (pe_fldK K rfl (pv 0) rfl)) (blkOk_by (own := [("name", 2)]) (N := n_enabled_names) (sc := defScope s_enabled_names) (by decide +kernel)) (fun _ _ _ _ _ => (pg_name (i := 2) sc_enabled_names.nd rfl (Or.inl rfl))) (fun _ _ _ _ _ => (pts_one (pt_val (pe_fn (F_is_enabled (P := P) (K := K) (mg := mg) B) hr (by decide) passL rfl (pa_cons (pv 0) (pa_cons (pv 1) (pa_cons (pv 2) pa_nil))))))) (fun _ _ _ _ _ => (pv 2))))), ?_⟩)
theorem F_enabled_names (B : Bun P K mg) : Fn P w K mg base 4 "enabled_names" ["net", "marking"] (sp_enabled_names K) := by
  refine B.d_enabled_names.fn (k := 3) sc_enabled_names (fun vs H Q E h => ?_) (fun _ _ _ _ _ _ us hl => match us, hl with | [_, _], _ => rfl) fun f cdv A outer s H vs Q E hr h => ?_
  · obtain ⟨_, _, _, _, _, _, rfl, _⟩ := h
    rfl
  · obtain ⟨R, L, nv, mv, W, ms, rfl, hA, o, m, m2, hm, q⟩ := h
    have t60 := o.tl
    have m' := m
    obtain ⟨st, k1, k2, k3, m'⟩ := m'
    unfold netD netFs at m'
    walk_at "term enabled_names"
    repeat' walk_at "nw"
    refine s_lc (s_iTup ?_)
    repeat' walk_at "nw"
    refine src_tup hA (.head _) fun a ea W1 => lc_D W1 hA (fun i as L' => L' = L ∧ as = (((List.range i).filter fun k => cov ms (W.tk.getD k []))).map fun k => D.str (nm W.ts k)) ?_ ?_ ?_ ?_
    · exact ⟨rfl, rfl⟩
    · exact fun _ _ _ _ _ => True.intro
    · rintro j d v as L1 H p2 hd ⟨rfl, rfl⟩ hlen hA
      rw [List.getElem?_map, Option.map_eq_some_iff] at hd
      obtain ⟨z, hz, rfl⟩ := hd
      obtain rfl : v = .str z := hA.sc_of
      have hj : j < W.ts.length := (List.getElem?_eq_some_iff.mp hz).1
      have ez : z = nm W.ts j := by
        have := nm_get hj
        rw [hz] at this
        exact Option.some.inj this
      have hrow : W.tk[j]? = some (W.tk.getD j []) := get_D (by rw [o.kl]; exact hj)
      refine s_name ⟨rfl, ?_⟩
      repeat' walk_at "nw"
      refine r_enabled hA o (m.mono fun x hx => .tail _ (.tail _ hx)) (by walk_at "mm") hm hz hrow fun H hA => ?_
      cases hcv : cov ms (W.tk.getD j []) with
      | true =>
        repeat' walk_at "nw"
        refine lc_end hA (fun z hz => List.mem_cons_of_mem _ hz) .sc hlen (by omega) ⟨rfl, ?_⟩
        rw [List.range_succ, List.filter_append, List.filter_cons, if_pos hcv, List.map_append, ez]
        rfl
      | false =>
        repeat' walk_at "nw"
        refine lc_no hA.drop hlen ⟨rfl, ?_⟩
        rw [List.range_succ, List.filter_append, List.filter_cons, if_neg (by rw [hcv]; simp)]
        simp
    · rintro p2 as L1 H ⟨rfl, rfl⟩ hlen hA
      rw [List.length_map] at hA
      repeat' walk_at "nw"
      exact q _ _ hA.drop.frzLst
def sp_without_inputs (K : PySem.W.Frag) : Sp := fun vs H Q E => ∃ (R : RL) (L : LL) (nv mv : V) (W : Wd) (k : Nat) (z : PySem.Str) (row ms : List Int), vs = [nv, mv, .str z] ∧ At R L H ∧ (W.Ok) ∧ (NetAt K W R nv) ∧ ((D.tup (ms.map D.int), mv) ∈ R) ∧ (ms.length = W.ps.length) ∧ (W.ts[k]? = some z) ∧ (W.tk[k]? = some row) ∧ (∀ u H', At ((D.tup ((subL ms row).map D.int), u) :: R) L H' → Q u H')
theorem r_without {R : RL} {L : LL} {H : Hp} {Q : VK} {E : XK} {nv mv : V} {W : Wd} {k : Nat} {z : PySem.Str} {row ms : List Int} (hA : At R L H) (o : W.Ok) (m : NetAt K W R nv) (m2 : (D.tup (ms.map D.int), mv) ∈ R) (hm : ms.length = W.ps.length) (h1 : W.ts[k]? = some z) (h2 : W.tk[k]? = some row) (q : ∀ u H', At ((D.tup ((subL ms row).map D.int), u) :: R) L H' → Q u H') : sp_without_inputs K [nv, mv, .str z] H Q E := ⟨R, L, nv, mv, W, k, z, row, ms, rfl, hA, o, m, m2, hm, h1, h2, q⟩
set_option hygiene false in
local macro_rules | `(tactic| walk_at "term without_inputs") => `(tactic| refine ⟨_, PSs.nox (pss_cons (ps_set (i := 3) sc_without_inputs.nd rfl (Or.inl rfl) (pe_callTy (call_list_ofK K rfl) (by rfl) B.T.list (by decide +kernel) (pa_cons (pv 1) pa_nil)))
  (pss_cons (ps_for PassesOwn.never rfl (pi_listK K rfl (pe_fn (F_takes (P := P) (K := K) (mg := mg) B) hr (by decide) passL rfl (pa_cons (pv 0) (pa_cons (pv 2) pa_nil)))) (pg_tupK K rfl (n := 2) rfl (pgs_cons (pg_name (i := 4) sc_without_inputs.nd rfl (Or.inl rfl)) (pgs_cons (pg_name (i := 5) sc_without_inputs.nd rfl (Or.inl rfl)) pgs_nil)))
  (pss_one (ps_asg (pe_op op_sub (pe_ix (ix_listK K rfl) (pv 3) (pv 4) (fun _ _ => rfl)) (pv 5)) (pg_sub (pv 3) (pv 4) set_list))))
  (pss_one (ps_ret (pe_callTy (call_tuple_ofK K rfl) (by rfl) B.T.tuple (by decide +kernel) (pa_cons (pv 3) pa_nil)))))), ?_⟩)
theorem F_without_inputs (B : Bun P K mg) : Fn P w K mg base 3 "without_inputs" ["net", "marking", "name"] (sp_without_inputs K) := by
  refine B.d_without_inputs.fn (k := 2) sc_without_inputs (fun vs H Q E h => ?_) (fun _ _ _ _ _ _ us hl => match us, hl with | [_, _, _], _ => rfl) fun f cdv A outer s H vs Q E hr h => ?_
  · obtain ⟨_, _, _, _, _, _, _, _, _, rfl, _⟩ := h
    rfl
  · obtain ⟨R, L, nv, mv, W, k, z, row, ms, rfl, hA, o, m, m2, hm, h1, h2, q⟩ := h
    have hr' := o.krow h2
    have hb := arcs_b row 0
    have he := sub_eq (ms := ms) (row := row) (by rw [hm, hr'.1]) fun x hx => (hr'.2 x hx).1
    walk_at "term without_inputs"
    repeat' walk_at "nw"
    rename Addr => tp
    refine s_for (s_iList ?_)
    repeat' walk_at "nw"
    refine r_takes hA o m h1 h2 fun u H hA => ?_
    refine src_lst hA (.head _) fun a ea W1 => for_D W1 hA (fun i σ L' => (∃ c c1, σ = [some nv, some mv, some (.str z), some (.ref tp), c, c1]) ∧ L' = (tp, .lst ((((arcsOf row).take i).foldl (arcSet (· - ·)) ms).map D.int)) :: L) ?_ ?_ ?_ ?_
    · exact ⟨⟨_, _, rfl⟩, rfl⟩
    · exact fun _ _ _ _ => True.intro
    · rintro i d v σ L1 H hd ⟨⟨c, c1, rfl⟩, rfl⟩ hA
      rw [List.getElem?_map, Option.map_eq_some_iff] at hd
      obtain ⟨y, hy, rfl⟩ := hd
      have hym := List.mem_of_getElem? hy
      have hyb := hb.2 y hym
      rw [hr'.1] at hyb
      rw [iiD_D] at hA
      have hfl := arcSet_len (· - ·) ((arcsOf row).take i) ms
      refine r_gtup2 hA (.head _) fun x1 x2 hA => ?_
      obtain rfl : x1 = .int y.1 := hA.sc_of
      obtain rfl : x2 = .int y.2 := hA.drop.sc_of
      repeat' walk_at "nw"
      refine r_ixOs hA (.head _) hyb.1 (map_get (get_D (d := 0) (by rw [hfl, hm]; omega))) ?_
      repeat' walk_at "nw"
      refine ⟨_, ⟨⟨_, _, rfl⟩, ?_⟩, hA.drop.drop.drop⟩
      rw [take_snoc hy, List.foldl_append]
      show _ = (tp, OD.lst ((arcSet _ _ _).map D.int)) :: L
      rw [arcSet, ← map_set_int]
      rfl
    · rintro σ L1 H ⟨⟨c, c1, rfl⟩, rfl⟩ hA
      rw [List.length_map, List.take_length, he] at hA
      repeat' walk_at "nw"
      exact q _ _ (At.sub hA.forget fun x m => by
        rcases List.mem_cons.mp m with rfl | m
        · exact List.mem_cons_self
        · walk_at "mm")
def sp_with_outputs (K : PySem.W.Frag) : Sp := fun vs H Q E => ∃ (R : RL) (L : LL) (nv mv sv : V) (W : Wd) (ks : List Nat) (ms : List Int), vs = [nv, mv, sv] ∧ At R L H ∧ (W.Ok) ∧ (NetAt K W R nv) ∧ ((D.tup (ms.map D.int), mv) ∈ R) ∧ ((D.tup (ks.map fun k => D.str (nm W.ts k)), sv) ∈ R) ∧ (∀ k ∈ ks, k < W.ts.length) ∧ (ms.length = W.ps.length) ∧ (∀ u (ns : List Int) H', At ((D.tup (ns.map D.int), u) :: R) L H' → Q u H')
theorem r_with {R : RL} {L : LL} {H : Hp} {Q : VK} {E : XK} {nv mv sv : V} {W : Wd} {ks : List Nat} {ms : List Int} (hA : At R L H) (o : W.Ok) (m : NetAt K W R nv) (m2 : (D.tup (ms.map D.int), mv) ∈ R) (m3 : (D.tup (ks.map fun k => D.str (nm W.ts k)), sv) ∈ R) (hk : ∀ k ∈ ks, k < W.ts.length) (hm : ms.length = W.ps.length) (q : ∀ u (ns : List Int) H', At ((D.tup (ns.map D.int), u) :: R) L H' → Q u H') : sp_with_outputs K [nv, mv, sv] H Q E := ⟨R, L, nv, mv, sv, W, ks, ms, rfl, hA, o, m, m2, m3, hk, hm, q⟩
set_option hygiene false in
local macro_rules | `(tactic| walk_at "term with_outputs") => `(tactic| refine ⟨_, PSs.nox (pss_cons (ps_set (i := 3) sc_with_outputs.nd rfl (Or.inl rfl) (pe_callTy (call_list_ofK K rfl) (by rfl) B.T.list (by decide +kernel) (pa_cons (pv 1) pa_nil)))
  (pss_cons (ps_for PassesOwn.never rfl (pi_tupK K rfl (pv 2)) (pg_name (i := 4) sc_with_outputs.nd rfl (Or.inl rfl))
  (pss_one (ps_for PassesOwn.never rfl (pi_listK K rfl (pe_fn (F_gives (P := P) (K := K) (mg := mg) B) hr (by decide) passL rfl (pa_cons (pv 0) (pa_cons (pv 4) pa_nil)))) (pg_tupK K rfl (n := 2) rfl (pgs_cons (pg_name (i := 5) sc_with_outputs.nd rfl (Or.inl rfl)) (pgs_cons (pg_name (i := 6) sc_with_outputs.nd rfl (Or.inl rfl)) pgs_nil)))
  (pss_one (ps_asg (pe_op op_add (pe_ix (ix_listK K rfl) (pv 3) (pv 5) (fun _ _ => rfl)) (pv 6)) (pg_sub (pv 3) (pv 5) set_list))))))
  (pss_one (ps_ret (pe_callTy (call_tuple_ofK K rfl) (by rfl) B.T.tuple (by decide +kernel) (pa_cons (pv 3) pa_nil)))))), ?_⟩)
theorem F_with_outputs (B : Bun P K mg) : Fn P w K mg base 3 "with_outputs" ["net", "marking", "step"] (sp_with_outputs K) := by
  refine B.d_with_outputs.fn (k := 2) sc_with_outputs (fun vs H Q E h => ?_) (fun _ _ _ _ _ _ us hl => match us, hl with | [_, _, _], _ => rfl) fun f cdv A outer s H vs Q E hr h => ?_
  · obtain ⟨_, _, _, _, _, _, _, _, rfl, _⟩ := h
    rfl
  · obtain ⟨R, L, nv, mv, sv, W, ks, ms, rfl, hA, o, m, m2, m3, hk, hm, q⟩ := h
    walk_at "term with_outputs"
    repeat' walk_at "nw"
    rename Addr => tp
    refine s_for (s_iTup (s_var rfl (src_tup hA m3 fun a ea W1 => for_D W1 hA (fun i σ L' => (∃ c c1 c2, σ = [some nv, some mv, some sv, some (.ref tp), c, c1, c2]) ∧ ∃ ns : List Int, ns.length = W.ps.length ∧ L' = (tp, .lst (ns.map D.int)) :: L) ?_ ?_ ?_ ?_)))
    · exact ⟨⟨_, _, _, rfl⟩, ms, hm, rfl⟩
    · exact fun _ _ _ _ => True.intro
    · rintro i d v σ L1 H hd ⟨⟨c, c1, c2, rfl⟩, ns, hns, rfl⟩ hA
      rw [List.getElem?_map, Option.map_eq_some_iff] at hd
      obtain ⟨k, hki, rfl⟩ := hd
      obtain rfl : v = .str (nm W.ts k) := hA.sc_of
      have hkl := hk k (List.mem_of_getElem? hki)
      have hrow : W.gv[k]? = some (W.gv.getD k []) := get_D (by rw [o.gl]; exact hkl)
      have hr' := o.grow hrow
      have hb := arcs_b (W.gv.getD k []) 0
      repeat' walk_at "nw"
      refine s_for (s_iList ?_)
      repeat' walk_at "nw"
      refine r_gives hA o (m.mono fun x hx => .tail _ hx) (nm_get hkl) hrow fun u H hA => ?_
      refine src_lst hA (.head _) fun a ea W1 => for_D W1 hA (fun i σ L' => (∃ c1 c2, σ = [some nv, some mv, some sv, some (.ref tp), some (.str (nm W.ts k)), c1, c2]) ∧ ∃ ns : List Int, ns.length = W.ps.length ∧ L' = (tp, .lst (ns.map D.int)) :: L) ?_ ?_ ?_ ?_
      · exact ⟨⟨_, _, rfl⟩, ns, hns, rfl⟩
      · exact fun _ _ _ _ => True.intro
      · rintro i d v σ L1 H hd ⟨⟨c1, c2, rfl⟩, ns, hns, rfl⟩ hA
        rw [List.getElem?_map, Option.map_eq_some_iff] at hd
        obtain ⟨y, hy, rfl⟩ := hd
        have hyb := hb.2 y (List.mem_of_getElem? hy)
        rw [hr'.1] at hyb
        rw [iiD_D] at hA
        refine r_gtup2 hA (.head _) fun x1 x2 hA => ?_
        obtain rfl : x1 = .int y.1 := hA.sc_of
        obtain rfl : x2 = .int y.2 := hA.drop.sc_of
        repeat' walk_at "nw"
        refine r_ixOs hA (.head _) hyb.1 (map_get (get_D (d := 0) (by rw [hns]; omega))) ?_
        repeat' walk_at "nw"
        refine ⟨_, ⟨⟨_, _, rfl⟩, ns.set y.1.toNat (ns.getD y.1.toNat 0 + y.2), by rw [List.length_set]; exact hns, ?_⟩, hA.drop.drop.drop⟩
        rw [← map_set_int]
        rfl
      · rintro σ L1 H ⟨⟨c1, c2, rfl⟩, ns, hns, rfl⟩ hA
        exact ⟨_, ⟨⟨_, _, _, rfl⟩, ns, hns, rfl⟩, hA.drop.drop⟩
    · rintro σ L1 H ⟨⟨c, c1, c2, rfl⟩, ns, hns, rfl⟩ hA
      repeat' walk_at "nw"
      exact q _ ns _ hA.forget
end
end K26
set_option maxRecDepth 100000
set_option maxHeartbeats 4000000
namespace K26
open PySem PySem.Spec PyProof.Rows L2 Nw
set_option hygiene false in
local macro_rules | `(tactic| walk_at "nf") => `(tactic| first | exact B.n_cls | exact B.n_places | exact B.n_transitions | exact B.n_start | exact B.n_index | exact B.n_takes | exact B.n_gives | exact B.n_takers | exact B.n_givers | exact B.n_labels)
local macro_rules | `(tactic| walk_at "nm") => `(tactic| first | exact .head _ | exact .tail _ (.head _) | exact .tail _ (.tail _ (.head _)) | exact .tail _ (.tail _ (.tail _ (.head _))) | exact .tail _ (.tail _ (.tail _ (.tail _ (.head _)))) | exact .tail _ (.tail _ (.tail _ (.tail _ (.tail _ (.head _))))) | exact .tail _ (.tail _ (.tail _ (.tail _ (.tail _ (.tail _ (.head _)))))) | exact List.mem_append_right _ (.head _) | exact List.mem_append_right _ (.tail _ (.head _)) | exact .tail _ (List.mem_append_right _ (.head _)) | exact .tail _ (.tail _ (List.mem_append_right _ (.head _))) | exact .tail _ (.tail _ (.tail _ (List.mem_append_right _ (.head _)))) | (repeat (first | assumption | refine List.mem_cons_of_mem _ ?_)))
set_option hygiene false in
local macro_rules | `(tactic| walk_at "dr") => `(tactic| repeat (first | exact hA | apply At.drop))
local macro_rules | `(tactic| walk_at "mm") => `(tactic| repeat (first | assumption | exact List.mem_cons_self | refine List.mem_cons_of_mem _ ?_))
local macro_rules | `(tactic| walk_at "nb") => `(tactic| first | exact isT_int_int | exact isT_int_bool | exact isT_int_str | exact isT_int_list | exact isT_int_tuple | exact isT_bool_int | exact isT_bool_bool | exact isT_bool_str | exact isT_bool_list | exact isT_bool_tuple | exact isT_str_int | exact isT_str_bool | exact isT_str_str | exact isT_str_list | exact isT_str_tuple | exact isT_NoneType_int | exact isT_NoneType_bool | exact isT_NoneType_str | exact isT_NoneType_list | exact isT_NoneType_tuple | exact isT_list_int | exact isT_list_bool | exact isT_list_str | exact isT_list_list | exact isT_list_tuple | exact isT_tuple_int | exact isT_tuple_bool | exact isT_tuple_str | exact isT_tuple_list | exact isT_tuple_tuple | decide +kernel)
local macro_rules | `(tactic| walk_at "ni") => `(tactic| first | exact InR.mem (by walk_at "nm") | exact InR.sc | assumption)
local macro_rules | `(tactic| walk_at "nc") => `(tactic| first | omega | decide | (unfold CMul; omega) | (unfold CDiv; omega) | (unfold CPow; omega) | (unfold CPow; decide))
local macro_rules | `(tactic| walk_at "nl") => `(tactic| first | omega | decide | (simp only [List.length_cons, List.length_nil, List.length_append, List.length_map, List.length_set]; omega) | (simp; omega))
local macro_rules | `(tactic| walk_at "nh") => `(tactic| first | exact HasL.r (by walk_at "nm") | exact HasL.o (by walk_at "nm") | assumption)
local macro_rules | `(tactic| walk_at "na") => `(tactic| first | exact AllR.nil | (refine AllR.cons (by walk_at "ni") ?_; walk_at "na"))
local macro_rules | `(tactic| walk_at "nt") => `(tactic| first | exact HasTy.int _ | exact HasTy.str _ | exact HasTy.bl _ | exact HasTy.non | exact HasTy.lst (by walk_at "nm") | exact HasTy.tup (by walk_at "nm") | exact HasTy.own (by walk_at "nm"))
set_option hygiene false in
local macro_rules | `(tactic| walk_at "nw") => `(tactic| first
  | (with_reducible refine' s_seq ?_)
  | (with_reducible refine' s_asg ?_)
  | (with_reducible refine' s_name ?_)
  | (with_reducible refine' s_ret ?_)
  | (with_reducible refine' s_drop ?_)
  | (with_reducible refine' s_next ?_)
  | (with_reducible refine' s_op ?_)
  | (with_reducible refine' s_un ?_)
  | (with_reducible refine' s_c ?_)
  | (with_reducible refine' s_cons ?_)
  | (with_reducible refine' s_nil ?_)
  | (with_reducible refine' s_cb ?_)
  | (with_reducible refine' s_call ?_)
  | (with_reducible refine' s_callS ?_)
  | (with_reducible refine' s_test ?_)
  | (with_reducible refine' s_tb ?_)
  | (with_reducible refine' s_bl ?_)
  | (with_reducible refine' s_not ?_)
  | (with_reducible refine' s_if ?_)
  | (with_reducible refine' s_ifE ?_)
  | (with_reducible refine' s_and ?_)
  | (with_reducible refine' s_or ?_)
  | (with_reducible refine' s_andV ?_)
  | (with_reducible refine' s_orV ?_)
  | (with_reducible refine' s_notV ?_)
  | (with_reducible refine' s_sub ?_)
  | (with_reducible refine' s_chain ?_)
  | (with_reducible refine' s_sl ?_)
  | (with_reducible refine' s_noPart ?_)
  | (with_reducible refine' s_part ?_)
  | (with_reducible refine' r_part ?_)
  | (with_reducible refine' s_m1 ?_)
  | (with_reducible refine' s_fldQ ?_)
  | (with_reducible refine' s_setF ?_)
  | (with_reducible refine' s_cvalQ ?_)
  | (with_reducible refine' s_lstRev ?_)
  | (with_reducible refine' s_dgetQ ?_)
  | (with_reducible refine' s_din ?_)
  | (with_reducible refine' s_dnotin ?_)
  | (with_reducible refine' s_dput ?_)
  | (with_reducible refine' s_dget2Q ?_)
  | (with_reducible refine' s_mkX1 ?_)
  | (with_reducible refine' s_make ?_)
  | (with_reducible refine' s_lstRg ?_)
  | (with_reducible refine' s_tru ?_)
  | (with_reducible refine' s_star ?_)
  | (with_reducible refine' s_xf ?_)
  | (with_reducible refine' s_yes ?_)
  | (with_reducible refine' r_I0 ?_)
  | (with_reducible refine' r_U ?_)
  | (with_reducible refine' r_eqI ?_)
  | (with_reducible refine' r_neI ?_)
  | (with_reducible refine' r_eqS ?_)
  | (with_reducible refine' r_neS ?_)
  | (with_reducible refine' n_isR ?_)
  | (with_reducible refine' n_isN ?_)
  | (with_reducible refine' n_isI ?_)
  | (with_reducible refine' n_isS ?_)
  | (with_reducible refine' n_isB ?_)
  | (with_reducible refine' n_ntR ?_)
  | (with_reducible refine' n_ntN ?_)
  | (with_reducible refine' n_ntI ?_)
  | (with_reducible refine' n_ntS ?_)
  | (with_reducible refine' n_ntB ?_)
  | (with_reducible refine' i_t ?_)
  | (with_reducible refine' i_f ?_)
  | (with_reducible refine' i_nt ?_)
  | (with_reducible refine' i_nf ?_)
  | ((with_reducible refine' s_var ?g1 ?_); (case g1 => rfl))
  | ((with_reducible refine' r_I ?g1 ?_); (case g1 => walk_at "nc"))
  | ((with_reducible refine' w_int ?_))
  | ((with_reducible refine' w_abs ?_))
  | ((with_reducible refine' r_max2 ?_))
  | ((with_reducible refine' r_lenS ?g1 ?_); (case g1 => walk_at "nl"))
  | ((with_reducible refine' r_addS ?g1 ?_); (case g1 => walk_at "nl"))
  | ((with_reducible refine' r_slS ?g1 ?_); (case g1 => walk_at "nl"))
  | ((with_reducible refine' r_inS ?_))
  | ((with_reducible refine' r_ixOs hA ?g1 ?g2 ?g3 ?_); (case g1 => walk_at "nm"); (case g2 => walk_at "nc"); (case g3 => rfl))
  | ((with_reducible refine' r_ixLs hA ?g1 ?g2 ?g3 ?_); (case g1 => walk_at "nm"); (case g2 => walk_at "nc"); (case g3 => rfl))
  | ((with_reducible refine' r_ixTs hA ?g1 ?g2 ?g3 ?_); (case g1 => walk_at "nm"); (case g2 => walk_at "nc"); (case g3 => rfl))
  | (((with_reducible refine' r_ixO hA ?g1 ?g2 ?g3 ?_); (case g1 => walk_at "nm"); (case g2 => walk_at "nc"); (case g3 => rfl)); intro v hA)
  | (((with_reducible refine' r_ixL hA ?g1 ?g2 ?g3 ?_); (case g1 => walk_at "nm"); (case g2 => walk_at "nc"); (case g3 => rfl)); intro v hA)
  | (((with_reducible refine' r_ixT hA ?g1 ?g2 ?g3 ?_); (case g1 => walk_at "nm"); (case g2 => walk_at "nc"); (case g3 => rfl)); intro v hA)
  | ((with_reducible refine' r_lenO hA ?g1 ?_); (case g1 => walk_at "nm"))
  | ((with_reducible refine' r_lenL hA ?g1 ?_); (case g1 => walk_at "nm"))
  | ((with_reducible refine' r_lenT hA ?g1 ?_); (case g1 => walk_at "nm"))
  | ((with_reducible refine' r_lenD hA ?g1 ?_); (case g1 => walk_at "nm"))
  | ((with_reducible refine' r_tqT hA ?g1 ?_); (case g1 => walk_at "nm"))
  | (((with_reducible refine' w_setL [] (o := .non) hA ?g1 ?g2 ?g3 ?_); (case g1 => walk_at "ni"); (case g2 => walk_at "nc"); (case g3 => walk_at "nl")); (try clear hA); intro H hA; dsimp only [List.set, Int.toNat, List.cons_append, List.nil_append] at hA)
  | (((with_reducible refine' w_setL [_] (o := .non) hA ?g1 ?g2 ?g3 ?_); (case g1 => walk_at "ni"); (case g2 => walk_at "nc"); (case g3 => walk_at "nl")); (try clear hA); intro H hA; dsimp only [List.set, Int.toNat, List.cons_append, List.nil_append] at hA)
  | (((with_reducible refine' w_setL [_, _] (o := .non) hA ?g1 ?g2 ?g3 ?_); (case g1 => walk_at "ni"); (case g2 => walk_at "nc"); (case g3 => walk_at "nl")); (try clear hA); intro H hA; dsimp only [List.set, Int.toNat, List.cons_append, List.nil_append] at hA)
  | (((with_reducible refine' w_setL [_, _, _] (o := .non) hA ?g1 ?g2 ?g3 ?_); (case g1 => walk_at "ni"); (case g2 => walk_at "nc"); (case g3 => walk_at "nl")); (try clear hA); intro H hA; dsimp only [List.set, Int.toNat, List.cons_append, List.nil_append] at hA)
  | ((with_reducible refine' s_bm ?_); skip)
  | (((with_reducible refine' w_append [] hA ?g1 ?g2 ?_); (case g1 => walk_at "ni"); (case g2 => walk_at "nl")); (try clear hA); intro H hA; dsimp only [List.set, Int.toNat, List.cons_append, List.nil_append] at hA)
  | (((with_reducible refine' w_append [_] hA ?g1 ?g2 ?_); (case g1 => walk_at "ni"); (case g2 => walk_at "nl")); (try clear hA); intro H hA; dsimp only [List.set, Int.toNat, List.cons_append, List.nil_append] at hA)
  | (((with_reducible refine' w_append [_, _] hA ?g1 ?g2 ?_); (case g1 => walk_at "ni"); (case g2 => walk_at "nl")); (try clear hA); intro H hA; dsimp only [List.set, Int.toNat, List.cons_append, List.nil_append] at hA)
  | (((with_reducible refine' w_append [_, _, _] hA ?g1 ?g2 ?_); (case g1 => walk_at "ni"); (case g2 => walk_at "nl")); (try clear hA); intro H hA; dsimp only [List.set, Int.toNat, List.cons_append, List.nil_append] at hA)
  | ((with_reducible refine' ⟨ty_lst hA ?g1, ?_⟩); (case g1 => walk_at "nm"))
  | ((with_reducible refine' r_isi hA ?g1 ?g2 ?_); (case g1 => walk_at "nt"); (case g2 => walk_at "nb"))
  | (((with_reducible refine' r_lstRg hA ?g1 ?g2 ?_); (case g1 => walk_at "nc"); (case g2 => walk_at "nc")); intro p H hA)
  | (((with_reducible refine' r_list hA ?g1 ?_); (case g1 => walk_at "nh")); intro p H hA)
  | (((with_reducible refine' r_slL hA ?g1 ?_); (case g1 => walk_at "nh")); intro p H hA)
  | (((with_reducible refine' r_listT hA ?g1 ?_); (case g1 => walk_at "nm")); intro p H hA)
  | (((with_reducible refine' r_listD hA ?g1 ?_); (case g1 => walk_at "nm")); intro p H hA)
  | (((with_reducible refine' r_tuple hA ?g1 ?_); (case g1 => walk_at "nh")); intro v H hA)
  | (((with_reducible refine' r_slT hA ?g1 ?_); (case g1 => walk_at "nm")); intro v H hA)
  | (((with_reducible refine' r_lstRev hA ?g1 ?_); (case g1 => walk_at "nh")); intro p H hA)
  | ((with_reducible refine' s_tup ?_); skip)
  | ((with_reducible refine' s_lst ?_); skip)
  | (((with_reducible refine' r_tup hA ?g1 ?g2 ?_); (case g1 => walk_at "na"); (case g2 => walk_at "nl")); intro v H hA)
  | (with_reducible refine' r_dnew hA ?_; intro p H hA)
  | (((with_reducible refine' r_fdO hA ?g1 ?g2 ?g3 ?g4 ?_); (case g1 => walk_at "nm"); (case g2 => walk_at "nf"); (case g3 => walk_at "nf"); (case g4 => rfl)); intro v hA)
  | (((with_reducible refine' r_fd hA ?g1 ?g2 ?g3 ?g4 ?_); (case g1 => walk_at "nm"); (case g2 => walk_at "nf"); (case g3 => walk_at "nf"); (case g4 => rfl)); intro v hA)
  | (with_reducible refine' i_dec (fun hc => ?_) (fun hc => ?_))
  | (with_reducible refine' i_ndec (fun hc => ?_) (fun hc => ?_))
  | (with_reducible refine' i_ne (fun hc => ?_) (fun hc => ?_))
  | (with_reducible refine' i_em (fun hc => ?_) (fun hc => ?_)))
def nnV : V → Bool
  | .int i => decide (0 ≤ i)
  | _ => false
def isI : V → Bool
  | .int _ => true
  | _ => false
/-- what is_marking says of a tuple of scalars -/
def mkB (n : Nat) (xs : List V) : Bool := decide (xs.length = n) && xs.all nnV
section
variable {P : Program} {w : World} {K : PySem.W.Frag} {mg : PySem.Str → Option Value} {base : Heap}
theorem r_isint2 {R : RL} {L : LL} {H : Hp} {v : V} {Q : VK} {E : XK} (hA : At R L H) (h : okB v) (q : Q (.bl (isI v)) H) : sp_is_integer K [v] H Q E := by
  refine ⟨R, L, v, rfl, hA, ?_, ?_⟩
  · cases v <;> first | exact .inl ⟨_, rfl⟩ | exact .inr (.inl ⟨_, rfl⟩) | exact .inr (.inr (.inl rfl)) | exact .inr (.inr (.inr ⟨_, rfl⟩)) | cases h
  · cases v <;> exact q
def sp_is_marking (K : PySem.W.Frag) : Sp := fun vs H Q E => ∃ (R : RL) (L : LL) (nv mv : V) (W : Wd) (xs : List V), vs = [nv, mv] ∧ At R L H ∧ (NetAt K W R nv) ∧ ((D.tup (xs.map D.sc), mv) ∈ R) ∧ (∀ x ∈ xs, okB x) ∧ (xs.length ≤ 100) ∧ (∀ H', At R L H' → Q (.bl (mkB W.ps.length xs)) H')
theorem r_ismark {R : RL} {L : LL} {H : Hp} {Q : VK} {E : XK} {nv mv : V} {W : Wd} {xs : List V} (hA : At R L H) (m : NetAt K W R nv) (m2 : (D.tup (xs.map D.sc), mv) ∈ R) (hx : ∀ x ∈ xs, okB x) (hl : xs.length ≤ 100) (q : ∀ H', At R L H' → Q (.bl (mkB W.ps.length xs)) H') : sp_is_marking K [nv, mv] H Q E := ⟨R, L, nv, mv, W, xs, rfl, hA, m, m2, hx, hl, q⟩
set_option hygiene false in
local macro_rules | `(tactic| walk_at "term is_marking") => `(tactic| refine ⟨_, PSs.nox (pss_cons (ps_if (PW.pt (pw_or (pt_not (pt_val (pe_callB (call_isiK' K rfl) (by rfl) B.T.isinstance (by decide +kernel) (pa_cons (pv 1) (pa_cons (pe_bltn (v := .ty "tuple") (u := .type "tuple") (by rfl) B.T.tuple (by decide +kernel) rfl) pa_nil))))) (pw_or1 (pt_cmpR op_ne (pe_callB (call_len_seqK K rfl) (by rfl) B.T.len (by decide +kernel) (pa_cons (pv 1) pa_nil)) (pe_callB (call_len_seqK K rfl) (by rfl) B.T.len (by decide +kernel) (pa_cons (pe_fldK K rfl (pv 0) rfl) pa_nil)) (nomark _)))))
  (pss_one (ps_ret pe_bl))
  pss_nil)
  (pss_one (ps_ret (pe_callB (cr_allK K rfl rfl) (by rfl) B.T.all (by decide +kernel) (pa_cons (pe_lc (own := [("tokens", 2)]) rfl sc_is_marking.nd (pi_tupK K rfl (pv 1)) (blkOk_by (own := [("tokens", 2)]) (N := n_is_marking) (sc := defScope s_is_marking) (by decide +kernel)) (fun _ _ _ _ _ => (pg_name (i := 2) sc_is_marking.nd rfl (Or.inl rfl))) (fun _ _ _ _ _ => pts_nil) (fun _ _ _ _ _ => (pe_and (pe_fn (F_is_integer (P := P) (K := K) (mg := mg) B) hr (by decide) passL rfl (pa_cons (pv 2) pa_nil)) (pe_one (pe_cmpR op_ge (pv 2) pe_int (nomark _)))))) pa_nil))))), ?_⟩)
theorem F_is_marking (B : Bun P K mg) : Fn P w K mg base 3 "is_marking" ["net", "marking"] (sp_is_marking K) := by
  refine B.d_is_marking.fn (k := 2) sc_is_marking (fun vs H Q E h => ?_) (fun _ _ _ _ _ _ us hl => match us, hl with | [_, _], _ => rfl) fun f cdv A outer s H vs Q E hr h => ?_
  · obtain ⟨_, _, _, _, _, _, rfl, _⟩ := h
    rfl
  · obtain ⟨R, L, nv, mv, W, xs, rfl, hA, m, m2, hx, hl, q⟩ := h
    obtain ⟨st, k1, k2, k3, m⟩ := m
    unfold netD netFs at m
    walk_at "term is_marking"
    repeat' walk_at "nw"
    · have e : mkB W.ps.length xs = false := by
        unfold mkB
        rw [List.length_map, List.length_map] at hc
        rw [decide_eq_false (by omega), Bool.false_and]
      rw [← e]
      exact q _ hA.drop
    · rw [List.length_map, List.length_map] at hc
      have hA := hA.drop
      refine s_lc (s_iTup (s_var rfl (src_tup hA m2 fun a ea W1 => lc_D W1 hA (fun i as L' => L' = L ∧ as = ((xs.take i).map nnV).map D.bl) ?_ ?_ ?_ ?_)))
      · exact ⟨rfl, rfl⟩
      · exact fun _ _ _ _ _ => True.intro
      · rintro j d v as L1 H p2 hd ⟨rfl, rfl⟩ hlen hA
        rw [List.getElem?_map, Option.map_eq_some_iff] at hd
        obtain ⟨x, hxj, rfl⟩ := hd
        obtain rfl : v = x := hA.sc_of
        have hj := (List.getElem?_eq_some_iff.mp hxj).1
        have hok := hx v (List.mem_of_getElem? hxj)
        refine s_name ⟨rfl, ?_⟩
        repeat' walk_at "nw"
        refine r_isint2 hA hok ?_
        have fin : LcE p2 (NxL R p2 (j + 1) fun as L' => L' = L1 ∧ as = ((xs.take (j + 1)).map nnV).map D.bl) (.bl (nnV v)) H := lc_end hA (fun z hz => List.mem_cons_of_mem _ hz) .sc hlen (by omega) ⟨rfl, by rw [take_snoc hxj, List.map_append, List.map_append]; rfl⟩
        cases v with
        | int i =>
          repeat' walk_at "nw"
          refine i_t ?_
          repeat' walk_at "nw"
          exact fin
        | _ =>
          repeat' walk_at "nw"
          exact i_f fin
      · rintro p2 as L1 H ⟨rfl, rfl⟩ hlen hA
        rw [List.length_map, List.take_length] at hA
        repeat' walk_at "nw"
        refine r_all hA (.o (.head _)) ?_
        have e : (xs.map nnV).all id = mkB W.ps.length xs := by
          unfold mkB
          rw [decide_eq_true (by omega), Bool.true_and, List.all_map]
          rfl
        rw [e]
        exact q _ hA.forget
def sp_check_marking (K : PySem.W.Frag) : Sp := fun vs H Q E => ∃ (R : RL) (L : LL) (nv mv : V) (W : Wd) (xs : List V), vs = [nv, mv] ∧ At R L H ∧ (NetAt K W R nv) ∧ ((D.tup (xs.map D.sc), mv) ∈ R) ∧ (∀ x ∈ xs, okB x) ∧ (xs.length ≤ 100) ∧ (mkB W.ps.length xs = false → ∀ d H', At R ((d, OD.xd [("marking", .tup (xs.map D.sc))]) :: L) H' → E (.ref (He.ga K "InvalidMarking")) (some d) H') ∧ (mkB W.ps.length xs = true → ∀ H', At R L H' → Q .non H')
theorem r_checkmark {R : RL} {L : LL} {H : Hp} {Q : VK} {E : XK} {nv mv : V} {W : Wd} {xs : List V} (hA : At R L H) (m : NetAt K W R nv) (m2 : (D.tup (xs.map D.sc), mv) ∈ R) (hx : ∀ x ∈ xs, okB x) (hl : xs.length ≤ 100) (e : mkB W.ps.length xs = false → ∀ d H', At R ((d, OD.xd [("marking", .tup (xs.map D.sc))]) :: L) H' → E (.ref (He.ga K "InvalidMarking")) (some d) H') (q : mkB W.ps.length xs = true → ∀ H', At R L H' → Q .non H') : sp_check_marking K [nv, mv] H Q E := ⟨R, L, nv, mv, W, xs, rfl, hA, m, m2, hx, hl, e, q⟩
set_option hygiene false in
local macro_rules | `(tactic| walk_at "term check_marking") => `(tactic| refine ⟨_, (pss_one (ps_if (pt_not (pt_val (pe_fn (F_is_marking (P := P) (K := K) (mg := mg) B) hr (by decide) passL rfl (pa_cons (pv 0) (pa_cons (pv 1) pa_nil)))))
  (pss_one (ps_raise rfl (takes_of rfl rfl rfl rfl) (pmk_x1 B.x_InvalidMarking (hr.mono (by decide)) rfl (pv 1))))
  pss_nil)), ?_⟩)
theorem F_check_marking (B : Bun P K mg) : Fn P w K mg base 4 "check_marking" ["net", "marking"] (sp_check_marking K) := by
  refine B.d_check_marking.fn (k := 3) sc_check_marking (fun vs H Q E h => ?_) (fun _ _ _ _ _ _ us hl => match us, hl with | [_, _], _ => rfl) fun f cdv A outer s H vs Q E hr h => ?_
  · obtain ⟨_, _, _, _, _, _, rfl, _⟩ := h
    rfl
  · obtain ⟨R, L, nv, mv, W, xs, rfl, hA, m, m2, hx, hl, e, q⟩ := h
    walk_at "term check_marking"
    repeat' walk_at "nw"
    refine r_ismark hA m m2 hx hl fun H hA => ?_
    cases hb : mkB W.ps.length xs with
    | true =>
      repeat' walk_at "nw"
      exact q hb _ hA
    | false =>
      repeat' walk_at "nw"
      exact r_raise1 B.x_InvalidMarking hA (.mem m2) fun d H hA => e hb d H hA
end
end K26
set_option maxRecDepth 100000
set_option maxHeartbeats 4000000
namespace K26
open PySem PySem.Spec PyProof.Rows L2 Nw
open PySem.W (Datum DatumOrd Tup)
set_option hygiene false in
local macro_rules | `(tactic| walk_at "nf") => `(tactic| first | exact B.n_cls | exact B.n_places | exact B.n_transitions | exact B.n_start | exact B.n_index | exact B.n_takes | exact B.n_gives | exact B.n_takers | exact B.n_givers | exact B.n_labels)
local macro_rules | `(tactic| walk_at "nm") => `(tactic| first | exact .head _ | exact .tail _ (.head _) | exact .tail _ (.tail _ (.head _)) | exact .tail _ (.tail _ (.tail _ (.head _))) | exact .tail _ (.tail _ (.tail _ (.tail _ (.head _)))) | exact .tail _ (.tail _ (.tail _ (.tail _ (.tail _ (.head _))))) | exact .tail _ (.tail _ (.tail _ (.tail _ (.tail _ (.tail _ (.head _)))))) | exact List.mem_append_right _ (.head _) | exact List.mem_append_right _ (.tail _ (.head _)) | exact .tail _ (List.mem_append_right _ (.head _)) | exact .tail _ (.tail _ (List.mem_append_right _ (.head _))) | exact .tail _ (.tail _ (.tail _ (List.mem_append_right _ (.head _)))) | (repeat (first | assumption | refine List.mem_cons_of_mem _ ?_)))
set_option hygiene false in
local macro_rules | `(tactic| walk_at "dr") => `(tactic| repeat (first | exact hA | apply At.drop))
local macro_rules | `(tactic| walk_at "mm") => `(tactic| repeat (first | assumption | exact List.mem_cons_self | refine List.mem_cons_of_mem _ ?_))
local macro_rules | `(tactic| walk_at "nb") => `(tactic| first | exact isT_int_int | exact isT_int_bool | exact isT_int_str | exact isT_int_list | exact isT_int_tuple | exact isT_bool_int | exact isT_bool_bool | exact isT_bool_str | exact isT_bool_list | exact isT_bool_tuple | exact isT_str_int | exact isT_str_bool | exact isT_str_str | exact isT_str_list | exact isT_str_tuple | exact isT_NoneType_int | exact isT_NoneType_bool | exact isT_NoneType_str | exact isT_NoneType_list | exact isT_NoneType_tuple | exact isT_list_int | exact isT_list_bool | exact isT_list_str | exact isT_list_list | exact isT_list_tuple | exact isT_tuple_int | exact isT_tuple_bool | exact isT_tuple_str | exact isT_tuple_list | exact isT_tuple_tuple | decide +kernel)
local macro_rules | `(tactic| walk_at "ni") => `(tactic| first | exact InR.mem (by walk_at "nm") | exact InR.sc | assumption)
local macro_rules | `(tactic| walk_at "nc") => `(tactic| first | omega | decide | (unfold CMul; omega) | (unfold CDiv; omega) | (unfold CPow; omega) | (unfold CPow; decide))
local macro_rules | `(tactic| walk_at "nl") => `(tactic| first | omega | decide | (simp only [List.length_cons, List.length_nil, List.length_append, List.length_map, List.length_set]; omega) | (simp; omega))
local macro_rules | `(tactic| walk_at "nh") => `(tactic| first | exact HasL.r (by walk_at "nm") | exact HasL.o (by walk_at "nm") | assumption)
local macro_rules | `(tactic| walk_at "na") => `(tactic| first | exact AllR.nil | (refine AllR.cons (by walk_at "ni") ?_; walk_at "na"))
local macro_rules | `(tactic| walk_at "nt") => `(tactic| first | exact HasTy.int _ | exact HasTy.str _ | exact HasTy.bl _ | exact HasTy.non | exact HasTy.lst (by walk_at "nm") | exact HasTy.tup (by walk_at "nm") | exact HasTy.own (by walk_at "nm"))
set_option hygiene false in
local macro_rules | `(tactic| walk_at "nw") => `(tactic| first
  | (with_reducible refine' s_seq ?_)
  | (with_reducible refine' s_asg ?_)
  | (with_reducible refine' s_name ?_)
  | (with_reducible refine' s_ret ?_)
  | (with_reducible refine' s_drop ?_)
  | (with_reducible refine' s_next ?_)
  | (with_reducible refine' s_op ?_)
  | (with_reducible refine' s_un ?_)
  | (with_reducible refine' s_c ?_)
  | (with_reducible refine' s_cons ?_)
  | (with_reducible refine' s_nil ?_)
  | (with_reducible refine' s_cb ?_)
  | (with_reducible refine' s_call ?_)
  | (with_reducible refine' s_callS ?_)
  | (with_reducible refine' s_test ?_)
  | (with_reducible refine' s_tb ?_)
  | (with_reducible refine' s_bl ?_)
  | (with_reducible refine' s_not ?_)
  | (with_reducible refine' s_if ?_)
  | (with_reducible refine' s_ifE ?_)
  | (with_reducible refine' s_and ?_)
  | (with_reducible refine' s_or ?_)
  | (with_reducible refine' s_andV ?_)
  | (with_reducible refine' s_orV ?_)
  | (with_reducible refine' s_notV ?_)
  | (with_reducible refine' s_sub ?_)
  | (with_reducible refine' s_chain ?_)
  | (with_reducible refine' s_sl ?_)
  | (with_reducible refine' s_noPart ?_)
  | (with_reducible refine' s_part ?_)
  | (with_reducible refine' r_part ?_)
  | (with_reducible refine' s_m1 ?_)
  | (with_reducible refine' s_fldQ ?_)
  | (with_reducible refine' s_setF ?_)
  | (with_reducible refine' s_cvalQ ?_)
  | (with_reducible refine' s_lstRev ?_)
  | (with_reducible refine' s_dgetQ ?_)
  | (with_reducible refine' s_din ?_)
  | (with_reducible refine' s_dnotin ?_)
  | (with_reducible refine' s_dput ?_)
  | (with_reducible refine' s_dget2Q ?_)
  | (with_reducible refine' s_mkX1 ?_)
  | (with_reducible refine' s_make ?_)
  | (with_reducible refine' s_lstRg ?_)
  | (with_reducible refine' s_tru ?_)
  | (with_reducible refine' s_star ?_)
  | (with_reducible refine' s_xf ?_)
  | (with_reducible refine' s_yes ?_)
  | (with_reducible refine' r_I0 ?_)
  | (with_reducible refine' r_U ?_)
  | (with_reducible refine' r_eqI ?_)
  | (with_reducible refine' r_neI ?_)
  | (with_reducible refine' r_eqS ?_)
  | (with_reducible refine' r_neS ?_)
  | (with_reducible refine' n_isR ?_)
  | (with_reducible refine' n_isN ?_)
  | (with_reducible refine' n_isI ?_)
  | (with_reducible refine' n_isS ?_)
  | (with_reducible refine' n_isB ?_)
  | (with_reducible refine' n_ntR ?_)
  | (with_reducible refine' n_ntN ?_)
  | (with_reducible refine' n_ntI ?_)
  | (with_reducible refine' n_ntS ?_)
  | (with_reducible refine' n_ntB ?_)
  | (with_reducible refine' i_t ?_)
  | (with_reducible refine' i_f ?_)
  | (with_reducible refine' i_nt ?_)
  | (with_reducible refine' i_nf ?_)
  | ((with_reducible refine' s_var ?g1 ?_); (case g1 => rfl))
  | ((with_reducible refine' r_I ?g1 ?_); (case g1 => walk_at "nc"))
  | ((with_reducible refine' w_int ?_))
  | ((with_reducible refine' w_abs ?_))
  | ((with_reducible refine' r_max2 ?_))
  | ((with_reducible refine' r_lenS ?g1 ?_); (case g1 => walk_at "nl"))
  | ((with_reducible refine' r_addS ?g1 ?_); (case g1 => walk_at "nl"))
  | ((with_reducible refine' r_slS ?g1 ?_); (case g1 => walk_at "nl"))
  | ((with_reducible refine' r_inS ?_))
  | ((with_reducible refine' r_ixOs hA ?g1 ?g2 ?g3 ?_); (case g1 => walk_at "nm"); (case g2 => walk_at "nc"); (case g3 => rfl))
  | ((with_reducible refine' r_ixLs hA ?g1 ?g2 ?g3 ?_); (case g1 => walk_at "nm"); (case g2 => walk_at "nc"); (case g3 => rfl))
  | ((with_reducible refine' r_ixTs hA ?g1 ?g2 ?g3 ?_); (case g1 => walk_at "nm"); (case g2 => walk_at "nc"); (case g3 => rfl))
  | (((with_reducible refine' r_ixO hA ?g1 ?g2 ?g3 ?_); (case g1 => walk_at "nm"); (case g2 => walk_at "nc"); (case g3 => rfl)); intro v hA)
  | (((with_reducible refine' r_ixL hA ?g1 ?g2 ?g3 ?_); (case g1 => walk_at "nm"); (case g2 => walk_at "nc"); (case g3 => rfl)); intro v hA)
  | (((with_reducible refine' r_ixT hA ?g1 ?g2 ?g3 ?_); (case g1 => walk_at "nm"); (case g2 => walk_at "nc"); (case g3 => rfl)); intro v hA)
  | ((with_reducible refine' r_lenO hA ?g1 ?_); (case g1 => walk_at "nm"))
  | ((with_reducible refine' r_lenL hA ?g1 ?_); (case g1 => walk_at "nm"))
  | ((with_reducible refine' r_lenT hA ?g1 ?_); (case g1 => walk_at "nm"))
  | ((with_reducible refine' r_lenD hA ?g1 ?_); (case g1 => walk_at "nm"))
  | ((with_reducible refine' r_tqT hA ?g1 ?_); (case g1 => walk_at "nm"))
  | (((with_reducible refine' w_setL [] (o := .non) hA ?g1 ?g2 ?g3 ?_); (case g1 => walk_at "ni"); (case g2 => walk_at "nc"); (case g3 => walk_at "nl")); (try clear hA); intro H hA; dsimp only [List.set, Int.toNat, List.cons_append, List.nil_append] at hA)
  | (((with_reducible refine' w_setL [_] (o := .non) hA ?g1 ?g2 ?g3 ?_); (case g1 => walk_at "ni"); (case g2 => walk_at "nc"); (case g3 => walk_at "nl")); (try clear hA); intro H hA; dsimp only [List.set, Int.toNat, List.cons_append, List.nil_append] at hA)
  | (((with_reducible refine' w_setL [_, _] (o := .non) hA ?g1 ?g2 ?g3 ?_); (case g1 => walk_at "ni"); (case g2 => walk_at "nc"); (case g3 => walk_at "nl")); (try clear hA); intro H hA; dsimp only [List.set, Int.toNat, List.cons_append, List.nil_append] at hA)
  | (((with_reducible refine' w_setL [_, _, _] (o := .non) hA ?g1 ?g2 ?g3 ?_); (case g1 => walk_at "ni"); (case g2 => walk_at "nc"); (case g3 => walk_at "nl")); (try clear hA); intro H hA; dsimp only [List.set, Int.toNat, List.cons_append, List.nil_append] at hA)
  | ((with_reducible refine' s_bm ?_); skip)
  | (((with_reducible refine' w_append [] hA ?g1 ?g2 ?_); (case g1 => walk_at "ni"); (case g2 => walk_at "nl")); (try clear hA); intro H hA; dsimp only [List.set, Int.toNat, List.cons_append, List.nil_append] at hA)
  | (((with_reducible refine' w_append [_] hA ?g1 ?g2 ?_); (case g1 => walk_at "ni"); (case g2 => walk_at "nl")); (try clear hA); intro H hA; dsimp only [List.set, Int.toNat, List.cons_append, List.nil_append] at hA)
  | (((with_reducible refine' w_append [_, _] hA ?g1 ?g2 ?_); (case g1 => walk_at "ni"); (case g2 => walk_at "nl")); (try clear hA); intro H hA; dsimp only [List.set, Int.toNat, List.cons_append, List.nil_append] at hA)
  | (((with_reducible refine' w_append [_, _, _] hA ?g1 ?g2 ?_); (case g1 => walk_at "ni"); (case g2 => walk_at "nl")); (try clear hA); intro H hA; dsimp only [List.set, Int.toNat, List.cons_append, List.nil_append] at hA)
  | ((with_reducible refine' ⟨ty_lst hA ?g1, ?_⟩); (case g1 => walk_at "nm"))
  | ((with_reducible refine' r_isi hA ?g1 ?g2 ?_); (case g1 => walk_at "nt"); (case g2 => walk_at "nb"))
  | (((with_reducible refine' r_lstRg hA ?g1 ?g2 ?_); (case g1 => walk_at "nc"); (case g2 => walk_at "nc")); intro p H hA)
  | (((with_reducible refine' r_list hA ?g1 ?_); (case g1 => walk_at "nh")); intro p H hA)
  | (((with_reducible refine' r_slL hA ?g1 ?_); (case g1 => walk_at "nh")); intro p H hA)
  | (((with_reducible refine' r_listT hA ?g1 ?_); (case g1 => walk_at "nm")); intro p H hA)
  | (((with_reducible refine' r_listD hA ?g1 ?_); (case g1 => walk_at "nm")); intro p H hA)
  | (((with_reducible refine' r_tuple hA ?g1 ?_); (case g1 => walk_at "nh")); intro v H hA)
  | (((with_reducible refine' r_slT hA ?g1 ?_); (case g1 => walk_at "nm")); intro v H hA)
  | (((with_reducible refine' r_lstRev hA ?g1 ?_); (case g1 => walk_at "nh")); intro p H hA)
  | ((with_reducible refine' s_tup ?_); skip)
  | ((with_reducible refine' s_lst ?_); skip)
  | (((with_reducible refine' r_tup hA ?g1 ?g2 ?_); (case g1 => walk_at "na"); (case g2 => walk_at "nl")); intro v H hA)
  | (with_reducible refine' r_dnew hA ?_; intro p H hA)
  | (((with_reducible refine' r_fdO hA ?g1 ?g2 ?g3 ?g4 ?_); (case g1 => walk_at "nm"); (case g2 => walk_at "nf"); (case g3 => walk_at "nf"); (case g4 => rfl)); intro v hA)
  | (((with_reducible refine' r_fd hA ?g1 ?g2 ?g3 ?g4 ?_); (case g1 => walk_at "nm"); (case g2 => walk_at "nf"); (case g3 => walk_at "nf"); (case g4 => rfl)); intro v hA)
  | (with_reducible refine' i_dec (fun hc => ?_) (fun hc => ?_))
  | (with_reducible refine' i_ndec (fun hc => ?_) (fun hc => ?_))
  | (with_reducible refine' i_ne (fun hc => ?_) (fun hc => ?_))
  | (with_reducible refine' i_em (fun hc => ?_) (fun hc => ?_)))
/-! ### the two ways joined -/
def rwW (W : Wd) (k : Nat) : List Int := W.tk.getD k []
def scW (W : Wd) (ms : List Int) : List Nat := (List.range ms.length).filter fun i => decide (ms.getD i 0 < P26.tot (rwW W) (rdy W ms) i)
/-- the steps that are due -/
def dueS (W : Wd) (ms : List Int) : List (List Nat) := (P26.due (rwW W) ms (scW W ms) (rdy W ms)).map (·.1)
theorem rwW_nn {W : Wd} (o : W.Ok) (k i : Nat) : 0 ≤ (rwW W k).getD i 0 := by
  unfold rwW
  by_cases hk : k < W.tk.length
  · have hr := o.kr _ (List.getElem_mem hk)
    have e : W.tk.getD k [] = W.tk[k] := by simp [List.getElem?_eq_getElem hk]
    rw [e]
    by_cases hi : i < (W.tk[k]).length
    · have e2 : (W.tk[k]).getD i 0 = (W.tk[k])[i] := by simp [List.getElem?_eq_getElem hi]
      rw [e2]
      exact (hr.2 _ (List.getElem_mem hi)).1
    · have e2 : (W.tk[k]).getD i 0 = 0 := by simp [List.getElem?_eq_none (Nat.le_of_not_lt hi)]
      rw [e2]
      decide
  · have e : W.tk.getD k [] = [] := by simp [List.getElem?_eq_none (Nat.le_of_not_lt hk)]
    rw [e]
    exact Int.le_refl 0
theorem rdy_mem {W : Wd} {ms : List Int} {k : Nat} : k ∈ rdy W ms ↔ k < W.ts.length ∧ cov ms (rwW W k) = true := by
  unfold rdy
  rw [List.mem_filter, List.mem_range]
  rfl
theorem rdy_pw {W : Wd} {ms : List Int} : (rdy W ms).Pairwise (· < ·) := List.pairwise_lt_range.sublist List.filter_sublist
theorem rdy_nd {W : Wd} {ms : List Int} : (rdy W ms).Nodup := List.nodup_range.sublist List.filter_sublist
theorem rwW_len {W : Wd} (o : W.Ok) {ms : List Int} (hm : MkOk W.ps.length ms) {k : Nat} (hk : k < W.ts.length) : (rwW W k).length = ms.length := by
  have hk' : k < W.tk.length := by rw [o.kl]; exact hk
  have e : rwW W k = W.tk[k] := by unfold rwW; simp [List.getElem?_eq_getElem hk']
  rw [e, hm.1]
  exact (o.kr _ (List.getElem_mem hk')).1
theorem ms_nn {n : Nat} {ms : List Int} (hm : MkOk n ms) (i : Nat) (hi : i < ms.length) : 0 ≤ ms.getD i 0 := by
  have e : ms.getD i 0 = ms[i] := by simp [List.getElem?_eq_getElem hi]
  rw [e]
  exact hm.2 _ (List.getElem_mem hi)
theorem pst_ok {W : Wd} (o : W.Ok) {ms : List Int} (hm : MkOk W.ps.length ms) {p : List Nat} (hp : ∀ k ∈ p, k < W.ts.length) : P26.PstR (rwW W) ms p := P26.pst_mem (rw := rwW W) (rwW_nn o) (fun i hi => ms_nn hm i hi) p fun k hk => rwW_len o hm (hp k hk)
theorem due_ok {W : Wd} (o : W.Ok) {ms : List Int} (hm : MkOk W.ps.length ms) {r : List Nat} (hr : r.Sublist (rdy W ms)) : P26.DueR (rwW W) ms (scW W ms) r := P26.due_mem (rw := rwW W) (ms := ms) (sc := scW W ms) (rwW_nn o) r fun k hk i hi => by
  obtain ⟨h1, h2⟩ := rdy_mem.mp (hr.subset hk)
  have hi' : i < ms.length := by
    unfold scW at hi
    exact List.mem_range.mp (List.mem_filter.mp hi).1
  exact (P26.cov_iff (rwW_len o hm h1).symm).mp h2 i hi'
theorem dueS_lt {W : Wd} (o : W.Ok) {ms : List Int} (hm : MkOk W.ps.length ms) : (dueS W ms).Pairwise (· < ·) :=
  P26.due_lt _ rdy_pw (fun f hf => ⟨((due_ok o hm (.refl _)).1 f hf).1, ((due_ok o hm (.refl _)).1 f hf).2.1⟩) fun q s f hf => ⟨((due_ok o hm s).1 f hf).1, ((due_ok o hm s).1 f hf).2.1⟩
theorem dueS_sub {W : Wd} (o : W.Ok) {ms : List Int} (hm : MkOk W.ps.length ms) {S : List Nat} (h : S ∈ dueS W ms) : S ≠ [] ∧ ∀ k ∈ S, k < W.ts.length := by
  obtain ⟨f, hf, rfl⟩ := List.mem_map.mp h
  obtain ⟨a, b, _⟩ := (due_ok o hm (.refl _)).1 f hf
  exact ⟨a, fun k hk => (rdy_mem.mp (b.subset hk)).1⟩
/-- both ways find the same sets -/
theorem same_steps {W : Wd} (o : W.Ok) {ms : List Int} (hm : MkOk W.ps.length ms) : (dueS W ms).Perm (((P26.pst (rwW W) ms (rdy W ms)).filter fun f => !f.1.isEmpty).map (·.1)) := by
  have hp := pst_ok o hm (p := rdy W ms) fun k hk => (rdy_mem.mp hk).1
  have hd := due_ok o hm (r := rdy W ms) (.refl _)
  refine (List.perm_ext_iff_of_nodup ?_ ?_).mpr fun S => ?_
  · rw [List.nodup_iff_pairwise_ne]
    exact (dueS_lt o hm).imp fun {a b} h (e : a = b) => List.lt_irrefl b (e ▸ h)
  · exact (List.filter_sublist.map _).nodup (P26.pst_nd _ rdy_nd)
  · constructor
    · intro h
      obtain ⟨f, hf, rfl⟩ := List.mem_map.mp h
      obtain ⟨a, b, c, _⟩ := hd.1 f hf
      have hF : P26.Fits (rwW W) ms f.1 := fun i hi => by
        by_cases hs : i ∈ scW W ms
        · exact c i hs
        · have h1 : ¬ ms.getD i 0 < P26.tot (rwW W) (rdy W ms) i := fun h => hs (List.mem_filter.mpr ⟨List.mem_range.mpr hi, decide_eq_true h⟩)
          have h2 := P26.tot_sub (rwW_nn o) b i
          omega
      obtain ⟨l, hl⟩ := hp.2 f.1 b hF
      refine List.mem_map.mpr ⟨(f.1, l), List.mem_filter.mpr ⟨hl, ?_⟩, rfl⟩
      cases e : f.1 with
      | nil => exact absurd e a
      | cons x r => simp [e]
    · intro h
      obtain ⟨f, hf, rfl⟩ := List.mem_map.mp h
      obtain ⟨hf1, hf2⟩ := List.mem_filter.mp hf
      obtain ⟨a, b, _⟩ := hp.1 f hf1
      refine List.mem_map.mpr ⟨_, hd.2 f.1 (fun e => by rw [e] at hf2; cases hf2) a (fun i hi => b i ?_), rfl⟩
      unfold scW at hi
      exact List.mem_range.mp (List.mem_filter.mp hi).1
/-! ### what is told of a step -/
def nmT (W : Wd) (S : List Nat) : D := .tup (S.map fun k => D.str (nm W.ts k))
def pairD (W : Wd) (f : List Nat × List Int) : D := .tup [nmT W f.1, .tup (f.2.map D.int)]
theorem nm_lt {W : Wd} (o : W.Ok) {j k : Nat} (h : j < k) (hk : k < W.ts.length) : SLt (nm W.ts j) (nm W.ts k) := by
  have hj : j < W.ts.length := by omega
  have e1 : nm W.ts j = W.ts[j] := by simp [nm, List.getElem?_eq_getElem hj]
  have e2 : nm W.ts k = W.ts[k] := by simp [nm, List.getElem?_eq_getElem hk]
  rw [e1, e2]
  exact List.pairwise_iff_getElem.mp o.tp j k hj hk h
theorem names_lt {W : Wd} (o : W.Ok) : ∀ {S T : List Nat}, S < T → (∀ k ∈ S, k < W.ts.length) → (∀ k ∈ T, k < W.ts.length) → PySem.W.listLt (S.map (nm W.ts)) (T.map (nm W.ts)) = true
  | [], [], h, _, _ => absurd h (List.lt_irrefl _)
  | [], _ :: _, _, _, _ => rfl
  | _ :: _, [], h, _, _ => absurd h (List.not_lt_nil _)
  | x :: S, y :: T, h, h1, h2 => by
    rw [List.map_cons, List.map_cons, PySem.W.listLt]
    rcases List.cons_lt_cons_iff.mp h with h' | ⟨rfl, h'⟩
    · have l := nm_lt o h' (h2 y List.mem_cons_self)
      rw [if_neg (fun e => SLt.irr _ (e ▸ l))]
      exact decide_eq_true l
    · rw [if_pos rfl]
      exact names_lt o h' (fun k hk => h1 k (List.mem_cons_of_mem _ hk)) fun k hk => h2 k (List.mem_cons_of_mem _ hk)
abbrev SM := Tup PySem.Str × Tup Int
def smF : SM → D := prF (tupF D.str) (tupF D.int)
theorem smF_ok : DatF smF := (DatF.tup .str).pr (DatF.tup .int)
def toSM (W : Wd) (f : List Nat × List Int) : SM := (⟨f.1.map (nm W.ts)⟩, ⟨f.2⟩)
theorem pairD_eq (W : Wd) (l : List (List Nat × List Int)) : l.map (pairD W) = (l.map (toSM W)).map smF := by
  rw [List.map_map]
  refine List.map_congr_left fun f _ => ?_
  show pairD W f = D.tup [D.tup ((f.1.map (nm W.ts)).map D.str), D.tup (f.2.map D.int)]
  rw [List.map_map]
  rfl
end K26
set_option maxRecDepth 100000
set_option maxHeartbeats 4000000
namespace K26
open PySem PySem.Spec PyProof.Rows L2 Nw
open PySem.W (Datum DatumOrd Tup)
set_option hygiene false in
local macro_rules | `(tactic| walk_at "nf") => `(tactic| first | exact B.n_cls | exact B.n_places | exact B.n_transitions | exact B.n_start | exact B.n_index | exact B.n_takes | exact B.n_gives | exact B.n_takers | exact B.n_givers | exact B.n_labels)
local macro_rules | `(tactic| walk_at "nm") => `(tactic| first | exact .head _ | exact .tail _ (.head _) | exact .tail _ (.tail _ (.head _)) | exact .tail _ (.tail _ (.tail _ (.head _))) | exact .tail _ (.tail _ (.tail _ (.tail _ (.head _)))) | exact .tail _ (.tail _ (.tail _ (.tail _ (.tail _ (.head _))))) | exact .tail _ (.tail _ (.tail _ (.tail _ (.tail _ (.tail _ (.head _)))))) | exact List.mem_append_right _ (.head _) | exact List.mem_append_right _ (.tail _ (.head _)) | exact .tail _ (List.mem_append_right _ (.head _)) | exact .tail _ (.tail _ (List.mem_append_right _ (.head _))) | exact .tail _ (.tail _ (.tail _ (List.mem_append_right _ (.head _)))) | (repeat (first | assumption | refine List.mem_cons_of_mem _ ?_)))
set_option hygiene false in
local macro_rules | `(tactic| walk_at "dr") => `(tactic| repeat (first | exact hA | apply At.drop))
local macro_rules | `(tactic| walk_at "mm") => `(tactic| repeat (first | assumption | exact List.mem_cons_self | refine List.mem_cons_of_mem _ ?_))
local macro_rules | `(tactic| walk_at "nb") => `(tactic| first | exact isT_int_int | exact isT_int_bool | exact isT_int_str | exact isT_int_list | exact isT_int_tuple | exact isT_bool_int | exact isT_bool_bool | exact isT_bool_str | exact isT_bool_list | exact isT_bool_tuple | exact isT_str_int | exact isT_str_bool | exact isT_str_str | exact isT_str_list | exact isT_str_tuple | exact isT_NoneType_int | exact isT_NoneType_bool | exact isT_NoneType_str | exact isT_NoneType_list | exact isT_NoneType_tuple | exact isT_list_int | exact isT_list_bool | exact isT_list_str | exact isT_list_list | exact isT_list_tuple | exact isT_tuple_int | exact isT_tuple_bool | exact isT_tuple_str | exact isT_tuple_list | exact isT_tuple_tuple | decide +kernel)
local macro_rules | `(tactic| walk_at "ni") => `(tactic| first | exact InR.mem (by walk_at "nm") | exact InR.sc | assumption)
local macro_rules | `(tactic| walk_at "nc") => `(tactic| first | omega | decide | (unfold CMul; omega) | (unfold CDiv; omega) | (unfold CPow; omega) | (unfold CPow; decide))
local macro_rules | `(tactic| walk_at "nl") => `(tactic| first | omega | decide | (simp only [List.length_cons, List.length_nil, List.length_append, List.length_map, List.length_set]; omega) | (simp; omega))
local macro_rules | `(tactic| walk_at "nh") => `(tactic| first | exact HasL.r (by walk_at "nm") | exact HasL.o (by walk_at "nm") | assumption)
local macro_rules | `(tactic| walk_at "na") => `(tactic| first | exact AllR.nil | (refine AllR.cons (by walk_at "ni") ?_; walk_at "na"))
local macro_rules | `(tactic| walk_at "nt") => `(tactic| first | exact HasTy.int _ | exact HasTy.str _ | exact HasTy.bl _ | exact HasTy.non | exact HasTy.lst (by walk_at "nm") | exact HasTy.tup (by walk_at "nm") | exact HasTy.own (by walk_at "nm"))
set_option hygiene false in
local macro_rules | `(tactic| walk_at "nw") => `(tactic| first
  | (with_reducible refine' s_seq ?_)
  | (with_reducible refine' s_asg ?_)
  | (with_reducible refine' s_name ?_)
  | (with_reducible refine' s_ret ?_)
  | (with_reducible refine' s_drop ?_)
  | (with_reducible refine' s_next ?_)
  | (with_reducible refine' s_op ?_)
  | (with_reducible refine' s_un ?_)
  | (with_reducible refine' s_c ?_)
  | (with_reducible refine' s_cons ?_)
  | (with_reducible refine' s_nil ?_)
  | (with_reducible refine' s_cb ?_)
  | (with_reducible refine' s_call ?_)
  | (with_reducible refine' s_callS ?_)
  | (with_reducible refine' s_test ?_)
  | (with_reducible refine' s_tb ?_)
  | (with_reducible refine' s_bl ?_)
  | (with_reducible refine' s_not ?_)
  | (with_reducible refine' s_if ?_)
  | (with_reducible refine' s_ifE ?_)
  | (with_reducible refine' s_and ?_)
  | (with_reducible refine' s_or ?_)
  | (with_reducible refine' s_andV ?_)
  | (with_reducible refine' s_orV ?_)
  | (with_reducible refine' s_notV ?_)
  | (with_reducible refine' s_sub ?_)
  | (with_reducible refine' s_chain ?_)
  | (with_reducible refine' s_sl ?_)
  | (with_reducible refine' s_noPart ?_)
  | (with_reducible refine' s_part ?_)
  | (with_reducible refine' r_part ?_)
  | (with_reducible refine' s_m1 ?_)
  | (with_reducible refine' s_fldQ ?_)
  | (with_reducible refine' s_setF ?_)
  | (with_reducible refine' s_cvalQ ?_)
  | (with_reducible refine' s_lstRev ?_)
  | (with_reducible refine' s_dgetQ ?_)
  | (with_reducible refine' s_din ?_)
  | (with_reducible refine' s_dnotin ?_)
  | (with_reducible refine' s_dput ?_)
  | (with_reducible refine' s_dget2Q ?_)
  | (with_reducible refine' s_mkX1 ?_)
  | (with_reducible refine' s_make ?_)
  | (with_reducible refine' s_lstRg ?_)
  | (with_reducible refine' s_tru ?_)
  | (with_reducible refine' s_star ?_)
  | (with_reducible refine' s_xf ?_)
  | (with_reducible refine' s_yes ?_)
  | (with_reducible refine' r_I0 ?_)
  | (with_reducible refine' r_U ?_)
  | (with_reducible refine' r_eqI ?_)
  | (with_reducible refine' r_neI ?_)
  | (with_reducible refine' r_eqS ?_)
  | (with_reducible refine' r_neS ?_)
  | (with_reducible refine' n_isR ?_)
  | (with_reducible refine' n_isN ?_)
  | (with_reducible refine' n_isI ?_)
  | (with_reducible refine' n_isS ?_)
  | (with_reducible refine' n_isB ?_)
  | (with_reducible refine' n_ntR ?_)
  | (with_reducible refine' n_ntN ?_)
  | (with_reducible refine' n_ntI ?_)
  | (with_reducible refine' n_ntS ?_)
  | (with_reducible refine' n_ntB ?_)
  | (with_reducible refine' i_t ?_)
  | (with_reducible refine' i_f ?_)
  | (with_reducible refine' i_nt ?_)
  | (with_reducible refine' i_nf ?_)
  | ((with_reducible refine' s_var ?g1 ?_); (case g1 => rfl))
  | ((with_reducible refine' r_I ?g1 ?_); (case g1 => walk_at "nc"))
  | ((with_reducible refine' w_int ?_))
  | ((with_reducible refine' w_abs ?_))
  | ((with_reducible refine' r_max2 ?_))
  | ((with_reducible refine' r_lenS ?g1 ?_); (case g1 => walk_at "nl"))
  | ((with_reducible refine' r_addS ?g1 ?_); (case g1 => walk_at "nl"))
  | ((with_reducible refine' r_slS ?g1 ?_); (case g1 => walk_at "nl"))
  | ((with_reducible refine' r_inS ?_))
  | ((with_reducible refine' r_ixOs hA ?g1 ?g2 ?g3 ?_); (case g1 => walk_at "nm"); (case g2 => walk_at "nc"); (case g3 => rfl))
  | ((with_reducible refine' r_ixLs hA ?g1 ?g2 ?g3 ?_); (case g1 => walk_at "nm"); (case g2 => walk_at "nc"); (case g3 => rfl))
  | ((with_reducible refine' r_ixTs hA ?g1 ?g2 ?g3 ?_); (case g1 => walk_at "nm"); (case g2 => walk_at "nc"); (case g3 => rfl))
  | (((with_reducible refine' r_ixO hA ?g1 ?g2 ?g3 ?_); (case g1 => walk_at "nm"); (case g2 => walk_at "nc"); (case g3 => rfl)); intro v hA)
  | (((with_reducible refine' r_ixL hA ?g1 ?g2 ?g3 ?_); (case g1 => walk_at "nm"); (case g2 => walk_at "nc"); (case g3 => rfl)); intro v hA)
  | (((with_reducible refine' r_ixT hA ?g1 ?g2 ?g3 ?_); (case g1 => walk_at "nm"); (case g2 => walk_at "nc"); (case g3 => rfl)); intro v hA)
  | ((with_reducible refine' r_lenO hA ?g1 ?_); (case g1 => walk_at "nm"))
  | ((with_reducible refine' r_lenL hA ?g1 ?_); (case g1 => walk_at "nm"))
  | ((with_reducible refine' r_lenT hA ?g1 ?_); (case g1 => walk_at "nm"))
  | ((with_reducible refine' r_lenD hA ?g1 ?_); (case g1 => walk_at "nm"))
  | ((with_reducible refine' r_tqT hA ?g1 ?_); (case g1 => walk_at "nm"))
  | (((with_reducible refine' w_setL [] (o := .non) hA ?g1 ?g2 ?g3 ?_); (case g1 => walk_at "ni"); (case g2 => walk_at "nc"); (case g3 => walk_at "nl")); (try clear hA); intro H hA; dsimp only [List.set, Int.toNat, List.cons_append, List.nil_append] at hA)
  | (((with_reducible refine' w_setL [_] (o := .non) hA ?g1 ?g2 ?g3 ?_); (case g1 => walk_at "ni"); (case g2 => walk_at "nc"); (case g3 => walk_at "nl")); (try clear hA); intro H hA; dsimp only [List.set, Int.toNat, List.cons_append, List.nil_append] at hA)
  | (((with_reducible refine' w_setL [_, _] (o := .non) hA ?g1 ?g2 ?g3 ?_); (case g1 => walk_at "ni"); (case g2 => walk_at "nc"); (case g3 => walk_at "nl")); (try clear hA); intro H hA; dsimp only [List.set, Int.toNat, List.cons_append, List.nil_append] at hA)
  | (((with_reducible refine' w_setL [_, _, _] (o := .non) hA ?g1 ?g2 ?g3 ?_); (case g1 => walk_at "ni"); (case g2 => walk_at "nc"); (case g3 => walk_at "nl")); (try clear hA); intro H hA; dsimp only [List.set, Int.toNat, List.cons_append, List.nil_append] at hA)
  | ((with_reducible refine' s_bm ?_); skip)
  | (((with_reducible refine' w_append [] hA ?g1 ?g2 ?_); (case g1 => walk_at "ni"); (case g2 => walk_at "nl")); (try clear hA); intro H hA; dsimp only [List.set, Int.toNat, List.cons_append, List.nil_append] at hA)
  | (((with_reducible refine' w_append [_] hA ?g1 ?g2 ?_); (case g1 => walk_at "ni"); (case g2 => walk_at "nl")); (try clear hA); intro H hA; dsimp only [List.set, Int.toNat, List.cons_append, List.nil_append] at hA)
  | (((with_reducible refine' w_append [_, _] hA ?g1 ?g2 ?_); (case g1 => walk_at "ni"); (case g2 => walk_at "nl")); (try clear hA); intro H hA; dsimp only [List.set, Int.toNat, List.cons_append, List.nil_append] at hA)
  | (((with_reducible refine' w_append [_, _, _] hA ?g1 ?g2 ?_); (case g1 => walk_at "ni"); (case g2 => walk_at "nl")); (try clear hA); intro H hA; dsimp only [List.set, Int.toNat, List.cons_append, List.nil_append] at hA)
  | ((with_reducible refine' ⟨ty_lst hA ?g1, ?_⟩); (case g1 => walk_at "nm"))
  | ((with_reducible refine' r_isi hA ?g1 ?g2 ?_); (case g1 => walk_at "nt"); (case g2 => walk_at "nb"))
  | (((with_reducible refine' r_lstRg hA ?g1 ?g2 ?_); (case g1 => walk_at "nc"); (case g2 => walk_at "nc")); intro p H hA)
  | (((with_reducible refine' r_list hA ?g1 ?_); (case g1 => walk_at "nh")); intro p H hA)
  | (((with_reducible refine' r_slL hA ?g1 ?_); (case g1 => walk_at "nh")); intro p H hA)
  | (((with_reducible refine' r_listT hA ?g1 ?_); (case g1 => walk_at "nm")); intro p H hA)
  | (((with_reducible refine' r_listD hA ?g1 ?_); (case g1 => walk_at "nm")); intro p H hA)
  | (((with_reducible refine' r_tuple hA ?g1 ?_); (case g1 => walk_at "nh")); intro v H hA)
  | (((with_reducible refine' r_slT hA ?g1 ?_); (case g1 => walk_at "nm")); intro v H hA)
  | (((with_reducible refine' r_lstRev hA ?g1 ?_); (case g1 => walk_at "nh")); intro p H hA)
  | ((with_reducible refine' s_tup ?_); skip)
  | ((with_reducible refine' s_lst ?_); skip)
  | (((with_reducible refine' r_tup hA ?g1 ?g2 ?_); (case g1 => walk_at "na"); (case g2 => walk_at "nl")); intro v H hA)
  | (with_reducible refine' r_dnew hA ?_; intro p H hA)
  | (((with_reducible refine' r_fdO hA ?g1 ?g2 ?g3 ?g4 ?_); (case g1 => walk_at "nm"); (case g2 => walk_at "nf"); (case g3 => walk_at "nf"); (case g4 => rfl)); intro v hA)
  | (((with_reducible refine' r_fd hA ?g1 ?g2 ?g3 ?g4 ?_); (case g1 => walk_at "nm"); (case g2 => walk_at "nf"); (case g3 => walk_at "nf"); (case g4 => rfl)); intro v hA)
  | (with_reducible refine' i_dec (fun hc => ?_) (fun hc => ?_))
  | (with_reducible refine' i_ndec (fun hc => ?_) (fun hc => ?_))
  | (with_reducible refine' i_ne (fun hc => ?_) (fun hc => ?_))
  | (with_reducible refine' i_em (fun hc => ?_) (fun hc => ?_)))
theorem sm_lt {W : Wd} (o : W.Ok) {a b : List Nat × List Int} (h : a.1 < b.1) (h1 : ∀ k ∈ a.1, k < W.ts.length) (h2 : ∀ k ∈ b.1, k < W.ts.length) : DatumOrd.lt (toSM W a) (toSM W b) = true := by
  have l := names_lt o h h1 h2
  show (if (⟨a.1.map (nm W.ts)⟩ : Tup PySem.Str) = ⟨b.1.map (nm W.ts)⟩ then DatumOrd.lt (⟨a.2⟩ : Tup Int) ⟨b.2⟩ else DatumOrd.lt (⟨a.1.map (nm W.ts)⟩ : Tup PySem.Str) ⟨b.1.map (nm W.ts)⟩) = true
  rw [if_neg]
  · exact l
  · intro e
    have e1 : a.1.map (nm W.ts) = b.1.map (nm W.ts) := congrArg Tup.items e
    rw [e1] at l
    have irr : ∀ x : List PySem.Str, PySem.W.listLt x x = false := by
      intro x
      induction x with
      | nil => rfl
      | cons y r ih => rw [PySem.W.listLt, if_pos rfl, ih]
    rw [irr] at l
    cases l
section
variable {P : Program} {w : World} {K : PySem.W.Frag} {mg : PySem.Str → Option Value} {base : Heap}
def sp_steps_and_markings (K : PySem.W.Frag) : Sp := fun vs H Q E => ∃ (R : RL) (L : LL) (nv mv : V) (W : Wd) (ms : List Int), vs = [nv, mv] ∧ At R L H ∧ (W.Ok) ∧ (NetAt K W R nv) ∧ ((D.tup (ms.map D.int), mv) ∈ R) ∧ (MkOk W.ps.length ms) ∧ (12 < (rdy W ms).length → ∀ d H', At R ((d, OD.xd [("limit", D.int 12)]) :: L) H' → E (.ref (He.ga K "TooLarge")) (some d) H') ∧ ((rdy W ms).length ≤ 12 → ∀ p (l : List (List Nat × List Int)) H', l.map (·.1) = dueS W ms → At R ((p, OD.lst (l.map (pairD W))) :: L) H' → Q (.ref p) H')
theorem r_sm {R : RL} {L : LL} {H : Hp} {Q : VK} {E : XK} {nv mv : V} {W : Wd} {ms : List Int} (hA : At R L H) (o : W.Ok) (m : NetAt K W R nv) (m2 : (D.tup (ms.map D.int), mv) ∈ R) (hm : MkOk W.ps.length ms) (e : 12 < (rdy W ms).length → ∀ d H', At R ((d, OD.xd [("limit", D.int 12)]) :: L) H' → E (.ref (He.ga K "TooLarge")) (some d) H') (q : (rdy W ms).length ≤ 12 → ∀ p (l : List (List Nat × List Int)) H', l.map (·.1) = dueS W ms → At R ((p, OD.lst (l.map (pairD W))) :: L) H' → Q (.ref p) H') : sp_steps_and_markings K [nv, mv] H Q E := ⟨R, L, nv, mv, W, ms, rfl, hA, o, m, m2, hm, e, q⟩
set_option hygiene false in
local macro_rules | `(tactic| walk_at "term steps_and_markings") => `(tactic| refine ⟨_, (pss_cons (ps_set (i := 2) sc_steps_and_markings.nd rfl (Or.inl rfl) (pe_fn (F_enabled_names (P := P) (K := K) (mg := mg) B) hr (by decide) passL rfl (pa_cons (pv 0) (pa_cons (pv 1) pa_nil))))
  (pss_cons (ps_if (pt_cmpR op_gt (pe_callB (call_len_seqK K rfl) (by rfl) B.T.len (by decide +kernel) (pa_cons (pv 2) pa_nil)) (pe_gint rfl B.c_MOST_TOGETHER) (nomark _))
  (pss_one (ps_raise rfl (takes_of rfl rfl rfl rfl) (pmk_x1 B.x_TooLarge (hr.mono (by decide)) rfl (pe_gint rfl B.c_MOST_TOGETHER))))
  pss_nil)
  (pss_cons (ps_set (i := 3) sc_steps_and_markings.nd rfl (Or.inl rfl) (pe_lst (pa_cons (pe_tup (pa_cons (pe_tup pa_nil) (pa_cons (pv 1) pa_nil))) pa_nil)))
  (pss_cons (ps_for (passes_of rfl) rfl (pi_listK K rfl (pv 2)) (pg_name (i := 4) sc_steps_and_markings.nd rfl (Or.inl rfl))
  (pss_one (ps_for (passes_of rfl) rfl (pi_listK K rfl (pe_callTy (call_list_ofK K rfl) (by rfl) B.T.list (by decide +kernel) (pa_cons (pv 3) pa_nil))) (pg_tupK K rfl (n := 2) rfl (pgs_cons (pg_name (i := 5) sc_steps_and_markings.nd rfl (Or.inl rfl)) (pgs_cons (pg_name (i := 6) sc_steps_and_markings.nd rfl (Or.inl rfl)) pgs_nil)))
  (pss_one (ps_if (pt_val (pe_fn (F_is_enabled (P := P) (K := K) (mg := mg) B) hr (by decide) passL rfl (pa_cons (pv 0) (pa_cons (pv 6) (pa_cons (pv 4) pa_nil)))))
  (pss_one (ps_expr (pe_bm PySem.F.plainAttrs_list PySem.F.slot_list_append PySem.F.type_list_append mt_append (pv 3) (pa_cons (pe_tup (pa_cons (pe_tup (pa_starK K rfl (pv 5) (pa_cons (pv 4) pa_nil))) (pa_cons (pe_fn (F_without_inputs (P := P) (K := K) (mg := mg) B) hr (by decide) passL rfl (pa_cons (pv 0) (pa_cons (pv 6) (pa_cons (pv 4) pa_nil)))) pa_nil))) pa_nil))))
  pss_nil)))))
  (pss_one (ps_ret (pe_callB (cr_sortNK K rfl (hu_le hr (by decide))) (by rfl) B.T.sorted (by decide +kernel) (pa_cons (pe_lc (own := [("step", 7), ("left", 6)]) rfl sc_steps_and_markings.nd (pi_listK K rfl (pv 3)) (blkOk_by (own := [("step", 7), ("left", 6)]) (N := n_steps_and_markings) (sc := defScope s_steps_and_markings) (by decide +kernel)) (fun _ _ _ _ _ => (pg_tupK K rfl (n := 2) rfl (pgs_cons (pg_name (i := 7) sc_steps_and_markings.nd rfl (Or.inl rfl)) (pgs_cons (pg_name (i := 6) sc_steps_and_markings.nd rfl (Or.inl rfl)) pgs_nil)))) (fun _ _ _ _ _ => (pts_one (pt_truthK K rfl (pv 7) (by intro _; rfl)))) (fun _ _ _ _ _ => (pe_tup (pa_cons (pv 7) (pa_cons (pe_fn (F_with_outputs (P := P) (K := K) (mg := mg) B) hr (by decide) passL rfl (pa_cons (pv 0) (pa_cons (pv 6) (pa_cons (pv 7) pa_nil)))) pa_nil))))) pa_nil)))))))), ?_⟩)
theorem F_steps_and_markings (B : Bun P K mg) : Fn P w K mg base 5 "steps_and_markings" ["net", "marking"] (sp_steps_and_markings K) := by
  refine B.d_steps_and_markings.fn (k := 4) sc_steps_and_markings (fun vs H Q E h => ?_) (fun _ _ _ _ _ _ us hl => match us, hl with | [_, _], _ => rfl) fun f cdv A outer s H vs Q E hr h => ?_
  · obtain ⟨_, _, _, _, _, _, rfl, _⟩ := h
    rfl
  · obtain ⟨R, L, nv, mv, W, ms, rfl, hA, o, m, m2, hm, e, q⟩ := h
    have t60 := o.tl
    walk_at "term steps_and_markings"
    repeat' walk_at "nw"
    refine r_ennames hA o m m2 hm fun u H hA => ?_
    repeat' walk_at "nw"
    · rw [List.length_map] at hc
      exact r_raise1 B.x_TooLarge hA.drop .sc fun d H hA => e (by omega) d H hA
    · rw [List.length_map] at hc
      refine r_tup hA (ds := [.tup [], .tup (ms.map D.int)]) (.cons (.mem (.head _)) (.cons (.mem (.tail _ (.tail _ m2))) .nil)) (by show 2 ≤ 1000000; decide) fun pv H hA => ?_
      repeat' walk_at "nw"
      refine r_lst hA (ds := [([], ms)].map (pairD W)) (.cons (.mem (.head _)) .nil) (by show 1 ≤ 1000000; decide) fun fp H hA => ?_
      have hA := hA.drop.drop
      repeat' walk_at "nw"
      refine s_for (s_iList (s_var rfl (src_lst hA (.head _) fun a ea W1 => for_D W1 hA (fun i σ L' => (∃ c c1 c2, σ = [some nv, some mv, some u, some (.ref fp), c, c1, c2, none]) ∧ L' = (fp, .lst ((P26.pst (rwW W) ms ((rdy W ms).take i)).map (pairD W))) :: L) ?_ ?_ ?_ ?_)))
      · exact ⟨⟨_, _, _, rfl⟩, rfl⟩
      · exact fun _ _ _ _ => True.intro
      · rintro i d v σ L1 H hd ⟨⟨c, c1, c2, rfl⟩, rfl⟩ hA
        rw [List.getElem?_map, Option.map_eq_some_iff] at hd
        obtain ⟨k, hk, rfl⟩ := hd
        obtain rfl : v = .str (nm W.ts k) := hA.sc_of
        replace hA := hA.drop
        have hkm := rdy_mem.mp (List.mem_of_getElem? hk)
        have hrow : W.tk[k]? = some (rwW W k) := get_D (by rw [o.kl]; exact hkm.1)
        repeat' walk_at "nw"
        refine s_for (s_iList ?_)
        repeat' walk_at "nw"
        rename Addr => lp
        have hA := hA.frzLst
        obtain ⟨F, hF⟩ : ∃ F, F = P26.pst (rwW W) ms ((rdy W ms).take i) := ⟨_, rfl⟩
        rw [← hF] at hA
        have hok := pst_ok o hm (p := (rdy W ms).take i) fun k hk => (rdy_mem.mp (List.mem_of_mem_take hk)).1
        have hFl : F.length ≤ 4096 := by
          have := P26.pst_len (rw := rwW W) (ms := ms) ((rdy W ms).take i)
          rw [← hF] at this
          refine Nat.le_trans this ?_
          exact Nat.pow_le_pow_right (by decide) (show ((rdy W ms).take i).length ≤ 12 by rw [List.length_take]; omega)
        rw [P26.PstR, ← hF] at hok
        refine src_lst hA (.head _) fun a2 ea2 W2 => for_D W2 hA (fun j σ L' => (∃ c1 c2, σ = [some nv, some mv, some u, some (.ref fp), some (.str (nm W.ts k)), c1, c2, none]) ∧ L' = (fp, .lst ((F ++ ((F.take j).filter fun f => P26.cov f.2 (rwW W k)).map fun f => (f.1 ++ [k], List.zipWith (· - ·) f.2 (rwW W k))).map (pairD W))) :: L) ?_ ?_ ?_ ?_
        · exact ⟨⟨_, _, rfl⟩, by simp⟩
        · exact fun _ _ _ _ => True.intro
        · rintro j d v σ L1 H hd ⟨⟨c1, c2, rfl⟩, rfl⟩ hA
          rw [List.getElem?_map, Option.map_eq_some_iff] at hd
          obtain ⟨f, hf, rfl⟩ := hd
          obtain ⟨f1, f2, f3, f4⟩ := hok.1 f (List.mem_of_getElem? hf)
          have hfm : MkOk W.ps.length f.2 := ⟨by rw [f3]; exact hm.1, fun x hx => by
            obtain ⟨i, hi, rfl⟩ := List.mem_iff_getElem.mp hx
            have h1 := f4 i (by rw [← f3]; exact hi)
            have h2 := f2 i (by rw [← f3]; exact hi)
            have e : f.2.getD i 0 = f.2[i] := by simp [List.getElem?_eq_getElem hi]
            omega⟩
          unfold pairD at hA
          refine r_gtup2 hA (.head _) fun x1 x2 hA => ?_
          repeat' walk_at "nw"
          refine r_enabled hA o (m.mono fun x hx => by walk_at "mm") (by walk_at "mm") hfm (nm_get hkm.1) hrow fun H hA => ?_
          have hsn : (F.take (j + 1)).filter (fun f => P26.cov f.2 (rwW W k)) = (F.take j).filter (fun f => P26.cov f.2 (rwW W k)) ++ if P26.cov f.2 (rwW W k) = true then [f] else [] := by
            rw [take_snoc hf, List.filter_append, List.filter_cons, List.filter_nil]
          cases hcv : cov f.2 (rwW W k) with
          | true =>
            have hcv' : P26.cov f.2 (rwW W k) = true := hcv
            rw [if_pos hcv'] at hsn
            repeat' walk_at "nw"
            have hS60 : f.1.length ≤ 60 := by
              have h1 := f1.length_le
              have h2 := (List.filter_sublist (p := fun k => cov ms (W.tk.getD k [])) (l := List.range W.ts.length)).length_le
              rw [List.length_range] at h2
              rw [List.length_take] at h1
              have h3 : (rdy W ms).length ≤ W.ts.length := h2
              omega
            refine r_starT hA (by walk_at "mm") fun xs hxs hA => ?_
            repeat' walk_at "nw"
            refine r_tup hA (ds := (f.1 ++ [k]).map fun k => D.str (nm W.ts k)) (by rw [List.map_append]; exact hxs.append (.cons .sc .nil)) (by rw [List.length_map, List.length_append]; show f.1.length + 1 ≤ 1000000; omega) fun tv H hA => ?_
            repeat' walk_at "nw"
            refine r_without hA o (m.mono fun x hx => ?_) ?_ hfm.1 (nm_get hkm.1) hrow fun wv H hA => ?_
            · refine List.mem_cons_of_mem _ (List.mem_append_right _ ?_)
              walk_at "mm"
            · refine List.mem_cons_of_mem _ (List.mem_append_right _ ?_)
              walk_at "mm"
            repeat' walk_at "nw"
            refine r_tup hA (ds := [nmT W (f.1 ++ [k]), .tup ((subL f.2 (rwW W k)).map D.int)]) (.cons (.mem (.tail _ (.head _))) (.cons (.mem (.head _)) .nil)) (by show 2 ≤ 1000000; decide) fun qv H hA => ?_
            repeat' walk_at "nw"
            have hfl : ((F.take j).filter fun f => P26.cov f.2 (rwW W k)).length ≤ F.length := Nat.le_trans (List.length_filter_le _ _) (by rw [List.length_take]; omega)
            refine w_append [] hA (.mem (.head _)) (by rw [List.length_map, List.length_append, List.length_map]; omega) fun H hA => ?_
            refine ⟨_, ⟨⟨_, _, rfl⟩, ?_⟩, At.sub hA fun z hz => ?_⟩
            · rw [hsn, List.map_append (l₂ := [f]), ← List.append_assoc]
              simp only [List.map_append]
              rfl
            · refine .tail _ (.tail _ (.tail _ (List.mem_append_right _ ?_)))
              walk_at "mm"
          | false =>
            have hcv' : P26.cov f.2 (rwW W k) = false := hcv
            rw [hcv', if_neg Bool.false_ne_true, List.append_nil] at hsn
            repeat' walk_at "nw"
            refine ⟨_, ⟨⟨_, _, rfl⟩, ?_⟩, hA.drop.drop.drop⟩
            rw [hsn]
            rfl
        · rintro σ L1 H ⟨⟨c1, c2, rfl⟩, rfl⟩ hA
          rw [List.length_map, List.take_length] at hA
          refine ⟨_, ⟨⟨_, _, _, rfl⟩, ?_⟩, hA.drop⟩
          rw [take_snoc hk, P26.pst_snoc, P26.grow, ← hF]
      · rintro σ L1 H ⟨⟨c, c1, c2, rfl⟩, rfl⟩ hA
        rw [List.length_map, List.take_length] at hA
        obtain ⟨F, hF⟩ : ∃ F, F = P26.pst (rwW W) ms (rdy W ms) := ⟨_, rfl⟩
        have hsame := same_steps o hm
        have hok := pst_ok o hm (p := rdy W ms) fun k hk => (rdy_mem.mp hk).1
        rw [P26.PstR, ← hF] at hok
        rw [← hF] at hA hsame
        have hA := hA.drop.frzLst
        repeat' walk_at "nw"
        refine s_lc (s_iList (s_var rfl (src_lst hA (.head _) fun a2 ea2 W2 => lc_D W2 hA (fun j as L' => L' = L ∧ ∃ l : List (List Nat × List Int), as = l.map (pairD W) ∧ l.map (·.1) = ((F.take j).filter fun f => !f.1.isEmpty).map (·.1)) ?_ ?_ ?_ ?_)))
        · exact ⟨rfl, [], rfl, rfl⟩
        · exact fun _ _ _ _ _ => True.intro
        · rintro j d v as L1 H p2 hd ⟨rfl, l, rfl, hl⟩ hlen hA
          rw [List.getElem?_map, Option.map_eq_some_iff] at hd
          obtain ⟨f, hf, rfl⟩ := hd
          unfold pairD at hA
          refine r_gtup2 hA (.head _) fun x1 x2 hA => ?_
          refine ⟨rfl, ?_⟩
          obtain ⟨f1, f2, f3, f4⟩ := hok.1 f (List.mem_of_getElem? hf)
          have hj : j < F.length := (List.getElem?_eq_some_iff.mp hf).1
          have hFl : F.length ≤ 4096 := by
            have := P26.pst_len (rw := rwW W) (ms := ms) (rdy W ms)
            rw [← hF] at this
            exact Nat.le_trans this (Nat.pow_le_pow_right (show 0 < 2 by decide) (show (rdy W ms).length ≤ 12 by omega))
          have hsn : (F.take (j + 1)).filter (fun f => !f.1.isEmpty) = (F.take j).filter (fun f => !f.1.isEmpty) ++ if (!f.1.isEmpty) = true then [f] else [] := by
            rw [take_snoc hf, List.filter_append, List.filter_cons, List.filter_nil]
          repeat' walk_at "nw"
          · have hne : (!f.1.isEmpty) = true := by
              cases e : f.1 with
              | nil => rw [e] at hc; exact absurd rfl hc
              | cons x r => rfl
            rw [if_pos hne] at hsn
            refine r_with hA o (m.mono fun x hx => by walk_at "mm") (by walk_at "mm") (by walk_at "mm") (fun k hk => (rdy_mem.mp (f1.subset hk)).1) (by rw [f3]; exact hm.1) fun wv ns H hA => ?_
            repeat' walk_at "nw"
            refine r_tup hA (ds := [nmT W f.1, .tup (ns.map D.int)]) (.cons (.mem (.tail _ (.head _))) (.cons (.mem (.head _)) .nil)) (by show 2 ≤ 1000000; decide) fun qv H hA => ?_
            refine lc_end hA (fun z hz => by walk_at "mm") (.mem (.head _)) hlen (by omega) ⟨rfl, l ++ [(f.1, ns)], by rw [List.map_append]; rfl, ?_⟩
            rw [List.map_append, hl, hsn, List.map_append]
            rfl
          · have hne : (!f.1.isEmpty) = false := by
              cases e : f.1 with
              | nil => rfl
              | cons x r => rw [e] at hc; cases hc
            rw [hne, if_neg Bool.false_ne_true, List.append_nil] at hsn
            exact lc_no hA.drop.drop.drop hlen ⟨rfl, l, rfl, by rw [hl, hsn]⟩
        · rintro p2 as L1 H ⟨rfl, l, rfl, hl⟩ hlen hA
          rw [List.length_map, List.take_length] at hl
          repeat' walk_at "nw"
          rw [← hl] at hsame
          obtain ⟨m', hm1, hm2⟩ := perm_lift hsame
          rw [pairD_eq W l] at hA
          have hlt : m'.Pairwise fun a b => a.1 < b.1 := by
            have := dueS_lt o hm
            rw [← hm2, List.pairwise_map] at this
            exact this
          have hsub : ∀ a ∈ m', ∀ k ∈ a.1, k < W.ts.length := fun a ha => (dueS_sub o hm (by rw [← hm2]; exact List.mem_map.mpr ⟨a, ha, rfl⟩)).2
          refine r_sortF smF_ok (m := m'.map (toSM W)) hA (.o (.head _)) (by decide) (.inl fun a _ => ⟨_, _, rfl⟩) (hm1.map _) ?_ fun p3 H hA => ?_
          · rw [List.pairwise_map]
            exact List.Pairwise.imp_of_mem (fun {a b} ha hb h => sm_lt o h (hsub a ha) (hsub b hb)) hlt
          · rw [← pairD_eq W m'] at hA
            exact q (by omega) _ m' _ hm2 (hA.swap.forget.drop)
end
end K26
set_option maxRecDepth 100000
set_option maxHeartbeats 4000000
namespace K26
open PySem PySem.Spec PyProof.Rows L2 Nw
open PySem.W (Datum DatumOrd Tup)
set_option hygiene false in
local macro_rules | `(tactic| walk_at "nf") => `(tactic| first | exact B.n_cls | exact B.n_places | exact B.n_transitions | exact B.n_start | exact B.n_index | exact B.n_takes | exact B.n_gives | exact B.n_takers | exact B.n_givers | exact B.n_labels)
local macro_rules | `(tactic| walk_at "nm") => `(tactic| first | exact .head _ | exact .tail _ (.head _) | exact .tail _ (.tail _ (.head _)) | exact .tail _ (.tail _ (.tail _ (.head _))) | exact .tail _ (.tail _ (.tail _ (.tail _ (.head _)))) | exact .tail _ (.tail _ (.tail _ (.tail _ (.tail _ (.head _))))) | exact .tail _ (.tail _ (.tail _ (.tail _ (.tail _ (.tail _ (.head _)))))) | exact List.mem_append_right _ (.head _) | exact List.mem_append_right _ (.tail _ (.head _)) | exact .tail _ (List.mem_append_right _ (.head _)) | exact .tail _ (.tail _ (List.mem_append_right _ (.head _))) | exact .tail _ (.tail _ (.tail _ (List.mem_append_right _ (.head _)))) | (repeat (first | assumption | refine List.mem_cons_of_mem _ ?_)))
set_option hygiene false in
local macro_rules | `(tactic| walk_at "dr") => `(tactic| repeat (first | exact hA | apply At.drop))
local macro_rules | `(tactic| walk_at "mm") => `(tactic| repeat (first | assumption | exact List.mem_cons_self | refine List.mem_cons_of_mem _ ?_))
local macro_rules | `(tactic| walk_at "nb") => `(tactic| first | exact isT_int_int | exact isT_int_bool | exact isT_int_str | exact isT_int_list | exact isT_int_tuple | exact isT_bool_int | exact isT_bool_bool | exact isT_bool_str | exact isT_bool_list | exact isT_bool_tuple | exact isT_str_int | exact isT_str_bool | exact isT_str_str | exact isT_str_list | exact isT_str_tuple | exact isT_NoneType_int | exact isT_NoneType_bool | exact isT_NoneType_str | exact isT_NoneType_list | exact isT_NoneType_tuple | exact isT_list_int | exact isT_list_bool | exact isT_list_str | exact isT_list_list | exact isT_list_tuple | exact isT_tuple_int | exact isT_tuple_bool | exact isT_tuple_str | exact isT_tuple_list | exact isT_tuple_tuple | decide +kernel)
local macro_rules | `(tactic| walk_at "ni") => `(tactic| first | exact InR.mem (by walk_at "nm") | exact InR.sc | assumption)
local macro_rules | `(tactic| walk_at "nc") => `(tactic| first | omega | decide | (unfold CMul; omega) | (unfold CDiv; omega) | (unfold CPow; omega) | (unfold CPow; decide))
local macro_rules | `(tactic| walk_at "nl") => `(tactic| first | omega | decide | (simp only [List.length_cons, List.length_nil, List.length_append, List.length_map, List.length_set]; omega) | (simp; omega))
local macro_rules | `(tactic| walk_at "nh") => `(tactic| first | exact HasL.r (by walk_at "nm") | exact HasL.o (by walk_at "nm") | assumption)
local macro_rules | `(tactic| walk_at "na") => `(tactic| first | exact AllR.nil | (refine AllR.cons (by walk_at "ni") ?_; walk_at "na"))
local macro_rules | `(tactic| walk_at "nt") => `(tactic| first | exact HasTy.int _ | exact HasTy.str _ | exact HasTy.bl _ | exact HasTy.non | exact HasTy.lst (by walk_at "nm") | exact HasTy.tup (by walk_at "nm") | exact HasTy.own (by walk_at "nm"))
set_option hygiene false in
local macro_rules | `(tactic| walk_at "nw") => `(tactic| first
  | (with_reducible refine' s_seq ?_)
  | (with_reducible refine' s_asg ?_)
  | (with_reducible refine' s_name ?_)
  | (with_reducible refine' s_ret ?_)
  | (with_reducible refine' s_drop ?_)
  | (with_reducible refine' s_next ?_)
  | (with_reducible refine' s_op ?_)
  | (with_reducible refine' s_un ?_)
  | (with_reducible refine' s_c ?_)
  | (with_reducible refine' s_cons ?_)
  | (with_reducible refine' s_nil ?_)
  | (with_reducible refine' s_cb ?_)
  | (with_reducible refine' s_call ?_)
  | (with_reducible refine' s_callS ?_)
  | (with_reducible refine' s_test ?_)
  | (with_reducible refine' s_tb ?_)
  | (with_reducible refine' s_bl ?_)
  | (with_reducible refine' s_not ?_)
  | (with_reducible refine' s_if ?_)
  | (with_reducible refine' s_ifE ?_)
  | (with_reducible refine' s_and ?_)
  | (with_reducible refine' s_or ?_)
  | (with_reducible refine' s_andV ?_)
  | (with_reducible refine' s_orV ?_)
  | (with_reducible refine' s_notV ?_)
  | (with_reducible refine' s_sub ?_)
  | (with_reducible refine' s_chain ?_)
  | (with_reducible refine' s_sl ?_)
  | (with_reducible refine' s_noPart ?_)
  | (with_reducible refine' s_part ?_)
  | (with_reducible refine' r_part ?_)
  | (with_reducible refine' s_m1 ?_)
  | (with_reducible refine' s_fldQ ?_)
  | (with_reducible refine' s_setF ?_)
  | (with_reducible refine' s_cvalQ ?_)
  | (with_reducible refine' s_lstRev ?_)
  | (with_reducible refine' s_dgetQ ?_)
  | (with_reducible refine' s_din ?_)
  | (with_reducible refine' s_dnotin ?_)
  | (with_reducible refine' s_dput ?_)
  | (with_reducible refine' s_dget2Q ?_)
  | (with_reducible refine' s_mkX1 ?_)
  | (with_reducible refine' s_make ?_)
  | (with_reducible refine' s_lstRg ?_)
  | (with_reducible refine' s_tru ?_)
  | (with_reducible refine' s_star ?_)
  | (with_reducible refine' s_xf ?_)
  | (with_reducible refine' s_yes ?_)
  | (with_reducible refine' r_I0 ?_)
  | (with_reducible refine' r_U ?_)
  | (with_reducible refine' r_eqI ?_)
  | (with_reducible refine' r_neI ?_)
  | (with_reducible refine' r_eqS ?_)
  | (with_reducible refine' r_neS ?_)
  | (with_reducible refine' n_isR ?_)
  | (with_reducible refine' n_isN ?_)
  | (with_reducible refine' n_isI ?_)
  | (with_reducible refine' n_isS ?_)
  | (with_reducible refine' n_isB ?_)
  | (with_reducible refine' n_ntR ?_)
  | (with_reducible refine' n_ntN ?_)
  | (with_reducible refine' n_ntI ?_)
  | (with_reducible refine' n_ntS ?_)
  | (with_reducible refine' n_ntB ?_)
  | (with_reducible refine' i_t ?_)
  | (with_reducible refine' i_f ?_)
  | (with_reducible refine' i_nt ?_)
  | (with_reducible refine' i_nf ?_)
  | ((with_reducible refine' s_var ?g1 ?_); (case g1 => rfl))
  | ((with_reducible refine' r_I ?g1 ?_); (case g1 => walk_at "nc"))
  | ((with_reducible refine' w_int ?_))
  | ((with_reducible refine' w_abs ?_))
  | ((with_reducible refine' r_max2 ?_))
  | ((with_reducible refine' r_lenS ?g1 ?_); (case g1 => walk_at "nl"))
  | ((with_reducible refine' r_addS ?g1 ?_); (case g1 => walk_at "nl"))
  | ((with_reducible refine' r_slS ?g1 ?_); (case g1 => walk_at "nl"))
  | ((with_reducible refine' r_inS ?_))
  | ((with_reducible refine' r_ixOs hA ?g1 ?g2 ?g3 ?_); (case g1 => walk_at "nm"); (case g2 => walk_at "nc"); (case g3 => rfl))
  | ((with_reducible refine' r_ixLs hA ?g1 ?g2 ?g3 ?_); (case g1 => walk_at "nm"); (case g2 => walk_at "nc"); (case g3 => rfl))
  | ((with_reducible refine' r_ixTs hA ?g1 ?g2 ?g3 ?_); (case g1 => walk_at "nm"); (case g2 => walk_at "nc"); (case g3 => rfl))
  | (((with_reducible refine' r_ixO hA ?g1 ?g2 ?g3 ?_); (case g1 => walk_at "nm"); (case g2 => walk_at "nc"); (case g3 => rfl)); intro v hA)
  | (((with_reducible refine' r_ixL hA ?g1 ?g2 ?g3 ?_); (case g1 => walk_at "nm"); (case g2 => walk_at "nc"); (case g3 => rfl)); intro v hA)
  | (((with_reducible refine' r_ixT hA ?g1 ?g2 ?g3 ?_); (case g1 => walk_at "nm"); (case g2 => walk_at "nc"); (case g3 => rfl)); intro v hA)
  | ((with_reducible refine' r_lenO hA ?g1 ?_); (case g1 => walk_at "nm"))
  | ((with_reducible refine' r_lenL hA ?g1 ?_); (case g1 => walk_at "nm"))
  | ((with_reducible refine' r_lenT hA ?g1 ?_); (case g1 => walk_at "nm"))
  | ((with_reducible refine' r_lenD hA ?g1 ?_); (case g1 => walk_at "nm"))
  | ((with_reducible refine' r_tqT hA ?g1 ?_); (case g1 => walk_at "nm"))
  | (((with_reducible refine' w_setL [] (o := .non) hA ?g1 ?g2 ?g3 ?_); (case g1 => walk_at "ni"); (case g2 => walk_at "nc"); (case g3 => walk_at "nl")); (try clear hA); intro H hA; dsimp only [List.set, Int.toNat, List.cons_append, List.nil_append] at hA)
  | (((with_reducible refine' w_setL [_] (o := .non) hA ?g1 ?g2 ?g3 ?_); (case g1 => walk_at "ni"); (case g2 => walk_at "nc"); (case g3 => walk_at "nl")); (try clear hA); intro H hA; dsimp only [List.set, Int.toNat, List.cons_append, List.nil_append] at hA)
  | (((with_reducible refine' w_setL [_, _] (o := .non) hA ?g1 ?g2 ?g3 ?_); (case g1 => walk_at "ni"); (case g2 => walk_at "nc"); (case g3 => walk_at "nl")); (try clear hA); intro H hA; dsimp only [List.set, Int.toNat, List.cons_append, List.nil_append] at hA)
  | (((with_reducible refine' w_setL [_, _, _] (o := .non) hA ?g1 ?g2 ?g3 ?_); (case g1 => walk_at "ni"); (case g2 => walk_at "nc"); (case g3 => walk_at "nl")); (try clear hA); intro H hA; dsimp only [List.set, Int.toNat, List.cons_append, List.nil_append] at hA)
  | ((with_reducible refine' s_bm ?_); skip)
  | (((with_reducible refine' w_append [] hA ?g1 ?g2 ?_); (case g1 => walk_at "ni"); (case g2 => walk_at "nl")); (try clear hA); intro H hA; dsimp only [List.set, Int.toNat, List.cons_append, List.nil_append] at hA)
  | (((with_reducible refine' w_append [_] hA ?g1 ?g2 ?_); (case g1 => walk_at "ni"); (case g2 => walk_at "nl")); (try clear hA); intro H hA; dsimp only [List.set, Int.toNat, List.cons_append, List.nil_append] at hA)
  | (((with_reducible refine' w_append [_, _] hA ?g1 ?g2 ?_); (case g1 => walk_at "ni"); (case g2 => walk_at "nl")); (try clear hA); intro H hA; dsimp only [List.set, Int.toNat, List.cons_append, List.nil_append] at hA)
  | (((with_reducible refine' w_append [_, _, _] hA ?g1 ?g2 ?_); (case g1 => walk_at "ni"); (case g2 => walk_at "nl")); (try clear hA); intro H hA; dsimp only [List.set, Int.toNat, List.cons_append, List.nil_append] at hA)
  | ((with_reducible refine' ⟨ty_lst hA ?g1, ?_⟩); (case g1 => walk_at "nm"))
  | ((with_reducible refine' r_isi hA ?g1 ?g2 ?_); (case g1 => walk_at "nt"); (case g2 => walk_at "nb"))
  | (((with_reducible refine' r_lstRg hA ?g1 ?g2 ?_); (case g1 => walk_at "nc"); (case g2 => walk_at "nc")); intro p H hA)
  | (((with_reducible refine' r_list hA ?g1 ?_); (case g1 => walk_at "nh")); intro p H hA)
  | (((with_reducible refine' r_slL hA ?g1 ?_); (case g1 => walk_at "nh")); intro p H hA)
  | (((with_reducible refine' r_listT hA ?g1 ?_); (case g1 => walk_at "nm")); intro p H hA)
  | (((with_reducible refine' r_listD hA ?g1 ?_); (case g1 => walk_at "nm")); intro p H hA)
  | (((with_reducible refine' r_tuple hA ?g1 ?_); (case g1 => walk_at "nh")); intro v H hA)
  | (((with_reducible refine' r_slT hA ?g1 ?_); (case g1 => walk_at "nm")); intro v H hA)
  | (((with_reducible refine' r_lstRev hA ?g1 ?_); (case g1 => walk_at "nh")); intro p H hA)
  | ((with_reducible refine' s_tup ?_); skip)
  | ((with_reducible refine' s_lst ?_); skip)
  | (((with_reducible refine' r_tup hA ?g1 ?g2 ?_); (case g1 => walk_at "na"); (case g2 => walk_at "nl")); intro v H hA)
  | (with_reducible refine' r_dnew hA ?_; intro p H hA)
  | (((with_reducible refine' r_fdO hA ?g1 ?g2 ?g3 ?g4 ?_); (case g1 => walk_at "nm"); (case g2 => walk_at "nf"); (case g3 => walk_at "nf"); (case g4 => rfl)); intro v hA)
  | (((with_reducible refine' r_fd hA ?g1 ?g2 ?g3 ?g4 ?_); (case g1 => walk_at "nm"); (case g2 => walk_at "nf"); (case g3 => walk_at "nf"); (case g4 => rfl)); intro v hA)
  | (with_reducible refine' i_dec (fun hc => ?_) (fun hc => ?_))
  | (with_reducible refine' i_ndec (fun hc => ?_) (fun hc => ?_))
  | (with_reducible refine' i_ne (fun hc => ?_) (fun hc => ?_))
  | (with_reducible refine' i_em (fun hc => ?_) (fun hc => ?_)))
theorem mkB_ints {n : Nat} : ∀ {xs : List V}, xs.all nnV = true → ∃ ms : List Int, xs = ms.map V.int ∧ ∀ x ∈ ms, 0 ≤ x
  | [], _ => ⟨[], rfl, fun x h => by cases h⟩
  | x :: xs, h => by
    rw [List.all_cons, Bool.and_eq_true] at h
    obtain ⟨ms, e, hm⟩ := mkB_ints (n := n) h.2
    cases x with
    | int i => exact ⟨i :: ms, by rw [e]; rfl, fun x hx => by
        rcases List.mem_cons.mp hx with rfl | hx
        · exact of_decide_eq_true h.1
        · exact hm x hx⟩
    | _ => exact absurd h.1 Bool.false_ne_true
theorem mkB_of {n : Nat} {xs : List V} (h : mkB n xs = true) : ∃ ms : List Int, xs = ms.map V.int ∧ MkOk n ms := by
  unfold mkB at h
  rw [Bool.and_eq_true] at h
  obtain ⟨ms, e, hm⟩ := mkB_ints (n := n) h.2
  have hl := of_decide_eq_true h.1
  exact ⟨ms, e, by rw [e, List.length_map] at hl; exact hl, hm⟩
theorem ints_D (ms : List Int) : (ms.map V.int).map D.sc = ms.map D.int := by rw [List.map_map]; rfl
theorem dueS_len {W : Wd} {ms : List Int} (h : (rdy W ms).length ≤ 12) : (dueS W ms).length ≤ 4096 := by
  have h1 := P26.due_len (rw := rwW W) (ms := ms) (sc := scW W ms) (rdy W ms)
  have h2 : 2 ^ (rdy W ms).length ≤ 2 ^ 12 := Nat.pow_le_pow_right (show 0 < 2 by decide) h
  unfold dueS
  rw [List.length_map]
  omega
section
variable {P : Program} {w : World} {K : PySem.W.Frag} {mg : PySem.Str → Option Value} {base : Heap}
def sp_steps (K : PySem.W.Frag) : Sp := fun vs H Q E => ∃ (R : RL) (L : LL) (nv mv : V) (W : Wd) (xs : List V), vs = [nv, mv] ∧ At R L H ∧ (W.Ok) ∧ (NetAt K W R nv) ∧ ((D.tup (xs.map D.sc), mv) ∈ R) ∧ (∀ x ∈ xs, okB x) ∧ (xs.length ≤ 100) ∧ (mkB W.ps.length xs = false → ∀ d H', At R ((d, OD.xd [("marking", .tup (xs.map D.sc))]) :: L) H' → E (.ref (He.ga K "InvalidMarking")) (some d) H') ∧ (∀ ms, xs = ms.map V.int → MkOk W.ps.length ms → 12 < (rdy W ms).length → ∀ d H', At R ((d, OD.xd [("limit", D.int 12)]) :: L) H' → E (.ref (He.ga K "TooLarge")) (some d) H') ∧ (∀ ms, xs = ms.map V.int → MkOk W.ps.length ms → (rdy W ms).length ≤ 12 → ∀ p H', At R ((p, OD.lst ((dueS W ms).map (nmT W))) :: L) H' → Q (.ref p) H')
theorem r_steps {R : RL} {L : LL} {H : Hp} {Q : VK} {E : XK} {nv mv : V} {W : Wd} {xs : List V} (hA : At R L H) (o : W.Ok) (m : NetAt K W R nv) (m2 : (D.tup (xs.map D.sc), mv) ∈ R) (hx : ∀ x ∈ xs, okB x) (hl : xs.length ≤ 100) (e1 : mkB W.ps.length xs = false → ∀ d H', At R ((d, OD.xd [("marking", .tup (xs.map D.sc))]) :: L) H' → E (.ref (He.ga K "InvalidMarking")) (some d) H') (e2 : ∀ ms, xs = ms.map V.int → MkOk W.ps.length ms → 12 < (rdy W ms).length → ∀ d H', At R ((d, OD.xd [("limit", D.int 12)]) :: L) H' → E (.ref (He.ga K "TooLarge")) (some d) H') (q : ∀ ms, xs = ms.map V.int → MkOk W.ps.length ms → (rdy W ms).length ≤ 12 → ∀ p H', At R ((p, OD.lst ((dueS W ms).map (nmT W))) :: L) H' → Q (.ref p) H') : sp_steps K [nv, mv] H Q E := ⟨R, L, nv, mv, W, xs, rfl, hA, o, m, m2, hx, hl, e1, e2, q⟩
set_option hygiene false in
local macro_rules | `(tactic| walk_at "term steps") => `(tactic| refine ⟨_, (pss_cons (ps_expr (pe_fn (F_check_marking (P := P) (K := K) (mg := mg) B) hr (by decide) (passes_call (takes_of rfl rfl rfl rfl) fun _ _ _ _ h => h) rfl (pa_cons (pv 0) (pa_cons (pv 1) pa_nil))))
  (pss_one (ps_ret (pe_lc (own := [("step", 2), ("_", 3)]) rfl sc_steps.nd (pi_listK K rfl (pe_fn (F_steps_and_markings (P := P) (K := K) (mg := mg) B) hr (by decide) (passes_call (takes_of rfl rfl rfl rfl) fun _ _ _ _ h => h) rfl (pa_cons (pv 0) (pa_cons (pv 1) pa_nil)))) (blkOk_by (own := [("step", 2), ("_", 3)]) (N := n_steps) (sc := defScope s_steps) (by decide +kernel)) (fun _ _ _ _ _ => (pg_tupK K rfl (n := 2) rfl (pgs_cons (pg_name (i := 2) sc_steps.nd rfl (Or.inl rfl)) (pgs_cons (pg_name (i := 3) sc_steps.nd rfl (Or.inl rfl)) pgs_nil)))) (fun _ _ _ _ _ => pts_nil) (fun _ _ _ _ _ => (pv 2)))))), ?_⟩)
theorem F_steps (B : Bun P K mg) : Fn P w K mg base 6 "steps" ["net", "marking"] (sp_steps K) := by
  refine B.d_steps.fn (k := 5) sc_steps (fun vs H Q E h => ?_) (fun _ _ _ _ _ _ us hl => match us, hl with | [_, _], _ => rfl) fun f cdv A outer s H vs Q E hr h => ?_
  · obtain ⟨_, _, _, _, _, _, rfl, _⟩ := h
    rfl
  · obtain ⟨R, L, nv, mv, W, xs, rfl, hA, o, m, m2, hx, hl, e1, e2, q⟩ := h
    walk_at "term steps"
    repeat' walk_at "nw"
    refine r_checkmark hA m m2 hx hl e1 fun hb H hA => ?_
    obtain ⟨ms, rfl, hm⟩ := mkB_of hb
    rw [ints_D] at m2
    repeat' walk_at "nw"
    refine s_lc (s_iList ?_)
    repeat' walk_at "nw"
    refine r_sm hA o m m2 hm (fun h12 => e2 ms rfl hm h12) fun h12 p l H hl hA => ?_
    have hA := hA.frzLst
    refine src_lst hA (.head _) fun a2 ea2 W2 => lc_D W2 hA (fun j as L' => L' = L ∧ as = ((l.take j).map (·.1)).map (nmT W)) ?_ ?_ ?_ ?_
    · exact ⟨rfl, rfl⟩
    · exact fun _ _ _ _ _ => True.intro
    · rintro j d v as L1 H p2 hd ⟨rfl, rfl⟩ hlen hA
      rw [List.getElem?_map, Option.map_eq_some_iff] at hd
      obtain ⟨f, hf, rfl⟩ := hd
      unfold pairD at hA
      refine r_gtup2 hA (.head _) fun x1 x2 hA => ?_
      refine ⟨rfl, ?_⟩
      repeat' walk_at "nw"
      refine lc_end hA (fun z hz => by walk_at "mm") (.mem (.head _)) hlen ?_ ⟨rfl, by rw [take_snoc hf, List.map_append, List.map_append]; rfl⟩
      have hj : j < l.length := (List.getElem?_eq_some_iff.mp hf).1
      have h4 := dueS_len (W := W) (ms := ms) h12
      rw [← hl, List.length_map] at h4
      omega
    · rintro p2 as L1 H ⟨rfl, rfl⟩ hlen hA
      rw [List.length_map, List.take_length, hl] at hA
      repeat' walk_at "nw"
      exact q ms rfl hm h12 _ _ hA.drop
def sp__law_covers (K : PySem.W.Frag) : Sp := fun vs H Q E => ∃ (R : RL) (L : LL) (tv rv : V) (a b : List Int), vs = [tv, rv] ∧ At R L H ∧ (HasS R L tv (a.map D.int)) ∧ (HasS R L rv (b.map D.int)) ∧ (a.length = b.length) ∧ (b.length ≤ 1000000) ∧ (∀ H', At R L H' → Q (.bl (P26.cov a b)) H')
theorem r_covers {R : RL} {L : LL} {H : Hp} {Q : VK} {E : XK} {tv rv : V} {a b : List Int} (hA : At R L H) (m1 : HasS R L tv (a.map D.int)) (m2 : HasS R L rv (b.map D.int)) (hl : a.length = b.length) (hb : b.length ≤ 1000000) (q : ∀ H', At R L H' → Q (.bl (P26.cov a b)) H') : sp__law_covers K [tv, rv] H Q E := ⟨R, L, tv, rv, a, b, rfl, hA, m1, m2, hl, hb, q⟩
set_option hygiene false in
local macro_rules | `(tactic| walk_at "term _law_covers") => `(tactic| refine ⟨_, PSs.nox (pss_cons (ps_for PassesOwn.never rfl (pi_range1 rfl B.T.range (pa_cons (pe_callB (call_len_seqK K rfl) (by rfl) B.T.len (by decide +kernel) (pa_cons (pv 1) pa_nil)) pa_nil)) (pg_name (i := 2) sc__law_covers.nd rfl (Or.inl rfl))
  (pss_one (ps_if (pt_cmpR op_lt (pe_ix (ix_lt K rfl) (pv 0) (pv 2) (fun _ _ => rfl)) (pe_ix (ix_lt K rfl) (pv 1) (pv 2) (fun _ _ => rfl)) (nomark _))
  (pss_one (ps_ret pe_bl))
  pss_nil)))
  (pss_one (ps_ret pe_bl))), ?_⟩)
theorem F__law_covers (B : Bun P K mg) : Fn P w K mg base 2 "_law_covers" ["tokens", "row"] (sp__law_covers K) := by
  refine B.d__law_covers.fn (k := 1) sc__law_covers (fun vs H Q E h => ?_) (fun _ _ _ _ _ _ us hl => match us, hl with | [_, _], _ => rfl) fun f cdv A outer s H vs Q E hr h => ?_
  · obtain ⟨_, _, _, _, _, _, rfl, _⟩ := h
    rfl
  · obtain ⟨R, L, tv, rv, a, b, rfl, hA, m1, m2, hl, hb, q⟩ := h
    walk_at "term _law_covers"
    repeat' walk_at "nw"
    refine s_for (s_iRng1 ?_)
    repeat' walk_at "nw"
    refine r_lenA hA m2 ?_
    repeat' walk_at "nw"
    rw [List.length_map]
    refine src_rng (by omega) (by omega) fun W1 => for_D W1 hA (fun i σ L' => (∃ c, σ = [some tv, some rv, c]) ∧ (∀ j, j < i → b.getD j 0 ≤ a.getD j 0) ∧ L' = L) ?_ ?_ ?_ ?_
    · exact ⟨⟨_, rfl⟩, (fun j h => absurd h (Nat.not_lt_zero j)), rfl⟩
    · exact fun _ _ _ _ => True.intro
    · rintro i d v σ L1 H hd ⟨⟨c, rfl⟩, hj, rfl⟩ hA
      obtain ⟨hi, rfl⟩ := rng0_get hd
      obtain rfl : v = .int (i : Nat) := hA.sc_of
      replace hA := hA.drop
      rw [Int.toNat_natCast] at hi
      repeat' walk_at "nw"
      refine r_ixAs hA m1 (by omega) (by rw [Int.toNat_natCast]; exact map_get (f := D.int) (get_D (d := 0) (by omega))) ?_
      repeat' walk_at "nw"
      refine r_ixAs hA m2 (by omega) (by rw [Int.toNat_natCast]; exact map_get (f := D.int) (get_D (d := 0) (by omega))) ?_
      repeat' walk_at "nw"
      · have e : P26.cov a b = false := by
          rw [Bool.eq_false_iff]
          intro h
          have := (P26.cov_iff hl).mp h i (by omega)
          omega
        rw [← e]
        exact q _ hA
      · refine ⟨_, ⟨⟨_, rfl⟩, fun j h => ?_, rfl⟩, hA⟩
        rcases Nat.lt_or_ge j i with h' | h'
        · exact hj j h'
        · have : j = i := by omega
          subst this
          omega
    · rintro σ L1 H ⟨⟨c, rfl⟩, hj, rfl⟩ hA
      rw [rngD_len, Int.toNat_natCast] at hj
      repeat' walk_at "nw"
      have e : P26.cov a b = true := (P26.cov_iff hl).mpr fun i hi => hj i (by omega)
      rw [← e]
      exact q _ hA
theorem W_D (W : Wd) : W.D = .lst [.lst (W.ps.map D.str), .lst (W.ts.map D.str), .lst (W.tk.map rowD), .lst (W.gv.map rowD), .int W.size] := rfl
theorem Wd.Ok.tkg {W : Wd} (o : W.Ok) {k : Nat} (hk : k < W.ts.length) : W.tk[k]? = some (rwW W k) := get_D (by rw [o.kl]; exact hk)
theorem Wd.Ok.rlen {W : Wd} (o : W.Ok) {k : Nat} (hk : k < W.ts.length) : (rwW W k).length = W.ps.length := (o.krow (o.tkg hk)).1
theorem zipW_range {f : Int → Int → Int} {a b : List Int} {n : Nat} (h1 : a.length = n) (h2 : b.length = n) : (List.range n).map (fun j => f (a.getD j 0) (b.getD j 0)) = List.zipWith f a b := by
  refine List.ext_getElem (by simp; omega) fun i hi1 hi2 => ?_
  have hi : i < n := by simpa using hi1
  simp [List.getElem?_eq_getElem (show i < a.length by omega), List.getElem?_eq_getElem (show i < b.length by omega)]
def pairL (W : Wd) (f : List Nat × List Int) : D := .tup [nmT W f.1, .lst (f.2.map D.int)]
def sp__law_due (K : PySem.W.Frag) : Sp := fun vs H Q E => ∃ (R : RL) (L : LL) (wv mv : V) (W : Wd) (ms : List Int), vs = [wv, mv] ∧ At R L H ∧ (W.Ok) ∧ ((W.D, wv) ∈ R) ∧ ((D.tup (ms.map D.int), mv) ∈ R) ∧ (MkOk W.ps.length ms) ∧ (12 < (rdy W ms).length → ∀ H', At R L H' → Q .non H') ∧ ((rdy W ms).length ≤ 12 → ∀ u H', At ((D.lst ((dueS W ms).map (nmT W)), u) :: R) L H' → Q u H')
theorem r_due {R : RL} {L : LL} {H : Hp} {Q : VK} {E : XK} {wv mv : V} {W : Wd} {ms : List Int} (hA : At R L H) (o : W.Ok) (m1 : (W.D, wv) ∈ R) (m2 : (D.tup (ms.map D.int), mv) ∈ R) (hm : MkOk W.ps.length ms) (q1 : 12 < (rdy W ms).length → ∀ H', At R L H' → Q .non H') (q : (rdy W ms).length ≤ 12 → ∀ u H', At ((D.lst ((dueS W ms).map (nmT W)), u) :: R) L H' → Q u H') : sp__law_due K [wv, mv] H Q E := ⟨R, L, wv, mv, W, ms, rfl, hA, o, m1, m2, hm, q1, q⟩
set_option hygiene false in
local macro_rules | `(tactic| walk_at "term _law_due") => `(tactic| refine ⟨_, PSs.nox (pss_cons (ps_set (i := 2) sc__law_due.nd rfl (Or.inr rfl) (pe_lc (own := [("k", 6)]) rfl sc__law_due.nd (pi_range1 rfl B.T.range (pa_cons (pe_callB (call_len_seqK K rfl) (by rfl) B.T.len (by decide +kernel) (pa_cons (pe_ix (ix_listK K rfl) (pv 0) pe_int (fun _ _ => rfl)) pa_nil)) pa_nil)) (blkOk_by (own := [("k", 6)]) (N := n__law_due) (sc := defScope s__law_due) (by decide +kernel)) (fun _ _ _ _ _ => (pg_name (i := 6) sc__law_due.nd rfl (Or.inl rfl))) (fun _ _ _ _ _ => (pts_one (pt_val (pe_fn (F__law_covers (P := P) (K := K) (mg := mg) B) hr (by decide) passL rfl (pa_cons (pv 1) (pa_cons (pe_ix (ix_listK K rfl) (pe_ix (ix_listK K rfl) (pv 0) pe_int (fun _ _ => rfl)) (pv 6) (fun _ _ => rfl)) pa_nil)))))) (fun _ _ _ _ _ => (pv 6))))
  (pss_cons (ps_if (pt_cmpR op_gt (pe_callB (call_len_seqK K rfl) (by rfl) B.T.len (by decide +kernel) (pa_cons (pv 2) pa_nil)) pe_int (nomark _))
  (pss_one (ps_ret pe_non))
  pss_nil)
  (pss_cons (ps_setLc (i := 3) (own := [("i", 11)]) rfl sc__law_due.nd rfl rfl (sw_true rfl rfl rfl (by decide +kernel)) (pi_range1 rfl B.T.range (pa_cons (pe_callB (call_len_seqK K rfl) (by rfl) B.T.len (by decide +kernel) (pa_cons (pv 1) pa_nil)) pa_nil)) (blkOk_by (own := [("i", 11)]) (N := n__law_due) (sc := defScope s__law_due) (by decide +kernel)) (fun _ _ _ _ _ => (pg_name (i := 11) sc__law_due.nd rfl (Or.inr rfl))) (fun _ _ _ _ _ => (pts_one (pt_cmpR op_gt (pe_callB (cr_sumK K rfl rfl) (by rfl) B.T.sum (by decide +kernel) (pa_cons (pe_lc (own := [("k", 6)]) rfl sc__law_due.nd (pi_listK K rfl (pv 2)) (blkOk_by (own := [("k", 6)]) (N := n__law_due) (sc := _) (by kernel_rfl)) (fun _ _ _ _ _ => (pg_name (i := 6) sc__law_due.nd rfl (Or.inl rfl))) (fun _ _ _ _ _ => pts_nil) (fun _ _ _ _ _ => (pe_ix (ix_listK K rfl) (pe_ix (ix_listK K rfl) (pe_ix (ix_listK K rfl) (pv 0) pe_int (fun _ _ => rfl)) (pv 6) (fun _ _ => rfl)) (pv 11) (fun _ _ => rfl)))) pa_nil)) (pe_ix (ix_tupK K rfl) (pv 1) (pv 11) (fun _ _ => rfl)) (nomark _)))) (fun _ _ _ _ _ => (pv 11)))
  (pss_cons (ps_setLc (i := 4) (own := [("i", 11)]) rfl sc__law_due.nd rfl rfl (sw_true rfl rfl rfl (by decide +kernel)) (pi_listK K rfl (pv 3)) (blkOk_by (own := [("i", 11)]) (N := n__law_due) (sc := defScope s__law_due) (by decide +kernel)) (fun _ _ _ _ _ => (pg_name (i := 11) sc__law_due.nd rfl (Or.inl rfl))) (fun _ _ _ _ _ => pts_nil) (fun _ _ _ _ _ => (pe_ix (ix_tupK K rfl) (pv 1) (pv 11) (fun _ _ => rfl))))
  (pss_cons (ps_set (i := 5) sc__law_due.nd rfl (Or.inl rfl) (pe_lst pa_nil))
  (pss_cons (ps_for PassesOwn.never rfl (pi_reversed (by rfl) B.T.reversed (pa_cons (pv 2) pa_nil)) (pg_name (i := 6) sc__law_due.nd rfl (Or.inr rfl))
  (pss_cons (ps_set (i := 7) sc__law_due.nd rfl (Or.inr rfl) (pe_lc (own := [("i", 11)]) rfl sc__law_due.nd (pi_listK K rfl (pv 3)) (blkOk_by (own := [("i", 11)]) (N := n__law_due) (sc := defScope s__law_due) (by decide +kernel)) (fun _ _ _ _ _ => (pg_name (i := 11) sc__law_due.nd rfl (Or.inl rfl))) (fun _ _ _ _ _ => pts_nil) (fun _ _ _ _ _ => (pe_ix (ix_listK K rfl) (pe_ix (ix_listK K rfl) (pe_ix (ix_listK K rfl) (pv 0) pe_int (fun _ _ => rfl)) (pv 6) (fun _ _ => rfl)) (pv 11) (fun _ _ => rfl)))))
  (pss_cons (ps_set (i := 8) sc__law_due.nd rfl (Or.inl rfl) (pe_lst (pa_cons (pe_tup (pa_cons (pe_tup (pa_cons (pe_ix (ix_listK K rfl) (pe_ix (ix_listK K rfl) (pv 0) pe_int (fun _ _ => rfl)) (pv 6) (fun _ _ => rfl)) pa_nil)) (pa_cons (pv 7) pa_nil))) pa_nil)))
  (pss_cons (ps_for PassesOwn.never rfl (pi_listK K rfl (pv 5)) (pg_name (i := 9) sc__law_due.nd rfl (Or.inr rfl))
  (pss_cons (ps_setLc (i := 10) (own := [("j", 12)]) rfl sc__law_due.nd rfl rfl (sw_true rfl rfl rfl (by decide +kernel)) (pi_range1 rfl B.T.range (pa_cons (pe_callB (call_len_seqK K rfl) (by rfl) B.T.len (by decide +kernel) (pa_cons (pv 7) pa_nil)) pa_nil)) (blkOk_by (own := [("j", 12)]) (N := n__law_due) (sc := defScope s__law_due) (by decide +kernel)) (fun _ _ _ _ _ => (pg_name (i := 12) sc__law_due.nd rfl (Or.inl rfl))) (fun _ _ _ _ _ => pts_nil) (fun _ _ _ _ _ => (pe_op op_add (pe_ix (ix_listK K rfl) (pe_ix (ix_tupK K rfl) (pv 9) pe_int (fun _ _ => rfl)) (pv 12) (fun _ _ => rfl)) (pe_ix (ix_listK K rfl) (pv 7) (pv 12) (fun _ _ => rfl)))))
  (pss_one (ps_if (pt_val (pe_fn (F__law_covers (P := P) (K := K) (mg := mg) B) hr (by decide) passL rfl (pa_cons (pv 4) (pa_cons (pv 10) pa_nil))))
  (pss_one (ps_expr (pe_bm PySem.F.plainAttrs_list PySem.F.slot_list_append PySem.F.type_list_append mt_append (pv 8) (pa_cons (pe_tup (pa_cons (pe_op (op_catAK K rfl) (pe_tup (pa_cons (pe_ix (ix_listK K rfl) (pe_ix (ix_listK K rfl) (pv 0) pe_int (fun _ _ => rfl)) (pv 6) (fun _ _ => rfl)) pa_nil)) (pe_ix (ix_tupK K rfl) (pv 9) pe_int (fun _ _ => rfl))) (pa_cons (pv 10) pa_nil))) pa_nil))))
  pss_nil))))
  (pss_one (ps_set (i := 5) sc__law_due.nd rfl (Or.inl rfl) (pe_op (op_catLK K rfl) (pv 8) (pv 5))))))))
  (pss_one (ps_ret (pe_lc (own := [("row", 9)]) rfl sc__law_due.nd (pi_listK K rfl (pv 5)) (blkOk_by (own := [("row", 9)]) (N := n__law_due) (sc := defScope s__law_due) (by decide +kernel)) (fun _ _ _ _ _ => (pg_name (i := 9) sc__law_due.nd rfl (Or.inl rfl))) (fun _ _ _ _ _ => pts_nil) (fun _ _ _ _ _ => (pe_ix (ix_tupK K rfl) (pv 9) pe_int (fun _ _ => rfl)))))))))))), ?_⟩)
theorem F__law_due (B : Bun P K mg) : Fn P w K mg base 3 "_law_due" ["world", "marking"] (sp__law_due K) := by
  refine B.d__law_due.fn (k := 2) sc__law_due (fun vs H Q E h => ?_) (fun _ _ _ _ _ _ us hl => match us, hl with | [_, _], _ => rfl) fun f cdv A outer s H vs Q E hr h => ?_
  · obtain ⟨_, _, _, _, _, _, rfl, _⟩ := h
    rfl
  · obtain ⟨R, L, wv, mv, W, ms, rfl, hA, o, m1, m2, hm, q1, q⟩ := h
    rw [W_D] at m1
    have t60 := o.tl
    have p60 := o.pl
    have hml := hm.1
    walk_at "term _law_due"
    repeat' walk_at "nw"
    refine s_lc (s_iRng1 ?_)
    repeat' walk_at "nw"
    rw [List.length_map]
    have hA := hA.drop
    refine src_rng (by omega) (by omega) fun W1 => lc_D W1 hA (fun i as L' => L' = L ∧ as = ((List.range i).filter fun k => cov ms (rwW W k)).map natD) ?_ ?_ ?_ ?_
    · exact ⟨rfl, rfl⟩
    · exact fun _ _ _ _ _ => True.intro
    · rintro j d v as L1 H p2 hd ⟨rfl, rfl⟩ hlen hA
      obtain ⟨hj, rfl⟩ := rng0_get hd
      obtain rfl : v = .int (j : Nat) := hA.sc_of
      rw [Int.toNat_natCast] at hj
      refine s_name ⟨rfl, ?_⟩
      repeat' walk_at "nw"
      refine r_ixL hA (List.mem_cons_self) (by omega) (by rw [Int.toNat_natCast]; exact map_get (o.tkg hj)) fun rv hA => ?_
      repeat' walk_at "nw"
      refine r_covers hA (.t (by walk_at "mm")) (.l (.r (List.mem_cons_self))) (by rw [o.rlen hj]; exact hm.1) (by rw [o.rlen hj]; omega) fun H hA => ?_
      have hsn : (List.range (j + 1)).filter (fun k => cov ms (rwW W k)) = (List.range j).filter (fun k => cov ms (rwW W k)) ++ if cov ms (rwW W j) = true then [j] else [] := by
        rw [List.range_succ, List.filter_append, List.filter_cons, List.filter_nil]
      cases hcv : P26.cov ms (rwW W j) with
      | true =>
        have hcv' : cov ms (rwW W j) = true := hcv
        rw [if_pos hcv'] at hsn
        repeat' walk_at "nw"
        exact lc_end hA (fun z hz => by walk_at "mm") .sc hlen (by omega) ⟨rfl, by rw [hsn, List.map_append]; rfl⟩
      | false =>
        have hcv' : cov ms (rwW W j) = false := hcv
        rw [hcv', if_neg Bool.false_ne_true, List.append_nil] at hsn
        repeat' walk_at "nw"
        exact lc_no hA.drop.drop.drop hlen ⟨rfl, by rw [hsn]⟩
    · rintro p2 as L1 H ⟨rfl, rfl⟩ hlen hA
      rw [rngD_len, Int.toNat_natCast] at hA
      replace hA : At R ((p2, .lst ((rdy W ms).map natD)) :: L1) H := hA
      repeat' walk_at "nw"
      · rw [List.length_map] at hc
        exact q1 (by omega) _ hA.forget
      · rw [List.length_map] at hc
        have h12 : (rdy W ms).length ≤ 12 := by omega
        have q := q h12
        have hA := hA.frzLst
        repeat' walk_at "nw"
        refine s_lc (s_iRng1 ?_)
        repeat' walk_at "nw"
        rw [List.length_map]
        refine src_rng (by omega) (by omega) fun W1 => lc_D W1 hA (fun i as L' => L' = L1 ∧ as = ((List.range i).filter fun i => decide (ms.getD i 0 < P26.tot (rwW W) (rdy W ms) i)).map natD) ?_ ?_ ?_ ?_
        · exact ⟨rfl, rfl⟩
        · exact fun _ _ _ _ _ => True.intro
        · rintro j d v as L2' H p2' hd ⟨rfl, rfl⟩ hlen hA
          obtain ⟨hj, rfl⟩ := rng0_get hd
          obtain rfl : v = .int (j : Nat) := hA.sc_of
          rw [Int.toNat_natCast] at hj
          refine s_name ⟨rfl, ?_⟩
          repeat' walk_at "nw"
          refine s_lc (s_iList ?_)
          repeat' walk_at "nw"
          refine src_lst hA (List.mem_cons_of_mem _ (List.mem_cons_self)) fun a2 ea2 W2 => lc_D W2 hA (fun q as L' => L' = (p2', .lst (((List.range j).filter fun i => decide (ms.getD i 0 < P26.tot (rwW W) (rdy W ms) i)).map natD)) :: L2' ∧ as = (((rdy W ms).take q).map fun k => (rwW W k).getD j 0).map D.int) ?_ ?_ ?_ ?_
          · exact ⟨rfl, rfl⟩
          · exact fun _ _ _ _ _ => True.intro
          · rintro q dd v as L3 H p4 hdd ⟨rfl, rfl⟩ hlen2 hA
            rw [List.getElem?_map, Option.map_eq_some_iff] at hdd
            obtain ⟨k, hk, rfl⟩ := hdd
            obtain rfl : v = .int (k : Nat) := hA.sc_of
            have hq := (List.getElem?_eq_some_iff.mp hk).1
            have hkl := (rdy_mem.mp (List.mem_of_getElem? hk)).1
            refine s_name ⟨rfl, ?_⟩
            repeat' walk_at "nw"
            refine r_ixL hA (List.mem_cons_self) (by omega) (by rw [Int.toNat_natCast]; exact map_get (o.tkg hkl)) fun rv hA => ?_
            unfold rowD at hA
            repeat' walk_at "nw"
            refine r_ixLs hA (List.mem_cons_self) (by omega) (by rw [Int.toNat_natCast]; exact map_get (f := D.int) (get_D (d := 0) (by rw [o.rlen hkl]; omega))) ?_
            exact lc_end hA (fun z hz => by walk_at "mm") .sc hlen2 (by omega) ⟨rfl, by rw [take_snoc hk, List.map_append, List.map_append]; rfl⟩
          · rintro p4 as L3 H ⟨rfl, rfl⟩ hlen2 hA
            rw [List.length_map, List.take_length] at hA
            repeat' walk_at "nw"
            refine r_sum hA (.o (.head _)) ?_
            have hA := hA.forget
            repeat' walk_at "nw"
            refine r_ixTs (ds := ms.map D.int) hA (by walk_at "mm") (by omega) (by rw [Int.toNat_natCast]; exact map_get (f := D.int) (get_D (d := 0) hj)) ?_
            have hsn : (List.range (j + 1)).filter (fun i => decide (ms.getD i 0 < P26.tot (rwW W) (rdy W ms) i)) = (List.range j).filter (fun i => decide (ms.getD i 0 < P26.tot (rwW W) (rdy W ms) i)) ++ if decide (ms.getD j 0 < P26.tot (rwW W) (rdy W ms) j) = true then [j] else [] := by
              rw [List.range_succ, List.filter_append, List.filter_cons, List.filter_nil]
            repeat' walk_at "nw"
            · have hc' : ms.getD j 0 < P26.tot (rwW W) (rdy W ms) j := hc
              rw [decide_eq_true hc', if_pos rfl] at hsn
              exact lc_end hA (fun z hz => by walk_at "mm") .sc hlen (by omega) ⟨rfl, by rw [hsn, List.map_append]; rfl⟩
            · have hc' : ¬ ms.getD j 0 < P26.tot (rwW W) (rdy W ms) j := hc
              rw [decide_eq_false hc', if_neg Bool.false_ne_true, List.append_nil] at hsn
              exact lc_no hA.drop hlen ⟨rfl, by rw [hsn]⟩
        · rintro p3 as L2' H ⟨rfl, rfl⟩ hlen hA
          rw [rngD_len, Int.toNat_natCast] at hA
          replace hA : At _ ((p3, .lst ((scW W ms).map natD)) :: L2') H := hA
          have hsc : ∀ i ∈ scW W ms, i < ms.length := fun i hi => by
            unfold scW at hi
            exact List.mem_range.mp (List.mem_filter.mp hi).1
          have hscl : (scW W ms).length ≤ 60 := by
            have := List.length_filter_le (fun i => decide (ms.getD i 0 < P26.tot (rwW W) (rdy W ms) i)) (List.range ms.length)
            rw [List.length_range] at this
            unfold scW
            omega
          have hA := hA.frzLst
          repeat' walk_at "nw"
          refine s_lc (s_iList ?_)
          repeat' walk_at "nw"
          refine src_lst hA (.head _) fun a2 ea2 W2 => lc_D W2 hA (fun q as L' => L' = L2' ∧ as = (((scW W ms).take q).map fun i => ms.getD i 0).map D.int) ?_ ?_ ?_ ?_
          · exact ⟨rfl, rfl⟩
          · exact fun _ _ _ _ _ => True.intro
          · rintro q dd v as L3 H p4 hdd ⟨rfl, rfl⟩ hlen2 hA
            rw [List.getElem?_map, Option.map_eq_some_iff] at hdd
            obtain ⟨i, hi, rfl⟩ := hdd
            obtain rfl : v = .int (i : Nat) := hA.sc_of
            have hq := (List.getElem?_eq_some_iff.mp hi).1
            have hil := hsc i (List.mem_of_getElem? hi)
            refine s_name ⟨rfl, ?_⟩
            repeat' walk_at "nw"
            refine r_ixTs (ds := ms.map D.int) hA (by walk_at "mm") (by omega) (by rw [Int.toNat_natCast]; exact map_get (f := D.int) (get_D (d := 0) hil)) ?_
            exact lc_end hA (fun z hz => by walk_at "mm") .sc hlen2 (by omega) ⟨rfl, by rw [take_snoc hi, List.map_append, List.map_append]; rfl⟩
          · rintro p4 as L3 H ⟨rfl, rfl⟩ hlen2 hA
            rw [List.length_map, List.take_length] at hA
            have hA := hA.frzLst
            repeat' walk_at "nw"
            refine r_lst hA (ds := (([] : List (List Nat × List Int)).map (pairL W))) .nil (by show 0 ≤ 1000000; decide) fun fp H hA => ?_
            repeat' walk_at "nw"
            obtain ⟨n, hn⟩ : ∃ n, n = (rdy W ms).length := ⟨_, rfl⟩
            refine s_for (s_iRev ?_)
            repeat' walk_at "nw"
            refine src_rev hA (by walk_at "mm") fun a3 ea3 W3 => for_D W3 hA (fun i σ L' => (∃ fp c1 c2 c3 c4 c5, σ = [some wv, some mv, some (.ref p2), some (.ref p3), some (.ref p4), some (.ref fp), c1, c2, c3, c4, c5, none, none] ∧ L' = (fp, .lst ((P26.due (rwW W) ms (scW W ms) ((rdy W ms).drop (n - i))).map (pairL W))) :: L3)) ?_ ?_ ?_ ?_
            · exact ⟨_, _, _, _, _, _, rfl, by rw [Nat.sub_zero, hn, List.drop_length]; rfl⟩
            · exact fun _ _ _ _ => True.intro
            · rintro i d v σ L4 H hd ⟨fp, c1, c2, c3, c4, c5, rfl, rfl⟩ hA
              have hi : i < n := by
                have := (List.getElem?_eq_some_iff.mp hd).1
                rw [List.length_reverse, List.length_map] at this
                omega
              rw [← List.map_reverse, List.getElem?_map, Option.map_eq_some_iff] at hd
              obtain ⟨k, hk, rfl⟩ := hd
              obtain rfl : v = .int (k : Nat) := hA.sc_of
              replace hA := hA.drop
              have hkm : k ∈ rdy W ms := List.mem_reverse.mp (List.mem_of_getElem? hk)
              have hkl := (rdy_mem.mp hkm).1
              have hdrop : (rdy W ms).drop (n - (i + 1)) = k :: (rdy W ms).drop (n - i) := by
                have h1 : n - (i + 1) < (rdy W ms).length := by omega
                rw [List.drop_eq_getElem_cons h1]
                rw [List.getElem?_reverse (by omega), ← hn, show n - 1 - i = n - (i + 1) by omega, List.getElem?_eq_getElem h1] at hk
                rw [Option.some.inj hk, show n - (i + 1) + 1 = n - i by omega]
              obtain ⟨F, hF⟩ : ∃ F, F = P26.due (rwW W) ms (scW W ms) ((rdy W ms).drop (n - i)) := ⟨_, rfl⟩
              have hdue : P26.due (rwW W) ms (scW W ms) ((rdy W ms).drop (n - (i + 1))) = P26.dstep (rwW W) ms (scW W ms) k F := by rw [hdrop, hF]; rfl
              have hFok := (due_ok o hm (r := (rdy W ms).drop (n - i)) (List.drop_sublist _ _)).1
              have hFl : F.length ≤ 4096 := by
                have h1 := P26.due_len (rw := rwW W) (ms := ms) (sc := scW W ms) ((rdy W ms).drop (n - i))
                have h2 : 2 ^ ((rdy W ms).drop (n - i)).length ≤ 2 ^ 12 := Nat.pow_le_pow_right (show 0 < 2 by decide) (by rw [List.length_drop]; omega)
                rw [← hF] at h1
                omega
              rw [← hF] at hA hFok
              have htl : (P26.tak (rwW W) (scW W ms) k).length = (scW W ms).length := by unfold P26.tak; rw [List.length_map]
              repeat' walk_at "nw"
              refine s_lc (s_iList ?_)
              repeat' walk_at "nw"
              refine src_lst hA (by walk_at "mm") fun a4 ea4 W4 => lc_D W4 hA (fun q as L' => L' = (fp, .lst (F.map (pairL W))) :: L3 ∧ as = (((scW W ms).take q).map fun i => (rwW W k).getD i 0).map D.int) ?_ ?_ ?_ ?_
              · exact ⟨rfl, rfl⟩
              · exact fun _ _ _ _ _ => True.intro
              · rintro q dd v as L5 H p5 hdd ⟨rfl, rfl⟩ hlen2 hA
                rw [List.getElem?_map, Option.map_eq_some_iff] at hdd
                obtain ⟨i, hi, rfl⟩ := hdd
                obtain rfl : v = .int (i : Nat) := hA.sc_of
                have hq := (List.getElem?_eq_some_iff.mp hi).1
                have hil := hsc i (List.mem_of_getElem? hi)
                refine s_name ⟨rfl, ?_⟩
                repeat' walk_at "nw"
                refine r_ixL hA (List.mem_cons_self) (by omega) (by rw [Int.toNat_natCast]; exact map_get (o.tkg hkl)) fun rv hA => ?_
                unfold rowD at hA
                repeat' walk_at "nw"
                refine r_ixLs hA (List.mem_cons_self) (by omega) (by rw [Int.toNat_natCast]; exact map_get (f := D.int) (get_D (d := 0) (by rw [o.rlen hkl]; omega))) ?_
                exact lc_end hA (fun z hz => by walk_at "mm") .sc hlen2 (by omega) ⟨rfl, by rw [take_snoc hi, List.map_append, List.map_append]; rfl⟩
              · rintro p5 as L5 H ⟨rfl, rfl⟩ hlen2 hA
                rw [List.length_map, List.take_length] at hA
                replace hA : At _ ((p5, .lst ((P26.tak (rwW W) (scW W ms) k).map D.int)) :: (fp, .lst (F.map (pairL W))) :: L3) H := hA
                have hA := hA.frzLst
                repeat' walk_at "nw"
                refine r_ixLs hA (List.mem_cons_self) (by omega) (by rw [Int.toNat_natCast]; exact map_get (nm_get hkl)) ?_
                have hA := hA.drop
                repeat' walk_at "nw"
                refine r_tup hA (ds := [D.str (nm W.ts k)]) (.cons .sc .nil) (by show 1 ≤ 1000000; decide) fun tv H hA => ?_
                repeat' walk_at "nw"
                refine r_tup hA (ds := [nmT W [k], .lst ((P26.tak (rwW W) (scW W ms) k).map D.int)]) (.cons (.mem (.head _)) (.cons (.mem (.tail _ (.head _))) .nil)) (by show 2 ≤ 1000000; decide) fun tv2 H hA => ?_
                repeat' walk_at "nw"
                refine r_lst hA (ds := [(([k] : List Nat), P26.tak (rwW W) (scW W ms) k)].map (pairL W)) (.cons (.mem (.head _)) .nil) (by show 1 ≤ 1000000; decide) fun gp H hA => ?_
                have hA := hA.drop.drop.swap.frzLst
                repeat' walk_at "nw"
                refine s_for (s_iList (s_var rfl (src_lst hA (.head _) fun a5 ea5 W5 => for_D W5 hA (fun j σ L' => (∃ c1 c2, σ = [some wv, some mv, some (.ref p2), some (.ref p3), some (.ref p4), some (.ref fp), some (.int (k : Nat)), some (.ref p5), some (.ref gp), c1, c2, none, none] ∧ L' = (gp, .lst ((([k], P26.tak (rwW W) (scW W ms) k) :: ((F.take j).filter fun f => P26.cov ((scW W ms).map fun i => ms.getD i 0) (List.zipWith (· + ·) f.2 (P26.tak (rwW W) (scW W ms) k))).map fun f => (k :: f.1, List.zipWith (· + ·) f.2 (P26.tak (rwW W) (scW W ms) k))).map (pairL W))) :: L3)) ?_ ?_ ?_ ?_)))
                · exact ⟨_, _, rfl, rfl⟩
                · exact fun _ _ _ _ => True.intro
                · rintro j d v σ L6 H hd ⟨c1, c2, rfl, rfl⟩ hA
                  rw [List.getElem?_map, Option.map_eq_some_iff] at hd
                  obtain ⟨f, hf, rfl⟩ := hd
                  obtain ⟨f1, f2, f3, f4⟩ := hFok f (List.mem_of_getElem? hf)
                  have hfl : f.2.length = (scW W ms).length := by rw [f4, List.length_map]
                  unfold pairL at hA
                  repeat' walk_at "nw"
                  refine s_lc (s_iRng1 ?_)
                  repeat' walk_at "nw"
                  rw [List.length_map]
                  refine src_rng (by omega) (by omega) fun W6 => lc_D W6 hA (fun q as L' => L' = (gp, .lst ((([k], P26.tak (rwW W) (scW W ms) k) :: ((F.take j).filter fun f => P26.cov ((scW W ms).map fun i => ms.getD i 0) (List.zipWith (· + ·) f.2 (P26.tak (rwW W) (scW W ms) k))).map fun f => (k :: f.1, List.zipWith (· + ·) f.2 (P26.tak (rwW W) (scW W ms) k))).map (pairL W))) :: L3 ∧ as = ((List.range q).map fun j => f.2.getD j 0 + (P26.tak (rwW W) (scW W ms) k).getD j 0).map D.int) ?_ ?_ ?_ ?_
                  · exact ⟨rfl, rfl⟩
                  · exact fun _ _ _ _ _ => True.intro
                  · rintro q dd v2 as L7 H p6 hdd ⟨rfl, rfl⟩ hlen2 hA
                    obtain ⟨hq, rfl⟩ := rng0_get hdd
                    obtain rfl : v2 = .int (q : Nat) := hA.sc_of
                    rw [Int.toNat_natCast] at hq
                    refine s_name ⟨rfl, ?_⟩
                    repeat' walk_at "nw"
                    refine r_ixLs hA (List.mem_cons_self) (by omega) (by rw [Int.toNat_natCast]; exact map_get (f := D.int) (get_D (d := 0) (by omega))) ?_
                    repeat' walk_at "nw"
                    refine r_ixLs (ds := (P26.tak (rwW W) (scW W ms) k).map D.int) hA (by walk_at "mm") (by omega) (by rw [Int.toNat_natCast]; exact map_get (f := D.int) (get_D (d := 0) (by omega))) ?_
                    repeat' walk_at "nw"
                    exact lc_end hA (fun z hz => by walk_at "mm") .sc hlen2 (by omega) ⟨rfl, by rw [List.range_succ, List.map_append, List.map_append]; rfl⟩
                  · rintro p6 as L7 H ⟨rfl, rfl⟩ hlen2 hA
                    rw [rngD_len, Int.toNat_natCast, zipW_range (f := (· + ·)) (by omega) rfl] at hA
                    have hA := hA.frzLst
                    repeat' walk_at "nw"
                    refine r_covers (a := (scW W ms).map fun i => ms.getD i 0) hA (.l (.r (by walk_at "mm"))) (.l (.r List.mem_cons_self)) (by rw [List.length_map, List.length_zipWith]; omega) (by rw [List.length_zipWith]; omega) fun H hA => ?_
                    have hsn : ∀ c : List Nat × List Int → Bool, (F.take (j + 1)).filter c = (F.take j).filter c ++ if c f = true then [f] else [] := fun c => by
                      rw [take_snoc hf, List.filter_append, List.filter_cons, List.filter_nil]
                    have hfl2 : ((F.take j).filter fun f => P26.cov ((scW W ms).map fun i => ms.getD i 0) (List.zipWith (· + ·) f.2 (P26.tak (rwW W) (scW W ms) k))).length ≤ F.length := Nat.le_trans (List.length_filter_le _ _) (by rw [List.length_take]; omega)
                    cases hcv : P26.cov ((scW W ms).map fun i => ms.getD i 0) (List.zipWith (· + ·) f.2 (P26.tak (rwW W) (scW W ms) k)) with
                    | true =>
                      repeat' walk_at "nw"
                      refine r_ixLs (ds := W.ts.map D.str) hA (by walk_at "mm") (by omega) (by rw [Int.toNat_natCast]; exact map_get (nm_get hkl)) ?_
                      repeat' walk_at "nw"
                      refine r_tup hA (ds := [D.str (nm W.ts k)]) (.cons .sc .nil) (by show 1 ≤ 1000000; decide) fun tv H hA => ?_
                      repeat' walk_at "nw"
                      have hf1 : f.1.length ≤ 12 := by
                        have := f2.length_le
                        rw [List.length_drop] at this
                        omega
                      refine r_catT hA (ds := [D.str (nm W.ts k)]) (by walk_at "mm") (List.mem_cons_self) (by rw [List.length_map]; show 1 + f.1.length ≤ 1000000; omega) fun cv H hA => ?_
                      repeat' walk_at "nw"
                      refine r_tup hA (ds := [nmT W (k :: f.1), .lst ((List.zipWith (· + ·) f.2 (P26.tak (rwW W) (scW W ms) k)).map D.int)]) (.cons (.mem (.head _)) (.cons (.mem (by walk_at "mm")) .nil)) (by show 2 ≤ 1000000; decide) fun qv H hA => ?_
                      repeat' walk_at "nw"
                      refine ⟨_, ⟨_, _, rfl, ?_⟩, by walk_at "dr"⟩
                      rw [hsn, hcv, if_pos rfl]
                      simp only [List.map_append, List.map_cons, List.map_nil, List.cons_append, List.nil_append]
                      rfl
                    | false =>
                      repeat' walk_at "nw"
                      refine ⟨_, ⟨_, _, rfl, ?_⟩, by walk_at "dr"⟩
                      rw [hsn, hcv, if_neg Bool.false_ne_true, List.append_nil]
                · rintro σ L6 H ⟨c1, c2, rfl, rfl⟩ hA
                  rw [List.length_map, List.take_length] at hA
                  repeat' walk_at "nw"
                  refine r_catL hA (.o (.head _)) (.r (.head _)) ?_ fun cp H hA => ?_
                  · rw [List.length_map, List.length_cons, List.length_map, List.length_map]
                    refine Nat.le_trans (Nat.add_le_add_right (Nat.succ_le_succ (List.length_filter_le _ _)) _) ?_
                    omega
                  rw [← List.map_append] at hA
                  repeat' walk_at "nw"
                  refine ⟨_, ⟨_, _, _, _, _, _, rfl, ?_⟩, hA.swap.forget.drop.drop⟩
                  rw [hdue]
                  rfl
            · rintro σ L4 H ⟨fp, c1, c2, c3, c4, c5, rfl, rfl⟩ hA
              rw [List.length_reverse, List.length_map, hn, Nat.sub_self, List.drop_zero] at hA
              repeat' walk_at "nw"
              obtain ⟨F, hF⟩ : ∃ F, F = P26.due (rwW W) ms (scW W ms) (rdy W ms) := ⟨_, rfl⟩
              have hFl : F.length ≤ 4096 := by
                have := dueS_len (W := W) (ms := ms) h12
                unfold dueS at this
                rw [← hF, List.length_map] at this
                exact this
              rw [← hF] at hA
              have hA := hA.frzLst
              refine s_lc (s_iList (s_var rfl (src_lst hA (.head _) fun a5 ea5 W5 => lc_D W5 hA (fun j as L' => L' = L3 ∧ as = ((F.take j).map (·.1)).map (nmT W)) ?_ ?_ ?_ ?_)))
              · exact ⟨rfl, rfl⟩
              · exact fun _ _ _ _ _ => True.intro
              · rintro j dd v as L7 H p6 hdd ⟨rfl, rfl⟩ hlen2 hA
                rw [List.getElem?_map, Option.map_eq_some_iff] at hdd
                obtain ⟨f, hf, rfl⟩ := hdd
                have hj : j < F.length := (List.getElem?_eq_some_iff.mp hf).1
                unfold pairL at hA
                refine s_name ⟨rfl, ?_⟩
                repeat' walk_at "nw"
                exact lc_end hA (fun z hz => by walk_at "mm") (.mem (.head _)) hlen2 (by omega) ⟨rfl, by rw [take_snoc hf, List.map_append, List.map_append]; rfl⟩
              · rintro p6 as L7 H ⟨rfl, rfl⟩ hlen2 hA
                rw [List.length_map, List.take_length] at hA
                have e : F.map (·.1) = dueS W ms := by rw [hF]; rfl
                rw [e] at hA
                have hA := hA.frzLst
                repeat' walk_at "nw"
                exact q _ _ (At.sub hA fun x m => (List.mem_cons.mp m).elim (fun e => e ▸ List.mem_cons_self) fun m => by walk_at "mm")
end
end K26
set_option maxRecDepth 100000
set_option maxHeartbeats 4000000
namespace K26
open PySem PySem.Spec PyProof.Rows L2 Nw
open PySem.W (Datum DatumOrd Tup)
set_option hygiene false in
local macro_rules | `(tactic| walk_at "nf") => `(tactic| first | exact B.n_cls | exact B.n_places | exact B.n_transitions | exact B.n_start | exact B.n_index | exact B.n_takes | exact B.n_gives | exact B.n_takers | exact B.n_givers | exact B.n_labels)
local macro_rules | `(tactic| walk_at "nm") => `(tactic| first | exact .head _ | exact .tail _ (.head _) | exact .tail _ (.tail _ (.head _)) | exact .tail _ (.tail _ (.tail _ (.head _))) | exact .tail _ (.tail _ (.tail _ (.tail _ (.head _)))) | exact .tail _ (.tail _ (.tail _ (.tail _ (.tail _ (.head _))))) | exact .tail _ (.tail _ (.tail _ (.tail _ (.tail _ (.tail _ (.head _)))))) | exact List.mem_append_right _ (.head _) | exact List.mem_append_right _ (.tail _ (.head _)) | exact .tail _ (List.mem_append_right _ (.head _)) | exact .tail _ (.tail _ (List.mem_append_right _ (.head _))) | exact .tail _ (.tail _ (.tail _ (List.mem_append_right _ (.head _)))) | (repeat (first | assumption | refine List.mem_cons_of_mem _ ?_)))
set_option hygiene false in
local macro_rules | `(tactic| walk_at "dr") => `(tactic| repeat (first | exact hA | apply At.drop))
local macro_rules | `(tactic| walk_at "mm") => `(tactic| repeat (first | assumption | exact List.mem_cons_self | refine List.mem_cons_of_mem _ ?_))
local macro_rules | `(tactic| walk_at "nb") => `(tactic| first | exact isT_int_int | exact isT_int_bool | exact isT_int_str | exact isT_int_list | exact isT_int_tuple | exact isT_bool_int | exact isT_bool_bool | exact isT_bool_str | exact isT_bool_list | exact isT_bool_tuple | exact isT_str_int | exact isT_str_bool | exact isT_str_str | exact isT_str_list | exact isT_str_tuple | exact isT_NoneType_int | exact isT_NoneType_bool | exact isT_NoneType_str | exact isT_NoneType_list | exact isT_NoneType_tuple | exact isT_list_int | exact isT_list_bool | exact isT_list_str | exact isT_list_list | exact isT_list_tuple | exact isT_tuple_int | exact isT_tuple_bool | exact isT_tuple_str | exact isT_tuple_list | exact isT_tuple_tuple | decide +kernel)
local macro_rules | `(tactic| walk_at "ni") => `(tactic| first | exact InR.mem (by walk_at "nm") | exact InR.sc | assumption)
local macro_rules | `(tactic| walk_at "nc") => `(tactic| first | omega | decide | (unfold CMul; omega) | (unfold CDiv; omega) | (unfold CPow; omega) | (unfold CPow; decide))
local macro_rules | `(tactic| walk_at "nl") => `(tactic| first | omega | decide | (simp only [List.length_cons, List.length_nil, List.length_append, List.length_map, List.length_set]; omega) | (simp; omega))
local macro_rules | `(tactic| walk_at "nh") => `(tactic| first | exact HasL.r (by walk_at "nm") | exact HasL.o (by walk_at "nm") | assumption)
local macro_rules | `(tactic| walk_at "na") => `(tactic| first | exact AllR.nil | (refine AllR.cons (by walk_at "ni") ?_; walk_at "na"))
local macro_rules | `(tactic| walk_at "nt") => `(tactic| first | exact HasTy.int _ | exact HasTy.str _ | exact HasTy.bl _ | exact HasTy.non | exact HasTy.lst (by walk_at "nm") | exact HasTy.tup (by walk_at "nm") | exact HasTy.own (by walk_at "nm"))
set_option hygiene false in
local macro_rules | `(tactic| walk_at "nw") => `(tactic| first
  | (with_reducible refine' s_seq ?_)
  | (with_reducible refine' s_asg ?_)
  | (with_reducible refine' s_name ?_)
  | (with_reducible refine' s_ret ?_)
  | (with_reducible refine' s_drop ?_)
  | (with_reducible refine' s_next ?_)
  | (with_reducible refine' s_op ?_)
  | (with_reducible refine' s_un ?_)
  | (with_reducible refine' s_c ?_)
  | (with_reducible refine' s_cons ?_)
  | (with_reducible refine' s_nil ?_)
  | (with_reducible refine' s_cb ?_)
  | (with_reducible refine' s_call ?_)
  | (with_reducible refine' s_callS ?_)
  | (with_reducible refine' s_test ?_)
  | (with_reducible refine' s_tb ?_)
  | (with_reducible refine' s_bl ?_)
  | (with_reducible refine' s_not ?_)
  | (with_reducible refine' s_if ?_)
  | (with_reducible refine' s_ifE ?_)
  | (with_reducible refine' s_and ?_)
  | (with_reducible refine' s_or ?_)
  | (with_reducible refine' s_andV ?_)
  | (with_reducible refine' s_orV ?_)
  | (with_reducible refine' s_notV ?_)
  | (with_reducible refine' s_sub ?_)
  | (with_reducible refine' s_chain ?_)
  | (with_reducible refine' s_sl ?_)
  | (with_reducible refine' s_noPart ?_)
  | (with_reducible refine' s_part ?_)
  | (with_reducible refine' r_part ?_)
  | (with_reducible refine' s_m1 ?_)
  | (with_reducible refine' s_fldQ ?_)
  | (with_reducible refine' s_setF ?_)
  | (with_reducible refine' s_cvalQ ?_)
  | (with_reducible refine' s_lstRev ?_)
  | (with_reducible refine' s_dgetQ ?_)
  | (with_reducible refine' s_din ?_)
  | (with_reducible refine' s_dnotin ?_)
  | (with_reducible refine' s_dput ?_)
  | (with_reducible refine' s_dget2Q ?_)
  | (with_reducible refine' s_mkX1 ?_)
  | (with_reducible refine' s_make ?_)
  | (with_reducible refine' s_lstRg ?_)
  | (with_reducible refine' s_tru ?_)
  | (with_reducible refine' s_star ?_)
  | (with_reducible refine' s_xf ?_)
  | (with_reducible refine' s_yes ?_)
  | (with_reducible refine' r_I0 ?_)
  | (with_reducible refine' r_U ?_)
  | (with_reducible refine' r_eqI ?_)
  | (with_reducible refine' r_neI ?_)
  | (with_reducible refine' r_eqS ?_)
  | (with_reducible refine' r_neS ?_)
  | (with_reducible refine' n_isR ?_)
  | (with_reducible refine' n_isN ?_)
  | (with_reducible refine' n_isI ?_)
  | (with_reducible refine' n_isS ?_)
  | (with_reducible refine' n_isB ?_)
  | (with_reducible refine' n_ntR ?_)
  | (with_reducible refine' n_ntN ?_)
  | (with_reducible refine' n_ntI ?_)
  | (with_reducible refine' n_ntS ?_)
  | (with_reducible refine' n_ntB ?_)
  | (with_reducible refine' i_t ?_)
  | (with_reducible refine' i_f ?_)
  | (with_reducible refine' i_nt ?_)
  | (with_reducible refine' i_nf ?_)
  | ((with_reducible refine' s_var ?g1 ?_); (case g1 => rfl))
  | ((with_reducible refine' r_I ?g1 ?_); (case g1 => walk_at "nc"))
  | ((with_reducible refine' w_int ?_))
  | ((with_reducible refine' w_abs ?_))
  | ((with_reducible refine' r_max2 ?_))
  | ((with_reducible refine' r_lenS ?g1 ?_); (case g1 => walk_at "nl"))
  | ((with_reducible refine' r_addS ?g1 ?_); (case g1 => walk_at "nl"))
  | ((with_reducible refine' r_slS ?g1 ?_); (case g1 => walk_at "nl"))
  | ((with_reducible refine' r_inS ?_))
  | ((with_reducible refine' r_ixOs hA ?g1 ?g2 ?g3 ?_); (case g1 => walk_at "nm"); (case g2 => walk_at "nc"); (case g3 => rfl))
  | ((with_reducible refine' r_ixLs hA ?g1 ?g2 ?g3 ?_); (case g1 => walk_at "nm"); (case g2 => walk_at "nc"); (case g3 => rfl))
  | ((with_reducible refine' r_ixTs hA ?g1 ?g2 ?g3 ?_); (case g1 => walk_at "nm"); (case g2 => walk_at "nc"); (case g3 => rfl))
  | (((with_reducible refine' r_ixO hA ?g1 ?g2 ?g3 ?_); (case g1 => walk_at "nm"); (case g2 => walk_at "nc"); (case g3 => rfl)); intro v hA)
  | (((with_reducible refine' r_ixL hA ?g1 ?g2 ?g3 ?_); (case g1 => walk_at "nm"); (case g2 => walk_at "nc"); (case g3 => rfl)); intro v hA)
  | (((with_reducible refine' r_ixT hA ?g1 ?g2 ?g3 ?_); (case g1 => walk_at "nm"); (case g2 => walk_at "nc"); (case g3 => rfl)); intro v hA)
  | ((with_reducible refine' r_lenO hA ?g1 ?_); (case g1 => walk_at "nm"))
  | ((with_reducible refine' r_lenL hA ?g1 ?_); (case g1 => walk_at "nm"))
  | ((with_reducible refine' r_lenT hA ?g1 ?_); (case g1 => walk_at "nm"))
  | ((with_reducible refine' r_lenD hA ?g1 ?_); (case g1 => walk_at "nm"))
  | ((with_reducible refine' r_tqT hA ?g1 ?_); (case g1 => walk_at "nm"))
  | (((with_reducible refine' w_setL [] (o := .non) hA ?g1 ?g2 ?g3 ?_); (case g1 => walk_at "ni"); (case g2 => walk_at "nc"); (case g3 => walk_at "nl")); (try clear hA); intro H hA; dsimp only [List.set, Int.toNat, List.cons_append, List.nil_append] at hA)
  | (((with_reducible refine' w_setL [_] (o := .non) hA ?g1 ?g2 ?g3 ?_); (case g1 => walk_at "ni"); (case g2 => walk_at "nc"); (case g3 => walk_at "nl")); (try clear hA); intro H hA; dsimp only [List.set, Int.toNat, List.cons_append, List.nil_append] at hA)
  | (((with_reducible refine' w_setL [_, _] (o := .non) hA ?g1 ?g2 ?g3 ?_); (case g1 => walk_at "ni"); (case g2 => walk_at "nc"); (case g3 => walk_at "nl")); (try clear hA); intro H hA; dsimp only [List.set, Int.toNat, List.cons_append, List.nil_append] at hA)
  | (((with_reducible refine' w_setL [_, _, _] (o := .non) hA ?g1 ?g2 ?g3 ?_); (case g1 => walk_at "ni"); (case g2 => walk_at "nc"); (case g3 => walk_at "nl")); (try clear hA); intro H hA; dsimp only [List.set, Int.toNat, List.cons_append, List.nil_append] at hA)
  | ((with_reducible refine' s_bm ?_); skip)
  | (((with_reducible refine' w_append [] hA ?g1 ?g2 ?_); (case g1 => walk_at "ni"); (case g2 => walk_at "nl")); (try clear hA); intro H hA; dsimp only [List.set, Int.toNat, List.cons_append, List.nil_append] at hA)
  | (((with_reducible refine' w_append [_] hA ?g1 ?g2 ?_); (case g1 => walk_at "ni"); (case g2 => walk_at "nl")); (try clear hA); intro H hA; dsimp only [List.set, Int.toNat, List.cons_append, List.nil_append] at hA)
  | (((with_reducible refine' w_append [_, _] hA ?g1 ?g2 ?_); (case g1 => walk_at "ni"); (case g2 => walk_at "nl")); (try clear hA); intro H hA; dsimp only [List.set, Int.toNat, List.cons_append, List.nil_append] at hA)
  | (((with_reducible refine' w_append [_, _, _] hA ?g1 ?g2 ?_); (case g1 => walk_at "ni"); (case g2 => walk_at "nl")); (try clear hA); intro H hA; dsimp only [List.set, Int.toNat, List.cons_append, List.nil_append] at hA)
  | ((with_reducible refine' ⟨ty_lst hA ?g1, ?_⟩); (case g1 => walk_at "nm"))
  | ((with_reducible refine' r_isi hA ?g1 ?g2 ?_); (case g1 => walk_at "nt"); (case g2 => walk_at "nb"))
  | (((with_reducible refine' r_lstRg hA ?g1 ?g2 ?_); (case g1 => walk_at "nc"); (case g2 => walk_at "nc")); intro p H hA)
  | (((with_reducible refine' r_list hA ?g1 ?_); (case g1 => walk_at "nh")); intro p H hA)
  | (((with_reducible refine' r_slL hA ?g1 ?_); (case g1 => walk_at "nh")); intro p H hA)
  | (((with_reducible refine' r_listT hA ?g1 ?_); (case g1 => walk_at "nm")); intro p H hA)
  | (((with_reducible refine' r_listD hA ?g1 ?_); (case g1 => walk_at "nm")); intro p H hA)
  | (((with_reducible refine' r_tuple hA ?g1 ?_); (case g1 => walk_at "nh")); intro v H hA)
  | (((with_reducible refine' r_slT hA ?g1 ?_); (case g1 => walk_at "nm")); intro v H hA)
  | (((with_reducible refine' r_lstRev hA ?g1 ?_); (case g1 => walk_at "nh")); intro p H hA)
  | ((with_reducible refine' s_tup ?_); skip)
  | ((with_reducible refine' s_lst ?_); skip)
  | (((with_reducible refine' r_tup hA ?g1 ?g2 ?_); (case g1 => walk_at "na"); (case g2 => walk_at "nl")); intro v H hA)
  | (with_reducible refine' r_dnew hA ?_; intro p H hA)
  | (((with_reducible refine' r_fdO hA ?g1 ?g2 ?g3 ?g4 ?_); (case g1 => walk_at "nm"); (case g2 => walk_at "nf"); (case g3 => walk_at "nf"); (case g4 => rfl)); intro v hA)
  | (((with_reducible refine' r_fd hA ?g1 ?g2 ?g3 ?g4 ?_); (case g1 => walk_at "nm"); (case g2 => walk_at "nf"); (case g3 => walk_at "nf"); (case g4 => rfl)); intro v hA)
  | (with_reducible refine' i_dec (fun hc => ?_) (fun hc => ?_))
  | (with_reducible refine' i_ndec (fun hc => ?_) (fun hc => ?_))
  | (with_reducible refine' i_ne (fun hc => ?_) (fun hc => ?_))
  | (with_reducible refine' i_em (fun hc => ?_) (fun hc => ?_)))
section
variable {P : Program} {w : World} {K : PySem.W.Frag} {mg : PySem.Str → Option Value} {base : Heap}
def sp__law_asked (K : PySem.W.Frag) : Sp := fun vs H Q E => ∃ (R : RL) (L : LL) (nv mv : V) (W : Wd) (xs : List V), vs = [nv, mv] ∧ At R L H ∧ (W.Ok) ∧ (NetAt K W R nv) ∧ ((D.tup (xs.map D.sc), mv) ∈ R) ∧ (∀ x ∈ xs, okB x) ∧ (xs.length ≤ 100) ∧ (mkB W.ps.length xs = false → ∀ u H', At ((D.tup [D.str "InvalidMarking", .tup (xs.map D.sc), D.bl true], u) :: R) L H' → Q u H') ∧ (∀ ms, xs = ms.map V.int → MkOk W.ps.length ms → 12 < (rdy W ms).length → ∀ u H', At ((D.tup [D.str "TooLarge", D.int 12, D.bl true], u) :: R) L H' → Q u H') ∧ (∀ ms, xs = ms.map V.int → MkOk W.ps.length ms → (rdy W ms).length ≤ 12 → ∀ u p H', At ((D.tup [D.str "steps", .sc (.ref p), D.bl true], u) :: R) ((p, OD.lst ((dueS W ms).map (nmT W))) :: L) H' → Q u H')
theorem r_asked {R : RL} {L : LL} {H : Hp} {Q : VK} {E : XK} {nv mv : V} {W : Wd} {xs : List V} (hA : At R L H) (o : W.Ok) (m : NetAt K W R nv) (m2 : (D.tup (xs.map D.sc), mv) ∈ R) (hx : ∀ x ∈ xs, okB x) (hl : xs.length ≤ 100) (q1 : mkB W.ps.length xs = false → ∀ u H', At ((D.tup [D.str "InvalidMarking", .tup (xs.map D.sc), D.bl true], u) :: R) L H' → Q u H') (q2 : ∀ ms, xs = ms.map V.int → MkOk W.ps.length ms → 12 < (rdy W ms).length → ∀ u H', At ((D.tup [D.str "TooLarge", D.int 12, D.bl true], u) :: R) L H' → Q u H') (q : ∀ ms, xs = ms.map V.int → MkOk W.ps.length ms → (rdy W ms).length ≤ 12 → ∀ u p H', At ((D.tup [D.str "steps", .sc (.ref p), D.bl true], u) :: R) ((p, OD.lst ((dueS W ms).map (nmT W))) :: L) H' → Q u H') : sp__law_asked K [nv, mv] H Q E := ⟨R, L, nv, mv, W, xs, rfl, hA, o, m, m2, hx, hl, q1, q2, q⟩
set_option hygiene false in
local macro_rules | `(tactic| walk_at "term _law_asked") => `(tactic| refine ⟨_, PSs.nox (pss_cons (ps_tryA rfl rfl sc__law_asked.nd (takes0 (X := _)) (fun W pn xe hT hP => (pss_one (ps_set (i := 2) sc__law_asked.nd rfl (Or.inl rfl) (pe_fnS (F_steps (P := P) (K := K) (mg := mg) B) hr (by decide) hT rfl (pa_cons (pv 0) (pa_cons (pv 1) pa_nil))))))
  (HdsA.as_ (i := 3) ⟨rfl, by decide, .inl B.g_InvalidMarking⟩ rfl rfl (fun a oe cls d pn hz hf => pss_when (C := He.ga K "InvalidMarking") hz fun dd hz1 => (pss_cons (ps_set (i := 4) sc__law_asked.nd rfl (Or.inl rfl) (pe_and (pe_callB (call_isX B.xc_InvalidMarking hz1 hf) (by rfl) B.T.isinstance (by decide +kernel) (pa_cons (pv 3) (pa_cons (pe_glob (v := .ref (He.ga K "NetError")) rfl B.g_NetError rfl) pa_nil))) (pe_and (pe_callB (call_isX B.xc_InvalidMarking hz1 hf) (by rfl) B.T.isinstance (by decide +kernel) (pa_cons (pv 3) (pa_cons (pe_bltn (v := .ty "ValueError") (u := .type "ValueError") (by rfl) B.T.ValueError (by decide +kernel) rfl) pa_nil))) (pe_one (pe_not (pe_callB (call_isX B.xc_InvalidMarking hz1 hf) (by rfl) B.T.isinstance (by decide +kernel) (pa_cons (pv 3) (pa_cons (pe_glob (v := .ref (He.ga K "OverLimit")) rfl B.g_OverLimit rfl) pa_nil))))))))
  (pss_one (ps_ret (pe_tup (pa_cons pe_str (pa_cons (pe_xf B.xf_InvalidMarking B.xno_InvalidMarking hz1 hf (pv 3)) (pa_cons (pv 4) pa_nil)))))))) (HdsA.as_ (i := 3) ⟨rfl, by decide, .inl B.g_TooLarge⟩ rfl rfl (fun a oe cls d pn hz hf => pss_when (C := He.ga K "TooLarge") hz fun dd hz1 => (pss_cons (ps_set (i := 4) sc__law_asked.nd rfl (Or.inl rfl) (pe_and (pe_callB (call_isX B.xc_TooLarge hz1 hf) (by rfl) B.T.isinstance (by decide +kernel) (pa_cons (pv 3) (pa_cons (pe_glob (v := .ref (He.ga K "OverLimit")) rfl B.g_OverLimit rfl) pa_nil))) (pe_and (pe_callB (call_isX B.xc_TooLarge hz1 hf) (by rfl) B.T.isinstance (by decide +kernel) (pa_cons (pv 3) (pa_cons (pe_glob (v := .ref (He.ga K "NetError")) rfl B.g_NetError rfl) pa_nil))) (pe_one (pe_callB (call_isX B.xc_TooLarge hz1 hf) (by rfl) B.T.isinstance (by decide +kernel) (pa_cons (pv 3) (pa_cons (pe_bltn (v := .ty "ValueError") (u := .type "ValueError") (by rfl) B.T.ValueError (by decide +kernel) rfl) pa_nil)))))))
  (pss_one (ps_ret (pe_tup (pa_cons pe_str (pa_cons (pe_xf B.xf_TooLarge B.xno_TooLarge hz1 hf (pv 3)) (pa_cons (pe_and (pv 4) (pe_one (pe_not (pe_callB (call_isX B.xc_TooLarge hz1 hf) (by rfl) B.T.isinstance (by decide +kernel) (pa_cons (pv 3) (pa_cons (pe_glob (v := .ref (He.ga K "TooMany")) rfl B.g_TooMany rfl) pa_nil)))))) pa_nil)))))))) HdsA.nil)))
  (pss_one (ps_ret (pe_tup (pa_cons pe_str (pa_cons (pv 2) (pa_cons pe_bl pa_nil))))))), ?_⟩)
theorem F__law_asked (B : Bun P K mg) : Fn P w K mg base 7 "_law_asked" ["net", "marking"] (sp__law_asked K) := by
  refine B.d__law_asked.fn (k := 6) sc__law_asked (fun vs H Q E h => ?_) (fun _ _ _ _ _ _ us hl => match us, hl with | [_, _], _ => rfl) fun f cdv A outer s H vs Q E hr h => ?_
  · obtain ⟨_, _, _, _, _, _, rfl, _⟩ := h
    rfl
  · obtain ⟨R, L, nv, mv, W, xs, rfl, hA, o, m, m2, hx, hl, q1, q2, q⟩ := h
    walk_at "term _law_asked"
    repeat' walk_at "nw"
    refine r_steps hA o m m2 hx hl (fun hb d H hA => ?_) (fun ms e hm h12 d H hA => ?_) fun ms e hm h12 p H hA => ?_
    · refine ⟨true, B.em_InvalidMarking_InvalidMarking, fun _ ax hax => ⟨d, rfl, rfl, ?_⟩, fun h => by cases h⟩
      repeat' walk_at "nw"
      refine r_isX hA (.head _) B.ki_InvalidMarking_NetError ?_
      repeat' walk_at "nw"
      refine r_isXt hA (.head _) B.ki_InvalidMarking_ValueError ?_
      repeat' walk_at "nw"
      refine r_isX hA (.head _) B.ki_InvalidMarking_OverLimit ?_
      repeat' walk_at "nw"
      refine r_xf hA (.head _) rfl fun v hA => ?_
      repeat' walk_at "nw"
      refine r_tup hA (ds := [D.str "InvalidMarking", .tup (xs.map D.sc), D.bl true]) (.cons .sc (.cons (.mem (.head _)) (.cons .sc .nil))) (by show 3 ≤ 1000000; decide) fun u H hA => ?_
      exact q1 hb _ _ (At.sub hA.forget fun x m => (List.mem_cons.mp m).elim (fun e => e ▸ List.mem_cons_self) fun m => by walk_at "mm")
    · refine ⟨false, B.em_TooLarge_InvalidMarking, (fun h => by cases h), fun _ => ⟨true, B.em_TooLarge_TooLarge, fun _ ax hax => ⟨d, rfl, rfl, ?_⟩, fun h => by cases h⟩⟩
      repeat' walk_at "nw"
      refine r_isX hA (.head _) B.ki_TooLarge_OverLimit ?_
      repeat' walk_at "nw"
      refine r_isX hA (.head _) B.ki_TooLarge_NetError ?_
      repeat' walk_at "nw"
      refine r_isXt hA (.head _) B.ki_TooLarge_ValueError ?_
      repeat' walk_at "nw"
      refine r_xf hA (.head _) rfl fun v hA => ?_
      repeat' walk_at "nw"
      refine r_isX hA (.head _) B.ki_TooLarge_TooMany ?_
      repeat' walk_at "nw"
      refine r_tup hA (ds := [D.str "TooLarge", D.int 12, D.bl true]) (.cons .sc (.cons (.mem (.head _)) (.cons .sc .nil))) (by show 3 ≤ 1000000; decide) fun u H hA => ?_
      exact q2 ms e hm h12 _ _ (At.sub hA.forget fun x m => (List.mem_cons.mp m).elim (fun e => e ▸ List.mem_cons_self) fun m => by walk_at "mm")
    · repeat' walk_at "nw"
      refine r_tup hA (ds := [D.str "steps", .sc (.ref p), D.bl true]) (.cons .sc (.cons .sc (.cons .sc .nil))) (by show 3 ≤ 1000000; decide) fun u H hA => ?_
      exact q ms e hm h12 _ _ _ hA
theorem dueS_slen {W : Wd} {ms : List Int} (o : W.Ok) (hm : MkOk W.ps.length ms) (h : (rdy W ms).length ≤ 12) {S : List Nat} (hS : S ∈ dueS W ms) : S.length ≤ 12 := by
  obtain ⟨f, hf, rfl⟩ := List.mem_map.mp hS
  exact Nat.le_trans ((due_ok o hm (.refl _)).1 f hf).2.1.length_le h
theorem mkB_true {n : Nat} {ms : List Int} (h : MkOk n ms) : mkB n (ms.map V.int) = true := by
  unfold mkB
  rw [List.length_map, decide_eq_true h.1, Bool.true_and, List.all_eq_true]
  intro x hx
  obtain ⟨i, hi, rfl⟩ := List.mem_map.mp hx
  exact decide_eq_true (h.2 i hi)
theorem ints_ok' (ms : List Int) : ∀ x ∈ ms.map V.int, okB x := fun x hx => by
  obtain ⟨i, _, rfl⟩ := List.mem_map.mp hx
  exact True.intro
theorem ints_inj {ms ms' : List Int} (h : ms.map V.int = ms'.map V.int) : ms = ms' := List.map_inj_right (fun _ _ e => V.int.inj e) |>.mp h
def sp__law_agrees (K : PySem.W.Frag) : Sp := fun vs H Q E => ∃ (R : RL) (L : LL) (nv wv mv : V) (W : Wd) (ms : List Int), vs = [nv, wv, mv] ∧ At R L H ∧ (W.Ok) ∧ (NetAt K W R nv) ∧ ((W.D, wv) ∈ R) ∧ ((D.tup (ms.map D.int), mv) ∈ R) ∧ (MkOk W.ps.length ms) ∧ (∀ H', At R L H' → Q (.bl true) H')
theorem r_agrees {R : RL} {L : LL} {H : Hp} {Q : VK} {E : XK} {nv wv mv : V} {W : Wd} {ms : List Int} (hA : At R L H) (o : W.Ok) (m : NetAt K W R nv) (m1 : (W.D, wv) ∈ R) (m2 : (D.tup (ms.map D.int), mv) ∈ R) (hm : MkOk W.ps.length ms) (q : ∀ H', At R L H' → Q (.bl true) H') : sp__law_agrees K [nv, wv, mv] H Q E := ⟨R, L, nv, wv, mv, W, ms, rfl, hA, o, m, m1, m2, hm, q⟩
set_option hygiene false in
local macro_rules | `(tactic| walk_at "term _law_agrees") => `(tactic| refine ⟨_, PSs.nox (pss_cons (ps_set (i := 3) sc__law_agrees.nd rfl (Or.inl rfl) (pe_fn (F__law_due (P := P) (K := K) (mg := mg) B) hr (by decide) passL rfl (pa_cons (pv 1) (pa_cons (pv 2) pa_nil))))
  (pss_cons (ps_set (i := 4) sc__law_agrees.nd rfl (Or.inl rfl) (pe_fn (F__law_asked (P := P) (K := K) (mg := mg) B) hr (by decide) passL rfl (pa_cons (pv 0) (pa_cons (pv 2) pa_nil))))
  (pss_cons (ps_set (i := 5) sc__law_agrees.nd rfl (Or.inl rfl) (pe_ix (ix_tupK K rfl) (pv 4) pe_int (fun _ _ => rfl)))
  (pss_cons (ps_if (pt_cmpR op_isN (pv 3) pe_non (nomark _))
  (pss_one (ps_ret (pe_and (pe_cmpR op_eq (pe_ix (ix_tupK K rfl) (pv 4) pe_int (fun _ _ => rfl)) pe_str (nomark _)) (pe_and (pe_ix (ix_tupK K rfl) (pv 4) pe_int (fun _ _ => rfl)) (pe_and (pe_callB (call_isiK' K rfl) (by rfl) B.T.isinstance (by decide +kernel) (pa_cons (pv 5) (pa_cons (pe_bltn (v := .ty "int") (u := .type "int") (by rfl) B.T.int (by decide +kernel) rfl) pa_nil))) (pe_one (pe_cmpR (op_eqDK K rfl (hu_le hr (by decide))) (pv 5) pe_int (nomark _))))))))
  pss_nil)
  (pss_cons (ps_if (PW.pt (pw_or (pt_cmpR op_ne (pe_ix (ix_tupK K rfl) (pv 4) pe_int (fun _ _ => rfl)) pe_str (nomark _)) (pw_or (pt_not (pt_val (pe_callB (call_isiTK K rfl) (by rfl) B.T.isinstance (by decide +kernel) (pa_cons (pv 5) (pa_cons (pe_tup (pa_cons (pe_bltn (v := .ty "list") (u := .type "list") (by rfl) B.T.list (by decide +kernel) rfl) (pa_cons (pe_bltn (v := .ty "tuple") (u := .type "tuple") (by rfl) B.T.tuple (by decide +kernel) rfl) pa_nil))) pa_nil))))) (pw_or1 (pt_cmpR op_ne (pe_callB (call_len_seqK K rfl) (by rfl) B.T.len (by decide +kernel) (pa_cons (pv 5) pa_nil)) (pe_callB (call_len_seqK K rfl) (by rfl) B.T.len (by decide +kernel) (pa_cons (pv 3) pa_nil)) (nomark _))))))
  (pss_one (ps_ret pe_bl))
  pss_nil)
  (pss_cons (ps_for PassesOwn.never rfl (pi_range1 rfl B.T.range (pa_cons (pe_callB (call_len_seqK K rfl) (by rfl) B.T.len (by decide +kernel) (pa_cons (pv 3) pa_nil)) pa_nil)) (pg_name (i := 6) sc__law_agrees.nd rfl (Or.inl rfl))
  (pss_cons (ps_set (i := 7) sc__law_agrees.nd rfl (Or.inl rfl) (pe_ix (ix_listK K rfl) (pv 5) (pv 6) (fun _ _ => rfl)))
  (pss_cons (ps_if (PW.pt (pw_or (pt_not (pt_val (pe_callB (call_isiK' K rfl) (by rfl) B.T.isinstance (by decide +kernel) (pa_cons (pv 7) (pa_cons (pe_bltn (v := .ty "tuple") (u := .type "tuple") (by rfl) B.T.tuple (by decide +kernel) rfl) pa_nil))))) (pw_or1 (pt_cmpR op_ne (pe_callB (call_len_seqK K rfl) (by rfl) B.T.len (by decide +kernel) (pa_cons (pv 7) pa_nil)) (pe_callB (call_len_seqK K rfl) (by rfl) B.T.len (by decide +kernel) (pa_cons (pe_ix (ix_listK K rfl) (pv 3) (pv 6) (fun _ _ => rfl)) pa_nil)) (nomark _)))))
  (pss_one (ps_ret pe_bl))
  pss_nil)
  (pss_one (ps_for PassesOwn.never rfl (pi_range1 rfl B.T.range (pa_cons (pe_callB (call_len_seqK K rfl) (by rfl) B.T.len (by decide +kernel) (pa_cons (pv 7) pa_nil)) pa_nil)) (pg_name (i := 8) sc__law_agrees.nd rfl (Or.inl rfl))
  (pss_one (ps_if (PW.pt (pw_or (pt_not (pt_val (pe_callB (call_isiK' K rfl) (by rfl) B.T.isinstance (by decide +kernel) (pa_cons (pe_ix (ix_tupK K rfl) (pv 7) (pv 8) (fun _ _ => rfl)) (pa_cons (pe_bltn (v := .ty "str") (u := .type "str") (by rfl) B.T.str (by decide +kernel) rfl) pa_nil))))) (pw_or1 (pt_cmpR op_ne (pe_ix (ix_tupK K rfl) (pv 7) (pv 8) (fun _ _ => rfl)) (pe_ix (ix_tupK K rfl) (pe_ix (ix_listK K rfl) (pv 3) (pv 6) (fun _ _ => rfl)) (pv 8) (fun _ _ => rfl)) (nomark _)))))
  (pss_one (ps_ret pe_bl))
  pss_nil)))))))
  (pss_cons (ps_if (pt_val (pe_callB (call_isiK' K rfl) (by rfl) B.T.isinstance (by decide +kernel) (pa_cons (pv 5) (pa_cons (pe_bltn (v := .ty "list") (u := .type "list") (by rfl) B.T.list (by decide +kernel) rfl) pa_nil))))
  (pss_cons (ps_expr (pe_bm PySem.F.plainAttrs_list PySem.F.slot_list_append PySem.F.type_list_append mt_append (pv 5) (pa_cons (pe_tup (pa_cons pe_str pa_nil)) pa_nil)))
  (pss_one (ps_asg (pe_tup pa_nil) (pg_sub (pv 5) pe_int set_list))))
  pss_nil)
  (pss_one (ps_ret pe_bl))))))))), ?_⟩)
theorem F__law_agrees (B : Bun P K mg) : Fn P w K mg base 8 "_law_agrees" ["net", "world", "marking"] (sp__law_agrees K) := by
  refine B.d__law_agrees.fn (k := 7) sc__law_agrees (fun vs H Q E h => ?_) (fun _ _ _ _ _ _ us hl => match us, hl with | [_, _, _], _ => rfl) fun f cdv A outer s H vs Q E hr h => ?_
  · obtain ⟨_, _, _, _, _, _, _, rfl, _⟩ := h
    rfl
  · obtain ⟨R, L, nv, wv, mv, W, ms, rfl, hA, o, m, m1, m2, hm, q⟩ := h
    have p60 := o.pl
    have hml := hm.1
    walk_at "term _law_agrees"
    repeat' walk_at "nw"
    have contra : mkB W.ps.length (ms.map V.int) = false → False := fun h => by rw [mkB_true hm] at h; cases h
    refine r_due hA o m1 m2 hm (fun h12 H hA => ?_) fun h12 dv H hA => ?_
    · repeat' walk_at "nw"
      refine r_asked hA o m (by rw [ints_D]; exact m2) (ints_ok' ms) (by rw [List.length_map]; omega) (fun h => (contra h).elim) (fun ms' e' hm' h12' u H hA => ?_) fun ms' e' hm' h12' => ?_
      rotate_left
      · obtain rfl := ints_inj e'
        omega
      · repeat' walk_at "nw"
        · refine r_eqH hA .s .s rfl rfl ?_
          rw [eqv_int]
          exact q _ hA.drop
        · exact absurd rfl hc
    · obtain ⟨db, _, rfl, _⟩ := hA.lstR (List.mem_cons_self)
      repeat' walk_at "nw"
      refine r_asked hA o (m.mono fun x hx => .tail _ hx) (by rw [ints_D]; exact .tail _ m2) (ints_ok' ms) (by rw [List.length_map]; omega) (fun h => (contra h).elim) (fun ms' e' hm' h12' => ?_) fun ms' e' hm' h12' u p H hA => ?_
      · obtain rfl := ints_inj e'
        omega
      · obtain rfl := ints_inj e'
        have d4 := dueS_len (W := W) (ms := ms) h12
        have spair : ∀ {H : Hp} {Q2 : VK} {σ : L2.St}, At ((D.tup [D.str "steps", .sc (.ref p), D.bl true], u) :: (D.lst ((dueS W ms).map (nmT W)), .ref db) :: R) ((p, .lst ((dueS W ms).map (nmT W))) :: L) H → (∀ H, At ((D.tup [D.str "steps", .sc (.ref p), D.bl true], u) :: (D.lst ((dueS W ms).map (nmT W)), .ref db) :: R) ((p, .lst ((dueS W ms).map (nmT W))) :: L) H → Q2 (.bl true) H) → NewT [V.ty "list", V.ty "tuple"] (fun x H1 => tNil σ H1 fun xs H2 => BR (rIsiT K) (V.ref p :: x :: xs) H2 Q2) H := by
          intro H Q2 σ hA q
          exact ⟨by decide, fun tp htp => r_isiT (ns := ["list", "tuple"]) hA htp (.own (.head _)) (by decide +kernel) q⟩
        repeat' walk_at "nw"
        · exact absurd rfl hc
        refine spair hA fun H hA => ?_
        repeat' walk_at "nw"
        · exact absurd rfl hc
        refine s_for (s_iRng1 ?_)
        repeat' walk_at "nw"
        refine src_rng (by omega) (by rw [List.length_map]; omega) fun W1 => for_D W1 hA (fun i σ L' => (∃ c c1 c2, σ = [some nv, some wv, some mv, some (.ref db), some u, some (.ref p), c, c1, c2]) ∧ L' = (p, .lst ((dueS W ms).map (nmT W))) :: L) ?_ ?_ ?_ ?_
        · exact ⟨⟨_, _, _, rfl⟩, rfl⟩
        · exact fun _ _ _ _ => True.intro
        · rintro i d v σ L1 H hd ⟨⟨c, c1, c2, rfl⟩, rfl⟩ hA
          obtain ⟨hi, rfl⟩ := rng0_get hd
          obtain rfl : v = .int (i : Nat) := hA.sc_of
          replace hA := hA.drop
          rw [Int.toNat_natCast, List.length_map] at hi
          have hS : (dueS W ms)[i]? = some ((dueS W ms).getD i []) := get_D hi
          obtain ⟨S, eS⟩ : ∃ S, S = (dueS W ms).getD i [] := ⟨_, rfl⟩
          rw [← eS] at hS
          have hsub := (dueS_sub o hm (List.mem_of_getElem? hS)).2
          repeat' walk_at "nw"
          refine r_ixO hA (.head _) (by omega) (by rw [Int.toNat_natCast]; exact map_get hS) fun rv hA => ?_
          unfold nmT at hA
          repeat' walk_at "nw"
          refine r_ixL hA (by walk_at "mm") (by omega) (by rw [Int.toNat_natCast]; exact map_get hS) fun rv2 hA => ?_
          repeat' walk_at "nw"
          · exact absurd rfl hc
          dsimp only
          refine s_for (s_iRng1 ?_)
          repeat' walk_at "nw"
          rw [List.length_map]
          refine src_rng (by omega) (by have := (dueS_sub o hm (List.mem_of_getElem? hS)); have := dueS_slen o hm h12 (List.mem_of_getElem? hS); omega) fun W2 => for_D W2 hA (fun j σ L' => (∃ c, σ = [some nv, some wv, some mv, some (.ref db), some u, some (.ref p), some (.int (i : Nat)), some rv, c]) ∧ L' = (p, .lst ((dueS W ms).map (nmT W))) :: L) ?_ ?_ ?_ ?_
          · exact ⟨⟨_, rfl⟩, rfl⟩
          · exact fun _ _ _ _ => True.intro
          · rintro j d v σ L1 H hd ⟨⟨c, rfl⟩, rfl⟩ hA
            obtain ⟨hj, rfl⟩ := rng0_get hd
            obtain rfl : v = .int (j : Nat) := hA.sc_of
            replace hA := hA.drop
            rw [Int.toNat_natCast] at hj
            have hk : S[j]? = some (S.getD j 0) := get_D hj
            repeat' walk_at "nw"
            refine r_ixTs (ds := S.map fun k => D.str (nm W.ts k)) hA (by walk_at "mm") (by omega) (by rw [Int.toNat_natCast]; exact map_get hk) ?_
            repeat' walk_at "nw"
            refine r_ixTs (ds := S.map fun k => D.str (nm W.ts k)) hA (by walk_at "mm") (by omega) (by rw [Int.toNat_natCast]; exact map_get hk) ?_
            repeat' walk_at "nw"
            refine r_ixL (ds := (dueS W ms).map (nmT W)) hA (by walk_at "mm") (by omega) (by rw [Int.toNat_natCast]; exact map_get hS) fun rv3 hA => ?_
            unfold nmT at hA
            repeat' walk_at "nw"
            refine r_ixTs (ds := S.map fun k => D.str (nm W.ts k)) hA (by walk_at "mm") (by omega) (by rw [Int.toNat_natCast]; exact map_get hk) ?_
            repeat' walk_at "nw"
            · exact absurd rfl hc
            · exact ⟨_, ⟨⟨_, rfl⟩, rfl⟩, hA.drop⟩
          · rintro σ L1 H ⟨⟨c, rfl⟩, rfl⟩ hA
            exact ⟨_, ⟨⟨_, _, _, rfl⟩, rfl⟩, hA.drop.drop⟩
        · rintro σ L1 H ⟨⟨c, c1, c2, rfl⟩, rfl⟩ hA
          repeat' walk_at "nw"
          refine r_tup hA (ds := [D.str "spoilt"]) (.cons .sc .nil) (by show 1 ≤ 1000000; decide) fun sv H hA => ?_
          repeat' walk_at "nw"
          have hA := hA.forget
          exact q _ (by walk_at "dr")
end
end K26
set_option maxRecDepth 100000
set_option maxHeartbeats 4000000
namespace K26
open PySem PySem.Spec PyProof.Rows L2 Nw
open PySem.W (Datum DatumOrd Tup)
set_option hygiene false in
local macro_rules | `(tactic| walk_at "nf") => `(tactic| first | exact B.n_cls | exact B.n_places | exact B.n_transitions | exact B.n_start | exact B.n_index | exact B.n_takes | exact B.n_gives | exact B.n_takers | exact B.n_givers | exact B.n_labels)
local macro_rules | `(tactic| walk_at "nm") => `(tactic| first | exact .head _ | exact .tail _ (.head _) | exact .tail _ (.tail _ (.head _)) | exact .tail _ (.tail _ (.tail _ (.head _))) | exact .tail _ (.tail _ (.tail _ (.tail _ (.head _)))) | exact .tail _ (.tail _ (.tail _ (.tail _ (.tail _ (.head _))))) | exact .tail _ (.tail _ (.tail _ (.tail _ (.tail _ (.tail _ (.head _)))))) | exact List.mem_append_right _ (.head _) | exact List.mem_append_right _ (.tail _ (.head _)) | exact .tail _ (List.mem_append_right _ (.head _)) | exact .tail _ (.tail _ (List.mem_append_right _ (.head _))) | exact .tail _ (.tail _ (.tail _ (List.mem_append_right _ (.head _)))) | (repeat (first | assumption | exact List.mem_cons_self | refine List.mem_cons_of_mem _ ?_)))
set_option hygiene false in
local macro_rules | `(tactic| walk_at "dr") => `(tactic| repeat (first | exact hA | apply At.drop))
local macro_rules | `(tactic| walk_at "mm") => `(tactic| repeat (first | assumption | exact List.mem_cons_self | refine List.mem_cons_of_mem _ ?_))
local macro_rules | `(tactic| walk_at "nb") => `(tactic| first | exact isT_int_int | exact isT_int_bool | exact isT_int_str | exact isT_int_list | exact isT_int_tuple | exact isT_bool_int | exact isT_bool_bool | exact isT_bool_str | exact isT_bool_list | exact isT_bool_tuple | exact isT_str_int | exact isT_str_bool | exact isT_str_str | exact isT_str_list | exact isT_str_tuple | exact isT_NoneType_int | exact isT_NoneType_bool | exact isT_NoneType_str | exact isT_NoneType_list | exact isT_NoneType_tuple | exact isT_list_int | exact isT_list_bool | exact isT_list_str | exact isT_list_list | exact isT_list_tuple | exact isT_tuple_int | exact isT_tuple_bool | exact isT_tuple_str | exact isT_tuple_list | exact isT_tuple_tuple | decide +kernel)
local macro_rules | `(tactic| walk_at "ni") => `(tactic| first | exact InR.mem (by walk_at "nm") | exact InR.sc | assumption)
local macro_rules | `(tactic| walk_at "nc") => `(tactic| first | omega | decide | (unfold CMul; omega) | (unfold CDiv; omega) | (unfold CPow; omega) | (unfold CPow; decide))
local macro_rules | `(tactic| walk_at "nl") => `(tactic| first | omega | decide | (simp only [List.length_cons, List.length_nil, List.length_append, List.length_map, List.length_set]; omega) | (simp; omega))
local macro_rules | `(tactic| walk_at "nh") => `(tactic| first | exact HasL.r (by walk_at "nm") | exact HasL.o (by walk_at "nm") | assumption)
local macro_rules | `(tactic| walk_at "na") => `(tactic| first | exact AllR.nil | (refine AllR.cons (by walk_at "ni") ?_; walk_at "na"))
local macro_rules | `(tactic| walk_at "nt") => `(tactic| first | exact HasTy.int _ | exact HasTy.str _ | exact HasTy.bl _ | exact HasTy.non | exact HasTy.lst (by walk_at "nm") | exact HasTy.tup (by walk_at "nm") | exact HasTy.own (by walk_at "nm"))
set_option hygiene false in
local macro_rules | `(tactic| walk_at "nw") => `(tactic| first
  | (with_reducible refine' s_seq ?_)
  | (with_reducible refine' s_asg ?_)
  | (with_reducible refine' s_name ?_)
  | (with_reducible refine' s_ret ?_)
  | (with_reducible refine' s_drop ?_)
  | (with_reducible refine' s_next ?_)
  | (with_reducible refine' s_op ?_)
  | (with_reducible refine' s_un ?_)
  | (with_reducible refine' s_c ?_)
  | (with_reducible refine' s_cons ?_)
  | (with_reducible refine' s_nil ?_)
  | (with_reducible refine' s_cb ?_)
  | (with_reducible refine' s_call ?_)
  | (with_reducible refine' s_callS ?_)
  | (with_reducible refine' s_test ?_)
  | (with_reducible refine' s_tb ?_)
  | (with_reducible refine' s_bl ?_)
  | (with_reducible refine' s_not ?_)
  | (with_reducible refine' s_if ?_)
  | (with_reducible refine' s_ifE ?_)
  | (with_reducible refine' s_and ?_)
  | (with_reducible refine' s_or ?_)
  | (with_reducible refine' s_andV ?_)
  | (with_reducible refine' s_orV ?_)
  | (with_reducible refine' s_notV ?_)
  | (with_reducible refine' s_sub ?_)
  | (with_reducible refine' s_chain ?_)
  | (with_reducible refine' s_sl ?_)
  | (with_reducible refine' s_noPart ?_)
  | (with_reducible refine' s_part ?_)
  | (with_reducible refine' r_part ?_)
  | (with_reducible refine' s_m1 ?_)
  | (with_reducible refine' s_fldQ ?_)
  | (with_reducible refine' s_setF ?_)
  | (with_reducible refine' s_cvalQ ?_)
  | (with_reducible refine' s_lstRev ?_)
  | (with_reducible refine' s_dgetQ ?_)
  | (with_reducible refine' s_din ?_)
  | (with_reducible refine' s_dnotin ?_)
  | (with_reducible refine' s_dput ?_)
  | (with_reducible refine' s_dget2Q ?_)
  | (with_reducible refine' s_mkX1 ?_)
  | (with_reducible refine' s_make ?_)
  | (with_reducible refine' s_lstRg ?_)
  | (with_reducible refine' s_tru ?_)
  | (with_reducible refine' s_star ?_)
  | (with_reducible refine' s_xf ?_)
  | (with_reducible refine' s_yes ?_)
  | (with_reducible refine' r_I0 ?_)
  | (with_reducible refine' r_U ?_)
  | (with_reducible refine' r_eqI ?_)
  | (with_reducible refine' r_neI ?_)
  | (with_reducible refine' r_eqS ?_)
  | (with_reducible refine' r_neS ?_)
  | (with_reducible refine' n_isR ?_)
  | (with_reducible refine' n_isN ?_)
  | (with_reducible refine' n_isI ?_)
  | (with_reducible refine' n_isS ?_)
  | (with_reducible refine' n_isB ?_)
  | (with_reducible refine' n_ntR ?_)
  | (with_reducible refine' n_ntN ?_)
  | (with_reducible refine' n_ntI ?_)
  | (with_reducible refine' n_ntS ?_)
  | (with_reducible refine' n_ntB ?_)
  | (with_reducible refine' i_t ?_)
  | (with_reducible refine' i_f ?_)
  | (with_reducible refine' i_nt ?_)
  | (with_reducible refine' i_nf ?_)
  | ((with_reducible refine' s_var ?g1 ?_); (case g1 => rfl))
  | ((with_reducible refine' r_I ?g1 ?_); (case g1 => walk_at "nc"))
  | ((with_reducible refine' w_int ?_))
  | ((with_reducible refine' w_abs ?_))
  | ((with_reducible refine' r_max2 ?_))
  | ((with_reducible refine' r_lenS ?g1 ?_); (case g1 => walk_at "nl"))
  | ((with_reducible refine' r_addS ?g1 ?_); (case g1 => walk_at "nl"))
  | ((with_reducible refine' r_slS ?g1 ?_); (case g1 => walk_at "nl"))
  | ((with_reducible refine' r_inS ?_))
  | ((with_reducible refine' r_ixOs hA ?g1 ?g2 ?g3 ?_); (case g1 => walk_at "nm"); (case g2 => walk_at "nc"); (case g3 => rfl))
  | ((with_reducible refine' r_ixLs hA ?g1 ?g2 ?g3 ?_); (case g1 => walk_at "nm"); (case g2 => walk_at "nc"); (case g3 => rfl))
  | ((with_reducible refine' r_ixTs hA ?g1 ?g2 ?g3 ?_); (case g1 => walk_at "nm"); (case g2 => walk_at "nc"); (case g3 => rfl))
  | (((with_reducible refine' r_ixO hA ?g1 ?g2 ?g3 ?_); (case g1 => walk_at "nm"); (case g2 => walk_at "nc"); (case g3 => rfl)); intro v hA)
  | (((with_reducible refine' r_ixL hA ?g1 ?g2 ?g3 ?_); (case g1 => walk_at "nm"); (case g2 => walk_at "nc"); (case g3 => rfl)); intro v hA)
  | (((with_reducible refine' r_ixT hA ?g1 ?g2 ?g3 ?_); (case g1 => walk_at "nm"); (case g2 => walk_at "nc"); (case g3 => rfl)); intro v hA)
  | ((with_reducible refine' r_lenO hA ?g1 ?_); (case g1 => walk_at "nm"))
  | ((with_reducible refine' r_lenL hA ?g1 ?_); (case g1 => walk_at "nm"))
  | ((with_reducible refine' r_lenT hA ?g1 ?_); (case g1 => walk_at "nm"))
  | ((with_reducible refine' r_lenD hA ?g1 ?_); (case g1 => walk_at "nm"))
  | ((with_reducible refine' r_tqT hA ?g1 ?_); (case g1 => walk_at "nm"))
  | (((with_reducible refine' w_setL [] (o := .non) hA ?g1 ?g2 ?g3 ?_); (case g1 => walk_at "ni"); (case g2 => walk_at "nc"); (case g3 => walk_at "nl")); (try clear hA); intro H hA; dsimp only [List.set, Int.toNat, List.cons_append, List.nil_append] at hA)
  | (((with_reducible refine' w_setL [_] (o := .non) hA ?g1 ?g2 ?g3 ?_); (case g1 => walk_at "ni"); (case g2 => walk_at "nc"); (case g3 => walk_at "nl")); (try clear hA); intro H hA; dsimp only [List.set, Int.toNat, List.cons_append, List.nil_append] at hA)
  | (((with_reducible refine' w_setL [_, _] (o := .non) hA ?g1 ?g2 ?g3 ?_); (case g1 => walk_at "ni"); (case g2 => walk_at "nc"); (case g3 => walk_at "nl")); (try clear hA); intro H hA; dsimp only [List.set, Int.toNat, List.cons_append, List.nil_append] at hA)
  | (((with_reducible refine' w_setL [_, _, _] (o := .non) hA ?g1 ?g2 ?g3 ?_); (case g1 => walk_at "ni"); (case g2 => walk_at "nc"); (case g3 => walk_at "nl")); (try clear hA); intro H hA; dsimp only [List.set, Int.toNat, List.cons_append, List.nil_append] at hA)
  | ((with_reducible refine' s_bm ?_); skip)
  | (((with_reducible refine' w_append [] hA ?g1 ?g2 ?_); (case g1 => walk_at "ni"); (case g2 => walk_at "nl")); (try clear hA); intro H hA; dsimp only [List.set, Int.toNat, List.cons_append, List.nil_append] at hA)
  | (((with_reducible refine' w_append [_] hA ?g1 ?g2 ?_); (case g1 => walk_at "ni"); (case g2 => walk_at "nl")); (try clear hA); intro H hA; dsimp only [List.set, Int.toNat, List.cons_append, List.nil_append] at hA)
  | (((with_reducible refine' w_append [_, _] hA ?g1 ?g2 ?_); (case g1 => walk_at "ni"); (case g2 => walk_at "nl")); (try clear hA); intro H hA; dsimp only [List.set, Int.toNat, List.cons_append, List.nil_append] at hA)
  | (((with_reducible refine' w_append [_, _, _] hA ?g1 ?g2 ?_); (case g1 => walk_at "ni"); (case g2 => walk_at "nl")); (try clear hA); intro H hA; dsimp only [List.set, Int.toNat, List.cons_append, List.nil_append] at hA)
  | ((with_reducible refine' ⟨ty_lst hA ?g1, ?_⟩); (case g1 => walk_at "nm"))
  | ((with_reducible refine' r_isi hA ?g1 ?g2 ?_); (case g1 => walk_at "nt"); (case g2 => walk_at "nb"))
  | (((with_reducible refine' r_lstRg hA ?g1 ?g2 ?_); (case g1 => walk_at "nc"); (case g2 => walk_at "nc")); intro p H hA)
  | (((with_reducible refine' r_list hA ?g1 ?_); (case g1 => walk_at "nh")); intro p H hA)
  | (((with_reducible refine' r_slL hA ?g1 ?_); (case g1 => walk_at "nh")); intro p H hA)
  | (((with_reducible refine' r_listT hA ?g1 ?_); (case g1 => walk_at "nm")); intro p H hA)
  | (((with_reducible refine' r_listD hA ?g1 ?_); (case g1 => walk_at "nm")); intro p H hA)
  | (((with_reducible refine' r_tuple hA ?g1 ?_); (case g1 => walk_at "nh")); intro v H hA)
  | (((with_reducible refine' r_slT hA ?g1 ?_); (case g1 => walk_at "nm")); intro v H hA)
  | (((with_reducible refine' r_lstRev hA ?g1 ?_); (case g1 => walk_at "nh")); intro p H hA)
  | ((with_reducible refine' s_tup ?_); skip)
  | ((with_reducible refine' s_lst ?_); skip)
  | (((with_reducible refine' r_tup hA ?g1 ?g2 ?_); (case g1 => walk_at "na"); (case g2 => walk_at "nl")); intro v H hA)
  | (with_reducible refine' r_dnew hA ?_; intro p H hA)
  | (((with_reducible refine' r_fdO hA ?g1 ?g2 ?g3 ?g4 ?_); (case g1 => walk_at "nm"); (case g2 => walk_at "nf"); (case g3 => walk_at "nf"); (case g4 => rfl)); intro v hA)
  | (((with_reducible refine' r_fd hA ?g1 ?g2 ?g3 ?g4 ?_); (case g1 => walk_at "nm"); (case g2 => walk_at "nf"); (case g3 => walk_at "nf"); (case g4 => rfl)); intro v hA)
  | (with_reducible refine' i_dec (fun hc => ?_) (fun hc => ?_))
  | (with_reducible refine' i_ndec (fun hc => ?_) (fun hc => ?_))
  | (with_reducible refine' i_ne (fun hc => ?_) (fun hc => ?_))
  | (with_reducible refine' i_em (fun hc => ?_) (fun hc => ?_)))
section
variable {P : Program} {w : World} {K : PySem.W.Frag} {mg : PySem.Str → Option Value} {base : Heap}
theorem okV_of {x : V} (h : okB x) : okV x = true := by
  cases x with
  | str z => rw [show z = "1" from h]; decide +kernel
  | int i => rfl
  | bl b => rfl
  | non => rfl
  | _ => cases h
theorem bad_mkB {n : Nat} {xs : List V} (h : BadOk n xs) : mkB n xs = false := by
  unfold mkB
  rcases h.bad with h1 | ⟨x, hx, hb⟩
  · rw [decide_eq_false h1, Bool.false_and]
  · have : xs.all nnV = false := by
      rw [Bool.eq_false_iff]
      intro ha
      have := List.all_eq_true.mp ha x hx
      cases x with
      | int i =>
        have h1 : i < 0 := hb
        have h2 : 0 ≤ i := of_decide_eq_true this
        omega
      | _ => cases this
    rw [this, Bool.and_false]
/-! ### lists of markings compared -/
structure Lay (n : Nat) (d : D) : Prop where
  sq : d.sq = true
  lay : d.pd.canLay0 = true
  dep : d.pd.depth ≤ n
theorem Lay.cmp {n : Nat} {d : D} (h : Lay n d) (hn : n ≤ 64) : d.cmp = true := by
  unfold D.cmp SeqAt.shaped
  rw [h.sq, h.lay, decide_eq_true (Nat.le_trans h.dep hn)]
  rfl
theorem Lay.lst {n : Nat} : ∀ {ds : List D}, (∀ d ∈ ds, Lay n d) → D.sqs ds = true ∧ PyData.canLayAll0 (D.pds ds) = true ∧ PyData.depthAll (D.pds ds) ≤ n
  | [], _ => ⟨rfl, rfl, Nat.zero_le _⟩
  | d :: ds, h => by
    obtain ⟨a, b, c⟩ := Lay.lst (ds := ds) fun x hx => h x (List.mem_cons_of_mem _ hx)
    have k := h d List.mem_cons_self
    refine ⟨?_, ?_, ?_⟩
    · rw [D.sqs, k.sq, a]; rfl
    · rw [D.pds, PyData.canLayAll0, k.lay, b]; rfl
    · rw [D.pds, PyData.depthAll]; exact Nat.max_le.mpr ⟨k.dep, c⟩
def mkD (ms : List Int) : D := .tup (ms.map D.int)
theorem mk_lay (ms : List Int) : Lay 1 (mkD ms) := by
  obtain ⟨b1, b2, b3⟩ := flat_sq _ (ints_ok ms)
  rw [List.map_map] at b1 b2 b3
  refine ⟨b1, b2, ?_⟩
  show PyData.depthAll (D.pds (ms.map D.int)) + 1 ≤ 1
  have e : PyData.depthAll (D.pds (ms.map D.int)) = 0 := b3
  rw [e]
  exact Nat.le_refl _
theorem mks_cmp (as : List (List Int)) : (D.lst (as.map mkD)).cmp = true := by
  obtain ⟨a, b, c⟩ := Lay.lst (n := 1) (ds := as.map mkD) fun d hd => by
    obtain ⟨m, _, rfl⟩ := List.mem_map.mp hd
    exact mk_lay m
  exact Lay.cmp (n := 2) ⟨a, b, Nat.succ_le_succ c⟩ (by decide)
theorem r_notIn {R : RL} {L : LL} {H : Hp} {x y : V} {Q : VK} {d : D} {ds : List D} (hA : At R L H) (m1 : HasD R L x d) (c1 : d.cmp = true) (m2 : HasD R L y (.lst ds)) (c2 : (D.lst ds).cmp = true) (q : ∀ b, Q (.bl b) H) : OR (rNotInD K) x y H Q := by
  obtain ⟨a1, a2⟩ := (Bool.and_eq_true _ _).mp c1
  obtain ⟨b1, b2⟩ := (Bool.and_eq_true _ _).mp c2
  exact ⟨_, _, Rep.dp _ _ (m1.rep hA) a1, Rep.dp _ _ (m2.rep hA) b1, a2, b2, q _⟩
def sp_law (K : PySem.W.Frag) : Sp := fun vs H Q E => ∃ (a : Addr) (ns : List Int), vs = [.ref a] ∧ ns.length ≤ 63 ∧ SqL K H a (ns.map V.int) ∧ ∀ H', Q (.bl true) H'
theorem r_pot {R : RL} {H : Hp} {a : Addr} {ns : List Int} {Q : VK} {E : XK} (hA : At R [] H) (h : KnowI K R a ns) (hn : ns.length ≤ 63) (q : ∀ p pt H', PotOk pt → At [] [(p, .lst pt)] H' → Q (.ref p) H') : sp__law_pot K [.ref a] H Q E := ⟨a, ns, R, rfl, hA, h, hn, q⟩
set_option hygiene false in
local macro_rules | `(tactic| walk_at "term law") => `(tactic| refine ⟨_, PSs.nox (pss_cons (ps_set (i := 1) sc_law.nd rfl (Or.inl rfl) (pe_fn (F__law_pot (P := P) (K := K) (mg := mg) B) hr (by decide) passL rfl (pa_cons (pv 0) pa_nil)))
  (pss_cons (ps_set (i := 2) sc_law.nd rfl (Or.inl rfl) (pe_fn (F__law_world (P := P) (K := K) (mg := mg) B) hr (by decide) passL rfl (pa_cons (pv 1) pa_nil)))
  (pss_cons (ps_set (i := 3) sc_law.nd rfl (Or.inl rfl) (pe_fn (F__law_net (P := P) (K := K) (mg := mg) B) hr (by decide) passL rfl (pa_cons (pv 1) (pa_cons (pv 2) pa_nil))))
  (pss_cons (ps_set (i := 4) sc_law.nd rfl (Or.inl rfl) (pe_lst (pa_cons (pe_fn (F__law_joint (P := P) (K := K) (mg := mg) B) hr (by decide) passL rfl (pa_cons (pv 1) (pa_cons (pv 2) pa_nil))) (pa_cons (pe_fn (F__law_most (P := P) (K := K) (mg := mg) B) hr (by decide) passL rfl (pa_cons (pv 1) (pa_cons (pv 2) pa_nil))) pa_nil))))
  (pss_cons (ps_expr (pe_bm PySem.F.plainAttrs_list PySem.F.slot_list_append PySem.F.type_list_append mt_append (pv 4) (pa_cons (pe_fn (F__law_lowered (P := P) (K := K) (mg := mg) B) hr (by decide) passL rfl (pa_cons (pv 1) (pa_cons (pe_ix (ix_listK K rfl) (pv 4) pe_int (fun _ _ => rfl)) pa_nil))) pa_nil)))
  (pss_cons (ps_set (i := 5) sc_law.nd rfl (Or.inl rfl) (pe_lst pa_nil))
  (pss_cons (ps_for PassesOwn.never rfl (pi_listK K rfl (pv 4)) (pg_name (i := 6) sc_law.nd rfl (Or.inl rfl))
  (pss_one (ps_if (pt_cmpR (op_notInDK K rfl (hu_le hr (by decide))) (pv 6) (pv 5) rfl)
  (pss_cons (ps_expr (pe_bm PySem.F.plainAttrs_list PySem.F.slot_list_append PySem.F.type_list_append mt_append (pv 5) (pa_cons (pv 6) pa_nil)))
  (pss_one (ps_if (pt_not (pt_val (pe_fn (F__law_agrees (P := P) (K := K) (mg := mg) B) hr (by decide) passL rfl (pa_cons (pv 3) (pa_cons (pv 2) (pa_cons (pv 6) pa_nil))))))
  (pss_one (ps_ret pe_bl))
  pss_nil)))
  pss_nil)))
  (pss_cons (ps_set (i := 7) sc_law.nd rfl (Or.inl rfl) (pe_fn (F__law_bad (P := P) (K := K) (mg := mg) B) hr (by decide) passL rfl (pa_cons (pv 1) (pa_cons (pe_ix (ix_listK K rfl) (pv 4) (pe_fn (F__law_draw (P := P) (K := K) (mg := mg) B) hr (by decide) passL rfl (pa_cons (pv 1) (pa_cons pe_int pa_nil))) (fun _ _ => rfl)) pa_nil))))
  (pss_cons (ps_set (i := 8) sc_law.nd rfl (Or.inl rfl) (pe_fn (F__law_asked (P := P) (K := K) (mg := mg) B) hr (by decide) passL rfl (pa_cons (pv 3) (pa_cons (pv 7) pa_nil))))
  (pss_cons (ps_if (PW.pt (pw_or (pt_cmpR op_ne (pe_ix (ix_tupK K rfl) (pv 8) pe_int (fun _ _ => rfl)) pe_str (nomark _)) (pw_or1 (pt_not (pt_val (pe_ix (ix_tupK K rfl) (pv 8) pe_int (fun _ _ => rfl)))))))
  (pss_one (ps_ret pe_bl))
  pss_nil)
  (pss_cons (ps_if (PW.pt (pw_or (pt_not (pt_val (pe_callB (call_isiK' K rfl) (by rfl) B.T.isinstance (by decide +kernel) (pa_cons (pe_ix (ix_tupK K rfl) (pv 8) pe_int (fun _ _ => rfl)) (pa_cons (pe_bltn (v := .ty "tuple") (u := .type "tuple") (by rfl) B.T.tuple (by decide +kernel) rfl) pa_nil))))) (pw_or1 (pt_cmpR (op_neDK K rfl (hu_le hr (by decide))) (pe_ix (ix_tupK K rfl) (pv 8) pe_int (fun _ _ => rfl)) (pv 7) (nomark _)))))
  (pss_one (ps_ret pe_bl))
  pss_nil)
  (pss_cons (ps_set (i := 9) sc_law.nd rfl (Or.inl rfl) (pe_fn (F__law_due (P := P) (K := K) (mg := mg) B) hr (by decide) passL rfl (pa_cons (pv 2) (pa_cons (pe_ix (ix_listK K rfl) (pv 4) pe_int (fun _ _ => rfl)) pa_nil))))
  (pss_cons (ps_if (PW.pt (pw_and (pt_cmpR op_notN (pv 9) pe_non (nomark _)) (pw_and1 (pt_cmpR op_gt (pe_callB (call_len_seqK K rfl) (by rfl) B.T.len (by decide +kernel) (pa_cons (pv 9) pa_nil)) pe_int (nomark _)))))
  (pss_one (ps_ret pe_bl))
  pss_nil)
  (pss_one (ps_ret (pe_fn (F__law_agrees (P := P) (K := K) (mg := mg) B) hr (by decide) passL rfl (pa_cons (pv 3) (pa_cons (pv 2) (pa_cons (pe_ix (ix_listK K rfl) (pv 4) pe_int (fun _ _ => rfl)) pa_nil))))))))))))))))))), ?_⟩)
theorem F_law (B : Bun P K mg) {f : Addr} {fd : FuncData} (F : FunD K "law" "law" (defArgs s_law) (defBody s_law) (defScope s_law) [] [] f fd) : FnOk P w K mg base CX0 9 f fd ["script"] (sp_law K) := by
  refine F.ok (k := 8) sc_law (fun vs H Q E h => ?_) fun cdv A outer s H vs Q E hr h => ?_
  · obtain ⟨_, _, rfl, _⟩ := h
    rfl
  · obtain ⟨a, ns, rfl, hn, hS, q⟩ := h
    obtain ⟨R, hA, hK⟩ := know_of hS
    walk_at "term law"
    repeat' walk_at "nw"
    refine r_pot hA hK hn fun pp pt H hp hA => ?_
    repeat' walk_at "nw"
    refine r_world hA hp fun wv W pt H hp o hA => ?_
    repeat' walk_at "nw"
    refine r_net hA hp o (.head _) fun nv st k1 k2 k3 pt H hp hA => ?_
    have p60 := o.pl
    repeat' walk_at "nw"
    refine r_joint hA hp o (.tail _ (.head _)) fun u1 ms1 pt H hp h1 hA => ?_
    repeat' walk_at "nw"
    refine r_most hA hp o (.tail _ (.tail _ (.head _))) fun u2 ms2 pt H hp h2 hA => ?_
    repeat' walk_at "nw"
    refine r_lst hA (ds := [.tup (ms1.map D.int), .tup (ms2.map D.int)]) (.cons (.mem (.tail _ (.head _))) (.cons (.mem (.head _)) .nil)) (by show 2 ≤ 1000000; decide) fun mp H hA => ?_
    have hA := hA.drop.drop
    repeat' walk_at "nw"
    refine r_lowered hA.swap hp p60 h2 (.head _) fun u3 ms3 pt H hp h3 hA => ?_
    repeat' walk_at "nw"
    replace hA : At _ ((pp, .lst pt) :: (mp, .lst ([ms1, ms2, ms3].map mkD)) :: []) H := hA
    have hA := hA.drop.drop.swap.frzLst
    repeat' walk_at "nw"
    refine r_lst hA (ds := ([] : List (List Int)).map mkD) .nil (by show 0 ≤ 1000000; decide) fun ap H hA => ?_
    have hms : ∀ z ∈ [ms1, ms2, ms3], MkOk W.ps.length z := fun z hz => by
      rcases List.mem_cons.mp hz with rfl | hz
      · exact h1
      · rcases List.mem_cons.mp hz with rfl | hz
        · exact h2
        · rw [List.mem_singleton.mp hz]; exact h3
    have hNet : ∀ {R' : RL}, (∀ x, x ∈ (netD K W st k1 k2 k3, nv) :: (W.D, wv) :: [] → x ∈ R') → NetAt K W R' nv := fun h => ⟨st, k1, k2, k3, h _ List.mem_cons_self⟩
    repeat' walk_at "nw"
    refine s_for (s_iList (s_var rfl (src_lst hA (.head _) fun a2 ea2 W2 => for_D W2 hA (fun i σ L' => (∃ c, σ = [some (.ref a), some (.ref pp), some wv, some nv, some (.ref mp), some (.ref ap), c, none, none, none]) ∧ ∃ as : List (List Int), as.length ≤ i ∧ L' = (ap, .lst (as.map mkD)) :: (pp, .lst pt) :: []) ?_ ?_ ?_ ?_)))
    · exact ⟨⟨_, rfl⟩, [], Nat.le_refl _, rfl⟩
    · exact fun _ _ _ _ => True.intro
    · rintro i d v σ L1 H hd ⟨⟨c, rfl⟩, as, has, rfl⟩ hA
      have hi := (List.getElem?_eq_some_iff.mp hd).1
      rw [List.length_map] at hi
      have hi3 : i < 3 := hi
      rw [List.getElem?_map, Option.map_eq_some_iff] at hd
      obtain ⟨z, hz, rfl⟩ := hd
      have hzm := hms z (List.mem_of_getElem? hz)
      repeat' walk_at "nw"
      refine r_notIn hA (.r (.head _)) ((mk_lay z).cmp (by decide)) (.o (.head _)) (mks_cmp as) fun b => ?_
      cases b with
      | false =>
        repeat' walk_at "nw"
        exact ⟨_, ⟨⟨_, rfl⟩, as, by omega, rfl⟩, hA.drop⟩
      | true =>
        repeat' walk_at "nw"
        refine r_agrees hA o (hNet fun x hx => ?_) (by walk_at "mm") (List.mem_cons_self) hzm fun H hA => ?_
        · rcases List.mem_cons.mp hx with rfl | hx
          · walk_at "mm"
          · rw [List.mem_singleton.mp hx]
            walk_at "mm"
        repeat' walk_at "nw"
        exact ⟨_, ⟨⟨_, rfl⟩, as ++ [z], by rw [List.length_append]; show as.length + 1 ≤ i + 1; omega, by rw [List.map_append]; rfl⟩, hA.drop⟩
    · rintro σ L1 H ⟨⟨c, rfl⟩, as, has, rfl⟩ hA
      repeat' walk_at "nw"
      refine r_draw [_] hA hp (by omega) (by omega) fun x pt H hp x0 x1 hA => ?_
      obtain ⟨z, hz⟩ : ∃ z, [ms1, ms2, ms3][x.toNat]? = some z := ⟨_, List.getElem?_eq_getElem (show x.toNat < 3 by omega)⟩
      have hzm := hms z (List.mem_of_getElem? hz)
      refine r_ixL (ds := [ms1, ms2, ms3].map mkD) hA (by walk_at "mm") x0 (map_get hz) fun zv hA => ?_
      repeat' walk_at "nw"
      refine r_bad hA.swap hp p60 hzm (List.mem_cons_self) fun bv xs pt H hp hb hA => ?_
      repeat' walk_at "nw"
      refine r_asked hA o (hNet fun x hx => ?_) (List.mem_cons_self) hb.ok hb.len (fun _ u H hA => ?_) (fun ms' e' hm' _ => ?_) fun ms' e' hm' _ => ?_
      · rcases List.mem_cons.mp hx with rfl | hx
        · walk_at "mm"
        · rw [List.mem_singleton.mp hx]
          walk_at "mm"
      · have hcmp : (D.tup (xs.map D.sc)).cmp = true := cmp_tup (List.all_eq_true.mpr fun x hx => okV_of (hb.ok x hx))
        have last : ∀ {R' : RL} {L' : LL} {H : Hp} {v : V} {Q2 : VK}, (∀ x, x ∈ (netD K W st k1 k2 k3, nv) :: (W.D, wv) :: [] → x ∈ R') → (mkD ms1, v) ∈ R' → At R' L' H → (∀ H, Q2 (.bl true) H) → sp__law_agrees K [nv, wv, v] H Q2 E0 := fun hR hv hA q =>
          r_agrees hA o (hNet hR) (hR _ (.tail _ (.head _))) hv h1 fun H _ => q H
        repeat' walk_at "nw"
        · exact absurd rfl hc
        refine r_neH (d := .tup (xs.map D.sc)) (e := .tup (xs.map D.sc)) hA (.r (by walk_at "mm")) (.r (by walk_at "mm")) hcmp hcmp ?_
        rw [cmp_refl hcmp]
        repeat' walk_at "nw"
        refine r_due hA o (by walk_at "mm") (List.mem_cons_self) h1 (fun _ H hA => ?_) fun h12 dv H hA => ?_
        · repeat' walk_at "nw"
          refine last (fun x hx => ?_) ?_ hA q
          rotate_left
          · walk_at "mm"
          rcases List.mem_cons.mp hx with rfl | hx
          · walk_at "mm"
          · rw [List.mem_singleton.mp hx]
            walk_at "mm"
        · obtain ⟨db, _, rfl, _⟩ := hA.lstR (List.mem_cons_self)
          repeat' walk_at "nw"
          · exact q _
          · refine last (fun x hx => ?_) ?_ hA q
            rotate_left
            · walk_at "mm"
            rcases List.mem_cons.mp hx with rfl | hx
            · walk_at "mm"
            · rw [List.mem_singleton.mp hx]
              walk_at "mm"
      · exact absurd (bad_mkB hb) (by rw [e', mkB_true hm']; simp)
      · exact absurd (bad_mkB hb) (by rw [e', mkB_true hm']; simp)
end
end K26
set_option maxRecDepth 100000
set_option maxHeartbeats 4000000
namespace K26
open PySem PySem.Spec PyProof.Rows L2 Nw
/-! ### what the head tells -/
section
variable {K : PySem.W.Frag} {h : Heap} {mg : PySem.Str → Option Value}
theorem ex_TooLarge (X : K.In h) (G : h.Ns mainGlobals mg) (c : SaysN file fa fn su xs K) (hs : mg "super" = none) : Ex1 R.prog K mg "TooLarge" "limit" (He.ga K "TooLarge") := by
  obtain ⟨T, U, xc, xf, no, fI, cda, cc, fd, h1, h2, F⟩ := c.sup 0 (d := u_TooLarge) rfl
  exact Ex1.of (y := "limit") T U no (He.glo_ok X G (c.d.fact 41 (f := .glo "TooLarge") rfl)) h1 h2 F (by constructor <;> first | rfl | decide +kernel) rfl hs (by kernel_rfl) (by kernel_rfl) rfl rfl (by decide) (by decide) rfl _ (fun _ => rfl) (fun _ _ _ _ _ _ _ us hl hd => by subst hd; exact match us, hl with | [_, _], _ => rfl)
theorem ex_TooMany (X : K.In h) (G : h.Ns mainGlobals mg) (c : SaysN file fa fn su xs K) (hs : mg "super" = none) : Ex1 R.prog K mg "TooMany" "limit" (He.ga K "TooMany") := by
  obtain ⟨T, U, xc, xf, no, fI, cda, cc, fd, h1, h2, F⟩ := c.sup 1 (d := u_TooMany) rfl
  exact Ex1.of (y := "limit") T U no (He.glo_ok X G (c.d.fact 42 (f := .glo "TooMany") rfl)) h1 h2 F (by constructor <;> first | rfl | decide +kernel) rfl hs (by kernel_rfl) (by kernel_rfl) rfl rfl (by decide) (by decide) rfl _ (fun _ => rfl) (fun _ _ _ _ _ _ _ us hl hd => by subst hd; exact match us, hl with | [_, _], _ => rfl)
theorem ex_InvalidNet (X : K.In h) (G : h.Ns mainGlobals mg) (c : SaysN file fa fn su xs K) (hs : mg "super" = none) : Ex1 R.prog K mg "InvalidNet" "name" (He.ga K "InvalidNet") := by
  obtain ⟨T, U, xc, xf, no, fI, cda, cc, fd, h1, h2, F⟩ := c.sup 2 (d := u_InvalidNet) rfl
  exact Ex1.of (y := "name") T U no (He.glo_ok X G (c.d.fact 43 (f := .glo "InvalidNet") rfl)) h1 h2 F (by constructor <;> first | rfl | decide +kernel) rfl hs (by kernel_rfl) (by kernel_rfl) rfl rfl (by decide) (by decide) rfl _ (fun _ => rfl) (fun _ _ _ _ _ _ _ us hl hd => by subst hd; exact match us, hl with | [_, _], _ => rfl)
theorem ex_InvalidMarking (X : K.In h) (G : h.Ns mainGlobals mg) (c : SaysN file fa fn su xs K) (hs : mg "super" = none) : Ex1 R.prog K mg "InvalidMarking" "marking" (He.ga K "InvalidMarking") := by
  obtain ⟨T, U, xc, xf, no, fI, cda, cc, fd, h1, h2, F⟩ := c.sup 3 (d := u_InvalidMarking) rfl
  exact Ex1.of (y := "marking") T U no (He.glo_ok X G (c.d.fact 44 (f := .glo "InvalidMarking") rfl)) h1 h2 F (by constructor <;> first | rfl | decide +kernel) rfl hs (by kernel_rfl) (by kernel_rfl) rfl rfl (by decide) (by decide) rfl _ (fun _ => rfl) (fun _ _ _ _ _ _ _ us hl hd => by subst hd; exact match us, hl with | [_, _], _ => rfl)
theorem bun (X : K.In h) (G : h.Ns mainGlobals mg) (c : SaysN file fa fn su xs K) : Bun R.prog K mg where
  T := { len := He.free_ok X G (c.d.fact 52 (f := .free "len") rfl), range := He.free_ok X G (c.d.fact 53 (f := .free "range") rfl), sorted := He.free_ok X G (c.d.fact 54 (f := .free "sorted") rfl), tuple := He.free_ok X G (c.d.fact 55 (f := .free "tuple") rfl), list := He.free_ok X G (c.d.fact 56 (f := .free "list") rfl), enumerate := He.free_ok X G (c.d.fact 57 (f := .free "enumerate") rfl), isinstance := He.free_ok X G (c.d.fact 58 (f := .free "isinstance") rfl), all := He.free_ok X G (c.d.fact 59 (f := .free "all") rfl), sum := He.free_ok X G (c.d.fact 60 (f := .free "sum") rfl), max := He.free_ok X G (c.d.fact 61 (f := .free "max") rfl), min := He.free_ok X G (c.d.fact 62 (f := .free "min") rfl), abs := He.free_ok X G (c.d.fact 63 (f := .free "abs") rfl), int := He.free_ok X G (c.d.fact 64 (f := .free "int") rfl), str := He.free_ok X G (c.d.fact 65 (f := .free "str") rfl), bool := He.free_ok X G (c.d.fact 66 (f := .free "bool") rfl), reversed := He.free_ok X G (c.d.fact 67 (f := .free "reversed") rfl), ValueError := He.free_ok X G (c.d.fact 68 (f := .free "ValueError") rfl), super := He.free_ok X G (c.d.fact 69 (f := .free "super") rfl) }
  d_law := by obtain ⟨fd, F⟩ := c.d.def_ 0 (d := d_law) rfl; exact ⟨_, fd, F, He.glo_ok X G (c.d.fact 0 (f := .glo "law") rfl)⟩
  d__law_pot := by obtain ⟨fd, F⟩ := c.d.def_ 1 (d := d__law_pot) rfl; exact ⟨_, fd, F, He.glo_ok X G (c.d.fact 1 (f := .glo "_law_pot") rfl)⟩
  d__law_world := by obtain ⟨fd, F⟩ := c.d.def_ 2 (d := d__law_world) rfl; exact ⟨_, fd, F, He.glo_ok X G (c.d.fact 2 (f := .glo "_law_world") rfl)⟩
  d__law_net := by obtain ⟨fd, F⟩ := c.d.def_ 3 (d := d__law_net) rfl; exact ⟨_, fd, F, He.glo_ok X G (c.d.fact 3 (f := .glo "_law_net") rfl)⟩
  d__law_bad := by obtain ⟨fd, F⟩ := c.d.def_ 4 (d := d__law_bad) rfl; exact ⟨_, fd, F, He.glo_ok X G (c.d.fact 4 (f := .glo "_law_bad") rfl)⟩
  d__law_asked := by obtain ⟨fd, F⟩ := c.d.def_ 5 (d := d__law_asked) rfl; exact ⟨_, fd, F, He.glo_ok X G (c.d.fact 5 (f := .glo "_law_asked") rfl)⟩
  d__law_due := by obtain ⟨fd, F⟩ := c.d.def_ 6 (d := d__law_due) rfl; exact ⟨_, fd, F, He.glo_ok X G (c.d.fact 6 (f := .glo "_law_due") rfl)⟩
  d__law_agrees := by obtain ⟨fd, F⟩ := c.d.def_ 7 (d := d__law_agrees) rfl; exact ⟨_, fd, F, He.glo_ok X G (c.d.fact 7 (f := .glo "_law_agrees") rfl)⟩
  d__law_joint := by obtain ⟨fd, F⟩ := c.d.def_ 8 (d := d__law_joint) rfl; exact ⟨_, fd, F, He.glo_ok X G (c.d.fact 8 (f := .glo "_law_joint") rfl)⟩
  d__law_most := by obtain ⟨fd, F⟩ := c.d.def_ 9 (d := d__law_most) rfl; exact ⟨_, fd, F, He.glo_ok X G (c.d.fact 9 (f := .glo "_law_most") rfl)⟩
  d__law_lowered := by obtain ⟨fd, F⟩ := c.d.def_ 10 (d := d__law_lowered) rfl; exact ⟨_, fd, F, He.glo_ok X G (c.d.fact 10 (f := .glo "_law_lowered") rfl)⟩
  d__law_draw := by obtain ⟨fd, F⟩ := c.d.def_ 11 (d := d__law_draw) rfl; exact ⟨_, fd, F, He.glo_ok X G (c.d.fact 11 (f := .glo "_law_draw") rfl)⟩
  d__law_names := by obtain ⟨fd, F⟩ := c.d.def_ 12 (d := d__law_names) rfl; exact ⟨_, fd, F, He.glo_ok X G (c.d.fact 12 (f := .glo "_law_names") rfl)⟩
  d__law_row := by obtain ⟨fd, F⟩ := c.d.def_ 13 (d := d__law_row) rfl; exact ⟨_, fd, F, He.glo_ok X G (c.d.fact 13 (f := .glo "_law_row") rfl)⟩
  d__law_order := by obtain ⟨fd, F⟩ := c.d.def_ 14 (d := d__law_order) rfl; exact ⟨_, fd, F, He.glo_ok X G (c.d.fact 14 (f := .glo "_law_order") rfl)⟩
  d__law_side := by obtain ⟨fd, F⟩ := c.d.def_ 16 (d := d__law_side) rfl; exact ⟨_, fd, F, He.glo_ok X G (c.d.fact 15 (f := .glo "_law_side") rfl)⟩
  d__law_word := by obtain ⟨fd, F⟩ := c.d.def_ 17 (d := d__law_word) rfl; exact ⟨_, fd, F, He.glo_ok X G (c.d.fact 16 (f := .glo "_law_word") rfl)⟩
  d_steps := by obtain ⟨fd, F⟩ := c.d.def_ 18 (d := d_steps) rfl; exact ⟨_, fd, F, He.glo_ok X G (c.d.fact 17 (f := .glo "steps") rfl)⟩
  d__law_covers := by obtain ⟨fd, F⟩ := c.d.def_ 19 (d := d__law_covers) rfl; exact ⟨_, fd, F, He.glo_ok X G (c.d.fact 18 (f := .glo "_law_covers") rfl)⟩
  d__law_wanted := by obtain ⟨fd, F⟩ := c.d.def_ 20 (d := d__law_wanted) rfl; exact ⟨_, fd, F, He.glo_ok X G (c.d.fact 19 (f := .glo "_law_wanted") rfl)⟩
  d__law_weight := by obtain ⟨fd, F⟩ := c.d.def_ 21 (d := d__law_weight) rfl; exact ⟨_, fd, F, He.glo_ok X G (c.d.fact 20 (f := .glo "_law_weight") rfl)⟩
  d_check_sizes := by obtain ⟨fd, F⟩ := c.d.def_ 22 (d := d_check_sizes) rfl; exact ⟨_, fd, F, He.glo_ok X G (c.d.fact 21 (f := .glo "check_sizes") rfl)⟩
  d_check_tokens := by obtain ⟨fd, F⟩ := c.d.def_ 23 (d := d_check_tokens) rfl; exact ⟨_, fd, F, He.glo_ok X G (c.d.fact 22 (f := .glo "check_tokens") rfl)⟩
  d_check_arcs := by obtain ⟨fd, F⟩ := c.d.def_ 24 (d := d_check_arcs) rfl; exact ⟨_, fd, F, He.glo_ok X G (c.d.fact 23 (f := .glo "check_arcs") rfl)⟩
  d_check_labels := by obtain ⟨fd, F⟩ := c.d.def_ 25 (d := d_check_labels) rfl; exact ⟨_, fd, F, He.glo_ok X G (c.d.fact 24 (f := .glo "check_labels") rfl)⟩
  d_users := by obtain ⟨fd, F⟩ := c.d.def_ 26 (d := d_users) rfl; exact ⟨_, fd, F, He.glo_ok X G (c.d.fact 25 (f := .glo "users") rfl)⟩
  d_indexed := by obtain ⟨fd, F⟩ := c.d.def_ 27 (d := d_indexed) rfl; exact ⟨_, fd, F, He.glo_ok X G (c.d.fact 26 (f := .glo "indexed") rfl)⟩
  d_check_marking := by obtain ⟨fd, F⟩ := c.d.def_ 28 (d := d_check_marking) rfl; exact ⟨_, fd, F, He.glo_ok X G (c.d.fact 27 (f := .glo "check_marking") rfl)⟩
  d_steps_and_markings := by obtain ⟨fd, F⟩ := c.d.def_ 29 (d := d_steps_and_markings) rfl; exact ⟨_, fd, F, He.glo_ok X G (c.d.fact 28 (f := .glo "steps_and_markings") rfl)⟩
  d_is_name := by obtain ⟨fd, F⟩ := c.d.def_ 30 (d := d_is_name) rfl; exact ⟨_, fd, F, He.glo_ok X G (c.d.fact 29 (f := .glo "is_name") rfl)⟩
  d_is_between := by obtain ⟨fd, F⟩ := c.d.def_ 31 (d := d_is_between) rfl; exact ⟨_, fd, F, He.glo_ok X G (c.d.fact 30 (f := .glo "is_between") rfl)⟩
  d_is_marking := by obtain ⟨fd, F⟩ := c.d.def_ 32 (d := d_is_marking) rfl; exact ⟨_, fd, F, He.glo_ok X G (c.d.fact 31 (f := .glo "is_marking") rfl)⟩
  d_enabled_names := by obtain ⟨fd, F⟩ := c.d.def_ 33 (d := d_enabled_names) rfl; exact ⟨_, fd, F, He.glo_ok X G (c.d.fact 32 (f := .glo "enabled_names") rfl)⟩
  d_is_enabled := by obtain ⟨fd, F⟩ := c.d.def_ 34 (d := d_is_enabled) rfl; exact ⟨_, fd, F, He.glo_ok X G (c.d.fact 33 (f := .glo "is_enabled") rfl)⟩
  d_with_outputs := by obtain ⟨fd, F⟩ := c.d.def_ 35 (d := d_with_outputs) rfl; exact ⟨_, fd, F, He.glo_ok X G (c.d.fact 34 (f := .glo "with_outputs") rfl)⟩
  d_without_inputs := by obtain ⟨fd, F⟩ := c.d.def_ 36 (d := d_without_inputs) rfl; exact ⟨_, fd, F, He.glo_ok X G (c.d.fact 35 (f := .glo "without_inputs") rfl)⟩
  d_is_integer := by obtain ⟨fd, F⟩ := c.d.def_ 37 (d := d_is_integer) rfl; exact ⟨_, fd, F, He.glo_ok X G (c.d.fact 36 (f := .glo "is_integer") rfl)⟩
  d_takes := by obtain ⟨fd, F⟩ := c.d.def_ 38 (d := d_takes) rfl; exact ⟨_, fd, F, He.glo_ok X G (c.d.fact 37 (f := .glo "takes") rfl)⟩
  d_gives := by obtain ⟨fd, F⟩ := c.d.def_ 39 (d := d_gives) rfl; exact ⟨_, fd, F, He.glo_ok X G (c.d.fact 38 (f := .glo "gives") rfl)⟩
  c_LETTERS := He.str_ok X G (c.d.fact 48 (f := .str "LETTERS" "abcdefghijklmnopqrstuvwxyz") rfl)
  c_NAME_SIGNS := He.str_ok X G (c.d.fact 49 (f := .str "NAME_SIGNS" "abcdefghijklmnopqrstuvwxyz0123456789_") rfl)
  c_NAME_LENGTH := He.int_ok X G (c.d.fact 50 (f := .int "NAME_LENGTH" 24) rfl)
  c_MOST_TOGETHER := He.int_ok X G (c.d.fact 51 (f := .int "MOST_TOGETHER" 12) rfl)
  g_NetError := He.glo_ok X G (c.d.fact 39 (f := .glo "NetError") rfl)
  g_OverLimit := He.glo_ok X G (c.d.fact 40 (f := .glo "OverLimit") rfl)
  g_TooLarge := He.glo_ok X G (c.d.fact 41 (f := .glo "TooLarge") rfl)
  g_TooMany := He.glo_ok X G (c.d.fact 42 (f := .glo "TooMany") rfl)
  g_InvalidNet := He.glo_ok X G (c.d.fact 43 (f := .glo "InvalidNet") rfl)
  g_InvalidMarking := He.glo_ok X G (c.d.fact 44 (f := .glo "InvalidMarking") rfl)
  g_UnknownName := He.glo_ok X G (c.d.fact 45 (f := .glo "UnknownName") rfl)
  g_NameClash := He.glo_ok X G (c.d.fact 46 (f := .glo "NameClash") rfl)
  g_Net := He.glo_ok X G (c.d.fact 47 (f := .glo "Net") rfl)
  x_TooLarge := ex_TooLarge X G c (He.free_ok X G (c.d.fact 69 (f := .free "super") rfl))
  xc_TooLarge := (c.sup 0 (d := u_TooLarge) rfl).xc
  xf_TooLarge := (c.sup 0 (d := u_TooLarge) rfl).xf
  xno_TooLarge := (c.sup 0 (d := u_TooLarge) rfl).no
  x_TooMany := ex_TooMany X G c (He.free_ok X G (c.d.fact 69 (f := .free "super") rfl))
  xc_TooMany := (c.sup 1 (d := u_TooMany) rfl).xc
  xf_TooMany := (c.sup 1 (d := u_TooMany) rfl).xf
  xno_TooMany := (c.sup 1 (d := u_TooMany) rfl).no
  x_InvalidNet := ex_InvalidNet X G c (He.free_ok X G (c.d.fact 69 (f := .free "super") rfl))
  xc_InvalidNet := (c.sup 2 (d := u_InvalidNet) rfl).xc
  xf_InvalidNet := (c.sup 2 (d := u_InvalidNet) rfl).xf
  xno_InvalidNet := (c.sup 2 (d := u_InvalidNet) rfl).no
  x_InvalidMarking := ex_InvalidMarking X G c (He.free_ok X G (c.d.fact 69 (f := .free "super") rfl))
  xc_InvalidMarking := (c.sup 3 (d := u_InvalidMarking) rfl).xc
  xf_InvalidMarking := (c.sup 3 (d := u_InvalidMarking) rfl).xf
  xno_InvalidMarking := (c.sup 3 (d := u_InvalidMarking) rfl).no
  n_cls := He.cls_ok (c.d.fact 70 (f := .cls "Net") rfl)
  n_places := He.noat_ok (c.d.fact 72 (f := .noat "Net" "places") rfl)
  n_transitions := He.noat_ok (c.d.fact 73 (f := .noat "Net" "transitions") rfl)
  n_start := He.noat_ok (c.d.fact 74 (f := .noat "Net" "start") rfl)
  n_index := He.noat_ok (c.d.fact 75 (f := .noat "Net" "_index") rfl)
  n_takes := He.noat_ok (c.d.fact 76 (f := .noat "Net" "_takes") rfl)
  n_gives := He.noat_ok (c.d.fact 77 (f := .noat "Net" "_gives") rfl)
  n_takers := He.noat_ok (c.d.fact 78 (f := .noat "Net" "_takers") rfl)
  n_givers := He.noat_ok (c.d.fact 79 (f := .noat "Net" "_givers") rfl)
  n_labels := He.noat_ok (c.d.fact 80 (f := .noat "Net" "_labels") rfl)
  n_mk := He.mkr_ok (c.d.fact 71 (f := .mkr "Net") rfl)
  n_size := cvB_ok (c.x 0 rfl)
  n_most := cvB_ok (c.x 1 rfl)
  n_ini := c.d.def_ 15 (d := d_Net_init) rfl
  ki_InvalidMarking_NetError := of_decide_eq_true (c.x 2 rfl)
  ki_InvalidMarking_ValueError := of_decide_eq_true (c.x 3 rfl)
  ki_InvalidMarking_OverLimit := of_decide_eq_true (c.x 4 rfl)
  ki_TooLarge_OverLimit := of_decide_eq_true (c.x 5 rfl)
  ki_TooLarge_NetError := of_decide_eq_true (c.x 6 rfl)
  ki_TooLarge_ValueError := of_decide_eq_true (c.x 7 rfl)
  ki_TooLarge_TooMany := of_decide_eq_true (c.x 8 rfl)
  em_InvalidMarking_InvalidMarking := of_decide_eq_true (c.x 9 rfl)
  em_TooLarge_InvalidMarking := of_decide_eq_true (c.x 10 rfl)
  em_TooLarge_TooLarge := of_decide_eq_true (c.x 11 rfl)
theorem facts {w : World} {f : Addr} (X : K.In h) (G : h.Ns mainGlobals mg) (hfa : mg ("law" : PySem.Str) = some (.ref f)) (c : SaysN file fa fn su xs K) :
    ∃ fd : FuncData, (∀ (s : Shared) (v : Value), BindsTo s fd ⟨[v], []⟩ [("script", v)]) ∧ ∀ base : Heap, K.In base → base.Ns mainGlobals mg → FnOk R.prog w K mg base CX0 9 f fd ["script"] (sp_law K) := by
  obtain ⟨fd, F⟩ := c.d.def_ 0 (d := d_law) rfl
  have e := hfa.symm.trans (He.glo_ok X G (c.d.fact 0 (f := .glo "law") rfl))
  cases e
  have b := FunD.bindsA (ps := ["script"]) F fun _ _ _ _ _ _ us hl => match us, hl with | [_], _ => rfl
  exact ⟨fd, fun s v => b s [v] rfl, fun base _ _ => F_law (bun X G c) F⟩
end
end K26
open PySem PySem.W PySem.Calls PyProof.Rows
set_option maxRecDepth 100000 in
set_option maxHeartbeats 0 in
theorem PySem.Challenge.cw_netwright_k26_steps_by_sums_holds : PySem.Challenge.rw_netwright_k26_steps_by_sums.Holds := by
  w_on; o_law
  refine HandSHeadRun.head_any (r := OpenLaw.row PySem.Challenge.rw_netwright_k26_steps_by_sums) (q := view (OpenLaw.row PySem.Challenge.rw_netwright_k26_steps_by_sums).prog [63]) (H := K26.hk) (ob := K26.ob) (M := 6000) (loose := K26.loose) (d := HandSHeadRun.topDef (OpenLaw.row PySem.Challenge.rw_netwright_k26_steps_by_sums).prog 63) (kwd := []) K26.ob_eq
    (by kernel_rfl) (fun s => by kernel_rfl) K26.run (by kernel_rfl) (by kernel_rfl) (by kernel_rfl) (by rfl) (by first | assumption | decide +kernel) (by decide +kernel) ⟨rfl, rfl, rfl, rfl, rfl, by decide +kernel⟩ ?hw ?hc
  case hw => w_witness2
  case hc =>
    refine L2.walk_ofE (l := PySem.Challenge.rw_netwright_k26_steps_by_sums) (n := 63) (k := 9) (x := "script") (CX := L2.CX0) rfl (by decide) (by kernel_rfl) ⟨rfl, by decide, by decide⟩ ?F (fun _ _ _ _ z => z)
    intro w mg fa h Y G hmg0
    obtain ⟨K, KX, c⟩ := Y
    have hmg : mg ("law" : PySem.Str) = some (.ref fa) := by
      have e : (HandSHeadRun.topDef (OpenLaw.row PySem.Challenge.rw_netwright_k26_steps_by_sums).prog 63).name = ("law" : PySem.Str) := by kernel_rfl
      rw [← e]
      exact hmg0
    obtain ⟨fd, hb, hF⟩ := K26.facts (w := w) KX G hmg c
    exact ⟨K, fd, K26.sp_law K, KX, hb, fun H a ns hl _ hS => ⟨a, ns, rfl, hl, hS, fun _ => rfl⟩, hF⟩
