import PyProof.Rows.All
import Wide.All
import OpenK.AllK
import Wide.FinOn
import HandS.Base
import HandS.Call
import HandS.List
import HandS.Comp
import HandS.Exc
import HandS.ExcOwn
import HandS.TryMany
import HandS.Wide
import HandS.WordsList
import HandS.WordsExc
import HandS.ExcInit
import HandS.ExcField
import HandS.IsInst
import KE.KExcIs
import HandS.Deep
import HandS.Conv
import HandS.SortInts
import HandS.Ends
import HandS.ForMost
import HandS.ExcIs
import HandS.Iter
import KE.GoesEnum
import HandS.TupAny
import HandS.Dict
import HandS.More
import PySem.Challenge.RW_earlypulses_k07_parts_of_a_book
set_option Elab.async false
set_option linter.all false
set_option maxRecDepth 100000
set_option maxHeartbeats 2000000
namespace Mi
open PySem PySem.Spec PyProof.Rows L2

abbrev D := PyData
abbrev St := L2.St

/-! heaps -/
def Ex (H G : Hp) : Prop := ∀ a o, H a = some o → G a = some o
theorem Ex.refl (H : Hp) : Ex H H := fun _ _ h => h
theorem Ex.trans {H G I : Hp} (a : Ex H G) (b : Ex G I) : Ex H I := fun x o h => b x o (a x o h)
theorem Ex.new {H : Hp} {p : Addr} {o : HO} (h : H p = none) : Ex H (upd H p o) := fun a u e => by
  rw [upd_ne (ne_of_none e h)]; exact e
theorem Ex.rd {H G : Hp} {a : Addr} {u : HO} (e : Ex H G) (h : Rd H a u) : Rd G a u := by
  rcases h with h | ⟨o, h⟩
  · exact .inl (e _ _ h)
  · exact .inr ⟨o, e _ _ h⟩
theorem Ex.sl {K : PySem.W.Frag} {H G : Hp} {a : Addr} {xs : List V} (e : Ex H G) (h : SqL K H a xs) : SqL K G a xs := by
  rcases h with h | h
  · exact .inl (e.rd h)
  · exact .inr h
theorem Ex.st {K : PySem.W.Frag} {H G : Hp} {a : Addr} {xs : List V} (e : Ex H G) (h : SqT K H a xs) : SqT K G a xs := by
  rcases h with h | h
  · exact .inl (e.rd h)
  · exact .inr h
theorem Ex.back {H G : Hp} {p : Addr} (e : Ex H G) (h : G p = none) : H p = none := by
  cases q : H p with
  | none => rfl
  | some o => rw [e p o q] at h; cases h
theorem Ex.updR {H G : Hp} {p : Addr} {o : HO} (e : Ex H G) (h : H p = none) : Ex H (upd G p o) := fun a u q => by
  rw [upd_ne (ne_of_none q h)]; exact e a u q
theorem Ex.updB {H G : Hp} {p : Addr} {o : HO} (e : Ex H G) : Ex (upd H p o) (upd G p o) := fun a u q => by
  by_cases h : a = p
  · subst h; rw [upd_same] at q ⊢; exact q
  · rw [upd_ne h] at q ⊢; exact e a u q
theorem Ex.updL {H G : Hp} {p : Addr} {o : HO} (e : Ex H G) (h : G p = some o) : Ex (upd H p o) G := fun a u q => by
  by_cases z : a = p
  · subst z; rw [upd_same] at q; rw [h]; exact q
  · rw [upd_ne z] at q; exact e a u q

/-! data of any depth, all of it tracked -/
mutual
inductive Rp (H : Hp) : V → D → Prop
  | non : Rp H .non .none
  | bl (b : Bool) : Rp H (.bl b) (.bool b)
  | int (i : Int) : Rp H (.int i) (.int i)
  | str (x : Str) : Rp H (.str x) (.str x)
  | lst {a : Addr} {xs : List V} {ds : List D} : H a = some (.lst xs) → RpA H xs ds → Rp H (.ref a) (.list ds)
  | tup {a : Addr} {xs : List V} {ds : List D} : H a = some (.tup xs) → RpA H xs ds → Rp H (.ref a) (.tuple ds)
inductive RpA (H : Hp) : List V → List D → Prop
  | nil : RpA H [] []
  | cons {v : V} {vs : List V} {d : D} {ds : List D} : Rp H v d → RpA H vs ds → RpA H (v :: vs) (d :: ds)
end
mutual
theorem Ex.dp {H G : Hp} (e : Ex H G) : ∀ (d : D) (v : V), Rp H v d → Rp G v d
  | .none, _, h => by cases h; exact .non
  | .bool b, _, h => by cases h; exact .bl b
  | .int i, _, h => by cases h; exact .int i
  | .str x, _, h => by cases h; exact .str x
  | .list ds, _, h => by
    cases h with
    | lst h1 h2 => exact .lst (e _ _ h1) (Ex.dpa e ds _ h2)
  | .tuple ds, _, h => by
    cases h with
    | tup h1 h2 => exact .tup (e _ _ h1) (Ex.dpa e ds _ h2)
  | .dict _, _, h => by cases h
theorem Ex.dpa {H G : Hp} (e : Ex H G) : ∀ (ds : List D) (vs : List V), RpA H vs ds → RpA G vs ds
  | [], _, h => by cases h; exact .nil
  | d :: ds, _, h => by
    cases h with
    | cons h1 h2 => exact .cons (Ex.dp e d _ h1) (Ex.dpa e ds _ h2)
end
theorem RpA.len {H : Hp} : ∀ {vs : List V} {ds : List D}, RpA H vs ds → vs.length = ds.length
  | [], _, h => by cases h; rfl
  | v :: vs, _, h => by
    cases h with
    | cons h1 h2 => simp [RpA.len h2]
theorem RpA.get {H : Hp} : ∀ {vs : List V} {ds : List D} {i : Nat} {d : D}, RpA H vs ds → ds[i]? = some d → ∃ v, vs[i]? = some v ∧ Rp H v d
  | [], _, _, _, h, e => by cases h; simp at e
  | v :: vs, _, 0, _, h, e => by
    cases h with
    | cons h1 h2 => simp at e; subst e; exact ⟨v, rfl, h1⟩
  | v :: vs, _, i + 1, _, h, e => by
    cases h with
    | cons h1 h2 => exact RpA.get (i := i) h2 (by simpa using e)
theorem RpA.getv {H : Hp} : ∀ {vs : List V} {ds : List D} {i : Nat} {v : V}, RpA H vs ds → vs[i]? = some v → ∃ d, ds[i]? = some d ∧ Rp H v d
  | [], _, _, _, h, e => by cases h; simp at e
  | v :: vs, _, 0, _, h, e => by
    cases h with
    | cons h1 h2 => simp at e; subst e; exact ⟨_, rfl, h1⟩
  | v :: vs, _, i + 1, _, h, e => by
    cases h with
    | cons h1 h2 => exact RpA.getv (i := i) h2 (by simpa using e)
theorem RpA.app {H : Hp} : ∀ {vs ws : List V} {ds es : List D}, RpA H vs ds → RpA H ws es → RpA H (vs ++ ws) (ds ++ es)
  | [], _, _, _, h, q => by cases h; exact q
  | v :: vs, _, _, _, h, q => by
    cases h with
    | cons h1 h2 => exact .cons h1 (RpA.app h2 q)
theorem RpA.one {H : Hp} {v : V} {d : D} (h : Rp H v d) : RpA H [v] [d] := .cons h .nil
theorem RpA.set {H : Hp} {w : V} {d : D} (q : Rp H w d) : ∀ {vs : List V} {ds : List D} (i : Nat), RpA H vs ds → RpA H (vs.set i w) (ds.set i d)
  | [], _, _, h => by cases h; exact .nil
  | v :: vs, _, 0, h => by
    cases h with
    | cons h1 h2 => exact .cons q h2
  | v :: vs, _, i + 1, h => by
    cases h with
    | cons h1 h2 => exact .cons h1 (RpA.set q i h2)
theorem RpA.erase {H : Hp} : ∀ {vs : List V} {ds : List D} (i : Nat), RpA H vs ds → RpA H (vs.eraseIdx i) (ds.eraseIdx i)
  | [], _, _, h => by cases h; exact .nil
  | v :: vs, _, 0, h => by
    cases h with
    | cons h1 h2 => exact h2
  | v :: vs, _, i + 1, h => by
    cases h with
    | cons h1 h2 => exact .cons h1 (RpA.erase i h2)
theorem RpA.take {H : Hp} : ∀ {vs : List V} {ds : List D} (i : Nat), RpA H vs ds → RpA H (vs.take i) (ds.take i)
  | [], _, i, h => by cases h; cases i <;> exact .nil
  | v :: vs, _, 0, h => .nil
  | v :: vs, _, i + 1, h => by
    cases h with
    | cons h1 h2 => exact .cons h1 (RpA.take i h2)
theorem RpA.drop {H : Hp} : ∀ {vs : List V} {ds : List D} (i : Nat), RpA H vs ds → RpA H (vs.drop i) (ds.drop i)
  | [], _, i, h => by cases h; cases i <;> exact .nil
  | v :: vs, _, 0, h => h
  | v :: vs, _, i + 1, h => by
    cases h with
    | cons h1 h2 => exact RpA.drop i h2
theorem RpA.repl {H : Hp} {vs : List V} {ds : List D} (h : RpA H vs ds) : ∀ k : Nat, RpA H (List.replicate k vs).flatten (List.replicate k ds).flatten
  | 0 => .nil
  | k + 1 => by
    rw [List.replicate_succ, List.replicate_succ, List.flatten_cons, List.flatten_cons]
    exact RpA.app h (RpA.repl h k)
theorem RpA.ints {H : Hp} : ∀ (ns : List Int), RpA H (ns.map V.int) (ns.map PyData.int)
  | [] => .nil
  | n :: ns => .cons (.int n) (RpA.ints ns)
theorem RpA.ints_inv {H : Hp} : ∀ {vs : List V} {ns : List Int}, RpA H vs (ns.map PyData.int) → vs = ns.map V.int
  | [], [], _ => rfl
  | [], n :: ns, h => by cases h
  | v :: vs, [], h => by cases h
  | v :: vs, n :: ns, h => by
    cases h with
    | cons h1 h2 => cases h1; rw [RpA.ints_inv h2]; rfl

mutual
theorem Rp.dp {K : PySem.W.Frag} {H : Hp} : ∀ (d : D) (v : V), Rp H v d → Dp K H v d
  | .none, _, h => by cases h; exact .non
  | .bool b, _, h => by cases h; exact .bl b
  | .int i, _, h => by cases h; exact .int i
  | .str x, _, h => by cases h; exact .str x
  | .list ds, _, h => by
    cases h with
    | lst h1 h2 => exact .lst (.of h1) (RpA.dpa ds _ h2)
  | .tuple ds, _, h => by
    cases h with
    | tup h1 h2 => exact .tup (.of h1) (RpA.dpa ds _ h2)
  | .dict _, _, h => by cases h
theorem RpA.dpa {K : PySem.W.Frag} {H : Hp} : ∀ (ds : List D) (vs : List V), RpA H vs ds → DpAll K H vs ds
  | [], _, h => by cases h; exact .nil
  | d :: ds, _, h => by
    cases h with
    | cons h1 h2 => exact .cons (Rp.dp d _ h1) (RpA.dpa ds _ h2)
end

/-! exceptions, environments -/
structure Er where
  cls : Str
  fs : List (Str × D)

/-- an object of the frame's own -/
inductive OD where
  | lst (xs : List D) | dk (kvs : List (Key × D)) | dt (kvs : List (List Key × D)) | st (ns : List Int)
inductive Slot where
  | un | sh (d : D) | ob (o : OD) | tok | ex (x : Er)
abbrev Slot.ow (xs : List D) : Slot := .ob (.lst xs)
def KvR {κ : Type} (F : Hp) : List (κ × V) → List (κ × D) → Prop := Paired fun (p : κ × V) (q : κ × D) => p.1 = q.1 ∧ Rp F p.2 q.2
def OdR (F : Hp) : HO → OD → Prop
  | .lst vs, .lst xs => RpA F vs xs
  | .dK kvs, .dk es => KvR F kvs es
  | .dT kvs, .dt es => KvR F kvs es
  | .set S n, .st ns => n = ns.length ∧ ns.Nodup ∧ ∀ i, S i = ns.contains i
  | _, _ => False
theorem KvR.mono {κ : Type} {F G : Hp} (e : Ex F G) {vs : List (κ × V)} {ds : List (κ × D)} (h : KvR F vs ds) : KvR G vs ds := Paired.mapP h fun _ _ q => ⟨q.1, e.dp _ _ q.2⟩
theorem OdR.mono {F G : Hp} (e : Ex F G) : ∀ {u : HO} {o : OD}, OdR F u o → OdR G u o
  | .lst _, .lst _, h => e.dpa _ _ h
  | .dK _, .dk _, h => KvR.mono e h
  | .dT _, .dt _, h => KvR.mono e h
  | .set _ _, .st _, h => h
  | .lst _, .dk _, h => h.elim
  | .lst _, .dt _, h => h.elim
  | .lst _, .st _, h => h.elim
  | .dK _, .lst _, h => h.elim
  | .dK _, .dt _, h => h.elim
  | .dK _, .st _, h => h.elim
  | .dT _, .lst _, h => h.elim
  | .dT _, .dk _, h => h.elim
  | .dT _, .st _, h => h.elim
  | .set _ _, .lst _, h => h.elim
  | .set _ _, .dk _, h => h.elim
  | .set _ _, .dt _, h => h.elim
  | .tup _, .lst _, h => h.elim
  | .tup _, .dk _, h => h.elim
  | .tup _, .dt _, h => h.elim
  | .tup _, .st _, h => h.elim
  | .ins _ _ _, .lst _, h => h.elim
  | .ins _ _ _, .dk _, h => h.elim
  | .ins _ _ _, .dt _, h => h.elim
  | .ins _ _ _, .st _, h => h.elim
  | .own _, .lst _, h => h.elim
  | .own _, .dk _, h => h.elim
  | .own _, .dt _, h => h.elim
  | .own _, .st _, h => h.elim
  | .xd _, .lst _, h => h.elim
  | .xd _, .dk _, h => h.elim
  | .xd _, .dt _, h => h.elim
  | .xd _, .st _, h => h.elim
  | .met _ _, .lst _, h => h.elim
  | .met _ _, .dk _, h => h.elim
  | .met _ _, .dt _, h => h.elim
  | .met _ _, .st _, h => h.elim
  | .rng _ _, .lst _, h => h.elim
  | .rng _ _, .dk _, h => h.elim
  | .rng _ _, .dt _, h => h.elim
  | .rng _ _, .st _, h => h.elim
  | .frz _ _, .lst _, h => h.elim
  | .frz _ _, .dk _, h => h.elim
  | .frz _ _, .dt _, h => h.elim
  | .frz _ _, .st _, h => h.elim
  | .tbl _, .lst _, h => h.elim
  | .tbl _, .dk _, h => h.elim
  | .tbl _, .dt _, h => h.elim
  | .tbl _, .st _, h => h.elim
  | .ext _, .lst _, h => h.elim
  | .ext _, .dk _, h => h.elim
  | .ext _, .dt _, h => h.elim
  | .ext _, .st _, h => h.elim
theorem OdR.lst_inv {F : Hp} {u : HO} {xs : List D} (h : OdR F u (.lst xs)) : ∃ vs, u = .lst vs ∧ RpA F vs xs := by
  cases u <;> first | exact ⟨_, rfl, h⟩ | exact h.elim
theorem OdR.dk_inv {F : Hp} {u : HO} {xs : List (Key × D)} (h : OdR F u (.dk xs)) : ∃ vs, u = .dK vs ∧ KvR F vs xs := by
  cases u <;> first | exact ⟨_, rfl, h⟩ | exact h.elim
theorem OdR.dt_inv {F : Hp} {u : HO} {xs : List (List Key × D)} (h : OdR F u (.dt xs)) : ∃ vs, u = .dT vs ∧ KvR F vs xs := by
  cases u <;> first | exact ⟨_, rfl, h⟩ | exact h.elim
theorem OdR.st_inv {F : Hp} {u : HO} {ns : List Int} (h : OdR F u (.st ns)) : ∃ S, u = .set S ns.length ∧ ns.Nodup ∧ ∀ i, S i = ns.contains i := by
  cases u <;> first | exact (by obtain ⟨h1, h2, h3⟩ := h; subst h1; exact ⟨_, rfl, h2, h3⟩) | exact h.elim

/-- a thing that lives beside the frames, at the addresses O -/
structure Amb where
  S : Type
  At : S → Hp → Prop
  O : List Addr
  p : Addr
  loc : ∀ s H G, (∀ a o, a ∈ O → H a = some o → G a = some o) → At s H → At s G
  dom : ∀ s H, At s H → ∀ a ∈ O, ∃ o, H a = some o

structure En (S : Type) where
  sl : List Slot
  st : S

inductive Out (S α : Type) where
  | ok (a : α) (e : En S) | err (x : Er) (e : En S) | stuck
abbrev M (S α : Type) := En S → Out S α
def bnd {S α β : Type} (f : M S α) (k : α → M S β) : M S β := fun e =>
  match f e with
  | .ok a e1 => k a e1
  | .err x e1 => .err x e1
  | .stuck => .stuck
def rt {S α : Type} (a : α) : M S α := fun e => .ok a e
def lft {S α : Type} (o : Option α) : M S α := fun e => match o with
  | some a => .ok a e
  | none => .stuck
def stk {S α : Type} : M S α := fun _ => .stuck

structure Pm where
  K : PySem.W.Frag
  mg : Str → Option Value
  B : Amb
  F0 : Hp
  H0 : Hp
  xa : Addr
  xc : Value
  xd : Option Addr

def FsOk (F : Hp) : List (Str × V) → List (Str × D) → Prop := Paired fun (p : Str × V) (q : Str × D) => p.1 = q.1 ∧ Rp F p.2 q.2
def ErOk (mg : Str → Option Value) (F : Hp) (c : Value) (d : Option Addr) (x : Er) : Prop :=
  mg x.cls = some c ∧ ((d = none ∧ x.fs = []) ∨ ∃ dd fs, d = some dd ∧ F dd = some (.xd fs) ∧ FsOk F fs x.fs)
theorem FsOk.mono {F G : Hp} (e : Ex F G) {fs : List (Str × V)} {ds : List (Str × D)} (h : FsOk F fs ds) : FsOk G fs ds :=
  Paired.mapP h fun _ _ q => ⟨q.1, e.dp _ _ q.2⟩
theorem ErOk.mono {mg : Str → Option Value} {F G : Hp} (e : Ex F G) {c : Value} {d : Option Addr} {x : Er} (h : ErOk mg F c d x) : ErOk mg G c d x := by
  obtain ⟨h1, h2 | ⟨dd, fs, h2, h3, h4⟩⟩ := h
  · exact ⟨h1, .inl h2⟩
  · exact ⟨h1, .inr ⟨dd, fs, h2, e _ _ h3, h4.mono e⟩⟩

/-- how (F, H) may come to (G, I) -/
structure Ext (F H G I : Hp) : Prop where
  ff : Ex F G
  fh : Ex G I
  nw : ∀ a o, G a = some o → (∃ u, F a = some u) ∨ H a = none
  kp : ∀ a o, H a = some o → ∃ u, I a = some u
theorem Ext.trans {F H F1 H1 F2 H2 : Hp} (a : Ext F H F1 H1) (b : Ext F1 H1 F2 H2) : Ext F H F2 H2 where
  ff := a.ff.trans b.ff
  fh := b.fh
  nw := fun x o h => by
    rcases b.nw x o h with ⟨u, q⟩ | q
    · exact a.nw x u q
    · refine .inr ?_
      cases z : H x with
      | none => rfl
      | some w => obtain ⟨u, y⟩ := a.kp x w z; rw [q] at y; cases y
  kp := fun x o h => let ⟨u, q⟩ := a.kp x o h; b.kp x u q
theorem Ext.non {F H G I : Hp} (a : Ext F H G I) {x : Addr} (h : I x = none) : H x = none := by
  cases z : H x with
  | none => rfl
  | some w => obtain ⟨u, y⟩ := a.kp x w z; rw [h] at y; cases y

def Ow {S : Type} (e : En S) (σ : St) (a : Addr) : Prop := ∃ (i : Nat) (xs : OD), e.sl[i]? = some (.ob xs) ∧ σ[i]? = some (some (.ref a))

structure EOk (P : Pm) (e : En P.B.S) (σ : St) (F H : Hp) : Prop where
  ext : Ext P.F0 P.H0 F H
  fra : ∀ a o, a ∉ P.B.O → P.H0 a = some o → H a = some o
  sto : P.B.At e.st H
  off : ∀ a ∈ P.B.O, F a = none
  len : e.sl.length = σ.length
  sh : ∀ (i : Nat) (d : D), e.sl[i]? = some (.sh d) → ∃ v, σ[i]? = some (some v) ∧ Rp F v d
  tok : ∀ i : Nat, e.sl[i]? = some .tok → σ[i]? = some (some (.ref P.B.p))
  ow : ∀ (i : Nat) (xs : OD), e.sl[i]? = some (.ob xs) → ∃ p u, σ[i]? = some (some (.ref p)) ∧ H p = some u ∧ F p = none ∧ P.H0 p = none ∧ p ∉ P.B.O ∧ OdR F u xs
  sep : ∀ (i j : Nat) (xs ys : OD) (p : Addr), e.sl[i]? = some (.ob xs) → e.sl[j]? = some (.ob ys) → σ[i]? = some (some (.ref p)) → σ[j]? = some (some (.ref p)) → i = j
  ex : ∀ (i : Nat) (x : Er), e.sl[i]? = some (.ex x) → σ[i]? = some (some (.ref P.xa)) ∧ ErOk P.mg F P.xc P.xd x

structure Step (P : Pm) (e e1 : En P.B.S) (σ : St) (F H F1 H1 : Hp) : Prop where
  ff : Ex F F1
  nw : ∀ a o, F1 a = some o → (∃ u, F a = some u) ∨ H a = none ∨ Ow e σ a
  kp : ∀ a o, H a = some o → ∃ u, H1 a = some u
  ow : ∀ a, Ow e1 σ a → Ow e σ a
  fr : ∀ a o, a ∉ P.B.O → ¬ Ow e σ a → H a = some o → H1 a = some o
theorem Step.refl {P : Pm} {e : En P.B.S} {σ : St} {F H : Hp} : Step P e e σ F H F H :=
  ⟨Ex.refl _, fun _ _ h => .inl ⟨_, h⟩, fun _ _ h => ⟨_, h⟩, fun _ h => h, fun _ _ _ _ h => h⟩
theorem Step.trans {P : Pm} {e e1 e2 : En P.B.S} {σ : St} {F H F1 H1 F2 H2 : Hp} (a : Step P e e1 σ F H F1 H1) (b : Step P e1 e2 σ F1 H1 F2 H2) : Step P e e2 σ F H F2 H2 where
  ff := a.ff.trans b.ff
  nw := fun x o h => by
    rcases b.nw x o h with ⟨u, q⟩ | q | q
    · exact a.nw x u q
    · refine .inr (.inl ?_)
      cases z : H x with
      | none => rfl
      | some w => obtain ⟨u, y⟩ := a.kp x w z; rw [q] at y; cases y
    · exact .inr (.inr (a.ow x q))
  kp := fun x o h => let ⟨u, q⟩ := a.kp x o h; b.kp x u q
  ow := fun x h => a.ow x (b.ow x h)
  fr := fun x o h1 h2 h3 => b.fr x o h1 (fun q => h2 (a.ow x q)) (a.fr x o h1 h2 h3)
theorem Step.non {P : Pm} {e e1 : En P.B.S} {σ : St} {F H F1 H1 : Hp} (a : Step P e e1 σ F H F1 H1) {x : Addr} (h : H1 x = none) : H x = none := by
  cases z : H x with
  | none => rfl
  | some w => obtain ⟨u, y⟩ := a.kp x w z; rw [h] at y; cases y

theorem EOk.owL {P : Pm} {e : En P.B.S} {σ : St} {F H : Hp} (k : EOk P e σ F H) (i : Nat) (xs : List D) (h : e.sl[i]? = some (.ow xs)) : ∃ p vs, σ[i]? = some (some (.ref p)) ∧ H p = some (.lst vs) ∧ F p = none ∧ P.H0 p = none ∧ p ∉ P.B.O ∧ RpA F vs xs := by
  obtain ⟨p, u, q1, q2, q3, q4, q5, q6⟩ := k.ow i _ h
  obtain ⟨vs, rfl, q7⟩ := q6.lst_inv
  exact ⟨p, vs, q1, q2, q3, q4, q5, q7⟩
theorem EOk.ow_some {P : Pm} {e : En P.B.S} {σ : St} {F H : Hp} (k : EOk P e σ F H) {a : Addr} (h : Ow e σ a) : (∃ u, H a = some u) ∧ F a = none ∧ a ∉ P.B.O ∧ P.H0 a = none := by
  obtain ⟨i, xs, h1, h2⟩ := h
  obtain ⟨p, vs, q1, q2, q3, q4, q5, _⟩ := k.ow i xs h1
  rw [q1] at h2
  cases h2
  exact ⟨⟨vs, q2⟩, q3, q5, q4⟩
theorem EOk.fresh {P : Pm} {e : En P.B.S} {σ : St} {F H : Hp} (k : EOk P e σ F H) {a : Addr} (h : H a = none) : F a = none ∧ P.H0 a = none ∧ a ∉ P.B.O ∧ ¬ Ow e σ a := by
  refine ⟨?_, k.ext.non h, fun z => ?_, fun z => ?_⟩
  · exact k.ext.fh.back h
  · obtain ⟨o, q⟩ := P.B.dom _ _ k.sto a z
    rw [h] at q; cases q
  · obtain ⟨⟨vs, q⟩, _⟩ := k.ow_some z
    rw [h] at q; cases q
/-- the heap grows -/
theorem EOk.grow {P : Pm} {e : En P.B.S} {σ : St} {F H F1 H1 : Hp} (k : EOk P e σ F H) (hx : Ex H H1) (x : Ext F H F1 H1) : EOk P e σ F1 H1 ∧ Step P e e σ F H F1 H1 := by
  have kn : ∀ {a : Addr} {o : HO}, F a = none → H a = some o → F1 a = none := fun {a o} h1 h2 => by
    cases z : F1 a with
    | none => rfl
    | some w =>
      rcases x.nw a w z with ⟨u, q⟩ | q
      · rw [h1] at q; cases q
      · rw [h2] at q; cases q
  refine ⟨⟨k.ext.trans x, fun a o h1 h2 => hx a o (k.fra a o h1 h2), P.B.loc _ _ _ (fun a o _ q => hx a o q) k.sto, fun a h => ?_, k.len, fun i d h => ?_, k.tok, fun i xs h => ?_, k.sep, fun i y h => ?_⟩,
    ⟨x.ff, fun a o h => (x.nw a o h).elim .inl fun q => .inr (.inl q), x.kp, fun _ h => h, fun a o _ _ h => hx a o h⟩⟩
  · obtain ⟨o, q⟩ := P.B.dom _ _ k.sto a h
    exact kn (k.off a h) q
  · obtain ⟨v, q1, q2⟩ := k.sh i d h
    exact ⟨v, q1, x.ff.dp _ _ q2⟩
  · obtain ⟨p, vs, q1, q2, q3, q4, q5, q6⟩ := k.ow i xs h
    exact ⟨p, vs, q1, hx _ _ q2, kn q3 q2, q4, q5, OdR.mono x.ff q6⟩
  · obtain ⟨q1, q2⟩ := k.ex i y h
    exact ⟨q1, q2.mono x.ff⟩
theorem Ext.refl {F H : Hp} (h : Ex F H) : Ext F H F H := ⟨Ex.refl _, h, fun _ _ q => .inl ⟨_, q⟩, fun _ _ q => ⟨_, q⟩⟩
/-- a new frozen object -/
theorem Ext.lay {F H : Hp} {p : Addr} {o : HO} (h : Ex F H) (n : H p = none) : Ext F H (upd F p o) (upd H p o) := by
  refine ⟨Ex.new (h.back n), h.updB, fun a u q => ?_, fun a u q => ⟨_, Ex.new n a u q⟩⟩
  by_cases z : a = p
  · subst z; exact .inr n
  · rw [upd_ne z] at q; exact .inl ⟨_, q⟩
/-- a new object that is kept apart -/
theorem Ext.layO {F H : Hp} {p : Addr} {o : HO} (h : Ex F H) (n : H p = none) : Ext F H F (upd H p o) :=
  ⟨Ex.refl _, h.updR (h.back n), fun a u q => .inl ⟨_, q⟩, fun a u q => ⟨_, Ex.new n a u q⟩⟩
/-- a kept-apart object is frozen -/
theorem EOk.freeze {P : Pm} {e : En P.B.S} {σ : St} {F H : Hp} (k : EOk P e σ F H) {p : Addr} {o : HO} (h : H p = some o) (h0 : P.H0 p = none) (hO : p ∉ P.B.O) (hw : ¬ Ow e σ p) (hF : F p = none) : EOk P e σ (upd F p o) H := by
  have ff : Ex F (upd F p o) := Ex.new hF
  refine ⟨⟨k.ext.ff.trans ff, k.ext.fh.updL h, fun a u q => ?_, k.ext.kp⟩, k.fra, k.sto, fun a q => ?_, k.len, fun i d q => ?_, k.tok, fun i xs q => ?_, k.sep, fun i y q => ?_⟩
  · by_cases z : a = p
    · subst z; exact .inr h0
    · rw [upd_ne z] at q; exact k.ext.nw a u q
  · have z : a ≠ p := fun z => hO (by rw [← z]; exact q)
    rw [upd_ne z]; exact k.off a q
  · obtain ⟨v, q1, q2⟩ := k.sh i d q
    exact ⟨v, q1, ff.dp _ _ q2⟩
  · obtain ⟨r, vs, q1, q2, q3, q4, q5, q6⟩ := k.ow i xs q
    refine ⟨r, vs, q1, q2, ?_, q4, q5, OdR.mono ff q6⟩
    have z : r ≠ p := fun z => hw ⟨i, xs, q, by rw [← z]; exact q1⟩
    rw [upd_ne z]
    exact q3
  · obtain ⟨q1, q2⟩ := k.ex i y q
    exact ⟨q1, q2.mono ff⟩

/-! what a computation's end gives -/
section
variable {P : Pm}
def Sat (P : Pm) (W : WX) {α : Type} (e : En P.B.S) (σ : St) (F H : Hp) (o : Out P.B.S α) (G : α → En P.B.S → Hp → Hp → Prop) : Prop :=
  match o with
  | .ok a e1 => ∀ F1 H1, EOk P e1 σ F1 H1 → Step P e e1 σ F H F1 H1 → G a e1 F1 H1
  | .err x e1 => ∀ c d F1 H1, EOk P e1 σ F1 H1 → Ex F F1 → ErOk P.mg F1 c d x → W c d σ H1
  | .stuck => False
variable {W : WX} {α β : Type} {e e1 : En P.B.S} {σ : St} {F H F1 H1 : Hp}
theorem Sat.back {o : Out P.B.S α} {G : α → En P.B.S → Hp → Hp → Prop} (st : Step P e e1 σ F H F1 H1) (h : Sat P W e σ F H o G) : Sat P W e1 σ F1 H1 o G := by
  cases o with
  | ok a e2 => exact fun F2 H2 k s => h F2 H2 k (st.trans s)
  | err x e2 => exact fun c d F2 H2 k x r => h c d F2 H2 k (st.ff.trans x) r
  | stuck => exact h
theorem Sat.imp {o : Out P.B.S α} {G G1 : α → En P.B.S → Hp → Hp → Prop} (h : Sat P W e σ F H o G)
    (hg : ∀ a e1 F1 H1, EOk P e1 σ F1 H1 → Step P e e1 σ F H F1 H1 → G a e1 F1 H1 → G1 a e1 F1 H1) : Sat P W e σ F H o G1 := by
  cases o with
  | ok a e2 => exact fun F2 H2 k s => hg _ _ _ _ k s (h F2 H2 k s)
  | err x e2 => exact h
  | stuck => exact h
theorem Sat.bnd {f : M P.B.S α} {k : α → M P.B.S β} {G : β → En P.B.S → Hp → Hp → Prop} (h : Sat P W e σ F H (bnd f k e) G) :
    Sat P W e σ F H (f e) fun a e1 F1 H1 => Sat P W e1 σ F1 H1 (k a e1) G := by
  unfold Mi.bnd at h
  cases q : f e with
  | ok a e2 => rw [q] at h; exact fun F2 H2 k s => Sat.back s h
  | err x e2 => rw [q] at h; exact h
  | stuck => rw [q] at h; exact h
def tX (P : Pm) (W : WX) (m : M P.B.S D) : TE := fun σ H Q => ∃ F e, EOk P e σ F H ∧ Sat P W e σ F H (m e) fun d _ F1 H1 => ∀ v, Rp F1 v d → Q v H1
def tF (P : Pm) (W : WX) (m : M P.B.S (List D)) : TE := fun σ H Q => ∃ F e, EOk P e σ F H ∧ Sat P W e σ F H (m e) fun xs _ F1 H1 => ∀ p vs, H p = none → H1 p = some (.lst vs) → F1 p = none → RpA F1 vs xs → Q (.ref p) H1
def tT (P : Pm) (W : WX) (m : M P.B.S Bool) : TT := fun σ H Q => ∃ F e, EOk P e σ F H ∧ Sat P W e σ F H (m e) fun b _ _ H1 => Q b H1
inductive Arg where
  | d (x : D) | tok
inductive ArgsOk (B : Amb) (F : Hp) : List V → List Arg → Prop
  | nil : ArgsOk B F [] []
  | d {v : V} {x : D} {vs : List V} {as : List Arg} : Rp F v x → ArgsOk B F vs as → ArgsOk B F (v :: vs) (.d x :: as)
  | tok {vs : List V} {as : List Arg} : ArgsOk B F vs as → ArgsOk B F (.ref B.p :: vs) (.tok :: as)
theorem ArgsOk.mono {B : Amb} {F G : Hp} (e : Ex F G) {vs : List V} {as : List Arg} (h : ArgsOk B F vs as) : ArgsOk B G vs as := by
  induction h with
  | nil => exact .nil
  | d h1 _ ih => exact .d (e.dp _ _ h1) ih
  | tok _ ih => exact .tok ih
theorem ArgsOk.len {B : Amb} {F : Hp} {vs : List V} {as : List Arg} (h : ArgsOk B F vs as) : vs.length = as.length := by
  induction h with
  | nil => rfl
  | d _ _ ih => simp [ih]
  | tok _ ih => simp [ih]
def tA (P : Pm) (W : WX) (m : M P.B.S (List Arg)) : TA := fun σ H Q => ∃ F e, EOk P e σ F H ∧ Sat P W e σ F H (m e) fun as _ F1 H1 => ∀ vs, ArgsOk P.B F1 vs as → Q vs H1
end

structure Cn (P : Pm) (X : Cx) (W : WX) : Prop where
  hK : X.K = P.K
  hmg : X.mg = P.mg
  tk : Takes X W
abbrev XE (P : Pm) (X : Cx) (W : WX) (e : Expr) (m : M P.B.S D) : Prop := PE X e (tX P W m)
abbrev XF (P : Pm) (X : Cx) (W : WX) (e : Expr) (m : M P.B.S (List D)) : Prop := PE X e (tF P W m)
abbrev XT (P : Pm) (X : Cx) (W : WX) (e : Expr) (m : M P.B.S Bool) : Prop := PT X e (tT P W m)
abbrev XW (P : Pm) (X : Cx) (W : WX) (e : Expr) (m : M P.B.S Bool) : Prop := PW X e (tT P W m)
abbrev XA (P : Pm) (X : Cx) (W : WX) (es : List Expr) (m : M P.B.S (List Arg)) : Prop := PA X es (tA P W m)

theorem pe_imp {X : Cx} {e : Expr} {t u : TE} (h : PE X e t) (i : ∀ σ H Q, u σ H Q → t σ H Q) : PE X e u := ⟨fun pins s σ H Q I q => h.run pins s σ H Q I (i σ H Q q)⟩
theorem pt_imp {X : Cx} {e : Expr} {t u : TT} (h : PT X e t) (i : ∀ σ H Q, u σ H Q → t σ H Q) : PT X e u := ⟨fun pins s σ H Q I q => h.run pins s σ H Q I (i σ H Q q)⟩
theorem pw_imp {X : Cx} {e : Expr} {t u : TT} (h : PW X e t) (i : ∀ σ H Q, u σ H Q → t σ H Q) : PW X e u := ⟨fun wh pins s σ H Q I q => h.run wh pins s σ H Q I (i σ H Q q)⟩
theorem pa_imp {X : Cx} {es : List Expr} {t u : TA} (h : PA X es t) (i : ∀ σ H Q, u σ H Q → t σ H Q) : PA X es u := ⟨fun pos pins s σ H Q I q => h.run pos pins s σ H Q I (i σ H Q q)⟩
theorem ps_imp {X : Cx} {st : Stmt} {t u : TS} (h : PS X st t) (i : ∀ D σ H, u D σ H → t D σ H) : PS X st u := ⟨fun pins s σ H D I q => h.run pins s σ H D I (i D σ H q)⟩
theorem pss_imp {X : Cx} {st : List Stmt} {t u : TS} (h : PSs X st t) (i : ∀ D σ H, u D σ H → t D σ H) : PSs X st u := ⟨fun pins s σ H D I q => h.run pins s σ H D I (i D σ H q)⟩
end Mi
set_option maxHeartbeats 2000000
namespace Mi
open PySem PySem.Spec PyProof.Rows L2

section
variable {P : Pm} {X : Cx} {W : WX} {α β : Type} {e e1 : En P.B.S} {σ : St} {F H F1 H1 : Hp} {pos : Pos}

theorem Sat.rt {a : α} {G : α → En P.B.S → Hp → Hp → Prop} (k : EOk P e σ F H) (h : Sat P W e σ F H (rt a e) G) : G a e F H := h F H k Step.refl
theorem Sat.lft {o : Option α} {G : α → En P.B.S → Hp → Hp → Prop} (h : Sat P W e σ F H (lft o e) G) : ∃ a, o = some a ∧ Sat P W e σ F H (.ok a e) G := by
  cases o with
  | none => exact h.elim
  | some a => exact ⟨a, rfl, h⟩
theorem Sat.grow {a : α} {G : α → En P.B.S → Hp → Hp → Prop} (k : EOk P e σ F H) (h : Sat P W e σ F H (.ok a e) G) (hx : Ex H H1) (x : Ext F H F1 H1) : G a e F1 H1 :=
  h F1 H1 (k.grow hx x).1 (k.grow hx x).2

theorem tX_of {m : M P.B.S D} {k : D → M P.B.S β} {G : β → En P.B.S → Hp → Hp → Prop} {Q : VK} (ek : EOk P e σ F H) (h : Sat P W e σ F H (bnd m k e) G)
    (q : ∀ d e1 F1 H1 v, EOk P e1 σ F1 H1 → Step P e e1 σ F H F1 H1 → Rp F1 v d → Sat P W e1 σ F1 H1 (k d e1) G → Q v H1) : tX P W m σ H Q :=
  ⟨F, e, ek, h.bnd.imp fun d e1 F1 H1 k1 s1 h1 v rv => q d e1 F1 H1 v k1 s1 rv h1⟩
theorem tT_of {m : M P.B.S Bool} {k : Bool → M P.B.S β} {G : β → En P.B.S → Hp → Hp → Prop} {Q : Bool → Hp → Prop} (ek : EOk P e σ F H) (h : Sat P W e σ F H (bnd m k e) G)
    (q : ∀ d e1 F1 H1, EOk P e1 σ F1 H1 → Step P e e1 σ F H F1 H1 → Sat P W e1 σ F1 H1 (k d e1) G → Q d H1) : tT P W m σ H Q :=
  ⟨F, e, ek, h.bnd.imp fun d e1 F1 H1 k1 s1 h1 => q d e1 F1 H1 k1 s1 h1⟩
theorem tA_of {m : M P.B.S (List Arg)} {k : List Arg → M P.B.S β} {G : β → En P.B.S → Hp → Hp → Prop} {Q : List V → Hp → Prop} (ek : EOk P e σ F H) (h : Sat P W e σ F H (bnd m k e) G)
    (q : ∀ d e1 F1 H1 v, EOk P e1 σ F1 H1 → Step P e e1 σ F H F1 H1 → ArgsOk P.B F1 v d → Sat P W e1 σ F1 H1 (k d e1) G → Q v H1) : tA P W m σ H Q :=
  ⟨F, e, ek, h.bnd.imp fun d e1 F1 H1 k1 s1 h1 v rv => q d e1 F1 H1 v k1 s1 rv h1⟩
theorem tF_of {m : M P.B.S (List D)} {k : List D → M P.B.S β} {G : β → En P.B.S → Hp → Hp → Prop} {Q : VK} (ek : EOk P e σ F H) (h : Sat P W e σ F H (bnd m k e) G)
    (q : ∀ xs e1 F1 H1 p vs, EOk P e1 σ F1 H1 → Step P e e1 σ F H F1 H1 → H p = none → H1 p = some (.lst vs) → F1 p = none → RpA F1 vs xs → Sat P W e1 σ F1 H1 (k xs e1) G → Q (.ref p) H1) : tF P W m σ H Q :=
  ⟨F, e, ek, h.bnd.imp fun xs e1 F1 H1 k1 s1 h1 p vs g1 g2 g3 g4 => q xs e1 F1 H1 p vs k1 s1 g1 g2 g3 g4 h1⟩

/-! constants, names -/
theorem x_int {i : Int} {j : Nat} : XE P X W (.Constant (.int i) j pos) (rt (.int i)) := pe_imp pe_int fun σ H Q ⟨F, e, k, h⟩ => h.rt k _ (.int i)
theorem x_bl {b : Bool} {j : Nat} : XE P X W (.Constant (.bool b) j pos) (rt (.bool b)) := pe_imp pe_bl fun σ H Q ⟨F, e, k, h⟩ => h.rt k _ (.bl b)
theorem x_non {j : Nat} : XE P X W (.Constant .none j pos) (rt .none) := pe_imp pe_non fun σ H Q ⟨F, e, k, h⟩ => h.rt k _ .non
theorem x_str {x : Str} {j : Nat} : XE P X W (.Constant (.str x) j pos) (rt (.str x)) := pe_imp pe_str fun σ H Q ⟨F, e, k, h⟩ => h.rt k _ (.str x)

def mV {S : Type} (i : Nat) : M S D := fun e => match e.sl[i]? with
  | some (.sh d) => .ok d e
  | some (.ob (.lst xs)) => .ok (.list xs) { e with sl := e.sl.set i (.sh (.list xs)) }
  | _ => .stuck
theorem lget_set {α : Type} {l : List α} {i j : Nat} {a b : α} (h : (l.set i a)[j]? = some b) : (j = i ∧ b = a) ∨ (j ≠ i ∧ l[j]? = some b) := by
  by_cases z : i = j
  · subst z
    have hl : i < (l.set i a).length := (List.getElem?_eq_some_iff.mp h).1
    rw [List.getElem?_set_self (by simpa using hl)] at h
    exact .inl ⟨rfl, (Option.some.inj h).symm⟩
  · rw [List.getElem?_set_ne z] at h
    exact .inr ⟨fun q => z q.symm, h⟩
/-- a slot is given up: nothing is said of it any more -/
theorem EOk.drop {i : Nat} (k : EOk P e σ F H) {s : Slot} (hs : ∀ xs, s ≠ .ob xs) (h1 : ∀ d, s = .sh d → ∃ v, σ[i]? = some (some v) ∧ Rp F v d) (h2 : s ≠ .tok) (h3 : ∀ x, s ≠ .ex x) : EOk P { e with sl := e.sl.set i s } σ F H := by
  refine ⟨k.ext, k.fra, k.sto, k.off, by simpa using k.len, fun j d h => ?_, fun j h => ?_, fun j xs h => ?_, fun j j' xs ys p h h' => ?_, fun j x h => ?_⟩
  · rcases lget_set h with ⟨rfl, z⟩ | ⟨_, z⟩
    · exact h1 d z.symm
    · exact k.sh j d z
  · rcases lget_set h with ⟨rfl, z⟩ | ⟨_, z⟩
    · exact (h2 z.symm).elim
    · exact k.tok j z
  · rcases lget_set h with ⟨rfl, z⟩ | ⟨_, z⟩
    · exact (hs _ z.symm).elim
    · exact k.ow j xs z
  · rcases lget_set h with ⟨rfl, z⟩ | ⟨_, z⟩
    · exact (hs _ z.symm).elim
    · rcases lget_set h' with ⟨rfl, z'⟩ | ⟨_, z'⟩
      · exact (hs _ z'.symm).elim
      · exact k.sep j j' xs ys p z z'
  · rcases lget_set h with ⟨rfl, z⟩ | ⟨_, z⟩
    · exact (h3 _ z.symm).elim
    · exact k.ex j x z
theorem ow_set {i : Nat} {s : Slot} (hs : ∀ xs, s ≠ .ob xs) {a : Addr} (h : Ow { e with sl := e.sl.set i s } σ a) : Ow e σ a := by
  obtain ⟨j, xs, h1, h2⟩ := h
  rcases lget_set h1 with ⟨rfl, z⟩ | ⟨_, z⟩
  · exact (hs _ z.symm).elim
  · exact ⟨j, xs, z, h2⟩
/-- the kept-apart list in slot i is frozen -/
theorem EOk.frz {i : Nat} {xs : List D} (k : EOk P e σ F H) (h : e.sl[i]? = some (.ow xs)) : ∃ p F1, σ[i]? = some (some (.ref p)) ∧ EOk P { e with sl := e.sl.set i (.sh (.list xs)) } σ F1 H ∧
    Step P e { e with sl := e.sl.set i (.sh (.list xs)) } σ F H F1 H ∧ Rp F1 (.ref p) (.list xs) := by
  obtain ⟨p, vs, q1, q2, q3, q4, q5, q6⟩ := k.owL i xs h
  have ff : Ex F (upd F p (.lst vs)) := Ex.new q3
  have rp : Rp (upd F p (.lst vs)) (.ref p) (.list xs) := .lst upd_same (ff.dpa _ _ q6)
  have k0 : EOk P { e with sl := e.sl.set i .un } σ F H := k.drop (s := .un) (fun _ z => by cases z) (fun _ z => by cases z) (fun z => by cases z) (fun _ z => by cases z)
  have now : ¬ Ow { e with sl := e.sl.set i Slot.un } σ p := fun ⟨j, ys, h1, h2⟩ => by
    rcases lget_set h1 with ⟨_, z⟩ | ⟨ne, z⟩
    · cases z
    · exact ne (k.sep j i ys _ p z h h2 q1)
  have k1 := k0.freeze q2 q4 q5 now q3
  have k2 := k1.drop (i := i) (s := .sh (.list xs)) (fun _ z => nomatch z) (fun d z => by cases z; exact ⟨_, q1, rp⟩) (fun z => nomatch z) (fun _ z => nomatch z)
  refine ⟨p, upd F p (.lst vs), q1, by simpa using k2, ⟨ff, fun a o z => ?_, fun a o z => ⟨o, z⟩, fun a z => ow_set (fun _ y => by cases y) z, fun a o _ _ z => z⟩, rp⟩
  by_cases y : a = p
  · subst y; exact .inr (.inr ⟨i, _, h, q1⟩)
  · rw [upd_ne y] at z; exact .inl ⟨o, z⟩
theorem x_var (i : Nat) {x : Str} (hN : X.N[i]? = some x := by rfl) (hv : Vis X.env.scope x := by first | exact Or.inl rfl | exact Or.inr (Or.inl rfl) | exact Or.inr (Or.inr rfl)) (hd : (x == ("__debug__" : Str)) = false := by decide)
    (hcd : (x == ("__classdict__" : Str)) = false := by decide) : XE P X W (.Name x pos) (mV i) := pe_imp (pe_var hN hv hd hcd) fun σ H Q ⟨F, e, k, h⟩ => by
  unfold mV at h
  cases q : e.sl[i]? with
  | none => rw [q] at h; exact h.elim
  | some s =>
    rw [q] at h
    cases s with
    | un => exact h.elim
    | tok => exact h.elim
    | ex _ => exact h.elim
    | sh d =>
      obtain ⟨v, q1, q2⟩ := k.sh i d q
      exact ⟨v, q1, h F H k Step.refl v q2⟩
    | ob o =>
      cases o with
      | lst xs =>
        obtain ⟨p, F1, q1, k1, s1, rp⟩ := k.frz q
        exact ⟨_, q1, h F1 H k1 s1 _ rp⟩
      | dk _ => exact h.elim
      | dt _ => exact h.elim
      | st _ => exact h.elim

/-! operations on data -/
def Pr1 (r : V → Hp → VK → Prop) (g : D → Option D) : Prop := ∀ d d2 v (F H : Hp) Q, g d = some d2 → Rp F v d → Ex F H → (∀ v F1 H1, Ex H H1 → Ext F H F1 H1 → Rp F1 v d2 → Q v H1) → r v H Q
def Pr2 (r : R2) (g : D → D → Option D) : Prop := ∀ d1 d2 d3 v1 v2 (F H : Hp) Q, g d1 d2 = some d3 → Rp F v1 d1 → Rp F v2 d2 → Ex F H → (∀ v F1 H1, Ex H H1 → Ext F H F1 H1 → Rp F1 v d3 → Q v H1) → r v1 v2 H Q
def m2 {S : Type} (g : D → D → Option D) (f1 f2 : M S D) : M S D := bnd f1 fun x => bnd f2 fun y => lft (g x y)
def m1 {S : Type} (g : D → Option D) (f : M S D) : M S D := bnd f fun x => lft (g x)
theorem im2 {r : R2} {g : D → D → Option D} {f1 f2 : M P.B.S D} (pr : Pr2 r g) {Q : VK} (h : tX P W (m2 g f1 f2) σ H Q) : tOp r (tX P W f1) (tX P W f2) σ H Q := by
  obtain ⟨F, e, k, h⟩ := h
  refine tX_of k h fun d1 e1 F1 H1 v1 k1 s1 r1 h1 => ?_
  refine tX_of k1 h1 fun d2 e2 F2 H2 v2 k2 s2 r2 h2 => ?_
  obtain ⟨d3, hg, h3⟩ := h2.lft
  exact pr d1 d2 d3 v1 v2 F2 H2 Q hg (s2.ff.dp _ _ r1) r2 k2.ext.fh fun v F' H' hx x rv => h3.grow k2 hx x v rv
theorem x_op {op : Operator} {a b : Expr} {r : R2} {g : D → D → Option D} {f1 f2 : M P.B.S D} (ho : OpR X (binaryOp op) r) (pr : Pr2 r g) (ha : XE P X W a f1) (hb : XE P X W b f2) : XE P X W (.BinOp a op b pos) (m2 g f1 f2) :=
  pe_imp (pe_op ho ha hb) fun _ _ _ h => im2 pr h
theorem x_cmp {op : CmpOp} {a b : Expr} {r : R2} {g : D → D → Option D} {f1 f2 : M P.B.S D} (ho : OpR X (compareOp op) r) (pr : Pr2 r g) (ha : XE P X W a f1) (hb : XE P X W b f2) (hm : behindInMarks op b = false) : XE P X W (.Compare a [op] [b] pos) (m2 g f1 f2) :=
  pe_imp (pe_cmpR ho ha hb hm) fun _ _ _ h => im2 pr h
/-- a bool's own -/
def asB {S : Type} (f : M S D) : M S Bool := bnd f fun d => match d with
  | .bool b => rt b
  | _ => stk
theorem im_tst {f : M P.B.S D} {t : TE} (ht : ∀ σ H Q, tX P W f σ H Q → t σ H Q) (σ : St) (H : Hp) (Q : Bool → Hp → Prop) (h : tT P W (asB f) σ H Q) : t σ H fun x H1 => ∃ k, x = .bl k ∧ Q k H1 := by
  obtain ⟨F, e, k, h⟩ := h
  refine ht σ H _ (tX_of k h fun d1 e1 F1 H1 v1 k1 s1 r1 h1 => ?_)
  cases r1 with
  | bl b => exact ⟨b, rfl, h1.rt k1⟩
  | _ => exact h1.elim
theorem t_cmp {op : CmpOp} {a b : Expr} {r : R2} {g : D → D → Option D} {f1 f2 : M P.B.S D} (ho : OpR X (compareOp op) r) (pr : Pr2 r g) (ha : XE P X W a f1) (hb : XE P X W b f2) (hm : behindInMarks op b = false) : XT P X W (.Compare a [op] [b] pos) (asB (m2 g f1 f2)) :=
  pt_imp (pt_cmpR ho ha hb hm) fun σ H Q h => im_tst (t := tOp r (tX P W f1) (tX P W f2)) (fun _ _ _ z => im2 pr z) σ H Q h
theorem x_un {op : UnaryOp} {a : Expr} {r : V → Hp → VK → Prop} {g : D → Option D} {f : M P.B.S D} (ho : UnR X (unaryOp op) r) (pr : Pr1 r g) (ha : XE P X W a f) : XE P X W (.UnaryOp op a pos) (m1 g f) :=
  pe_imp (pe_un ho ha) fun σ H Q ⟨F, e, k, h⟩ => by
    refine tX_of k h fun d1 e1 F1 H1 v1 k1 s1 r1 h1 => ?_
    obtain ⟨d3, hg, h3⟩ := h1.lft
    exact pr d1 d3 v1 F1 H1 Q hg r1 k1.ext.fh fun v F' H' hx x rv => h3.grow k1 hx x v rv
/-- a value that is a bool, as a test -/
theorem t_val {a : Expr} {f : M P.B.S D} (h : XE P X W a f) (he : ∀ whole, isTrue a X.env whole = (do let v ← whole; standAt a.pos; holding [v] (truthy v)) := by intro _; rfl) : XT P X W a (asB f) :=
  pt_imp (pt_val h he) fun σ H Q h => im_tst (t := tX P W f) (fun _ _ _ z => z) σ H Q h

/-! and, or, not, if -/
def mAnd {S : Type} (f g : M S Bool) : M S Bool := bnd f fun b => if b = true then g else rt false
def mOr {S : Type} (f g : M S Bool) : M S Bool := bnd f fun b => if b = true then rt true else g
def mNot {S : Type} (f : M S Bool) : M S Bool := bnd f fun b => rt (!b)
def mIfE {S α : Type} (f : M S Bool) (g h : M S α) : M S α := bnd f fun b => if b = true then g else h
theorem t_and1 {a : Expr} {f : M P.B.S Bool} (h : XT P X W a f) : XW P X W (.BoolOp .And [a] pos) f := pw_and1 h
theorem t_or1 {a : Expr} {f : M P.B.S Bool} (h : XT P X W a f) : XW P X W (.BoolOp .Or [a] pos) f := pw_or1 h
theorem t_and {a b : Expr} {rest : List Expr} {f g : M P.B.S Bool} (h : XT P X W a f) (q : XW P X W (.BoolOp .And (b :: rest) pos) g) : XW P X W (.BoolOp .And (a :: b :: rest) pos) (mAnd f g) :=
  pw_imp (pw_and h q) fun σ H Q ⟨F, e, k, h⟩ => tT_of k h fun b e1 F1 H1 k1 s1 h1 => by
    cases b with
    | true => exact ⟨F1, e1, k1, h1⟩
    | false => exact h1.rt k1
theorem t_or {a b : Expr} {rest : List Expr} {f g : M P.B.S Bool} (h : XT P X W a f) (q : XW P X W (.BoolOp .Or (b :: rest) pos) g) : XW P X W (.BoolOp .Or (a :: b :: rest) pos) (mOr f g) :=
  pw_imp (pw_or h q) fun σ H Q ⟨F, e, k, h⟩ => tT_of k h fun b e1 F1 H1 k1 s1 h1 => by
    cases b with
    | true => exact h1.rt k1
    | false => exact ⟨F1, e1, k1, h1⟩
theorem t_pw {a : Expr} {f : M P.B.S Bool} (h : XW P X W a f) : XT P X W a f := h.pt
theorem t_not {a : Expr} {f : M P.B.S Bool} (h : XT P X W a f) : XT P X W (.UnaryOp .Not a pos) (mNot f) :=
  pt_imp (pt_not h) fun σ H Q ⟨F, e, k, h⟩ => tT_of k h fun b e1 F1 H1 k1 s1 h1 => h1.rt k1
/-- as values -/
def mAndV {S : Type} (f g : M S D) : M S D := bnd (asB f) fun b => if b = true then g else rt (.bool false)
def mOrV {S : Type} (f g : M S D) : M S D := bnd (asB f) fun b => if b = true then rt (.bool true) else g
def mNotV {S : Type} (f : M S D) : M S D := bnd (asB f) fun b => rt (.bool (!b))
theorem asB_of {f : M P.B.S D} {k : Bool → M P.B.S β} {G : β → En P.B.S → Hp → Hp → Prop} {Q : VK} (ek : EOk P e σ F H) (h : Sat P W e σ F H (bnd (asB f) k e) G)
    (q : ∀ b e1 F1 H1, EOk P e1 σ F1 H1 → Step P e e1 σ F H F1 H1 → Sat P W e1 σ F1 H1 (k b e1) G → Q (.bl b) H1) : tX P W f σ H Q := by
  have h1 : Sat P W e σ F H (bnd f (fun d => bnd (match d with | .bool b => rt b | _ => stk) k) e) G := by
    have : bnd (asB f) k e = bnd f (fun d => bnd (match d with | .bool b => rt b | _ => stk) k) e := by
      unfold asB bnd
      cases f e <;> rfl
    rw [← this]; exact h
  refine tX_of ek h1 fun d1 e1 F1 H1 v1 k1 s1 r1 h2 => ?_
  cases r1 with
  | bl b => exact q b e1 F1 H1 k1 s1 h2
  | _ => exact h2.elim
theorem x_one {op : BoolOp} {a : Expr} {f : M P.B.S D} (h : XE P X W a f) : XE P X W (.BoolOp op [a] pos) f := pe_one h
theorem x_and {a b : Expr} {rest : List Expr} {f g : M P.B.S D} (h : XE P X W a f) (q : XE P X W (.BoolOp .And (b :: rest) pos) g) : XE P X W (.BoolOp .And (a :: b :: rest) pos) (mAndV f g) :=
  pe_imp (pe_and h q) fun σ H Q ⟨F, e, k, h⟩ => asB_of k h fun b e1 F1 H1 k1 s1 h1 => ⟨b, rfl, by
    cases b with
    | true => exact ⟨F1, e1, k1, h1⟩
    | false => exact h1.rt k1 _ (.bl _)⟩
theorem x_or {a b : Expr} {rest : List Expr} {f g : M P.B.S D} (h : XE P X W a f) (q : XE P X W (.BoolOp .Or (b :: rest) pos) g) : XE P X W (.BoolOp .Or (a :: b :: rest) pos) (mOrV f g) :=
  pe_imp (pe_or h q) fun σ H Q ⟨F, e, k, h⟩ => asB_of k h fun b e1 F1 H1 k1 s1 h1 => ⟨b, rfl, by
    cases b with
    | true => exact h1.rt k1 _ (.bl _)
    | false => exact ⟨F1, e1, k1, h1⟩⟩
theorem x_not {a : Expr} {f : M P.B.S D} (h : XE P X W a f) : XE P X W (.UnaryOp .Not a pos) (mNotV f) :=
  pe_imp (pe_not h) fun σ H Q ⟨F, e, k, h⟩ => asB_of k h fun b e1 F1 H1 k1 s1 h1 => ⟨b, rfl, h1.rt k1 _ (.bl _)⟩
theorem x_ifE {c a b : Expr} {f : M P.B.S Bool} {g h : M P.B.S D} (hc : XT P X W c f) (ha : XE P X W a g) (hb : XE P X W b h) : XE P X W (.IfExp c a b pos) (mIfE f g h) :=
  pe_imp (pe_ifExp hc ha hb) fun σ H Q ⟨F, e, k, h⟩ => tT_of k h fun b e1 F1 H1 k1 s1 h1 => by
    cases b with
    | true => exact ⟨F1, e1, k1, h1⟩
    | false => exact ⟨F1, e1, k1, h1⟩

/-! argument lists, displays -/
def mNil {S : Type} : M S (List Arg) := rt []
def mCons {S : Type} (f : M S D) (g : M S (List Arg)) : M S (List Arg) := bnd f fun d => bnd g fun as => rt (.d d :: as)
def mTok {S : Type} (i : Nat) (g : M S (List Arg)) : M S (List Arg) := fun e => match e.sl[i]? with
  | some .tok => bnd g (fun as => rt (.tok :: as)) e
  | _ => .stuck
theorem a_nil : XA P X W [] mNil := pa_imp pa_nil fun σ H Q ⟨F, e, k, h⟩ => h.rt k _ .nil
theorem a_cons {a : Expr} {es : List Expr} {f : M P.B.S D} {g : M P.B.S (List Arg)} (ha : XE P X W a f) (hr : XA P X W es g) (hs : starEach (a :: es) X.env = (false, eval a X.env) :: starEach es X.env := by rfl) : XA P X W (a :: es) (mCons f g) :=
  pa_imp (pa_cons ha hr hs) fun σ H Q ⟨F, e, k, h⟩ => tX_of k h fun d e1 F1 H1 v k1 s1 r1 h1 => tA_of k1 h1 fun as e2 F2 H2 vs k2 s2 r2 h2 => h2.rt k2 _ (.d (s2.ff.dp _ _ r1) r2)
theorem a_tok (i : Nat) {x : Str} {p : Pos} {es : List Expr} {g : M P.B.S (List Arg)} (hr : XA P X W es g) (hN : X.N[i]? = some x := by rfl) (hv : Vis X.env.scope x := by first | exact Or.inl rfl | exact Or.inr (Or.inl rfl) | exact Or.inr (Or.inr rfl))
    (hd : (x == ("__debug__" : Str)) = false := by decide) (hcd : (x == ("__classdict__" : Str)) = false := by decide) (hs : starEach (.Name x p :: es) X.env = (false, eval (.Name x p) X.env) :: starEach es X.env := by rfl) : XA P X W (.Name x p :: es) (mTok i g) :=
  pa_imp (pa_cons (pe_var hN hv hd hcd) hr hs) fun σ H Q ⟨F, e, k, h⟩ => by
    unfold mTok at h
    cases q : e.sl[i]? with
    | none => rw [q] at h; exact h.elim
    | some s =>
      rw [q] at h
      cases s with
      | tok => exact ⟨_, k.tok i q, tA_of k h fun as e2 F2 H2 vs k2 s2 r2 h2 => h2.rt k2 _ (.tok r2)⟩
      | _ => exact h.elim
def argD : List Arg → Option (List D)
  | [] => some []
  | .d x :: as => (argD as).map (x :: ·)
  | .tok :: _ => none
theorem argD_ok {B : Amb} {F : Hp} : ∀ {vs : List V} {as : List Arg} {ds : List D}, ArgsOk B F vs as → argD as = some ds → RpA F vs ds
  | _, [], _, h, e => by cases h; cases e; exact .nil
  | _, .d x :: as, ds, h, e => by
    cases h with
    | d h1 h2 =>
      unfold argD at e
      cases q : argD as with
      | none => rw [q] at e; cases e
      | some es => rw [q] at e; cases e; exact .cons h1 (argD_ok h2 q)
  | _, .tok :: _, _, _, e => by cases e
def capL (ds : List D) : Option (List D) := if ds.length ≤ sizeLine then some ds else none
theorem capL_ok {ds es : List D} (h : capL ds = some es) : es = ds ∧ ds.length ≤ sizeLine := by
  unfold capL at h
  split at h
  · cases h; exact ⟨rfl, by assumption⟩
  · cases h
def mLst {S : Type} (g : M S (List Arg)) : M S (List D) := bnd g fun as => lft ((argD as).bind capL)
def mTup {S : Type} (g : M S (List Arg)) : M S D := bnd g fun as => lft (((argD as).bind capL).map PyData.tuple)
def mFz {S : Type} (f : M S (List D)) : M S D := bnd f fun xs => rt (.list xs)
theorem f_lst {es : List Expr} {g : M P.B.S (List Arg)} (h : XA P X W es g) : XF P X W (.List es pos) (mLst g) :=
  pe_imp (pe_lst h) fun σ H Q ⟨F, e, k, h⟩ => tA_of k h fun as e1 F1 H1 vs k1 s1 r1 h1 => by
    obtain ⟨ds, hg, h3⟩ := h1.lft
    obtain ⟨es, hg1, hg2⟩ := Option.bind_eq_some_iff.mp hg
    obtain ⟨rfl, hz⟩ := capL_ok hg2
    have ra := argD_ok r1 hg1
    refine ⟨by rw [RpA.len ra]; exact hz, fun p np => ?_⟩
    obtain ⟨kF, _⟩ := k1.fresh np
    have x := Ext.layO (p := p) (o := .lst vs) k1.ext.fh np
    exact h3.grow k1 (Ex.new np) x p vs (s1.non np) upd_same kF ra
theorem x_tup {es : List Expr} {c : Nat} {g : M P.B.S (List Arg)} (h : XA P X W es g) : XE P X W (.Tuple es c pos) (mTup g) :=
  pe_imp (pe_tup h) fun σ H Q ⟨F, e, k, h⟩ => tA_of k h fun as e1 F1 H1 vs k1 s1 r1 h1 => by
    obtain ⟨d, hg, h3⟩ := h1.lft
    obtain ⟨ds, hg0, hd⟩ := Option.map_eq_some_iff.mp hg
    obtain ⟨es, hg1, hg2⟩ := Option.bind_eq_some_iff.mp hg0
    obtain ⟨rfl, hz⟩ := capL_ok hg2
    subst hd
    have ra := argD_ok r1 hg1
    refine ⟨by rw [RpA.len ra]; exact hz, fun p np => ?_⟩
    have x := Ext.lay (p := p) (o := .tup vs) k1.ext.fh np
    exact h3.grow k1 (Ex.new np) x _ (.tup upd_same (x.ff.dpa _ _ ra))
/-- a new list is taken as it is -/
theorem x_fz {a : Expr} {f : M P.B.S (List D)} (h : XF P X W a f) : XE P X W a (mFz f) :=
  pe_imp h fun σ H Q ⟨F, e, k, h⟩ => by
    refine ⟨F, e, k, ?_⟩
    unfold mFz bnd at h
    cases q : f e with
    | stuck => rw [q] at h; exact h
    | err x e1 => rw [q] at h; exact h
    | ok xs e1 =>
      rw [q] at h
      intro F1 H1 k1 s1 p vs h1 h2 h3 ra
      obtain ⟨kF, kH0, kO, kW⟩ := k.fresh h1
      have nw : ¬ Ow e1 σ p := fun z => kW (s1.ow p z)
      have k2 := k1.freeze h2 kH0 kO nw h3
      refine h (upd F1 p (.lst vs)) H1 k2 ⟨s1.ff.trans (Ex.new h3), fun a o z => ?_, s1.kp, s1.ow, s1.fr⟩ _ (.lst upd_same ((Ex.new h3).dpa _ _ ra))
      by_cases y : a = p
      · subst y; exact .inr (.inl h1)
      · rw [upd_ne y] at z; exact s1.nw a o z
end
end Mi
set_option maxHeartbeats 2000000
namespace Mi
open PySem PySem.Spec PyProof.Rows L2

inductive R where
  | sh (d : D) | fr (xs : List D)
inductive Fl where
  | nx | ret (r : R) | bk | ct
def R.d : R → D
  | .sh d => d
  | .fr xs => .list xs

section
variable {P : Pm} {X : Cx} {W : WX} {α β : Type} {e e1 : En P.B.S} {σ : St} {F H F1 H1 : Hp} {pos : Pos} {D : Ends}

def SatS (P : Pm) (W : WX) (F : Hp) (D : Ends) (o : Out P.B.S Fl) : Prop :=
  match o with
  | .ok .nx e1 => ∀ σ1 F1 H1, EOk P e1 σ1 F1 H1 → Ex F F1 → D.nx σ1 H1
  | .ok .bk e1 => ∀ σ1 F1 H1, EOk P e1 σ1 F1 H1 → Ex F F1 → D.bk σ1 H1
  | .ok .ct e1 => ∀ σ1 F1 H1, EOk P e1 σ1 F1 H1 → Ex F F1 → D.ct σ1 H1
  | .ok (.ret (.sh d)) e1 => ∀ σ1 F1 H1, EOk P e1 σ1 F1 H1 → Ex F F1 → ∀ v, Rp F1 v d → D.rt v H1
  | .ok (.ret (.fr xs)) e1 => ∀ σ1 F1 H1, EOk P e1 σ1 F1 H1 → Ex F F1 → ∀ p vs, P.H0 p = none → H1 p = some (.lst vs) → F1 p = none → RpA F1 vs xs → D.rt (.ref p) H1
  | .err x e1 => ∀ c d σ1 F1 H1, EOk P e1 σ1 F1 H1 → Ex F F1 → ErOk P.mg F1 c d x → W c d σ1 H1
  | .stuck => False
theorem SatS.mono (x : Ex F F1) {o : Out P.B.S Fl} (h : SatS P W F D o) : SatS P W F1 D o := by
  cases o with
  | stuck => exact h
  | err y e => exact fun c d σ1 F2 H2 k q r => h c d σ1 F2 H2 k (x.trans q) r
  | ok fl e =>
    cases fl with
    | nx => exact fun σ1 F2 H2 k q => h σ1 F2 H2 k (x.trans q)
    | bk => exact fun σ1 F2 H2 k q => h σ1 F2 H2 k (x.trans q)
    | ct => exact fun σ1 F2 H2 k q => h σ1 F2 H2 k (x.trans q)
    | ret r =>
      cases r with
      | sh d => exact fun σ1 F2 H2 k q => h σ1 F2 H2 k (x.trans q)
      | fr xs => exact fun σ1 F2 H2 k q => h σ1 F2 H2 k (x.trans q)
def tS (P : Pm) (W : WX) (m : M P.B.S Fl) : TS := fun D σ H => ∃ F e, EOk P e σ F H ∧ SatS P W F D (m e)
abbrev XS (P : Pm) (X : Cx) (W : WX) (st : Stmt) (m : M P.B.S Fl) : Prop := PS X st (tS P W m)
abbrev XSs (P : Pm) (X : Cx) (W : WX) (st : List Stmt) (m : M P.B.S Fl) : Prop := PSs X st (tS P W m)

def sq {S : Type} (m1 m2 : M S Fl) : M S Fl := fun e => match m1 e with
  | .ok .nx e1 => m2 e1
  | o => o
def nop {S : Type} : M S Fl := fun e => .ok .nx e
theorem ss_nil : XSs P X W [] nop := pss_imp pss_nil fun D σ H ⟨F, e, k, h⟩ => h σ F H k (Ex.refl _)
theorem ss_one {st : Stmt} {m : M P.B.S Fl} (h : XS P X W st m) : XSs P X W [st] m := pss_one h
theorem SatS.sq {m1 m2 : M P.B.S Fl} (h : SatS P W F D (sq m1 m2 e)) : SatS P W F { D with nx := tS P W m2 D } (m1 e) := by
  unfold Mi.sq at h
  cases q : m1 e with
  | stuck => rw [q] at h; exact h
  | err y e => rw [q] at h; exact h
  | ok fl e1 =>
    rw [q] at h
    cases fl with
    | nx => exact fun σ1 F2 H2 k x => ⟨F2, e1, k, h.mono x⟩
    | bk => exact h
    | ct => exact h
    | ret r =>
      cases r with
      | sh d => exact h
      | fr xs => exact h
theorem ss_cons {st : Stmt} {rest : List Stmt} {m1 m2 : M P.B.S Fl} (h1 : XS P X W st m1) (h2 : XSs P X W rest m2) : XSs P X W (st :: rest) (sq m1 m2) :=
  pss_imp (pss_cons h1 h2) fun D σ H ⟨F, e, k, h⟩ => ⟨F, e, k, h.sq⟩

/-- an expression, then the rest of a statement -/
theorem SatS.bnd {f : M P.B.S α} {k : α → M P.B.S Fl} (h : SatS P W F D (bnd f k e)) : Sat P W e σ F H (f e) fun a e1 F1 H1 => SatS P W F1 D (k a e1) := by
  unfold Mi.bnd at h
  cases q : f e with
  | stuck => rw [q] at h; exact h
  | err y e1 => rw [q] at h; exact fun c d F1 H1 k x r => h c d σ F1 H1 k x r
  | ok a e1 => rw [q] at h; exact fun F1 H1 _ s => h.mono s.ff
theorem sX_of {m : M P.B.S Mi.D} {k : Mi.D → M P.B.S Fl} {Q : VK} (ek : EOk P e σ F H) (h : SatS P W F D (bnd m k e))
    (q : ∀ d e1 F1 H1 v, EOk P e1 σ F1 H1 → Step P e e1 σ F H F1 H1 → Rp F1 v d → SatS P W F1 D (k d e1) → Q v H1) : tX P W m σ H Q :=
  ⟨F, e, ek, Sat.imp h.bnd fun d e1 F1 H1 k1 s1 h1 v rv => q d e1 F1 H1 v k1 s1 rv h1⟩
theorem sF_of {m : M P.B.S (List Mi.D)} {k : List Mi.D → M P.B.S Fl} {Q : VK} (ek : EOk P e σ F H) (h : SatS P W F D (bnd m k e))
    (q : ∀ xs e1 F1 H1 p vs, EOk P e1 σ F1 H1 → Step P e e1 σ F H F1 H1 → H p = none → H1 p = some (.lst vs) → F1 p = none → RpA F1 vs xs → SatS P W F1 D (k xs e1) → Q (.ref p) H1) : tF P W m σ H Q :=
  ⟨F, e, ek, Sat.imp h.bnd fun xs e1 F1 H1 k1 s1 h1 p vs g1 g2 g3 g4 => q xs e1 F1 H1 p vs k1 s1 g1 g2 g3 g4 h1⟩
theorem sT_of {m : M P.B.S Bool} {k : Bool → M P.B.S Fl} {Q : Bool → Hp → Prop} (ek : EOk P e σ F H) (h : SatS P W F D (bnd m k e))
    (q : ∀ b e1 F1 H1, EOk P e1 σ F1 H1 → Step P e e1 σ F H F1 H1 → SatS P W F1 D (k b e1) → Q b H1) : tT P W m σ H Q :=
  ⟨F, e, ek, Sat.imp h.bnd fun b e1 F1 H1 k1 s1 h1 => q b e1 F1 H1 k1 s1 h1⟩

/-! return, pass, break, continue, if, an expression alone -/
def mRet {S : Type} (f : M S Mi.D) : M S Fl := bnd f fun d => rt (.ret (.sh d))
def mRetF {S : Type} (f : M S (List Mi.D)) : M S Fl := bnd f fun xs => rt (.ret (.fr xs))
def mRetV {S : Type} (i : Nat) : M S Fl := fun e => match e.sl[i]? with
  | some (.sh d) => .ok (.ret (.sh d)) e
  | some (.ob (.lst xs)) => .ok (.ret (.fr xs)) { e with sl := e.sl.set i .un }
  | _ => .stuck
def mDrop {S : Type} (f : M S Mi.D) : M S Fl := bnd f fun _ => nop
def mIf {S : Type} (f : M S Bool) (g h : M S Fl) : M S Fl := bnd f fun b => if b = true then g else h
def mBrk {S : Type} : M S Fl := fun e => .ok .bk e
def mCt {S : Type} : M S Fl := fun e => .ok .ct e
theorem s_ret {a : Expr} {f : M P.B.S Mi.D} (h : XE P X W a f) : XS P X W (.Return (some a) pos) (mRet f) :=
  ps_imp (ps_ret h) fun D σ H ⟨F, e, k, h⟩ => sX_of k h fun d e1 F1 H1 v k1 s1 r1 h1 => h1 σ F1 H1 k1 (Ex.refl _) v r1
theorem s_retF {a : Expr} {f : M P.B.S (List Mi.D)} (h : XF P X W a f) : XS P X W (.Return (some a) pos) (mRetF f) :=
  ps_imp (ps_ret h) fun D σ H ⟨F, e, k, h⟩ => sF_of k h fun xs e1 F1 H1 p vs k1 s1 g1 g2 g3 g4 h1 => h1 σ F1 H1 k1 (Ex.refl _) p vs (k.fresh g1).2.1 g2 g3 g4
theorem s_retV (i : Nat) {x : Str} {p : Pos} (hN : X.N[i]? = some x := by rfl) (hv : Vis X.env.scope x := by first | exact Or.inl rfl | exact Or.inr (Or.inl rfl) | exact Or.inr (Or.inr rfl)) (hd : (x == ("__debug__" : Str)) = false := by decide)
    (hcd : (x == ("__classdict__" : Str)) = false := by decide) : XS P X W (.Return (some (.Name x p)) pos) (mRetV i) :=
  ps_imp (ps_ret (pe_var hN hv hd hcd)) fun D σ H ⟨F, e, k, h⟩ => by
    unfold mRetV at h
    cases q : e.sl[i]? with
    | none => rw [q] at h; exact h.elim
    | some s =>
      rw [q] at h
      cases s with
      | sh d =>
        obtain ⟨v, q1, q2⟩ := k.sh i d q
        exact ⟨v, q1, h σ F H k (Ex.refl _) v q2⟩
      | ob o =>
        cases o with
        | lst xs =>
          obtain ⟨r, vs, q1, q2, q3, q4, q5, q6⟩ := k.owL i xs q
          have k1 := k.drop (i := i) (s := .un) (fun _ z => by cases z) (fun _ z => by cases z) (fun z => by cases z) (fun _ z => by cases z)
          exact ⟨_, q1, h σ F H k1 (Ex.refl _) r vs q4 q2 q3 q6⟩
        | _ => exact h.elim
      | _ => exact h.elim
def mRetN {S : Type} : M S Fl := fun e => .ok (.ret (.sh .none)) e
theorem s_retN : XS P X W (.Return none pos) mRetN := ps_imp ps_retN fun D σ H ⟨F, e, k, h⟩ => h σ F H k (Ex.refl _) _ .non
theorem s_pass : XS P X W (.Pass pos) nop := ps_imp ps_pass fun D σ H ⟨F, e, k, h⟩ => h σ F H k (Ex.refl _)
theorem s_brk : XS P X W (.Break pos) mBrk := ps_imp ps_break fun D σ H ⟨F, e, k, h⟩ => h σ F H k (Ex.refl _)
theorem s_ct : XS P X W (.Continue pos) mCt := ps_imp ps_continue fun D σ H ⟨F, e, k, h⟩ => h σ F H k (Ex.refl _)
theorem s_doc {x : Str} {j : Nat} {p : Pos} : XS P X W (.Expr (.Constant (.str x) j p) pos) nop := ps_imp ps_doc fun D σ H ⟨F, e, k, h⟩ => h σ F H k (Ex.refl _)
theorem s_expr {a : Expr} {f : M P.B.S Mi.D} (h : XE P X W a f) (hs : swapsWith a none pos.line X.env = pure false := by rfl) : XS P X W (.Expr a pos) (mDrop f) :=
  ps_imp (ps_expr h hs) fun D σ H ⟨F, e, k, h⟩ => sX_of k h fun d e1 F1 H1 v k1 s1 r1 h1 => h1 σ F1 H1 k1 (Ex.refl _)
theorem s_if {c : Expr} {a b : List Stmt} {f : M P.B.S Bool} {g h : M P.B.S Fl} (hc : XT P X W c f) (ha : XSs P X W a g) (hb : XSs P X W b h) : XS P X W (.If c a b pos) (mIf f g h) :=
  ps_imp (ps_if hc ha hb) fun D σ H ⟨F, e, k, h⟩ => sT_of k h fun b e1 F1 H1 k1 s1 h1 => by
    cases b with
    | true => exact ⟨F1, e1, k1, h1⟩
    | false => exact ⟨F1, e1, k1, h1⟩

/-! stores -/
theorem EOk.put {i : Nat} {v : V} {d : Mi.D} (k : EOk P e σ F H) (r : Rp F v d) : EOk P { e with sl := e.sl.set i (.sh d) } (σ.set i (some v)) F H := by
  have at_ : ∀ {j : Nat} {s : Slot}, j ≠ i → (σ.set i (some v))[j]? = σ[j]? := fun h => List.getElem?_set_ne (Ne.symm h)
  refine ⟨k.ext, k.fra, k.sto, k.off, by simpa using k.len, fun j d2 h => ?_, fun j h => ?_, fun j xs h => ?_, fun j j' xs ys p h h' g g' => ?_, fun j x h => ?_⟩
  · rcases lget_set h with ⟨rfl, z⟩ | ⟨ne, z⟩
    · cases z
      have hl : j < e.sl.length := by have := (List.getElem?_eq_some_iff.mp h).1; simpa using this
      exact ⟨v, List.getElem?_set_self (by rw [← k.len]; exact hl), r⟩
    · rw [List.getElem?_set_ne (Ne.symm ne)]; exact k.sh j d2 z
  · rcases lget_set h with ⟨rfl, z⟩ | ⟨ne, z⟩
    · cases z
    · rw [List.getElem?_set_ne (Ne.symm ne)]; exact k.tok j z
  · rcases lget_set h with ⟨rfl, z⟩ | ⟨ne, z⟩
    · cases z
    · rw [List.getElem?_set_ne (Ne.symm ne)]; exact k.ow j xs z
  · rcases lget_set h with ⟨rfl, z⟩ | ⟨ne, z⟩
    · cases z
    · rcases lget_set h' with ⟨rfl, z'⟩ | ⟨ne', z'⟩
      · cases z'
      · rw [List.getElem?_set_ne (Ne.symm ne)] at g
        rw [List.getElem?_set_ne (Ne.symm ne')] at g'
        exact k.sep j j' xs ys p z z' g g'
  · rcases lget_set h with ⟨rfl, z⟩ | ⟨ne, z⟩
    · cases z
    · rw [List.getElem?_set_ne (Ne.symm ne)]; exact k.ex j x z
theorem EOk.putOb {i : Nat} {p : Addr} {u : HO} {o : OD} (k : EOk P e σ F H) (h1 : H p = some u) (h2 : F p = none) (h3 : P.H0 p = none) (h4 : p ∉ P.B.O) (h5 : ¬ Ow e σ p) (r : OdR F u o) :
    EOk P { e with sl := e.sl.set i (.ob o) } (σ.set i (some (.ref p))) F H := by
  refine ⟨k.ext, k.fra, k.sto, k.off, by simpa using k.len, fun j d2 h => ?_, fun j h => ?_, fun j ys h => ?_, fun j j' zs ys q h h' g g' => ?_, fun j x h => ?_⟩
  · rcases lget_set h with ⟨rfl, z⟩ | ⟨ne, z⟩
    · cases z
    · rw [List.getElem?_set_ne (Ne.symm ne)]; exact k.sh j d2 z
  · rcases lget_set h with ⟨rfl, z⟩ | ⟨ne, z⟩
    · cases z
    · rw [List.getElem?_set_ne (Ne.symm ne)]; exact k.tok j z
  · rcases lget_set h with ⟨rfl, z⟩ | ⟨ne, z⟩
    · cases z
      have hl : j < e.sl.length := by have := (List.getElem?_eq_some_iff.mp h).1; simpa using this
      exact ⟨p, u, List.getElem?_set_self (by rw [← k.len]; exact hl), h1, h2, h3, h4, r⟩
    · rw [List.getElem?_set_ne (Ne.symm ne)]; exact k.ow j ys z
  · rcases lget_set h with ⟨rfl, z⟩ | ⟨ne, z⟩
    · have hl : j < e.sl.length := by have := (List.getElem?_eq_some_iff.mp h).1; simpa using this
      rw [List.getElem?_set_self (by rw [← k.len]; exact hl)] at g
      cases g
      rcases lget_set h' with ⟨rfl, z'⟩ | ⟨ne', z'⟩
      · rfl
      · rw [List.getElem?_set_ne (Ne.symm ne')] at g'
        exact (h5 ⟨j', ys, z', g'⟩).elim
    · rw [List.getElem?_set_ne (Ne.symm ne)] at g
      rcases lget_set h' with ⟨rfl, z'⟩ | ⟨ne', z'⟩
      · have hl : j' < e.sl.length := by have := (List.getElem?_eq_some_iff.mp h').1; simpa using this
        rw [List.getElem?_set_self (by rw [← k.len]; exact hl)] at g'
        cases g'
        exact (h5 ⟨j, zs, z, g⟩).elim
      · rw [List.getElem?_set_ne (Ne.symm ne')] at g'
        exact k.sep j j' zs ys q z z' g g'
  · rcases lget_set h with ⟨rfl, z⟩ | ⟨ne, z⟩
    · cases z
    · rw [List.getElem?_set_ne (Ne.symm ne)]; exact k.ex j x z
theorem EOk.putO {i : Nat} {p : Addr} {vs : List V} {xs : List Mi.D} (k : EOk P e σ F H) (h1 : H p = some (.lst vs)) (h2 : F p = none) (h3 : P.H0 p = none) (h4 : p ∉ P.B.O) (h5 : ¬ Ow e σ p) (r : RpA F vs xs) :
    EOk P { e with sl := e.sl.set i (.ow xs) } (σ.set i (some (.ref p))) F H := k.putOb h1 h2 h3 h4 h5 (o := .lst xs) r
def stV {S : Type} (i : Nat) (d : Mi.D) : M S Fl := fun e => .ok .nx { e with sl := e.sl.set i (.sh d) }
def stO {S : Type} (i : Nat) (xs : List Mi.D) : M S Fl := fun e => .ok .nx { e with sl := e.sl.set i (.ow xs) }
def mSet {S : Type} (i : Nat) (f : M S Mi.D) : M S Fl := bnd f (stV i)
def mSetF {S : Type} (i : Nat) (f : M S (List Mi.D)) : M S Fl := bnd f (stO i)
theorem im_set {i : Nat} {f : M P.B.S Mi.D} (h : tS P W (mSet i f) D σ H) : tX P W f σ H fun x H1 => D.nx (σ.set i (some x)) H1 := by
  obtain ⟨F, e, k, h⟩ := h
  exact sX_of k h fun d e1 F1 H1 v k1 s1 r1 h1 => h1 _ F1 H1 (k1.put r1) (Ex.refl _)
theorem im_setF {i : Nat} {f : M P.B.S (List Mi.D)} (h : tS P W (mSetF i f) D σ H) : tF P W f σ H fun x H1 => D.nx (σ.set i (some x)) H1 := by
  obtain ⟨F, e, k, h⟩ := h
  exact sF_of k h fun xs e1 F1 H1 p vs k1 s1 g1 g2 g3 g4 h1 => h1 _ F1 H1 (k1.putO g2 g3 (k.fresh g1).2.1 (k.fresh g1).2.2.1 (fun z => (k.fresh g1).2.2.2 (s1.ow _ z)) g4) (Ex.refl _)
theorem s_set {i : Nat} {x : Str} {a : Expr} {f : M P.B.S Mi.D} {p : Pos} (hN : X.N.Nodup) (h : XE P X W a f) (hi : X.N[i]? = some x := by rfl) (hx : Loc X.env.scope x := by first | exact Or.inl rfl | exact Or.inr rfl)
    (hs : swapsWith a (some (.Name x p)) pos.line X.env = pure false := by rfl) (hf : X.fn x = true ∨ X.env.scope.names.lookup x = some .local := by first | exact .inl rfl | exact .inr rfl) : XS P X W (.Assign [.Name x p] a pos) (mSet i f) :=
  ps_imp (ps_set hN hi hx h hs hf) fun D σ H h => im_set h
theorem s_setF {i : Nat} {x : Str} {a : Expr} {f : M P.B.S (List Mi.D)} {p : Pos} (hN : X.N.Nodup) (h : XF P X W a f) (hi : X.N[i]? = some x := by rfl) (hx : Loc X.env.scope x := by first | exact Or.inl rfl | exact Or.inr rfl)
    (hs : swapsWith a (some (.Name x p)) pos.line X.env = pure false := by rfl) (hf : X.fn x = true ∨ X.env.scope.names.lookup x = some .local := by first | exact .inl rfl | exact .inr rfl) : XS P X W (.Assign [.Name x p] a pos) (mSetF i f) :=
  ps_imp (ps_set hN hi hx h hs hf) fun D σ H h => im_setF h

/-! targets -/
/-- the slots l alone may differ -/
def Alike (l : List Nat) (σ τ : St) : Prop := τ.length = σ.length ∧ ∀ j : Nat, j ∉ l → τ[j]? = σ[j]?
def tG (P : Pm) (l : List Nat) (g : Mi.D → M P.B.S Unit) : TG := fun v σ H Q => ∃ F e d, EOk P e σ F H ∧ Rp F v d ∧ match g d e with
  | .ok _ e1 => ∀ σ1, EOk P e1 σ1 F H → Alike l σ σ1 → Q σ1 H
  | _ => False
def tGs (P : Pm) (l : List Nat) (g : List Mi.D → M P.B.S Unit) : TGs := fun vs σ H Q => ∃ F e ds, EOk P e σ F H ∧ RpA F vs ds ∧ match g ds e with
  | .ok _ e1 => ∀ σ1, EOk P e1 σ1 F H → Alike l σ σ1 → Q σ1 H
  | _ => False
abbrev XG (P : Pm) (X : Cx) (a : Expr) (l : List Nat) (g : Mi.D → M P.B.S Unit) : Prop := PG X a (tG P l g)
abbrev XGs (P : Pm) (X : Cx) (as : List Expr) (l : List Nat) (g : List Mi.D → M P.B.S Unit) : Prop := PGs X as (tGs P l g)
theorem pg_imp {X : Cx} {a : Expr} {t u : TG} (h : PG X a t) (i : ∀ v σ H Q, u v σ H Q → t v σ H Q) : PG X a u := ⟨fun pins s σ H v w Q I r q => h.run pins s σ H v w Q I r (i v σ H Q q)⟩
theorem pgs_imp {X : Cx} {as : List Expr} {t u : TGs} (h : PGs X as t) (i : ∀ v σ H Q, u v σ H Q → t v σ H Q) : PGs X as u := ⟨fun pins s σ H v w Q I r q => h.run pins s σ H v w Q I r (i v σ H Q q)⟩
def gN {S : Type} (i : Nat) : Mi.D → M S Unit := fun d e => .ok () { e with sl := e.sl.set i (.sh d) }
def gT {S : Type} (g : List Mi.D → M S Unit) : Mi.D → M S Unit := fun d => match d with
  | .tuple ds => g ds
  | _ => stk
def gE {S : Type} : List Mi.D → M S Unit := fun ds => match ds with
  | [] => rt ()
  | _ => stk
def gC {S : Type} (g : Mi.D → M S Unit) (h : List Mi.D → M S Unit) : List Mi.D → M S Unit := fun ds => match ds with
  | d :: r => bnd (g d) fun _ => h r
  | [] => stk
theorem g_name {i : Nat} {x : Str} (hN : X.N.Nodup) (hi : X.N[i]? = some x := by rfl) (hx : Loc X.env.scope x := by first | exact Or.inl rfl | exact Or.inr rfl)
    (hf : X.fn x = true ∨ X.env.scope.names.lookup x = some .local := by first | exact .inl rfl | exact .inr rfl) : XG P X (.Name x pos) [i] (gN i) :=
  pg_imp (pg_name hN hi hx hf) fun v σ H Q ⟨F, e, d, k, r, h⟩ => h _ (k.put r) ⟨by simp, fun j hj => List.getElem?_set_ne (fun z => hj (by simp [z]))⟩
theorem gs_nil : XGs P X [] [] gE := pgs_imp pgs_nil fun vs σ H Q ⟨F, e, ds, k, r, h⟩ => by
  cases r with
  | nil => exact ⟨rfl, h _ k ⟨rfl, fun _ _ => rfl⟩⟩
  | cons _ _ => exact h.elim
theorem gs_cons {a : Expr} {as : List Expr} {g : Mi.D → M P.B.S Unit} {h_ : List Mi.D → M P.B.S Unit} {l1 l2 : List Nat} (h1 : XG P X a l1 g) (h2 : XGs P X as l2 h_) (hs : (assignEach (a :: as) X.env).map (·.2) = assign a X.env :: (assignEach as X.env).map (·.2) := by rfl) : XGs P X (a :: as) (l1 ++ l2) (gC g h_) :=
  pgs_imp (pgs_cons h1 h2 hs) fun vs σ H Q ⟨F, e, ds, k, r, h⟩ => by
    cases r with
    | nil => exact h.elim
    | @cons v ws d es r1 r2 =>
      refine ⟨v, ws, rfl, F, e, d, k, r1, ?_⟩
      unfold gC bnd at h
      dsimp only at h
      cases q : g d e with
      | ok _ e1 =>
        rw [q] at h
        refine fun σ1 k1 a1 => ⟨F, e1, es, k1, r2, ?_⟩
        dsimp only at h
        cases y : h_ es e1 with
        | ok u e2 => rw [y] at h; exact fun σ2 k2 a2 => h σ2 k2 ⟨a2.1.trans a1.1, fun j hj => (a2.2 j fun z => hj (List.mem_append_right _ z)).trans (a1.2 j fun z => hj (List.mem_append_left _ z))⟩
        | err _ _ => rw [y] at h; exact h
        | stuck => rw [y] at h; exact h
      | err _ _ => rw [q] at h; exact h
      | stuck => rw [q] at h; exact h
theorem gC_len {S : Type} {g : Mi.D → M S Unit} {h : List Mi.D → M S Unit} {n : Nat} (q : ∀ ds e, ds.length ≠ n → ∀ u e1, h ds e ≠ .ok u e1) : ∀ ds e, ds.length ≠ n + 1 → ∀ u e1, gC g h ds e ≠ .ok u e1 := by
  intro ds e hl u e1 z
  cases ds with
  | nil => cases z
  | cons d r =>
    unfold gC bnd at z
    dsimp only at z
    cases y : g d e with
    | ok a e2 => rw [y] at z; exact q r e2 (fun w => hl (by simp [w])) u e1 z
    | err _ _ => rw [y] at z; cases z
    | stuck => rw [y] at z; cases z
theorem gE_len {S : Type} : ∀ (ds : List Mi.D) (e : En S), ds.length ≠ 0 → ∀ u e1, (gE ds e : Out S Unit) ≠ .ok u e1 := by
  intro ds e hl u e1 z
  cases ds with
  | nil => exact hl rfl
  | cons d r => cases z
theorem g_tup {as : List Expr} {c n : Nat} {l : List Nat} {h : List Mi.D → M P.B.S Unit} (hc : X.calm = true) (h1 : XGs P X as l h) (hl : ∀ ds e, ds.length ≠ n → ∀ u e1, h ds e ≠ .ok u e1)
    (hn : (assignEach as X.env).length = n := by rfl) (hst : (assignEach as X.env).findIdx? (·.1) = none := by rfl) : XG P X (.Tuple as c pos) l (gT h) :=
  pg_imp (pg_tup hc h1 hn hst) fun v σ H Q ⟨F, e, d, k, r, q⟩ => by
    cases r with
    | @tup a xs ds g1 g2 =>
      refine ⟨a, xs, rfl, .of (k.ext.fh _ _ g1), ?_, F, e, ds, k, g2, q⟩
      rw [RpA.len g2]
      by_cases z : ds.length = n
      · exact z
      · unfold gT at q
        dsimp only at q
        cases y : h ds e with
        | ok u e1 => exact (hl ds e z u e1 y).elim
        | err _ _ => rw [y] at q; exact q.elim
        | stuck => rw [y] at q; exact q.elim
    | _ => exact q.elim
def mAsg {S : Type} (f : M S Mi.D) (g : Mi.D → M S Unit) : M S Fl := bnd f fun d e => match g d e with
  | .ok _ e1 => .ok .nx e1
  | _ => .stuck
theorem s_asg {tg a : Expr} {l : List Nat} {f : M P.B.S Mi.D} {g : Mi.D → M P.B.S Unit} (h : XE P X W a f) (hg : XG P X tg l g) (hs : swapsWithSole [tg] a pos.line X.env = pure false := by rfl) (hw : swappedStores [tg] a X.env = pure none := by rfl)
    (h1 : (assignEach [tg] X.env).map (·.2) = [assign tg X.env] := by rfl) : XS P X W (.Assign [tg] a pos) (mAsg f g) :=
  ps_imp (ps_asg h hg hs hw h1) fun D σ H ⟨F, e, k, h⟩ => sX_of k h fun d e1 F1 H1 v k1 s1 r1 h1 => by
    refine ⟨F1, e1, d, k1, r1, ?_⟩
    cases y : g d e1 with
    | ok u e2 => rw [y] at h1; exact fun σ1 k2 _ => h1 σ1 F1 H1 k2 (Ex.refl _)
    | err x e2 => rw [y] at h1; exact h1.elim
    | stuck => rw [y] at h1; exact h1.elim
end
end Mi
set_option maxHeartbeats 2000000
namespace Mi
open PySem PySem.Spec PyProof.Rows L2

section
variable {P : Pm} {X : Cx} {W : WX} {α β : Type} {e e1 : En P.B.S} {σ : St} {F H F1 H1 : Hp} {pos : Pos} {D : Ends}

/-! what a loop walks -/
def ItOk (J : It) (ds : List Mi.D) (F : Hp) : Prop := ∀ F2 H2, Ex F F2 → Ex F2 H2 → J.stop ds.length H2 ∧ ∀ (i : Nat) (d : Mi.D), ds[i]? = some d → J.go i H2 ∧ ∀ x H3, J.yld i H2 x H3 → ∃ F3, Ex H2 H3 ∧ Ext F2 H2 F3 H3 ∧ Rp F3 x d
theorem ItOk.mono {J : It} {ds : List Mi.D} (x : Ex F F1) (h : ItOk J ds F) : ItOk J ds F1 := fun F2 H2 a b => h F2 H2 (x.trans a) b
def tI (P : Pm) (W : WX) (m : M P.B.S (List Mi.D)) : TI := fun σ H R => ∃ F e, EOk P e σ F H ∧ Sat P W e σ F H (m e) fun ds _ F1 H1 => ∀ J, ItOk J ds F1 → R J H1
abbrev XI (P : Pm) (X : Cx) (W : WX) (tg it : Expr) (m : M P.B.S (List Mi.D)) : Prop := PI X tg it (tI P W m)
def mI {S : Type} (f : M S Mi.D) : M S (List Mi.D) := bnd f fun d => match d with
  | .list ds => rt ds
  | .tuple ds => rt ds
  | _ => stk
theorem itl_ok {K : PySem.W.Frag} {a : Addr} {vs : List V} {ds : List Mi.D} (h : F a = some (.lst vs)) (r : RpA F vs ds) : ItOk (Itl K a) ds F := fun F2 H2 x y => by
  have hs : SqL K H2 a vs := .of (y _ _ (x _ _ h))
  refine ⟨⟨vs, hs, by rw [RpA.len r]; exact Nat.le_refl _⟩, fun i d hd => ?_⟩
  obtain ⟨v, hv, rv⟩ := r.get hd
  refine ⟨⟨vs, v, hs, hv⟩, fun z H3 q => ?_⟩
  obtain ⟨rfl, q⟩ := q
  have e := q vs hs
  rw [hv] at e
  cases e
  exact ⟨F2, Ex.refl _, Ext.refl y, x.dp _ _ rv⟩
theorem itt_ok {K : PySem.W.Frag} {a : Addr} {vs : List V} {ds : List Mi.D} (h : F a = some (.tup vs)) (r : RpA F vs ds) : ItOk (Itt K a) ds F := fun F2 H2 x y => by
  have hs : SqT K H2 a vs := .of (y _ _ (x _ _ h))
  refine ⟨⟨vs, hs, by rw [RpA.len r]; exact Nat.le_refl _⟩, fun i d hd => ?_⟩
  obtain ⟨v, hv, rv⟩ := r.get hd
  refine ⟨⟨vs, v, hs, hv⟩, fun z H3 q => ?_⟩
  obtain ⟨rfl, q⟩ := q
  have e := q vs hs
  rw [hv] at e
  cases e
  exact ⟨F2, Ex.refl _, Ext.refl y, x.dp _ _ rv⟩
theorem i_seq {tg a : Expr} {f : M P.B.S Mi.D} (h : XE P X W a f) : XI P X W tg a (mI f) := ⟨fun pins s σ H R I ⟨F, e, k, q⟩ => by
  unfold mI bnd at q
  cases y : f e with
  | stuck => rw [y] at q; exact q.elim
  | err x e1 => rw [y] at q; exact (pi_list h).run pins s σ H R I ⟨F, e, k, by rw [y]; exact q⟩
  | ok d e1 =>
    rw [y] at q
    cases d with
    | list ds =>
      refine (pi_list h).run pins s σ H R I ⟨F, e, k, ?_⟩
      rw [y]
      intro F1 H1 k1 s1 v rv
      cases rv with
      | lst g1 g2 => exact ⟨_, rfl, ⟨_, .of (k1.ext.fh _ _ g1)⟩, q F1 H1 k1 s1 _ (itl_ok g1 g2)⟩
    | tuple ds =>
      refine (pi_tup h).run pins s σ H R I ⟨F, e, k, ?_⟩
      rw [y]
      intro F1 H1 k1 s1 v rv
      cases rv with
      | tup g1 g2 => exact ⟨_, rfl, ⟨_, .of (k1.ext.fh _ _ g1)⟩, q F1 H1 k1 s1 _ (itt_ok g1 g2)⟩
    | _ => exact q.elim⟩
def rngD (lo : Int) (n : Nat) : List Mi.D := (List.range n).map fun (i : Nat) => PyData.int (lo + (i : Int))
theorem itr_ok {lo : Int} {n : Nat} : ItOk (Itr lo n) (rngD lo n) F := fun F2 H2 x y => by
  refine ⟨by show n ≤ (rngD lo n).length; simp [rngD], fun i d hd => ?_⟩
  unfold rngD at hd
  obtain ⟨j, h1, h2⟩ := Option.map_eq_some_iff.mp (by rw [List.getElem?_map] at hd; exact hd)
  have hi : i < n := by
    have := (List.getElem?_eq_some_iff.mp h1).1
    simpa using this
  have hj : j = i := by
    rw [List.getElem?_range hi] at h1
    exact (Option.some.inj h1).symm
  subst hj
  refine ⟨hi, fun z H3 q => ?_⟩
  obtain ⟨rfl, rfl⟩ := q
  subst h2
  exact ⟨F2, Ex.refl _, Ext.refl y, .int _⟩
def small62 (j : Int) : Prop := -(2 ^ 62) ≤ j ∧ j < 2 ^ 62
@[irreducible] def dec_small62 (j : Int) : Decidable (small62 j) := by unfold small62; infer_instance
instance (j : Int) : Decidable (small62 j) := dec_small62 j
def mR1 {S : Type} (g : M S (List Arg)) : M S (List Mi.D) := bnd g fun as => match as with
  | [.d (.int j)] => if small62 j then rt (rngD 0 j.toNat) else stk
  | _ => stk
def mR2 {S : Type} (g : M S (List Arg)) : M S (List Mi.D) := bnd g fun as => match as with
  | [.d (.int i), .d (.int j)] => if small62 i ∧ small62 j then rt (rngD i (j - i).toNat) else stk
  | _ => stk
theorem pi_imp {X : Cx} {tg a : Expr} {t u : TI} (h : PI X tg a t) (i : ∀ σ H R, u σ H R → t σ H R) : PI X tg a u := ⟨fun pins s σ H R I q => h.run pins s σ H R I (i σ H R q)⟩
theorem i_range1 {tg a : Expr} {g : M P.B.S (List Arg)} {p : Pos} (hm : X.mg "range" = none) (ha : XA P X W [a] g) (hg : Gl X "range" := by rfl) (hs : starEach [a] X.env = [(false, eval a X.env)] := by rfl) : XI P X W tg (.Call (.Name "range" p) [a] [] pos) (mR1 g) :=
  pi_imp (pi_range1 hg hm ha hs) fun σ H R ⟨F, e, k, h⟩ => tA_of k h fun as e1 F1 H1 vs k1 s1 r1 h1 => by
    revert h1
    split
    · rename_i j
      intro h1
      split at h1
      · rename_i z
        cases r1 with
        | d q1 q2 =>
          cases q2
          cases q1
          exact ⟨j, rfl, z.1, z.2, h1.rt k1 _ itr_ok⟩
      · exact h1.elim
    · intro h1; exact h1.elim
theorem i_range2 {tg a b : Expr} {g : M P.B.S (List Arg)} {p : Pos} (hm : X.mg "range" = none) (ha : XA P X W [a, b] g) (hg : Gl X "range" := by rfl) (hs : starEach [a, b] X.env = [(false, eval a X.env), (false, eval b X.env)] := by rfl) (hs2 : starEach [b] X.env = [(false, eval b X.env)] := by rfl) : XI P X W tg (.Call (.Name "range" p) [a, b] [] pos) (mR2 g) :=
  pi_imp (pi_range2 hg hm ha hs hs2) fun σ H R ⟨F, e, k, h⟩ => tA_of k h fun as e1 F1 H1 vs k1 s1 r1 h1 => by
    revert h1
    split
    · rename_i i j
      intro h1
      split at h1
      · rename_i z
        cases r1 with
        | d q1 q2 =>
          cases q2 with
          | d q3 q4 =>
            cases q4
            cases q1
            cases q3
            exact ⟨i, j, rfl, ⟨z.1.1, z.1.2, z.2.1, z.2.2⟩, h1.rt k1 _ itr_ok⟩
      · exact h1.elim
    · intro h1; exact h1.elim

/-! for -/
def loop {S : Type} (g : Mi.D → M S Unit) (b : M S Fl) : List Mi.D → M S Fl
  | [] => nop
  | d :: ds => fun e => match g d e with
    | .ok _ e1 => (match b e1 with
      | .ok .nx e2 => loop g b ds e2
      | .ok .ct e2 => loop g b ds e2
      | .ok .bk e2 => .ok .nx e2
      | .ok (.ret r) e2 => .ok (.ret r) e2
      | .err x e2 => .err x e2
      | .stuck => .stuck)
    | _ => .stuck
def mFor {S : Type} (f : M S (List Mi.D)) (g : Mi.D → M S Unit) (b : M S Fl) : M S Fl := bnd f (loop g b)
theorem s_for {tg it : Expr} {l : List Nat} {body : List Stmt} {f : M P.B.S (List Mi.D)} {g : Mi.D → M P.B.S Unit} {b : M P.B.S Fl} (hp : PassesOwn (model X.prog X.w) X.A X.env X.xe) (hc : X.calm = true) (hi : XI P X W tg it f) (hg : XG P X tg l g) (hb : XSs P X W body b)
    (hs : ∀ x, foldedSetIterable it X.env x = pure x := by intro _; rfl) : XS P X W (.For tg it body [] pos) (mFor f g b) :=
  ps_imp (ps_for hp hc hi hg hb hs) fun D σ H ⟨F, e, k, h⟩ => by
    refine ⟨F, e, k, Sat.imp h.bnd fun ds e1 F1 H1 k1 s1 h1 J hJ => ?_⟩
    refine ⟨fun i m σ H => ∃ F e, EOk P e σ F H ∧ ItOk J ds F ∧ i ≤ ds.length ∧ m = ds.length - i ∧ SatS P W F D (loop g b (ds.drop i) e), ⟨_, F1, e1, k1, hJ, Nat.zero_le _, rfl, h1⟩, ?_⟩
    rintro i m σ H ⟨F, e, k, hJ, hi, rfl, q⟩
    obtain ⟨stop, turn⟩ := hJ F H (Ex.refl _) k.ext.fh
    by_cases hl : i < ds.length
    · have hd : ds[i]? = some ds[i] := List.getElem?_eq_getElem hl
      obtain ⟨go, yld⟩ := turn i ds[i] hd
      rw [List.drop_eq_getElem_cons hl] at q
      refine .inr ⟨go, fun σ' H' => ∃ F e, EOk P e σ' F H' ∧ ItOk J ds F ∧ SatS P W F D (loop g b (ds.drop (i + 1)) e), fun σ' H' ⟨F, e, k, hJ, q⟩ => ⟨ds.length - (i + 1), by omega, F, e, k, hJ, hl, rfl, q⟩, fun x H3 y => ?_⟩
      obtain ⟨F3, hx, ex, rx⟩ := yld x H3 y
      obtain ⟨k3, _⟩ := k.grow hx ex
      refine ⟨F3, e, ds[i], k3, rx, ?_⟩
      unfold loop at q
      cases z : g ds[i] e with
      | stuck => rw [z] at q; exact q
      | err _ _ => rw [z] at q; exact q
      | ok u e4 =>
        rw [z] at q
        dsimp only at q
        refine fun σ4 k4 _ => ⟨F3, e4, k4, ?_⟩
        have J3 : ItOk J ds F3 := hJ.mono ex.ff
        cases w : b e4 with
        | stuck => rw [w] at q; exact q
        | err y e5 => rw [w] at q; exact fun c d σ1 F2 H2 k x r => q c d σ1 F2 H2 k (ex.ff.trans x) r
        | ok fl e5 =>
          rw [w] at q
          cases fl with
          | nx => exact fun σ1 F2 H2 k x => ⟨F2, e5, k, J3.mono x, q.mono (ex.ff.trans x)⟩
          | ct => exact fun σ1 F2 H2 k x => ⟨F2, e5, k, J3.mono x, q.mono (ex.ff.trans x)⟩
          | bk => exact fun σ1 F2 H2 k x => q σ1 F2 H2 k (ex.ff.trans x)
          | ret r =>
            cases r with
            | sh d => exact fun σ1 F2 H2 k x => q σ1 F2 H2 k (ex.ff.trans x)
            | fr xs => exact fun σ1 F2 H2 k x => q σ1 F2 H2 k (ex.ff.trans x)
    · have e : i = ds.length := by omega
      subst e
      rw [List.drop_length] at q
      exact .inl ⟨stop, q σ F H k (Ex.refl _)⟩

/-! while -/
def whl {S : Type} (c : M S Bool) (b : M S Fl) : Nat → M S Fl
  | 0 => stk
  | n + 1 => bnd c fun t => if t = true then (fun e => match b e with
      | .ok .nx e2 => whl c b n e2
      | .ok .ct e2 => whl c b n e2
      | .ok .bk e2 => .ok .nx e2
      | .ok (.ret r) e2 => .ok (.ret r) e2
      | .err x e2 => .err x e2
      | .stuck => .stuck) else nop
theorem s_while (n : Nat) {c : Expr} {body : List Stmt} {f : M P.B.S Bool} {b : M P.B.S Fl} (hp : PassesOwn (model X.prog X.w) X.A X.env X.xe) (hc : XT P X W c f) (hb : XSs P X W body b) : XS P X W (.While c body [] pos) (whl f b n) :=
  ps_imp (ps_while hp hc hb) fun D σ H h => by
    refine ⟨fun m σ H => tS P W (whl f b m) D σ H, ⟨n, h⟩, ?_⟩
    rintro m σ H ⟨F, e, k, h⟩
    cases m with
    | zero => exact h.elim
    | succ m =>
      refine sT_of k h fun t e1 F1 H1 k1 s1 h1 => ?_
      cases t with
      | false => exact h1 σ F1 H1 k1 (Ex.refl _)
      | true =>
        refine ⟨tS P W (whl f b m) D, fun σ' H' q => ⟨m, Nat.lt_succ_self _, q⟩, F1, e1, k1, ?_⟩
        simp only [if_true] at h1
        cases w : b e1 with
        | stuck => rw [w] at h1; exact h1
        | err y e5 => rw [w] at h1; exact h1
        | ok fl e5 =>
          rw [w] at h1
          cases fl with
          | nx => exact fun σ1 F2 H2 k x => ⟨F2, e5, k, h1.mono x⟩
          | ct => exact fun σ1 F2 H2 k x => ⟨F2, e5, k, h1.mono x⟩
          | bk => exact h1
          | ret r =>
            cases r with
            | sh d => exact h1
            | fr xs => exact h1

/-! defs and their calls -/
inductive FO (S : Type) where
  | val (r : R) (s : S) | exc (x : Er) (s : S) | stuck
structure Pst (B : Amb) (s1 : B.S) (F H F1 H1 : Hp) : Prop where
  ext : Ext F H F1 H1
  fr : ∀ a o, a ∉ B.O → H a = some o → H1 a = some o
  sto : B.At s1 H1
  off : ∀ a ∈ B.O, F1 a = none
def SatF (mg : Str → Option Value) (B : Amb) (F H : Hp) (o : FO B.S) (Q : VK) (E : XK) : Prop :=
  match o with
  | .val (.sh d) s1 => ∀ F1 H1, Pst B s1 F H F1 H1 → ∀ v, Rp F1 v d → Q v H1
  | .val (.fr xs) s1 => ∀ F1 H1, Pst B s1 F H F1 H1 → ∀ p vs, H p = none → H1 p = some (.lst vs) → F1 p = none → RpA F1 vs xs → Q (.ref p) H1
  | .exc x s1 => ∀ F1 H1, Pst B s1 F H F1 H1 → ∀ c d, ErOk mg F1 c d x → E c d H1
  | .stuck => False
def spM (mg : Str → Option Value) (B : Amb) (n : Nat) (fn : List Arg → B.S → FO B.S) : Sp := fun vs H Q E => vs.length = n ∧ ∃ F as s, Ex F H ∧ (∀ a ∈ B.O, F a = none) ∧ B.At s H ∧ ArgsOk B F vs as ∧ SatF mg B F H (fn as s) Q E
def Arg.slot : Arg → Slot
  | .d x => .sh x
  | .tok => .tok
def fnOf {S : Type} (n : Nat) (m : M S Fl) : List Arg → S → FO S := fun as s => match m ⟨as.map Arg.slot ++ List.replicate (n - as.length) .un, s⟩ with
  | .ok .nx e => .val (.sh .none) e.st
  | .ok (.ret r) e => .val r e.st
  | .ok .bk e => .stuck
  | .ok .ct e => .stuck
  | .err x e => .exc x e.st
  | .stuck => .stuck
theorem ArgsOk.at {B : Amb} : ∀ {vs : List V} {as : List Arg}, ArgsOk B F vs as → ∀ (i : Nat) (a : Arg), as[i]? = some a → ∃ v, vs[i]? = some v ∧ (match a with | .d x => Rp F v x | .tok => v = .ref B.p)
  | _, _, .nil, i, a, h => by simp at h
  | _, _, .d r t, 0, a, h => by simp at h; subst h; exact ⟨_, rfl, r⟩
  | _, _, .tok t, 0, a, h => by simp at h; subst h; exact ⟨_, rfl, rfl⟩
  | _, _, .d r t, i + 1, a, h => ArgsOk.at t i a (by simpa using h)
  | _, _, .tok t, i + 1, a, h => ArgsOk.at t i a (by simpa using h)
theorem start_ok {K : PySem.W.Frag} {mg : Str → Option Value} {B : Amb} {xa : Addr} {xc : Value} {xd : Option Addr} {N : List Str} {vs : List V} {as : List Arg} {s : B.S} (hx : Ex F H) (off : ∀ a ∈ B.O, F a = none) (sto : B.At s H) (r : ArgsOk B F vs as) :
    EOk ⟨K, mg, B, F, H, xa, xc, xd⟩ ⟨as.map Arg.slot ++ List.replicate (N.length - as.length) .un, s⟩ (L2.start N vs) F H := by
  have look : ∀ (i : Nat) (sl : Slot), (as.map Arg.slot ++ List.replicate (N.length - as.length) Slot.un)[i]? = some sl → sl = .un ∨ ∃ a v, as[i]? = some a ∧ a.slot = sl ∧ (L2.start N vs)[i]? = some (some v) ∧ (match a with | .d x => Rp F v x | .tok => v = .ref B.p) := by
    intro i sl h
    by_cases hi : i < as.length
    · rw [List.getElem?_append_left (by simpa using hi), List.getElem?_map] at h
      obtain ⟨a, h1, h2⟩ := Option.map_eq_some_iff.mp h
      obtain ⟨v, h3, h4⟩ := r.at i a h1
      refine .inr ⟨a, v, h1, h2, ?_, h4⟩
      unfold L2.start
      rw [List.getElem?_append_left (by rw [List.length_map, r.len]; exact hi), List.getElem?_map, h3]
      rfl
    · rw [List.getElem?_append_right (by simpa using hi), List.getElem?_replicate] at h
      split at h
      · cases h; exact .inl rfl
      · cases h
  refine ⟨Ext.refl hx, fun _ _ _ h => h, sto, off, ?_, fun i d h => ?_, fun i h => ?_, fun i xs h => ?_, fun i j xs ys p h => ?_, fun i x h => ?_⟩
  · unfold L2.start
    simp [r.len]
  · rcases look i _ h with h | ⟨a, v, h1, h2, h3, h4⟩
    · cases h
    · cases a with
      | d x => cases h2; exact ⟨v, h3, h4⟩
      | tok => cases h2
  · rcases look i _ h with h | ⟨a, v, h1, h2, h3, h4⟩
    · cases h
    · cases a with
      | d x => cases h2
      | tok => rw [h3, show v = V.ref B.p from h4]
  · rcases look i _ h with h | ⟨a, v, h1, h2, h3, h4⟩
    · cases h
    · cases a <;> cases h2
  · rcases look i _ h with h | ⟨a, v, h1, h2, h3, h4⟩
    · cases h
    · cases a <;> cases h2
  · rcases look i _ h with h | ⟨a, v, h1, h2, h3, h4⟩
    · cases h
    · cases a <;> cases h2
abbrev wE (E : XK) : WX := fun c d _ H => E c d H
theorem fn_mi {Pg : Program} {w : World} {K : PySem.W.Frag} {mg : Str → Option Value} {base : Heap} {x qual : Str} {st : Stmt} {f : Addr} {fd : FuncData} {N ps : List Str} {k : Nat} (Fu : Fun K x qual st f fd) (S : FnScope N ps (defScope st)) (B : Amb) (m : M B.S Fl)
    (hb : ∀ (cdv : Value) (A : Around) (outer : List PySem.Env) (s : Shared) (H : Hp) (E : XK) (F0 : Hp), Room k (cxOf (L2.CX Pg w) Pg w K mg base N qual (defScope st) f cdv A outer s H E).A →
      Takes (cxOf (L2.CX Pg w) Pg w K mg base N qual (defScope st) f cdv A outer s H E) (wE E) →
      PassesOwn (model Pg w) (cxOf (L2.CX Pg w) Pg w K mg base N qual (defScope st) f cdv A outer s H E).A (cxOf (L2.CX Pg w) Pg w K mg base N qual (defScope st) f cdv A outer s H E).env (cxOf (L2.CX Pg w) Pg w K mg base N qual (defScope st) f cdv A outer s H E).xe →
      XSs ⟨K, mg, B, F0, H, 0, .none, none⟩ (cxOf (L2.CX Pg w) Pg w K mg base N qual (defScope st) f cdv A outer s H E) (wE E) (defBody st) m) :
    FnOk Pg w K mg base (L2.CX Pg w) (k + 1) f fd ps (spM mg B ps.length (fnOf N.length m)) := by
  refine Fu.okX S (fun vs H Q E h => h.1) fun cdv A outer s H vs Q E hr h => ?_
  obtain ⟨hl, F0, as, s0, hx, off, sto, ra, h⟩ := h
  refine ⟨_, hb cdv A outer s H E F0 hr (takes_of rfl rfl rfl rfl) (passes_of rfl), F0, _, start_ok hx off sto ra, ?_⟩
  unfold fnOf at h
  have fin : ∀ {e : En B.S} {σ1 : St} {F1 H1 : Hp}, EOk ⟨K, mg, B, F0, H, 0, .none, none⟩ e σ1 F1 H1 → Pst B e.st F0 H F1 H1 := fun k => ⟨k.ext, k.fra, k.sto, k.off⟩
  cases q : m ⟨as.map Arg.slot ++ List.replicate (N.length - as.length) .un, s0⟩ with
  | stuck => rw [q] at h; exact h
  | err y e => rw [q] at h; exact fun c d σ1 F1 H1 k x r => h F1 H1 (fin k) c d r
  | ok fl e =>
    rw [q] at h
    cases fl with
    | nx => exact fun σ1 F1 H1 k x => h F1 H1 (fin k) _ .non
    | bk => exact h.elim
    | ct => exact h.elim
    | ret r =>
      cases r with
      | sh d => exact fun σ1 F1 H1 k x v rv => h F1 H1 (fin k) v rv
      | fr xs => exact fun σ1 F1 H1 k x p vs => h F1 H1 (fin k) p vs

theorem EOk.called (k : EOk P e σ F H) {s1 : P.B.S} (p : Pst P.B s1 F H F1 H1) : EOk P { e with st := s1 } σ F1 H1 ∧ Step P e { e with st := s1 } σ F H F1 H1 := by
  have kn : ∀ {a : Addr} {o : HO}, F a = none → H a = some o → F1 a = none := fun {a o} h1 h2 => by
    cases z : F1 a with
    | none => rfl
    | some w =>
      rcases p.ext.nw a w z with ⟨u, q⟩ | q
      · rw [h1] at q; cases q
      · rw [h2] at q; cases q
  refine ⟨⟨k.ext.trans p.ext, fun a o h1 h2 => p.fr a o h1 (k.fra a o h1 h2), p.sto, p.off, k.len, fun i d h => ?_, k.tok, fun i xs h => ?_, k.sep, fun i y h => ?_⟩,
    ⟨p.ext.ff, fun a o h => (p.ext.nw a o h).elim .inl fun q => .inr (.inl q), p.ext.kp, fun _ h => h, fun a o h1 _ h => p.fr a o h1 h⟩⟩
  · obtain ⟨v, q1, q2⟩ := k.sh i d h
    exact ⟨v, q1, p.ext.ff.dp _ _ q2⟩
  · obtain ⟨r, vs, q1, q2, q3, q4, q5, q6⟩ := k.ow i xs h
    exact ⟨r, vs, q1, p.fr _ _ q5 q2, kn q3 q2, q4, q5, OdR.mono p.ext.ff q6⟩
  · obtain ⟨q1, q2⟩ := k.ex i y h
    exact ⟨q1, q2.mono p.ext.ff⟩
def outV {S : Type} (o : FO S) (e : En S) : Out S Mi.D := match o with
  | .val r s1 => .ok r.d { e with st := s1 }
  | .exc x s1 => .err x { e with st := s1 }
  | .stuck => .stuck
def outF {S : Type} (o : FO S) (e : En S) : Out S (List Mi.D) := match o with
  | .val (.fr xs) s1 => .ok xs { e with st := s1 }
  | .val (.sh _) s1 => .stuck
  | .exc x s1 => .err x { e with st := s1 }
  | .stuck => .stuck
def mCall {S : Type} (n : Nat) (fn : List Arg → S → FO S) (g : M S (List Arg)) : M S Mi.D := bnd g fun as e => if as.length = n then outV (fn as e.st) e else .stuck
def mCallF {S : Type} (n : Nat) (fn : List Arg → S → FO S) (g : M S (List Arg)) : M S (List Mi.D) := bnd g fun as e => if as.length = n then outF (fn as e.st) e else .stuck
theorem im_exc {as : List Arg} {fn : List Arg → P.B.S → FO P.B.S} {x : Er} {s1 : P.B.S} {G : α → En P.B.S → Hp → Hp → Prop} (k : EOk P e σ F H) (h : Sat P W e σ F H (.err x { e with st := s1 } : Out P.B.S α) G) :
    ∀ F1 H1, Pst P.B s1 F H F1 H1 → ∀ c d, ErOk P.mg F1 c d x → W c d σ H1 := fun F1 H1 p c d r => h c d F1 H1 (k.called p).1 p.ext.ff r
theorem im_call {as : List Arg} {fn : List Arg → P.B.S → FO P.B.S} {Q : VK} {vs : List V} {n : Nat} (k : EOk P e σ F H) (r : ArgsOk P.B F vs as) (hl : vs.length = n)
    (h : Sat P W e σ F H (outV (fn as e.st) e) fun d _ F1 H1 => ∀ v, Rp F1 v d → Q v H1) : spM P.mg P.B n fn vs H Q (WE W σ) := by
  refine ⟨hl, F, as, e.st, k.ext.fh, k.off, k.sto, r, ?_⟩
  cases q : fn as e.st with
  | stuck => rw [q] at h; exact h.elim
  | exc x s1 => rw [q] at h; exact im_exc (as := as) (fn := fn) k h
  | val r s1 =>
    rw [q] at h
    cases r with
    | sh d => exact fun F1 H1 p v rv => h F1 H1 (k.called p).1 (k.called p).2 v rv
    | fr xs =>
      intro F1 H1 p r vs g1 g2 g3 g4
      obtain ⟨kF, kH0, kO, kW⟩ := k.fresh g1
      obtain ⟨k1, s1'⟩ := k.called p
      have nw : ¬ Ow { e with st := s1 } σ r := fun z => kW (s1'.ow r z)
      have k2 := k1.freeze g2 kH0 kO nw g3
      refine h (upd F1 r (.lst vs)) H1 k2 ⟨s1'.ff.trans (Ex.new g3), fun a o z => ?_, s1'.kp, s1'.ow, s1'.fr⟩ _ (.lst upd_same ((Ex.new g3).dpa _ _ g4))
      by_cases y : a = r
      · subst y; exact .inr (.inl g1)
      · rw [upd_ne y] at z; exact s1'.nw a o z
theorem im_callF {as : List Arg} {fn : List Arg → P.B.S → FO P.B.S} {Q : VK} {vs : List V} {n : Nat} {Hs : Hp} (k : EOk P e σ F H) (r : ArgsOk P.B F vs as) (hl : vs.length = n) (hH : ∀ a, H a = none → Hs a = none)
    (h : Sat P W e σ F H (outF (fn as e.st) e) fun xs _ F1 H1 => ∀ p vs, Hs p = none → H1 p = some (.lst vs) → F1 p = none → RpA F1 vs xs → Q (.ref p) H1) : spM P.mg P.B n fn vs H Q (WE W σ) := by
  refine ⟨hl, F, as, e.st, k.ext.fh, k.off, k.sto, r, ?_⟩
  cases q : fn as e.st with
  | stuck => rw [q] at h; exact h.elim
  | exc x s1 => rw [q] at h; exact im_exc (as := as) (fn := fn) k h
  | val r s1 =>
    rw [q] at h
    cases r with
    | sh d => exact h.elim
    | fr xs => exact fun F1 H1 p r vs g1 g2 g3 g4 => h F1 H1 (k.called p).1 (k.called p).2 r vs (hH _ g1) g2 g3 g4
/-- a def that knows nothing of the thing beside the frames -/
def B0 : Amb := ⟨Unit, fun _ _ => True, [], 0, fun _ _ _ _ h => h, fun _ _ _ _ h => nomatch h⟩
def noTok : List Arg → Bool
  | [] => true
  | .d _ :: as => noTok as
  | .tok :: _ => false
theorem ArgsOk.b0 {B : Amb} {vs : List V} {as : List Arg} (h : ArgsOk B F vs as) (q : noTok as = true) : ArgsOk B0 F vs as := by
  induction h with
  | nil => exact .nil
  | d r _ ih => exact .d r (ih q)
  | tok _ _ => cases q
def lift {S : Type} (fn : List Arg → Unit → FO Unit) : List Arg → S → FO S := fun as s => if noTok as = true then (match fn as () with
  | .val r _ => .val r s
  | .exc x _ => .exc x s
  | .stuck => .stuck) else .stuck
theorem FnOk.lift {Pg : Program} {w : World} {K : PySem.W.Frag} {mg : Str → Option Value} {base : Heap} {CX : CXT} {k : Nat} {f : Addr} {fd : FuncData} {ps : List Str} {n : Nat} {fn : List Arg → Unit → FO Unit} (h : FnOk Pg w K mg base CX k f fd ps (spM mg B0 n fn)) (B : Amb) :
    FnOk Pg w K mg base CX k f fd ps (spM mg B n (lift fn)) := by
  refine h.imp fun vs H Q E ⟨hl, F, as, s, hx, off, sto, r, q⟩ => ?_
  unfold Mi.lift at q
  by_cases ht : noTok as = true
  · rw [if_pos ht] at q
    have up : ∀ {F1 H1 : Hp}, Pst B0 () F H F1 H1 → Pst B s F H F1 H1 := fun {F1 H1} p => by
      refine ⟨p.ext, fun a o _ h => p.fr a o (fun z => nomatch z) h, B.loc _ _ _ (fun a o _ h => p.fr a o (fun z => nomatch z) h) sto, fun a ha => ?_⟩
      obtain ⟨o, ho⟩ := B.dom _ _ sto a ha
      cases z : F1 a with
      | none => rfl
      | some u =>
        rcases p.ext.nw a u z with ⟨y, g⟩ | g
        · rw [off a ha] at g; cases g
        · rw [ho] at g; cases g
    refine ⟨hl, F, as, (), hx, fun _ z => (nomatch z), trivial, r.b0 ht, ?_⟩
    cases y : fn as () with
    | stuck => rw [y] at q; exact q
    | exc x s1 => rw [y] at q; exact fun F1 H1 p => q F1 H1 (up p)
    | val r s1 =>
      rw [y] at q
      cases r with
      | sh d => exact fun F1 H1 p => q F1 H1 (up p)
      | fr xs => exact fun F1 H1 p => q F1 H1 (up p)
  · rw [if_neg ht] at q; exact q.elim
section
variable {k : Nat} {f : Addr} {fd : FuncData} {ps : List Str} {x : Str} {p : Pos} {a : Expr} {es : List Expr}
theorem x_call {n : Nat} {fn : List Arg → P.B.S → FO P.B.S} {g : M P.B.S (List Arg)} (Fk : FnOk X.prog X.w X.K X.mg X.base (L2.CX X.prog X.w) k f fd ps (spM P.mg P.B ps.length fn)) (hr : Room k X.A) (hm : X.mg x = some (.ref f)) (hk : PySem.W.keepIn X.K (.ref f) = true) (hb : Binds X.K fd ps []) (tk : Takes X W)
    (ha : XA P X W (a :: es) g) (hg : Gl X x := by rfl) (hdb : (x == ("__debug__" : Str)) = false := by decide) (he : starEach (a :: es) X.env = (false, eval a X.env) :: starEach es X.env := by rfl) (hpl : (backTo pos (starEach es X.env)).any (·.1) = false := by rfl) (hn : ps.length = n := by rfl) :
    XE P X W (.Call (.Name x p) (a :: es) [] pos) (mCall n fn g) :=
  pe_imp (pe_callS Fk hr hg hm hk hb (fun σ => passAt tk σ) ha hdb he hpl) fun σ H Q ⟨F, e, k, h⟩ => tA_of k h fun as e1 F1 H1 vs k1 s1 r1 h1 => by
    subst hn
    by_cases hl : as.length = ps.length
    · rw [if_pos hl] at h1; exact im_call k1 r1 (r1.len.trans hl) h1
    · rw [if_neg hl] at h1; exact h1.elim
theorem f_call {n : Nat} {fn : List Arg → P.B.S → FO P.B.S} {g : M P.B.S (List Arg)} (Fk : FnOk X.prog X.w X.K X.mg X.base (L2.CX X.prog X.w) k f fd ps (spM P.mg P.B ps.length fn)) (hr : Room k X.A) (hm : X.mg x = some (.ref f)) (hk : PySem.W.keepIn X.K (.ref f) = true) (hb : Binds X.K fd ps []) (tk : Takes X W)
    (ha : XA P X W (a :: es) g) (hg : Gl X x := by rfl) (hdb : (x == ("__debug__" : Str)) = false := by decide) (he : starEach (a :: es) X.env = (false, eval a X.env) :: starEach es X.env := by rfl) (hpl : (backTo pos (starEach es X.env)).any (·.1) = false := by rfl) (hn : ps.length = n := by rfl) :
    XF P X W (.Call (.Name x p) (a :: es) [] pos) (mCallF n fn g) :=
  pe_imp (pe_callS Fk hr hg hm hk hb (fun σ => passAt tk σ) ha hdb he hpl) fun σ H Q ⟨F, e, k, h⟩ => tA_of k h fun as e1 F1 H1 vs k1 s1 r1 h1 => by
    subst hn
    by_cases hl : as.length = ps.length
    · rw [if_pos hl] at h1; exact im_callF k1 r1 (r1.len.trans hl) (fun a z => s1.non z) h1
    · rw [if_neg hl] at h1; exact h1.elim
end
end
end Mi
set_option maxHeartbeats 4000000
namespace Mi
open PySem PySem.Spec PyProof.Rows L2

/-! several clauses, each with or without a name for what it holds -/
structure Hd where
  c : Value
  i : Option Nat
  ts : Addr → Value → Option Addr → TS
def Hd.σ (h : Hd) (a : Addr) (σ : St) : St := match h.i with
  | some j => σ.set j (some (.ref a))
  | none => σ
def Hd.D (h : Hd) (D : Ends) : Ends := match h.i with
  | some j => { nx := fun σ H => D.nx (σ.set j none) H, rt := D.rt, bk := fun σ H => D.bk (σ.set j none) H, ct := fun σ H => D.ct (σ.set j none) H }
  | none => D
def wHds (K : PySem.W.Frag) (Wo : WX) (D : Ends) : List Hd → WX
  | [] => Wo
  | h :: r => fun cls d σ H => ∃ b, PySem.W.exmOne K cls h.c = some b ∧ (b = true → ∀ a, H a = none → h.ts a cls d (h.D D) (h.σ a σ) H) ∧ (b = false → wHds K Wo D r cls d σ H)
inductive HdsA (X : Cx) : List ExceptHandler → List Hd → Prop
  | nil : HdsA X [] []
  | plain {x : Str} {c : Value} {ts : Addr → Value → Option Addr → TS} {b₀ : Stmt} {su : List Stmt} {np p2 : Pos} {hds : List ExceptHandler} {l : List Hd} (hc : Names X x c)
      (hsu : ∀ (a : Addr) (oe : Obj) (cls : Value) (d : Option Addr) (pn : List (Addr × Obj)), Zc cls d oe → (∃ vs, oe.data = .fields vs) → PSs (X.suite a ((a, oe) :: pn)) (b₀ :: su) (ts a cls d)) (r : HdsA X hds l) :
      HdsA X (.ExceptHandler (some (.Name x np)) none (b₀ :: su) p2 :: hds) (⟨c, none, ts⟩ :: l)
  | named {x n : Str} {i : Nat} {c : Value} {ts : Addr → Value → Option Addr → TS} {b₀ : Stmt} {su : List Stmt} {np p2 : Pos} {hds : List ExceptHandler} {l : List Hd} (hc : Names X x c) (hi : X.N[i]? = some n) (hl : X.env.kindOf n = some .local)
      (hsu : ∀ (a : Addr) (oe : Obj) (cls : Value) (d : Option Addr) (pn : List (Addr × Obj)), Zc cls d oe → (∃ vs, oe.data = .fields vs) → PSs (X.suite a ((a, oe) :: pn)) (b₀ :: su) (ts a cls d)) (r : HdsA X hds l) :
      HdsA X (.ExceptHandler (some (.Name x np)) (some n) (b₀ :: su) p2 :: hds) (⟨c, some i, ts⟩ :: l)
section
variable {X : Cx} {body : List Stmt} {h₀ : ExceptHandler} {hds : List ExceptHandler} {l : List Hd} {pos : Pos} {tb : WX → TS} {Wo : WX}
theorem ps_try_hds (hN : X.N.Nodup) (hs : X.stack = X.env :: X.outer) (hf : X.env.frame = some X.env.locals) (tk : Takes X Wo)
    (hb : ∀ (W : WX) (pn : List (Addr × Obj)) (xe : Value → Shared → Prop), Takes (X.tr pn xe) W → PassesOwn (model X.prog X.w) X.A X.env xe → PSs (X.tr pn xe) body (tb W))
    (hh : HdsA X (h₀ :: hds) l) : PS X (.Try body (h₀ :: hds) [] [] pos) (fun D σ H => tb (wHds X.K Wo D l) D σ H) := by
  refine ⟨fun pins s σ H D I h => ?_⟩
  have okX := I.ok
  have frm : X.A.frames = some (X.env :: X.outer) := by rw [okX.frames, hs]
  refine wpAny_Try_except ?_
  let after : Value → Shared → Prop := fun e u1 => wpAny (model X.prog X.w) X.A (noteFrame e X.env) (fun _ u2 => wpAny (model X.prog X.w) X.A (setFlight e none) (fun _ u3 =>
    wpAny (model X.prog X.w) X.A (handleBy e X.env (h₀ :: hds)) (SP X pins D) X.xe u3) X.xe u2) X.xe u1
  have tkB : Takes (X.tr (X.pn ++ pins) after) (wHds X.K Wo D l) := by
    intro u t xx
    obtain ⟨a, B, tI, pins2, σ2, H2, cls, d, rfl, J2, nb, up, sky, na, os, ag, w⟩ := xx
    have J : Inv X pins σ2 H2 tI := J2.ofTry okX
    have sky2 : Sky B (X.env :: X.outer) a (Zc cls d) X.env.locals t.heap := by rw [← hs]; exact sky
    show wpAny (model X.prog X.w) X.A (noteFrame (.ref a) X.env) _ _ _
    refine Sky.land Zc.steady frm hf sky2 fun g3 fl3 up3 => ?_
    have J3 : Inv X pins σ2 H2 { t with heap := g3 } := J.landed nb fl3.1 (up.trans up3) os ag
    obtain ⟨o3, vs3, he3, hz3, hd3⟩ := fl3.there
    have nfr : a ∉ frs (X.env :: X.outer) := fun hm => by
      obtain ⟨_, o', e', hnf⟩ := fl3.2.2.1.mem hm
      rw [he3] at e'; cases e'
      exact hnf _ hd3
    have nL : a ≠ X.env.locals := fun z => nfr (List.mem_filterMap.mpr ⟨X.env, List.mem_cons_self, by rw [hf, z]⟩)
    have nF : a ∉ X.fs := fun hm => by
      obtain ⟨e, he, q⟩ := List.mem_filterMap.mp hm
      exact nfr (List.mem_filterMap.mpr ⟨e, List.mem_cons_of_mem _ he, q⟩)
    have S3 := J3.suite he3 hd3 na nL nF
    have LT : PySem.W.Looks (model X.prog X.w) g3 (typeOf (.ref a)) cls := fun A Q E s k q => wpAny_typeOf_ref (k _ _ he3) (by rw [hz3.1]; exact q)
    have named : ∀ {x : Str} {np : Pos} {c : Value}, Names X x c → ∀ {Q : Value → Shared → Prop} {E : Value → Shared → Prop}, Q c { t with heap := g3 } →
        wpAny (model X.prog X.w) (X.A.mark (some (.ref a))) (eval (.Name x np) X.env) Q E { t with heap := g3 } := fun {x np c} hc {Q E} q => by
      obtain ⟨hg, hdbg, hm | ⟨hm, hv, hnn⟩⟩ := hc
      · exact ld_glob (X := X.suite a ((a, o3) :: (X.pn ++ pins))) S3 hg hm q hdbg
      · exact ld_blt (X := X.suite a ((a, o3) :: (X.pn ++ pins))) S3 hg hm hv q hnn hdbg
    have go : ∀ {hs2 : List ExceptHandler} {l2 : List Hd}, HdsA X hs2 l2 → wHds X.K Wo D l2 cls d σ2 H2 → wpAny (model X.prog X.w) X.A (handleBy (.ref a) X.env hs2) (SP X pins D) X.xe { t with heap := g3 } := by
      intro hs2 l2 hk
      induction hk with
      | nil =>
        intro w
        refine wpAny_handleBy_nil ?_
        obtain ⟨k1, k2, k3, oe, vs, T, oT, ts', he, hz, hd, h1, hr⟩ := id fl3
        unfold PySem.passOn
        refine wpAny_bind (wpAny_field he hd h1 ?_)
        rw [if_neg (show ¬ ((Value.ref T == Value.none) = true) from by simp)]
        have fin : wpAny (model X.prog X.w) X.A (setFlight (.ref a) X.env.frame) (fun _ u4 => wpAny (model X.prog X.w) X.A (throw (.ref a) : Sem Flow) (SP X pins D) X.xe u4) X.xe { t with heap := g3 } := by
          rw [hf]
          refine HandSPX.setFlight_upZ fl3 fun g4 hh4 up4 => wpAny_throw (tk _ _ ?_)
          exact ⟨a, B, tI, pins, σ2, H2, cls, d, rfl, J, nb, (up.trans up3).trans up4, .inr (.inr (by rw [hs]; exact hh4)), na, os, ag, w⟩
        first
          | exact wpAny_bind (wpAny_pure (wpAny_bind fin))
          | exact wpAny_bind fin
      | @plain x c ts b₀ su np p2 hds2 l2 hc hsu r ih =>
        intro w
        obtain ⟨b, hb1, hyes, hno⟩ := w
        refine wpAny_handleBy_cons (codeAny_handlers_test ?_) (by intro q; cases q)
        refine named hc ((PySem.W.exm_one (M := model X.prog X.w) J3.kIn LT hb1).here ?_)
        cases b with
        | true =>
          refine codeAny_handlers_suite ?_
          refine HandSPX.lands_againZ fl3 fun g4 fl4 up4 => ?_
          have J4 : Inv X pins σ2 H2 { t with heap := g4 } := J.landed nb fl4.1 ((up.trans up3).trans up4) os ag
          obtain ⟨o4, vs4, he4, hz4, hd4⟩ := fl4.there
          have S4 := J4.suite he4 hd4 na nL nF
          refine wpAny_mono ((hsu a o4 cls d (X.pn ++ pins) hz4 ⟨_, hd4⟩).run [] _ _ H2 _ S4 (hyes rfl a na)) (fun f u6 hsp => ?_) (fun _ _ z => False.elim z)
          cases f with
          | next => obtain ⟨σ6, H6, S6, q6⟩ := hsp; exact ⟨_, _, S6.unsuite okX, q6⟩
          | brk => obtain ⟨σ6, H6, S6, q6⟩ := hsp; exact ⟨_, _, S6.unsuite okX, q6⟩
          | cont => obtain ⟨σ6, H6, S6, q6⟩ := hsp; exact ⟨_, _, S6.unsuite okX, q6⟩
          | ret u => obtain ⟨v6, σ6, H6, S6, r6, q6⟩ := hsp; exact ⟨_, _, _, S6.unsuite okX, r6, q6⟩
        | false =>
          show wpAny _ X.A (handleBy (.ref a) X.env hds2) _ _ _
          exact ih (hno rfl)
      | @named x n i c ts b₀ su np p2 hds2 l2 hc hi hl hsu r ih =>
        intro w
        obtain ⟨b, hb1, hyes, hno⟩ := w
        refine wpAny_handleBy_cons (codeAny_handlers_test ?_) (by intro q; cases q)
        refine named hc ((PySem.W.exm_one (M := model X.prog X.w) J3.kIn LT hb1).here ?_)
        cases b with
        | true =>
          refine codeAny_handlers_suite_as ?_
          refine HandSPX.lands_againZ fl3 fun g4 fl4 up4 => ?_
          have J4 : Inv X pins σ2 H2 { t with heap := g4 } := J.landed nb fl4.1 ((up.trans up3).trans up4) os ag
          obtain ⟨o4, vs4, he4, hz4, hd4⟩ := fl4.there
          have S4 := J4.suite he4 hd4 na nL nF
          refine store_ok (X := X.suite a ((a, o4) :: (X.pn ++ pins))) (v := .ref a) S4 hN hi (.inl hl) rfl (fun u5 S5 => ?_) (.inr hl)
          refine wpAny_mono ((hsu a o4 cls d (X.pn ++ pins) hz4 ⟨_, hd4⟩).run [] u5 _ H2 _ S5 (hyes rfl a na)) (fun f u6 hsp => ?_) (fun _ _ z => False.elim z)
          have gone : ∀ {σ6 : St} {H6 : Hp} {Q : Shared → Prop}, Inv (X.suite a ((a, o4) :: (X.pn ++ pins))) [] σ6 H6 u6 → (∀ u7, Inv X pins (σ6.set i none) H6 u7 → Q u7) →
              wpAny (model X.prog X.w) X.A (do bindName X.env n .none; unbindBehindTheSuite X.env n p2) (fun _ u7 => Q u7) X.xe u6 := fun {σ6 H6 Q} S6 hq => gone_ok (S6.unsuite okX) hN hi hl hq
          cases f with
          | next => obtain ⟨σ6, H6, S6, q6⟩ := hsp; exact gone S6 fun u7 J7 => ⟨_, _, J7, q6⟩
          | brk => obtain ⟨σ6, H6, S6, q6⟩ := hsp; exact gone S6 fun u7 J7 => ⟨_, _, J7, q6⟩
          | cont => obtain ⟨σ6, H6, S6, q6⟩ := hsp; exact gone S6 fun u7 J7 => ⟨_, _, J7, q6⟩
          | ret u => obtain ⟨v6, σ6, H6, S6, r6, q6⟩ := hsp; exact gone S6 fun u7 J7 => ⟨_, _, _, J7, r6, q6⟩
        | false =>
          show wpAny _ X.A (handleBy (.ref a) X.env hds2) _ _ _
          exact ih (hno rfl)
    exact go hh w
  refine wpAny_mono ((hb (wHds X.K Wo D l) (X.pn ++ pins) after tkB PassesOwn.looking).run [] s σ H D (I.toTry _) h) (fun f u1 hsp => ?_) (fun e u1 he => he)
  cases f with
  | next => obtain ⟨σ2, H2, J2, q⟩ := hsp; exact wpAny_execs_nil ⟨σ2, H2, J2.ofTry okX, q⟩
  | brk => obtain ⟨σ2, H2, J2, q⟩ := hsp; exact ⟨σ2, H2, J2.ofTry okX, q⟩
  | cont => obtain ⟨σ2, H2, J2, q⟩ := hsp; exact ⟨σ2, H2, J2.ofTry okX, q⟩
  | ret u => obtain ⟨v, σ2, H2, J2, r, q⟩ := hsp; exact ⟨v, σ2, H2, J2.ofTry okX, r, q⟩
end

section
variable {P : Pm} {X : Cx} {W : WX} {α β : Type} {e e1 : En P.B.S} {σ : St} {F H F1 H1 : Hp} {pos : Pos} {D : Ends}

/-! the mirror of try -/
def noEx : List Slot → Bool
  | [] => true
  | .ex _ :: _ => false
  | .un :: r => noEx r
  | .sh _ :: r => noEx r
  | .ob _ :: r => noEx r
  | .tok :: r => noEx r
theorem noEx_at : ∀ {l : List Slot}, noEx l = true → ∀ (i : Nat) (x : Er), l[i]? ≠ some (.ex x)
  | [], _, i, x, h => by simp at h
  | .ex _ :: _, h, _, _, _ => by cases h
  | s :: r, h, 0, x, q => by
    simp at q
    subst q
    cases h
  | .un :: r, h, i + 1, x, q => noEx_at (l := r) h i x (by simpa using q)
  | .sh _ :: r, h, i + 1, x, q => noEx_at (l := r) h i x (by simpa using q)
  | .ob _ :: r, h, i + 1, x, q => noEx_at (l := r) h i x (by simpa using q)
  | .tok :: r, h, i + 1, x, q => noEx_at (l := r) h i x (by simpa using q)
abbrev Pm.at (P : Pm) (a : Addr) (c : Value) (d : Option Addr) : Pm := { P with xa := a, xc := c, xd := d }
theorem EOk.re (k : EOk P e σ F H) (h : noEx e.sl = true) (a : Addr) (c : Value) (d : Option Addr) : EOk (P.at a c d) e σ F H :=
  ⟨k.ext, k.fra, k.sto, k.off, k.len, k.sh, k.tok, k.ow, k.sep, fun i x q => (noEx_at h i x q).elim⟩
theorem EOk.un_re {a : Addr} {c : Value} {d : Option Addr} (k : EOk (P.at a c d) e σ F H) (h : noEx e.sl = true) : EOk P e σ F H :=
  ⟨k.ext, k.fra, k.sto, k.off, k.len, k.sh, k.tok, k.ow, k.sep, fun i x q => (noEx_at h i x q).elim⟩
structure Hm (S : Type) where
  c : Str
  i : Option Nat
  m : M S Fl
def Hm.In {S : Type} (h : Hm S) (x : Er) (e : En S) : En S := match h.i with
  | some j => { e with sl := e.sl.set j (.ex x) }
  | none => e
def Hm.Un {S : Type} (h : Hm S) (e : En S) : En S := match h.i with
  | some j => { e with sl := e.sl.set j .un }
  | none => e
def hend {S : Type} (h : Hm S) (o : Out S Fl) : Out S Fl := match o with
  | .ok fl e1 => if noEx (h.Un e1).sl = true then .ok fl (h.Un e1) else .stuck
  | _ => .stuck
/-- which class is caught by which clause -/
def hgo {S : Type} (sub : Str → Str → Option Bool) : List (Hm S) → Er → En S → Out S Fl
  | [], x, e => .err x e
  | h :: r, x, e => match sub x.cls h.c with
    | some true => hend h (h.m (h.In x e))
    | some false => hgo sub r x e
    | none => .stuck
def mTry {S : Type} (sub : Str → Str → Option Bool) (b : M S Fl) (l : List (Hm S)) : M S Fl := fun e => match b e with
  | .err x e1 => if noEx e1.sl = true then hgo sub l x e1 else .stuck
  | .ok fl e1 => .ok fl e1
  | .stuck => .stuck
def WF : WX := fun _ _ _ _ => False
inductive HdsM (P : Pm) (X : Cx) (sub : Str → Str → Option Bool) : List ExceptHandler → List (Hm P.B.S) → List Hd → Prop
  | nil : HdsM P X sub [] [] []
  | plain {x : Str} {c : Value} {m : M P.B.S Fl} {b₀ : Stmt} {su : List Stmt} {np p2 : Pos} {hds : List ExceptHandler} {l : List (Hm P.B.S)} {l2 : List Hd} (hc : Names X x c)
      (hx : ∀ n cls b, sub n x = some b → P.mg n = some cls → PySem.W.exmOne X.K cls c = some b)
      (hsu : ∀ (a : Addr) (oe : Obj) (cls : Value) (d : Option Addr) (pn : List (Addr × Obj)), Zc cls d oe → (∃ vs, oe.data = .fields vs) → XSs (P.at a cls d) (X.suite a ((a, oe) :: pn)) WF (b₀ :: su) m) (r : HdsM P X sub hds l l2) :
      HdsM P X sub (.ExceptHandler (some (.Name x np)) none (b₀ :: su) p2 :: hds) (⟨x, none, m⟩ :: l) (⟨c, none, fun a cls d => tS (P.at a cls d) WF m⟩ :: l2)
  | named {x n : Str} {i : Nat} {c : Value} {m : M P.B.S Fl} {b₀ : Stmt} {su : List Stmt} {np p2 : Pos} {hds : List ExceptHandler} {l : List (Hm P.B.S)} {l2 : List Hd} (hc : Names X x c) (hi : X.N[i]? = some n) (hl : X.env.kindOf n = some .local)
      (hx : ∀ n cls b, sub n x = some b → P.mg n = some cls → PySem.W.exmOne X.K cls c = some b)
      (hsu : ∀ (a : Addr) (oe : Obj) (cls : Value) (d : Option Addr) (pn : List (Addr × Obj)), Zc cls d oe → (∃ vs, oe.data = .fields vs) → XSs (P.at a cls d) (X.suite a ((a, oe) :: pn)) WF (b₀ :: su) m) (r : HdsM P X sub hds l l2) :
      HdsM P X sub (.ExceptHandler (some (.Name x np)) (some n) (b₀ :: su) p2 :: hds) (⟨x, some i, m⟩ :: l) (⟨c, some i, fun a cls d => tS (P.at a cls d) WF m⟩ :: l2)
theorem HdsM.a {sub : Str → Str → Option Bool} {hs : List ExceptHandler} {l : List (Hm P.B.S)} {l2 : List Hd} (h : HdsM P X sub hs l l2) : HdsA X hs l2 := by
  induction h with
  | nil => exact .nil
  | plain hc hx hsu _ ih => exact .plain hc (fun a oe cls d pn h1 h2 => hsu a oe cls d pn h1 h2) ih
  | named hc hi hl hx hsu _ ih => exact .named hc hi hl (fun a oe cls d pn h1 h2 => hsu a oe cls d pn h1 h2) ih
theorem EOk.putX {i : Nat} {a : Addr} {c : Value} {d : Option Addr} {x : Er} (k : EOk (P.at a c d) e σ F H) (r : ErOk P.mg F c d x) : EOk (P.at a c d) { e with sl := e.sl.set i (.ex x) } (σ.set i (some (.ref a))) F H := by
  refine ⟨k.ext, k.fra, k.sto, k.off, by simpa using k.len, fun j d2 h => ?_, fun j h => ?_, fun j xs h => ?_, fun j j' xs ys p h h' g g' => ?_, fun j x h => ?_⟩
  · rcases lget_set h with ⟨rfl, z⟩ | ⟨ne, z⟩
    · cases z
    · rw [List.getElem?_set_ne (Ne.symm ne)]; exact k.sh j d2 z
  · rcases lget_set h with ⟨rfl, z⟩ | ⟨ne, z⟩
    · cases z
    · rw [List.getElem?_set_ne (Ne.symm ne)]; exact k.tok j z
  · rcases lget_set h with ⟨rfl, z⟩ | ⟨ne, z⟩
    · cases z
    · rw [List.getElem?_set_ne (Ne.symm ne)]; exact k.ow j xs z
  · rcases lget_set h with ⟨rfl, z⟩ | ⟨ne, z⟩
    · cases z
    · rcases lget_set h' with ⟨rfl, z'⟩ | ⟨ne', z'⟩
      · cases z'
      · rw [List.getElem?_set_ne (Ne.symm ne)] at g
        rw [List.getElem?_set_ne (Ne.symm ne')] at g'
        exact k.sep j j' xs ys p z z' g g'
  · rcases lget_set h with ⟨rfl, z⟩ | ⟨ne, z⟩
    · cases z
      have hl : j < e.sl.length := by have := (List.getElem?_eq_some_iff.mp h).1; simpa using this
      exact ⟨List.getElem?_set_self (by rw [← k.len]; exact hl), r⟩
    · rw [List.getElem?_set_ne (Ne.symm ne)]; exact k.ex j x z
/-- a slot forgotten on both sides -/
theorem EOk.wipe {i : Nat} {v : Option V} (k : EOk P e σ F H) : EOk P { e with sl := e.sl.set i .un } (σ.set i v) F H := by
  refine ⟨k.ext, k.fra, k.sto, k.off, by simpa using k.len, fun j d2 h => ?_, fun j h => ?_, fun j xs h => ?_, fun j j' xs ys p h h' g g' => ?_, fun j x h => ?_⟩
  · rcases lget_set h with ⟨rfl, z⟩ | ⟨ne, z⟩
    · cases z
    · rw [List.getElem?_set_ne (Ne.symm ne)]; exact k.sh j d2 z
  · rcases lget_set h with ⟨rfl, z⟩ | ⟨ne, z⟩
    · cases z
    · rw [List.getElem?_set_ne (Ne.symm ne)]; exact k.tok j z
  · rcases lget_set h with ⟨rfl, z⟩ | ⟨ne, z⟩
    · cases z
    · rw [List.getElem?_set_ne (Ne.symm ne)]; exact k.ow j xs z
  · rcases lget_set h with ⟨rfl, z⟩ | ⟨ne, z⟩
    · cases z
    · rcases lget_set h' with ⟨rfl, z'⟩ | ⟨ne', z'⟩
      · cases z'
      · rw [List.getElem?_set_ne (Ne.symm ne)] at g
        rw [List.getElem?_set_ne (Ne.symm ne')] at g'
        exact k.sep j j' xs ys p z z' g g'
  · rcases lget_set h with ⟨rfl, z⟩ | ⟨ne, z⟩
    · cases z
    · rw [List.getElem?_set_ne (Ne.symm ne)]; exact k.ex j x z
theorem im_hds {sub : Str → Str → Option Bool} {hs : List ExceptHandler} {l : List (Hm P.B.S)} {l2 : List Hd} (hm : HdsM P X sub hs l l2) {er : Er} (he : noEx e.sl = true) (h : SatS P W F D (hgo sub l er e)) :
    ∀ c d σ1 F1 H1, EOk P e σ1 F1 H1 → Ex F F1 → ErOk P.mg F1 c d er → wHds X.K W D l2 c d σ1 H1 := by
  induction hm with
  | nil => exact h
  | @plain x c m b₀ su np p2 hds l l2 hc hx hsu _ ih =>
    intro cls d σ1 F1 H1 k ex r
    unfold hgo at h
    cases q : sub er.cls _ with
    | none => rw [q] at h; exact h.elim
    | some b =>
      rw [q] at h
      refine ⟨b, hx _ _ _ q r.1, fun hb a ha => ?_, fun hb => ?_⟩
      · subst hb
        dsimp only at h
        refine ⟨F1, e, k.re he a cls d, ?_⟩
        show SatS (P.at a cls d) WF F1 D (m e)
        change SatS P W F D (hend ⟨x, none, m⟩ (m e)) at h
        unfold hend at h
        cases y : m e with
        | stuck => rw [y] at h; exact h.elim
        | err _ _ => rw [y] at h; exact h.elim
        | ok fl e1 =>
          rw [y] at h
          dsimp only at h
          split at h
          · rename_i hn
            cases fl with
            | nx => exact fun σ2 F2 H2 k2 x2 => h σ2 F2 H2 (k2.un_re hn) (ex.trans x2)
            | bk => exact fun σ2 F2 H2 k2 x2 => h σ2 F2 H2 (k2.un_re hn) (ex.trans x2)
            | ct => exact fun σ2 F2 H2 k2 x2 => h σ2 F2 H2 (k2.un_re hn) (ex.trans x2)
            | ret rr =>
              cases rr with
              | sh dd => exact fun σ2 F2 H2 k2 x2 => h σ2 F2 H2 (k2.un_re hn) (ex.trans x2)
              | fr xs => exact fun σ2 F2 H2 k2 x2 => h σ2 F2 H2 (k2.un_re hn) (ex.trans x2)
          · exact h.elim
      · subst hb
        exact ih h cls d σ1 F1 H1 k ex r
  | @named x n i c m b₀ su np p2 hds l l2 hc hi hl hx hsu _ ih =>
    intro cls d σ1 F1 H1 k ex r
    unfold hgo at h
    cases q : sub er.cls _ with
    | none => rw [q] at h; exact h.elim
    | some b =>
      rw [q] at h
      refine ⟨b, hx _ _ _ q r.1, fun hb a ha => ?_, fun hb => ?_⟩
      · subst hb
        dsimp only at h
        refine ⟨F1, { e with sl := e.sl.set i (.ex er) }, (k.re he a cls d).putX r, ?_⟩
        show SatS (P.at a cls d) WF F1 (Hd.D ⟨c, some i, _⟩ D) (m { e with sl := e.sl.set i (.ex er) })
        change SatS P W F D (hend ⟨x, some i, m⟩ (m { e with sl := e.sl.set i (.ex er) })) at h
        unfold hend at h
        cases y : m { e with sl := e.sl.set i (.ex er) } with
        | stuck => rw [y] at h; exact h.elim
        | err _ _ => rw [y] at h; exact h.elim
        | ok fl e1 =>
          rw [y] at h
          dsimp only at h
          split at h
          · rename_i hn
            cases fl with
            | nx => exact fun σ2 F2 H2 k2 x2 => h _ F2 H2 (k2.wipe.un_re hn) (ex.trans x2)
            | bk => exact fun σ2 F2 H2 k2 x2 => h _ F2 H2 (k2.wipe.un_re hn) (ex.trans x2)
            | ct => exact fun σ2 F2 H2 k2 x2 => h _ F2 H2 (k2.wipe.un_re hn) (ex.trans x2)
            | ret rr =>
              cases rr with
              | sh dd => exact fun σ2 F2 H2 k2 x2 => h (σ2.set i none) F2 H2 (k2.wipe.un_re hn) (ex.trans x2)
              | fr xs => exact fun σ2 F2 H2 k2 x2 => h (σ2.set i none) F2 H2 (k2.wipe.un_re hn) (ex.trans x2)
          · exact h.elim
      · subst hb
        exact ih h cls d σ1 F1 H1 k ex r
theorem s_try {sub : Str → Str → Option Bool} {body : List Stmt} {h₀ : ExceptHandler} {hds : List ExceptHandler} {mb : M P.B.S Fl} {l : List (Hm P.B.S)} {l2 : List Hd} (hN : X.N.Nodup) (tk : Takes X W)
    (hb : ∀ (W : WX) (pn : List (Addr × Obj)) (xe : Value → Shared → Prop), Takes (X.tr pn xe) W → PassesOwn (model X.prog X.w) X.A X.env xe → XSs P (X.tr pn xe) W body mb)
    (hm : HdsM P X sub (h₀ :: hds) l l2) (hs : X.stack = X.env :: X.outer := by rfl) (hf : X.env.frame = some X.env.locals := by rfl) : XS P X W (.Try body (h₀ :: hds) [] [] pos) (mTry sub mb l) :=
  ps_imp (ps_try_hds (tb := fun W => tS P W mb) hN hs hf tk hb hm.a) fun D σ H ⟨F, e, k, h⟩ => by
    refine ⟨F, e, k, ?_⟩
    unfold mTry at h
    cases q : mb e with
    | stuck => rw [q] at h; exact h
    | ok fl e1 =>
      rw [q] at h
      cases fl with
      | ret r => cases r <;> exact h
      | _ => exact h
    | err x e1 =>
      rw [q] at h
      dsimp only at h
      split at h
      · rename_i hn; exact im_hds hm hn h
      · exact h.elim

/-! what a suite says of what it holds -/
def mAtt {S : Type} (j : Nat) (n c : Str) : M S Mi.D := fun e => match e.sl[j]? with
  | some (.ex x) => if x.cls = c then (match x.fs.lookup n with
    | some d => .ok d e
    | none => .stuck) else .stuck
  | _ => .stuck
theorem FsOk.look {n : Str} {d : Mi.D} : ∀ {fs : List (Str × V)} {ds : List (Str × Mi.D)}, FsOk F fs ds → ds.lookup n = some d → ∃ v, fs.lookup n = some v ∧ Rp F v d
  | _, _, .nil, h => by cases h
  | (a, v) :: fs, (b, x) :: ds, .cons ⟨h1, h2⟩ t, h => by
    dsimp only at h1 h2
    subst h1
    rw [List.lookup_cons] at h ⊢
    cases q : n == a with
    | true => rw [q] at h; cases h; exact ⟨v, rfl, h2⟩
    | false => rw [q] at h; exact FsOk.look t h
theorem x_att (j : Nat) {x n c : Str} {a C : Addr} {oe : Obj} {cls : Value} {d : Option Addr} {pn : List (Addr × Obj)} {p : Pos} (T : XfC X.K C) (hno : PySem.W.findIn X.K (.ref C) n = some none) (hz : Zc cls d oe) (hf : ∃ vs, oe.data = .fields vs)
    (hm : P.mg c = some (.ref C)) (hN : X.N[j]? = some x := by rfl) (hv : Vis X.env.scope x := by first | exact Or.inl rfl | exact Or.inr (Or.inl rfl) | exact Or.inr (Or.inr rfl)) (hd : (x == ("__debug__" : Str)) = false := by decide)
    (hcd : (x == ("__classdict__" : Str)) = false := by decide) (hb : attributeBase (.Name x p) n X.env (eval (.Name x p) X.env) = eval (.Name x p) X.env := by rfl) :
    XE (P.at a cls d) (X.suite a ((a, oe) :: pn)) W (.Attribute (.Name x p) n pos) (mAtt j n c) :=
  pe_imp (pe_xf T hno hz hf (pe_var (X := X.suite a ((a, oe) :: pn)) (i := j) hN hv hd hcd) hb) fun σ H Q ⟨F, e, k, h⟩ => by
    unfold mAtt at h
    cases q : e.sl[j]? with
    | none => rw [q] at h; exact h.elim
    | some s =>
      rw [q] at h
      cases s with
      | ex y =>
        obtain ⟨q1, q2, q3⟩ := k.ex j y q
        dsimp only at h
        split at h
        · rename_i hc
          cases z : y.fs.lookup n with
          | none => rw [z] at h; exact h.elim
          | some dd =>
            rw [z] at h
            rcases q3 with ⟨_, q3⟩ | ⟨dx, fs, q3, q4, q5⟩
            · rw [q3] at z; cases z
            · obtain ⟨v, v1, v2⟩ := q5.look z
              refine ⟨_, q1, rfl, ?_, dx, fs, v, q3, k.ext.fh _ _ q4, v1, h F H k Step.refl v v2⟩
              have e1 : P.mg c = some cls := by rw [← hc]; exact q2
              rw [hm] at e1
              exact (Option.some.inj e1).symm
        · exact h.elim
      | _ => exact h.elim
end
end Mi
set_option maxHeartbeats 4000000
namespace Mi
open PySem PySem.Spec PyProof.Rows L2

/-! plain operations -/
def mulOk (a b : Int) : Prop := CMul a b ∨ CMulW a b
@[irreducible] def dec_mulOk (a b : Int) : Decidable (mulOk a b) := by unfold mulOk CMul CMulW; infer_instance
instance (a b : Int) : Decidable (mulOk a b) := dec_mulOk a b
def divOk (b : Int) : Prop := 0 < b ∧ b.natAbs.log2 < 9000
@[irreducible] def dec_divOk (b : Int) : Decidable (divOk b) := by unfold divOk; infer_instance
instance (b : Int) : Decidable (divOk b) := dec_divOk b
def powOk (a b : Int) : Prop := CPow a b
@[irreducible] def dec_powOk (a b : Int) : Decidable (powOk a b) := by unfold powOk CPow; infer_instance
instance (a b : Int) : Decidable (powOk a b) := dec_powOk a b
def repOk (xs : List D) (k : Int) : Prop := -(2 ^ 63) ≤ k ∧ k < 2 ^ 63 ∧ xs.length * k.toNat ≤ sizeLine
@[irreducible] def dec_repOk (xs : List D) (k : Int) : Decidable (repOk xs k) := by unfold repOk; infer_instance
instance (xs : List D) (k : Int) : Decidable (repOk xs k) := dec_repOk xs k
def dAdd : D → D → Option D
  | .int a, .int b => some (.int (a + b))
  | .str a, .str b => if a.length + b.length ≤ sizeLine then some (.str (a ++ b)) else none
  | .list a, .list b => if a.length + b.length ≤ sizeLine then some (.list (a ++ b)) else none
  | .tuple a, .tuple b => if a ≠ [] ∧ a.length + b.length ≤ sizeLine then some (.tuple (a ++ b)) else none
  | _, _ => none
def dSub : D → D → Option D
  | .int a, .int b => some (.int (a - b))
  | _, _ => none
def dMul : D → D → Option D
  | .int a, .int b => if mulOk a b then some (.int (a * b)) else none
  | .list xs, .int k => if repOk xs k then some (.list (List.replicate k.toNat xs).flatten) else none
  | _, _ => none
def dDiv : D → D → Option D
  | .int a, .int b => if divOk b then some (.int (a / b)) else none
  | _, _ => none
def dMod : D → D → Option D
  | .int a, .int b => if 0 < b then some (.int (a % b)) else none
  | _, _ => none
def dPow : D → D → Option D
  | .int a, .int b => if powOk a b then some (.int (a ^ b.toNat)) else none
  | _, _ => none
def dNeg : D → Option D
  | .int a => some (.int (-a))
  | _ => none
def dLt : D → D → Option D
  | .int a, .int b => some (.bool (decide (a < b)))
  | _, _ => none
def dLe : D → D → Option D
  | .int a, .int b => some (.bool (decide (a ≤ b)))
  | _, _ => none
def dGt : D → D → Option D
  | .int a, .int b => some (.bool (decide (b < a)))
  | _, _ => none
def dGe : D → D → Option D
  | .int a, .int b => some (.bool (decide (b ≤ a)))
  | _, _ => none
def dEq (a b : D) : Option D := if SeqAt.shaped a = true ∧ SeqAt.shaped b = true then some (.bool (PyData.eqv a b)) else none
def dNe (a b : D) : Option D := if SeqAt.shaped a = true ∧ SeqAt.shaped b = true then some (.bool (!PyData.eqv a b)) else none
def dIn : D → D → Option D
  | a, .list bs => if SeqAt.shaped a = true ∧ SeqAt.shaped (.list bs) = true then some (.bool (bs.any fun z => PyData.eqv z a)) else none
  | _, _ => none
def dNotIn : D → D → Option D
  | a, .list bs => if SeqAt.shaped a = true ∧ SeqAt.shaped (.list bs) = true then some (.bool (!bs.any fun z => PyData.eqv z a)) else none
  | _, _ => none
def dIsN : D → Option D
  | .none => some (.bool true)
  | _ => some (.bool false)
def dNotN : D → Option D
  | .none => some (.bool false)
  | _ => some (.bool true)
def dIx : D → D → Option D
  | .list xs, .int i => atI xs i
  | .tuple xs, .int i => atI xs i
  | _, _ => none

theorem Ext.same {F H : Hp} (h : Ex F H) : Ext F H F H := Ext.refl h
theorem pr_II {g : D → D → Option D} {C : Int → Int → Prop} {v : Int → Int → V} {d : Int → Int → D} (hd : ∀ a b (F : Hp), Rp F (v a b) (d a b)) (hg : ∀ a b c, g a b = some c → ∃ i j, a = .int i ∧ b = .int j ∧ C i j ∧ c = d i j) :
    Pr2 (rI C v) g := fun d1 d2 d3 v1 v2 F H Q h r1 r2 x q => by
  obtain ⟨i, j, rfl, rfl, hc, rfl⟩ := hg _ _ _ h
  cases r1; cases r2
  exact ⟨i, j, rfl, rfl, hc, q _ F H (Ex.refl _) (Ext.refl x) (hd i j F)⟩
theorem pr_II0 {g : D → D → Option D} {v : Int → Int → V} {d : Int → Int → D} (hd : ∀ a b (F : Hp), Rp F (v a b) (d a b)) (hg : ∀ a b c, g a b = some c → ∃ i j, a = .int i ∧ b = .int j ∧ c = d i j) :
    Pr2 (rI0 v) g := fun d1 d2 d3 v1 v2 F H Q h r1 r2 x q => by
  obtain ⟨i, j, rfl, rfl, rfl⟩ := hg _ _ _ h
  cases r1; cases r2
  exact ⟨i, j, rfl, rfl, q _ F H (Ex.refl _) (Ext.refl x) (hd i j F)⟩
section
variable {X : Cx}
theorem o_sub : OpR X (binaryOp .Sub) (rI0 fun i j => .int (i - j)) := op_sub
theorem p_sub : Pr2 (rI0 fun i j => .int (i - j)) dSub := pr_II0 (d := fun i j => .int (i - j)) (fun a b F => .int _) fun a b c h => by
  unfold dSub at h
  split at h
  · cases h; exact ⟨_, _, rfl, rfl, rfl⟩
  · cases h
def rAddA (K : PySem.W.Frag) : R2 := fun x y H Q => (∃ i j, x = .int i ∧ y = .int j ∧ Q (.int (i + j)) H) ∨ ((∃ i j, x = .str i ∧ y = .str j ∧ i.length + j.length ≤ sizeLine ∧ Q (.str (i ++ j)) H) ∨ (rCat x y H Q ∨ rCatT K x y H Q))
theorem o_add : OpR X (binaryOp .Add) (rAddA X.K) := op_add.or (op_add_str.or (op_cat.or op_catT))
theorem p_add (K : PySem.W.Frag) : Pr2 (rAddA K) dAdd := fun d1 d2 d3 v1 v2 F H Q h r1 r2 x q => by
  unfold dAdd at h
  split at h
  · cases h; cases r1; cases r2
    exact .inl ⟨_, _, rfl, rfl, q _ F H (Ex.refl _) (Ext.refl x) (.int _)⟩
  · split at h
    · rename_i hl
      cases h; cases r1; cases r2
      exact .inr (.inl ⟨_, _, rfl, rfl, hl, q _ F H (Ex.refl _) (Ext.refl x) (.str _)⟩)
    · cases h
  · split at h
    · rename_i hl
      cases h
      cases r1 with
      | lst a1 b1 =>
        cases r2 with
        | lst a2 b2 =>
          refine .inr (.inr (.inl ⟨_, _, _, _, rfl, rfl, x _ _ a1, x _ _ a2, by rw [RpA.len b1, RpA.len b2]; exact hl, fun p np => ?_⟩))
          exact q _ _ _ (Ex.new np) (Ext.lay x np) (.lst upd_same ((Ext.lay x np).ff.dpa _ _ (RpA.app b1 b2)))
    · cases h
  · split at h
    · rename_i hl
      cases h
      cases r1 with
      | @tup a1 xs ds1 a1' b1 =>
        cases r2 with
        | @tup a2 ys ds2 a2' b2 =>
          have ne : xs ≠ [] := fun z => by subst z; cases b1; exact hl.1 rfl
          refine .inr (.inr (.inr ⟨_, _, xs, ys, rfl, rfl, .of (x _ _ a1'), .of (x _ _ a2'), ne, by rw [RpA.len b1, RpA.len b2]; exact hl.2, fun e => ?_, fun _ p np => ?_⟩))
          · subst e
            cases b2
            rw [List.append_nil] at q
            exact q _ F H (Ex.refl _) (Ext.refl x) (.tup a1' b1)
          · have z := Ext.lay (p := p) (o := .tup (xs ++ ys)) x np
            exact q _ _ _ (Ex.new np) z (.tup upd_same (z.ff.dpa _ _ (RpA.app b1 b2)))
    · cases h
  · cases h
def rMulA : R2 := fun x y H Q => (rI CMul (fun i j => .int (i * j)) x y H Q ∨ rI CMulW (fun i j => .int (i * j)) x y H Q) ∨ rRep x y H Q
theorem o_mul : OpR X (binaryOp .Mult) rMulA := (op_mul.or op_mulW).or op_rep
theorem p_mul : Pr2 rMulA dMul := fun d1 d2 d3 v1 v2 F H Q h r1 r2 x q => by
  unfold dMul at h
  split at h
  · split at h
    · rename_i hl
      cases h; cases r1; cases r2
      rcases hl with hl | hl
      · exact .inl (.inl ⟨_, _, rfl, rfl, hl, q _ F H (Ex.refl _) (Ext.refl x) (.int _)⟩)
      · exact .inl (.inr ⟨_, _, rfl, rfl, hl, q _ F H (Ex.refl _) (Ext.refl x) (.int _)⟩)
    · cases h
  · split at h
    · rename_i hl
      cases h; cases r2
      cases r1 with
      | lst a1 b1 =>
        refine .inr ⟨_, _, _, rfl, rfl, x _ _ a1, hl.1, hl.2.1, by rw [RpA.len b1]; exact hl.2.2, fun p np => ?_⟩
        exact q _ _ _ (Ex.new np) (Ext.lay x np) (.lst upd_same ((Ext.lay x np).ff.dpa _ _ (RpA.repl b1 _)))
    · cases h
  · cases h
theorem o_div : OpR X (binaryOp .FloorDiv) (rI CDivW fun i j => .int (i / j)) := op_fdivW
theorem p_div : Pr2 (rI CDivW fun i j => .int (i / j)) dDiv := pr_II (d := fun i j => .int (i / j)) (fun a b F => .int _) fun a b c h => by
  unfold dDiv at h
  split at h
  · split at h
    · rename_i hl; cases h; exact ⟨_, _, rfl, rfl, hl, rfl⟩
    · cases h
  · cases h
theorem o_mod : OpR X (binaryOp .Mod) (rI (fun _ j => 0 < j) fun i j => .int (i % j)) := op_mod
theorem p_mod : Pr2 (rI (fun _ j => 0 < j) fun i j => .int (i % j)) dMod := pr_II (d := fun i j => .int (i % j)) (fun a b F => .int _) fun a b c h => by
  unfold dMod at h
  split at h
  · split at h
    · rename_i hl; cases h; exact ⟨_, _, rfl, rfl, hl, rfl⟩
    · cases h
  · cases h
theorem o_pow : OpR X (binaryOp .Pow) (rI CPow fun i j => .int (i ^ j.toNat)) := op_pow
theorem p_pow : Pr2 (rI CPow fun i j => .int (i ^ j.toNat)) dPow := pr_II (d := fun i j => .int (i ^ j.toNat)) (fun a b F => .int _) fun a b c h => by
  unfold dPow at h
  split at h
  · split at h
    · rename_i hl; cases h; exact ⟨_, _, rfl, rfl, hl, rfl⟩
    · cases h
  · cases h
theorem o_neg : UnR X (unaryOp .USub) (rU fun i => .int (-i)) := un_neg
theorem p_neg : Pr1 (rU fun i => .int (-i)) dNeg := fun d d2 v F H Q h r x q => by
  unfold dNeg at h
  split at h
  · cases h; cases r; exact ⟨_, rfl, q _ F H (Ex.refl _) (Ext.refl x) (.int _)⟩
  · cases h
theorem o_lt : OpR X (compareOp .Lt) (rI0 fun i j => .bl (decide (i < j))) := op_lt
theorem p_lt : Pr2 (rI0 fun i j => .bl (decide (i < j))) dLt := pr_II0 (d := fun i j => .bool (decide (i < j))) (fun a b F => .bl _) fun a b c h => by
  unfold dLt at h
  split at h
  · cases h; exact ⟨_, _, rfl, rfl, rfl⟩
  · cases h
theorem o_le : OpR X (compareOp .LtE) (rI0 fun i j => .bl (decide (i ≤ j))) := op_le
theorem p_le : Pr2 (rI0 fun i j => .bl (decide (i ≤ j))) dLe := pr_II0 (d := fun i j => .bool (decide (i ≤ j))) (fun a b F => .bl _) fun a b c h => by
  unfold dLe at h
  split at h
  · cases h; exact ⟨_, _, rfl, rfl, rfl⟩
  · cases h
theorem o_gt : OpR X (compareOp .Gt) (rI0 fun i j => .bl (decide (j < i))) := op_gt
theorem p_gt : Pr2 (rI0 fun i j => .bl (decide (j < i))) dGt := pr_II0 (d := fun i j => .bool (decide (j < i))) (fun a b F => .bl _) fun a b c h => by
  unfold dGt at h
  split at h
  · cases h; exact ⟨_, _, rfl, rfl, rfl⟩
  · cases h
theorem o_ge : OpR X (compareOp .GtE) (rI0 fun i j => .bl (decide (j ≤ i))) := op_ge
theorem p_ge : Pr2 (rI0 fun i j => .bl (decide (j ≤ i))) dGe := pr_II0 (d := fun i j => .bool (decide (j ≤ i))) (fun a b F => .bl _) fun a b c h => by
  unfold dGe at h
  split at h
  · cases h; exact ⟨_, _, rfl, rfl, rfl⟩
  · cases h
theorem hu64 {A : Around} {k : Nat} (hr : Room k A) : A.units + 65 < cLine := by have := hr.un; omega
theorem o_eq {k : Nat} (hr : Room k X.A) : OpR X (compareOp .Eq) (rEqD X.K) := op_eqD (by have := hr.un; omega)
theorem p_eq (K : PySem.W.Frag) : Pr2 (rEqD K) dEq := fun d1 d2 d3 v1 v2 F H Q h r1 r2 x q => by
  unfold dEq at h
  split at h
  · rename_i hl
    cases h
    exact ⟨d1, d2, (x.dp _ _ r1).dp, (x.dp _ _ r2).dp, hl.1, hl.2, q _ F H (Ex.refl _) (Ext.refl x) (.bl _)⟩
  · cases h
theorem o_ne {k : Nat} (hr : Room k X.A) : OpR X (compareOp .NotEq) (rNeD X.K) := op_neD (by have := hr.un; omega)
theorem p_ne (K : PySem.W.Frag) : Pr2 (rNeD K) dNe := fun d1 d2 d3 v1 v2 F H Q h r1 r2 x q => by
  unfold dNe at h
  split at h
  · rename_i hl
    cases h
    exact ⟨d1, d2, (x.dp _ _ r1).dp, (x.dp _ _ r2).dp, hl.1, hl.2, q _ F H (Ex.refl _) (Ext.refl x) (.bl _)⟩
  · cases h
theorem o_in {k : Nat} (hr : Room k X.A) : OpR X (compareOp .In) (rInD X.K) := op_inD (hu64 hr)
theorem p_in (K : PySem.W.Frag) : Pr2 (rInD K) dIn := fun d1 d2 d3 v1 v2 F H Q h r1 r2 x q => by
  unfold dIn at h
  split at h
  · split at h
    · rename_i hl
      cases h
      exact ⟨d1, _, (x.dp _ _ r1).dp, (x.dp _ _ r2).dp, hl.1, hl.2, q _ F H (Ex.refl _) (Ext.refl x) (.bl _)⟩
    · cases h
  · cases h
theorem o_notIn {k : Nat} (hr : Room k X.A) : OpR X (compareOp .NotIn) (rNotInD X.K) := op_notInD (hu64 hr)
theorem p_notIn (K : PySem.W.Frag) : Pr2 (rNotInD K) dNotIn := fun d1 d2 d3 v1 v2 F H Q h r1 r2 x q => by
  unfold dNotIn at h
  split at h
  · split at h
    · rename_i hl
      cases h
      exact ⟨d1, _, (x.dp _ _ r1).dp, (x.dp _ _ r2).dp, hl.1, hl.2, q _ F H (Ex.refl _) (Ext.refl x) (.bl _)⟩
    · cases h
  · cases h
end

section
variable {P : Pm} {X : Cx} {W : WX} {α β : Type} {e e1 : En P.B.S} {σ : St} {F H F1 H1 : Hp} {pos : Pos}
/-- is None, is not None -/
theorem im_isN {f : M P.B.S D} {g : D → Option D} {neg : Bool} (hg : ∀ d d2, g d = some d2 → ∃ b, d2 = .bool b ∧ ∀ (F : Hp) v, Rp F v d → (if neg then !decide (v = .non) else decide (v = .non)) = b) {Q : VK}
    (h : tX P W (m1 g f) σ H Q) : tX P W f σ H fun x H1 => Q (.bl (if neg then !decide (x = .non) else decide (x = .non))) H1 := by
  obtain ⟨F, e, k, h⟩ := h
  refine tX_of k h fun d1 e1 F1 H1 v1 k1 s1 r1 h1 => ?_
  obtain ⟨d2, h2, h3⟩ := h1.lft
  obtain ⟨b, rfl, hb⟩ := hg _ _ h2
  rw [hb F1 v1 r1]
  exact h3 F1 H1 k1 Step.refl _ (.bl b)
theorem isN_ok (d d2 : D) (h : dIsN d = some d2) : ∃ b, d2 = .bool b ∧ ∀ (F : Hp) v, Rp F v d → (if false then !decide (v = .non) else decide (v = .non)) = b := by
  cases d <;> (unfold dIsN at h; cases h; refine ⟨_, rfl, fun F v r => ?_⟩; cases r <;> rfl)
theorem notN_ok (d d2 : D) (h : dNotN d = some d2) : ∃ b, d2 = .bool b ∧ ∀ (F : Hp) v, Rp F v d → (if true then !decide (v = .non) else decide (v = .non)) = b := by
  cases d <;> (unfold dNotN at h; cases h; refine ⟨_, rfl, fun F v r => ?_⟩; cases r <;> rfl)
theorem x_isN {a : Expr} {f : M P.B.S D} {j : Nat} {p : Pos} (h : XE P X W a f) : XE P X W (.Compare a [.Is] [.Constant .none j p] pos) (m1 dIsN f) :=
  pe_imp (pe_cmp (pc_isN h)) fun _ _ _ z => im_isN (neg := false) isN_ok z
theorem x_notN {a : Expr} {f : M P.B.S D} {j : Nat} {p : Pos} (h : XE P X W a f) : XE P X W (.Compare a [.IsNot] [.Constant .none j p] pos) (m1 dNotN f) :=
  pe_imp (pe_cmp (pc_notN h)) fun _ _ _ z => im_isN (neg := true) notN_ok z
theorem t_isN {a : Expr} {f : M P.B.S D} {j : Nat} {p : Pos} (h : XE P X W a f) : XT P X W (.Compare a [.Is] [.Constant .none j p] pos) (asB (m1 dIsN f)) :=
  pt_imp (pt_cmp (pc_isN h)) fun σ H Q z => im_tst (t := tIsN (tX P W f)) (fun _ _ _ z => im_isN (neg := false) isN_ok z) σ H Q z
theorem t_notN {a : Expr} {f : M P.B.S D} {j : Nat} {p : Pos} (h : XE P X W a f) : XT P X W (.Compare a [.IsNot] [.Constant .none j p] pos) (asB (m1 dNotN f)) :=
  pt_imp (pt_cmp (pc_notN h)) fun σ H Q z => im_tst (t := tNotN (tX P W f)) (fun _ _ _ z => im_isN (neg := true) notN_ok z) σ H Q z
/-- a < b < c -/
def mChain {S : Type} (g g' : D → D → Option D) (fa fb fc : M S D) : M S D := bnd fa fun x => bnd fb fun y => bnd (lft (g x y)) fun z => match z with
  | .bool true => bnd fc fun w => lft (g' y w)
  | .bool false => rt (.bool false)
  | _ => stk
theorem im_chain {r r' : R2} {g g' : D → D → Option D} {fa fb fc : M P.B.S D} (p1 : Pr2 r g) (p2 : Pr2 r' g') {Q : VK} (h : tX P W (mChain g g' fa fb fc) σ H Q) : tChain r r' (tX P W fa) (tX P W fb) (tX P W fc) σ H Q := by
  obtain ⟨F, e, k, h⟩ := h
  refine tX_of k h fun d1 e1 F1 H1 v1 k1 s1 r1 h1 => ?_
  refine tX_of k1 h1 fun d2 e2 F2 H2 v2 k2 s2 r2 h2 => ?_
  obtain ⟨d3, hg, h3⟩ : ∃ d3, g d1 d2 = some d3 ∧ Sat P W e2 σ F2 H2 ((match d3 with
      | .bool true => bnd fc fun w => lft (g' d2 w)
      | .bool false => rt (.bool false)
      | _ => stk : M P.B.S D) e2) fun d _ F1 H1 => ∀ v, Rp F1 v d → Q v H1 := by
    unfold bnd lft at h2
    cases q : g d1 d2 with
    | none => rw [q] at h2; exact h2.elim
    | some d3 => rw [q] at h2; exact ⟨d3, rfl, h2⟩
  refine p1 d1 d2 d3 v1 v2 F2 H2 _ hg (s2.ff.dp _ _ r1) r2 k2.ext.fh fun v F3 H3 hx x rv => ?_
  obtain ⟨k3, s3⟩ := k2.grow hx x
  cases rv with
  | bl b =>
    refine ⟨b, rfl, ?_⟩
    cases b with
    | true =>
      rw [if_pos rfl]
      refine tX_of k3 (Sat.back s3 h3) fun d4 e4 F4 H4 v4 k4 s4 r4 h4 => ?_
      obtain ⟨d5, hg5, h5⟩ := h4.lft
      exact p2 d2 d4 d5 v2 v4 F4 H4 Q hg5 (s4.ff.dp _ _ (s3.ff.dp _ _ r2)) r4 k4.ext.fh fun v F' H' hx x rv => h5.grow k4 hx x v rv
    | false =>
      rw [if_neg Bool.false_ne_true]
      exact (Sat.back s3 h3) F3 H3 k3 Step.refl _ (.bl _)
  | _ => exact h3.elim
theorem x_chain {op op' : CmpOp} {a b c : Expr} {r r' : R2} {g g' : D → D → Option D} {fa fb fc : M P.B.S D} (ho : OpR X (compareOp op) r) (ho' : OpR X (compareOp op') r') (p1 : Pr2 r g) (p2 : Pr2 r' g') (ha : XE P X W a fa) (hb : XE P X W b fb) (hc : XE P X W c fc)
    (hm : lastMarks [op, op'] [b, c] = false := by with_unfolding_all rfl) : XE P X W (.Compare a [op, op'] [b, c] pos) (mChain g g' fa fb fc) := pe_imp (pe_chain ho ho' ha hb hc hm) fun _ _ _ z => im_chain p1 p2 z
theorem t_chain {op op' : CmpOp} {a b c : Expr} {r r' : R2} {g g' : D → D → Option D} {fa fb fc : M P.B.S D} (ho : OpR X (compareOp op) r) (ho' : OpR X (compareOp op') r') (p1 : Pr2 r g) (p2 : Pr2 r' g') (ha : XE P X W a fa) (hb : XE P X W b fb) (hc : XE P X W c fc)
    (hm : lastMarks [op, op'] [b, c] = false := by with_unfolding_all rfl) : XT P X W (.Compare a [op, op'] [b, c] pos) (asB (mChain g g' fa fb fc)) :=
  pt_imp (pt_chain ho ho' ha hb hc hm) fun σ H Q z => im_tst (t := tChain r r' (tX P W fa) (tX P W fb) (tX P W fc)) (fun _ _ _ z => im_chain p1 p2 z) σ H Q z

/-! subscripts -/
theorem ixN_lt {n : Nat} {i : Int} {j : Nat} (h : ixN n i = some j) : j < n := (ixN_seq h).2.1
theorem atI_rp {F : Hp} {vs : List V} {ds : List D} {i : Int} {d : D} (r : RpA F vs ds) (h : atI ds i = some d) : ∃ v, atI vs i = some v ∧ Rp F v d := by
  unfold atI at h ⊢
  rw [RpA.len r]
  obtain ⟨j, h1, h2⟩ := Option.bind_eq_some_iff.mp h
  obtain ⟨v, h3, h4⟩ := r.get h2
  exact ⟨v, by rw [h1]; exact h3, h4⟩
theorem p_ix (K : PySem.W.Frag) : Pr2 (rIx K) dIx := fun d1 d2 d3 v1 v2 F H Q h r1 r2 x q => by
  unfold dIx at h
  split at h
  · cases r2
    cases r1 with
    | lst a b =>
      obtain ⟨v, h1, h2⟩ := atI_rp b h
      exact .inl ⟨_, _, _, v, rfl, rfl, .of (x _ _ a), h1, q _ F H (Ex.refl _) (Ext.refl x) h2⟩
  · cases r2
    cases r1 with
    | tup a b =>
      obtain ⟨v, h1, h2⟩ := atI_rp b h
      exact .inr (.inl ⟨_, _, _, v, rfl, rfl, .of (x _ _ a), h1, q _ F H (Ex.refl _) (Ext.refl x) h2⟩)
  · cases h
theorem x_ix {a b : Expr} {f1 f2 : M P.B.S D} (ha : XE P X W a f1) (hb : XE P X W b f2) (hs : PlainIx b := by exact fun _ _ => rfl) : XE P X W (.Subscript a b pos) (m2 dIx f1 f2) :=
  pe_imp (pe_ix ix_seq ha hb hs) fun _ _ _ h => im2 (p_ix X.K) h
/-- the kept-apart (or frozen) list in slot i -/
def lstAt {S : Type} (i : Nat) (e : En S) : Option (List D) := match e.sl[i]? with
  | some (.ob (.lst xs)) => some xs
  | some (.sh (.list xs)) => some xs
  | _ => none
theorem EOk.lstAt (k : EOk P e σ F H) {i : Nat} {xs : List D} (h : lstAt i e = some xs) : ∃ p vs, σ[i]? = some (some (.ref p)) ∧ H p = some (.lst vs) ∧ RpA F vs xs := by
  unfold Mi.lstAt at h
  split at h
  · rename_i ys q
    cases h
    obtain ⟨p, vs, q1, q2, _, _, _, q6⟩ := k.owL i _ q
    exact ⟨p, vs, q1, q2, q6⟩
  · rename_i ys q
    cases h
    obtain ⟨v, q1, q2⟩ := k.sh i _ q
    cases q2 with
    | lst a b => exact ⟨_, _, q1, k.ext.fh _ _ a, b⟩
  · cases h
def withL {S α : Type} (i : Nat) (m : M S α) : M S α := fun e => match lstAt i e with
  | some _ => m e
  | none => .stuck
theorem withL_of {i : Nat} {m : M P.B.S α} {G : α → En P.B.S → Hp → Hp → Prop} (k : EOk P e σ F H) (h : Sat P W e σ F H (withL i m e) G) : ∃ p vs xs, lstAt i e = some xs ∧ σ[i]? = some (some (.ref p)) ∧ H p = some (.lst vs) ∧ RpA F vs xs ∧ Sat P W e σ F H (m e) G := by
  unfold withL at h
  cases q : lstAt i e with
  | none => rw [q] at h; exact h.elim
  | some xs =>
    rw [q] at h
    obtain ⟨p, vs, q1, q2, q3⟩ := k.lstAt q
    exact ⟨p, vs, xs, rfl, q1, q2, q3, h⟩
def mIxO {S : Type} (i : Nat) (f : M S D) : M S D := withL i (bnd f fun k e => match lstAt i e, k with
  | some xs, .int j => lft (atI xs j) e
  | _, _ => .stuck)
section
variable (i : Nat) {x : Str} (hN : X.N[i]? = some x) (hv : Vis X.env.scope x) (hd : (x == ("__debug__" : Str)) = false) (hcd : (x == ("__classdict__" : Str)) = false)
end
/-- x[b], x the list of a slot, which stays as it is -/
theorem x_ixO (i : Nat) {x : Str} {b : Expr} {f : M P.B.S D} {p : Pos} (hb : XE P X W b f) (hN : X.N[i]? = some x := by rfl) (hv : Vis X.env.scope x := by first | exact Or.inl rfl | exact Or.inr (Or.inl rfl) | exact Or.inr (Or.inr rfl)) (hs : PlainIx b := by exact fun _ _ => rfl)
    (hd : (x == ("__debug__" : Str)) = false := by decide) (hcd : (x == ("__classdict__" : Str)) = false := by decide) : XE P X W (.Subscript (.Name x p) b pos) (mIxO i f) :=
  pe_imp (pe_ix ix_list (pe_var hN hv hd hcd) hb hs) fun σ H Q ⟨F, e, k, h⟩ => by
    obtain ⟨p, vs, xs, _, q1, q2, q3, h⟩ := withL_of k h
    refine ⟨_, q1, tX_of k h fun d1 e1 F1 H1 v1 k1 s1 r1 h1 => ?_⟩
    cases z : lstAt i e1 with
    | none => rw [z] at h1; exact h1.elim
    | some ys =>
      rw [z] at h1
      obtain ⟨p', ws, g1, g2, g3⟩ := k1.lstAt z
      rw [q1] at g1
      cases g1
      cases r1 with
      | int j =>
        obtain ⟨d, hd, h2⟩ := h1.lft
        obtain ⟨v, w1, w2⟩ := atI_rp g3 hd
        exact ⟨p, ws, j, v, rfl, rfl, .of g2, w1, h2 F1 H1 k1 Step.refl v w2⟩
      | _ => exact h1.elim

/-! built-in functions by their arguments -/
def PrN (r : List V → Hp → VK → Prop) (g : List Arg → Option D) : Prop := ∀ (B : Amb) as d vs (F H : Hp) Q, g as = some d → ArgsOk B F vs as → Ex F H → (∀ v F1 H1, Ex H H1 → Ext F H F1 H1 → Rp F1 v d → Q v H1) → r vs H Q
def PrNF (r : List V → Hp → VK → Prop) (g : List Arg → Option (List D)) : Prop := ∀ (B : Amb) as xs vs (F H : Hp) Q, g as = some xs → ArgsOk B F vs as → Ex F H → (∀ p ws, H p = none → RpA F ws xs → Q (.ref p) (upd H p (.lst ws))) → r vs H Q
/-- .. by the one list of a slot -/
def PrO (r : List V → Hp → VK → Prop) (g : List D → Option D) : Prop := ∀ xs d p vs (F H : Hp) Q, g xs = some d → H p = some (.lst vs) → RpA F vs xs → Ex F H → (∀ v F1 H1, Ex H H1 → Ext F H F1 H1 → Rp F1 v d → Q v H1) → r [.ref p] H Q
def PrOF (r : List V → Hp → VK → Prop) (g : List D → Option (List D)) : Prop := ∀ xs ys p vs (F H : Hp) Q, g xs = some ys → H p = some (.lst vs) → RpA F vs xs → Ex F H → (∀ p ws, H p = none → RpA F ws ys → Q (.ref p) (upd H p (.lst ws))) → r [.ref p] H Q
def mB {S : Type} (g : List Arg → Option D) (m : M S (List Arg)) : M S D := bnd m fun as => lft (g as)
def mBF {S : Type} (g : List Arg → Option (List D)) (m : M S (List Arg)) : M S (List D) := bnd m fun as => lft (g as)
def mO {S α : Type} (i : Nat) (g : List D → Option α) : M S α := fun e => match lstAt i e with
  | some xs => lft (g xs) e
  | none => .stuck
theorem im_B {r : List V → Hp → VK → Prop} {g : List Arg → Option D} {m : M P.B.S (List Arg)} (pr : PrN r g) {Q : VK} (h : tX P W (mB g m) σ H Q) : tCB r (tA P W m) σ H Q := by
  obtain ⟨F, e, k, h⟩ := h
  refine tA_of k h fun as e1 F1 H1 vs k1 s1 r1 h1 => ?_
  obtain ⟨d, hg, h2⟩ := h1.lft
  exact pr P.B as d vs F1 H1 Q hg r1 k1.ext.fh fun v F' H' hx x rv => h2.grow k1 hx x v rv
theorem im_BF {r : List V → Hp → VK → Prop} {g : List Arg → Option (List D)} {m : M P.B.S (List Arg)} (pr : PrNF r g) {Q : VK} (h : tF P W (mBF g m) σ H Q) : tCB r (tA P W m) σ H Q := by
  obtain ⟨F, e, k, h⟩ := h
  refine tA_of k h fun as e1 F1 H1 vs k1 s1 r1 h1 => ?_
  obtain ⟨xs, hg, h2⟩ := h1.lft
  refine pr P.B as xs vs F1 H1 Q hg r1 k1.ext.fh fun p ws np ra => ?_
  exact h2.grow k1 (Ex.new np) (Ext.layO k1.ext.fh np) p ws (s1.non np) upd_same (k1.fresh np).1 ra
theorem im_O {i : Nat} {r : List V → Hp → VK → Prop} {g : List D → Option D} (pr : PrO r g) {Q : VK} (h : tX P W (mO i g) σ H Q) : tCB r (tCons (tVar i) tNil) σ H Q := by
  obtain ⟨F, e, k, h⟩ := h
  unfold mO at h
  cases q : lstAt i e with
  | none => rw [q] at h; exact h.elim
  | some xs =>
    rw [q] at h
    obtain ⟨p, vs, q1, q2, q3⟩ := k.lstAt q
    obtain ⟨d, hg, h2⟩ := h.lft
    exact ⟨_, q1, pr xs d p vs F H Q hg q2 q3 k.ext.fh fun v F' H' hx x rv => h2.grow k hx x v rv⟩
theorem im_OF {i : Nat} {r : List V → Hp → VK → Prop} {g : List D → Option (List D)} (pr : PrOF r g) {Q : VK} (h : tF P W (mO i g) σ H Q) : tCB r (tCons (tVar i) tNil) σ H Q := by
  obtain ⟨F, e, k, h⟩ := h
  unfold mO at h
  cases q : lstAt i e with
  | none => rw [q] at h; exact h.elim
  | some xs =>
    rw [q] at h
    obtain ⟨p, vs, q1, q2, q3⟩ := k.lstAt q
    obtain ⟨ys, hg, h2⟩ := h.lft
    exact ⟨_, q1, pr xs ys p vs F H Q hg q2 q3 k.ext.fh fun r ws np ra => h2.grow k (Ex.new np) (Ext.layO k.ext.fh np) r ws np upd_same (k.fresh np).1 ra⟩
section
variable {x : Str} {p : Pos} {a : Expr} {es : List Expr} {id T : String} {r : List V → Hp → VK → Prop}
theorem x_cB {g : List Arg → Option D} {m : M P.B.S (List Arg)} (hc : CallR X (.builtin id) r) (pr : PrN r g) (hm : X.mg x = none) (hv : bootBuiltins x = some (.builtin id)) (ha : XA P X W (a :: es) m) (hg : Gl X x := by rfl) (hn : x ≠ "__name__" := by decide) (hdb : (x == ("__debug__" : Str)) = false := by decide)
    (he : starEach (a :: es) X.env = (false, eval a X.env) :: starEach es X.env := by rfl) (hpl : (backTo pos (starEach es X.env)).any (·.1) = false := by rfl) : XE P X W (.Call (.Name x p) (a :: es) [] pos) (mB g m) :=
  pe_imp (pe_callB hc hg hm hv ha hn hdb he hpl) fun _ _ _ h => im_B pr h
theorem f_cB {g : List Arg → Option (List D)} {m : M P.B.S (List Arg)} (hc : CallR X (.builtin id) r) (pr : PrNF r g) (hm : X.mg x = none) (hv : bootBuiltins x = some (.builtin id)) (ha : XA P X W (a :: es) m) (hg : Gl X x := by rfl) (hn : x ≠ "__name__" := by decide) (hdb : (x == ("__debug__" : Str)) = false := by decide)
    (he : starEach (a :: es) X.env = (false, eval a X.env) :: starEach es X.env := by rfl) (hpl : (backTo pos (starEach es X.env)).any (·.1) = false := by rfl) : XF P X W (.Call (.Name x p) (a :: es) [] pos) (mBF g m) :=
  pe_imp (pe_callB hc hg hm hv ha hn hdb he hpl) fun _ _ _ h => im_BF pr h
theorem x_cT {g : List Arg → Option D} {m : M P.B.S (List Arg)} (hc : CallR X (.type T) r) (pr : PrN r g) (hm : X.mg x = none) (hv : bootBuiltins x = some (.type T)) (ha : XA P X W (a :: es) m) (hg : Gl X x := by rfl) (hn : x ≠ "__name__" := by decide) (hdb : (x == ("__debug__" : Str)) = false := by decide)
    (he : starEach (a :: es) X.env = (false, eval a X.env) :: starEach es X.env := by rfl) (hpl : (backTo pos (starEach es X.env)).any (·.1) = false := by rfl) : XE P X W (.Call (.Name x p) (a :: es) [] pos) (mB g m) :=
  pe_imp (pe_callTy hc hg hm hv ha hn hdb he hpl) fun _ _ _ h => im_B pr h
theorem f_cT {g : List Arg → Option (List D)} {m : M P.B.S (List Arg)} (hc : CallR X (.type T) r) (pr : PrNF r g) (hm : X.mg x = none) (hv : bootBuiltins x = some (.type T)) (ha : XA P X W (a :: es) m) (hg : Gl X x := by rfl) (hn : x ≠ "__name__" := by decide) (hdb : (x == ("__debug__" : Str)) = false := by decide)
    (he : starEach (a :: es) X.env = (false, eval a X.env) :: starEach es X.env := by rfl) (hpl : (backTo pos (starEach es X.env)).any (·.1) = false := by rfl) : XF P X W (.Call (.Name x p) (a :: es) [] pos) (mBF g m) :=
  pe_imp (pe_callTy hc hg hm hv ha hn hdb he hpl) fun _ _ _ h => im_BF pr h
variable {y : Str} {py : Pos}
theorem x_oB (i : Nat) {g : List D → Option D} (hc : CallR X (.builtin id) r) (pr : PrO r g) (hm : X.mg x = none) (hv : bootBuiltins x = some (.builtin id)) (hN : X.N[i]? = some y := by rfl) (hy : Vis X.env.scope y := by first | exact Or.inl rfl | exact Or.inr (Or.inl rfl) | exact Or.inr (Or.inr rfl))
    (hd : (y == ("__debug__" : Str)) = false := by decide) (hcd : (y == ("__classdict__" : Str)) = false := by decide) (hg : Gl X x := by rfl) (hn : x ≠ "__name__" := by decide) (hdb : (x == ("__debug__" : Str)) = false := by decide)
    (he : starEach [.Name y py] X.env = (false, eval (.Name y py) X.env) :: starEach [] X.env := by rfl) (hpl : (backTo pos (starEach [] X.env)).any (·.1) = false := by rfl) : XE P X W (.Call (.Name x p) [.Name y py] [] pos) (mO i g) :=
  pe_imp (pe_callB hc hg hm hv (pa_cons (pe_var hN hy hd hcd) pa_nil he) hn hdb he hpl) fun _ _ _ h => im_O pr h
theorem x_oT (i : Nat) {g : List D → Option D} (hc : CallR X (.type T) r) (pr : PrO r g) (hm : X.mg x = none) (hv : bootBuiltins x = some (.type T)) (hN : X.N[i]? = some y := by rfl) (hy : Vis X.env.scope y := by first | exact Or.inl rfl | exact Or.inr (Or.inl rfl) | exact Or.inr (Or.inr rfl))
    (hd : (y == ("__debug__" : Str)) = false := by decide) (hcd : (y == ("__classdict__" : Str)) = false := by decide) (hg : Gl X x := by rfl) (hn : x ≠ "__name__" := by decide) (hdb : (x == ("__debug__" : Str)) = false := by decide)
    (he : starEach [.Name y py] X.env = (false, eval (.Name y py) X.env) :: starEach [] X.env := by rfl) (hpl : (backTo pos (starEach [] X.env)).any (·.1) = false := by rfl) : XE P X W (.Call (.Name x p) [.Name y py] [] pos) (mO i g) :=
  pe_imp (pe_callTy hc hg hm hv (pa_cons (pe_var hN hy hd hcd) pa_nil he) hn hdb he hpl) fun _ _ _ h => im_O pr h
theorem f_oT (i : Nat) {g : List D → Option (List D)} (hc : CallR X (.type T) r) (pr : PrOF r g) (hm : X.mg x = none) (hv : bootBuiltins x = some (.type T)) (hN : X.N[i]? = some y := by rfl) (hy : Vis X.env.scope y := by first | exact Or.inl rfl | exact Or.inr (Or.inl rfl) | exact Or.inr (Or.inr rfl))
    (hd : (y == ("__debug__" : Str)) = false := by decide) (hcd : (y == ("__classdict__" : Str)) = false := by decide) (hg : Gl X x := by rfl) (hn : x ≠ "__name__" := by decide) (hdb : (x == ("__debug__" : Str)) = false := by decide)
    (he : starEach [.Name y py] X.env = (false, eval (.Name y py) X.env) :: starEach [] X.env := by rfl) (hpl : (backTo pos (starEach [] X.env)).any (·.1) = false := by rfl) : XF P X W (.Call (.Name x p) [.Name y py] [] pos) (mO i g) :=
  pe_imp (pe_callTy hc hg hm hv (pa_cons (pe_var hN hy hd hcd) pa_nil he) hn hdb he hpl) fun _ _ _ h => im_OF pr h
end
/-! which -/
def gLen : List Arg → Option D
  | [.d (.list xs)] => some (.int xs.length)
  | [.d (.tuple xs)] => some (.int xs.length)
  | _ => none
def gAbs : List Arg → Option D
  | [.d (.int i)] => some (.int (if i < 0 then -i else i))
  | _ => none
def gMin2 : List Arg → Option D
  | [.d (.int i), .d (.int j)] => some (.int (if j < i then j else i))
  | _ => none
def gMax2 : List Arg → Option D
  | [.d (.int i), .d (.int j)] => some (.int (if j > i then j else i))
  | _ => none
def gInt : List Arg → Option D
  | [.d (.int i)] => some (.int i)
  | [.d (.bool b)] => some (.int (if b then 1 else 0))
  | _ => none
def gStr : List Arg → Option D
  | [.d (.int i)] => if i.natAbs.log2 < 1920 then some (.str (toString i)) else none
  | _ => none
def toInts : List D → Option (List Int)
  | [] => some []
  | .int i :: r => (toInts r).map (i :: ·)
  | _ => none
theorem toInts_ok : ∀ {ds : List D} {ns : List Int}, toInts ds = some ns → ds = ns.map PyData.int
  | [], ns, h => by cases h; rfl
  | .int i :: r, ns, h => by
    unfold toInts at h
    obtain ⟨ms, h1, h2⟩ := Option.map_eq_some_iff.mp h
    subst h2
    rw [toInts_ok h1]
    rfl
  | .none :: _, _, h => by cases h
  | .bool _ :: _, _, h => by cases h
  | .str _ :: _, _, h => by cases h
  | .list _ :: _, _, h => by cases h
  | .tuple _ :: _, _, h => by cases h
  | .dict _ :: _, _, h => by cases h
theorem toInts_map (ns : List Int) : toInts (ns.map PyData.int) = some ns := by
  induction ns with
  | nil => rfl
  | cons n r ih => rw [List.map_cons]; unfold toInts; rw [ih]; rfl
def gSum : List Arg → Option D
  | [.d (.list xs)] => (toInts xs).map fun ns => .int ns.sum
  | _ => none
def gTupO : List D → Option D := fun xs => some (.tuple xs)
def gTup : List Arg → Option D
  | [.d (.list xs)] => some (.tuple xs)
  | [.d (.tuple xs)] => some (.tuple xs)
  | _ => none
def gLst : List Arg → Option (List D)
  | [.d (.list xs)] => some xs
  | [.d (.tuple xs)] => some xs
  | _ => none
def gLenO : List D → Option D := fun xs => some (.int xs.length)
def rLenS (K : PySem.W.Frag) : List V → Hp → VK → Prop := fun xs H Q => ∃ p ys, xs = [.ref p] ∧ (SqL K H p ys ∨ SqT K H p ys) ∧ Q (.int ys.length) H
theorem p_len (K : PySem.W.Frag) : PrN (rLenS K) gLen := fun B as d vs F H Q h r x q => by
  unfold gLen at h
  split at h
  · cases h
    cases r with
    | d r1 r2 =>
      cases r2
      cases r1 with
      | lst a b => exact ⟨_, _, rfl, .inl (.of (x _ _ a)), by rw [RpA.len b]; exact q _ F H (Ex.refl _) (Ext.refl x) (.int _)⟩
  · cases h
    cases r with
    | d r1 r2 =>
      cases r2
      cases r1 with
      | tup a b => exact ⟨_, _, rfl, .inr (.of (x _ _ a)), by rw [RpA.len b]; exact q _ F H (Ex.refl _) (Ext.refl x) (.int _)⟩
  · cases h
theorem p_lenO (K : PySem.W.Frag) : PrO (rLenS K) gLenO := fun xs d p vs F H Q h hp r x q => by
  unfold gLenO at h
  cases h
  exact ⟨_, _, rfl, .inl (.of hp), by rw [RpA.len r]; exact q _ F H (Ex.refl _) (Ext.refl x) (.int _)⟩
theorem p_abs : PrN (fun xs H Q => ∃ i, xs = [.int i] ∧ Q (.int (if i < 0 then -i else i)) H) gAbs := fun B as d vs F H Q h r x q => by
  unfold gAbs at h
  split at h
  · cases h
    cases r with
    | d r1 r2 => cases r2; cases r1; exact ⟨_, rfl, q _ F H (Ex.refl _) (Ext.refl x) (.int _)⟩
  · cases h
theorem p_min2 : PrN (fun xs H Q => ∃ i j, xs = [.int i, .int j] ∧ Q (.int (if j < i then j else i)) H) gMin2 := fun B as d vs F H Q h r x q => by
  unfold gMin2 at h
  split at h
  · cases h
    cases r with
    | d r1 r2 =>
      cases r2 with
      | d r3 r4 => cases r4; cases r1; cases r3; exact ⟨_, _, rfl, q _ F H (Ex.refl _) (Ext.refl x) (.int _)⟩
  · cases h
theorem p_max2 : PrN (fun xs H Q => ∃ i j, xs = [.int i, .int j] ∧ Q (.int (if j > i then j else i)) H) gMax2 := fun B as d vs F H Q h r x q => by
  unfold gMax2 at h
  split at h
  · cases h
    cases r with
    | d r1 r2 =>
      cases r2 with
      | d r3 r4 => cases r4; cases r1; cases r3; exact ⟨_, _, rfl, q _ F H (Ex.refl _) (Ext.refl x) (.int _)⟩
  · cases h
theorem p_int : PrN (fun xs H Q => (∃ i, xs = [.int i] ∧ Q (.int i) H) ∨ ∃ k, xs = [.bl k] ∧ Q (.int (if k then 1 else 0)) H) gInt := fun B as d vs F H Q h r x q => by
  unfold gInt at h
  split at h
  · cases h
    cases r with
    | d r1 r2 => cases r2; cases r1; exact .inl ⟨_, rfl, q _ F H (Ex.refl _) (Ext.refl x) (.int _)⟩
  · cases h
    cases r with
    | d r1 r2 => cases r2; cases r1; exact .inr ⟨_, rfl, q _ F H (Ex.refl _) (Ext.refl x) (.int _)⟩
  · cases h
theorem p_str : PrN (fun xs H Q => ∃ i, xs = [.int i] ∧ i.natAbs.log2 < 1920 ∧ Q (.str (toString i)) H) gStr := fun B as d vs F H Q h r x q => by
  unfold gStr at h
  split at h
  · split at h
    · rename_i hl
      cases h
      cases r with
      | d r1 r2 => cases r2; cases r1; exact ⟨_, rfl, hl, q _ F H (Ex.refl _) (Ext.refl x) (.str _)⟩
    · cases h
  · cases h
theorem p_sum (K : PySem.W.Frag) : PrN (rSum K) gSum := fun B as d vs F H Q h r x q => by
  unfold gSum at h
  split at h
  · obtain ⟨ns, h1, h2⟩ := Option.map_eq_some_iff.mp h
    have h3 := toInts_ok h1
    subst h2 h3
    cases r with
    | d r1 r2 =>
      cases r2
      cases r1 with
      | lst a b =>
        have e := RpA.ints_inv b
        subst e
        exact ⟨_, ns, rfl, .of (x _ _ a), q _ F H (Ex.refl _) (Ext.refl x) (.int _)⟩
  · cases h
def rTupS (K : PySem.W.Frag) : List V → Hp → VK → Prop := fun xs H Q => ∃ p ys, xs = [.ref p] ∧ ((SqL K H p ys ∧ ∀ l, H l = none → Q (.ref l) (upd H l (.tup ys))) ∨ (SqT K H p ys ∧ Q (.ref p) H))
theorem p_tup (K : PySem.W.Frag) : PrN (rTupS K) gTup := fun B as d vs F H Q h r x q => by
  unfold gTup at h
  split at h
  · cases h
    cases r with
    | d r1 r2 =>
      cases r2
      cases r1 with
      | lst a b => exact ⟨_, _, rfl, .inl ⟨.of (x _ _ a), fun l nl => q _ _ _ (Ex.new nl) (Ext.lay x nl) (.tup upd_same ((Ext.lay x nl).ff.dpa _ _ b))⟩⟩
  · cases h
    cases r with
    | d r1 r2 =>
      cases r2
      cases r1 with
      | tup a b => exact ⟨_, _, rfl, .inr ⟨.of (x _ _ a), q _ F H (Ex.refl _) (Ext.refl x) (.tup a b)⟩⟩
  · cases h
theorem p_tupO (K : PySem.W.Frag) : PrO (rTupS K) gTupO := fun xs d p vs F H Q h hp r x q => by
  unfold gTupO at h
  cases h
  exact ⟨_, _, rfl, .inl ⟨.of hp, fun l nl => q _ _ _ (Ex.new nl) (Ext.lay x nl) (.tup upd_same ((Ext.lay x nl).ff.dpa _ _ r))⟩⟩
def rLstS (K : PySem.W.Frag) : List V → Hp → VK → Prop := fun xs H Q => ∃ p ys, xs = [.ref p] ∧ (SqL K H p ys ∨ SqT K H p ys) ∧ ∀ l, H l = none → Q (.ref l) (upd H l (.lst ys))
theorem p_lst (K : PySem.W.Frag) : PrNF (rLstS K) gLst := fun B as d vs F H Q h r x q => by
  unfold gLst at h
  split at h
  · cases h
    cases r with
    | d r1 r2 =>
      cases r2
      cases r1 with
      | lst a b => exact ⟨_, _, rfl, .inl (.of (x _ _ a)), fun l nl => q l _ nl b⟩
  · cases h
    cases r with
    | d r1 r2 =>
      cases r2
      cases r1 with
      | tup a b => exact ⟨_, _, rfl, .inr (.of (x _ _ a)), fun l nl => q l _ nl b⟩
  · cases h
def gLstO : List D → Option (List D) := fun xs => some xs
theorem p_lstO (K : PySem.W.Frag) : PrOF (rLstS K) gLstO := fun xs d p vs F H Q h hp r x q => by
  unfold gLstO at h
  cases h
  exact ⟨_, _, rfl, .inl (.of hp), fun l nl => q l _ nl r⟩
/-! list(range(n)) -/
def rgOk (a b : Int) : Prop := RgOk a b
@[irreducible] def dec_rgOk (a b : Int) : Decidable (rgOk a b) := by unfold rgOk RgOk; infer_instance
instance (a b : Int) : Decidable (rgOk a b) := dec_rgOk a b
def mLR1 {S : Type} (f : M S D) : M S (List D) := bnd f fun d => match d with
  | .int n => if rgOk 0 n then rt (rngD 0 n.toNat) else stk
  | _ => stk
theorem rg_rp (n : Int) : RpA F (rgV 0 n) (rngD 0 n.toNat) := by
  have z : ∀ (l : List Nat), RpA F (l.map fun i => V.int (0 + (i : Nat))) (l.map fun (i : Nat) => PyData.int (0 + (i : Int))) := fun l => by
    induction l with
    | nil => exact .nil
    | cons a r ih => exact .cons (.int _) ih
  unfold rgV rngD
  rw [Int.sub_zero]
  exact z _
theorem f_listR1 {a : Expr} {f : M P.B.S D} {p p2 pos2 : Pos} (hc : X.calm = true) (hl : X.mg "list" = none) (hr : X.mg "range" = none) (ha : XE P X W a f) (hg : Gl X "list" := by rfl) (hg2 : Gl X "range" := by rfl)
    (na : starEach [a] X.env = (false, eval a X.env) :: starEach [] X.env := by rfl) (na2 : starEach [.Call (.Name "range" p2) [a] [] pos2] X.env = (false, eval (.Call (.Name "range" p2) [a] [] pos2) X.env) :: starEach [] X.env := by rfl) :
    XF P X W (.Call (.Name "list" p) [.Call (.Name "range" p2) [a] [] pos2] [] pos) (mLR1 f) :=
  pe_imp (pe_listRg hc hg hl (prg_1 hg2 hr ha na) na2) fun σ H Q ⟨F, e, k, h⟩ => tX_of k h fun d e1 F1 H1 v k1 s1 r1 h1 => by
    cases r1 with
    | int n =>
      dsimp only at h1
      split at h1
      · rename_i hl
        exact ⟨n, rfl, hl, fun q nq => h1.grow k1 (Ex.new nq) (Ext.layO k1.ext.fh nq) q _ (s1.non nq) upd_same (k1.fresh nq).1 (rg_rp n)⟩
      · exact h1.elim
    | _ => exact h1.elim
end
end Mi
set_option maxHeartbeats 4000000
namespace Mi
open PySem PySem.Spec PyProof.Rows L2

section
variable {P : Pm} {X : Cx} {W : WX} {α β : Type} {e e1 : En P.B.S} {σ : St} {F H F1 H1 : Hp} {pos : Pos} {D : Ends}
/-- the kept-apart list in slot i is changed -/
theorem EOk.mutOb {i : Nat} {xs ys : OD} {p : Addr} {zs : HO} (k : EOk P e σ F H) (h : e.sl[i]? = some (.ob xs)) (hp : σ[i]? = some (some (.ref p))) (r : OdR F zs ys) :
    EOk P { e with sl := e.sl.set i (.ob ys) } σ F (upd H p zs) ∧ Step P e { e with sl := e.sl.set i (.ob ys) } σ F H F (upd H p zs) := by
  obtain ⟨p', vs, q1, q2, q3, q4, q5, q6⟩ := k.ow i xs h
  rw [hp] at q1
  cases q1
  have fh : Ex F (upd H p zs) := fun a o z => by
    have : a ≠ p := fun y => by rw [y, q3] at z; cases z
    rw [upd_ne this]
    exact k.ext.fh a o z
  have kp : ∀ a o, H a = some o → ∃ u, upd H p zs a = some u := fun a o z => by
    by_cases y : a = p
    · subst y; exact ⟨_, upd_same⟩
    · exact ⟨o, by rw [upd_ne y]; exact z⟩
  refine ⟨⟨⟨k.ext.ff, fh, k.ext.nw, fun a o z => ?_⟩, fun a o g1 g2 => ?_, ?_, k.off, by simpa using k.len, fun j d g => ?_, fun j g => ?_, fun j ws g => ?_, fun j j' us ws r g g' => ?_, fun j x g => ?_⟩, ⟨Ex.refl _, fun a o z => .inl ⟨_, z⟩, kp, fun a z => ?_, fun a o g1 g2 g3 => ?_⟩⟩
  · obtain ⟨u, z⟩ := k.ext.kp a o z; exact kp a u z
  · have : a ≠ p := fun y => by rw [y, q4] at g2; cases g2
    rw [upd_ne this]; exact k.fra a o g1 g2
  · refine P.B.loc _ _ _ (fun a o g1 g2 => ?_) k.sto
    have : a ≠ p := fun y => q5 (by rw [← y]; exact g1)
    rw [upd_ne this]; exact g2
  · rcases lget_set g with ⟨rfl, z⟩ | ⟨_, z⟩
    · cases z
    · exact k.sh j d z
  · rcases lget_set g with ⟨rfl, z⟩ | ⟨_, z⟩
    · cases z
    · exact k.tok j z
  · rcases lget_set g with ⟨rfl, z⟩ | ⟨ne, z⟩
    · cases z
      exact ⟨p, zs, hp, upd_same, q3, q4, q5, r⟩
    · obtain ⟨r', vs', w1, w2, w3, w4, w5, w6⟩ := k.ow j ws z
      have : r' ≠ p := fun y => ne (k.sep j i ws xs r' z h w1 (by rw [y]; exact hp))
      exact ⟨r', vs', w1, by rw [upd_ne this]; exact w2, w3, w4, w5, w6⟩
  · have un : ∀ {m : Nat} {us : OD}, (e.sl.set i (.ob ys))[m]? = some (.ob us) → ∃ ws, e.sl[m]? = some (.ob ws) := fun {m us} g => by
      rcases lget_set g with ⟨rfl, z⟩ | ⟨_, z⟩
      · exact ⟨xs, h⟩
      · exact ⟨us, z⟩
    obtain ⟨u1, z1⟩ := un g
    obtain ⟨u2, z2⟩ := un g'
    exact k.sep j j' u1 u2 r z1 z2
  · rcases lget_set g with ⟨rfl, z⟩ | ⟨_, z⟩
    · cases z
    · exact k.ex j x z
  · obtain ⟨j, ws, z1, z2⟩ := z
    rcases lget_set z1 with ⟨rfl, z⟩ | ⟨_, z⟩
    · exact ⟨j, xs, h, z2⟩
    · exact ⟨j, ws, z, z2⟩
  · have : a ≠ p := fun y => g2 ⟨i, xs, h, by rw [y]; exact hp⟩
    rw [upd_ne this]; exact g3
theorem EOk.mut {i : Nat} {xs ys : List Mi.D} {p : Addr} {zs : List V} (k : EOk P e σ F H) (h : e.sl[i]? = some (.ow xs)) (hp : σ[i]? = some (some (.ref p))) (r : RpA F zs ys) :
    EOk P { e with sl := e.sl.set i (.ow ys) } σ F (upd H p (.lst zs)) ∧ Step P e { e with sl := e.sl.set i (.ow ys) } σ F H F (upd H p (.lst zs)) := k.mutOb (ys := .lst ys) (zs := .lst zs) h hp r
def owAt {S : Type} (i : Nat) (e : En S) : Option (List Mi.D) := match e.sl[i]? with
  | some (.ob (.lst xs)) => some xs
  | _ => none
theorem owAt_ok {S : Type} {i : Nat} {e : En S} {xs : List Mi.D} (h : owAt i e = some xs) : e.sl[i]? = some (.ow xs) := by
  unfold owAt at h
  split at h
  · cases h; assumption
  · cases h
def withO {S α : Type} (i : Nat) (m : M S α) : M S α := fun e => match owAt i e with
  | some _ => m e
  | none => .stuck
theorem withO_of {i : Nat} {m : M P.B.S α} {G : α → En P.B.S → Hp → Hp → Prop} (k : EOk P e σ F H) (h : Sat P W e σ F H (withO i m e) G) : ∃ p vs xs, owAt i e = some xs ∧ σ[i]? = some (some (.ref p)) ∧ H p = some (.lst vs) ∧ RpA F vs xs ∧ Sat P W e σ F H (m e) G := by
  unfold withO at h
  cases q : owAt i e with
  | none => rw [q] at h; exact h.elim
  | some xs =>
    rw [q] at h
    obtain ⟨p, vs, q1, q2, _, _, _, q3⟩ := k.owL i xs (owAt_ok q)
    exact ⟨p, vs, xs, rfl, q1, q2, q3, h⟩
/-- methods of lists -/
def PrM (r : V → List V → Hp → VK → Prop) (g : List Mi.D → List Arg → Option (Mi.D × List Mi.D)) : Prop :=
  ∀ (B : Amb) xs as d ys p vs ws (F H : Hp) Q, g xs as = some (d, ys) → H p = some (.lst vs) → RpA F vs xs → ArgsOk B F ws as → Ex F H → (∀ v zs, RpA F zs ys → Rp F v d → Q v (upd H p (.lst zs))) → r (.ref p) ws H Q
def mMeth {S : Type} (i : Nat) (g : List Mi.D → List Arg → Option (Mi.D × List Mi.D)) (m : M S (List Arg)) : M S Mi.D := withO i (bnd m fun as e => match owAt i e with
  | some xs => (match g xs as with
    | some (d, ys) => .ok d { e with sl := e.sl.set i (.ow ys) }
    | none => .stuck)
  | none => .stuck)
theorem im_meth {i : Nat} {r : V → List V → Hp → VK → Prop} {g : List Mi.D → List Arg → Option (Mi.D × List Mi.D)} {m : M P.B.S (List Arg)} (pr : PrM r g) {Q : VK} (h : tX P W (mMeth i g m) σ H Q) : tBM X.K "list" r (tVar i) (tA P W m) σ H Q := by
  obtain ⟨F, e, k, h⟩ := h
  obtain ⟨p, vs, xs, _, q1, q2, q3, h⟩ := withO_of k h
  refine ⟨_, q1, .inl ⟨rfl, vs, .of q2⟩, tA_of k h fun as e1 F1 H1 ws k1 s1 r1 h1 => ?_⟩
  cases z : owAt i e1 with
  | none => rw [z] at h1; exact h1.elim
  | some ys =>
    rw [z] at h1
    dsimp only at h1
    cases y : g ys as with
    | none => rw [y] at h1; exact h1.elim
    | some dz =>
      obtain ⟨d, zs⟩ := dz
      rw [y] at h1
      obtain ⟨p', vs', w1, w2, _, _, _, w6⟩ := k1.owL i ys (owAt_ok z)
      rw [q1] at w1
      cases w1
      refine pr P.B ys as d zs p vs' ws F1 H1 Q y w2 w6 r1 k1.ext.fh fun v us ra rv => ?_
      obtain ⟨k2, s2⟩ := k1.mut (owAt_ok z) q1 ra
      exact h1 _ _ k2 s2 v rv
def mMeth0 {S : Type} (i : Nat) (g : List Mi.D → List Arg → Option (Mi.D × List Mi.D)) : M S Mi.D := mMeth i g mNil
section
variable {x : Str} {p apos : Pos} {a : Expr} {es : List Expr} {name : Str} {id : String} {r : V → List V → Hp → VK → Prop} {g : List Mi.D → List Arg → Option (Mi.D × List Mi.D)}
theorem x_meth (i : Nat) {m : M P.B.S (List Arg)} (slot : PySem.Slot "list" name id) (hty : typeOf (.builtin id) = pure (.type "method_descriptor")) (hr : MtR X id r) (pr : PrM r g) (ha : XA P X W (a :: es) m) (hN : X.N[i]? = some x := by rfl)
    (hy : Vis X.env.scope x := by first | exact Or.inl rfl | exact Or.inr (Or.inl rfl) | exact Or.inr (Or.inr rfl)) (hd : (x == ("__debug__" : Str)) = false := by decide) (hcd : (x == ("__classdict__" : Str)) = false := by decide)
    (hbase : attributeBase (.Name x p) name X.env (eval (.Name x p) X.env) = eval (.Name x p) X.env := by rfl)
    (hfew : ((backTo pos (starEach (a :: es) X.env)).all (fun x => !x.1) && (backToKw pos (keywordEach [] X.env)).all (fun x => x.1.isSome)
      && decide ((a :: es).length + ([] : List Keyword).length + (if ([] : List Keyword).isEmpty then 0 else 1) < 30)) = true := by rfl)
    (hline : (apos.endLine == pos.line) = true := by rfl) (hs : starEach (a :: es) X.env = (false, eval a X.env) :: starEach es X.env := by rfl) (hpl : (backTo pos (starEach es X.env)).any (·.1) = false := by rfl) :
    XE P X W (.Call (.Attribute (.Name x p) name apos) (a :: es) [] pos) (mMeth i g m) :=
  pe_imp (pe_bm PySem.F.plainAttrs_list slot hty hr (pe_var hN hy hd hcd) ha hbase hfew hline hs hpl) fun _ _ _ h => im_meth pr h
theorem x_meth0 (i : Nat) (slot : PySem.Slot "list" name id) (hty : typeOf (.builtin id) = pure (.type "method_descriptor")) (hr : MtR X id r) (pr : PrM r g) (hN : X.N[i]? = some x := by rfl)
    (hy : Vis X.env.scope x := by first | exact Or.inl rfl | exact Or.inr (Or.inl rfl) | exact Or.inr (Or.inr rfl)) (hd : (x == ("__debug__" : Str)) = false := by decide) (hcd : (x == ("__classdict__" : Str)) = false := by decide)
    (hbase : attributeBase (.Name x p) name X.env (eval (.Name x p) X.env) = eval (.Name x p) X.env := by rfl) (hline : (apos.endLine == pos.line) = true := by rfl) :
    XE P X W (.Call (.Attribute (.Name x p) name apos) [] [] pos) (mMeth0 i g) :=
  pe_imp (pe_bm0 PySem.F.plainAttrs_list slot hty hr (pe_var hN hy hd hcd) hbase hline) fun σ H Q h => by
    obtain ⟨v, h1, h2, h3⟩ := im_meth (X := X) pr h
    obtain ⟨F, e, k, h⟩ := h
    obtain ⟨p, vs, xs, z, q1, q2, q3, h⟩ := withO_of k h
    refine ⟨_, q1, .inl ⟨rfl, vs, .of q2⟩, ?_⟩
    have hb : bnd mNil (fun as e => match owAt i e with
      | some xs => (match g xs as with
        | some (d, ys) => .ok d { e with sl := e.sl.set i (.ow ys) }
        | none => .stuck)
      | none => .stuck) e = (match owAt i e with
      | some xs => (match g xs [] with
        | some (d, ys) => (.ok d { e with sl := e.sl.set i (.ow ys) } : Out P.B.S Mi.D)
        | none => .stuck)
      | none => .stuck) := rfl
    rw [hb, z] at h
    dsimp only at h
    cases y : g xs [] with
    | none => rw [y] at h; exact h.elim
    | some dz =>
      obtain ⟨d, zs⟩ := dz
      rw [y] at h
      refine pr P.B xs [] d zs p vs [] F H Q y q2 q3 .nil k.ext.fh fun v us ra rv => ?_
      obtain ⟨k2, s2⟩ := k.mut (owAt_ok z) q1 ra
      exact h _ _ k2 s2 v rv
end
def gAppend : List Mi.D → List Arg → Option (Mi.D × List Mi.D)
  | xs, [.d d] => if xs.length < sizeLine then some (.none, xs ++ [d]) else none
  | _, _ => none
theorem p_append : PrM rAppend gAppend := fun B xs as d ys p vs ws F H Q h hp r ra x q => by
  unfold gAppend at h
  split at h
  · split at h
    · rename_i hl
      cases h
      cases ra with
      | d r1 r2 => cases r2; exact ⟨p, vs, _, rfl, rfl, hp, by rw [RpA.len r]; exact hl, q _ _ (RpA.app r (RpA.one r1)) .non⟩
    · cases h
  · cases h
def gPop : List Mi.D → List Arg → Option (Mi.D × List Mi.D)
  | xs, [] => match xs[xs.length - 1]? with
    | some d => some (d, xs.dropLast)
    | none => none
  | _, _ => none
theorem RpA.dl {F : Hp} : ∀ {vs : List V} {ds : List Mi.D}, RpA F vs ds → RpA F vs.dropLast ds.dropLast
  | [], _, h => by cases h; exact .nil
  | [v], _, h => by
    cases h with
    | cons h1 h2 => cases h2; exact .nil
  | v :: w :: vs, _, h => by
    cases h with
    | cons h1 h2 =>
      cases h2 with
      | cons h3 h4 => exact .cons h1 (RpA.dl (.cons h3 h4))
theorem p_pop : PrM rPop gPop := fun B xs as d ys p vs ws F H Q h hp r ra x q => by
  unfold gPop at h
  split at h
  · split at h
    · rename_i z
      cases h
      cases ra
      obtain ⟨v, h1, h2⟩ := r.get z
      exact ⟨p, vs, v, rfl, rfl, hp, by rw [RpA.len r]; exact h1, q _ _ (RpA.dl r) h2⟩
    · cases h
  · cases h
def okIx (i : Int) : Prop := -(2 ^ 63) ≤ i ∧ i < 2 ^ 63
@[irreducible] def dec_okIx (i : Int) : Decidable (okIx i) := by unfold okIx; infer_instance
instance (i : Int) : Decidable (okIx i) := dec_okIx i
def gPopAt : List Mi.D → List Arg → Option (Mi.D × List Mi.D)
  | xs, [.d (.int i)] => if okIx i then (match seqIndex? i xs.length with
    | some k => (match xs[k]? with
      | some d => some (d, xs.eraseIdx k)
      | none => none)
    | none => none) else none
  | _, _ => none
theorem p_popAt : PrM rPopAt gPopAt := fun B xs as d ys p vs ws F H Q h hp r ra x q => by
  unfold gPopAt at h
  split at h
  · split at h
    · rename_i hl
      split at h
      · rename_i z
        split at h
        · rename_i w
          cases h
          cases ra with
          | d r1 r2 =>
            cases r2; cases r1
            obtain ⟨v, h1, h2⟩ := r.get w
            exact ⟨p, vs, _, _, v, rfl, rfl, hp, hl.1, hl.2, by rw [RpA.len r]; exact z, h1, q _ _ (RpA.erase _ r) h2⟩
        · cases h
      · cases h
    · cases h
  · cases h
/-- x[i] = e, x the kept-apart list of a slot -/
def mSetIx {S : Type} (i : Nat) (fe fi : M S Mi.D) : M S Fl := bnd fe fun d => withO i (bnd fi fun k e => match owAt i e, k with
  | some xs, .int n => (match ixN xs.length n with
    | some j => .ok .nx { e with sl := e.sl.set i (.ow (xs.set j d)) }
    | none => .stuck)
  | _, _ => .stuck)
theorem SatS.withO_of {i : Nat} {m : M P.B.S Fl} (k : EOk P e σ F H) (h : SatS P W F D (withO i m e)) : ∃ p vs xs, owAt i e = some xs ∧ σ[i]? = some (some (.ref p)) ∧ H p = some (.lst vs) ∧ RpA F vs xs ∧ SatS P W F D (m e) := by
  unfold withO at h
  cases q : owAt i e with
  | none => rw [q] at h; exact h.elim
  | some xs =>
    rw [q] at h
    obtain ⟨p, vs, q1, q2, _, _, _, q3⟩ := k.owL i xs (owAt_ok q)
    exact ⟨p, vs, xs, rfl, q1, q2, q3, h⟩
theorem s_setIx (i : Nat) {x : Str} {p spos : Pos} {ix a : Expr} {fe fi : M P.B.S Mi.D} (h : XE P X W a fe) (hi : XE P X W ix fi) (hN : X.N[i]? = some x := by rfl)
    (hy : Vis X.env.scope x := by first | exact Or.inl rfl | exact Or.inr (Or.inl rfl) | exact Or.inr (Or.inr rfl)) (hd : (x == ("__debug__" : Str)) = false := by decide) (hcd : (x == ("__classdict__" : Str)) = false := by decide)
    (ha : ∀ v, assign (.Subscript (.Name x p) ix spos) X.env v = (do
      let ov ← holding [v] (eval (.Name x p) X.env)
      let iv ← holding [v, ov] (eval ix X.env)
      standAt spos
      holding [v, ov, iv] (setItem ov iv v)
      release [v, ov, iv] []) := by intro _; rfl)
    (hs : swapsWithSole [.Subscript (.Name x p) ix spos] a pos.line X.env = pure false := by rfl) (hw : swappedStores [.Subscript (.Name x p) ix spos] a X.env = pure none := by rfl)
    (h1 : (assignEach [.Subscript (.Name x p) ix spos] X.env).map (·.2) = [assign (.Subscript (.Name x p) ix spos) X.env] := by rfl) : XS P X W (.Assign [.Subscript (.Name x p) ix spos] a pos) (mSetIx i fe fi) :=
  ps_imp (ps_asg h (pg_sub (pe_var hN hy hd hcd) hi set_list ha) hs hw h1) fun D σ H ⟨F, e, k, h⟩ => sX_of k h fun d e1 F1 H1 v k1 s1 r1 h1 => by
    obtain ⟨p, vs, xs, _, q1, q2, q3, h1⟩ := h1.withO_of k1
    refine ⟨_, q1, sX_of k1 h1 fun dk e2 F2 H2 vk k2 s2 r2 h2 => ?_⟩
    cases z : owAt i e2 with
    | none => rw [z] at h2; exact h2.elim
    | some ys =>
      rw [z] at h2
      cases r2 with
      | int n =>
        dsimp only at h2
        cases w : ixN ys.length n with
        | none => rw [w] at h2; exact h2.elim
        | some j =>
          rw [w] at h2
          obtain ⟨p', vs', w1, w2, _, _, _, w6⟩ := k2.owL i ys (owAt_ok z)
          rw [q1] at w1
          cases w1
          obtain ⟨k3, s3⟩ := k2.mut (owAt_ok z) q1 (RpA.set (s2.ff.dp _ _ r1) j w6)
          exact ⟨p, vs', n, j, rfl, rfl, w2, by rw [RpA.len w6]; exact w, h2 _ _ _ k3 (Ex.refl _)⟩
      | _ => exact h2.elim
/-- x op= e, a plain name -/
def mAug {S : Type} (i : Nat) (g : Mi.D → Mi.D → Option Mi.D) (f : M S Mi.D) : M S Fl := fun e => match e.sl[i]? with
  | some (.sh x) => bnd f (fun y => bnd (lft (g x y)) (stV i)) e
  | _ => .stuck
theorem s_aug (i : Nat) {x : Str} {op : Operator} {p : Pos} {a : Expr} {f : M P.B.S Mi.D} {ti : TIp} {g : Mi.D → Mi.D → Option Mi.D} (hN : X.N.Nodup) (h : XE P X W a f) (ho : PIp X op ti) (pr : Pr2 ti g) (hi : X.N[i]? = some x := by rfl) (hx : Loc X.env.scope x := by first | exact Or.inl rfl | exact Or.inr rfl)
    (hf : X.fn x = true ∨ X.env.scope.names.lookup x = some .local := by first | exact .inl rfl | exact .inr rfl) : XS P X W (.AugAssign (.Name x p) op a pos) (mAug i g f) :=
  ps_imp (ps_aug hN hi hx h ho hf) fun D σ H ⟨F, e, k, h⟩ => by
    unfold mAug at h
    split at h
    · rename_i d q
      obtain ⟨v, q1, q2⟩ := k.sh i d q
      refine ⟨v, q1, sX_of k h fun dy e1 F1 H1 w k1 s1 r1 h1 => ?_⟩
      obtain ⟨d3, hg, h2⟩ : ∃ d3, g d dy = some d3 ∧ SatS P W F1 D (stV i d3 e1) := by
        unfold bnd lft at h1
        cases y : g d dy with
        | none => rw [y] at h1; exact h1.elim
        | some d3 => rw [y] at h1; exact ⟨d3, rfl, h1⟩
      refine pr d dy d3 v w F1 H1 _ hg (s1.ff.dp _ _ q2) r1 k1.ext.fh fun u F' H' hx x rv => ?_
      exact h2 _ F' H' ((k1.grow hx x).1.put rv) x.ff
    · exact h.elim
def dAddI : Mi.D → Mi.D → Option Mi.D
  | .int a, .int b => some (.int (a + b))
  | _, _ => none
theorem p_ipadd : Pr2 (ipI fun i j => i + j) dAddI := fun d1 d2 d3 v1 v2 F H Q h r1 r2 x q => by
  unfold dAddI at h
  split at h
  · cases h; cases r1; cases r2; exact ⟨_, _, rfl, rfl, q _ F H (Ex.refl _) (Ext.refl x) (.int _)⟩
  · cases h
theorem p_ipsub : Pr2 (ipI fun i j => i - j) dSub := fun d1 d2 d3 v1 v2 F H Q h r1 r2 x q => by
  unfold dSub at h
  split at h
  · cases h; cases r1; cases r2; exact ⟨_, _, rfl, rfl, q _ F H (Ex.refl _) (Ext.refl x) (.int _)⟩
  · cases h

/-! raise -/
def tR (P : Pm) (W : WX) (m : M P.B.S Er) : St → Hp → XK → Prop := fun σ H Q => ∃ F e, EOk P e σ F H ∧ Sat P W e σ F H (m e) fun x _ F1 H1 => ∀ c d, ErOk P.mg F1 c d x → Q c d H1
abbrev XR (P : Pm) (X : Cx) (W : WX) (a : Expr) (m : M P.B.S Er) : Prop := PMk X a (tR P W m)
theorem pmk_imp {X : Cx} {a : Expr} {t u : St → Hp → XK → Prop} (h : PMk X a t) (i : ∀ σ H Q, u σ H Q → t σ H Q) : PMk X a u := fun pins s σ H Q I q => h pins s σ H Q I (i σ H Q q)
def mRaise {S : Type} (m : M S Er) : M S Fl := bnd m fun x e => .err x e
theorem s_raise {a : Expr} {m : M P.B.S Er} (hc : X.calm = true) (tk : Takes X W) (h : XR P X W a m) : XS P X W (.Raise (some a) none pos) (mRaise m) :=
  ps_imp (ps_raise hc tk h) fun D σ H ⟨F, e, k, h⟩ => ⟨F, e, k, Sat.imp h.bnd fun x e1 F1 H1 k1 s1 h1 c d r => h1 c d σ F1 H1 k1 (Ex.refl _) r⟩

/-! an own exception class whose __init__ keeps its arguments by a def -/
structure IS (F0 H0 : Hp) (a C : Addr) (d : Option Addr) (fs : List (Str × V)) (F H : Hp) : Prop where
  ext : Ext F0 H0 F H
  fr : ∀ b o, b ≠ a → H0 b = some o → H b = some o
  ha : H a = some (exo a C d)
  fa : F a = none
  hd : ∀ dx, d = some dx → H dx = some (exd dx fs) ∧ H0 dx = none ∧ dx ≠ a ∧ F dx = none
  h0 : ∃ o, H0 a = some o
  d0 : d = none → fs = []
theorem init_step {K : PySem.W.Frag} {mg : Str → Option Value} {fnp : List Arg → Unit → FO Unit} {E : St → XK} {F0 H0 : Hp} {a C : Addr} {d : Option Addr} {fs : List (Str × V)} {fld : Str} {i : Nat} {v : V} {x : Mi.D} {r : R} (T : OexC K C) (hno : PySem.W.findIn K (.ref C) fld = some none)
    (I : IS F0 H0 a C d fs F H) (h0 : σ[0]? = some (some (.ref a))) (hi : σ[i]? = some (some v)) (rv : Rp F v x) (hf : fnp [.d x] () = .val r ()) (hl : fs.length ≤ 900)
    (k : ∀ dx w F1 H1, IS F0 H0 a C (some dx) ((fld, w) :: fs) F1 H1 → Ex F F1 → Rp F1 w r.d → D.nx σ H1) :
    tOst K fld (tVar 0) (tCallS (spM mg B0 1 fnp) E (tCons (tVar i) tNil)) D σ H := by
  have main : ∀ {F1 H1 : Hp} {w : V}, Ext F H F1 H1 → (∀ b o, H b = some o → H1 b = some o) → Rp F1 w r.d → tVar 0 σ H1 fun x H2 => ∃ a C : Addr, x = .ref a ∧ OexC K C ∧ PySem.W.findIn K (.ref C) fld = some none ∧
      ((H2 a = some (exo a C none) ∧ ∀ dx, H2 dx = none → dx ≠ a → D.nx σ (upd (upd H2 dx (exd dx [(fld, w)])) a (exo a C (some dx)))) ∨
        ∃ (dx : Addr) (fs : List (Str × V)), H2 a = some (exo a C (some dx)) ∧ H2 dx = some (exd dx fs) ∧ fs.length ≤ 900 ∧ D.nx σ (upd H2 dx (exd dx ((fld, w) :: fs)))) := fun {F1 H1 w} x hk rw => by
    have ha := hk _ _ I.ha
    have fa1 : F1 a = none := by
      cases z : F1 a with
      | none => rfl
      | some u =>
        rcases x.nw a u z with ⟨y, q⟩ | q
        · rw [I.fa] at q; cases q
        · rw [I.ha] at q; cases q
    refine ⟨_, h0, a, C, rfl, T, hno, ?_⟩
    cases d with
    | none =>
      refine .inl ⟨ha, fun dx nd ne => ?_⟩
      have e0 : fs = [] := I.d0 rfl
      subst e0
      have fd1 : F1 dx = none := x.fh.back nd
      have Hn : H dx = none := x.non nd
      refine k dx w F1 _ ⟨?_, fun b o nb hb => ?_, upd_same, fa1, fun dx' e => ?_, I.h0, fun e => nomatch e⟩ x.ff rw
      · refine ⟨I.ext.ff.trans x.ff, fun b o z => ?_, (I.ext.trans x).nw, fun b o z => ?_⟩
        · have n1 : b ≠ a := fun y => by rw [y, fa1] at z; cases z
          have n2 : b ≠ dx := fun y => by rw [y, fd1] at z; cases z
          rw [upd_ne n1, upd_ne n2]
          exact x.fh b o z
        · obtain ⟨u, q⟩ := (I.ext.trans x).kp b o z
          by_cases n1 : b = a
          · subst n1; exact ⟨_, upd_same⟩
          · have n2 : b ≠ dx := fun y => by rw [y, nd] at q; cases q
            exact ⟨u, by rw [upd_ne n1, upd_ne n2]; exact q⟩
      · have q := hk _ _ (I.fr b o nb hb)
        have n2 : b ≠ dx := fun y => by rw [y, nd] at q; cases q
        rw [upd_ne nb, upd_ne n2]; exact q
      · cases e
        exact ⟨by rw [upd_ne ne, upd_same], I.ext.non Hn, ne, fd1⟩
    | some dx =>
      obtain ⟨g1, g2, g3, g4⟩ := I.hd dx rfl
      have hdx := hk _ _ g1
      have fd1 : F1 dx = none := by
        cases z : F1 dx with
        | none => rfl
        | some u =>
          rcases x.nw dx u z with ⟨y, q⟩ | q
          · rw [g4] at q; cases q
          · rw [g1] at q; cases q
      refine .inr ⟨dx, fs, ha, hdx, hl, k dx w F1 _ ⟨?_, fun b o nb hb => ?_, by rw [upd_ne (Ne.symm g3)]; exact ha, fa1, fun dx' e => ?_, I.h0, fun e => nomatch e⟩ x.ff rw⟩
      · refine ⟨I.ext.ff.trans x.ff, fun b o z => ?_, (I.ext.trans x).nw, fun b o z => ?_⟩
        · have n2 : b ≠ dx := fun y => by rw [y, fd1] at z; cases z
          rw [upd_ne n2]
          exact x.fh b o z
        · obtain ⟨u, q⟩ := (I.ext.trans x).kp b o z
          by_cases n2 : b = dx
          · subst n2; exact ⟨_, upd_same⟩
          · exact ⟨u, by rw [upd_ne n2]; exact q⟩
      · have n2 : b ≠ dx := fun y => by rw [y, g2] at hb; cases hb
        rw [upd_ne n2]; exact hk _ _ (I.fr b o nb hb)
      · cases e
        exact ⟨upd_same, g2, g3, fd1⟩
  refine ⟨v, hi, rfl, F, [.d x], (), I.ext.fh, fun _ z => (nomatch z), trivial, .d rv .nil, ?_⟩
  rw [hf]
  have keep : ∀ {F1 H1 : Hp}, Pst B0 () F H F1 H1 → ∀ b o, H b = some o → H1 b = some o := fun p b o z => p.fr b o (fun y => nomatch y) z
  cases r with
  | sh d => exact fun F1 H1 p w rw => main p.ext (keep p) rw
  | fr xs =>
    intro F1 H1 p q vs n1 n2 n3 n4
    have ff : Ex F1 (upd F1 q (.lst vs)) := Ex.new n3
    refine main (F1 := upd F1 q (.lst vs)) ⟨p.ext.ff.trans ff, p.ext.fh.updL n2, fun a o z => ?_, p.ext.kp⟩ (keep p) (.lst upd_same (ff.dpa _ _ n4))
    by_cases y : a = q
    · subst y; exact .inr n1
    · rw [upd_ne y] at z; exact p.ext.nw a o z
def zipR {α : Type} : List Str → List α → List (Str × α) → List (Str × α)
  | f :: fs, w :: ws, acc => zipR fs ws ((f, w) :: acc)
  | _, _, acc => acc
/-- what __init__ promises: the fields stand, the last one first -/
def initSp (fnp : List Arg → Unit → FO Unit) (C : Addr) (flds : List Str) : Sp := fun vs H Q _ => ∃ a vals F xs rs, vs = .ref a :: vals ∧ vals.length = flds.length ∧ H a = some (exo a C none) ∧ Ex F H ∧ F a = none ∧ RpA F vals xs ∧
  Paired (fun (x : Mi.D) (r : R) => fnp [.d x] () = .val r ()) xs rs ∧ ∀ dx ws F1 H1, IS F H a C (some dx) (zipR flds ws []) F1 H1 → ws.length = flds.length → RpA F1 ws (rs.map R.d) → Q .non H1
def runAll (fnp : List Arg → Unit → FO Unit) : List Mi.D → Option (List R)
  | [] => some []
  | x :: xs => match fnp [.d x] () with
    | .val r _ => (runAll fnp xs).map (r :: ·)
    | _ => none
theorem runAll_ok {fnp : List Arg → Unit → FO Unit} : ∀ {xs : List Mi.D} {rs : List R}, runAll fnp xs = some rs → Paired (fun (x : Mi.D) (r : R) => fnp [.d x] () = .val r ()) xs rs
  | [], rs, h => by cases h; exact .nil
  | x :: xs, rs, h => by
    unfold runAll at h
    split at h
    · rename_i q
      obtain ⟨ts, h1, h2⟩ := Option.map_eq_some_iff.mp h
      subst h2
      exact .cons q (runAll_ok h1)
    · cases h
def mMk {S : Type} (n : Str) (flds : List Str) (fnp : List Arg → Unit → FO Unit) (m : M S (List Arg)) : M S Er := bnd m fun as => lft ((argD as).bind fun xs => if xs.length = flds.length then (runAll fnp xs).map fun rs => Er.mk n (zipR flds (rs.map R.d) []) else none)
theorem zipR_ok {F : Hp} : ∀ {flds : List Str} {ws : List V} {ds : List Mi.D} {acc : List (Str × V)} {acd : List (Str × Mi.D)}, RpA F ws ds → FsOk F acc acd → FsOk F (zipR flds ws acc) (zipR flds ds acd)
  | [], _, _, _, _, _, h => by unfold zipR; exact h
  | f :: fs, [], _, _, _, r, h => by cases r; unfold zipR; exact h
  | f :: fs, w :: ws, _, _, _, r, h => by
    cases r with
    | cons r1 r2 => unfold zipR; exact zipR_ok r2 (.cons ⟨rfl, r1⟩ h)
theorem r_make {k : Nat} {fd : FuncData} {ps flds : List Str} {x : Str} {C fI : Addr} {p : Pos} {a : Expr} {es : List Expr} {fnp : List Arg → Unit → FO Unit} {m : M P.B.S (List Arg)} (T : OexC X.K C) (iC : PySem.W.findIn X.K (.ref C) "__init__" = some (some (.ref fI))) (tI : PySem.W.typeIn X.K (.ref fI) = some (.type "function"))
    (F1 : FnOk X.prog X.w X.K X.mg X.base (L2.CX X.prog X.w) k fI fd ps (initSp fnp C flds)) (hr : Room (k + 1) X.A) (hb : Binds X.K fd ps []) (hm : X.mg x = some (.ref C)) (hmg : P.mg x = some (.ref C)) (hl : flds.length ≤ 1000) (ha : XA P X W (a :: es) m) (hg : Gl X x := by rfl)
    (hdb : (x == ("__debug__" : Str)) = false := by decide) (he : starEach (a :: es) X.env = (false, eval a X.env) :: starEach es X.env := by rfl) (hpl : (backTo pos (starEach es X.env)).any (·.1) = false := by rfl) : XR P X W (.Call (.Name x p) (a :: es) [] pos) (mMk x flds fnp m) :=
  pmk_imp (pmk_oex T iC tI F1 hr hb .nil passL hg hm ha hdb he hpl) fun σ H Q ⟨F, e, k, h⟩ => tA_of k h fun as e1 F1 H1 vs k1 s1 r1 h1 => by
    obtain ⟨er, hg, h2⟩ := h1.lft
    obtain ⟨xs, hg1, hg2⟩ := Option.bind_eq_some_iff.mp hg
    have ra := argD_ok r1 hg1
    split at hg2
    · rename_i hlen
      obtain ⟨rs, hg3, hg4⟩ := Option.map_eq_some_iff.mp hg2
      subst hg4
      have hvl : vs.length = flds.length := (RpA.len ra).trans hlen
      refine ⟨by rw [hvl]; exact hl, fun q nq => ?_⟩
      obtain ⟨kF, kH0, kO, kW⟩ := k1.fresh nq
      refine ⟨q, vs, F1, xs, rs, by rw [List.append_nil], hvl, upd_same, k1.ext.fh.updR kF, kF, ra, runAll_ok hg3, fun dx ws F2 H2 I2 hws r2 => ⟨rfl, ?_⟩⟩
      obtain ⟨g1, g2, g3, g4⟩ := I2.hd dx rfl
      rw [upd_ne g3] at g2
      refine ⟨dx, _, I2.ha, g1, g2, ?_⟩
      have ex1 : Ex H1 (upd (del H2 q) dx (.xd (zipR flds ws []))) := fun b o z => by
        have n1 : b ≠ q := fun y => by rw [y, nq] at z; cases z
        have n2 : b ≠ dx := fun y => by rw [y, g2] at z; cases z
        rw [upd_ne n2, del_ne n1]
        exact I2.fr b o n1 (by rw [upd_ne n1]; exact z)
      have ff : Ex F2 (upd F2 dx (.xd (zipR flds ws []))) := Ex.new g4
      have x : Ext F1 H1 (upd F2 dx (.xd (zipR flds ws []))) (upd (del H2 q) dx (.xd (zipR flds ws []))) := by
        refine ⟨I2.ext.ff.trans ff, fun b o z => ?_, fun b o z => ?_, fun b o z => ⟨o, ex1 b o z⟩⟩
        · by_cases y : b = dx
          · subst y; rw [upd_same] at z ⊢; exact z
          · rw [upd_ne y] at z ⊢
            have n1 : b ≠ q := fun w => by rw [w, I2.fa] at z; cases z
            rw [del_ne n1]
            exact I2.ext.fh b o z
        · by_cases y : b = dx
          · subst y; exact .inr g2
          · rw [upd_ne y] at z
            rcases I2.ext.nw b o z with w | w
            · exact .inl w
            · have n1 : b ≠ q := fun w => by rw [w, I2.fa] at z; cases z
              rw [upd_ne n1] at w
              exact .inr w
      refine h2.grow k1 ex1 x _ _ ⟨hmg, .inr ⟨dx, _, rfl, upd_same, zipR_ok (ff.dpa _ _ r2) .nil⟩⟩
    · cases hg2
end
end Mi
set_option maxHeartbeats 4000000
namespace Mi
open PySem PySem.Spec PyProof.Rows L2

section
variable {P : Pm} {X : Cx} {W : WX} {α β : Type} {e e1 : En P.B.S} {σ : St} {F H F1 H1 : Hp} {pos : Pos} {D : Ends}

/-- a target leaves no kept-apart list in the slots that it sets -/
def GOk {S : Type} {δ : Type} (l : List Nat) (g : δ → M S Unit) : Prop := ∀ d e u e1, g d e = .ok u e1 → ∀ (i : Nat) (xs : OD), e1.sl[i]? = some (.ob xs) → i ∉ l ∧ e.sl[i]? = some (.ob xs)
theorem go_name {S : Type} (i : Nat) : GOk (S := S) [i] (gN i) := fun d e u e1 h j xs q => by
  unfold gN at h
  cases h
  rcases lget_set q with ⟨_, z⟩ | ⟨ne, z⟩
  · cases z
  · exact ⟨by simp [ne], z⟩
theorem go_nil {S : Type} : GOk (S := S) [] gE := fun d e u e1 h j xs q => by
  unfold gE at h
  cases d with
  | nil => cases h; exact ⟨by simp, q⟩
  | cons _ _ => cases h
theorem go_cons {S : Type} {l1 l2 : List Nat} {g : Mi.D → M S Unit} {k : List Mi.D → M S Unit} (h1 : GOk l1 g) (h2 : GOk l2 k) : GOk (l1 ++ l2) (gC g k) := fun ds e u e2 h j xs q => by
  cases ds with
  | nil => cases h
  | cons d r =>
    unfold gC bnd at h
    dsimp only at h
    cases y : g d e with
    | ok a e1 =>
      rw [y] at h
      obtain ⟨n2, q2⟩ := h2 r e1 u e2 h j xs q
      obtain ⟨n1, q1⟩ := h1 d e a e1 y j xs q2
      exact ⟨fun z => (List.mem_append.mp z).elim n1 n2, q1⟩
    | err _ _ => rw [y] at h; cases h
    | stuck => rw [y] at h; cases h
theorem go_tup {S : Type} {l : List Nat} {k : List Mi.D → M S Unit} (h1 : GOk l k) : GOk l (gT k) := fun d e u e1 h => by
  cases d with
  | tuple ds => exact h1 ds e u e1 h
  | _ => cases h

def wipeE {S : Type} (l : List Nat) (e : En S) : En S := { e with sl := l.foldr (fun v s => s.set v .un) e.sl }
theorem wipeE_st {S : Type} (l : List Nat) (e : En S) : (wipeE l e).st = e.st := rfl
theorem wipeE_ow {S : Type} {l : List Nat} {e : En S} {i : Nat} {xs : OD} (h : (wipeE l e).sl[i]? = some (.ob xs)) : i ∉ l ∧ e.sl[i]? = some (.ob xs) := by
  induction l with
  | nil => exact ⟨by simp, h⟩
  | cons v l ih =>
    have h2 : ((wipeE l e).sl.set v .un)[i]? = some (.ob xs) := h
    rcases lget_set h2 with ⟨_, z⟩ | ⟨ne, z⟩
    · cases z
    · obtain ⟨a, b⟩ := ih z
      exact ⟨by simp [ne, a], b⟩
theorem EOk.wipes {l : List Nat} (k : EOk P e σ F H) : EOk P (wipeE l e) (L2.wipe σ l) F H := by
  induction l with
  | nil => exact k
  | cons v l ih => exact ih.wipe (i := v) (v := none)
theorem wipe_eq {σ τ : St} {l : List Nat} (h : Alike l σ τ) : L2.wipe τ l = L2.wipe σ l := by
  apply List.ext_getElem?
  intro j
  by_cases hj : j ∈ l
  · have z : ∀ (ρ : St), (L2.wipe ρ l)[j]? = if j < ρ.length then some none else none := fun ρ => by
      have : ∀ m : List Nat, j ∈ m → (L2.wipe ρ m)[j]? = if j < ρ.length then some none else none := by
        intro m
        induction m with
        | nil => intro hm; cases hm
        | cons v m ih =>
          intro hm
          show ((L2.wipe ρ m).set v none)[j]? = _
          by_cases hv : v = j
          · subst hv
            by_cases hl : v < ρ.length
            · rw [List.getElem?_set_self (by rw [wipe_length]; exact hl), if_pos hl]
            · rw [if_neg hl, List.getElem?_eq_none (by rw [List.length_set, wipe_length]; omega)]
          · rw [List.getElem?_set_ne hv]
            exact ih (by rcases List.mem_cons.mp hm with q | q; exact (hv q.symm).elim; exact q)
      exact this l hj
    rw [z, z, h.1]
  · rw [wipe_out hj, wipe_out hj]
    exact h.2 j hj
theorem alike_wipe {σ : St} {l : List Nat} : Alike l (L2.wipe σ l) σ := ⟨(wipe_length σ l).symm, fun j hj => (wipe_out hj).symm⟩
def keepS : Slot → Slot
  | .sh d => .sh d
  | _ => .un
def resE {S : Type} (l : List Nat) (e0 e : En S) : En S := { e with sl := l.foldr (fun v s => s.set v (keepS (e0.sl.getD v .un))) e.sl }
theorem resE_at {S : Type} {l : List Nat} {e0 e : En S} {i : Nat} {s : Slot} (h : (resE l e0 e).sl[i]? = some s) : (i ∈ l ∧ s = keepS (e0.sl.getD i .un)) ∨ (i ∉ l ∧ e.sl[i]? = some s) := by
  induction l with
  | nil => exact .inr ⟨by simp, h⟩
  | cons v l ih =>
    have h2 : ((resE l e0 e).sl.set v (keepS (e0.sl.getD v .un)))[i]? = some s := h
    rcases lget_set h2 with ⟨rfl, z⟩ | ⟨ne, z⟩
    · exact .inl ⟨List.mem_cons_self, z⟩
    · rcases ih z with ⟨a, b⟩ | ⟨a, b⟩
      · exact .inl ⟨List.mem_cons_of_mem _ a, b⟩
      · exact .inr ⟨by simp [ne, a], b⟩
theorem resE_len {S : Type} {l : List Nat} {e0 e : En S} : (resE l e0 e).sl.length = e.sl.length := by
  induction l with
  | nil => rfl
  | cons v l ih =>
    have : (resE (v :: l) e0 e).sl = (resE l e0 e).sl.set v (keepS (e0.sl.getD v .un)) := rfl
    rw [this, List.length_set, ih]
/-- back from a block: the slots of its own names as before -/
theorem EOk.unwipe {l : List Nat} {e0 : En P.B.S} {F0 H0 : Hp} (k0 : EOk P e0 σ F0 H0) (k : EOk P e (L2.wipe σ l) F H) (x : Ex F0 F) : EOk P (resE l e0 e) σ F H := by
  have at0 : ∀ {i : Nat} {d : Mi.D}, keepS (e0.sl.getD i .un) = .sh d → e0.sl[i]? = some (.sh d) := fun {i d} h => by
    rw [List.getD_eq_getElem?_getD] at h
    cases q : e0.sl[i]? with
    | none => rw [q] at h; cases h
    | some s =>
      rw [q] at h
      cases s <;> cases h
      rfl
  have no : ∀ {i : Nat} {s : Slot}, keepS (e0.sl.getD i .un) = s → (∃ d, s = .sh d) ∨ s = .un := fun {i s} h => by
    cases q : e0.sl.getD i .un with
    | sh d => rw [q] at h; exact .inl ⟨d, h.symm⟩
    | _ => rw [q] at h; exact .inr h.symm
  refine ⟨k.ext, k.fra, k.sto, k.off, by rw [resE_len, k.len, wipe_length], fun j d h => ?_, fun j h => ?_, fun j xs h => ?_, fun j j' xs ys p h h' g g' => ?_, fun j y h => ?_⟩
  · rcases resE_at h with ⟨_, b⟩ | ⟨a, b⟩
    · obtain ⟨v, q1, q2⟩ := k0.sh j d (at0 b.symm)
      exact ⟨v, q1, x.dp _ _ q2⟩
    · obtain ⟨v, q1, q2⟩ := k.sh j d b
      rw [wipe_out a] at q1
      exact ⟨v, q1, q2⟩
  · rcases resE_at h with ⟨_, b⟩ | ⟨a, b⟩
    · rcases no b.symm with ⟨_, z⟩ | z <;> cases z
    · have q1 := k.tok j b
      rw [wipe_out a] at q1
      exact q1
  · rcases resE_at h with ⟨_, b⟩ | ⟨a, b⟩
    · rcases no b.symm with ⟨_, z⟩ | z <;> cases z
    · obtain ⟨p, vs, q1, q2⟩ := k.ow j xs b
      rw [wipe_out a] at q1
      exact ⟨p, vs, q1, q2⟩
  · rcases resE_at h with ⟨_, b⟩ | ⟨a, b⟩
    · rcases no b.symm with ⟨_, z⟩ | z <;> cases z
    · rcases resE_at h' with ⟨_, b'⟩ | ⟨a', b'⟩
      · rcases no b'.symm with ⟨_, z⟩ | z <;> cases z
      · exact k.sep j j' xs ys p b b' (by rw [wipe_out a]; exact g) (by rw [wipe_out a']; exact g')
  · rcases resE_at h with ⟨_, b⟩ | ⟨a, b⟩
    · rcases no b.symm with ⟨_, z⟩ | z <;> cases z
    · obtain ⟨q1, q2⟩ := k.ex j y b
      rw [wipe_out a] at q1
      exact ⟨q1, q2⟩

/-! comprehensions -/
def lcl {S : Type} (l : List Nat) (g : Mi.D → M S Unit) (t : M S Bool) (f : M S Mi.D) : List Mi.D → M S (List Mi.D)
  | [] => rt []
  | d :: ds => fun e => match g d e with
    | .ok _ e1 => bnd t (fun b => if b = true then bnd f (fun y e3 => bnd (lcl l g t f ds) (fun ys => rt (y :: ys)) (wipeE l e3)) else fun e3 => lcl l g t f ds (wipeE l e3)) e1
    | _ => .stuck
def mLc {S : Type} (l : List Nat) (m : M S (List Mi.D)) (g : Mi.D → M S Unit) (t : M S Bool) (f : M S Mi.D) : M S (List Mi.D) := bnd m fun ds e0 => if ds.length ≤ sizeLine then (match lcl l g t f ds (wipeE l e0) with
  | .ok ys e1 => .ok ys (resE l e0 e1)
  | .err _ _ => .stuck
  | .stuck => .stuck) else .stuck
/-- the state between two turns: what is made so far stands at L -/
structure Lw (P : Pm) (l : List Nat) (e0 : En P.B.S) (σ : St) (F0 H0 : Hp) (L : Addr) (e : En P.B.S) (acc : List Mi.D) (F H : Hp) : Prop where
  ok : EOk P e (L2.wipe σ l) F H
  at_ : ∃ vs, H L = some (.lst vs) ∧ RpA F vs acc
  fL : F L = none
  ff : Ex F0 F
  nw : ∀ a o, F a = some o → (∃ u, F0 a = some u) ∨ H0 a = none ∨ Ow e0 σ a
  kp : ∀ a o, H0 a = some o → ∃ u, H a = some u
  ow : ∀ a, Ow e (L2.wipe σ l) a → Ow e0 σ a
  fr : ∀ a o, a ∉ P.B.O → ¬ Ow e0 σ a → H0 a = some o → H a = some o
theorem EOk.poke {L : Addr} {o u : HO} (k : EOk P e σ F H) (h : H L = some u) (hF : F L = none) (h0 : P.H0 L = none) (hO : L ∉ P.B.O) (hw : ¬ Ow e σ L) : EOk P e σ F (upd H L o) := by
  refine ⟨⟨k.ext.ff, fun a v z => ?_, k.ext.nw, fun a v z => ?_⟩, fun a v g1 g2 => ?_, ?_, k.off, k.len, k.sh, k.tok, fun i xs q => ?_, k.sep, k.ex⟩
  · have : a ≠ L := fun y => by rw [y, hF] at z; cases z
    rw [upd_ne this]; exact k.ext.fh a v z
  · obtain ⟨w, z⟩ := k.ext.kp a v z
    by_cases y : a = L
    · subst y; exact ⟨_, upd_same⟩
    · exact ⟨w, by rw [upd_ne y]; exact z⟩
  · have : a ≠ L := fun y => by rw [y, h0] at g2; cases g2
    rw [upd_ne this]; exact k.fra a v g1 g2
  · refine P.B.loc _ _ _ (fun a v g1 g2 => ?_) k.sto
    have : a ≠ L := fun y => hO (by rw [← y]; exact g1)
    rw [upd_ne this]; exact g2
  · obtain ⟨p, vs, q1, q2, q3⟩ := k.ow i xs q
    have : p ≠ L := fun y => hw ⟨i, xs, q, by rw [← y]; exact q1⟩
    exact ⟨p, vs, q1, by rw [upd_ne this]; exact q2, q3⟩
theorem ow_wipe {l : List Nat} {a : Addr} (h : Ow (wipeE l e) (L2.wipe σ l) a) : Ow e σ a := by
  obtain ⟨i, xs, h1, h2⟩ := h
  obtain ⟨q1, q2⟩ := wipeE_ow h1
  rw [wipe_out q1] at h2
  exact ⟨i, xs, q2, h2⟩
theorem im_lc {l gl : List Nat} {m : M P.B.S (List Mi.D)} {g : Mi.D → M P.B.S Unit} {t : M P.B.S Bool} {f : M P.B.S Mi.D} (hg : GOk gl g) (hsub : ∀ j ∈ gl, j ∈ l) {Q : VK} (h : tF P W (mLc l m g t f) σ H Q) :
    tLc (tI P W m) (tG P gl g) (tT P WF t) (tX P WF f) l σ H Q := by
  obtain ⟨Fa, ea, ka, h⟩ := h
  refine ⟨Fa, ea, ka, Sat.imp h.bnd fun ds e0 F0 H0 k0 s0 h0 J hJ L nL => ?_⟩
  obtain ⟨fL0, hL0, oL0, wL0⟩ := k0.fresh nL
  split at h0
  · rename_i hlen
    cases hl : lcl l g t f ds (wipeE l e0) with
    | err _ _ => rw [hl] at h0; exact h0.elim
    | stuck => rw [hl] at h0; exact h0.elim
    | ok ys e1 =>
      rw [hl] at h0
      refine ⟨fun i mm Hc => mm = ds.length - i ∧ i ≤ ds.length ∧ ∃ F ec acc rest, Lw P l e0 σ F0 H0 L ec acc F Hc ∧ acc.length ≤ i ∧ lcl l g t f (ds.drop i) ec = .ok rest e1 ∧ acc ++ rest = ys, ⟨_, rfl, Nat.zero_le _, F0, wipeE l e0, [], ys, ?_, Nat.le_refl _, hl, rfl⟩, ?_⟩
      · have kw := k0.wipes (l := l)
        refine ⟨(kw.grow (Ex.new nL) (Ext.layO kw.ext.fh nL)).1, ⟨[], upd_same, .nil⟩, fL0, Ex.refl _, fun a o z => .inl ⟨o, z⟩, fun a o z => ⟨o, Ex.new nL a o z⟩, fun a z => ow_wipe z, fun a o _ _ z => Ex.new nL a o z⟩
      · rintro i mm Hc ⟨rfl, hi, F, ec, acc, rest, w, hacc, hr, hy⟩
        obtain ⟨stop, turn⟩ := hJ F Hc w.ff w.ok.ext.fh
        obtain ⟨vs, hvs, rvs⟩ := w.at_
        by_cases hlt : i < ds.length
        · have hd : ds[i]? = some ds[i] := List.getElem?_eq_getElem hlt
          obtain ⟨go, yld⟩ := turn i ds[i] hd
          rw [List.drop_eq_getElem_cons hlt] at hr
          unfold lcl at hr
          cases hgd : g ds[i] ec with
          | err _ _ => rw [hgd] at hr; cases hr
          | stuck => rw [hgd] at hr; cases hr
          | ok u e2 =>
            rw [hgd] at hr
            dsimp only at hr
            refine .inr ⟨go, fun Hn => ∃ F ec acc rest, Lw P l e0 σ F0 H0 L ec acc F Hn ∧ acc.length ≤ i + 1 ∧ lcl l g t f (ds.drop (i + 1)) ec = .ok rest e1 ∧ acc ++ rest = ys, fun Hn q => ⟨ds.length - (i + 1), by omega, rfl, hlt, q⟩, fun x H3 y => ?_⟩
            obtain ⟨F3, hx3, ex3, rx⟩ := yld x H3 y
            obtain ⟨k3, _⟩ := w.ok.grow hx3 ex3
            refine ⟨F3, ec, ds[i], k3, rx, ?_⟩
            rw [hgd]
            intro σ2 k4 al
            have al2 : Alike l (L2.wipe σ l) σ2 := ⟨al.1, fun j hj => al.2 j fun z => hj (hsub j z)⟩
            have ew : L2.wipe σ2 l = L2.wipe σ l := (wipe_eq al2).trans (wipe_eq (alike_wipe (σ := σ) (l := l))).symm
            refine ⟨ew, ?_⟩
            have ow2 : ∀ a, Ow e2 σ2 a → Ow e0 σ a := fun a ⟨j, xs, z1, z2⟩ => by
              obtain ⟨y1, y2⟩ := hg _ _ _ _ hgd j xs z1
              exact w.ow a ⟨j, xs, y2, by rw [← al.2 j y1]; exact z2⟩
            have nw2 : ¬ Ow e2 σ2 L := fun z => wL0 (ow2 L z)
            have f3 : F3 L = none := by
              cases z : F3 L with
              | none => rfl
              | some v =>
                rcases ex3.nw L v z with ⟨v2, q⟩ | q
                · rw [w.fL] at q; cases q
                · rw [hvs] at q; cases q
            cases ht : t e2 with
            | err _ _ => unfold bnd at hr; rw [ht] at hr; cases hr
            | stuck => unfold bnd at hr; rw [ht] at hr; cases hr
            | ok b e3 =>
              have hr2 := hr
              unfold bnd at hr2
              rw [ht] at hr2
              dsimp only at hr2
              refine ⟨F3, e2, k4, ?_⟩
              rw [ht]
              intro F5 H5 k5 s5
              have H5L : H5 L = some (.lst vs) := s5.fr L _ oL0 nw2 (hx3 _ _ hvs)
              have f5 : F5 L = none := by
                cases z : F5 L with
                | none => rfl
                | some v =>
                  rcases s5.nw L v z with ⟨v2, q⟩ | q | q
                  · rw [f3] at q; cases q
                  · rw [hx3 _ _ hvs] at q; cases q
                  · exact (nw2 q).elim
              have kp5 : ∀ a o, H0 a = some o → ∃ u, H5 a = some u := fun a o z => by
                obtain ⟨o1, z1⟩ := w.kp a o z
                exact s5.kp a o1 (hx3 _ _ z1)
              have nw5 : ∀ a o, F5 a = some o → (∃ u, F0 a = some u) ∨ H0 a = none ∨ Ow e0 σ a := fun a o z => by
                have back : ∀ {Hz : Hp}, (∀ a o, H0 a = some o → ∃ u, Hz a = some u) → Hz a = none → H0 a = none := fun kz q => by
                  cases y : H0 a with
                  | none => rfl
                  | some v => obtain ⟨u, y2⟩ := kz a v y; rw [q] at y2; cases y2
                rcases s5.nw a o z with ⟨v, q⟩ | q | q
                · rcases ex3.nw a v q with ⟨v2, q2⟩ | q2
                  · exact w.nw a v2 q2
                  · exact .inr (.inl (back w.kp q2))
                · exact .inr (.inl (back (fun a o z => let ⟨o1, z1⟩ := w.kp a o z; ⟨_, hx3 _ _ z1⟩) q))
                · exact .inr (.inr (ow2 a q))
              have fr5 : ∀ a o, a ∉ P.B.O → ¬ Ow e0 σ a → H0 a = some o → H5 a = some o := fun a o z1 z2 z3 => s5.fr a o z1 (fun q => z2 (ow2 a q)) (hx3 _ _ (w.fr a o z1 z2 z3))
              cases b with
              | false =>
                rw [if_neg Bool.false_ne_true] at hr2
                refine L2.iteF ?_
                refine ⟨F5, wipeE l e3, acc, rest, ⟨?_, ⟨vs, H5L, s5.ff.dpa _ _ (ex3.ff.dpa _ _ rvs)⟩, f5, w.ff.trans (ex3.ff.trans s5.ff), nw5, kp5, fun a z => ?_, fr5⟩, by omega, hr2, hy⟩
                · have := k5.wipes (l := l); rw [ew] at this; exact this
                · rw [← ew] at z; exact ow2 a (s5.ow a (ow_wipe z))
              | true =>
                rw [if_pos rfl] at hr2
                refine L2.iteT ?_
                cases hf : f e3 with
                | err _ _ => rw [hf] at hr2; cases hr2
                | stuck => rw [hf] at hr2; cases hr2
                | ok y e4 =>
                  rw [hf] at hr2
                  dsimp only at hr2
                  cases hn : lcl l g t f (ds.drop (i + 1)) (wipeE l e4) with
                  | err _ _ => rw [hn] at hr2; cases hr2
                  | stuck => rw [hn] at hr2; cases hr2
                  | ok r2 e5 =>
                    rw [hn] at hr2
                    cases hr2
                    refine ⟨F5, e3, k5, ?_⟩
                    rw [hf]
                    intro F6 H6 k6 s6 v rv
                    have nw3 : ¬ Ow e3 σ2 L := fun z => nw2 (s5.ow L z)
                    have H6L : H6 L = some (.lst vs) := s6.fr L _ oL0 nw3 H5L
                    have f6 : F6 L = none := by
                      cases z : F6 L with
                      | none => rfl
                      | some u =>
                        rcases s6.nw L u z with ⟨v2, q⟩ | q | q
                        · rw [f5] at q; cases q
                        · rw [H5L] at q; cases q
                        · exact (nw3 q).elim
                    have ow4 : ∀ a, Ow (wipeE l e4) (L2.wipe σ l) a → Ow e0 σ a := fun a z => by
                      rw [← ew] at z; exact ow2 a (s5.ow a (s6.ow a (ow_wipe z)))
                    refine ⟨vs, H6L, by rw [RpA.len rvs]; omega, F6, wipeE l e4, acc ++ [y], r2, ⟨?_, ⟨vs ++ [v], upd_same, RpA.app (s6.ff.dpa _ _ (s5.ff.dpa _ _ (ex3.ff.dpa _ _ rvs))) (RpA.one rv)⟩, f6, (w.ff.trans (ex3.ff.trans s5.ff)).trans s6.ff, fun a o z => ?_, fun a o z => ?_, ow4, fun a o z1 z2 z3 => ?_⟩, by simp; omega, hn, by rw [← hy]; simp⟩
                    · have kw := k6.wipes (l := l)
                      rw [ew] at kw
                      exact kw.poke H6L f6 hL0 oL0 fun z => wL0 (ow4 L z)
                    · rcases s6.nw a o z with ⟨u, q⟩ | q | q
                      · exact nw5 a u q
                      · refine .inr (.inl ?_)
                        cases y : H0 a with
                        | none => rfl
                        | some u => obtain ⟨u2, y2⟩ := kp5 a u y; rw [q] at y2; cases y2
                      · exact .inr (.inr (ow2 a (s5.ow a q)))
                    · obtain ⟨u, z1⟩ := kp5 a o z
                      obtain ⟨u2, z2⟩ := s6.kp a u z1
                      by_cases n : a = L
                      · subst n; exact ⟨_, upd_same⟩
                      · exact ⟨u2, by rw [upd_ne n]; exact z2⟩
                    · have n : a ≠ L := fun y => by rw [y, nL] at z3; cases z3
                      rw [upd_ne n]
                      exact s6.fr a o z1 (fun q => z2 (ow2 a (s5.ow a q))) (fr5 a o z1 z2 z3)
        · have e : i = ds.length := by omega
          subst e
          rw [List.drop_length] at hr
          cases hr
          refine .inl ⟨stop, ?_⟩
          rw [List.append_nil] at hy
          subst hy
          refine h0 F Hc (k0.unwipe w.ok w.ff) ⟨w.ff, w.nw, w.kp, fun a z => ?_, w.fr⟩ L vs (s0.non nL) hvs w.fL rvs
          obtain ⟨j, xs, z1, z2⟩ := z
          rcases resE_at z1 with ⟨_, q⟩ | ⟨q1, q2⟩
          · unfold keepS at q
            split at q <;> cases q
          · exact w.ow a ⟨j, xs, q2, by rw [wipe_out q1]; exact z2⟩
  · exact h0.elim
/-- the condition of a comprehension's clause -/
def tYesM {S : Type} : M S Bool := rt true
theorem ts_nil : PTs X [] (tT P W tYesM) := ⟨fun pins s σ H Q I ⟨F, e, k, h⟩ => pts_nil.run pins s σ H Q I (h.rt k)⟩
theorem ts_one {c : Expr} {f : M P.B.S Bool} (h : XT P X W c f) : PTs X [c] (tT P W f) := pts_one h
section
variable {elt tg it : Expr} {ifs : List Expr} {scope : Scope} {own : List (Str × Nat)} {gl : List Nat} {m : M P.B.S (List Mi.D)} {g : Mi.D → M P.B.S Unit} {t : M P.B.S Bool} {f : M P.B.S Mi.D}
theorem f_lc (own : List (Str × Nat)) (hc : X.calm = true) (hN : X.N.Nodup) (hi : XI P X W tg it m) (ok : BlkOk X.N X.env.scope scope own)
    (hg : ∀ (s : Shared) (H : Hp) (C : Addr) (cl : List (Str × Addr)) (fp : List Addr), XG P (X.blk s H scope (compEnvC scope cl C X.env) fp) tg gl g)
    (ht : ∀ (s : Shared) (H : Hp) (C : Addr) (cl : List (Str × Addr)) (fp : List Addr), PTs (X.blk s H scope (compEnvC scope cl C X.env) fp) ifs (tT P WF t))
    (he : ∀ (s : Shared) (H : Hp) (C : Addr) (cl : List (Str × Addr)) (fp : List Addr), XE P (X.blk s H scope (compEnvC scope cl C X.env) fp) WF elt f) (gok : GOk gl g) (hsub : ∀ j ∈ gl, j ∈ own.map (·.2) := by decide)
    (hs : ∀ x, foldedSetIterable it X.env x = pure x := by intro _; rfl) : XF P X W (.ListComp elt [⟨tg, it, ifs, 0⟩] scope pos) (mLc (own.map (·.2)) m g t f) :=
  pe_imp (pe_lc hc hN hi ok hg ht he hs) fun _ _ _ h => im_lc gok hsub h
theorem s_setLc (own : List (Str × Nat)) {i : Nat} {y : Str} {py spos : Pos} (hc : X.calm = true) (hN : X.N.Nodup) (hi : XI P X W tg it m) (ok : BlkOk X.N X.env.scope scope own)
    (hg : ∀ (s : Shared) (H : Hp) (C : Addr) (cl : List (Str × Addr)) (fp : List Addr), XG P (X.blk s H scope (compEnvC scope cl C X.env) fp) tg gl g)
    (ht : ∀ (s : Shared) (H : Hp) (C : Addr) (cl : List (Str × Addr)) (fp : List Addr), PTs (X.blk s H scope (compEnvC scope cl C X.env) fp) ifs (tT P WF t))
    (he : ∀ (s : Shared) (H : Hp) (C : Addr) (cl : List (Str × Addr)) (fp : List Addr), XE P (X.blk s H scope (compEnvC scope cl C X.env) fp) WF elt f) (gok : GOk gl g)
    (hsw : swapsWith (.ListComp elt [⟨tg, it, ifs, 0⟩] scope pos) (some (.Name y py)) spos.line X.env = pure true)
    (hy : X.N[i]? = some y := by rfl) (hyl : X.env.scope.names.lookup y = some .local := by rfl) (hsub : ∀ j ∈ gl, j ∈ own.map (·.2) := by decide)
    (hs : ∀ x, foldedSetIterable it X.env x = pure x := by intro _; rfl) : XS P X W (.Assign [.Name y py] (.ListComp elt [⟨tg, it, ifs, 0⟩] scope pos) spos) (mSetF i (mLc (own.map (·.2)) m g t f)) :=
  ps_imp (ps_setLc hc hN hy hyl hsw hi ok hg ht he hs) fun D σ H h => im_lc gok hsub (im_setF h)
end
end
end Mi
set_option maxHeartbeats 4000000
namespace Mi
open PySem PySem.Spec PyProof.Rows L2

section
variable {P : Pm} {X : Cx} {W : WX} {α β : Type} {e e1 : En P.B.S} {σ : St} {F H F1 H1 : Hp} {pos : Pos} {D : Ends}
/-! constants of the module -/
theorem x_gint {x : Str} {i : Int} {t : Tok} (hm : X.mg x = some (.int i t)) (hg : Gl X x := by rfl) (hd : (x == ("__debug__" : Str)) = false := by decide) : XE P X W (.Name x pos) (rt (.int i)) :=
  pe_imp (pe_glob (v := .int i) hg hm ⟨_, rfl⟩ hd) fun σ H Q ⟨F, e, k, h⟩ => h.rt k _ (.int i)
theorem x_gstr {x y : Str} {t : Tok} (hm : X.mg x = some (.str y t)) (hg : Gl X x := by rfl) (hd : (x == ("__debug__" : Str)) = false := by decide) : XE P X W (.Name x pos) (rt (.str y)) :=
  pe_imp (pe_glob (v := .str y) hg hm ⟨_, rfl⟩ hd) fun σ H Q ⟨F, e, k, h⟩ => h.rt k _ (.str y)

/-! isinstance -/
def tyN : Mi.D → String
  | .none => "NoneType"
  | .bool _ => "bool"
  | .int _ => "int"
  | .str _ => "str"
  | .list _ => "list"
  | .tuple _ => "tuple"
  | .dict _ => "dict"
theorem tyX_rp {K : PySem.W.Frag} {v : V} {d : Mi.D} (x : Ex F H) (r : Rp F v d) : TyX K H v (.type (tyN d)) := by
  cases r with
  | non => exact .base .non
  | bl b => exact .base (.bl b)
  | int i => exact .base (.int i)
  | str z => exact .base (.str z)
  | lst a b => exact .base (.lst (x _ _ a))
  | tup a b => exact .base (.tup (x _ _ a))
def dIs (T : String) (d : Mi.D) : Option Mi.D := (kitB (tyN d) T).map .bool
theorem im_isD {T : String} {f : M P.B.S Mi.D} {Q : VK} (h : tX P W (m1 (dIs T) f) σ H Q) : tCB (rIsi X.K) (tCons (tX P W f) (tCons (tC (.ty T)) tNil)) σ H Q := by
  obtain ⟨F, e, k, h⟩ := h
  refine tX_of k h fun d e1 F1 H1 v k1 s1 r1 h1 => ?_
  obtain ⟨d2, hg, h2⟩ := h1.lft
  unfold dIs at hg
  obtain ⟨b, hb, rfl⟩ := Option.map_eq_some_iff.mp hg
  exact ⟨v, .ty T, _, _, b, rfl, .ty T, tyX_rp k1.ext.fh r1, kit_ty hb, h2 F1 H1 k1 Step.refl _ (.bl b)⟩
theorem x_isD {T : String} {y : Str} {a : Expr} {f : M P.B.S Mi.D} {p py : Pos} (hm : X.mg "isinstance" = none) (ha : XE P X W a f) (hy : X.mg y = none) (hv : bootBuiltins y = some (.type T)) (hg : Gl X "isinstance" := by rfl) (hgy : Gl X y := by rfl) (hny : y ≠ "__name__" := by decide) (hdy : (y == ("__debug__" : Str)) = false := by decide)
    (he : starEach [a, .Name y py] X.env = (false, eval a X.env) :: starEach [.Name y py] X.env := by rfl) (he2 : starEach [.Name y py] X.env = (false, eval (.Name y py) X.env) :: starEach [] X.env := by rfl) (hpl : (backTo pos (starEach [.Name y py] X.env)).any (·.1) = false := by rfl) :
    XE P X W (.Call (.Name "isinstance" p) [a, .Name y py] [] pos) (m1 (dIs T) f) :=
  pe_imp (pe_callB call_isi hg hm boot_isinstance (pa_cons ha (pa_cons (pe_bltn hgy hy hv (v := .ty T) rfl hny hdy) pa_nil he2) he) (by decide) (by decide) he hpl) fun _ _ _ h => im_isD h
/-- an exception that a suite holds, asked for its class -/
inductive CsOk (mg : Str → Option Value) : List Str → List V → List Value → Prop
  | nil : CsOk mg [] [] []
  | cons {n : Str} {C : Addr} {ns : List Str} {vs : List V} {us : List Value} (h : mg n = some (.ref C)) (r : CsOk mg ns vs us) : CsOk mg (n :: ns) (.ref C :: vs) (.ref C :: us)
theorem CsOk.cls {mg : Str → Option Value} {ns : List Str} {vs : List V} {us : List Value} (h : CsOk mg ns vs us) : Paired ClsV vs us := by
  induction h with
  | nil => exact .nil
  | cons _ _ ih => exact .cons (.own _) ih
/-- isinstance(e, (A, B, ..)) by a table -/
def isAny (sub : Str → Str → Option Bool) (c : Str) : List Str → Option Bool
  | [] => some false
  | n :: ns => match sub c n with
    | some true => some true
    | some false => isAny sub c ns
    | none => none
def mIsE {S : Type} (sub : Str → Str → Option Bool) (j : Nat) (ns : List Str) : M S Mi.D := fun e => match e.sl[j]? with
  | some (.ex x) => lft ((isAny sub x.cls ns).map .bool) e
  | _ => .stuck
theorem isAny_ok {K : PySem.W.Frag} {mg : Str → Option Value} {sub : Str → Str → Option Bool} (hk : ∀ a n ca cn b, sub a n = some b → mg a = some ca → mg n = some cn → PySem.W.kitOne K ca cn = some b) {c : Str} {cv : Value} (hc : mg c = some cv) {ns : List Str} {vs : List V} {us : List Value}
    (h : CsOk mg ns vs us) {b : Bool} (q : isAny sub c ns = some b) : PySem.W.kitAny K cv us = some b := by
  induction h with
  | nil => cases q; rfl
  | @cons n C ns vs us hn _ ih =>
    unfold isAny at q
    unfold PySem.W.kitAny
    cases z : sub c n with
    | none => rw [z] at q; cases q
    | some t =>
      rw [z] at q
      rw [hk c n cv _ t z hc hn]
      cases t with
      | true => exact q
      | false => exact ih q
structure ExC (K : PySem.W.Frag) (C : Addr) : Prop where
  cl : (PySem.W.clsIn K C).isSome = true
  ga : PySem.W.findIn K (.ref C) "__getattribute__" = some (some (.builtin "BaseException.__getattribute__"))
  gt : ∃ t, PySem.W.findIn K (.ref C) "__getattr__" = some t
  su : PySem.W.subIn K (.ref C) (.type "BaseException") = some true
  ha : PySem.W.findIn K (.ref C) "__class__" = some (some (.builtin "object.__class__"))
  hn : PySem.W.specialIn K (.builtin "object.__class__") "__get__" = some (some (.builtin "getset_descriptor.__get__"))
  ht : PySem.W.takesIn K (.builtin "object.__class__") = some true
  hm : PySem.W.mroIn K C (.type "object") = some true
def rIsX (K : PySem.W.Frag) (a : Addr) (cls : Value) (d : Option Addr) : List V → Hp → VK → Prop := fun xs H Q => ∃ (tp C : Addr) (cs : List V) (us : List Value) (b : Bool), xs = [.ref a, .ref tp] ∧ cls = .ref C ∧ ExC K C ∧ H tp = some (.tup cs) ∧ Paired ClsV cs us ∧
  PySem.W.kitAny K cls us = some b ∧ (d = none ∨ ∃ dd fs, d = some dd ∧ H dd = some (.xd fs)) ∧ Q (.bl b) H
theorem call_isX {a : Addr} {oe : Obj} {cls : Value} {d : Option Addr} {pn : List (Addr × Obj)} (hz : Zc cls d oe) (hf : ∃ vs, oe.data = .fields vs) : CallR (X.suite a ((a, oe) :: pn)) (.builtin "isinstance") (rIsX X.K a cls d) := by
  intro pins s σ H xs us Q I r h
  obtain ⟨tp, C, cs, ws, b, rfl, ec, T, hT, k, e, hd, q⟩ := h
  obtain ⟨u1, u2, rfl, r1, r2⟩ := vals2 r
  cases (show u1 = Value.ref a from r1)
  cases (show u2 = Value.ref tp from r2)
  obtain ⟨_, its, rv, o, h1, h2, n, h3⟩ := (show ObjOk X.prog X.w H s.heap tp (.tup cs) from I.hok tp _ hT)
  have e3 := ClsV.all k rv
  subst e3
  obtain ⟨oc, od, dt, sl⟩ := o
  simp only at h2 h3
  subst h2 h3
  obtain ⟨hget, _⟩ := I.pin (a, oe) (List.mem_append.mpr (.inl List.mem_cons_self))
  obtain ⟨vs, hv⟩ := hf
  subst ec
  obtain ⟨gt, hgt⟩ := T.gt
  have J : ∃ od, PySem.W.InstAt s.heap a oe C od := by
    rcases hd with hd | ⟨dd, fs, hd, hdd⟩
    · refine ⟨none, hget, hz.1, by unfold PySem.W.notCls; rw [hv] <;> rfl, ?_⟩
      rw [hz.2, hd]; trivial
    · have hx : ObjOk X.prog X.w H s.heap dd (.xd fs) := I.hok dd _ hdd
      obtain ⟨mA, hns, _⟩ := hx
      obtain ⟨odd, ho, _⟩ := lookIn_ns hns
      exact ⟨some odd, hget, hz.1, by unfold PySem.W.notCls; rw [hv] <;> rfl, by rw [hz.2, hd]; exact ho⟩
  obtain ⟨od, J⟩ := J
  exact PySem.W.kia_tup (PySem.W.kitx_exc T.cl T.ga hgt T.su T.ha T.hn T.ht T.hm) I.kIn J h1 e (fun z => nomatch z) fun tk => ⟨.bl b, H, I.tok tk, rfl, q⟩
/-- names of classes, from the left -/
inductive NsOk (X : Cx) : List Expr → List Str → List V → Prop
  | nil : NsOk X [] [] []
  | cons {n : Str} {p : Pos} {C : Addr} {es : List Expr} {ns : List Str} {vs : List V} (hm : X.mg n = some (.ref C)) (hg : Gl X n) (hd : (n == ("__debug__" : Str)) = false) (hs : starEach (.Name n p :: es) X.env = (false, eval (.Name n p) X.env) :: starEach es X.env) (r : NsOk X es ns vs) : NsOk X (.Name n p :: es) (n :: ns) (.ref C :: vs)
theorem NsOk.pa {es : List Expr} {ns : List Str} {vs : List V} (h : NsOk X es ns vs) : PA X es (fun _ H Q => Q vs H) := by
  induction h with
  | nil => exact pa_nil
  | cons hm hg hd hs _ ih => exact pa_imp (pa_cons (pe_glob hg hm (v := .ref _) rfl hd) ih hs) fun _ _ _ q => q
theorem NsOk.cs {es : List Expr} {ns : List Str} {vs : List V} (h : NsOk X es ns vs) : ∃ us, CsOk X.mg ns vs us := by
  induction h with
  | nil => exact ⟨_, .nil⟩
  | cons hm _ _ _ _ ih => obtain ⟨us, h⟩ := ih; exact ⟨_, .cons hm h⟩
theorem NsOk.su {es : List Expr} {ns : List Str} {vs : List V} {a : Addr} {pn : List (Addr × Obj)} (h : NsOk X es ns vs) : NsOk (X.suite a pn) es ns vs := by
  induction h with
  | nil => exact .nil
  | cons h1 h2 h3 h4 _ ih => exact .cons h1 h2 h3 h4 ih
theorem x_isE (j : Nat) {sub : Str → Str → Option Bool} {x : Str} {a : Addr} {oe : Obj} {cls : Value} {d : Option Addr} {pn : List (Addr × Obj)} {es : List Expr} {ns : List Str} {vs : List V} {p px pt : Pos} {c : Nat} (hz : Zc cls d oe) (hf : ∃ vs, oe.data = .fields vs) (hmg : X.mg = P.mg)
    (hk : ∀ a n ca cn b, sub a n = some b → P.mg a = some ca → P.mg n = some cn → PySem.W.kitOne X.K ca cn = some b ∧ ∃ C, ca = .ref C ∧ ExC X.K C) (hns : NsOk X es ns vs) (hne : ns ≠ []) (hvl : vs.length ≤ sizeLine) (hm : X.mg "isinstance" = none)
    (hN : X.N[j]? = some x := by rfl) (hv : Vis X.env.scope x := by first | exact Or.inl rfl | exact Or.inr (Or.inl rfl) | exact Or.inr (Or.inr rfl)) (hd : (x == ("__debug__" : Str)) = false := by decide) (hcd : (x == ("__classdict__" : Str)) = false := by decide) (hg : Gl X "isinstance" := by rfl)
    (he : starEach [.Name x px, .Tuple es c pt] X.env = (false, eval (.Name x px) X.env) :: starEach [.Tuple es c pt] X.env := by rfl) (he2 : starEach [.Tuple es c pt] X.env = (false, eval (.Tuple es c pt) X.env) :: starEach [] X.env := by rfl) (hpl : (backTo pos (starEach [.Tuple es c pt] X.env)).any (·.1) = false := by rfl) :
    XE (P.at a cls d) (X.suite a ((a, oe) :: pn)) W (.Call (.Name "isinstance" p) [.Name x px, .Tuple es c pt] [] pos) (mIsE sub j ns) := by
  have hp : PA (X.suite a ((a, oe) :: pn)) es (fun _ H Q => Q vs H) := hns.su.pa
  refine pe_imp (pe_callB (X := X.suite a ((a, oe) :: pn)) (call_isX hz hf) hg hm boot_isinstance (pa_cons (pe_var (X := X.suite a ((a, oe) :: pn)) (i := j) hN hv hd hcd) (pa_cons (pe_tup hp) pa_nil he2) he) (by decide) (by decide) he hpl) fun σ H Q ⟨F, e, k, h⟩ => ?_
  unfold mIsE at h
  cases q : e.sl[j]? with
  | none => rw [q] at h; exact h.elim
  | some s =>
    rw [q] at h
    cases s with
    | ex y =>
      obtain ⟨q1, q2, q3⟩ := k.ex j y q
      dsimp only at h
      obtain ⟨dd, hg2, h2⟩ := h.lft
      obtain ⟨b, hb, rfl⟩ := Option.map_eq_some_iff.mp hg2
      obtain ⟨us, hcs⟩ := hns.cs
      rw [hmg] at hcs
      have hka := isAny_ok (K := X.K) (fun a n ca cn b z1 z2 z3 => (hk a n ca cn b z1 z2 z3).1) q2 hcs hb
      obtain ⟨C, hC, hX⟩ : ∃ C, cls = .ref C ∧ ExC X.K C := by
        cases hcs with
        | nil => exact (hne rfl).elim
        | @cons n Cn ns vs us hn hr =>
          unfold isAny at hb
          cases z : sub y.cls n with
          | none => rw [z] at hb; cases hb
          | some t => exact (hk _ _ _ _ t z q2 hn).2
      refine ⟨_, q1, hvl, fun tp nt => ?_⟩
      obtain ⟨k2, s2⟩ := k.grow (Ex.new nt) (Ext.lay (o := .tup vs) k.ext.fh nt)
      refine ⟨tp, C, vs, us, b, rfl, hC, hX, upd_same, hcs.cls, hka, ?_, h2 _ _ k2 s2 _ (.bl b)⟩
      rcases q3 with ⟨q3, _⟩ | ⟨dx, fs, q3, q4, _⟩
      · exact .inl q3
      · exact .inr ⟨dx, fs, q3, Ex.new nt _ _ (k.ext.fh _ _ q4)⟩
    | _ => exact h.elim
end

/-! defs that are called where no text is being shown -/
structure FnG (Pg : Program) (w : World) (K : PySem.W.Frag) (mg : Str → Option Value) (base : Heap) (CX : CXT) (k : Nat) (f : Addr) (fd : FuncData) (ps : List Str) (sp : Sp) : Prop where
  len : ∀ vs H Q E, sp vs H Q E → vs.length = ps.length
  run : ∀ (A : Around) (outer : List PySem.Env) (s : Shared) (H : Hp) (args : Args) (us : List Value) (vs : List V) (Q : VK) (E : XK), Room k A → A.guards = some [] → Env0 Pg w K mg base A outer s H → BindsTo s fd args (ps.zip us) → Vals vs us →
    sp vs H Q E → codeAny (model Pg w) A (.call (.ref f) args) (CR CX outer Pg w H s Q E) s
theorem FnOk.g {Pg : Program} {w : World} {K : PySem.W.Frag} {mg : Str → Option Value} {base : Heap} {CX : CXT} {k : Nat} {f : Addr} {fd : FuncData} {ps : List Str} {sp : Sp} (h : FnOk Pg w K mg base CX k f fd ps sp) : FnG Pg w K mg base CX k f fd ps sp :=
  ⟨h.len, fun A outer s H args us vs Q E hr _ => h.run A outer s H args us vs Q E hr⟩
theorem fn_miG {Pg : Program} {w : World} {K : PySem.W.Frag} {mg : Str → Option Value} {base : Heap} {x qual : Str} {st : Stmt} {f : Addr} {fd : FuncData} {N ps : List Str} {k : Nat} (Fu : Fun K x qual st f fd) (S : FnScope N ps (defScope st)) (B : Amb) (m : M B.S Fl)
    (hb : ∀ (cdv : Value) (A : Around) (outer : List PySem.Env) (s : Shared) (H : Hp) (E : XK) (F0 : Hp), Room k (cxOf (L2.CX Pg w) Pg w K mg base N qual (defScope st) f cdv A outer s H E).A → (cxOf (L2.CX Pg w) Pg w K mg base N qual (defScope st) f cdv A outer s H E).A.guards = some [] →
      Takes (cxOf (L2.CX Pg w) Pg w K mg base N qual (defScope st) f cdv A outer s H E) (wE E) →
      PassesOwn (model Pg w) (cxOf (L2.CX Pg w) Pg w K mg base N qual (defScope st) f cdv A outer s H E).A (cxOf (L2.CX Pg w) Pg w K mg base N qual (defScope st) f cdv A outer s H E).env (cxOf (L2.CX Pg w) Pg w K mg base N qual (defScope st) f cdv A outer s H E).xe →
      XSs ⟨K, mg, B, F0, H, 0, .none, none⟩ (cxOf (L2.CX Pg w) Pg w K mg base N qual (defScope st) f cdv A outer s H E) (wE E) (defBody st) m) :
    FnG Pg w K mg base (L2.CX Pg w) (k + 1) f fd ps (spM mg B ps.length (fnOf N.length m)) := by
  obtain ⟨oc, od, kV, doc, pm, an, cdv, ct, osl, rfl, lk, hcd⟩ := Fu.ex
  refine ⟨fun vs H Q E h => h.1, fun A outer s H args us vs Q E hr hgu e0 hbd rv hsp => ?_⟩
  have hl : vs.length = ps.length := hsp.1
  have KX : K.In s.heap := e0.mod.kin.keeps fun b o z => (e0.bs b o z).1
  have lim : s.heap.NoLimit := e0.mod.nolimit.keeps fun b o z => (e0.bs b o z).1
  have kinds : ∀ y ∈ ps.zip us, (defScope st).names.lookup y.1 = some .local ∨ ((defScope st).names.lookup y.1 = some .cell ∧ ((cellsFrom (s.heap.objs.size + 1) (defScope st).names []).lookup y.1).isSome = true) := fun ⟨n, v⟩ hy => by
    rcases S.par n (List.of_mem_zip hy).1 with q | q
    · exact .inl q
    · exact .inr ⟨q, PySem.W.cellsFrom_some _ _ _ (.inl q)⟩
  refine codeAny_call_function hr.depth (KX _ _ lk) rfl S.co S.gen rfl (PySem.W.codeRec_of KX hcd) (hbd _ _ _ _ ?_)
  refine wpAny_newFunctionEnv_cells S.kind kinds fun env he s1 x => ?_
  subst he
  refine ⟨lim.keeps x.toInCall.keep, codeAny_func ?_⟩
  obtain ⟨_, F0, as, s0, hx, off, sto, ra, h⟩ := hsp
  have body := hb cdv A outer s H E F0 (hr.deeper _) hgu (takes_of rfl rfl rfl rfl) (passes_of rfl)
  have I : Inv (cxOf (L2.CX Pg w) Pg w K mg base N qual (defScope st) f cdv A outer s H E) [] (L2.start N vs) H s1 := inv_start S hr.hd e0 hl rv x
  have fin : ∀ {e : En B.S} {σ1 : St} {F1 H1 : Hp}, EOk ⟨K, mg, B, F0, H, 0, .none, none⟩ e σ1 F1 H1 → Pst B e.st F0 H F1 H1 := fun k => ⟨k.ext, k.fra, k.sto, k.off⟩
  have sat : tS ⟨K, mg, B, F0, H, 0, .none, none⟩ (wE E) m { nx := fun _ H' => Q .non H', rt := Q } (L2.start N vs) H := by
    refine ⟨F0, _, start_ok hx off sto ra, ?_⟩
    unfold fnOf at h
    cases q : m ⟨as.map Arg.slot ++ List.replicate (N.length - as.length) .un, s0⟩ with
    | stuck => rw [q] at h; exact h
    | err y e => rw [q] at h; exact fun c d σ1 F1 H1 k x r => h F1 H1 (fin k) c d r
    | ok fl e =>
      rw [q] at h
      cases fl with
      | nx => exact fun σ1 F1 H1 k x => h F1 H1 (fin k) _ .non
      | bk => exact h.elim
      | ct => exact h.elim
      | ret r =>
        cases r with
        | sh d => exact fun σ1 F1 H1 k x v rv => h F1 H1 (fin k) v rv
        | fr xs => exact fun σ1 F1 H1 k x p vs => h F1 H1 (fin k) p vs
  refine wpAny_mono (body.run [] s1 (L2.start N vs) H _ I sat) (fun fl s' hs => ?_) fun e s' hs => hs
  cases fl with
  | ret u => obtain ⟨v, σ', H', J, rv, q⟩ := hs; exact ⟨v, H', J.os, J.bare, J.base, J.hok, rv, q⟩
  | next => obtain ⟨σ', H', J, q⟩ := hs; exact ⟨V.non, H', J.os, J.bare, J.base, J.hok, rfl, q⟩
  | brk => obtain ⟨_, _, _, q⟩ := hs; exact q.elim
  | cont => obtain ⟨_, _, _, q⟩ := hs; exact q.elim
section
variable {P : Pm} {X : Cx} {W : WX} {α β : Type} {e e1 : En P.B.S} {σ : St} {F H F1 H1 : Hp} {pos : Pos} {D : Ends}
/-- repr -/
def gRepr : List Arg → Option Mi.D
  | [.d d] => if d.showable = true ∧ d.hasDict = false ∧ d.depth ≤ 60 ∧ d.shown.length ≤ sizeLine then some (.str d.shown) else none
  | _ => none
def rRepr (K : PySem.W.Frag) : List V → Hp → VK → Prop := fun vs H Q => ∃ v d, vs = [v] ∧ Dp K H v d ∧ d.showable = true ∧ d.hasDict = false ∧ d.depth ≤ 60 ∧ d.shown.length ≤ sizeLine ∧ Q (.str d.shown) H
theorem call_reprD {k : Nat} (hr : Room k X.A) (hgu : X.A.guards = some []) : CallR X (.builtin "repr") (rRepr X.K) := by
  intro pins s σ H xs us Q I r h
  obtain ⟨v, d, rfl, hd, h1, h2, h3, h4, q⟩ := h
  obtain ⟨u, rfl, ru⟩ := vals1 r
  obtain ⟨as, rd⟩ := Dp.reads I d v u hd ru
  have hu := hr.un
  have fin : ∀ h' t tk, (∀ b o, s.heap.get? b = some o → h'.get? b = some o) → EP X pins σ Q (.str d.shown t) { s with heap := h', toks := tk } := fun h' t tk k => ⟨V.str d.shown, H, I.kept k, ⟨t, rfl⟩, q⟩
  cases hd with
  | non =>
    cases ru
    exact PySem.P.repr_of_none (fin _ _ _ fun _ _ z => z)
  | bl b =>
    cases ru
    exact PySem.P.repr_of_bool (fin _ _ _ fun _ _ z => z)
  | int i =>
    obtain ⟨t, rfl⟩ := ru
    exact PySem.P.repr_of_int (of_decide_eq_true h1) (fin _ _ _ fun _ _ z => z)
  | str x =>
    obtain ⟨t, rfl⟩ := ru
    exact PySem.P.repr_of_str (fin _ _ _ fun _ _ z => z) h4
  | lst g1 g2 =>
    cases ru
    exact repr_of_reads' rd h1 (fun z => by rw [h2] at z; cases z) hgu (by omega) (fun _ _ z => z) (fun h' t tk k => fin h' t tk k) h4
  | tup g1 g2 =>
    cases ru
    exact repr_of_reads' rd h1 (fun z => by rw [h2] at z; cases z) hgu (by omega) (fun _ _ z => z) (fun h' t tk k => fin h' t tk k) h4
theorem p_repr (K : PySem.W.Frag) : PrN (rRepr K) gRepr := fun B as d vs F H Q h r x q => by
  unfold gRepr at h
  split at h
  · split at h
    · rename_i hl
      cases h
      cases r with
      | d r1 r2 => cases r2; exact ⟨_, _, rfl, (x.dp _ _ r1).dp, hl.1, hl.2.1, hl.2.2.1, hl.2.2.2, q _ F H (Ex.refl _) (Ext.refl x) (.str _)⟩
    · cases h
  · cases h
section
variable {k : Nat} {f : Addr} {fd : FuncData} {ps : List Str} {x : Str} {p : Pos} {a : Expr} {es : List Expr}
theorem run_G {pins : List (Addr × Obj)} {σ : St} {H : Hp} {s : Shared} {Q : VK} {sp : Sp} {E : St → XK} {us : List Value} {vs : List V} (Fk : FnG X.prog X.w X.K X.mg X.base (L2.CX X.prog X.w) k f fd ps sp) (hr : Room k X.A) (hgu : X.A.guards = some []) (hb : Binds X.K fd ps []) (hx : PassesAt (L2.CX X.prog X.w) X σ (E σ))
    (I : Inv X pins σ H s) (r : Vals vs us) (h : sp vs H Q (E σ)) : wpAny (model X.prog X.w) X.A (call (.ref f) us) (EP X pins σ Q) X.xe s := by
  have hl : us.length = ps.length := by rw [← r.length]; exact Fk.len _ _ _ _ h
  have bd : BindsTo s fd ⟨us, []⟩ (ps.zip us) := by
    have := hb s us I.kIn (by rw [List.append_nil]; exact hl)
    rw [List.append_nil] at this
    exact this
  refine wpAny_call (codeAny_mono (Fk.run X.A X.stack s H ⟨us, []⟩ us vs Q (E σ) hr hgu I.env0 bd r h) fun rr s' hq => ?_)
  cases rr with
  | error e => exact hx pins H s e s' I hq
  | ok fl =>
    cases fl with
    | ret u => exact I.after hq
    | next => exact hq.elim
    | brk => exact hq.elim
    | cont => exact hq.elim
theorem pe_callG {sp : Sp} {E : St → XK} {t : TA} (Fk : FnG X.prog X.w X.K X.mg X.base (L2.CX X.prog X.w) k f fd ps sp) (hr : Room k X.A) (hgu : X.A.guards = some []) (hg : Gl X x) (hm : X.mg x = some (.ref f)) (hk : PySem.W.keepIn X.K (.ref f) = true) (hb : Binds X.K fd ps []) (hx : ∀ σ, PassesAt (L2.CX X.prog X.w) X σ (E σ))
    (ha : PA X (a :: es) t) (hdb : (x == ("__debug__" : Str)) = false) (he : starEach (a :: es) X.env = (false, eval a X.env) :: starEach es X.env) (hpl : (backTo pos (starEach es X.env)).any (·.1) = false) :
    PE X (.Call (.Name x p) (a :: es) [] pos) (tCallS sp E t) := by
  refine ⟨fun pins s σ H Q I h => ?_⟩
  refine wpAny_Call_Name_kw (ld_glob I hg hm ?_ hdb)
  exact PySem.W.callWith_K (h₀ := X.base) I.ok.mod.kin hk (thn (ha.run pos pins s σ H _ I h) fun us s1 ⟨vs, H1, I1, r, q⟩ => ⟨I1.kIn, run_G Fk hr hgu hb (hx σ) I1 r q⟩) he hpl
theorem x_callG {n : Nat} {fn : List Arg → P.B.S → FO P.B.S} {g : M P.B.S (List Arg)} (Fk : FnG X.prog X.w X.K X.mg X.base (L2.CX X.prog X.w) k f fd ps (spM P.mg P.B ps.length fn)) (hr : Room k X.A) (hgu : X.A.guards = some []) (hm : X.mg x = some (.ref f)) (hk : PySem.W.keepIn X.K (.ref f) = true) (hb : Binds X.K fd ps []) (tk : Takes X W)
    (ha : XA P X W (a :: es) g) (hg : Gl X x := by rfl) (hdb : (x == ("__debug__" : Str)) = false := by decide) (he : starEach (a :: es) X.env = (false, eval a X.env) :: starEach es X.env := by rfl) (hpl : (backTo pos (starEach es X.env)).any (·.1) = false := by rfl) (hn : ps.length = n := by rfl) :
    XE P X W (.Call (.Name x p) (a :: es) [] pos) (mCall n fn g) :=
  pe_imp (pe_callG Fk hr hgu hg hm hk hb (fun σ => passAt tk σ) ha hdb he hpl) fun σ H Q ⟨F, e, k, h⟩ => tA_of k h fun as e1 F1 H1 vs k1 s1 r1 h1 => by
    subst hn
    by_cases hl : as.length = ps.length
    · rw [if_pos hl] at h1; exact im_call k1 r1 (r1.len.trans hl) h1
    · rw [if_neg hl] at h1; exact h1.elim
end
end
end Mi
set_option maxHeartbeats 4000000
namespace Mi
open PySem PySem.Spec PyProof.Rows L2

section
variable {P : Pm} {X : Cx} {W : WX} {α β : Type} {e e1 : En P.B.S} {σ : St} {F H F1 H1 : Hp} {pos : Pos} {D : Ends}
/-! v in x, x the list of a slot -/
def dInO : Mi.D → List Mi.D → Option Mi.D := fun a bs => dIn a (.list bs)
def dNotInO : Mi.D → List Mi.D → Option Mi.D := fun a bs => dNotIn a (.list bs)
def mInO {S : Type} (g : Mi.D → List Mi.D → Option Mi.D) (i : Nat) (f : M S Mi.D) : M S Mi.D := bnd f fun d e => match lstAt i e with
  | some xs => lft (g d xs) e
  | none => .stuck
/-- a test of a value by a list, which stands anywhere -/
def PrL (r : R2) (g : Mi.D → List Mi.D → Option Mi.D) : Prop := ∀ d xs d3 v p vs (F H : Hp) Q, g d xs = some d3 → Rp F v d → H p = some (.lst vs) → RpA F vs xs → Ex F H → (∀ v F1 H1, Ex H H1 → Ext F H F1 H1 → Rp F1 v d3 → Q v H1) → r v (.ref p) H Q
theorem dpl {K : PySem.W.Frag} {p : Addr} {vs : List V} {xs : List Mi.D} (h : H p = some (.lst vs)) (r : RpA F vs xs) (x : Ex F H) : Dp K H (.ref p) (.list xs) := .lst (.of h) ((x.dpa _ _ r).dpa)
theorem p_inO (K : PySem.W.Frag) : PrL (rInD K) dInO := fun d xs d3 v p vs F H Q h r hp ra x q => by
  unfold dInO dIn at h
  dsimp only at h
  split at h
  · rename_i hl
    cases h
    exact ⟨d, xs, (x.dp _ _ r).dp, dpl hp ra x, hl.1, hl.2, q _ F H (Ex.refl _) (Ext.refl x) (.bl _)⟩
  · cases h
theorem p_notInO (K : PySem.W.Frag) : PrL (rNotInD K) dNotInO := fun d xs d3 v p vs F H Q h r hp ra x q => by
  unfold dNotInO dNotIn at h
  dsimp only at h
  split at h
  · rename_i hl
    cases h
    exact ⟨d, xs, (x.dp _ _ r).dp, dpl hp ra x, hl.1, hl.2, q _ F H (Ex.refl _) (Ext.refl x) (.bl _)⟩
  · cases h
theorem im_inO {i : Nat} {r : R2} {g : Mi.D → List Mi.D → Option Mi.D} {f : M P.B.S Mi.D} (pr : PrL r g) {Q : VK} (h : tX P W (mInO g i f) σ H Q) : tOp r (tX P W f) (tVar i) σ H Q := by
  obtain ⟨F, e, k, h⟩ := h
  refine tX_of k h fun d e1 F1 H1 v k1 s1 r1 h1 => ?_
  cases z : lstAt i e1 with
  | none => rw [z] at h1; exact h1.elim
  | some xs =>
    rw [z] at h1
    obtain ⟨p, vs, q1, q2, q3⟩ := k1.lstAt z
    obtain ⟨d3, hg, h2⟩ := h1.lft
    exact ⟨_, q1, pr d xs d3 v p vs F1 H1 Q hg r1 q2 q3 k1.ext.fh fun v F' H' hx x rv => h2.grow k1 hx x v rv⟩
theorem x_inO (i : Nat) {op : CmpOp} {x : Str} {a : Expr} {p : Pos} {r : R2} {g : Mi.D → List Mi.D → Option Mi.D} {f : M P.B.S Mi.D} (ho : OpR X (compareOp op) r) (pr : PrL r g) (ha : XE P X W a f) (hN : X.N[i]? = some x := by rfl)
    (hv : Vis X.env.scope x := by first | exact Or.inl rfl | exact Or.inr (Or.inl rfl) | exact Or.inr (Or.inr rfl)) (hm : behindInMarks op (.Name x p) = false := by rfl) (hd : (x == ("__debug__" : Str)) = false := by decide) (hcd : (x == ("__classdict__" : Str)) = false := by decide) :
    XE P X W (.Compare a [op] [.Name x p] pos) (mInO g i f) := pe_imp (pe_cmpR ho ha (pe_var hN hv hd hcd) hm) fun _ _ _ h => im_inO pr h
theorem t_inO (i : Nat) {op : CmpOp} {x : Str} {a : Expr} {p : Pos} {r : R2} {g : Mi.D → List Mi.D → Option Mi.D} {f : M P.B.S Mi.D} (ho : OpR X (compareOp op) r) (pr : PrL r g) (ha : XE P X W a f) (hN : X.N[i]? = some x := by rfl)
    (hv : Vis X.env.scope x := by first | exact Or.inl rfl | exact Or.inr (Or.inl rfl) | exact Or.inr (Or.inr rfl)) (hm : behindInMarks op (.Name x p) = false := by rfl) (hd : (x == ("__debug__" : Str)) = false := by decide) (hcd : (x == ("__classdict__" : Str)) = false := by decide) :
    XT P X W (.Compare a [op] [.Name x p] pos) (asB (mInO g i f)) := pt_imp (pt_cmpR ho ha (pe_var hN hv hd hcd) hm) fun σ H Q h => im_tst (t := tOp r (tX P W f) (tVar i)) (fun _ _ _ z => im_inO pr z) σ H Q h
/-! xs * n, a new list -/
def mRep {S : Type} (f1 f2 : M S Mi.D) : M S (List Mi.D) := bnd f1 fun x => bnd f2 fun y => match x, y with
  | .list xs, .int k => if repOk xs k then rt (List.replicate k.toNat xs).flatten else stk
  | _, _ => stk
theorem f_rep {a b : Expr} {f1 f2 : M P.B.S Mi.D} (ha : XE P X W a f1) (hb : XE P X W b f2) : XF P X W (.BinOp a .Mult b pos) (mRep f1 f2) :=
  pe_imp (pe_op op_rep ha hb) fun σ H Q ⟨F, e, k, h⟩ => tX_of k h fun d1 e1 F1 H1 v1 k1 s1 r1 h1 => tX_of k1 h1 fun d2 e2 F2 H2 v2 k2 s2 r2 h2 => by
    have r1' := s2.ff.dp _ _ r1
    cases r2 with
    | int n =>
      cases r1' with
      | lst a1 b1 =>
        dsimp only at h2
        split at h2
        · rename_i hl
          refine ⟨_, _, _, rfl, rfl, k2.ext.fh _ _ a1, hl.1, hl.2.1, by rw [RpA.len b1]; exact hl.2.2, fun p np => ?_⟩
          exact h2.grow k2 (Ex.new np) (Ext.layO k2.ext.fh np) p _ (s1.non (s2.non np)) upd_same (k2.fresh np).1 (RpA.repl b1 _)
        · exact h2.elim
      | _ => exact h2.elim
    | _ => cases r1' <;> exact h2.elim
end

/-! ### the store of the laws: a list of cells and four numbers -/
structure Sto where
  m : Addr → Int × Int
  pos : Int
  tries : Int
  seed : Int
  steps : Int
def cellV (x : Int × Int) : List V := [.int x.1, .int x.2]
def stoV (c : Addr) (s : Sto) : List V := [.ref c, .int s.pos, .int s.tries, .int s.seed, .int s.steps]
structure StoAt (p c : Addr) (cs : List Addr) (s : Sto) (H : Hp) : Prop where
  hp : H p = some (.lst (stoV c s))
  hc : H c = some (.lst (cs.map V.ref))
  hs : ∀ a ∈ cs, H a = some (.lst (cellV (s.m a)))
  n1 : p ≠ c
  n2 : p ∉ cs
  n3 : c ∉ cs
  pz : 0 ≤ s.pos ∧ s.pos ≤ cs.length
  cl : cs.length ≤ 1000
def Bsto (p c : Addr) (cs : List Addr) : Amb where
  S := Sto
  At := StoAt p c cs
  O := p :: c :: cs
  p := p
  loc := fun s H G h z => ⟨h _ _ (by simp) z.hp, h _ _ (by simp) z.hc, fun a ha => h _ _ (by simp [ha]) (z.hs a ha), z.n1, z.n2, z.n3, z.pz, z.cl⟩
  dom := fun s H z a ha => by
    rcases List.mem_cons.mp ha with rfl | ha
    · exact ⟨_, z.hp⟩
    · rcases List.mem_cons.mp ha with rfl | ha
      · exact ⟨_, z.hc⟩
      · exact ⟨_, z.hs a ha⟩
def mixed (number step : Int) : Int :=
  let one := (number * 48271 + step * 69621 + 12345) % 2147483647
  let two := (one * one + step * 16807 + one / 65536 + 7) % 2147483629
  let three := (two * two + two / 8192 + one + step) % 2147483399
  three * 2147483629 + two
def takeL (n : Nat) (count : Int) : List Addr → Int → Sto → Int × Sto
  | [], _, s => (mixed s.seed s.steps % count, { s with pos := n })
  | a :: r, i, s => if (s.m a).1 = 1 ∧ 0 < (s.m a).2 then ((s.m a).2 % count, { s with pos := i, m := fun b => if b = a then ((s.m a).1, (s.m a).2 / count) else s.m b })
    else if (s.m a).1 = 0 ∧ s.tries < 4 then (mixed ((s.m a).2 + i * 7919) (s.tries + 1) % count, { s with pos := i, tries := s.tries + 1 })
    else takeL n count r (i + 1) { s with pos := i, tries := 0 }
def takeF (cs : List Addr) (count : Int) (s : Sto) : Int × Sto := if count < 2 then (0, { s with steps := s.steps + 1 }) else takeL cs.length count (cs.drop s.pos.toNat) s.pos { s with steps := s.steps + 1 }
def m_take (cs : List Addr) : List Arg → Sto → FO Sto := fun as s => match as with
  | [.tok, .d (.int count)] => if count.natAbs.log2 < 9000 then .val (.sh (.int (takeF cs count s).1)) (takeF cs count s).2 else .stuck
  | _ => .stuck
theorem IS.init {F H : Hp} {a C : Addr} (hx : Ex F H) (ha : H a = some (exo a C none)) (fa : F a = none) : IS F H a C none [] F H :=
  ⟨Ext.refl hx, fun _ _ _ h => h, ha, fa, fun _ e => (nomatch e), ⟨_, ha⟩, fun _ => rfl⟩
theorem RpA.n1 {F : Hp} {vs : List V} {x : D} (h : RpA F vs [x]) : ∃ v, vs = [v] ∧ Rp F v x := by
  cases h with
  | cons h1 h2 => cases h2; exact ⟨_, rfl, h1⟩
theorem stuck_ok {Pg : Program} {w : World} {K : PySem.W.Frag} {mg : Str → Option Value} {base : Heap} {CX : CXT} {k : Nat} {f : Addr} {fd : FuncData} {ps : List Str} {B : Amb} : FnOk Pg w K mg base CX k f fd ps (spM mg B ps.length fun _ _ => .stuck) :=
  ⟨fun vs H Q E h => h.1, fun A outer s H args us vs Q E hr he hb hv h => by
    obtain ⟨_, _, _, _, _, _, _, _, z⟩ := h
    exact z.elim⟩
def fuel : Nat := 1000000
theorem init1 {K : PySem.W.Frag} {mg : Str → Option Value} {fnp : List Arg → Unit → FO Unit} {W : St → XK} {C : Addr} {f1 : Str} {vs : List V} {H : Hp} {Q : VK} {E : XK} {N : List Str} (T : OexC K C) (n1 : PySem.W.findIn K (.ref C) f1 = some none) (hN : N.length = 2) (h : initSp fnp C [f1] vs H Q E) :
    tOst K f1 (tVar 0) (tCallS (spM mg B0 1 fnp) W (tCons (tVar 1) tNil)) { nx := fun _ H1 => Q .non H1, rt := Q } (L2.start N vs) H := by
  obtain ⟨a, vals, F, xs, rs, rfl, hl, ha, hx, fa, ra, rr, q⟩ := h
  match vals, hl with
  | [v1], _ =>
    cases ra with
    | cons r1 r2 =>
      cases r2
      cases rr with
      | cons g1 g2 =>
        cases g2
        exact init_step T n1 (IS.init hx ha fa) (by simp [L2.start]) (by simp [L2.start]) r1 g1 (by simp) fun dx w F1 H1 I x rw => q dx [w] F1 H1 I rfl (.cons rw .nil)
theorem init2 {K : PySem.W.Frag} {mg : Str → Option Value} {fnp : List Arg → Unit → FO Unit} {W W2 : St → XK} {C : Addr} {f1 f2 : Str} {vs : List V} {H : Hp} {Q : VK} {E : XK} {N : List Str} (T : OexC K C) (n1 : PySem.W.findIn K (.ref C) f1 = some none) (n2 : PySem.W.findIn K (.ref C) f2 = some none) (hN : N.length = 3) (h : initSp fnp C [f1, f2] vs H Q E) :
    tSeq (tOst K f1 (tVar 0) (tCallS (spM mg B0 1 fnp) W (tCons (tVar 1) tNil))) (tOst K f2 (tVar 0) (tCallS (spM mg B0 1 fnp) W2 (tCons (tVar 2) tNil))) { nx := fun _ H1 => Q .non H1, rt := Q } (L2.start N vs) H := by
  obtain ⟨a, vals, F, xs, rs, rfl, hl, ha, hx, fa, ra, rr, q⟩ := h
  match vals, hl with
  | [v1, v2], _ =>
    cases ra with
    | cons r1 r2 =>
      cases r2 with
      | cons r3 r4 =>
        cases r4
        cases rr with
        | cons g1 g2 =>
          cases g2 with
          | cons g3 g4 =>
            cases g4
            refine init_step T n1 (IS.init hx ha fa) (by simp [L2.start]) (by simp [L2.start]) r1 g1 (by simp) fun dx w F1 H1 I x rw => ?_
            exact init_step T n2 I (by simp [L2.start]) (by simp [L2.start]) (x.dp _ _ r3) g3 (by simp) fun dx w2 F2 H2 I2 x2 rw2 => q dx [w, w2] F2 H2 I2 rfl (.cons (x2.dp _ _ rw) (.cons rw2 .nil))
theorem init3 {K : PySem.W.Frag} {mg : Str → Option Value} {fnp : List Arg → Unit → FO Unit} {W W2 W3 : St → XK} {C : Addr} {f1 f2 f3 : Str} {vs : List V} {H : Hp} {Q : VK} {E : XK} {N : List Str} (T : OexC K C) (n1 : PySem.W.findIn K (.ref C) f1 = some none) (n2 : PySem.W.findIn K (.ref C) f2 = some none) (n3 : PySem.W.findIn K (.ref C) f3 = some none) (hN : N.length = 4) (h : initSp fnp C [f1, f2, f3] vs H Q E) :
    tSeq (tOst K f1 (tVar 0) (tCallS (spM mg B0 1 fnp) W (tCons (tVar 1) tNil))) (tSeq (tOst K f2 (tVar 0) (tCallS (spM mg B0 1 fnp) W2 (tCons (tVar 2) tNil))) (tOst K f3 (tVar 0) (tCallS (spM mg B0 1 fnp) W3 (tCons (tVar 3) tNil)))) { nx := fun _ H1 => Q .non H1, rt := Q } (L2.start N vs) H := by
  obtain ⟨a, vals, F, xs, rs, rfl, hl, ha, hx, fa, ra, rr, q⟩ := h
  match vals, hl with
  | [v1, v2, v3], _ =>
    cases ra with
    | cons r1 r2 =>
      cases r2 with
      | cons r3 r4 =>
        cases r4 with
        | cons r5 r6 =>
          cases r6
          cases rr with
          | cons g1 g2 =>
            cases g2 with
            | cons g3 g4 =>
              cases g4 with
              | cons g5 g6 =>
                cases g6
                refine init_step T n1 (IS.init hx ha fa) (by simp [L2.start]) (by simp [L2.start]) r1 g1 (by simp) fun dx w F1 H1 I x rw => ?_
                refine init_step T n2 I (by simp [L2.start]) (by simp [L2.start]) (x.dp _ _ r3) g3 (by simp) fun dx w2 F2 H2 I2 x2 rw2 => ?_
                exact init_step T n3 I2 (by simp [L2.start]) (by simp [L2.start]) (x2.dp _ _ (x.dp _ _ r5)) g5 (by simp) fun dx w3 F3 H3 I3 x3 rw3 => q dx [w, w2, w3] F3 H3 I3 rfl (.cons (x3.dp _ _ (x2.dp _ _ rw)) (.cons (x3.dp _ _ rw2) (.cons rw3 .nil)))
end Mi
set_option maxHeartbeats 4000000
namespace Mi
open PySem PySem.Spec PyProof.Rows L2
/-! ### a def whose promise is proved by a reading that is chosen behind its first statement -/
theorem pss_ex {ι : Type} {X : Cx} {l : List Stmt} {t : ι → TS} (h : ∀ i, PSs X l (t i)) : PSs X l (fun D σ H => ∃ i, t i D σ H) := ⟨fun pins s σ H D I ⟨i, q⟩ => (h i).run pins s σ H D I q⟩
theorem fnG_by {Pg : Program} {w : World} {K : PySem.W.Frag} {mg : Str → Option Value} {base : Heap} {x qual : Str} {st : Stmt} {f : Addr} {fd : FuncData} {N ps : List Str} {k : Nat} {sp : Sp} (Fu : Fun K x qual st f fd) (S : FnScope N ps (defScope st)) (len : ∀ vs H Q E, sp vs H Q E → vs.length = ps.length)
    (hb : ∀ (cdv : Value) (A : Around) (outer : List PySem.Env) (s : Shared) (H : Hp) (E : XK), Room k (cxOf (L2.CX Pg w) Pg w K mg base N qual (defScope st) f cdv A outer s H E).A → (cxOf (L2.CX Pg w) Pg w K mg base N qual (defScope st) f cdv A outer s H E).A.guards = some [] →
      ∀ vs Q, sp vs H Q E → ∃ t, PSs (cxOf (L2.CX Pg w) Pg w K mg base N qual (defScope st) f cdv A outer s H E) (defBody st) t ∧ t { nx := fun _ H' => Q .non H', rt := Q } (L2.start N vs) H) :
    FnG Pg w K mg base (L2.CX Pg w) (k + 1) f fd ps sp := by
  obtain ⟨oc, od, kV, doc, pm, an, cdv, ct, osl, rfl, lk, hcd⟩ := Fu.ex
  refine ⟨len, fun A outer s H args us vs Q E hr hgu e0 hbd rv hsp => ?_⟩
  have hl : vs.length = ps.length := len _ _ _ _ hsp
  have KX : K.In s.heap := e0.mod.kin.keeps fun b o z => (e0.bs b o z).1
  have lim : s.heap.NoLimit := e0.mod.nolimit.keeps fun b o z => (e0.bs b o z).1
  have kinds : ∀ y ∈ ps.zip us, (defScope st).names.lookup y.1 = some .local ∨ ((defScope st).names.lookup y.1 = some .cell ∧ ((cellsFrom (s.heap.objs.size + 1) (defScope st).names []).lookup y.1).isSome = true) := fun ⟨n, v⟩ hy => by
    rcases S.par n (List.of_mem_zip hy).1 with q | q
    · exact .inl q
    · exact .inr ⟨q, PySem.W.cellsFrom_some _ _ _ (.inl q)⟩
  refine codeAny_call_function hr.depth (KX _ _ lk) rfl S.co S.gen rfl (PySem.W.codeRec_of KX hcd) (hbd _ _ _ _ ?_)
  refine wpAny_newFunctionEnv_cells S.kind kinds fun env he s1 x => ?_
  subst he
  refine ⟨lim.keeps x.toInCall.keep, codeAny_func ?_⟩
  obtain ⟨t, body, sat⟩ := hb cdv A outer s H E (hr.deeper _) hgu vs Q hsp
  have I : Inv (cxOf (L2.CX Pg w) Pg w K mg base N qual (defScope st) f cdv A outer s H E) [] (L2.start N vs) H s1 := inv_start S hr.hd e0 hl rv x
  refine wpAny_mono (body.run [] s1 (L2.start N vs) H _ I sat) (fun fl s' hs => ?_) fun e s' hs => hs
  cases fl with
  | ret u => obtain ⟨v, σ', H', J, rv, q⟩ := hs; exact ⟨v, H', J.os, J.bare, J.base, J.hok, rv, q⟩
  | next => obtain ⟨σ', H', J, q⟩ := hs; exact ⟨V.non, H', J.os, J.bare, J.base, J.hok, rfl, q⟩
  | brk => obtain ⟨_, _, _, q⟩ := hs; exact q.elim
  | cont => obtain ⟨_, _, _, q⟩ := hs; exact q.elim
/-! ### the law called by the harness, with no text being shown -/
section
variable {Pg : Program} {w : World} {K : PySem.W.Frag} {mg mb : Str → Option Value} {s0 : Shared} {fa a : Addr} {us : List Value} {ns : List Int}
def LawEnd (s0 : Shared) (r : Except Value Flow) (s' : Shared) : Prop := r = .ok (.ret (.bool true)) ∧ OldK s0.heap s'.heap ∧ s'.os = s0.os ∧ AllBare s'.gens
/-- from a tracked heap that holds the script at most -/
theorem law_at {mh : Hp} (hk : K.In s0.heap) (n1 : s0.heap.Ns mainGlobals mg) (n2 : s0.heap.Ns builtinsNs mb) (nb : ∀ x : Str, x ≠ "__name__" → mb x = bootBuiltins x) (nl : s0.heap.NoLimit) (g0 : s0.gens = #[])
    (at0 : s0.heap.get? a = some { cls := .type "list", data := .seq us.toArray }) (ho : Only mh) (h1 : HOk Pg w mh s0.heap) (h2 : ∀ b, mh b ≠ none → b = a) (h3 : mh a ≠ none → K.lookup a = none)
    (run : ∀ base : Heap, K.In base → base.Ns mainGlobals mg → Env0 Pg w K mg base callerA [] s0 mh → codeAny (model Pg w) callerA (.call (.ref fa) ⟨[.ref a], []⟩) (CR (L2.CX Pg w) [] Pg w mh s0 (fun v _ => v = .bl true) fun _ _ _ => False) s0) :
    codeAny (model Pg w) callerA (.call (.ref fa) ⟨[.ref a], []⟩) (LawEnd s0) s0 := by
  have un : ∀ b, b ≠ a → mh b = none := fun b nb => Classical.byContradiction fun y => nb (h2 b y)
  have hid : ∀ {b : Addr} {o : Obj}, s0.heap.get? b = some o → mh b = none → (hidT s0.heap mh).get? b = some o := fun y z => hidT_get y z
  have dict : ∀ {b : Addr} {m : Str → Option Value}, s0.heap.Ns b m → (hidT s0.heap mh).Ns b m := fun {b m} ⟨o, es, ep, y, d, r⟩ => by
    refine ⟨o, es, ep, hid y (un b fun z => ?_), d, r⟩
    subst z
    rw [at0] at y
    cases y
    exact (nomatch (show Data.seq us.toArray _ = Data.dict es ep from d))
  have kb : K.In (hidT s0.heap mh) := fun b o y => by
    refine hid (hk b o y) ?_
    by_cases z : b = a
    · subst z
      exact Classical.byContradiction fun q => by rw [h3 q] at y; cases y
    · exact un b z
  obtain ⟨mc, c1, c2⟩ := nl
  refine codeAny_mono (run _ kb (dict n1) ⟨rfl, ⟨kb, dict n1, ⟨mb, dict n2, nb⟩, ⟨mc, dict c1, c2⟩⟩, fun b o y => of_hidT y, Nat.le_of_eq (hidT_size _ _), trivial, fun b y => (nomatch y), h1, .of_eq g0⟩) fun r s' q => ?_
  cases r with
  | error e => obtain ⟨_, _, _, _, _, _, _, _, _, _, _, _, z⟩ := q; exact z.elim
  | ok fl =>
    cases fl with
    | ret u =>
      obtain ⟨v, m2, q1, q2, q3, q4, q5, q6⟩ := q
      have q7 : v = .bl true := q6
      subst q7
      obtain rfl : u = Value.bool true := q5
      refine ⟨rfl, OldK.of_keep fun b o y => ?_, q1, q2⟩
      cases z : mh b with
      | none => exact q3.keep b o y z (fun y => nomatch y) (by simp)
      | some t =>
        obtain y1 | ⟨ob, xs, y1⟩ := ho b
        · exact absurd y1 (by rw [z]; simp)
        · have y2 := q3.frzs b ob _ y1
          have y3 := (h1 b _ y1).1
          rw [y] at y3
          cases y3
          exact (q4 b _ y2).1
    | next => exact q.elim
    | brk => exact q.elim
    | cont => exact q.elim
end
/-- THE END: the law's def keeps its promise wherever no text is being shown -/
theorem walk_g {l : PySem.W.OpenLaw} {n k : Nat} {q : Program} {loose : List Str} {XP : (Str → Option Value) → Heap → Prop} {YP : World → Heap → Prop} {d : DefRec} {K : Params → PySem.W.Frag} {sp : World → Sp} {x : Str} (m1 : l.most = some n) (m2 : n ≤ sizeLine) (m3 : d.params.defaults = [])
    (hr : Room k callerA) (hY : ∀ (w : World) (h : Heap), YP w h → (K w.params).In h)
    (F : ∀ (w : World) (mg : Str → Option Value) (fa : Addr) (h : Heap), (K w.params).In h → h.Ns mainGlobals mg → mg d.name = some (.ref fa) → ∃ fd : FuncData, (∀ (s : Shared) (u : Value), BindsTo s fd ⟨[u], []⟩ [(x, u)]) ∧
      ∀ base : Heap, (K w.params).In base → base.Ns mainGlobals mg → FnG l.prog w (K w.params) mg base (L2.CX l.prog w) k fa fd [x] (sp w))
    (hsp : ∀ (w : World) (H : Hp) (a : Addr) (ns : List Int), ns.length ≤ n → Only H → SqL (K w.params) H a (ns.map V.int) → sp w [.ref a] H (fun v _ => v = .bl true) fun _ _ _ => False) :
    PySem.W.WalkO q loose XP YP l.row.toRowW d [] (fun f vs => PySem.call f vs) := by
  refine Att.attach_call m1 m3 fun w t0 t1 mg mb fa o pm cd doc a us ns G Y ho hd hcd hmg hobj hints hlen hg => ?_
  have hk := hY w _ Y
  have hm : ns.length ≤ sizeLine := Nat.le_trans hlen m2
  have rv := vals_ints hints
  obtain ⟨fd, hb, hF⟩ := F w mg fa _ hk G.T.g hmg
  have go : ∀ mh : Hp, Only mh → SqL (K w.params) mh a (ns.map V.int) → ∀ base : Heap, (K w.params).In base → base.Ns mainGlobals mg → Env0 l.prog w (K w.params) mg base callerA [] t1 mh →
      codeAny (model l.prog w) callerA (.call (.ref fa) ⟨[.ref a], []⟩) (CR (L2.CX l.prog w) [] l.prog w mh t1 (fun v _ => v = .bl true) fun _ _ _ => False) t1 := fun mh y1 y2 base y3 y4 e0 =>
    (hF base y3 y4).run callerA [] t1 mh ⟨[.ref a], []⟩ [.ref a] [.ref a] _ _ hr rfl e0 (hb t1 (.ref a)) (.cons rfl .nil) (hsp w mh a ns hlen y1 y2)
  cases hl : (K w.params).lookup a with
  | some o =>
    have e := hk a o hl
    rw [hobj] at e
    cases e
    exact law_at (mh := fun _ => none) hk G.T.g G.T.b G.T.builtins G.T.nolimit hg hobj (fun _ => .inl rfl) (fun b u z => (nomatch (show (none : Option HO) = some u from z))) (fun b z => absurd rfl z) (fun z => absurd rfl z)
      (go _ (fun _ => .inl rfl) (.inr ⟨_, us.toArray, _, hl, rfl, rfl, rfl, by rw [List.size_toArray, hints.length]; exact hm, by simpa using rv⟩))
  | none =>
    have s1 : (fun b => if b = a then some (HO.frz { cls := .type "list", data := .seq us.toArray } (.lst (ns.map V.int))) else none : Hp) a = some (HO.frz { cls := .type "list", data := .seq us.toArray } (.lst (ns.map V.int))) := if_pos rfl
    have s2 : ∀ b, b ≠ a → (fun b => if b = a then some (HO.frz { cls := .type "list", data := .seq us.toArray } (.lst (ns.map V.int))) else none : Hp) b = none := fun b z => if_neg z
    generalize (fun b => if b = a then some (HO.frz { cls := .type "list", data := .seq us.toArray } (.lst (ns.map V.int))) else none : Hp) = mh at s1 s2
    have y1 : Only mh := fun b => by
      by_cases z : b = a
      · subst z; exact .inr ⟨_, _, s1⟩
      · exact .inl (s2 b z)
    refine law_at (mh := mh) hk G.T.g G.T.b G.T.builtins G.T.nolimit hg hobj y1 (fun b u z => ?_) (fun b z => Classical.byContradiction fun y => z (s2 b y)) (fun _ => hl) (go mh y1 (.inl (.inr ⟨_, s1⟩)))
    by_cases y : b = a
    · subst y
      rw [s1] at z
      cases z
      exact ⟨hobj, by rw [List.length_map]; exact hm, us, _, rv, hobj⟩
    · rw [s2 b y] at z; cases z
end Mi
set_option maxHeartbeats 4000000
namespace Mi
open PySem PySem.Spec PyProof.Rows L2
/-! ### the law's own promise, tables of classes -/
def spLaw (K : PySem.W.Frag) : Sp := fun vs H Q _ => ∃ (a : Addr) (ns : List Int), vs = [.ref a] ∧ SqL K H a (ns.map V.int) ∧ ns.length ≤ 1000 ∧ ∀ H', Q (.bl true) H'
theorem spLaw_len {K : PySem.W.Frag} (vs : List V) (H : Hp) (Q : VK) (E : XK) (h : spLaw K vs H Q E) : vs.length = (["script"] : List Str).length := by
  obtain ⟨a, ns, rfl, _⟩ := h
  rfl
theorem eok_law {K : PySem.W.Frag} {mg : Str → Option Value} {p c : Addr} {cs : List Addr} {s : Sto} {H : Hp} {xa : Addr} {xc : Value} {xd : Option Addr} {σ : St} {n : Nat} (h : StoAt p c cs s H) (hl : σ.length = n + 2) (h1 : σ[1]? = some (some (.ref p))) :
    EOk ⟨K, mg, Bsto p c cs, fun _ => none, H, xa, xc, xd⟩ ⟨.un :: .tok :: List.replicate n .un, s⟩ σ (fun _ => none) H := by
  have look : ∀ (i : Nat) (sl : Slot), (Slot.un :: Slot.tok :: List.replicate n Slot.un)[i]? = some sl → sl = .un ∨ (i = 1 ∧ sl = .tok) := fun i sl z => by
    match i, z with
    | 0, z => exact .inl (Option.some.inj z).symm
    | 1, z => exact .inr ⟨rfl, (Option.some.inj z).symm⟩
    | i + 2, z =>
      have y : (List.replicate n Slot.un)[i]? = some sl := z
      rw [List.getElem?_replicate] at y
      split at y
      · exact .inl (Option.some.inj y).symm
      · cases y
  refine ⟨Ext.refl (fun _ _ z => nomatch z), fun _ _ _ z => z, h, fun _ _ => rfl, by rw [hl]; simp, fun i d z => ?_, fun i z => ?_, fun i xs z => ?_, fun i j xs ys q z => ?_, fun i x z => ?_⟩
  · rcases look i _ z with y | ⟨_, y⟩ <;> cases y
  · rcases look i _ z with y | ⟨rfl, y⟩
    · cases y
    · exact h1
  · rcases look i _ z with y | ⟨_, y⟩ <;> cases y
  · rcases look i _ z with y | ⟨_, y⟩ <;> cases y
  · rcases look i _ z with y | ⟨_, y⟩ <;> cases y
theorem satS_ret {P : Pm} {W : WX} {F : Hp} {D : Ends} {o : Out P.B.S Fl} {d : Mi.D} {e : En P.B.S} (h : o = .ok (.ret (.sh d)) e) (q : ∀ H v F1, Rp F1 v d → D.rt v H) : SatS P W F D o := by
  subst h
  exact fun σ1 F1 H2 _ _ v rv => q _ _ _ rv
def subOf (t : List (Str × Str × Bool)) : Str → Str → Option Bool := fun a b => (t.find? fun x => x.1 == a && x.2.1 == b).map (·.2.2)
theorem subOf_mem {t : List (Str × Str × Bool)} {a b : Str} {v : Bool} (h : subOf t a b = some v) : (a, b, v) ∈ t := by
  unfold subOf at h
  obtain ⟨⟨x, y, z⟩, h1, h2⟩ := Option.map_eq_some_iff.mp h
  have m := List.mem_of_find?_eq_some h1
  have e := List.find?_some h1
  obtain ⟨e1, e2⟩ := Bool.and_eq_true_iff.mp e
  have e1 := eq_of_beq e1
  have e2 := eq_of_beq e2
  dsimp only at e1 e2 h2
  subst e1 e2 h2
  exact m
theorem kit_ref {K : PySem.W.Frag} {C1 C2 : Addr} {b : Bool} (h2 : PySem.W.isClsIn K C2 = true) (h3 : PySem.W.typeIn K (.ref C2) = some (.type "type")) (h4 : PySem.W.subIn K (.ref C1) (.ref C2) = some b) (h5 : C1 = C2 → b = true) : PySem.W.kitOne K (.ref C1) (.ref C2) = some b := by
  unfold PySem.W.kitOne
  split
  · rename_i h
    have e := eq_of_beq h
    cases e
    rw [h5 rfl]
  · show (if ((PySem.W.clsIn K C2).isSome && PySem.W.typeIn K (.ref C2) == some (.type "type")) = true then PySem.W.subIn K (.ref C1) (.ref C2) else none) = some b
    have e2 : ((PySem.W.clsIn K C2).isSome && PySem.W.typeIn K (.ref C2) == some (.type "type")) = true := by
      have h2' : (PySem.W.clsIn K C2).isSome = true := h2
      rw [h2', h3]; rfl
    rw [if_pos e2]
    exact h4
@[irreducible] def m__law_take (cs : List Addr) : List Arg → Sto → FO Sto := m_take cs
theorem initSp_len {fnp : List Arg → Unit → FO Unit} {C : Addr} {flds : List Str} {vs : List V} {H : Hp} {Q : VK} {E : XK} (h : initSp fnp C flds vs H Q E) : vs.length = flds.length + 1 := by
  obtain ⟨a, vals, F, xs, rs, rfl, hl, _⟩ := h
  rw [List.length_cons, hl]
/-! ### the store's defs, read by hand -/
def spMixed : Sp := fun vs H Q _ => ∃ n s : Int, vs = [.int n, .int s] ∧ Q (.int (mixed n s)) H
/-- what a def of the store leaves as it was -/
structure Fr (O : List Addr) (H H1 : Hp) : Prop where
  fr : ∀ a o, a ∉ O → H a = some o → H1 a = some o
  kp : ∀ a o, H a = some o → ∃ u, H1 a = some u
  bk : ∀ a, a ∉ O → H1 a = H a
theorem Fr.refl {O : List Addr} {H : Hp} : Fr O H H := ⟨fun _ _ _ h => h, fun _ o h => ⟨o, h⟩, fun _ _ => rfl⟩
theorem Fr.upd {O : List Addr} {H H1 : Hp} {a : Addr} {o : HO} (f : Fr O H H1) (h : a ∈ O) : Fr O H (upd H1 a o) := by
  refine ⟨fun b u nb hb => ?_, fun b u hb => ?_, fun b nb => ?_⟩
  · rw [upd_ne (fun z : b = a => nb (z ▸ h))]; exact f.fr b u nb hb
  · by_cases z : b = a
    · subst z; exact ⟨_, upd_same⟩
    · rw [upd_ne z]; exact f.kp b u hb
  · rw [upd_ne (fun z : b = a => nb (z ▸ h))]; exact f.bk b nb
theorem Fr.pst {B : Amb} {s1 : B.S} {F H H1 : Hp} (f : Fr B.O H H1) (hx : Ex F H) (off : ∀ a ∈ B.O, F a = none) (h : B.At s1 H1) : Pst B s1 F H F H1 := by
  refine ⟨⟨Ex.refl _, fun b o hb => ?_, fun b o hb => .inl ⟨_, hb⟩, f.kp⟩, f.fr, h, off⟩
  refine f.fr b o (fun z => ?_) (hx b o hb)
  rw [off b z] at hb; cases hb
theorem StoAt.st {p c : Addr} {cs : List Addr} {s s' : Sto} {H : Hp} (h : StoAt p c cs s H) (hm : s'.m = s.m) (hp : 0 ≤ s'.pos ∧ s'.pos ≤ cs.length) : StoAt p c cs s' (upd H p (.lst (stoV c s'))) := by
  refine ⟨upd_same, by rw [upd_ne (Ne.symm h.n1)]; exact h.hc, fun a ha => ?_, h.n1, h.n2, h.n3, hp, h.cl⟩
  rw [upd_ne (fun z : a = p => h.n2 (z ▸ ha)), hm]; exact h.hs a ha
theorem StoAt.cell {p c a : Addr} {cs : List Addr} {s : Sto} {H : Hp} {x : Int × Int} (h : StoAt p c cs s H) (ha : a ∈ cs) : StoAt p c cs { s with m := fun b => if b = a then x else s.m b } (upd H a (.lst (cellV x))) := by
  refine ⟨by rw [upd_ne (fun z : p = a => h.n2 (z ▸ ha))]; exact h.hp, by rw [upd_ne (fun z : c = a => h.n3 (z ▸ ha))]; exact h.hc, fun b hb => ?_, h.n1, h.n2, h.n3, h.pz, h.cl⟩
  by_cases z : b = a
  · subst z; rw [upd_same]; dsimp only; rw [if_pos rfl]
  · rw [upd_ne z]; dsimp only; rw [if_neg z]; exact h.hs b hb
theorem sq_and {tA tB : TT} {u rest : TS} {D : Ends} {σ : St} {H : Hp} (a b : Bool) (hA : ∀ Q : Bool → Hp → Prop, Q a H → tA σ H Q) (hB : ∀ Q : Bool → Hp → Prop, Q b H → tB σ H Q) (h1 : (a && b) = true → u { D with nx := rest D } σ H) (h2 : (a && b) = false → rest D σ H) : tSeq (tIfS (tAnd tA tB) u tNext) rest D σ H := by
  refine hA _ ?_
  cases a with
  | false => exact h2 rfl
  | true =>
    refine hB _ ?_
    cases b with
    | false => exact h2 rfl
    | true => exact h1 rfl
theorem idx_cell {cs : List Addr} {j : Nat} {a : Addr} {x : Int} (h : cs[j]? = some a) (e : x = (j : Int)) : atI (cs.map V.ref) x = some (.ref a) := by
  subst e
  exact atI_nat (by rw [List.getElem?_map, h]; rfl)
/-- a new store, whatever its cells hold -/
def spStore (K : PySem.W.Frag) : Sp := fun vs H Q _ => ∃ (a : Addr) (ns : List Int), vs = [.ref a] ∧ SqL K H a (ns.map V.int) ∧ ns.length ≤ 1000 ∧ ∀ p c cs s H1, StoAt p c cs s H1 → Q (.ref p) H1
theorem cut_int {ns : List Int} {lo hi : Option Int} {v : V} (h : v ∈ cutV (ns.map V.int) lo hi) : ∃ i, v = .int i := by
  unfold cutV at h
  have h1 := List.mem_of_mem_drop (List.mem_of_mem_take h)
  obtain ⟨i, _, e⟩ := List.mem_map.mp h1
  exact ⟨i, e.symm⟩
theorem chain_lt {σ : St} {H : Hp} {a b c : Int} {ta tb tc : TE} {Q : Bool → Hp → Prop} (h1 : ∀ Q : VK, Q (.int a) H → ta σ H Q) (h2 : ∀ Q : VK, Q (.int b) H → tb σ H Q) (h3 : ∀ Q : VK, Q (.int c) H → tc σ H Q)
    (q : Q (decide (a < b) && decide (b < c)) H) : tTest (tChain (rI0 fun i j => .bl (decide (i < j))) (rI0 fun i j => .bl (decide (i < j))) ta tb tc) σ H Q := by
  refine h1 _ (h2 _ ⟨a, b, rfl, rfl, _, rfl, ?_⟩)
  by_cases h : a < b
  · rw [decide_eq_true h] at q ⊢
    exact h3 _ ⟨b, c, rfl, rfl, _, rfl, q⟩
  · rw [decide_eq_false h] at q ⊢
    exact ⟨_, rfl, q⟩
/-- the list of cells as the loop leaves it -/
structure CellsAt (c : Addr) (cs : List Addr) (H : Hp) : Prop where
  hc : H c = some (.lst (cs.map V.ref))
  hs : ∀ a ∈ cs, ∃ k v, H a = some (.lst (cellV (k, v)))
  nc : c ∉ cs
theorem CellsAt.add {c q : Addr} {cs : List Addr} {H : Hp} {k v : Int} (h : CellsAt c cs H) (nq : H q = none) : CellsAt c (cs ++ [q]) (upd (upd H q (.lst [.int k, .int v])) c (.lst ((cs ++ [q]).map V.ref))) := by
  have nqc : q ≠ c := fun z => by rw [z, h.hc] at nq; cases nq
  refine ⟨upd_same, fun a ha => ?_, fun z => ?_⟩
  · rcases List.mem_append.mp ha with ha | ha
    · obtain ⟨k', v', e⟩ := h.hs a ha
      have n1 : a ≠ c := fun z => h.nc (z ▸ ha)
      have n2 : a ≠ q := fun z => by rw [z, nq] at e; cases e
      exact ⟨k', v', by rw [upd_ne n1, upd_ne n2]; exact e⟩
    · have e : a = q := by simpa using ha
      subst e
      exact ⟨k, v, by rw [upd_ne nqc, upd_same]; rfl⟩
  · rcases List.mem_append.mp z with z | z
    · exact h.nc z
    · exact nqc ((by simpa using z : c = q).symm)
theorem sq_if {c : TT} {u v rest : TS} {D : Ends} {σ : St} {H : Hp} (b : Bool) (hc : ∀ Q : Bool → Hp → Prop, Q b H → c σ H Q) (h1 : b = true → u { D with nx := rest D } σ H) (h2 : b = false → v { D with nx := rest D } σ H) : tSeq (tIfS c u v) rest D σ H := by
  refine hc _ ?_
  cases b with
  | false => exact h2 rfl
  | true => exact h1 rfl
theorem atI_last1 {xs : List V} {v : V} : atI (xs ++ [v]) (-1) = some v := atI_last _ _
theorem pow60 : (0 : Int) < 10 ^ (60 : Int).toNat := by decide
end Mi
set_option maxHeartbeats 4000000
namespace Mi
open PySem PySem.Spec PyProof.Rows L2
/-! # what a mirror does, by rules that simp runs -/
section
variable {S α β : Type} {e e' : En S}
def wp (m : M S α) (e : En S) (Q : α → En S → Prop) (X : Er → En S → Prop) : Prop := match m e with
  | .ok a e1 => Q a e1
  | .err x e1 => X x e1
  | .stuck => False
variable {Q : α → En S → Prop} {X : Er → En S → Prop}
def wpK (m : M S α) (Q : α → En S → Prop) (X : Er → En S → Prop) (e : En S) : Prop := wp m e Q X
@[simp] theorem wpK_e (m : M S α) : wpK m Q X e = wp m e Q X := (rfl)
theorem wp_bnd (f : M S β) (k : β → M S α) : wp (bnd f k) e Q X = wp f e (fun a e1 => wp (k a) e1 Q X) X := by
  unfold wp bnd
  cases f e <;> rfl
@[simp] theorem wp_rt (a : α) : wp (rt a) e Q X = Q a e := (rfl)
@[simp] theorem wp_stk : wp (stk : M S α) e Q X = False := (rfl)
/-- an answer that may lack -/
def wO (o : Option α) (K : α → Prop) : Prop := match o with
  | some a => K a
  | none => False
@[simp] theorem wO_some (a : α) (K : α → Prop) : wO (some a) K = K a := (rfl)
@[simp] theorem wO_none (K : α → Prop) : wO none K = False := (rfl)
@[simp] theorem wO_ite {c : Prop} [Decidable c] (a : α) (K : α → Prop) : wO (if c then some a else none) K = (c ∧ K a) := by
  by_cases h : c <;> simp [h]
theorem wO_of {o : Option α} {K : α → Prop} {a : α} (h : o = some a) (k : K a) : wO o K := by rw [h]; exact k
def kO (Q : α → En S → Prop) (e : En S) (z : α) : Prop := Q z e
@[simp] theorem kO_e (z : α) : kO Q e z = Q z e := (rfl)
@[simp] theorem wp_lft (o : Option α) : wp (lft o) e Q X = wO o (kO Q e) := by
  unfold wp lft wO
  cases o <;> rfl
/-- a choice -/
def wIf (t : Bool) (e : En S) (A B : En S → Prop) : Prop := if t = true then A e else B e
@[simp] theorem wIf_t (A B : En S → Prop) : wIf true e A B = A e := (rfl)
@[simp] theorem wIf_f (A B : En S → Prop) : wIf false e A B = B e := (rfl)
theorem wIf_of {t : Bool} {A B : En S → Prop} (h1 : t = true → A e) (h2 : t = false → B e) : wIf t e A B := by
  cases t
  · exact h2 rfl
  · exact h1 rfl
theorem wIf_d {c : Prop} [Decidable c] {A B : En S → Prop} (h1 : c → A e) (h2 : ¬ c → B e) : wIf (decide c) e A B := wIf_of (fun h => h1 (of_decide_eq_true h)) fun h => h2 (of_decide_eq_false h)
theorem wIf_nd {c : Prop} [Decidable c] {A B : En S → Prop} (h1 : ¬ c → A e) (h2 : c → B e) : wIf (!decide c) e A B := wIf_of (fun h => h1 (by simpa using h)) fun h => h2 (by simpa using h)
def kC (v : α) (Q : α → En S → Prop) (e : En S) : Prop := Q v e
@[simp] theorem kC_e (v : α) : kC v Q e = Q v e := (rfl)
def kNot (Q : Bool → En S → Prop) (b : Bool) (e : En S) : Prop := Q (!b) e
@[simp] theorem kNot_e (Q : Bool → En S → Prop) (b : Bool) : kNot Q b e = Q (!b) e := (rfl)
def kIf (f g : M S α) (Q : α → En S → Prop) (X : Er → En S → Prop) (b : Bool) (e : En S) : Prop := wIf b e (wpK f Q X) (wpK g Q X)
@[simp] theorem kIf_e (f g : M S α) (b : Bool) : kIf f g Q X b e = wIf b e (wpK f Q X) (wpK g Q X) := (rfl)
/-! slots -/
def wV (o : Option Slot) (i : Nat) (e : En S) (Q : Mi.D → En S → Prop) : Prop := match o with
  | some (.sh d) => Q d e
  | some (.ob (.lst xs)) => Q (.list xs) { e with sl := e.sl.set i (.sh (.list xs)) }
  | _ => False
@[simp] theorem wV_sh (d : Mi.D) (i : Nat) (Q : Mi.D → En S → Prop) : wV (some (.sh d)) i e Q = Q d e := (rfl)
@[simp] theorem wV_ow (xs : List Mi.D) (i : Nat) (Q : Mi.D → En S → Prop) : wV (some (.ow xs)) i e Q = Q (.list xs) { e with sl := e.sl.set i (.sh (.list xs)) } := (rfl)
@[simp] theorem wp_mV {Q : Mi.D → En S → Prop} (i : Nat) : wp (mV i) e Q X = wV e.sl[i]? i e Q := by
  unfold wp mV wV
  cases e.sl[i]? with
  | none => rfl
  | some s =>
    cases s with
    | ob o => cases o <;> rfl
    | _ => rfl
def wL (o : Option Slot) (Q : List Mi.D → Prop) : Prop := match o with
  | some (.ob (.lst xs)) => Q xs
  | some (.sh (.list xs)) => Q xs
  | _ => False
@[simp] theorem wL_ow (xs : List Mi.D) (Q : List Mi.D → Prop) : wL (some (.ow xs)) Q = Q xs := (rfl)
@[simp] theorem wL_sh (xs : List Mi.D) (Q : List Mi.D → Prop) : wL (some (.sh (.list xs))) Q = Q xs := (rfl)
theorem lstAt_wL {i : Nat} {Q : List Mi.D → Prop} : (match lstAt i e with | some xs => Q xs | none => False) = wL e.sl[i]? Q := by
  unfold lstAt wL
  cases e.sl[i]? with
  | none => rfl
  | some s =>
    cases s with
    | sh d => cases d <;> rfl
    | ob o => cases o <;> rfl
    | _ => rfl
def wW (o : Option Slot) (Q : List Mi.D → Prop) : Prop := match o with
  | some (.ob (.lst xs)) => Q xs
  | _ => False
@[simp] theorem wW_ow (xs : List Mi.D) (Q : List Mi.D → Prop) : wW (some (.ow xs)) Q = Q xs := (rfl)
def wT (o : Option Slot) (e : En S) (Q : En S → Prop) : Prop := match o with
  | some .tok => Q e
  | _ => False
@[simp] theorem wT_tok (Q : En S → Prop) : wT (some .tok) e Q = Q e := (rfl)
/-! values -/
section
variable {Q : Mi.D → En S → Prop}
def k1 (g : Mi.D → Option Mi.D) (Q : Mi.D → En S → Prop) (x : Mi.D) (e : En S) : Prop := wO (g x) (kO Q e)
@[simp] theorem k1_e (g : Mi.D → Option Mi.D) (x : Mi.D) : k1 g Q x e = wO (g x) (kO Q e) := (rfl)
@[simp] theorem wp_m1 (g : Mi.D → Option Mi.D) (f : M S Mi.D) : wp (m1 g f) e Q X = wp f e (k1 g Q) X := by unfold m1; rw [wp_bnd]; simp only [wp_lft]; rfl
def k2b (g : Mi.D → Mi.D → Option Mi.D) (Q : Mi.D → En S → Prop) (x y : Mi.D) (e : En S) : Prop := wO (g x y) (kO Q e)
@[simp] theorem k2b_e (g : Mi.D → Mi.D → Option Mi.D) (x y : Mi.D) : k2b g Q x y e = wO (g x y) (kO Q e) := (rfl)
def k2 (g : Mi.D → Mi.D → Option Mi.D) (f : M S Mi.D) (Q : Mi.D → En S → Prop) (X : Er → En S → Prop) (x : Mi.D) (e : En S) : Prop := wp f e (k2b g Q x) X
@[simp] theorem k2_e (g : Mi.D → Mi.D → Option Mi.D) (f : M S Mi.D) (x : Mi.D) : k2 g f Q X x e = wp f e (k2b g Q x) X := (rfl)
@[simp] theorem wp_m2 (g : Mi.D → Mi.D → Option Mi.D) (f1 f2 : M S Mi.D) : wp (m2 g f1 f2) e Q X = wp f1 e (k2 g f2 Q X) X := by unfold m2; rw [wp_bnd]; simp only [wp_bnd, wp_lft]; rfl
def kFz (Q : Mi.D → En S → Prop) (xs : List Mi.D) (e : En S) : Prop := Q (.list xs) e
@[simp] theorem kFz_e (xs : List Mi.D) : kFz Q xs e = Q (.list xs) e := (rfl)
@[simp] theorem wp_mFz (f : M S (List Mi.D)) : wp (mFz f) e Q X = wp f e (kFz Q) X := by unfold mFz; rw [wp_bnd]; rfl
def kTup (Q : Mi.D → En S → Prop) (as : List Arg) (e : En S) : Prop := wO (((argD as).bind capL).map PyData.tuple) (kO Q e)
@[simp] theorem kTup_e (as : List Arg) : kTup Q as e = wO (((argD as).bind capL).map PyData.tuple) (kO Q e) := (rfl)
@[simp] theorem wp_mTup (g : M S (List Arg)) : wp (mTup g) e Q X = wp g e (kTup Q) X := by unfold mTup; rw [wp_bnd]; simp only [wp_lft]; rfl
def kA {β : Type} (g : List Arg → Option β) (Q : β → En S → Prop) (as : List Arg) (e : En S) : Prop := wO (g as) (kO Q e)
@[simp] theorem kA_e {β : Type} (g : List Arg → Option β) (Q : β → En S → Prop) (as : List Arg) : kA g Q as e = wO (g as) (kO Q e) := (rfl)
@[simp] theorem wp_mB (g : List Arg → Option Mi.D) (m : M S (List Arg)) : wp (mB g m) e Q X = wp m e (kA g Q) X := by unfold mB; rw [wp_bnd]; simp only [wp_lft]; rfl
def kAndV (g : M S Mi.D) (Q : Mi.D → En S → Prop) (X : Er → En S → Prop) (b : Bool) (e : En S) : Prop := wIf b e (wpK g Q X) (kC (.bool false) Q)
@[simp] theorem kAndV_e (g : M S Mi.D) (b : Bool) : kAndV g Q X b e = wIf b e (wpK g Q X) (kC (.bool false) Q) := (rfl)
@[simp] theorem wp_mAndV (f g : M S Mi.D) : wp (mAndV f g) e Q X = wp (asB f) e (kAndV g Q X) X := by
  unfold mAndV; rw [wp_bnd]; congr 1; funext b e1; cases b <;> rfl
def kOrV (g : M S Mi.D) (Q : Mi.D → En S → Prop) (X : Er → En S → Prop) (b : Bool) (e : En S) : Prop := wIf b e (kC (.bool true) Q) (wpK g Q X)
@[simp] theorem kOrV_e (g : M S Mi.D) (b : Bool) : kOrV g Q X b e = wIf b e (kC (.bool true) Q) (wpK g Q X) := (rfl)
@[simp] theorem wp_mOrV (f g : M S Mi.D) : wp (mOrV f g) e Q X = wp (asB f) e (kOrV g Q X) X := by
  unfold mOrV; rw [wp_bnd]; congr 1; funext b e1; cases b <;> rfl
def kNotV (Q : Mi.D → En S → Prop) (b : Bool) (e : En S) : Prop := Q (.bool (!b)) e
@[simp] theorem kNotV_e (b : Bool) : kNotV Q b e = Q (.bool (!b)) e := (rfl)
@[simp] theorem wp_mNotV (f : M S Mi.D) : wp (mNotV f) e Q X = wp (asB f) e (kNotV Q) X := by unfold mNotV; rw [wp_bnd]; rfl
@[simp] theorem wp_mIfE (f : M S Bool) (g h : M S Mi.D) : wp (mIfE f g h) e Q X = wp f e (kIf g h Q X) X := by
  unfold mIfE; rw [wp_bnd]; congr 1; funext b e1; cases b <;> rfl
def wB (d : Mi.D) (e : En S) (Q : Bool → En S → Prop) : Prop := match d with
  | .bool b => Q b e
  | _ => False
@[simp] theorem wB_b (b : Bool) (Q : Bool → En S → Prop) : wB (.bool b) e Q = Q b e := (rfl)
def kBz (Q : Bool → En S → Prop) (d : Mi.D) (e : En S) : Prop := wB d e Q
@[simp] theorem kBz_e (Q : Bool → En S → Prop) (d : Mi.D) : kBz Q d e = wB d e Q := (rfl)
def kCh2 (g' : Mi.D → Mi.D → Option Mi.D) (fc : M S Mi.D) (Q : Mi.D → En S → Prop) (X : Er → En S → Prop) (y : Mi.D) (b : Bool) (e : En S) : Prop := wIf b e (wpK fc (k2b g' Q y) X) (kC (.bool false) Q)
@[simp] theorem kCh2_e (g' : Mi.D → Mi.D → Option Mi.D) (fc : M S Mi.D) (y : Mi.D) (b : Bool) : kCh2 g' fc Q X y b e = wIf b e (wpK fc (k2b g' Q y) X) (kC (.bool false) Q) := (rfl)
def kCh1 (g g' : Mi.D → Mi.D → Option Mi.D) (fc : M S Mi.D) (Q : Mi.D → En S → Prop) (X : Er → En S → Prop) (x y : Mi.D) (e : En S) : Prop := wO (g x y) (kO (kBz (kCh2 g' fc Q X y)) e)
@[simp] theorem kCh1_e (g g' : Mi.D → Mi.D → Option Mi.D) (fc : M S Mi.D) (x y : Mi.D) : kCh1 g g' fc Q X x y e = wO (g x y) (kO (kBz (kCh2 g' fc Q X y)) e) := (rfl)
def kCh (g g' : Mi.D → Mi.D → Option Mi.D) (fb fc : M S Mi.D) (Q : Mi.D → En S → Prop) (X : Er → En S → Prop) (x : Mi.D) (e : En S) : Prop := wp fb e (kCh1 g g' fc Q X x) X
@[simp] theorem kCh_e (g g' : Mi.D → Mi.D → Option Mi.D) (fb fc : M S Mi.D) (x : Mi.D) : kCh g g' fb fc Q X x e = wp fb e (kCh1 g g' fc Q X x) X := (rfl)
@[simp] theorem wp_mChain (g g' : Mi.D → Mi.D → Option Mi.D) (fa fb fc : M S Mi.D) : wp (mChain g g' fa fb fc) e Q X = wp fa e (kCh g g' fb fc Q X) X := by
  unfold mChain; rw [wp_bnd]; congr 1; funext x e1; rw [wp_bnd, kCh_e]; congr 1; funext y e2; rw [wp_bnd, wp_lft, kCh1_e]
  cases g x y with
  | none => rfl
  | some z =>
    cases z with
    | bool b =>
      cases b with
      | false => rfl
      | true => simp only [wO_some, kO_e, kBz_e, wB_b, kCh2_e, wIf_t, wpK_e, wp_bnd, wp_lft]; rfl
    | _ => rfl
def kIx2 (k : Mi.D) (Q : Mi.D → En S → Prop) (e : En S) (xs : List Mi.D) : Prop := wO (dIx (.list xs) k) (kO Q e)
@[simp] theorem kIx2_e (k : Mi.D) (xs : List Mi.D) : kIx2 k Q e xs = wO (dIx (.list xs) k) (kO Q e) := (rfl)
def kIx (i : Nat) (Q : Mi.D → En S → Prop) (k : Mi.D) (e : En S) : Prop := wL e.sl[i]? (kIx2 k Q e)
@[simp] theorem kIx_e (i : Nat) (k : Mi.D) : kIx i Q k e = wL e.sl[i]? (kIx2 k Q e) := (rfl)
def kIx0 (f : M S Mi.D) (i : Nat) (Q : Mi.D → En S → Prop) (X : Er → En S → Prop) (e : En S) (xs : List Mi.D) : Prop := wp f e (kIx i Q) X
@[simp] theorem kIx0_e (f : M S Mi.D) (i : Nat) (xs : List Mi.D) : kIx0 f i Q X e xs = wp f e (kIx i Q) X := (rfl)
@[simp] theorem wp_mIxO (i : Nat) (f : M S Mi.D) : wp (mIxO i f) e Q X = wL e.sl[i]? (kIx0 f i Q X e) := by
  unfold mIxO withL
  rw [← lstAt_wL]
  unfold wp
  dsimp only
  cases lstAt i e with
  | none => rfl
  | some ys =>
    dsimp only
    rw [kIx0_e]
    unfold bnd wp
    cases f e with
    | ok k e1 =>
      dsimp only
      rw [kIx_e, ← lstAt_wL]
      cases lstAt i e1 with
      | none => rfl
      | some xs => cases k <;> first | rfl | (unfold lft kIx2 wO dIx; dsimp only; cases atI xs _ <;> rfl)
    | _ => rfl
def kIn2 (g : Mi.D → List Mi.D → Option Mi.D) (Q : Mi.D → En S → Prop) (d : Mi.D) (e : En S) (xs : List Mi.D) : Prop := wO (g d xs) (kO Q e)
@[simp] theorem kIn2_e (g : Mi.D → List Mi.D → Option Mi.D) (d : Mi.D) (xs : List Mi.D) : kIn2 g Q d e xs = wO (g d xs) (kO Q e) := (rfl)
def kIn (g : Mi.D → List Mi.D → Option Mi.D) (i : Nat) (Q : Mi.D → En S → Prop) (d : Mi.D) (e : En S) : Prop := wL e.sl[i]? (kIn2 g Q d e)
@[simp] theorem kIn_e (g : Mi.D → List Mi.D → Option Mi.D) (i : Nat) (d : Mi.D) : kIn g i Q d e = wL e.sl[i]? (kIn2 g Q d e) := (rfl)
@[simp] theorem wp_mInO (g : Mi.D → List Mi.D → Option Mi.D) (i : Nat) (f : M S Mi.D) : wp (mInO g i f) e Q X = wp f e (kIn g i Q) X := by
  unfold mInO
  rw [wp_bnd]
  congr 1
  funext d e1
  rw [kIn_e, ← lstAt_wL]
  unfold wp
  dsimp only
  cases lstAt i e1 with
  | none => rfl
  | some xs => unfold lft kIn2 wO; dsimp only; cases g d xs <;> rfl
end
def kLs (g : List Mi.D → Option α) (Q : α → En S → Prop) (e : En S) (xs : List Mi.D) : Prop := wO (g xs) (kO Q e)
@[simp] theorem kLs_e (g : List Mi.D → Option α) (xs : List Mi.D) : kLs g Q e xs = wO (g xs) (kO Q e) := (rfl)
@[simp] theorem wp_mO (i : Nat) (g : List Mi.D → Option α) : wp (mO i g) e Q X = wL e.sl[i]? (kLs g Q e) := by
  rw [← lstAt_wL]
  unfold wp mO
  cases lstAt i e with
  | none => rfl
  | some xs => unfold lft kLs wO; dsimp only; cases g xs <;> rfl
section
variable {Q : Bool → En S → Prop}
@[simp] theorem wp_asB (f : M S Mi.D) : wp (asB f) e Q X = wp f e (kBz Q) X := by
  unfold asB; rw [wp_bnd]; congr 1; funext d e1; cases d <;> rfl
def kAnd (g : M S Bool) (Q : Bool → En S → Prop) (X : Er → En S → Prop) (b : Bool) (e : En S) : Prop := wIf b e (wpK g Q X) (kC false Q)
@[simp] theorem kAnd_e (g : M S Bool) (b : Bool) : kAnd g Q X b e = wIf b e (wpK g Q X) (kC false Q) := (rfl)
@[simp] theorem wp_mAnd (f g : M S Bool) : wp (mAnd f g) e Q X = wp f e (kAnd g Q X) X := by
  unfold mAnd; rw [wp_bnd]; congr 1; funext b e1; cases b <;> rfl
def kOr (g : M S Bool) (Q : Bool → En S → Prop) (X : Er → En S → Prop) (b : Bool) (e : En S) : Prop := wIf b e (kC true Q) (wpK g Q X)
@[simp] theorem kOr_e (g : M S Bool) (b : Bool) : kOr g Q X b e = wIf b e (kC true Q) (wpK g Q X) := (rfl)
@[simp] theorem wp_mOr (f g : M S Bool) : wp (mOr f g) e Q X = wp f e (kOr g Q X) X := by
  unfold mOr; rw [wp_bnd]; congr 1; funext b e1; cases b <;> rfl
@[simp] theorem wp_mNot (f : M S Bool) : wp (mNot f) e Q X = wp f e (kNot Q) X := by unfold mNot; rw [wp_bnd]; rfl
@[simp] theorem wp_tYesM : wp (tYesM : M S Bool) e Q X = Q true e := (rfl)
end
section
variable {Q : List Arg → En S → Prop}
@[simp] theorem wp_mNil : wp (mNil : M S (List Arg)) e Q X = Q [] e := (rfl)
def kCns2 (Q : List Arg → En S → Prop) (a : Arg) (as : List Arg) (e : En S) : Prop := Q (a :: as) e
@[simp] theorem kCns2_e (a : Arg) (as : List Arg) : kCns2 Q a as e = Q (a :: as) e := (rfl)
def kCns (g : M S (List Arg)) (Q : List Arg → En S → Prop) (X : Er → En S → Prop) (d : Mi.D) (e : En S) : Prop := wp g e (kCns2 Q (.d d)) X
@[simp] theorem kCns_e (g : M S (List Arg)) (d : Mi.D) : kCns g Q X d e = wp g e (kCns2 Q (.d d)) X := (rfl)
@[simp] theorem wp_mCons (f : M S Mi.D) (g : M S (List Arg)) : wp (mCons f g) e Q X = wp f e (kCns g Q X) X := by unfold mCons; rw [wp_bnd]; simp only [wp_bnd]; rfl
@[simp] theorem wp_mTok (i : Nat) (g : M S (List Arg)) : wp (mTok i g) e Q X = wT e.sl[i]? e (wpK g (kCns2 Q .tok) X) := by
  unfold wp mTok wT
  cases e.sl[i]? with
  | none => rfl
  | some s =>
    cases s with
    | tok => dsimp only; unfold bnd wpK wp; cases g e <;> rfl
    | _ => rfl
end
section
variable {Q : List Mi.D → En S → Prop}
def gLstA (as : List Arg) : Option (List Mi.D) := (argD as).bind capL
@[simp] theorem gLstA_e (as : List Arg) : gLstA as = (argD as).bind capL := (rfl)
@[simp] theorem wp_mLst (g : M S (List Arg)) : wp (mLst g) e Q X = wp g e (kA gLstA Q) X := by unfold mLst; rw [wp_bnd]; simp only [wp_lft]; rfl
@[simp] theorem wp_mBF (g : List Arg → Option (List Mi.D)) (m : M S (List Arg)) : wp (mBF g m) e Q X = wp m e (kA g Q) X := by unfold mBF; rw [wp_bnd]; simp only [wp_lft]; rfl
def seqOf : Mi.D → Option (List Mi.D)
  | .list ds => some ds
  | .tuple ds => some ds
  | _ => none
@[simp] theorem seqOf_l (ds : List Mi.D) : seqOf (.list ds) = some ds := (rfl)
@[simp] theorem seqOf_t (ds : List Mi.D) : seqOf (.tuple ds) = some ds := (rfl)
def kD {β : Type} (g : Mi.D → Option β) (Q : β → En S → Prop) (d : Mi.D) (e : En S) : Prop := wO (g d) (kO Q e)
@[simp] theorem kD_e {β : Type} (g : Mi.D → Option β) (Q : β → En S → Prop) (d : Mi.D) : kD g Q d e = wO (g d) (kO Q e) := (rfl)
@[simp] theorem wp_mI (f : M S Mi.D) : wp (mI f) e Q X = wp f e (kD seqOf Q) X := by
  unfold mI; rw [wp_bnd]; congr 1; funext d e1; cases d <;> rfl
def rngOf1 : List Arg → Option (List Mi.D)
  | [.d (.int j)] => if small62 j then some (rngD 0 j.toNat) else none
  | _ => none
def rngOf2 : List Arg → Option (List Mi.D)
  | [.d (.int i), .d (.int j)] => if small62 i ∧ small62 j then some (rngD i (j - i).toNat) else none
  | _ => none
@[simp] theorem rngOf1_i (j : Int) : rngOf1 [.d (.int j)] = if small62 j then some (rngD 0 j.toNat) else none := (rfl)
@[simp] theorem rngOf2_i (i j : Int) : rngOf2 [.d (.int i), .d (.int j)] = if small62 i ∧ small62 j then some (rngD i (j - i).toNat) else none := (rfl)
@[simp] theorem wp_mR1 (g : M S (List Arg)) : wp (mR1 g) e Q X = wp g e (kA rngOf1 Q) X := by
  unfold mR1; rw [wp_bnd]; congr 1; funext as e1
  unfold kA rngOf1
  split
  · rename_i j
    show wp (if small62 j then _ else _) e1 Q X = wO (if small62 j then _ else _) _
    split <;> rfl
  · rename_i h
    first
    | rfl
    | (split
       · rename_i j; exact absurd rfl (h j)
       · rfl)
@[simp] theorem wp_mR2 (g : M S (List Arg)) : wp (mR2 g) e Q X = wp g e (kA rngOf2 Q) X := by
  unfold mR2; rw [wp_bnd]; congr 1; funext as e1
  unfold kA rngOf2
  split
  · rename_i i j
    show wp (if small62 i ∧ small62 j then _ else _) e1 Q X = wO (if small62 i ∧ small62 j then _ else _) _
    split <;> rfl
  · rename_i h
    first
    | rfl
    | (split
       · rename_i i j; exact absurd rfl (h i j)
       · rfl)
def lrOf : Mi.D → Option (List Mi.D)
  | .int n => if rgOk 0 n then some (rngD 0 n.toNat) else none
  | _ => none
@[simp] theorem lrOf_i (n : Int) : lrOf (.int n) = if rgOk 0 n then some (rngD 0 n.toNat) else none := (rfl)
@[simp] theorem wp_mLR1 (f : M S Mi.D) : wp (mLR1 f) e Q X = wp f e (kD lrOf Q) X := by
  unfold mLR1; rw [wp_bnd]; congr 1; funext d e1
  cases d with
  | int n => rw [kD_e, lrOf_i]; dsimp only; split <;> rfl
  | _ => rfl
def repOf : Mi.D → Mi.D → Option (List Mi.D)
  | .list xs, .int k => if repOk xs k then some (List.replicate k.toNat xs).flatten else none
  | _, _ => none
@[simp] theorem repOf_i (xs : List Mi.D) (k : Int) : repOf (.list xs) (.int k) = if repOk xs k then some (List.replicate k.toNat xs).flatten else none := (rfl)
def kRp2 (Q : List Mi.D → En S → Prop) (x y : Mi.D) (e : En S) : Prop := wO (repOf x y) (kO Q e)
@[simp] theorem kRp2_e (x y : Mi.D) : kRp2 Q x y e = wO (repOf x y) (kO Q e) := (rfl)
def kRp (g : M S Mi.D) (Q : List Mi.D → En S → Prop) (X : Er → En S → Prop) (x : Mi.D) (e : En S) : Prop := wp g e (kRp2 Q x) X
@[simp] theorem kRp_e (g : M S Mi.D) (x : Mi.D) : kRp g Q X x e = wp g e (kRp2 Q x) X := (rfl)
@[simp] theorem wp_mRep (f g : M S Mi.D) : wp (mRep f g) e Q X = wp f e (kRp g Q X) X := by
  unfold mRep; rw [wp_bnd]; congr 1; funext x e1; rw [wp_bnd, kRp_e]; congr 1; funext y e2
  cases x with
  | list xs =>
    cases y with
    | int k => rw [kRp2_e, repOf_i]; dsimp only; split <;> rfl
    | _ => rfl
  | _ => rfl
end
/-! statements -/
section
variable {Q : Fl → En S → Prop}
def seqQ (b : M S Fl) (Q : Fl → En S → Prop) (X : Er → En S → Prop) (fl : Fl) (e : En S) : Prop := match fl with
  | .nx => wp b e Q X
  | fl => Q fl e
@[simp] theorem seqQ_nx (b : M S Fl) : seqQ b Q X .nx e = wp b e Q X := (rfl)
@[simp] theorem seqQ_ret (b : M S Fl) (r : R) : seqQ b Q X (.ret r) e = Q (.ret r) e := (rfl)
@[simp] theorem seqQ_bk (b : M S Fl) : seqQ b Q X .bk e = Q .bk e := (rfl)
@[simp] theorem seqQ_ct (b : M S Fl) : seqQ b Q X .ct e = Q .ct e := (rfl)
@[simp] theorem wp_sq (a b : M S Fl) : wp (sq a b) e Q X = wp a e (seqQ b Q X) X := by
  unfold wp sq
  cases a e with
  | ok fl e1 => cases fl <;> rfl
  | _ => rfl
@[simp] theorem wp_nop : wp (nop : M S Fl) e Q X = Q .nx e := (rfl)
@[simp] theorem wp_mBrk : wp (mBrk : M S Fl) e Q X = Q .bk e := (rfl)
@[simp] theorem wp_mCt : wp (mCt : M S Fl) e Q X = Q .ct e := (rfl)
@[simp] theorem wp_mRetN : wp (mRetN : M S Fl) e Q X = Q (.ret (.sh .none)) e := (rfl)
def kRet (Q : Fl → En S → Prop) (d : Mi.D) (e : En S) : Prop := Q (.ret (.sh d)) e
@[simp] theorem kRet_e (d : Mi.D) : kRet Q d e = Q (.ret (.sh d)) e := (rfl)
@[simp] theorem wp_mRet (f : M S Mi.D) : wp (mRet f) e Q X = wp f e (kRet Q) X := by unfold mRet; rw [wp_bnd]; rfl
def kRetF (Q : Fl → En S → Prop) (d : List Mi.D) (e : En S) : Prop := Q (.ret (.fr d)) e
@[simp] theorem kRetF_e (d : List Mi.D) : kRetF Q d e = Q (.ret (.fr d)) e := (rfl)
@[simp] theorem wp_mRetF (f : M S (List Mi.D)) : wp (mRetF f) e Q X = wp f e (kRetF Q) X := by unfold mRetF; rw [wp_bnd]; rfl
def wR (o : Option Slot) (i : Nat) (e : En S) (Q : Fl → En S → Prop) : Prop := match o with
  | some (.sh d) => Q (.ret (.sh d)) e
  | some (.ob (.lst xs)) => Q (.ret (.fr xs)) { e with sl := e.sl.set i .un }
  | _ => False
@[simp] theorem wR_sh (d : Mi.D) (i : Nat) : wR (some (.sh d)) i e Q = Q (.ret (.sh d)) e := (rfl)
@[simp] theorem wR_ow (xs : List Mi.D) (i : Nat) : wR (some (.ow xs)) i e Q = Q (.ret (.fr xs)) { e with sl := e.sl.set i .un } := (rfl)
@[simp] theorem wp_mRetV (i : Nat) : wp (mRetV i) e Q X = wR e.sl[i]? i e Q := by
  unfold wp mRetV wR
  cases e.sl[i]? with
  | none => rfl
  | some s =>
    cases s with
    | ob o => cases o <;> rfl
    | _ => rfl
def kDrop (Q : Fl → En S → Prop) (d : Mi.D) (e : En S) : Prop := Q .nx e
@[simp] theorem kDrop_e (d : Mi.D) : kDrop Q d e = Q .nx e := (rfl)
@[simp] theorem wp_mDrop (f : M S Mi.D) : wp (mDrop f) e Q X = wp f e (kDrop Q) X := by unfold mDrop; rw [wp_bnd]; rfl
@[simp] theorem wp_mIf (c : M S Bool) (a b : M S Fl) : wp (mIf c a b) e Q X = wp c e (kIf a b Q X) X := by
  unfold mIf; rw [wp_bnd]; congr 1; funext t e1; cases t <;> rfl
def kSet (i : Nat) (Q : Fl → En S → Prop) (d : Mi.D) (e : En S) : Prop := Q .nx { e with sl := e.sl.set i (.sh d) }
@[simp] theorem kSet_e (i : Nat) (d : Mi.D) : kSet i Q d e = Q .nx { e with sl := e.sl.set i (.sh d) } := (rfl)
@[simp] theorem wp_mSet (i : Nat) (f : M S Mi.D) : wp (mSet i f) e Q X = wp f e (kSet i Q) X := by unfold mSet; rw [wp_bnd]; rfl
def kSetF (i : Nat) (Q : Fl → En S → Prop) (d : List Mi.D) (e : En S) : Prop := Q .nx { e with sl := e.sl.set i (.ow d) }
@[simp] theorem kSetF_e (i : Nat) (d : List Mi.D) : kSetF i Q d e = Q .nx { e with sl := e.sl.set i (.ow d) } := (rfl)
@[simp] theorem wp_mSetF (i : Nat) (f : M S (List Mi.D)) : wp (mSetF i f) e Q X = wp f e (kSetF i Q) X := by unfold mSetF; rw [wp_bnd]; rfl
def ixOf (n : Nat) : Mi.D → Option Nat
  | .int k => ixN n k
  | _ => none
@[simp] theorem ixOf_i (n : Nat) (k : Int) : ixOf n (.int k) = ixN n k := (rfl)
def kSx4 (i : Nat) (Q : Fl → En S → Prop) (d : Mi.D) (e : En S) (xs : List Mi.D) (j : Nat) : Prop := Q .nx { e with sl := e.sl.set i (.ow (xs.set j d)) }
@[simp] theorem kSx4_e (i : Nat) (d : Mi.D) (xs : List Mi.D) (j : Nat) : kSx4 i Q d e xs j = Q .nx { e with sl := e.sl.set i (.ow (xs.set j d)) } := (rfl)
def kSx3 (i : Nat) (Q : Fl → En S → Prop) (d k : Mi.D) (e : En S) (xs : List Mi.D) : Prop := wO (ixOf xs.length k) (kSx4 i Q d e xs)
@[simp] theorem kSx3_e (i : Nat) (d k : Mi.D) (xs : List Mi.D) : kSx3 i Q d k e xs = wO (ixOf xs.length k) (kSx4 i Q d e xs) := (rfl)
def kSx2 (i : Nat) (Q : Fl → En S → Prop) (d k : Mi.D) (e : En S) : Prop := wW e.sl[i]? (kSx3 i Q d k e)
@[simp] theorem kSx2_e (i : Nat) (d k : Mi.D) : kSx2 i Q d k e = wW e.sl[i]? (kSx3 i Q d k e) := (rfl)
def kSx1 (i : Nat) (fi : M S Mi.D) (Q : Fl → En S → Prop) (X : Er → En S → Prop) (d : Mi.D) (e : En S) (xs : List Mi.D) : Prop := wp fi e (kSx2 i Q d) X
@[simp] theorem kSx1_e (i : Nat) (fi : M S Mi.D) (d : Mi.D) (xs : List Mi.D) : kSx1 i fi Q X d e xs = wp fi e (kSx2 i Q d) X := (rfl)
def kSx (i : Nat) (fi : M S Mi.D) (Q : Fl → En S → Prop) (X : Er → En S → Prop) (d : Mi.D) (e : En S) : Prop := wW e.sl[i]? (kSx1 i fi Q X d e)
@[simp] theorem kSx_e (i : Nat) (fi : M S Mi.D) (d : Mi.D) : kSx i fi Q X d e = wW e.sl[i]? (kSx1 i fi Q X d e) := (rfl)
@[simp] theorem wp_mSetIx (i : Nat) (fe fi : M S Mi.D) : wp (mSetIx i fe fi) e Q X = wp fe e (kSx i fi Q X) X := by
  unfold mSetIx
  rw [wp_bnd]; congr 1; funext d e1
  rw [kSx_e]
  unfold withO owAt wW wp
  dsimp only
  cases e1.sl[i]? with
  | none => rfl
  | some s =>
    cases s with
    | ob o =>
     cases o with
     | lst ys =>
      dsimp only
      rw [kSx1_e]
      unfold bnd wp
      cases fi e1 with
      | ok k e2 =>
        dsimp only
        rw [kSx2_e]
        unfold wW
        cases e2.sl[i]? with
        | none => rfl
        | some s2 =>
          cases s2 with
          | ob o2 =>
            cases o2 with
            | lst xs =>
              cases k with
              | int n => dsimp only; rw [kSx3_e, ixOf_i]; unfold wO; cases ixN xs.length n <;> rfl
              | _ => rfl
            | _ => rfl
          | _ => rfl
      | _ => rfl
     | _ => rfl
    | _ => rfl
end
/-! methods, augmented stores, targets -/
def kMt4 (i : Nat) (Q : Mi.D → En S → Prop) (e : En S) (z : Mi.D × List Mi.D) : Prop := Q z.1 { e with sl := e.sl.set i (.ow z.2) }
@[simp] theorem kMt4_e {Q : Mi.D → En S → Prop} (i : Nat) (d : Mi.D) (xs : List Mi.D) : kMt4 i Q e (d, xs) = Q d { e with sl := e.sl.set i (.ow xs) } := (rfl)
def kMt3 (i : Nat) (g : List Mi.D → List Arg → Option (Mi.D × List Mi.D)) (Q : Mi.D → En S → Prop) (as : List Arg) (e : En S) (xs : List Mi.D) : Prop := wO (g xs as) (kMt4 i Q e)
@[simp] theorem kMt3_e {Q : Mi.D → En S → Prop} (i : Nat) (g : List Mi.D → List Arg → Option (Mi.D × List Mi.D)) (as : List Arg) (xs : List Mi.D) : kMt3 i g Q as e xs = wO (g xs as) (kMt4 i Q e) := (rfl)
def kMt2 (i : Nat) (g : List Mi.D → List Arg → Option (Mi.D × List Mi.D)) (Q : Mi.D → En S → Prop) (as : List Arg) (e : En S) : Prop := wW e.sl[i]? (kMt3 i g Q as e)
@[simp] theorem kMt2_e {Q : Mi.D → En S → Prop} (i : Nat) (g : List Mi.D → List Arg → Option (Mi.D × List Mi.D)) (as : List Arg) : kMt2 i g Q as e = wW e.sl[i]? (kMt3 i g Q as e) := (rfl)
def kMt1 (i : Nat) (g : List Mi.D → List Arg → Option (Mi.D × List Mi.D)) (m : M S (List Arg)) (Q : Mi.D → En S → Prop) (X : Er → En S → Prop) (e : En S) (xs : List Mi.D) : Prop := wp m e (kMt2 i g Q) X
@[simp] theorem kMt1_e {Q : Mi.D → En S → Prop} (i : Nat) (g : List Mi.D → List Arg → Option (Mi.D × List Mi.D)) (m : M S (List Arg)) (xs : List Mi.D) : kMt1 i g m Q X e xs = wp m e (kMt2 i g Q) X := (rfl)
@[simp] theorem wp_mMeth {Q : Mi.D → En S → Prop} (i : Nat) (g : List Mi.D → List Arg → Option (Mi.D × List Mi.D)) (m : M S (List Arg)) : wp (mMeth i g m) e Q X = wW e.sl[i]? (kMt1 i g m Q X e) := by
  unfold mMeth withO owAt wW wp
  dsimp only
  cases e.sl[i]? with
  | none => rfl
  | some s =>
    cases s with
    | ob o =>
     cases o with
     | lst ys =>
      dsimp only
      rw [kMt1_e]
      unfold bnd wp
      cases m e with
      | ok as e1 =>
        dsimp only
        rw [kMt2_e]
        unfold wW
        cases e1.sl[i]? with
        | none => rfl
        | some s2 =>
          cases s2 with
          | ob o2 =>
            cases o2 with
            | lst xs => dsimp only; rw [kMt3_e]; unfold wO; cases g xs as <;> rfl
            | _ => rfl
          | _ => rfl
      | _ => rfl
     | _ => rfl
    | _ => rfl
@[simp] theorem wp_mMeth0 {Q : Mi.D → En S → Prop} (i : Nat) (g : List Mi.D → List Arg → Option (Mi.D × List Mi.D)) : wp (mMeth0 i g) e Q X = wW e.sl[i]? (kMt1 i g mNil Q X e) := by
  unfold mMeth0; rw [wp_mMeth]
def wS (o : Option Slot) (Q : Mi.D → Prop) : Prop := match o with
  | some (.sh d) => Q d
  | _ => False
@[simp] theorem wS_sh (d : Mi.D) (Q : Mi.D → Prop) : wS (some (.sh d)) Q = Q d := (rfl)
def kAg2 (i : Nat) (Q : Fl → En S → Prop) (e : En S) (z : Mi.D) : Prop := Q .nx { e with sl := e.sl.set i (.sh z) }
@[simp] theorem kAg2_e {Q : Fl → En S → Prop} (i : Nat) (z : Mi.D) : kAg2 i Q e z = Q .nx { e with sl := e.sl.set i (.sh z) } := (rfl)
def kAg1 (i : Nat) (g : Mi.D → Mi.D → Option Mi.D) (Q : Fl → En S → Prop) (x y : Mi.D) (e : En S) : Prop := wO (g x y) (kAg2 i Q e)
@[simp] theorem kAg1_e {Q : Fl → En S → Prop} (i : Nat) (g : Mi.D → Mi.D → Option Mi.D) (x y : Mi.D) : kAg1 i g Q x y e = wO (g x y) (kAg2 i Q e) := (rfl)
def kAg (i : Nat) (g : Mi.D → Mi.D → Option Mi.D) (f : M S Mi.D) (Q : Fl → En S → Prop) (X : Er → En S → Prop) (e : En S) (x : Mi.D) : Prop := wp f e (kAg1 i g Q x) X
@[simp] theorem kAg_e {Q : Fl → En S → Prop} (i : Nat) (g : Mi.D → Mi.D → Option Mi.D) (f : M S Mi.D) (x : Mi.D) : kAg i g f Q X e x = wp f e (kAg1 i g Q x) X := (rfl)
@[simp] theorem wp_mAug {Q : Fl → En S → Prop} (i : Nat) (g : Mi.D → Mi.D → Option Mi.D) (f : M S Mi.D) : wp (mAug i g f) e Q X = wS e.sl[i]? (kAg i g f Q X e) := by
  unfold mAug wS wp
  dsimp only
  cases e.sl[i]? with
  | none => rfl
  | some s =>
    cases s with
    | sh x =>
      dsimp only
      rw [kAg_e]
      unfold bnd lft stV wp
      dsimp only
      cases f e with
      | ok y e1 => dsimp only; rw [kAg1_e]; unfold wO; cases g x y <;> rfl
      | _ => rfl
    | _ => rfl
/-- a target -/
def wG (m : M S Unit) (e : En S) (Q : En S → Prop) : Prop := match m e with
  | .ok _ e1 => Q e1
  | _ => False
@[simp] theorem wG_gN (i : Nat) (d : Mi.D) (Q : En S → Prop) : wG (gN i d) e Q = Q { e with sl := e.sl.set i (.sh d) } := (rfl)
@[simp] theorem wG_gT (g : List Mi.D → M S Unit) (ds : List Mi.D) (Q : En S → Prop) : wG (gT g (.tuple ds)) e Q = wG (g ds) e Q := (rfl)
@[simp] theorem wG_gE (Q : En S → Prop) : wG (gE []) e Q = Q e := (rfl)
def kG (m : M S Unit) (Q : En S → Prop) (e : En S) : Prop := wG m e Q
@[simp] theorem kG_e (m : M S Unit) (Q : En S → Prop) : kG m Q e = wG m e Q := (rfl)
@[simp] theorem wG_gC (g : Mi.D → M S Unit) (h : List Mi.D → M S Unit) (d : Mi.D) (r : List Mi.D) (Q : En S → Prop) : wG (gC g h (d :: r)) e Q = wG (g d) e (kG (h r) Q) := by
  unfold wG gC bnd
  dsimp only
  cases g d e <;> rfl
def kAs (g : Mi.D → M S Unit) (Q : Fl → En S → Prop) (d : Mi.D) (e : En S) : Prop := wG (g d) e (kC .nx Q)
@[simp] theorem kAs_e {Q : Fl → En S → Prop} (g : Mi.D → M S Unit) (d : Mi.D) : kAs g Q d e = wG (g d) e (kC .nx Q) := (rfl)
@[simp] theorem wp_mAsg {Q : Fl → En S → Prop} (f : M S Mi.D) (g : Mi.D → M S Unit) : wp (mAsg f g) e Q X = wp f e (kAs g Q) X := by
  unfold mAsg
  rw [wp_bnd]
  congr 1
  funext d e1
  rw [kAs_e]
  unfold wp wG
  dsimp only
  cases g d e1 <;> rfl
/-! loops -/
section
variable {Q : Fl → En S → Prop}
def loopQ (n : En S → Prop) (Q : Fl → En S → Prop) (fl : Fl) (e : En S) : Prop := match fl with
  | .nx => n e
  | .ct => n e
  | .bk => Q .nx e
  | .ret r => Q (.ret r) e
@[simp] theorem loopQ_nx (n : En S → Prop) : loopQ n Q .nx e = n e := (rfl)
@[simp] theorem loopQ_ct (n : En S → Prop) : loopQ n Q .ct e = n e := (rfl)
@[simp] theorem loopQ_bk (n : En S → Prop) : loopQ n Q .bk e = Q .nx e := (rfl)
@[simp] theorem loopQ_ret (n : En S → Prop) (r : R) : loopQ n Q (.ret r) e = Q (.ret r) e := (rfl)
def wLoop (g : Mi.D → M S Unit) (b : M S Fl) (ds : List Mi.D) (e : En S) (Q : Fl → En S → Prop) (X : Er → En S → Prop) : Prop := wp (loop g b ds) e Q X
def kFor (g : Mi.D → M S Unit) (b : M S Fl) (Q : Fl → En S → Prop) (X : Er → En S → Prop) (ds : List Mi.D) (e : En S) : Prop := wLoop g b ds e Q X
@[simp] theorem kFor_e (g : Mi.D → M S Unit) (b : M S Fl) (ds : List Mi.D) : kFor g b Q X ds e = wLoop g b ds e Q X := (rfl)
@[simp] theorem wp_mFor (f : M S (List Mi.D)) (g : Mi.D → M S Unit) (b : M S Fl) : wp (mFor f g b) e Q X = wp f e (kFor g b Q X) X := by unfold mFor; rw [wp_bnd]; rfl
theorem wLoop_nil (g : Mi.D → M S Unit) (b : M S Fl) : wLoop g b [] e Q X = Q .nx e := (rfl)
theorem wLoop_cons (g : Mi.D → M S Unit) (b : M S Fl) (d : Mi.D) (ds : List Mi.D) : wLoop g b (d :: ds) e Q X = wG (g d) e fun e1 => wp b e1 (loopQ (fun e2 => wLoop g b ds e2 Q X) Q) X := by
  unfold wLoop wG wp
  rw [loop]
  dsimp only
  cases g d e with
  | ok u e1 =>
    dsimp only
    cases b e1 with
    | ok fl e2 => cases fl <;> rfl
    | _ => rfl
  | _ => rfl
/-- a loop by an invariant of what is still to come -/
theorem wLoop_inv {g : Mi.D → M S Unit} {b : M S Fl} (I : List Mi.D → En S → Prop) {ds : List Mi.D} (h0 : I ds e) (hs : ∀ d ds e, I (d :: ds) e → wG (g d) e (wpK b (loopQ (I ds) Q) X)) (hd : ∀ e, I [] e → Q .nx e) : wLoop g b ds e Q X := by
  induction ds generalizing e with
  | nil => exact hd _ h0
  | cons d ds ih =>
    rw [wLoop_cons]
    have h := hs d ds e h0
    unfold wG at h ⊢
    cases q : g d e with
    | ok u e1 =>
      rw [q] at h
      dsimp only at h ⊢
      rw [wpK_e] at h
      unfold wp at h ⊢
      cases w : b e1 with
      | ok fl e2 =>
        rw [w] at h
        cases fl with
        | nx => exact ih h
        | ct => exact ih h
        | bk => exact h
        | ret r => exact h
      | err x e2 => rw [w] at h; exact h
      | stuck => rw [w] at h; exact h
    | err x e1 => rw [q] at h; exact h
    | stuck => rw [q] at h; exact h
/-- by an invariant of the number of turns -/
theorem wLoop_idx {g : Mi.D → M S Unit} {b : M S Fl} {ds : List Mi.D} (I : Nat → En S → Prop) (h0 : I 0 e) (hs : ∀ i d e, ds[i]? = some d → I i e → wG (g d) e (wpK b (loopQ (I (i + 1)) Q) X)) (hd : ∀ e, I ds.length e → Q .nx e) : wLoop g b ds e Q X := by
  refine wLoop_inv (fun r e => ∃ i, r = ds.drop i ∧ i ≤ ds.length ∧ I i e) ⟨0, rfl, Nat.zero_le _, h0⟩ (fun d r e ⟨i, h1, h2, h3⟩ => ?_) fun e ⟨i, h1, h2, h3⟩ => ?_
  · have hl : i < ds.length := by
      rcases Nat.lt_or_ge i ds.length with h | h
      · exact h
      · rw [List.drop_eq_nil_of_le h] at h1; cases h1
    rw [List.drop_eq_getElem_cons hl] at h1
    cases h1
    have h := hs i _ e (List.getElem?_eq_getElem hl) h3
    have up : ∀ {b : M S Fl} {e : En S}, wp b e (loopQ (I (i + 1)) Q) X → wp b e (loopQ (fun e2 => ∃ j, ds.drop (i + 1) = ds.drop j ∧ j ≤ ds.length ∧ I j e2) Q) X := fun {b e} z => by
      unfold wp at z ⊢
      cases q : b e with
      | ok fl e1 =>
        rw [q] at z
        cases fl with
        | nx => exact ⟨i + 1, rfl, hl, z⟩
        | ct => exact ⟨i + 1, rfl, hl, z⟩
        | bk => exact z
        | ret r => exact z
      | err x e1 => rw [q] at z; exact z
      | stuck => rw [q] at z; exact z
    unfold wG at h ⊢
    cases q : g ds[i] e with
    | ok u e1 => rw [q] at h; exact up h
    | err x e1 => rw [q] at h; exact h
    | stuck => rw [q] at h; exact h
  · have e2 : i = ds.length := by
      rcases Nat.lt_or_ge i ds.length with h | h
      · rw [List.drop_eq_getElem_cons h] at h1; cases h1
      · omega
    subst e2
    exact hd e h3
theorem rngD_len (lo : Int) (n : Nat) : (rngD lo n).length = n := by simp [rngD]
theorem rngD_get {lo : Int} {n i : Nat} {d : Mi.D} (h : (rngD lo n)[i]? = some d) : i < n ∧ d = .int (lo + i) := by
  unfold rngD at h
  rw [List.getElem?_map] at h
  obtain ⟨j, h1, h2⟩ := Option.map_eq_some_iff.mp h
  obtain ⟨h3, h4⟩ := List.getElem?_eq_some_iff.mp h1
  rw [List.getElem_range] at h4
  subst h4
  exact ⟨by simpa using h3, h2.symm⟩
/-- for x in range -/
theorem wLoop_rng {g : Mi.D → M S Unit} {b : M S Fl} {lo : Int} {n : Nat} (I : Nat → En S → Prop) (h0 : I 0 e) (hs : ∀ i e, i < n → I i e → wG (g (.int (lo + i))) e (wpK b (loopQ (I (i + 1)) Q) X)) (hd : ∀ e, I n e → Q .nx e) : wLoop g b (rngD lo n) e Q X := by
  refine wLoop_idx I h0 (fun i d e hd hi => ?_) fun e h => hd e (by rwa [rngD_len] at h)
  obtain ⟨h1, rfl⟩ := rngD_get hd
  exact hs i e h1 hi
/-- while -/
def kWh (b : M S Fl) (N : En S → Prop) (Q : Fl → En S → Prop) (X : Er → En S → Prop) (t : Bool) (e : En S) : Prop := wIf t e (wpK b (loopQ N Q) X) (kC .nx Q)
@[simp] theorem kWh_e (b : M S Fl) (N : En S → Prop) (t : Bool) : kWh b N Q X t e = wIf t e (wpK b (loopQ N Q) X) (kC .nx Q) := (rfl)
def wWhl (c : M S Bool) (b : M S Fl) (n : Nat) (e : En S) (Q : Fl → En S → Prop) (X : Er → En S → Prop) : Prop := wp (whl c b n) e Q X
@[simp] theorem wp_whl (c : M S Bool) (b : M S Fl) (n : Nat) : wp (whl c b n) e Q X = wWhl c b n e Q X := (rfl)
theorem wWhl_succ (c : M S Bool) (b : M S Fl) (n : Nat) : wWhl c b (n + 1) e Q X = wp c e (kWh b (fun e2 => wWhl c b n e2 Q X) Q X) X := by
  unfold wWhl
  rw [whl, wp_bnd]
  congr 1
  funext t e1
  cases t with
  | false => rfl
  | true =>
    show wp _ e1 Q X = wp b e1 (loopQ (fun e2 => wWhl c b n e2 Q X) Q) X
    unfold wp wWhl
    simp only [if_true]
    cases b e1 with
    | ok fl e2 => cases fl <;> rfl
    | _ => rfl
/-- by a measure: I m, each turn lets it fall -/
theorem wWhl_inv {c : M S Bool} {b : M S Fl} (I : Nat → En S → Prop) (hs : ∀ m e, I m e → wp c e (kWh b (fun e2 => ∃ k, k < m ∧ I k e2) Q X) X) {n m : Nat} (hn : m < n) (h0 : I m e) : wWhl c b n e Q X := by
  induction n generalizing m e with
  | zero => omega
  | succ n ih =>
    rw [wWhl_succ]
    have h := hs m e h0
    unfold wp at h ⊢
    cases q : c e with
    | ok t e1 =>
      rw [q] at h
      cases t with
      | false => exact h
      | true =>
        change wp b e1 _ X at h
        show wp b e1 _ X
        unfold wp at h ⊢
        cases w : b e1 with
        | ok fl e2 =>
          rw [w] at h
          cases fl with
          | nx => obtain ⟨k, h1, h2⟩ := h; exact ih (by omega) h2
          | ct => obtain ⟨k, h1, h2⟩ := h; exact ih (by omega) h2
          | bk => exact h
          | ret r => exact h
        | err x e2 => rw [w] at h; exact h
        | stuck => rw [w] at h; exact h
    | err x e1 => rw [q] at h; exact h
    | stuck => rw [q] at h; exact h
end
/-! comprehensions -/
theorem keepS_self (s : Slot) : keepS s = keepS s := (rfl)
/-- a comprehension whose element is a plain answer of the item, the state beside it free to move -/
theorem wp_mLc {Q : List Mi.D → En S → Prop} (l : List Nat) (m : M S (List Mi.D)) (g : Mi.D → M S Unit) (t : M S Bool) (f : M S Mi.D) : wp (mLc l m g t f) e Q X = wp m e (fun ds e0 => ds.length ≤ sizeLine ∧ wp (lcl l g t f ds) (wipeE l e0) (fun ys e1 => Q ys (resE l e0 e1)) fun _ _ => False) X := by
  unfold mLc
  rw [wp_bnd]
  congr 1
  funext ds e0
  unfold wp
  dsimp only
  by_cases h : ds.length ≤ sizeLine
  · rw [if_pos h]
    simp only [h, true_and]
    cases lcl l g t f ds (wipeE l e0) <;> rfl
  · rw [if_neg h]
    simp [h]
/-! defs -/
@[simp] theorem slot_d (x : Mi.D) : (Arg.d x).slot = .sh x := (rfl)
@[simp] theorem slot_t : Arg.tok.slot = .tok := (rfl)

/-- what a def's mirror answers -/
def Fn (fn : List Arg → S → FO S) (as : List Arg) (s : S) (P : R → S → Prop) (E : Er → S → Prop) : Prop := match fn as s with
  | .val r s1 => P r s1
  | .exc x s1 => E x s1
  | .stuck => False
def fnQ (P : R → S → Prop) (fl : Fl) (e : En S) : Prop := match fl with
  | .nx => P (.sh .none) e.st
  | .ret r => P r e.st
  | _ => False
@[simp] theorem fnQ_nx (P : R → S → Prop) : fnQ P .nx e = P (.sh .none) e.st := (rfl)
@[simp] theorem fnQ_ret (P : R → S → Prop) (r : R) : fnQ P (.ret r) e = P r e.st := (rfl)
theorem Fn_of {n : Nat} {m : M S Fl} {as : List Arg} {s : S} {P : R → S → Prop} {E : Er → S → Prop} (h : wp m ⟨as.map Arg.slot ++ List.replicate (n - as.length) .un, s⟩ (fnQ P) fun x e => E x e.st) : Fn (fnOf n m) as s P E := by
  unfold Fn fnOf
  unfold wp at h
  cases q : m ⟨as.map Arg.slot ++ List.replicate (n - as.length) .un, s⟩ with
  | ok fl e1 =>
    rw [q] at h
    cases fl with
    | nx => exact h
    | ret r => exact h
    | bk => exact h
    | ct => exact h
  | err x e1 => rw [q] at h; exact h
  | stuck => rw [q] at h; exact h
theorem Fn.imp {fn : List Arg → S → FO S} {as : List Arg} {s : S} {P P' : R → S → Prop} {E E' : Er → S → Prop} (h : Fn fn as s P E) (i : ∀ r s, P r s → P' r s) (j : ∀ x s, E x s → E' x s) : Fn fn as s P' E' := by
  unfold Fn at h ⊢
  cases q : fn as s with
  | val r s1 => rw [q] at h; exact i _ _ h
  | exc x s1 => rw [q] at h; exact j _ _ h
  | stuck => rw [q] at h; exact h
def wCall (n : Nat) (fn : List Arg → S → FO S) (as : List Arg) (e : En S) (Q : Mi.D → En S → Prop) (X : Er → En S → Prop) : Prop := as.length = n ∧ Fn fn as e.st (fun r s1 => Q r.d { e with st := s1 }) fun x s1 => X x { e with st := s1 }
def kCall (n : Nat) (fn : List Arg → S → FO S) (Q : Mi.D → En S → Prop) (X : Er → En S → Prop) (as : List Arg) (e : En S) : Prop := wCall n fn as e Q X
@[simp] theorem kCall_e {Q : Mi.D → En S → Prop} (n : Nat) (fn : List Arg → S → FO S) (as : List Arg) : kCall n fn Q X as e = wCall n fn as e Q X := (rfl)
@[simp] theorem wp_mCall {Q : Mi.D → En S → Prop} (n : Nat) (fn : List Arg → S → FO S) (g : M S (List Arg)) : wp (mCall n fn g) e Q X = wp g e (kCall n fn Q X) X := by
  unfold mCall kCall wCall Fn
  rw [wp_bnd]
  congr 1
  funext as e1
  unfold wp
  dsimp only
  by_cases h : as.length = n
  · rw [if_pos h]
    simp only [h, true_and]
    cases fn as e1.st <;> rfl
  · rw [if_neg h]
    simp [h]
theorem wCall_of {n : Nat} {fn : List Arg → S → FO S} {as : List Arg} {Q : Mi.D → En S → Prop} {P : R → S → Prop} {E : Er → S → Prop} (h : Fn fn as e.st P E) (k : ∀ r s1, P r s1 → Q r.d { e with st := s1 }) (kx : ∀ x s1, E x s1 → X x { e with st := s1 }) (hl : as.length = n := by rfl) : wCall n fn as e Q X := ⟨hl, h.imp k kx⟩
/-- .. that lets nothing out -/
theorem wCall_val {n : Nat} {fn : List Arg → S → FO S} {as : List Arg} {Q : Mi.D → En S → Prop} {P : R → S → Prop} (h : Fn fn as e.st P fun _ _ => False) (k : ∀ r s1, P r s1 → Q r.d { e with st := s1 }) (hl : as.length = n := by rfl) : wCall n fn as e Q X := wCall_of h k (fun _ _ z => z.elim) hl
theorem Fn_lift {fn : List Arg → Unit → FO Unit} {as : List Arg} {s : S} {P : R → S → Prop} {E : Er → S → Prop} (h : Fn fn as () (fun r _ => P r s) fun x _ => E x s) (ht : noTok as = true := by rfl) : Fn (lift fn) as s P E := by
  unfold Fn lift
  rw [if_pos ht]
  unfold Fn at h
  cases q : fn as () with
  | val r s1 => rw [q] at h; exact h
  | exc x s1 => rw [q] at h; exact h
  | stuck => rw [q] at h; exact h
end
end Mi
set_option maxHeartbeats 4000000
namespace Mi
open PySem PySem.Spec PyProof.Rows L2
section
variable {S α β : Type} {e e' : En S} {X : Er → En S → Prop}
/-! comprehensions whose elements each answer P, whatever the thing beside the frames does -/
def kEl (l : List Nat) (sw : List Slot) (P : Mi.D → Prop) (y : Mi.D) (e : En S) : Prop := P y ∧ (wipeE l e).sl = sw
@[simp] theorem kEl_e (l : List Nat) (sw : List Slot) (P : Mi.D → Prop) (y : Mi.D) : kEl l sw P y e = (P y ∧ (wipeE l e).sl = sw) := (rfl)
inductive RelL (P : Mi.D → Mi.D → Prop) : List Mi.D → List Mi.D → Prop
  | nil : RelL P [] []
  | cons {d y : Mi.D} {ds ys : List Mi.D} (h : P d y) (r : RelL P ds ys) : RelL P (d :: ds) (y :: ys)
theorem RelL.len {P : Mi.D → Mi.D → Prop} {ds ys : List Mi.D} (h : RelL P ds ys) : ys.length = ds.length := by
  induction h with
  | nil => rfl
  | cons _ _ ih => simp [ih]
theorem RelL.all {P : Mi.D → Mi.D → Prop} {ds ys : List Mi.D} (h : RelL P ds ys) : ∀ y ∈ ys, ∃ d ∈ ds, P d y := by
  induction h with
  | nil => intro y hy; cases hy
  | cons h r ih =>
    intro y hy
    rcases List.mem_cons.mp hy with rfl | hy
    · exact ⟨_, List.mem_cons_self, h⟩
    · obtain ⟨d, h1, h2⟩ := ih y hy; exact ⟨d, List.mem_cons_of_mem _ h1, h2⟩
theorem RelL.eq {f : Mi.D → Mi.D} {ds ys : List Mi.D} (h : RelL (fun d y => y = f d) ds ys) : ys = ds.map f := by
  induction h with
  | nil => rfl
  | cons h _ ih => rw [h, ih]; rfl
theorem wLcl {l : List Nat} {g : Mi.D → M S Unit} {f : M S Mi.D} {sw : List Slot} (P : Mi.D → Mi.D → Prop) : ∀ (ds : List Mi.D) (e : En S), e.sl = sw → (∀ d ∈ ds, ∀ s : S, wG (g d) ⟨sw, s⟩ (wpK f (kEl l sw (P d)) fun _ _ => False)) →
    wp (lcl l g tYesM f ds) e (fun ys e1 => RelL P ds ys ∧ e1.sl = sw) fun _ _ => False
  | [], e, he, _ => ⟨.nil, he⟩
  | d :: ds, e, he, h => by
    have h1 := h d List.mem_cons_self e.st
    have ee : e = ⟨sw, e.st⟩ := by cases e; cases he; rfl
    rw [← ee] at h1
    unfold wG at h1
    unfold wp
    rw [lcl]
    dsimp only
    cases q : g d e with
    | ok u e1 =>
      rw [q] at h1
      dsimp only at h1 ⊢
      rw [wpK_e] at h1
      unfold wp at h1
      unfold tYesM bnd rt
      dsimp only
      rw [if_pos rfl]
      cases w : f e1 with
      | ok y e3 =>
        rw [w] at h1
        obtain ⟨h2, h3⟩ := h1
        dsimp only
        have h4 := wLcl P ds (wipeE l e3) h3 fun d' hd s => h d' (List.mem_cons_of_mem _ hd) s
        unfold wp at h4
        unfold tYesM rt at h4
        cases z : lcl l g (fun e : En S => Out.ok true e) f ds (wipeE l e3) with
        | ok ys e4 => rw [z] at h4; exact ⟨.cons h2 h4.1, h4.2⟩
        | err x e4 => rw [z] at h4; exact h4
        | stuck => rw [z] at h4; exact h4
      | err x e3 => rw [w] at h1; exact h1.elim
      | stuck => rw [w] at h1; exact h1.elim
    | err x e1 => rw [q] at h1; exact h1.elim
    | stuck => rw [q] at h1; exact h1.elim
def wLcs (l : List Nat) (g : Mi.D → M S Unit) (t : M S Bool) (f : M S Mi.D) (ds : List Mi.D) (e : En S) (Q : List Mi.D → En S → Prop) : Prop := ds.length ≤ sizeLine ∧ wp (lcl l g t f ds) (wipeE l e) (fun ys e1 => Q ys (resE l e e1)) fun _ _ => False
def kLc (l : List Nat) (g : Mi.D → M S Unit) (t : M S Bool) (f : M S Mi.D) (Q : List Mi.D → En S → Prop) (ds : List Mi.D) (e : En S) : Prop := wLcs l g t f ds e Q
@[simp] theorem kLc_e {Q : List Mi.D → En S → Prop} (l : List Nat) (g : Mi.D → M S Unit) (t : M S Bool) (f : M S Mi.D) (ds : List Mi.D) : kLc l g t f Q ds e = wLcs l g t f ds e Q := (rfl)
@[simp] theorem wp_mLcK {Q : List Mi.D → En S → Prop} (l : List Nat) (m : M S (List Mi.D)) (g : Mi.D → M S Unit) (t : M S Bool) (f : M S Mi.D) : wp (mLc l m g t f) e Q X = wp m e (kLc l g t f Q) X := by
  rw [wp_mLc]; rfl
theorem wLcs_of {Q : List Mi.D → En S → Prop} {l : List Nat} {g : Mi.D → M S Unit} {f : M S Mi.D} {ds : List Mi.D} (P : Mi.D → Mi.D → Prop) (hl : ds.length ≤ sizeLine) (h : ∀ d ∈ ds, ∀ s : S, wG (g d) ⟨(wipeE l e).sl, s⟩ (wpK f (kEl l (wipeE l e).sl (P d)) fun _ _ => False))
    (k : ∀ ys s, RelL P ds ys → Q ys ⟨(resE l e ⟨(wipeE l e).sl, s⟩).sl, s⟩) : wLcs l g tYesM f ds e Q := by
  refine ⟨hl, ?_⟩
  have h1 := wLcl P ds (wipeE l e) rfl h
  unfold wp at h1 ⊢
  cases z : lcl l g tYesM f ds (wipeE l e) with
  | ok ys e4 =>
    rw [z] at h1
    have := k ys e4.st h1.1
    obtain ⟨sl4, s4⟩ := e4
    have h2 : sl4 = (wipeE l e).sl := h1.2
    subst h2
    exact this
  | err x e4 => rw [z] at h1; exact h1
  | stuck => rw [z] at h1; exact h1
/-! errors -/
def kEr (X : Er → En S → Prop) (x : Er) (e : En S) : Prop := X x e
@[simp] theorem kEr_e (x : Er) : kEr X x e = X x e := (rfl)
@[simp] theorem wp_mRaise {Q : Fl → En S → Prop} (m : M S Er) : wp (mRaise m) e Q X = wp m e (kEr X) X := by
  unfold mRaise; rw [wp_bnd]; rfl
def mkOf (n : Str) (flds : List Str) (fnp : List Arg → Unit → FO Unit) (as : List Arg) : Option Er := (argD as).bind fun xs => if xs.length = flds.length then (runAll fnp xs).map fun rs => Er.mk n (zipR flds (rs.map R.d) []) else none
@[simp] theorem wp_mMk {Q : Er → En S → Prop} (n : Str) (flds : List Str) (fnp : List Arg → Unit → FO Unit) (m : M S (List Arg)) : wp (mMk n flds fnp m) e Q X = wp m e (kA (mkOf n flds fnp) Q) X := by
  unfold mMk; rw [wp_bnd]; simp only [wp_lft]; rfl
theorem runAll1 {fnp : List Arg → Unit → FO Unit} {d : Mi.D} {P : R → Prop} (h : Fn fnp [.d d] () (fun r _ => P r) fun _ _ => False) : ∃ r, runAll fnp [d] = some [r] ∧ P r := by
  unfold Fn at h
  unfold runAll
  cases q : fnp [.d d] () with
  | val r u => rw [q] at h; exact ⟨r, rfl, h⟩
  | exc x u => rw [q] at h; exact h.elim
  | stuck => rw [q] at h; exact h.elim
def kHd (h : Hm S) (Q : Fl → En S → Prop) (fl : Fl) (e : En S) : Prop := noEx (h.Un e).sl = true ∧ Q fl (h.Un e)
@[simp] theorem kHd_e {Q : Fl → En S → Prop} (h : Hm S) (fl : Fl) : kHd h Q fl e = (noEx (h.Un e).sl = true ∧ Q fl (h.Un e)) := (rfl)
def wHs (sub : Str → Str → Option Bool) (l : List (Hm S)) (x : Er) (e : En S) (Q : Fl → En S → Prop) (X : Er → En S → Prop) : Prop := match hgo sub l x e with
  | .ok fl e1 => Q fl e1
  | .err y e1 => X y e1
  | .stuck => False
theorem wHs_hit {sub : Str → Str → Option Bool} {h : Hm S} {l : List (Hm S)} {x : Er} {Q : Fl → En S → Prop} (hs : sub x.cls h.c = some true) (k : wp h.m (h.In x e) (kHd h Q) fun _ _ => False) : wHs sub (h :: l) x e Q X := by
  unfold wHs hgo
  rw [hs]
  dsimp only
  unfold hend
  unfold wp at k
  cases q : h.m (h.In x e) with
  | ok fl e1 => rw [q] at k; obtain ⟨k1, k2⟩ := k; dsimp only; rw [if_pos k1]; exact k2
  | err y e1 => rw [q] at k; exact k.elim
  | stuck => rw [q] at k; exact k.elim
theorem wHs_miss {sub : Str → Str → Option Bool} {h : Hm S} {l : List (Hm S)} {x : Er} {Q : Fl → En S → Prop} (hs : sub x.cls h.c = some false) (k : wHs sub l x e Q X) : wHs sub (h :: l) x e Q X := by
  unfold wHs at k ⊢
  unfold hgo
  rw [hs]
  exact k
def kTr (sub : Str → Str → Option Bool) (l : List (Hm S)) (Q : Fl → En S → Prop) (X : Er → En S → Prop) (x : Er) (e : En S) : Prop := noEx e.sl = true ∧ wHs sub l x e Q X
@[simp] theorem kTr_e {Q : Fl → En S → Prop} (sub : Str → Str → Option Bool) (l : List (Hm S)) (x : Er) : kTr sub l Q X x e = (noEx e.sl = true ∧ wHs sub l x e Q X) := (rfl)
@[simp] theorem wp_mTry {Q : Fl → En S → Prop} (sub : Str → Str → Option Bool) (b : M S Fl) (l : List (Hm S)) : wp (mTry sub b l) e Q X = wp b e Q (kTr sub l Q X) := by
  unfold mTry wp
  dsimp only
  cases b e with
  | ok fl e1 => rfl
  | err x e1 =>
    dsimp only
    rw [kTr_e]
    by_cases h : noEx e1.sl = true
    · rw [if_pos h]; simp only [h, true_and]; unfold wHs; cases hgo sub l x e1 <;> rfl
    · rw [if_neg h]; simp [h]
  | stuck => rfl
def wX (o : Option Slot) (Q : Er → Prop) : Prop := match o with
  | some (.ex x) => Q x
  | _ => False
@[simp] theorem wX_e (x : Er) (Q : Er → Prop) : wX (some (.ex x)) Q = Q x := (rfl)
def kAt (n c : Str) (Q : Mi.D → En S → Prop) (e : En S) (x : Er) : Prop := x.cls = c ∧ wO (x.fs.lookup n) (kO Q e)
@[simp] theorem kAt_e {Q : Mi.D → En S → Prop} (n c : Str) (x : Er) : kAt n c Q e x = (x.cls = c ∧ wO (x.fs.lookup n) (kO Q e)) := (rfl)
@[simp] theorem wp_mAtt {Q : Mi.D → En S → Prop} (j : Nat) (n c : Str) : wp (mAtt j n c : M S Mi.D) e Q X = wX e.sl[j]? (kAt n c Q e) := by
  unfold mAtt wp wX
  dsimp only
  cases e.sl[j]? with
  | none => rfl
  | some s =>
    cases s with
    | ex x =>
      dsimp only
      rw [kAt_e]
      by_cases h : x.cls = c
      · rw [if_pos h]; simp only [h, true_and]; unfold wO; cases x.fs.lookup n <;> rfl
      · rw [if_neg h]; simp [h]
    | _ => rfl
def kIs (sub : Str → Str → Option Bool) (ns : List Str) (Q : Mi.D → En S → Prop) (e : En S) (x : Er) : Prop := wO ((isAny sub x.cls ns).map PyData.bool) (kO Q e)
@[simp] theorem kIs_e {Q : Mi.D → En S → Prop} (sub : Str → Str → Option Bool) (ns : List Str) (x : Er) : kIs sub ns Q e x = wO ((isAny sub x.cls ns).map PyData.bool) (kO Q e) := (rfl)
@[simp] theorem wp_mIsE {Q : Mi.D → En S → Prop} (sub : Str → Str → Option Bool) (j : Nat) (ns : List Str) : wp (mIsE sub j ns : M S Mi.D) e Q X = wX e.sl[j]? (kIs sub ns Q e) := by
  unfold mIsE wp wX
  dsimp only
  cases e.sl[j]? with
  | none => rfl
  | some s =>
    cases s with
    | ex x => dsimp only; rw [kIs_e]; unfold lft wO; cases (isAny sub x.cls ns).map PyData.bool <;> rfl
    | _ => rfl
end
/-- a call of a def that knows nothing of the thing beside the frames -/
theorem wCall_lift {S : Type} {e : En S} {X : Er → En S → Prop} {n : Nat} {fn : List Arg → Unit → FO Unit} {as : List Arg} {Q : Mi.D → En S → Prop} {P : R → Prop} (h : Fn fn as () (fun r _ => P r) fun _ _ => False) (k : ∀ r, P r → Q r.d e) (ht : noTok as = true := by rfl) (hl : as.length = n := by rfl) : wCall n (lift fn) as e Q X :=
  ⟨hl, (Fn_lift (s := e.st) (P := fun r s1 => P r ∧ s1 = e.st) (E := fun _ _ => False) (h.imp (fun r _ q => ⟨q, rfl⟩) fun _ _ z => z) ht).imp (fun r s1 q => by obtain ⟨q1, q2⟩ := q; subst q2; exact k r q1) fun _ _ z => z.elim⟩
/-! arithmetic of the mirrors -/
@[simp] theorem dAdd_i (a b : Int) : dAdd (.int a) (.int b) = some (.int (a + b)) := (rfl)
@[simp] theorem dAddI_i (a b : Int) : dAddI (.int a) (.int b) = some (.int (a + b)) := (rfl)
@[simp] theorem dAdd_l (a b : List Mi.D) : dAdd (.list a) (.list b) = if a.length + b.length ≤ sizeLine then some (.list (a ++ b)) else none := (rfl)
@[simp] theorem dSub_i (a b : Int) : dSub (.int a) (.int b) = some (.int (a - b)) := (rfl)
@[simp] theorem dMul_i (a b : Int) : dMul (.int a) (.int b) = if mulOk a b then some (.int (a * b)) else none := (rfl)
@[simp] theorem dMul_l (a : List Mi.D) (b : Int) : dMul (.list a) (.int b) = if repOk a b then some (.list (List.replicate b.toNat a).flatten) else none := (rfl)
@[simp] theorem dDiv_i (a b : Int) : dDiv (.int a) (.int b) = if divOk b then some (.int (a / b)) else none := (rfl)
@[simp] theorem dMod_i (a b : Int) : dMod (.int a) (.int b) = if 0 < b then some (.int (a % b)) else none := (rfl)
@[simp] theorem dPow_i (a b : Int) : dPow (.int a) (.int b) = if powOk a b then some (.int (a ^ b.toNat)) else none := (rfl)
@[simp] theorem dNeg_i (a : Int) : dNeg (.int a) = some (.int (-a)) := (rfl)
@[simp] theorem dLt_i (a b : Int) : dLt (.int a) (.int b) = some (.bool (decide (a < b))) := (rfl)
@[simp] theorem dLe_i (a b : Int) : dLe (.int a) (.int b) = some (.bool (decide (a ≤ b))) := (rfl)
@[simp] theorem dGt_i (a b : Int) : dGt (.int a) (.int b) = some (.bool (decide (b < a))) := (rfl)
@[simp] theorem dGe_i (a b : Int) : dGe (.int a) (.int b) = some (.bool (decide (b ≤ a))) := (rfl)
theorem eqv_i (a b : Int) : PyData.eqv (.int a) (.int b) = decide (a = b) := (rfl)
@[simp] theorem dEq_i (a b : Int) : dEq (.int a) (.int b) = some (.bool (decide (a = b))) := by
  unfold dEq
  rw [if_pos ⟨rfl, rfl⟩, eqv_i]
@[simp] theorem dNe_i (a b : Int) : dNe (.int a) (.int b) = some (.bool (!decide (a = b))) := by
  unfold dNe
  rw [if_pos ⟨rfl, rfl⟩, eqv_i]
@[simp] theorem gLen_l (xs : List Mi.D) : gLen [.d (.list xs)] = some (.int xs.length) := (rfl)
@[simp] theorem gLen_t (xs : List Mi.D) : gLen [.d (.tuple xs)] = some (.int xs.length) := (rfl)
@[simp] theorem gInt_i (i : Int) : gInt [.d (.int i)] = some (.int i) := (rfl)
@[simp] theorem gAbs_i (i : Int) : gAbs [.d (.int i)] = some (.int (if i < 0 then -i else i)) := (rfl)
@[simp] theorem gMin2_i (i j : Int) : gMin2 [.d (.int i), .d (.int j)] = some (.int (if j < i then j else i)) := (rfl)
@[simp] theorem gMax2_i (i j : Int) : gMax2 [.d (.int i), .d (.int j)] = some (.int (if j > i then j else i)) := (rfl)
@[simp] theorem gTup_l (xs : List Mi.D) : gTup [.d (.list xs)] = some (.tuple xs) := (rfl)
@[simp] theorem gLenO_e (xs : List Mi.D) : gLenO xs = some (.int xs.length) := (rfl)
@[simp] theorem gTupO_e (xs : List Mi.D) : gTupO xs = some (.tuple xs) := (rfl)
@[simp] theorem gStr_i (i : Int) : gStr [.d (.int i)] = if i.natAbs.log2 < 1920 then some (.str (toString i)) else none := (rfl)
@[simp] theorem gSum_l (xs : List Mi.D) : gSum [.d (.list xs)] = (toInts xs).map fun ns => .int ns.sum := (rfl)
@[simp] theorem gAppend_d (xs : List Mi.D) (d : Mi.D) : gAppend xs [.d d] = if xs.length < sizeLine then some (.none, xs ++ [d]) else none := (rfl)
@[simp] theorem argD_nil : argD [] = some [] := (rfl)
@[simp] theorem argD_cons (x : Mi.D) (as : List Arg) : argD (.d x :: as) = (argD as).map (x :: ·) := (rfl)
theorem capL_of {ds : List Mi.D} (h : ds.length ≤ sizeLine) : capL ds = some ds := by unfold capL; rw [if_pos h]
@[simp] theorem capL_e (ds : List Mi.D) : capL ds = if ds.length ≤ sizeLine then some ds else none := (rfl)
@[simp] theorem R_sh (d : Mi.D) : (R.sh d).d = d := (rfl)
@[simp] theorem R_fr (xs : List Mi.D) : (R.fr xs).d = .list xs := (rfl)
theorem ix_at {xs : List Mi.D} {i : Int} (h0 : 0 ≤ i) (h1 : i < xs.length) : ∃ d, xs[i.toNat]? = some d ∧ d ∈ xs ∧ dIx (.list xs) (.int i) = some d ∧ dIx (.tuple xs) (.int i) = some d := by
  have hl : i.toNat < xs.length := by omega
  have e : i = (i.toNat : Int) := by omega
  have q : xs[i.toNat]? = some xs[i.toNat] := List.getElem?_eq_getElem hl
  have a : atI xs i = some xs[i.toNat] := by
    have := atI_nat q
    rw [← e] at this
    exact this
  exact ⟨_, q, List.getElem_mem hl, a, a⟩
end Mi
set_option maxHeartbeats 4000000
namespace PySem
open Sem (wp)
theorem mi_enumerate_new {v : Value} {o : Obj} {H : Heap → Prop} (B : Begins v o H) :
    Meets (Builtin.«enumerate.__new__» ⟨[.type "enumerate", v], []⟩) (fun _ R s => H s.heap ∧
      R (.ok (.ret (.ref (s.heap.push o).objs.size))) { s with heap := (s.heap.push o).push { cls := .type "enumerate", data := .fields #[.none, .bool false, .ref s.heap.objs.size, rawInt 0, .none, .none] } }) :=
  .of_wp fun prog w A R s h => by
    obtain ⟨hp, g, d, tk, os⟩ := s; obtain ⟨h1, h⟩ := h
    have hsub := sub_enumerate
    have q1 : ∀ {A' : Around} {E : Value → Shared → Prop} {Q : Value → Shared → Prop}, Q (.ref hp.objs.size) ⟨hp.push o, g, d, tk, os⟩ → wpAny (model prog w) A' (pyIter v) Q E ⟨hp, g, d, tk, os⟩ :=
      fun q => B.iter prog w _ _ ⟨hp, g, d, tk, os⟩ _ h1 q
    wp_walk using q1
    refine wpAny_stack_any fun st => wpAny_pure ?_
    split
    · rename_i c _ _ _ _ _
      cases (c == Value.type "enumerate")
      · wp_walk using q1
        exact ⟨_, rfl, h⟩
      · wp_walk using q1
        exact ⟨_, rfl, h⟩
    · wp_walk using q1
      exact ⟨_, rfl, h⟩
theorem mi_call_enumerate {prog : Program} {w : World} {A : Around} {E : Value → Shared → Prop} {s : Shared} {v : Value} {o : Obj} {H : Heap → Prop} (B : Begins v o H) {Q : Value → Shared → Prop} (h1 : H s.heap)
    (h : ∀ h', IsEnum h' (s.heap.objs.size + 1) s.heap.objs.size 0 .none → h'.get? s.heap.objs.size = some o → h'.objs.size = s.heap.objs.size + 2 →
      (∀ b o, s.heap.get? b = some o → h'.get? b = some o) → Q (.ref (s.heap.objs.size + 1)) { s with heap := h' }) :
    wpAny (model prog w) A (call (.type "enumerate") [v]) Q E s := by
  refine callType_new F.called_enumerate (by decide) (F.typeCall_enumerate_1 _) (F.newCall_enumerate_1 _) (fun obj => F.args_object_init_2 obj _) F.entry_enumerate_new
    (mi_enumerate_new B) ⟨h1, ?_⟩
  have hz : (s.heap.push o).objs.size = s.heap.objs.size + 1 := Heap.size_push ..
  show _ ∧ _
  rw [hz]
  have he : IsEnum ((s.heap.push o).push { cls := .type "enumerate", data := .fields #[.none, .bool false, .ref s.heap.objs.size, rawInt 0, .none, .none] }) (s.heap.objs.size + 1) s.heap.objs.size 0 .none := by
    have := Heap.get?_push_size (s.heap.push o) (o := { cls := .type "enumerate", data := .fields #[.none, .bool false, .ref s.heap.objs.size, rawInt 0, .none, .none] }) rfl
    rw [hz] at this; exact this
  exact ⟨⟨_, he, rfl⟩, h _ he (Heap.get?_push_of_some _ (Heap.get?_push_size _ B.free)) (by rw [Heap.size_push, hz]) fun b o x => Heap.get?_push_of_some _ (Heap.get?_push_of_some _ x)⟩
end PySem
namespace Mi
open PySem PySem.Spec PyProof.Rows L2
/-- the tuple at a as it stands at each turn, each item in a new pair -/
def IteT (K : PySem.W.Frag) (a : Addr) : It :=
  ⟨fun i H => ∃ (xs : List V) (x : V), SqT K H a xs ∧ xs[i]? = some x, fun i H v H' => ∃ T x, v = .ref T ∧ H T = none ∧ H' = upd H T (.tup [.int (i : Nat), x]) ∧ ∀ xs, SqT K H a xs → xs[i]? = some x, fun i H => ∃ xs : List V, SqT K H a xs ∧ xs.length = i⟩
theorem turn_enumT {P : Program} {w : World} {K : PySem.W.Frag} {elts : List Expr} {kk : Nat} {tpos : Pos} (a e it : Addr) :
    Turn P w K (.Tuple elts kk tpos) (IteT K a) [e, it] e (fun i h => (∃ old, IsEnum h e it ((i : Nat) : Int) old) ∧ h.IsTupleIter it a i ∧ e ≠ it ∧ a ≠ it ∧ a ≠ e) where
  mem := by simp
  obj := fun i h st b hb => by
    obtain ⟨⟨old, he⟩, ⟨o, ho, hc, hd⟩, _⟩ := st
    have e' : b = e ∨ b = it := by simpa using hb
    rcases e' with z | z
    · rw [z]; exact ⟨_, he, fun v q => nomatch q⟩
    · rw [z]; exact ⟨o, ho, fun v q => by rw [hd] at q; cases q⟩
  keep := fun i h h' st k => let ⟨⟨old, he⟩, hi, hne⟩ := st; ⟨⟨old, k e (by simp) _ he⟩, hi.at fun o q => k it (by simp) o q, hne⟩
  item := by
    intro X hP hw hK hc i pins s σ H E I hf st hg
    subst hP hw hK
    obtain ⟨⟨old, he⟩, hit, hne, hai, hae⟩ := st
    obtain ⟨xs, x, hq, hx⟩ := hg
    obtain ⟨its, rv, p, hz⟩ := I.tuple hq
    obtain ⟨u, hu, ru⟩ := rv.get hx
    have hel : e < s.heap.objs.size := Heap.lt_size he
    have hil : it < s.heap.objs.size := by obtain ⟨_, q, _⟩ := hit; exact Heap.lt_size q
    have hxi : its[i]? = some u := hu
    have hi : i < its.toArray.size := by
      have := (List.getElem?_eq_some_iff.mp hxi).1
      simpa using this
    refine wpAny_pyNext_enum_itemD (Draws.tuple (prog := X.prog) (w := X.w) (A := X.A.in1) (I.ok.hd hc) it a hai its.toArray) he ⟨hit, p⟩ hi hne (by simp only [List.mem_cons, List.not_mem_nil, or_false]; rintro (z | z); exact hne z; exact hae z.symm) fun y h' tk hy ho st' hT hsz hk => ?_
    have hyu : y = u := by
      have : its[i]? = some y := by simpa using hy
      rw [hxi] at this
      exact (Option.some.inj this).symm
    subst hyu
    refine ⟨_, rfl, wpAny_letOwnedTupleGo_enum (s := { s with heap := h', toks := tk + 1 }) ho fun h'' he' sb => ?_⟩
    have hT2 : h''.get? s.heap.objs.size = some { cls := .type "tuple", data := .seq #[.int i tk, y] } := (sb.2 _ (Nat.ne_of_gt hel)).trans hT
    have new : ObjOk X.prog X.w (upd H s.heap.objs.size (.tup [.int (i : Nat), x])) h'' s.heap.objs.size (.tup [.int (i : Nat), x]) :=
      ⟨by show 2 ≤ sizeLine; decide, [.int i tk, y], .cons ⟨_, rfl⟩ (.cons ru .nil), ⟨_, hT2, rfl, _, rfl⟩⟩
    have I1 : Inv X pins σ (upd H s.heap.objs.size (.tup [.int (i : Nat), x])) { s with heap := h'', toks := tk + 1 } :=
      I.turnedNew (ch := [e, it]) (fun b ob hb q => (sb.2 b (fun z => hb (by simp [z]))).trans (hk b ob (fun z => hb (by simp [z])) (fun z => hb (by simp [z])) q)) hf (Nat.le_refl _) new
    refine ⟨.ref s.heap.objs.size, _, I1, rfl, ⟨_, x, rfl, I.hok.fresh (Nat.le_refl _), rfl, fun ys hy => by rw [I.tuple_inj hy hq]; exact hx⟩, ⟨⟨y, ?_⟩, st'.1.at fun o q => (sb.2 it (Ne.symm hne)).trans q, hne, hai, hae⟩, fun b hb => ?_⟩
    · have e1 : ((i + 1 : Nat) : Int) = (i : Int) + 1 := by omega
      rw [e1]; exact he'
    · have hb' : b < s.heap.objs.size := by
        have e' : b = e ∨ b = it := by simpa using hb
        rcases e' with z | z
        · rw [z]; exact hel
        · rw [z]; exact hil
      rw [upd_ne (Nat.ne_of_lt hb')]
      exact (hf b hb).1
  done := by
    intro X hP hw hK hc i pins s σ H E I hf st hg
    subst hP hw hK
    obtain ⟨⟨old, he⟩, hit, hne, hai, hae⟩ := st
    obtain ⟨xs, hq, hx⟩ := hg
    obtain ⟨its, rv, p, hz⟩ := I.tuple hq
    obtain ⟨f0, f1, f2, f3, f4, f5⟩ := hf it (by simp)
    have hl := rv.length
    have hn : i = its.toArray.size := by simp; omega
    exact wpAny_pyNext_enum_endD (Draws.tuple (prog := X.prog) (w := X.w) (A := X.A.in1) (I.ok.hd hc) it a hai its.toArray) he ⟨by rw [← hn]; exact hit, p⟩ fun h' eb => ⟨rfl, I.turned (t' := s.toks) (fun b o hb q => eb b o hb q) f0 f1 f3 f4 f5⟩
  self := fun A i s Q E st h => let ⟨⟨_, he⟩, _⟩ := st; wpAny_pyIter_enum he h
end Mi
namespace Mi
open PySem PySem.Spec PyProof.Rows L2
def iEnumT (K : PySem.W.Frag) (ta : TA) : TI := fun σ H R => ta σ H fun vs H1 => ∃ a xs, vs = [.ref a] ∧ SqT K H1 a xs ∧ R (IteT K a) H1
theorem pi_enumT {X : Cx} {e : Expr} {ta : TA} {p pos tpos : Pos} {elts : List Expr} {kk : Nat} (hg : Gl X "enumerate") (hm : X.mg "enumerate" = none) (ha : PA X [e] ta) (hs : starEach [e] X.env = [(false, eval e X.env)] := by rfl) :
    PI X (.Tuple elts kk tpos) (.Call (.Name "enumerate" p) [e] [] pos) (iEnumT X.K ta) := by
  refine ⟨fun pins s σ H R I h => ?_⟩
  refine Call_ (ld_blt I hg hm boot_enumerate (PyProof.Rows.callWith_type1 (thn (ha.run pos pins s σ H _ I h) fun us s1 ⟨vs, H1, I1, r1, q1⟩ => ?_) hs rfl))
  obtain ⟨a, xs, ex, hq, q⟩ := q1
  subst ex
  cases r1 with
  | cons r rr =>
    cases rr
    cases r
    obtain ⟨its, rv, p', hz⟩ := I1.tuple hq
    have ha1 : a < s1.heap.objs.size := by obtain ⟨o, ho, _⟩ := p'; exact Heap.lt_size ho
    refine mi_call_enumerate (begins_tuple a its.toArray) p' fun h' he hit hsz hk => wpAny_pyIter_enum he ?_
    have I2 : Inv X pins σ H1 { s1 with heap := h' } := I1.kept (t' := s1.toks) hk
    refine ⟨s1.heap.objs.size + 1, [s1.heap.objs.size + 1, s1.heap.objs.size], _, _, H1, rfl, I2, turn_enumT a (s1.heap.objs.size + 1) s1.heap.objs.size, ⟨⟨.none, he⟩, ⟨_, hit, rfl, rfl⟩, Nat.succ_ne_self _, Nat.ne_of_lt ha1, Nat.ne_of_lt (Nat.lt_succ_of_lt ha1)⟩, fun b hb => ?_, q⟩
    have e' : b = s1.heap.objs.size + 1 ∨ b = s1.heap.objs.size := by simpa using hb
    have hle : s1.heap.objs.size ≤ b := by
      rcases e' with z | z
      · rw [z]; exact Nat.le_add_right _ _
      · rw [z]; exact Nat.le_refl _
    exact I1.fpOk hle (I1.hok.fresh hle)
/-- (0, a), (1, b), .. -/
def enumF (k : Nat) : List Mi.D → List Mi.D
  | [] => []
  | d :: ds => .tuple [.int k, d] :: enumF (k + 1) ds
theorem enumF_get : ∀ (ds : List Mi.D) (k i : Nat) (d : Mi.D), (enumF k ds)[i]? = some d → ∃ x, ds[i]? = some x ∧ d = .tuple [.int ((k + i : Nat) : Int), x]
  | [], _, _, _, h => by simp [enumF] at h
  | x :: ds, k, 0, d, h => by
    simp [enumF] at h
    exact ⟨x, rfl, by simp [← h]⟩
  | x :: ds, k, i + 1, d, h => by
    simp only [enumF, List.getElem?_cons_succ] at h
    obtain ⟨y, h1, h2⟩ := enumF_get ds (k + 1) i d h
    exact ⟨y, by simpa using h1, by rw [h2]; congr 3; omega⟩
theorem enumF_len : ∀ (ds : List Mi.D) (k : Nat), (enumF k ds).length = ds.length
  | [], _ => rfl
  | x :: ds, k => by simp [enumF, enumF_len ds]
section
variable {P : Pm} {X : Cx} {W : WX} {F : Hp} {pos : Pos}
def mEnum {S : Type} (g : M S (List Arg)) : M S (List Mi.D) := bnd g fun as => match as with
  | [.d (.list ds)] => rt (enumF 0 ds)
  | [.d (.tuple ds)] => rt (enumF 0 ds)
  | _ => stk
theorem ite_ok {K : PySem.W.Frag} {a : Addr} {vs : List V} {ds : List Mi.D} (h : F a = some (.lst vs)) (r : RpA F vs ds) : ItOk (Ite K a) (enumF 0 ds) F := fun F2 H2 x y => by
  have hs : SqL K H2 a vs := .of (y _ _ (x _ _ h))
  refine ⟨⟨vs, hs, by rw [RpA.len r, enumF_len]; exact Nat.le_refl _⟩, fun i d hd => ?_⟩
  obtain ⟨d0, h1, rfl⟩ := enumF_get _ _ _ _ hd
  obtain ⟨v, hv, rv⟩ := r.get h1
  refine ⟨⟨vs, v, hs, hv⟩, fun z H3 q => ?_⟩
  obtain ⟨T, x1, rfl, hT, rfl, q⟩ := q
  have e := q vs hs
  rw [hv] at e
  cases e
  have z := Ext.lay (p := T) (o := .tup [.int (i : Nat), v]) y hT
  refine ⟨upd F2 T (.tup [.int (i : Nat), v]), Ex.new hT, z, .tup upd_same (.cons ?_ (.cons (z.ff.dp _ _ (x.dp _ _ rv)) .nil))⟩
  have : ((0 + i : Nat) : Int) = (i : Nat) := by omega
  rw [this]
  exact .int _
theorem iteT_ok {K : PySem.W.Frag} {a : Addr} {vs : List V} {ds : List Mi.D} (h : F a = some (.tup vs)) (r : RpA F vs ds) : ItOk (IteT K a) (enumF 0 ds) F := fun F2 H2 x y => by
  have hs : SqT K H2 a vs := .of (y _ _ (x _ _ h))
  refine ⟨⟨vs, hs, by rw [RpA.len r, enumF_len]⟩, fun i d hd => ?_⟩
  obtain ⟨d0, h1, rfl⟩ := enumF_get _ _ _ _ hd
  obtain ⟨v, hv, rv⟩ := r.get h1
  refine ⟨⟨vs, v, hs, hv⟩, fun z H3 q => ?_⟩
  obtain ⟨T, x1, rfl, hT, rfl, q⟩ := q
  have e := q vs hs
  rw [hv] at e
  cases e
  have z := Ext.lay (p := T) (o := .tup [.int (i : Nat), v]) y hT
  refine ⟨upd F2 T (.tup [.int (i : Nat), v]), Ex.new hT, z, .tup upd_same (.cons ?_ (.cons (z.ff.dp _ _ (x.dp _ _ rv)) .nil))⟩
  have : ((0 + i : Nat) : Int) = (i : Nat) := by omega
  rw [this]
  exact .int _
theorem i_enum {a : Expr} {g : M P.B.S (List Arg)} {p tpos : Pos} {elts : List Expr} {kk : Nat} (hm : X.mg "enumerate" = none) (ha : XA P X W [a] g) (hg : Gl X "enumerate" := by rfl) (hs : starEach [a] X.env = [(false, eval a X.env)] := by rfl) : XI P X W (.Tuple elts kk tpos) (.Call (.Name "enumerate" p) [a] [] pos) (mEnum g) := ⟨fun pins s σ H R I ⟨F, e, k, q⟩ => by
  unfold mEnum bnd at q
  cases y : g e with
  | stuck => rw [y] at q; exact q.elim
  | err x e1 => rw [y] at q; exact (pi_enum hg hm ha hs).run pins s σ H R I ⟨F, e, k, by rw [y]; exact q⟩
  | ok as e1 =>
    rw [y] at q
    dsimp only at q
    split at q
    · rename_i ds
      refine (pi_enum hg hm ha hs).run pins s σ H R I ⟨F, e, k, ?_⟩
      rw [y]
      intro F1 H1 k1 s1 vs rv
      cases rv with
      | d r1 r2 =>
        cases r2
        cases r1 with
        | lst g1 g2 => exact ⟨_, _, rfl, .of (k1.ext.fh _ _ g1), q F1 H1 k1 s1 _ (ite_ok g1 g2)⟩
    · rename_i ds
      refine (pi_enumT hg hm ha hs).run pins s σ H R I ⟨F, e, k, ?_⟩
      rw [y]
      intro F1 H1 k1 s1 vs rv
      cases rv with
      | d r1 r2 =>
        cases r2
        cases r1 with
        | tup g1 g2 => exact ⟨_, _, rfl, .of (k1.ext.fh _ _ g1), q F1 H1 k1 s1 _ (iteT_ok g1 g2)⟩
    · exact q.elim⟩
end
section
variable {S : Type} {e : En S} {X : Er → En S → Prop}
def enumOf : List Arg → Option (List Mi.D)
  | [.d (.list ds)] => some (enumF 0 ds)
  | [.d (.tuple ds)] => some (enumF 0 ds)
  | _ => none
@[simp] theorem enumOf_l (ds : List Mi.D) : enumOf [.d (.list ds)] = some (enumF 0 ds) := (rfl)
@[simp] theorem enumOf_t (ds : List Mi.D) : enumOf [.d (.tuple ds)] = some (enumF 0 ds) := (rfl)
@[simp] theorem wp_mEnum {Q : List Mi.D → En S → Prop} (g : M S (List Arg)) : wp (mEnum g) e Q X = wp g e (kA enumOf Q) X := by
  unfold mEnum; rw [wp_bnd]; congr 1; funext as e1
  unfold kA enumOf
  split
  · rfl
  · rfl
  · rename_i h1 h2
    first
    | rfl
    | (split
       · rename_i ds; exact absurd rfl (h1 ds)
       · rename_i ds; exact absurd rfl (h2 ds)
       · rfl)
end
end Mi
set_option maxHeartbeats 4000000
namespace Mi
open PySem PySem.Spec PyProof.Rows L2
section
variable {P : Pm} {X : Cx} {W : WX} {α β : Type} {e e1 : En P.B.S} {σ : St} {F H F1 H1 : Hp} {pos : Pos} {D : Ends}
/-! a call that borrows: its arguments are names, its answer is no object; lists of the frame stay apart -/
inductive BA where
  | v (i : Nat) | c (d : Mi.D)
def scal : Mi.D → Bool
  | .none => true
  | .bool _ => true
  | .int _ => true
  | .str _ => true
  | _ => false
def bArg {S : Type} (e : En S) : BA → Option Arg
  | .c d => if scal d = true then some (.d d) else none
  | .v i => match e.sl[i]? with
    | some (.sh d) => some (.d d)
    | some (.ob (.lst xs)) => some (.d (.list xs))
    | some .tok => some .tok
    | _ => none
def bArgs {S : Type} (e : En S) : List BA → Option (List Arg)
  | [] => some []
  | b :: l => match bArg e b, bArgs e l with
    | some a, some as => some (a :: as)
    | _, _ => none
def outB {S : Type} (o : FO S) (e : En S) : Out S Mi.D := match o with
  | .val (.sh d) s1 => if scal d = true then .ok d { e with st := s1 } else .stuck
  | _ => .stuck
def mCallB {S : Type} (n : Nat) (fn : List Arg → S → FO S) (l : List BA) : M S Mi.D := fun e => match bArgs e l with
  | some as => if as.length = n then outB (fn as e.st) e else .stuck
  | none => .stuck
def bVal (σ : St) : BA → V → Prop
  | .c (.int i), v => v = .int i
  | .c (.bool b), v => v = .bl b
  | .c (.str x), v => v = .str x
  | .c .none, v => v = .non
  | .c _, _ => False
  | .v i, v => σ[i]? = some (some v)
def tBr (l : List BA) : TA := fun σ H Q => ∃ vs, Paired (bVal σ) l vs ∧ Q vs H
theorem br_nil : PA X [] (tBr []) := pa_imp pa_nil fun σ H Q ⟨vs, h, q⟩ => by cases h; exact q
theorem br_var (i : Nat) {x : Str} {p : Pos} {es : List Expr} {l : List BA} (hr : PA X es (tBr l)) (hN : X.N[i]? = some x := by rfl) (hv : Vis X.env.scope x := by first | exact Or.inl rfl | exact Or.inr (Or.inl rfl) | exact Or.inr (Or.inr rfl))
    (hd : (x == ("__debug__" : Str)) = false := by decide) (hcd : (x == ("__classdict__" : Str)) = false := by decide) (hs : starEach (.Name x p :: es) X.env = (false, eval (.Name x p) X.env) :: starEach es X.env := by rfl) : PA X (.Name x p :: es) (tBr (.v i :: l)) :=
  pa_imp (pa_cons (pe_var hN hv hd hcd) hr hs) fun σ H Q ⟨vs, h, q⟩ => by
    cases h with
    | cons h1 h2 => exact ⟨_, h1, _, h2, q⟩
theorem br_int {i : Int} {j : Nat} {p : Pos} {es : List Expr} {l : List BA} (hr : PA X es (tBr l)) (hs : starEach (.Constant (.int i) j p :: es) X.env = (false, eval (.Constant (.int i) j p) X.env) :: starEach es X.env := by rfl) : PA X (.Constant (.int i) j p :: es) (tBr (.c (.int i) :: l)) :=
  pa_imp (pa_cons pe_int hr hs) fun σ H Q ⟨vs, h, q⟩ => by
    cases h with
    | cons h1 h2 => cases h1; exact ⟨_, h2, q⟩
theorem br_str {i : Str} {j : Nat} {p : Pos} {es : List Expr} {l : List BA} (hr : PA X es (tBr l)) (hs : starEach (.Constant (.str i) j p :: es) X.env = (false, eval (.Constant (.str i) j p) X.env) :: starEach es X.env := by rfl) : PA X (.Constant (.str i) j p :: es) (tBr (.c (.str i) :: l)) :=
  pa_imp (pa_cons pe_str hr hs) fun σ H Q ⟨vs, h, q⟩ => by
    cases h with
    | cons h1 h2 => cases h1; exact ⟨_, h2, q⟩
theorem br_bl {i : Bool} {j : Nat} {p : Pos} {es : List Expr} {l : List BA} (hr : PA X es (tBr l)) (hs : starEach (.Constant (.bool i) j p :: es) X.env = (false, eval (.Constant (.bool i) j p) X.env) :: starEach es X.env := by rfl) : PA X (.Constant (.bool i) j p :: es) (tBr (.c (.bool i) :: l)) :=
  pa_imp (pa_cons pe_bl hr hs) fun σ H Q ⟨vs, h, q⟩ => by
    cases h with
    | cons h1 h2 => cases h1; exact ⟨_, h2, q⟩
/-- the frozen part with the frame's own lists -/
noncomputable def lend (e : En P.B.S) (σ : St) (F H : Hp) : Hp := fun a => by
  classical exact if Ow e σ a then H a else F a
theorem lend_ff (k : EOk P e σ F H) : Ex F (lend e σ F H) := fun a o h => by
  unfold lend
  split
  · rename_i w
    rw [(k.ow_some w).2.1] at h; cases h
  · exact h
theorem lend_fh (k : EOk P e σ F H) : Ex (lend e σ F H) H := fun a o h => by
  unfold lend at h
  split at h
  · exact h
  · exact k.ext.fh a o h
theorem bArgs_ok (k : EOk P e σ F H) : ∀ {l : List BA} {as : List Arg}, bArgs e l = some as → ∃ vs, Paired (bVal σ) l vs ∧ ArgsOk P.B (lend e σ F H) vs as
  | [], as, h => by cases h; exact ⟨[], .nil, .nil⟩
  | b :: l, as, h => by
    unfold bArgs at h
    split at h
    · rename_i a as' h1 h2
      cases h
      obtain ⟨vs, p1, p2⟩ := bArgs_ok k h2
      cases b with
      | c d =>
        unfold bArg at h1
        dsimp only at h1
        split at h1
        · rename_i hs
          cases h1
          cases d with
          | none => exact ⟨.non :: vs, .cons rfl p1, .d .non p2⟩
          | bool b => exact ⟨.bl b :: vs, .cons rfl p1, .d (.bl b) p2⟩
          | int b => exact ⟨.int b :: vs, .cons rfl p1, .d (.int b) p2⟩
          | str b => exact ⟨.str b :: vs, .cons rfl p1, .d (.str b) p2⟩
          | list _ => cases hs
          | tuple _ => cases hs
          | dict _ => cases hs
        · cases h1
      | v i =>
        unfold bArg at h1
        dsimp only at h1
        split at h1
        · rename_i d q
          cases h1
          obtain ⟨v, g1, g2⟩ := k.sh i d q
          exact ⟨v :: vs, .cons g1 p1, .d ((lend_ff k).dp _ _ g2) p2⟩
        · rename_i xs q
          cases h1
          obtain ⟨p, ws, g1, g2, g3, g4, g5, g6⟩ := k.owL i xs q
          refine ⟨.ref p :: vs, .cons g1 p1, .d (.lst ?_ ((lend_ff k).dpa _ _ g6)) p2⟩
          unfold lend
          rw [if_pos ⟨i, _, q, g1⟩]
          exact g2
        · rename_i q
          cases h1
          exact ⟨_, .cons (k.tok i q) p1, .tok p2⟩
        · cases h1
    · cases h
theorem scal_rp {d : Mi.D} {v : V} {G : Hp} (hs : scal d = true) (h : Rp G v d) (F : Hp) : Rp F v d := by
  cases h with
  | non => exact .non
  | bl b => exact .bl b
  | int b => exact .int b
  | str b => exact .str b
  | lst a b => cases hs
  | tup a b => cases hs
theorem x_callB {p : Pos} {a : Expr} {es : List Expr} {x : Str} {f : Addr} {fd : FuncData} {ps : List Str} {kk : Nat} {n : Nat} {fn : List Arg → P.B.S → FO P.B.S} {l : List BA} (Fk : FnOk X.prog X.w X.K X.mg X.base (L2.CX X.prog X.w) kk f fd ps (spM P.mg P.B ps.length fn)) (hr : Room kk X.A) (hm : X.mg x = some (.ref f)) (hk : PySem.W.keepIn X.K (.ref f) = true) (hb : Binds X.K fd ps []) (tk : Takes X W)
    (ha : PA X (a :: es) (tBr l)) (hg : Gl X x := by rfl) (hdb : (x == ("__debug__" : Str)) = false := by decide) (he : starEach (a :: es) X.env = (false, eval a X.env) :: starEach es X.env := by rfl) (hpl : (backTo pos (starEach es X.env)).any (·.1) = false := by rfl) (hn : ps.length = n := by rfl) :
    XE P X W (.Call (.Name x p) (a :: es) [] pos) (mCallB n fn l) :=
  pe_imp (pe_callS Fk hr hg hm hk hb (fun σ => passAt tk σ) ha hdb he hpl) fun σ H Q ⟨F, e, k, h⟩ => by
    unfold mCallB at h
    cases q : bArgs e l with
    | none => rw [q] at h; exact h.elim
    | some as =>
      rw [q] at h
      dsimp only at h
      obtain ⟨vs, p1, p2⟩ := bArgs_ok k q
      subst hn
      by_cases hl : as.length = ps.length
      · rw [if_pos hl] at h
        refine ⟨vs, p1, p2.len.trans hl, lend e σ F H, as, e.st, lend_fh k, fun a z => ?_, k.sto, p2, ?_⟩
        · unfold lend
          split
          · rename_i w; exact absurd z (k.ow_some w).2.2.1
          · exact k.off a z
        · cases z : fn as e.st with
          | stuck => rw [z] at h; exact h.elim
          | exc x s1 => rw [z] at h; exact h.elim
          | val r s1 =>
            rw [z] at h
            cases r with
            | fr xs => exact h.elim
            | sh d =>
              unfold outB at h
              dsimp only at h
              split at h
              · rename_i hs
                intro F1 H1 ps1 v rv
                have pst : Pst P.B s1 F H F H1 := ⟨⟨Ex.refl _, ((lend_ff k).trans ps1.ext.ff).trans ps1.ext.fh, fun a o q => .inl ⟨_, q⟩, ps1.ext.kp⟩, ps1.fr, ps1.sto, k.off⟩
                obtain ⟨k1, s1'⟩ := k.called pst
                exact h F H1 k1 s1' v (scal_rp hs rv F)
              · exact h.elim
      · rw [if_neg hl] at h; exact h.elim
/-! slices -/
def mP0 {S : Type} : M S (Option Int) := rt none
def mP1 {S : Type} (f : M S Mi.D) : M S (Option Int) := bnd f fun d => match d with
  | .int i => rt (some i)
  | _ => stk
def tP (P : Pm) (W : WX) (m : M P.B.S (Option Int)) : TO := fun σ H Q => ∃ F e, EOk P e σ F H ∧ Sat P W e σ F H (m e) fun o _ _ H1 => Q o H1
abbrev XP (P : Pm) (X : Cx) (W : WX) (lo : Option Expr) (m : M P.B.S (Option Int)) : Prop := PO X lo (tP P W m)
theorem po_imp {lo : Option Expr} {t u : TO} (h : PO X lo t) (i : ∀ σ H Q, u σ H Q → t σ H Q) : PO X lo u := ⟨fun pins s σ H Q I q => h.run pins s σ H Q I (i σ H Q q)⟩
theorem sp_0 : XP P X W none mP0 := po_imp po_none fun σ H Q ⟨F, e, k, h⟩ => h.rt k
theorem sp_1 {a : Expr} {f : M P.B.S Mi.D} (h : XE P X W a f) : XP P X W (some a) (mP1 f) := po_imp (po_some h) fun σ H Q ⟨F, e, k, h⟩ => tX_of k h fun d e1 F1 H1 v k1 s1 r1 h1 => by
  cases d with
  | int i => cases r1; exact ⟨i, rfl, h1.rt k1⟩
  | _ => exact h1.elim
def cutD {α : Type} (xs : List α) (lo hi : Option Int) : List α := (xs.drop (HT.sIx xs.length 0 lo)).take (HT.sIx xs.length xs.length hi - HT.sIx xs.length 0 lo)
theorem cut_rp {vs : List V} {ds : List Mi.D} (r : RpA F vs ds) (lo hi : Option Int) : RpA F (cutV vs lo hi) (cutD ds lo hi) := by
  unfold cutV cutD
  rw [RpA.len r]
  exact RpA.take _ (RpA.drop _ r)
theorem cut_whole {ds : List Mi.D} {lo hi : Option Int} (h : HT.sIx ds.length 0 lo = 0 ∧ HT.sIx ds.length ds.length hi = ds.length) : cutD ds lo hi = ds := by
  unfold cutD
  rw [h.1, h.2]
  simp
def mSl {S : Type} (f : M S Mi.D) (lo hi : M S (Option Int)) : M S Mi.D := bnd f fun d => bnd lo fun l => bnd hi fun u => match d with
  | .list ds => rt (.list (cutD ds l u))
  | .tuple ds => rt (.tuple (cutD ds l u))
  | _ => stk
theorem tP_of {m : M P.B.S (Option Int)} {k : Option Int → M P.B.S β} {G : β → En P.B.S → Hp → Hp → Prop} {Q : Option Int → Hp → Prop} (ek : EOk P e σ F H) (h : Sat P W e σ F H (bnd m k e) G)
    (q : ∀ d e1 F1 H1, EOk P e1 σ F1 H1 → Step P e e1 σ F H F1 H1 → Sat P W e1 σ F1 H1 (k d e1) G → Q d H1) : tP P W m σ H Q :=
  ⟨F, e, ek, h.bnd.imp fun d e1 F1 H1 k1 s1 h1 => q d e1 F1 H1 k1 s1 h1⟩
theorem x_sl {a : Expr} {lo hi : Option Expr} {p2 : Pos} {f : M P.B.S Mi.D} {l u : M P.B.S (Option Int)} (ha : XE P X W a f) (hl : XP P X W lo l) (hu : XP P X W hi u) : XE P X W (.Subscript a (.Slice lo hi none p2) pos) (mSl f l u) :=
  pe_imp (pe_slice (sl_list.or sl_tupA) ha hl hu) fun σ H Q ⟨F, e, k, h⟩ => tX_of k h fun d e1 F1 H1 v k1 s1 r1 h1 => tP_of k1 h1 fun lo e2 F2 H2 k2 s2 h2 => tP_of k2 h2 fun hi e3 F3 H3 k3 s3 h3 => by
    have r3 := s3.ff.dp _ _ (s2.ff.dp _ _ r1)
    cases d with
    | list ds =>
      cases r3 with
      | @lst _ ws _ g1 g2 =>
        refine .inl ⟨_, _, rfl, .of (k3.ext.fh _ _ g1), fun p np => ?_⟩
        have z := Ext.lay (o := .lst (cutV ws lo hi)) k3.ext.fh np
        exact Sat.grow k3 h3 (Ex.new np) z _ (.lst upd_same (z.ff.dpa _ _ (cut_rp g2 lo hi)))
    | tuple ds =>
      cases r3 with
      | @tup _ ws _ g1 g2 =>
        refine .inr ⟨_, _, rfl, .of (k3.ext.fh _ _ g1), fun w => ?_, fun _ p np => ?_⟩
        · rw [RpA.len g2] at w
          refine Sat.grow k3 h3 (Ex.refl _) (Ext.refl k3.ext.fh) _ ?_
          rw [cut_whole w]
          exact .tup g1 g2
        · have z := Ext.lay (o := .tup (cutV ws lo hi)) k3.ext.fh np
          exact Sat.grow k3 h3 (Ex.new np) z _ (.tup upd_same (z.ff.dpa _ _ (cut_rp g2 lo hi)))
    | _ => exact h3.elim
def mSlF {S : Type} (f : M S Mi.D) (lo hi : M S (Option Int)) : M S (List Mi.D) := bnd f fun d => bnd lo fun l => bnd hi fun u => match d with
  | .list ds => rt (cutD ds l u)
  | _ => stk
theorem f_sl {a : Expr} {lo hi : Option Expr} {p2 : Pos} {f : M P.B.S Mi.D} {l u : M P.B.S (Option Int)} (ha : XE P X W a f) (hl : XP P X W lo l) (hu : XP P X W hi u) : XF P X W (.Subscript a (.Slice lo hi none p2) pos) (mSlF f l u) :=
  pe_imp (pe_slice sl_list ha hl hu) fun σ H Q ⟨F, e, k, h⟩ => tX_of k h fun d e1 F1 H1 v k1 s1 r1 h1 => tP_of k1 h1 fun lo e2 F2 H2 k2 s2 h2 => tP_of k2 h2 fun hi e3 F3 H3 k3 s3 h3 => by
    have r3 := s3.ff.dp _ _ (s2.ff.dp _ _ r1)
    cases d with
    | list ds =>
      cases r3 with
      | lst g1 g2 =>
        refine ⟨_, _, rfl, .of (k3.ext.fh _ _ g1), fun p np => ?_⟩
        exact h3.grow k3 (Ex.new np) (Ext.layO k3.ext.fh np) p _ (s1.non (s2.non (s3.non np))) upd_same (k3.fresh np).1 (cut_rp g2 lo hi)
    | _ => exact h3.elim
/-- a slice of the list in slot i, which stays as it is -/
def mSlO {S : Type} (i : Nat) (lo hi : M S (Option Int)) : M S (List Mi.D) := withL i (bnd lo fun l => bnd hi fun u e => match lstAt i e with
  | some xs => .ok (cutD xs l u) e
  | none => .stuck)
theorem f_slO (i : Nat) {x : Str} {p p2 : Pos} {lo hi : Option Expr} {l u : M P.B.S (Option Int)} (hl : XP P X W lo l) (hu : XP P X W hi u) (hN : X.N[i]? = some x := by rfl) (hv : Vis X.env.scope x := by first | exact Or.inl rfl | exact Or.inr (Or.inl rfl) | exact Or.inr (Or.inr rfl))
    (hd : (x == ("__debug__" : Str)) = false := by decide) (hcd : (x == ("__classdict__" : Str)) = false := by decide) : XF P X W (.Subscript (.Name x p) (.Slice lo hi none p2) pos) (mSlO i l u) :=
  pe_imp (pe_slice sl_list (pe_var hN hv hd hcd) hl hu) fun σ H Q ⟨F, e, k, h⟩ => by
    obtain ⟨p, vs, xs, _, q1, q2, q3, h⟩ := withL_of k h
    refine ⟨_, q1, tP_of k h fun lo e1 F1 H1 k1 s1 h1 => tP_of k1 h1 fun hi e2 F2 H2 k2 s2 h2 => ?_⟩
    cases z : lstAt i e2 with
    | none => rw [z] at h2; exact h2.elim
    | some ys =>
      rw [z] at h2
      obtain ⟨p', ws, g1, g2, g3⟩ := k2.lstAt z
      rw [q1] at g1
      cases g1
      refine ⟨_, _, rfl, .of g2, fun r np => ?_⟩
      exact Sat.grow k2 h2 (Ex.new np) (Ext.layO k2.ext.fh np) r _ (s1.non (s2.non np)) upd_same (k2.fresh np).1 (cut_rp g3 lo hi)
end
/-! their rules -/
section
variable {S α β : Type} {e e' : En S} {X : Er → En S → Prop}
@[simp] theorem gInt_b (b : Bool) : gInt [.d (.bool b)] = some (.int (if b then 1 else 0)) := (rfl)
def wCB (n : Nat) (fn : List Arg → S → FO S) (as : List Arg) (e : En S) (Q : Mi.D → En S → Prop) : Prop := as.length = n ∧ Fn fn as e.st (fun r s1 => ∃ d, r = .sh d ∧ scal d = true ∧ Q d { e with st := s1 }) fun _ _ => False
def wBA (o : Option (List Arg)) (K : List Arg → Prop) : Prop := wO o K
@[simp] theorem wp_mCallB {Q : Mi.D → En S → Prop} (n : Nat) (fn : List Arg → S → FO S) (l : List BA) : wp (mCallB n fn l) e Q X = wO (bArgs e l) fun as => wCB n fn as e Q := by
  unfold mCallB wp
  dsimp only
  cases bArgs e l with
  | none => rfl
  | some as =>
    rw [wO_some]
    dsimp only
    unfold wCB Fn
    by_cases h : as.length = n
    · rw [if_pos h]
      simp only [h, true_and]
      cases q : fn as e.st with
      | val r s1 =>
        cases r with
        | sh d =>
          unfold outB
          dsimp only
          by_cases hs : scal d = true
          · rw [if_pos hs]; simp [hs]
          · rw [if_neg hs]; simp [hs]
        | fr xs => simp [outB]
      | exc x s1 => simp [outB]
      | stuck => simp [outB]
    · rw [if_neg h]; simp [h]
theorem wCB_of {n : Nat} {fn : List Arg → S → FO S} {as : List Arg} {Q : Mi.D → En S → Prop} {P : R → S → Prop} (h : Fn fn as e.st P fun _ _ => False) (k : ∀ r s1, P r s1 → ∃ d, r = .sh d ∧ scal d = true ∧ Q d { e with st := s1 }) (hl : as.length = n := by rfl) : wCB n fn as e Q :=
  ⟨hl, h.imp k fun _ _ z => z⟩
@[simp] theorem bArgs_nil : bArgs e [] = some [] := (rfl)
theorem bArgs_cons (b : BA) (l : List BA) : bArgs e (b :: l) = (match bArg e b, bArgs e l with
    | some a, some as => some (a :: as)
    | _, _ => none) := (rfl)
def slA : Option Slot → Option Arg
  | some (.sh d) => some (.d d)
  | some (.ob (.lst xs)) => some (.d (.list xs))
  | some .tok => some .tok
  | _ => none
@[simp] theorem slA_sh (d : Mi.D) : slA (some (.sh d)) = some (.d d) := (rfl)
@[simp] theorem slA_ow (xs : List Mi.D) : slA (some (.ow xs)) = some (.d (.list xs)) := (rfl)
@[simp] theorem slA_tok : slA (some .tok) = some .tok := (rfl)
def cons2 (a : Option Arg) (as : Option (List Arg)) : Option (List Arg) := match a, as with
  | some a, some as => some (a :: as)
  | _, _ => none
@[simp] theorem cons2_s (a : Arg) (as : List Arg) : cons2 (some a) (some as) = some (a :: as) := (rfl)
@[simp] theorem bArgs_v (i : Nat) (l : List BA) : bArgs e (.v i :: l) = cons2 (slA e.sl[i]?) (bArgs e l) := by
  rw [bArgs_cons]
  have : bArg e (.v i) = slA e.sl[i]? := by
    unfold bArg slA
    dsimp only
  rw [this]
  unfold cons2
  cases slA e.sl[i]? <;> cases bArgs e l <;> rfl
@[simp] theorem bArgs_i (i : Int) (l : List BA) : bArgs e (.c (.int i) :: l) = cons2 (some (.d (.int i))) (bArgs e l) := by
  rw [bArgs_cons]; show (match some (Arg.d (.int i)), bArgs e l with | some a, some as => _ | _, _ => _) = _; unfold cons2; cases bArgs e l <;> rfl
@[simp] theorem bArgs_s (i : Str) (l : List BA) : bArgs e (.c (.str i) :: l) = cons2 (some (.d (.str i))) (bArgs e l) := by
  rw [bArgs_cons]; show (match some (Arg.d (.str i)), bArgs e l with | some a, some as => _ | _, _ => _) = _; unfold cons2; cases bArgs e l <;> rfl
@[simp] theorem bArgs_b (i : Bool) (l : List BA) : bArgs e (.c (.bool i) :: l) = cons2 (some (.d (.bool i))) (bArgs e l) := by
  rw [bArgs_cons]; show (match some (Arg.d (.bool i)), bArgs e l with | some a, some as => _ | _, _ => _) = _; unfold cons2; cases bArgs e l <;> rfl
@[simp] theorem wp_mP0 {Q : Option Int → En S → Prop} : wp (mP0 : M S (Option Int)) e Q X = Q none e := (rfl)
def intOf : Mi.D → Option (Option Int)
  | .int i => some (some i)
  | _ => none
@[simp] theorem intOf_i (i : Int) : intOf (.int i) = some (some i) := (rfl)
@[simp] theorem wp_mP1 {Q : Option Int → En S → Prop} (f : M S Mi.D) : wp (mP1 f) e Q X = wp f e (kD intOf Q) X := by
  unfold mP1; rw [wp_bnd]; congr 1; funext d e1; cases d <;> rfl
def cutOf (l u : Option Int) : Mi.D → Option Mi.D
  | .list ds => some (.list (cutD ds l u))
  | .tuple ds => some (.tuple (cutD ds l u))
  | _ => none
@[simp] theorem cutOf_l (l u : Option Int) (ds : List Mi.D) : cutOf l u (.list ds) = some (.list (cutD ds l u)) := (rfl)
@[simp] theorem cutOf_t (l u : Option Int) (ds : List Mi.D) : cutOf l u (.tuple ds) = some (.tuple (cutD ds l u)) := (rfl)
def kSl3 (Q : Mi.D → En S → Prop) (d : Mi.D) (l u : Option Int) (e : En S) : Prop := wO (cutOf l u d) (kO Q e)
@[simp] theorem kSl3_e (Q : Mi.D → En S → Prop) (d : Mi.D) (l u : Option Int) : kSl3 Q d l u e = wO (cutOf l u d) (kO Q e) := (rfl)
def kSl2 (hi : M S (Option Int)) (Q : Mi.D → En S → Prop) (X : Er → En S → Prop) (d : Mi.D) (l : Option Int) (e : En S) : Prop := wp hi e (kSl3 Q d l) X
@[simp] theorem kSl2_e (hi : M S (Option Int)) (Q : Mi.D → En S → Prop) (d : Mi.D) (l : Option Int) : kSl2 hi Q X d l e = wp hi e (kSl3 Q d l) X := (rfl)
def kSl1 (lo hi : M S (Option Int)) (Q : Mi.D → En S → Prop) (X : Er → En S → Prop) (d : Mi.D) (e : En S) : Prop := wp lo e (kSl2 hi Q X d) X
@[simp] theorem kSl1_e (lo hi : M S (Option Int)) (Q : Mi.D → En S → Prop) (d : Mi.D) : kSl1 lo hi Q X d e = wp lo e (kSl2 hi Q X d) X := (rfl)
@[simp] theorem wp_mSl {Q : Mi.D → En S → Prop} (f : M S Mi.D) (lo hi : M S (Option Int)) : wp (mSl f lo hi) e Q X = wp f e (kSl1 lo hi Q X) X := by
  unfold mSl; rw [wp_bnd]; congr 1; funext d e1; rw [wp_bnd, kSl1_e]; congr 1; funext l e2; rw [wp_bnd, kSl2_e]; congr 1; funext u e3
  cases d <;> rfl
def cutOfL (l u : Option Int) : Mi.D → Option (List Mi.D)
  | .list ds => some (cutD ds l u)
  | _ => none
@[simp] theorem cutOfL_l (l u : Option Int) (ds : List Mi.D) : cutOfL l u (.list ds) = some (cutD ds l u) := (rfl)
def kSf3 (Q : List Mi.D → En S → Prop) (d : Mi.D) (l u : Option Int) (e : En S) : Prop := wO (cutOfL l u d) (kO Q e)
@[simp] theorem kSf3_e (Q : List Mi.D → En S → Prop) (d : Mi.D) (l u : Option Int) : kSf3 Q d l u e = wO (cutOfL l u d) (kO Q e) := (rfl)
def kSf2 (hi : M S (Option Int)) (Q : List Mi.D → En S → Prop) (X : Er → En S → Prop) (d : Mi.D) (l : Option Int) (e : En S) : Prop := wp hi e (kSf3 Q d l) X
@[simp] theorem kSf2_e (hi : M S (Option Int)) (Q : List Mi.D → En S → Prop) (d : Mi.D) (l : Option Int) : kSf2 hi Q X d l e = wp hi e (kSf3 Q d l) X := (rfl)
def kSf1 (lo hi : M S (Option Int)) (Q : List Mi.D → En S → Prop) (X : Er → En S → Prop) (d : Mi.D) (e : En S) : Prop := wp lo e (kSf2 hi Q X d) X
@[simp] theorem kSf1_e (lo hi : M S (Option Int)) (Q : List Mi.D → En S → Prop) (d : Mi.D) : kSf1 lo hi Q X d e = wp lo e (kSf2 hi Q X d) X := (rfl)
@[simp] theorem wp_mSlF {Q : List Mi.D → En S → Prop} (f : M S Mi.D) (lo hi : M S (Option Int)) : wp (mSlF f lo hi) e Q X = wp f e (kSf1 lo hi Q X) X := by
  unfold mSlF; rw [wp_bnd]; congr 1; funext d e1; rw [wp_bnd, kSf1_e]; congr 1; funext l e2; rw [wp_bnd, kSf2_e]; congr 1; funext u e3
  cases d <;> rfl
def kSo4 (l u : Option Int) (Q : List Mi.D → En S → Prop) (e : En S) (xs : List Mi.D) : Prop := Q (cutD xs l u) e
@[simp] theorem kSo4_e (l u : Option Int) (Q : List Mi.D → En S → Prop) (xs : List Mi.D) : kSo4 l u Q e xs = Q (cutD xs l u) e := (rfl)
def kSo3 (i : Nat) (Q : List Mi.D → En S → Prop) (l u : Option Int) (e : En S) : Prop := wL e.sl[i]? (kSo4 l u Q e)
@[simp] theorem kSo3_e (i : Nat) (Q : List Mi.D → En S → Prop) (l u : Option Int) : kSo3 i Q l u e = wL e.sl[i]? (kSo4 l u Q e) := (rfl)
def kSo2 (i : Nat) (hi : M S (Option Int)) (Q : List Mi.D → En S → Prop) (X : Er → En S → Prop) (l : Option Int) (e : En S) : Prop := wp hi e (kSo3 i Q l) X
@[simp] theorem kSo2_e (i : Nat) (hi : M S (Option Int)) (Q : List Mi.D → En S → Prop) (l : Option Int) : kSo2 i hi Q X l e = wp hi e (kSo3 i Q l) X := (rfl)
def kSo1 (i : Nat) (lo hi : M S (Option Int)) (Q : List Mi.D → En S → Prop) (X : Er → En S → Prop) (e : En S) (_ : List Mi.D) : Prop := wp lo e (kSo2 i hi Q X) X
@[simp] theorem kSo1_e (i : Nat) (lo hi : M S (Option Int)) (Q : List Mi.D → En S → Prop) (xs : List Mi.D) : kSo1 i lo hi Q X e xs = wp lo e (kSo2 i hi Q X) X := (rfl)
@[simp] theorem wp_mSlO {Q : List Mi.D → En S → Prop} (i : Nat) (lo hi : M S (Option Int)) : wp (mSlO i lo hi) e Q X = wL e.sl[i]? (kSo1 i lo hi Q X e) := by
  unfold mSlO withL
  rw [← lstAt_wL]
  unfold wp
  dsimp only
  cases lstAt i e with
  | none => rfl
  | some ys =>
    dsimp only
    rw [kSo1_e]
    show wp (bnd lo _) e Q X = _
    rw [wp_bnd]; congr 1; funext l e2; rw [wp_bnd, kSo2_e]; congr 1; funext u e3
    rw [kSo3_e, ← lstAt_wL]
    unfold wp
    dsimp only
    cases lstAt i e3 <;> rfl
/-! a call that hands back a new list -/
def wCallF (n : Nat) (fn : List Arg → S → FO S) (as : List Arg) (e : En S) (Q : List Mi.D → En S → Prop) (X : Er → En S → Prop) : Prop := as.length = n ∧ Fn fn as e.st (fun r s1 => ∃ xs, r = .fr xs ∧ Q xs { e with st := s1 }) fun x s1 => X x { e with st := s1 }
def kCallF (n : Nat) (fn : List Arg → S → FO S) (Q : List Mi.D → En S → Prop) (X : Er → En S → Prop) (as : List Arg) (e : En S) : Prop := wCallF n fn as e Q X
@[simp] theorem kCallF_e {Q : List Mi.D → En S → Prop} (n : Nat) (fn : List Arg → S → FO S) (as : List Arg) : kCallF n fn Q X as e = wCallF n fn as e Q X := (rfl)
@[simp] theorem wp_mCallF {Q : List Mi.D → En S → Prop} (n : Nat) (fn : List Arg → S → FO S) (g : M S (List Arg)) : wp (mCallF n fn g) e Q X = wp g e (kCallF n fn Q X) X := by
  unfold mCallF kCallF wCallF Fn
  rw [wp_bnd]
  congr 1
  funext as e1
  unfold wp
  dsimp only
  by_cases h : as.length = n
  · rw [if_pos h]
    simp only [h, true_and]
    cases q : fn as e1.st with
    | val r s1 => cases r <;> simp [outF]
    | exc x s1 => simp [outF]
    | stuck => simp [outF]
  · rw [if_neg h]; simp [h]
theorem wCallF_of {n : Nat} {fn : List Arg → S → FO S} {as : List Arg} {Q : List Mi.D → En S → Prop} {P : R → S → Prop} {E : Er → S → Prop} (h : Fn fn as e.st P E) (k : ∀ r s1, P r s1 → ∃ xs, r = .fr xs ∧ Q xs { e with st := s1 }) (kx : ∀ x s1, E x s1 → X x { e with st := s1 }) (hl : as.length = n := by rfl) : wCallF n fn as e Q X := ⟨hl, h.imp k kx⟩
theorem wCallF_val {n : Nat} {fn : List Arg → S → FO S} {as : List Arg} {Q : List Mi.D → En S → Prop} {P : R → S → Prop} (h : Fn fn as e.st P fun _ _ => False) (k : ∀ r s1, P r s1 → ∃ xs, r = .fr xs ∧ Q xs { e with st := s1 }) (hl : as.length = n := by rfl) : wCallF n fn as e Q X := wCallF_of h k (fun _ _ z => z.elim) hl
theorem Fn_liftE {fn : List Arg → Unit → FO Unit} {as : List Arg} {s : S} {P : R → Prop} (h : Fn fn as () (fun r _ => P r) fun _ _ => False) (ht : noTok as = true := by rfl) : Fn (lift fn) as s (fun r s1 => P r ∧ s1 = s) fun _ _ => False :=
  Fn_lift (h.imp (fun _ _ q => ⟨q, rfl⟩) fun _ _ z => z) ht
theorem wCallF_lift {n : Nat} {fn : List Arg → Unit → FO Unit} {as : List Arg} {Q : List Mi.D → En S → Prop} {P : R → Prop} (h : Fn fn as () (fun r _ => P r) fun _ _ => False) (k : ∀ r, P r → ∃ xs, r = .fr xs ∧ Q xs e) (ht : noTok as = true := by rfl) (hl : as.length = n := by rfl) : wCallF n (lift fn) as e Q X :=
  wCallF_val (Fn_liftE h ht) (fun r s1 ⟨q1, q2⟩ => by subst q2; exact k r q1) hl
theorem wCB_lift {n : Nat} {fn : List Arg → Unit → FO Unit} {as : List Arg} {Q : Mi.D → En S → Prop} {P : R → Prop} (h : Fn fn as () (fun r _ => P r) fun _ _ => False) (k : ∀ r, P r → ∃ d, r = .sh d ∧ scal d = true ∧ Q d e) (ht : noTok as = true := by rfl) (hl : as.length = n := by rfl) : wCB n (lift fn) as e Q :=
  wCB_of (Fn_liftE h ht) (fun r s1 ⟨q1, q2⟩ => by subst q2; exact k r q1) hl
end
end Mi
set_option maxHeartbeats 4000000
namespace Mi
open PySem PySem.Spec PyProof.Rows L2
/-! ### dicts of the frame's own -/
section
variable {κ : Type} [DecidableEq κ]
def valD (kvs : List (κ × Mi.D)) (k : κ) : Option Mi.D := (kvs.find? fun kv => decide (kv.1 = k)).map (·.2)
def putD (kvs : List (κ × Mi.D)) (k : κ) (v : Mi.D) : List (κ × Mi.D) :=
  if (kvs.any fun kv => decide (kv.1 = k)) = true then kvs.map (fun kv => if kv.1 = k then (kv.1, v) else kv) else kvs ++ [(k, v)]
theorem KvR.val {F : Hp} {vs : List (κ × V)} {ds : List (κ × Mi.D)} (h : KvR F vs ds) (k : κ) : match valD ds k with
    | none => valV vs k = none
    | some d => ∃ v, valV vs k = some v ∧ Rp F v d := by
  induction h with
  | nil => rfl
  | @cons p q vs ds h1 _ ih =>
    unfold valD valV
    by_cases e : q.1 = k
    · have e' : p.1 = k := h1.1.trans e
      simp [List.find?_cons, e, e']
      exact h1.2
    · have e' : ¬ p.1 = k := fun z => e (h1.1.symm.trans z)
      simp [List.find?_cons, e, e']
      simpa [valD, valV] using ih
theorem KvR.any {F : Hp} {vs : List (κ × V)} {ds : List (κ × Mi.D)} (h : KvR F vs ds) (k : κ) : (vs.any fun kv => decide (kv.1 = k)) = ds.any fun kv => decide (kv.1 = k) := by
  induction h with
  | nil => rfl
  | @cons p q vs ds h1 _ ih => simp only [List.any_cons, ih, h1.1]
theorem KvR.len {F : Hp} {vs : List (κ × V)} {ds : List (κ × Mi.D)} (h : KvR F vs ds) : vs.length = ds.length := Paired.length h
theorem KvR.app {F : Hp} {vs vs' : List (κ × V)} {ds ds' : List (κ × Mi.D)} (h : KvR F vs ds) (h' : KvR F vs' ds') : KvR F (vs ++ vs') (ds ++ ds') := by
  induction h with
  | nil => exact h'
  | cons h1 _ ih => exact .cons h1 ih
theorem KvR.mapK {F : Hp} {vs : List (κ × V)} {ds : List (κ × Mi.D)} (h : KvR F vs ds) {k : κ} {v : V} {d : Mi.D} (r : Rp F v d) : KvR F (vs.map fun kv => if kv.1 = k then (kv.1, v) else kv) (ds.map fun kv => if kv.1 = k then (kv.1, d) else kv) := by
  induction h with
  | nil => exact .nil
  | @cons p q vs ds h1 _ ih =>
    refine .cons ?_ ih
    by_cases e : q.1 = k
    · have e' : p.1 = k := h1.1.trans e
      simp only [e, e', if_true]
      exact ⟨trivial, r⟩
    · have e' : ¬ p.1 = k := fun z => e (h1.1.symm.trans z)
      simp only [e, e', if_false]
      exact h1
theorem KvR.put {F : Hp} {vs : List (κ × V)} {ds : List (κ × Mi.D)} (h : KvR F vs ds) {k : κ} {v : V} {d : Mi.D} (r : Rp F v d) : KvR F (putK vs k v) (putD ds k d) := by
  unfold putK putD
  rw [h.any k]
  split
  · exact h.mapK r
  · exact h.app (.cons ⟨rfl, r⟩ .nil)
end
def keyD : Mi.D → Option Key
  | .int i => some (.inl i)
  | .str x => some (.inr x)
  | _ => none
def keyDs : List Mi.D → Option (List Key)
  | [] => some []
  | d :: ds => match keyD d, keyDs ds with
    | some k, some ks => some (k :: ks)
    | _, _ => none
def keyT : Mi.D → Option (List Key)
  | .tuple ds => keyDs ds
  | _ => none
theorem keyD_ok {F : Hp} {v : V} {d : Mi.D} {k : Key} (h : keyD d = some k) (r : Rp F v d) : v = kV k := by
  cases r <;> cases h <;> rfl
theorem keyDs_ok {F : Hp} : ∀ {vs : List V} {ds : List Mi.D} {ks : List Key}, keyDs ds = some ks → RpA F vs ds → vs = ks.map kV
  | _, [], _, h, r => by cases r; cases h; rfl
  | _, d :: ds, _, h, r => by
    cases r with
    | cons r1 r2 =>
      unfold keyDs at h
      split at h
      · rename_i k ks h1 h2
        cases h
        rw [keyD_ok h1 r1, keyDs_ok h2 r2]
        rfl
      · cases h
def odGet : OD → Mi.D → Option (Option Mi.D)
  | .dk kvs, d => (keyD d).map (valD kvs)
  | .dt kvs, d => (keyT d).map (valD kvs)
  | _, _ => none
def odPut : OD → Mi.D → Mi.D → Option OD
  | .dk kvs, d, v => if kvs.length < sizeLine then (keyD d).map fun k => .dk (putD kvs k v) else none
  | .dt kvs, d, v => if kvs.length < sizeLine then (keyT d).map fun k => .dt (putD kvs k v) else none
  | _, _, _ => none
theorem odGet_ok {F H : Hp} {p : Addr} {u : HO} {o : OD} {d : Mi.D} {y : V} {r : Option Mi.D} (x : Ex F H) (hp : H p = some u) (ho : OdR F u o) (ry : Rp F y d) (h : odGet o d = some r) :
    match r with
    | none => DGet H p y none
    | some z => ∃ v, DGet H p y (some v) ∧ Rp F v z := by
  cases o with
  | dk kvs =>
    obtain ⟨vs, rfl, hk⟩ := ho.dk_inv
    unfold odGet at h
    obtain ⟨k, h1, h2⟩ := Option.map_eq_some_iff.mp h
    rw [keyD_ok h1 ry]
    have := hk.val k
    rw [h2] at this
    have g := DGet.k (k := k) hp
    cases r with
    | none => dsimp only at this ⊢; rw [this] at g; exact g
    | some z => obtain ⟨v, h3, h4⟩ := this; rw [h3] at g; exact ⟨v, g, h4⟩
  | dt kvs =>
    obtain ⟨vs, rfl, hk⟩ := ho.dt_inv
    unfold odGet at h
    obtain ⟨k, h1, h2⟩ := Option.map_eq_some_iff.mp h
    unfold keyT at h1
    split at h1
    · rename_i ds
      cases ry with
      | tup g1 g2 =>
        rw [keyDs_ok h1 g2] at g1
        have := hk.val k
        rw [h2] at this
        have g := DGet.t (k := k) hp (x _ _ g1)
        cases r with
        | none => dsimp only at this ⊢; rw [this] at g; exact g
        | some z => obtain ⟨v, h3, h4⟩ := this; rw [h3] at g; exact ⟨v, g, h4⟩
    · cases h1
  | lst _ => cases h
  | st _ => cases h
theorem odPut_ok {F H : Hp} {p : Addr} {u : HO} {o o2 : OD} {d z : Mi.D} {y v : V} (x : Ex F H) (hp : H p = some u) (ho : OdR F u o) (ry : Rp F y d) (rv : Rp F v z) (h : odPut o d z = some o2) :
    ∃ u2, DPut H p y v (upd H p u2) ∧ OdR F u2 o2 := by
  cases o with
  | dk kvs =>
    obtain ⟨vs, rfl, hk⟩ := ho.dk_inv
    change (if kvs.length < sizeLine then (keyD d).map (fun k => OD.dk (putD kvs k z)) else none) = some o2 at h
    split at h
    · rename_i hl
      obtain ⟨k, h1, rfl⟩ := Option.map_eq_some_iff.mp h
      rw [keyD_ok h1 ry]
      exact ⟨.dK (putK vs k v), DPut.k hp (by rw [hk.len]; exact hl), hk.put rv⟩
    · cases h
  | dt kvs =>
    obtain ⟨vs, rfl, hk⟩ := ho.dt_inv
    change (if kvs.length < sizeLine then (keyT d).map (fun k => OD.dt (putD kvs k z)) else none) = some o2 at h
    split at h
    · rename_i hl
      obtain ⟨k, h1, rfl⟩ := Option.map_eq_some_iff.mp h
      unfold keyT at h1
      split at h1
      · rename_i ds
        cases ry with
        | tup g1 g2 =>
          rw [keyDs_ok h1 g2] at g1
          exact ⟨.dT (putK vs k v), DPut.t hp (x _ _ g1) (by rw [hk.len]; exact hl), hk.put rv⟩
      · cases h1
    · cases h
  | lst _ => cases h
  | st _ => cases h
/-- the own object of a slot -/
def obAt {S : Type} (i : Nat) (e : En S) : Option OD := match e.sl[i]? with
  | some (.ob o) => some o
  | _ => none
theorem obAt_ok {S : Type} {i : Nat} {e : En S} {o : OD} (h : obAt i e = some o) : e.sl[i]? = some (.ob o) := by
  unfold obAt at h
  split at h
  · cases h; assumption
  · cases h
section
variable {P : Pm} {X : Cx} {W : WX} {α β : Type} {e e1 : En P.B.S} {σ : St} {F H F1 H1 : Hp} {pos : Pos} {D : Ends}
theorem EOk.obAt (k : EOk P e σ F H) {i : Nat} {o : OD} (h : Mi.obAt i e = some o) : ∃ p u, σ[i]? = some (some (.ref p)) ∧ H p = some u ∧ OdR F u o := by
  obtain ⟨p, u, q1, q2, _, _, _, q6⟩ := k.ow i o (obAt_ok h)
  exact ⟨p, u, q1, q2, q6⟩
/-! x = {} -/
def mNewD {S : Type} (i : Nat) (t : Bool) : M S Fl := fun e => .ok .nx { e with sl := e.sl.set i (.ob (if t then .dt [] else .dk [])) }
theorem s_newDK {i : Nat} {x : Str} {p p2 : Pos} (hN : X.N.Nodup) (hi : X.N[i]? = some x := by rfl) (hx : Loc X.env.scope x := by first | exact Or.inl rfl | exact Or.inr rfl)
    (hs : swapsWith (.Dict [] [] p2) (some (.Name x p)) pos.line X.env = pure false := by rfl) (hf : X.fn x = true ∨ X.env.scope.names.lookup x = some .local := by first | exact .inl rfl | exact .inr rfl) : XS P X W (.Assign [.Name x p] (.Dict [] [] p2) pos) (mNewD i false) :=
  ps_imp (ps_set hN hi hx pe_dnewK hs hf) fun D σ H ⟨F, e, k, h⟩ p np => by
    obtain ⟨k1, s1⟩ := k.grow (Ex.new np) (Ext.layO (o := .dK []) k.ext.fh np)
    obtain ⟨f1, f2, f3, f4⟩ := k.fresh np
    exact h _ F _ (k1.putOb (o := .dk []) upd_same f1 f2 f3 f4 .nil) (Ex.refl _)
theorem s_newDT {i : Nat} {x : Str} {p p2 : Pos} (hN : X.N.Nodup) (hi : X.N[i]? = some x := by rfl) (hx : Loc X.env.scope x := by first | exact Or.inl rfl | exact Or.inr rfl)
    (hs : swapsWith (.Dict [] [] p2) (some (.Name x p)) pos.line X.env = pure false := by rfl) (hf : X.fn x = true ∨ X.env.scope.names.lookup x = some .local := by first | exact .inl rfl | exact .inr rfl) : XS P X W (.Assign [.Name x p] (.Dict [] [] p2) pos) (mNewD i true) :=
  ps_imp (ps_set hN hi hx pe_dnewT hs hf) fun D σ H ⟨F, e, k, h⟩ p np => by
    obtain ⟨k1, s1⟩ := k.grow (Ex.new np) (Ext.layO (o := .dT []) k.ext.fh np)
    obtain ⟨f1, f2, f3, f4⟩ := k.fresh np
    exact h _ F _ (k1.putOb (o := .dt []) upd_same f1 f2 f3 f4 .nil) (Ex.refl _)
/-! k in d, k not in d -/
def mDIn {S : Type} (i : Nat) (f : M S Mi.D) : M S Mi.D := bnd f fun d e => match obAt i e with
  | some o => (match odGet o d with
    | some r => .ok (.bool r.isSome) e
    | none => .stuck)
  | none => .stuck
def mDNot {S : Type} (i : Nat) (f : M S Mi.D) : M S Mi.D := bnd f fun d e => match obAt i e with
  | some o => (match odGet o d with
    | some r => .ok (.bool (!r.isSome)) e
    | none => .stuck)
  | none => .stuck
theorem im_dIn {i : Nat} {f : M P.B.S Mi.D} {Q : VK} (h : tX P W (mDIn i f) σ H Q) : tDIn (tX P W f) (tVar i) σ H Q := by
  obtain ⟨F, e, k, h⟩ := h
  refine tX_of k h fun d e1 F1 H1 v k1 s1 r1 h1 => ?_
  cases z : Mi.obAt i e1 with
  | none => rw [z] at h1; exact h1.elim
  | some o =>
    rw [z] at h1
    dsimp only at h1
    cases g : odGet o d with
    | none => rw [g] at h1; exact h1.elim
    | some r =>
      rw [g] at h1
      obtain ⟨p, u, q1, q2, q3⟩ := k1.obAt z
      have := odGet_ok k1.ext.fh q2 q3 r1 g
      refine ⟨_, q1, p, ?_⟩
      cases r with
      | none => exact ⟨none, rfl, this, h1 F1 H1 k1 Step.refl _ (.bl _)⟩
      | some z => obtain ⟨v, g1, _⟩ := this; exact ⟨some v, rfl, g1, h1 F1 H1 k1 Step.refl _ (.bl _)⟩
theorem im_dNot {i : Nat} {f : M P.B.S Mi.D} {Q : VK} (h : tX P W (mDNot i f) σ H Q) : tDNotIn (tX P W f) (tVar i) σ H Q := by
  obtain ⟨F, e, k, h⟩ := h
  refine tX_of k h fun d e1 F1 H1 v k1 s1 r1 h1 => ?_
  cases z : Mi.obAt i e1 with
  | none => rw [z] at h1; exact h1.elim
  | some o =>
    rw [z] at h1
    dsimp only at h1
    cases g : odGet o d with
    | none => rw [g] at h1; exact h1.elim
    | some r =>
      rw [g] at h1
      obtain ⟨p, u, q1, q2, q3⟩ := k1.obAt z
      have := odGet_ok k1.ext.fh q2 q3 r1 g
      refine ⟨_, q1, p, ?_⟩
      cases r with
      | none => exact ⟨none, rfl, this, h1 F1 H1 k1 Step.refl _ (.bl _)⟩
      | some z => obtain ⟨v, g1, _⟩ := this; exact ⟨some v, rfl, g1, h1 F1 H1 k1 Step.refl _ (.bl _)⟩
theorem x_dIn (i : Nat) {x : Str} {a : Expr} {p : Pos} {f : M P.B.S Mi.D} (hu : X.A.units + 1 < cLine) (ha : XE P X W a f) (hN : X.N[i]? = some x := by rfl)
    (hv : Vis X.env.scope x := by first | exact Or.inl rfl | exact Or.inr (Or.inl rfl) | exact Or.inr (Or.inr rfl)) (hm : behindInMarks .In (.Name x p) = false := by rfl) (hd : (x == ("__debug__" : Str)) = false := by decide) (hcd : (x == ("__classdict__" : Str)) = false := by decide) :
    XE P X W (.Compare a [.In] [.Name x p] pos) (mDIn i f) := pe_imp (pe_cmp (pc_din hu ha (pe_var hN hv hd hcd)) hm) fun _ _ _ h => im_dIn h
theorem x_dNot (i : Nat) {x : Str} {a : Expr} {p : Pos} {f : M P.B.S Mi.D} (hu : X.A.units + 1 < cLine) (ha : XE P X W a f) (hN : X.N[i]? = some x := by rfl)
    (hv : Vis X.env.scope x := by first | exact Or.inl rfl | exact Or.inr (Or.inl rfl) | exact Or.inr (Or.inr rfl)) (hm : behindInMarks .NotIn (.Name x p) = false := by rfl) (hd : (x == ("__debug__" : Str)) = false := by decide) (hcd : (x == ("__classdict__" : Str)) = false := by decide) :
    XE P X W (.Compare a [.NotIn] [.Name x p] pos) (mDNot i f) := pe_imp (pe_cmp (pc_dnotin hu ha (pe_var hN hv hd hcd)) hm) fun _ _ _ h => im_dNot h
theorem t_dIn (i : Nat) {x : Str} {a : Expr} {p : Pos} {f : M P.B.S Mi.D} (hu : X.A.units + 1 < cLine) (ha : XE P X W a f) (hN : X.N[i]? = some x := by rfl)
    (hv : Vis X.env.scope x := by first | exact Or.inl rfl | exact Or.inr (Or.inl rfl) | exact Or.inr (Or.inr rfl)) (hm : behindInMarks .In (.Name x p) = false := by rfl) (hd : (x == ("__debug__" : Str)) = false := by decide) (hcd : (x == ("__classdict__" : Str)) = false := by decide) :
    XT P X W (.Compare a [.In] [.Name x p] pos) (asB (mDIn i f)) := pt_imp (pt_cmp (pc_din hu ha (pe_var hN hv hd hcd)) hm) fun σ H Q h => im_tst (t := tDIn (tX P W f) (tVar i)) (fun _ _ _ z => im_dIn z) σ H Q h
theorem t_dNot (i : Nat) {x : Str} {a : Expr} {p : Pos} {f : M P.B.S Mi.D} (hu : X.A.units + 1 < cLine) (ha : XE P X W a f) (hN : X.N[i]? = some x := by rfl)
    (hv : Vis X.env.scope x := by first | exact Or.inl rfl | exact Or.inr (Or.inl rfl) | exact Or.inr (Or.inr rfl)) (hm : behindInMarks .NotIn (.Name x p) = false := by rfl) (hd : (x == ("__debug__" : Str)) = false := by decide) (hcd : (x == ("__classdict__" : Str)) = false := by decide) :
    XT P X W (.Compare a [.NotIn] [.Name x p] pos) (asB (mDNot i f)) := pt_imp (pt_cmp (pc_dnotin hu ha (pe_var hN hv hd hcd)) hm) fun σ H Q h => im_tst (t := tDNotIn (tX P W f) (tVar i)) (fun _ _ _ z => im_dNot z) σ H Q h
/-! d[k] -/
def withOb {S α : Type} (i : Nat) (m : M S α) : M S α := fun e => match obAt i e with
  | some _ => m e
  | none => .stuck
theorem withOb_of {i : Nat} {m : M P.B.S α} {G : α → En P.B.S → Hp → Hp → Prop} (k : EOk P e σ F H) (h : Sat P W e σ F H (withOb i m e) G) : ∃ p, σ[i]? = some (some (.ref p)) ∧ Sat P W e σ F H (m e) G := by
  unfold withOb at h
  cases q : Mi.obAt i e with
  | none => rw [q] at h; exact h.elim
  | some o =>
    rw [q] at h
    obtain ⟨p, u, q1, _⟩ := k.obAt q
    exact ⟨p, q1, h⟩
theorem SatS.withOb_of {i : Nat} {m : M P.B.S Fl} (k : EOk P e σ F H) (h : SatS P W F D (withOb i m e)) : ∃ p, σ[i]? = some (some (.ref p)) ∧ SatS P W F D (m e) := by
  unfold withOb at h
  cases q : Mi.obAt i e with
  | none => rw [q] at h; exact h.elim
  | some o =>
    rw [q] at h
    obtain ⟨p, u, q1, _⟩ := k.obAt q
    exact ⟨p, q1, h⟩
def mDGet {S : Type} (i : Nat) (f : M S Mi.D) : M S Mi.D := withOb i (bnd f fun d e => match obAt i e with
  | some o => (match odGet o d with
    | some (some z) => .ok z e
    | _ => .stuck)
  | none => .stuck)
theorem x_dGet (i : Nat) {x : Str} {b : Expr} {f : M P.B.S Mi.D} {p : Pos} (hu : X.A.units + 1 < cLine) (hb : XE P X W b f) (hN : X.N[i]? = some x := by rfl) (hv : Vis X.env.scope x := by first | exact Or.inl rfl | exact Or.inr (Or.inl rfl) | exact Or.inr (Or.inr rfl)) (hs : NoSl b := by exact fun _ _ => rfl)
    (hd : (x == ("__debug__" : Str)) = false := by decide) (hcd : (x == ("__classdict__" : Str)) = false := by decide) : XE P X W (.Subscript (.Name x p) b pos) (mDGet i f) :=
  pe_imp (pe_dget hu (pe_var hN hv hd hcd) hb hs) fun σ H Q ⟨F, e, k, h⟩ => by
    obtain ⟨p, q1, h⟩ := withOb_of k h
    refine ⟨_, q1, tX_of k h fun d1 e1 F1 H1 v1 k1 s1 r1 h1 => ?_⟩
    cases z : Mi.obAt i e1 with
    | none => rw [z] at h1; exact h1.elim
    | some o =>
      rw [z] at h1
      dsimp only at h1
      obtain ⟨p', u, g1, g2, g3⟩ := k1.obAt z
      rw [q1] at g1
      cases g1
      cases g : odGet o d1 with
      | none => rw [g] at h1; exact h1.elim
      | some r =>
        rw [g] at h1
        have := odGet_ok k1.ext.fh g2 g3 r1 g
        cases r with
        | none => exact h1.elim
        | some z => obtain ⟨v, w1, w2⟩ := this; exact ⟨p, v, rfl, w1, h1 F1 H1 k1 Step.refl v w2⟩
/-! d[k] = v -/
def mDPut {S : Type} (i : Nat) (fe fi : M S Mi.D) : M S Fl := bnd fe fun v => withOb i (bnd fi fun k e => match obAt i e with
  | some o => (match odPut o k v with
    | some o2 => .ok .nx { e with sl := e.sl.set i (.ob o2) }
    | none => .stuck)
  | none => .stuck)
theorem s_dPut (i : Nat) {x : Str} {p spos : Pos} {ix a : Expr} {fe fi : M P.B.S Mi.D} (hu : X.A.units + 1 < cLine) (h : XE P X W a fe) (hi : XE P X W ix fi) (hN : X.N[i]? = some x := by rfl)
    (hy : Vis X.env.scope x := by first | exact Or.inl rfl | exact Or.inr (Or.inl rfl) | exact Or.inr (Or.inr rfl)) (hd : (x == ("__debug__" : Str)) = false := by decide) (hcd : (x == ("__classdict__" : Str)) = false := by decide)
    (hs : swapsWith a (some (.Subscript (.Name x p) ix spos)) pos.line X.env = pure false := by rfl) : XS P X W (.Assign [.Subscript (.Name x p) ix spos] a pos) (mDPut i fe fi) :=
  ps_imp (ps_dput hu (pe_var hN hy hd hcd) hi h hs) fun D σ H ⟨F, e, k, h⟩ => sX_of k h fun d e1 F1 H1 v k1 s1 r1 h1 => by
    obtain ⟨p, q1, h1⟩ := h1.withOb_of k1
    refine ⟨_, q1, sX_of k1 h1 fun d2 e2 F2 H2 v2 k2 s2 r2 h2 => ?_⟩
    cases z : Mi.obAt i e2 with
    | none => rw [z] at h2; exact h2.elim
    | some o =>
      rw [z] at h2
      dsimp only at h2
      obtain ⟨p', u, g1, g2, g3⟩ := k2.obAt z
      rw [q1] at g1
      cases g1
      cases g : odPut o d2 d with
      | none => rw [g] at h2; exact h2.elim
      | some o2 =>
        rw [g] at h2
        obtain ⟨u2, w1, w2⟩ := odPut_ok k2.ext.fh g2 g3 r2 (s2.ff.dp _ _ r1) g
        refine ⟨p, _, rfl, w1, ?_⟩
        obtain ⟨k3, s3⟩ := k2.mutOb (ys := o2) (zs := u2) (obAt_ok z) q1 w2
        exact h2 σ F2 _ k3 (Ex.refl _)
/-! the truth of a value -/
def truD : Mi.D → Option Bool
  | .none => some false
  | .bool b => some b
  | .int i => some (i != 0)
  | .str y => if y.length ≤ sizeLine then some ((y.length : Int) != 0) else none
  | .list xs => some (!xs.isEmpty)
  | .tuple xs => some (!xs.isEmpty)
  | .dict _ => none
def asTr {S : Type} (f : M S Mi.D) : M S Bool := bnd f fun d => lft (truD d)
theorem rpA_empty {vs : List V} {ds : List Mi.D} (r : RpA F vs ds) : vs.isEmpty = ds.isEmpty := by
  cases r <;> rfl
theorem t_tru {a : Expr} {f : M P.B.S Mi.D} (h : XE P X W a f) (he : ∀ whole, isTrue a X.env whole = (do let v ← whole; standAt a.pos; holding [v] (truthy v)) := by intro _; rfl) : XT P X W a (asTr f) :=
  pt_imp (pt_truth h he) fun σ H Q ⟨F, e, k, h⟩ => tX_of k h fun d e1 F1 H1 v k1 s1 r1 h1 => by
    obtain ⟨b, hb, h2⟩ := h1.lft
    refine ⟨b, ?_, h2 F1 H1 k1 Step.refl⟩
    cases r1 with
    | non => cases hb; rfl
    | bl c => cases hb; rfl
    | int i => cases hb; rfl
    | str x =>
      change (if x.length ≤ sizeLine then some ((x.length : Int) != 0) else none) = some b at hb
      split at hb
      · rename_i hl; cases hb; exact ⟨hl, rfl⟩
      · cases hb
    | lst g1 g2 => cases hb; exact .inl ⟨_, .of (k1.ext.fh _ _ g1), by rw [rpA_empty g2]⟩
    | tup g1 g2 => cases hb; exact .inr (.inl ⟨_, .of (k1.ext.fh _ _ g1), by rw [rpA_empty g2]⟩)
/-- .. of an own object -/
def odTru : OD → Option Bool
  | .lst xs => some (!xs.isEmpty)
  | .dk kvs => some (!kvs.isEmpty)
  | _ => none
def mTruO {S : Type} (i : Nat) : M S Bool := fun e => match obAt i e with
  | some o => lft (odTru o) e
  | none => .stuck
theorem t_truO (i : Nat) {x : Str} {p : Pos} (hN : X.N[i]? = some x := by rfl) (hv : Vis X.env.scope x := by first | exact Or.inl rfl | exact Or.inr (Or.inl rfl) | exact Or.inr (Or.inr rfl))
    (hd : (x == ("__debug__" : Str)) = false := by decide) (hcd : (x == ("__classdict__" : Str)) = false := by decide) (he : ∀ whole, isTrue (.Name x p) X.env whole = (do let v ← whole; standAt (Expr.pos (.Name x p)); holding [v] (truthy v)) := by intro _; rfl) : XT P X W (.Name x p) (mTruO i) :=
  pt_imp (pt_truth (pe_var hN hv hd hcd) he) fun σ H Q ⟨F, e, k, h⟩ => by
    unfold mTruO at h
    cases z : Mi.obAt i e with
    | none => rw [z] at h; exact h.elim
    | some o =>
      rw [z] at h
      obtain ⟨p, u, g1, g2, g3⟩ := k.obAt z
      obtain ⟨b, hb, h2⟩ := h.lft
      refine ⟨_, g1, b, ?_, h2 F H k Step.refl⟩
      cases o with
      | lst xs =>
        obtain ⟨vs, rfl, r⟩ := g3.lst_inv
        cases hb
        exact .inl ⟨_, .of g2, by rw [rpA_empty r]⟩
      | dk kvs =>
        obtain ⟨vs, rfl, r⟩ := g3.dk_inv
        cases hb
        refine .inr (.inr ⟨_, g2, ?_⟩)
        cases r <;> rfl
      | _ => cases hb
/-- len of an own dict -/
def mDLen {S : Type} (i : Nat) : M S Mi.D := fun e => match obAt i e with
  | some (.dk kvs) => .ok (.int kvs.length) e
  | _ => .stuck
end
/-! ### their rules -/
section
variable {S α β : Type} {e e' : En S} {X : Er → En S → Prop}
def wOb (o : Option Slot) (Q : OD → Prop) : Prop := match o with
  | some (.ob o) => Q o
  | _ => False
@[simp] theorem wOb_ob (o : OD) (Q : OD → Prop) : wOb (some (.ob o)) Q = Q o := (rfl)
theorem obAt_wOb {i : Nat} {Q : OD → Prop} : (match obAt i e with | some o => Q o | none => False) = wOb e.sl[i]? Q := by
  unfold obAt wOb
  cases e.sl[i]? with
  | none => rfl
  | some s => cases s <;> rfl
@[simp] theorem wp_mNewD {Q : Fl → En S → Prop} (i : Nat) (t : Bool) : wp (mNewD i t) e Q X = Q .nx { e with sl := e.sl.set i (.ob (if t then .dt [] else .dk [])) } := (rfl)
def kDIn2 (Q : Mi.D → En S → Prop) (d : Mi.D) (e : En S) (o : OD) : Prop := wO (odGet o d) fun r => Q (.bool r.isSome) e
@[simp] theorem kDIn2_e (Q : Mi.D → En S → Prop) (d : Mi.D) (o : OD) : kDIn2 Q d e o = wO (odGet o d) fun r => Q (.bool r.isSome) e := (rfl)
def kDIn (i : Nat) (Q : Mi.D → En S → Prop) (d : Mi.D) (e : En S) : Prop := wOb e.sl[i]? (kDIn2 Q d e)
@[simp] theorem kDIn_e (i : Nat) (Q : Mi.D → En S → Prop) (d : Mi.D) : kDIn i Q d e = wOb e.sl[i]? (kDIn2 Q d e) := (rfl)
@[simp] theorem wp_mDIn {Q : Mi.D → En S → Prop} (i : Nat) (f : M S Mi.D) : wp (mDIn i f) e Q X = wp f e (kDIn i Q) X := by
  unfold mDIn; rw [wp_bnd]; congr 1; funext d e1; rw [kDIn_e, ← obAt_wOb]; unfold wp
  dsimp only
  cases obAt i e1 with
  | none => rfl
  | some o => dsimp only; rw [kDIn2_e]; unfold wO; cases odGet o d <;> rfl
def kDNot2 (Q : Mi.D → En S → Prop) (d : Mi.D) (e : En S) (o : OD) : Prop := wO (odGet o d) fun r => Q (.bool (!r.isSome)) e
@[simp] theorem kDNot2_e (Q : Mi.D → En S → Prop) (d : Mi.D) (o : OD) : kDNot2 Q d e o = wO (odGet o d) fun r => Q (.bool (!r.isSome)) e := (rfl)
def kDNot (i : Nat) (Q : Mi.D → En S → Prop) (d : Mi.D) (e : En S) : Prop := wOb e.sl[i]? (kDNot2 Q d e)
@[simp] theorem kDNot_e (i : Nat) (Q : Mi.D → En S → Prop) (d : Mi.D) : kDNot i Q d e = wOb e.sl[i]? (kDNot2 Q d e) := (rfl)
@[simp] theorem wp_mDNot {Q : Mi.D → En S → Prop} (i : Nat) (f : M S Mi.D) : wp (mDNot i f) e Q X = wp f e (kDNot i Q) X := by
  unfold mDNot; rw [wp_bnd]; congr 1; funext d e1; rw [kDNot_e, ← obAt_wOb]; unfold wp
  dsimp only
  cases obAt i e1 with
  | none => rfl
  | some o => dsimp only; rw [kDNot2_e]; unfold wO; cases odGet o d <;> rfl
def kDGt4 (Q : Mi.D → En S → Prop) (e : En S) (r : Option Mi.D) : Prop := wO r (kO Q e)
@[simp] theorem kDGt4_e (Q : Mi.D → En S → Prop) (r : Option Mi.D) : kDGt4 Q e r = wO r (kO Q e) := (rfl)
def kDGt3 (Q : Mi.D → En S → Prop) (d : Mi.D) (e : En S) (o : OD) : Prop := wO (odGet o d) (kDGt4 Q e)
@[simp] theorem kDGt3_e (Q : Mi.D → En S → Prop) (d : Mi.D) (o : OD) : kDGt3 Q d e o = wO (odGet o d) (kDGt4 Q e) := (rfl)
def kDGt2 (i : Nat) (Q : Mi.D → En S → Prop) (d : Mi.D) (e : En S) : Prop := wOb e.sl[i]? (kDGt3 Q d e)
@[simp] theorem kDGt2_e (i : Nat) (Q : Mi.D → En S → Prop) (d : Mi.D) : kDGt2 i Q d e = wOb e.sl[i]? (kDGt3 Q d e) := (rfl)
def kDGt1 (i : Nat) (f : M S Mi.D) (Q : Mi.D → En S → Prop) (X : Er → En S → Prop) (e : En S) (_ : OD) : Prop := wp f e (kDGt2 i Q) X
@[simp] theorem kDGt1_e (i : Nat) (f : M S Mi.D) (Q : Mi.D → En S → Prop) (o : OD) : kDGt1 i f Q X e o = wp f e (kDGt2 i Q) X := (rfl)
@[simp] theorem wp_mDGet {Q : Mi.D → En S → Prop} (i : Nat) (f : M S Mi.D) : wp (mDGet i f) e Q X = wOb e.sl[i]? (kDGt1 i f Q X e) := by
  unfold mDGet withOb
  rw [← obAt_wOb]
  unfold wp
  dsimp only
  cases obAt i e with
  | none => rfl
  | some o =>
    dsimp only
    rw [kDGt1_e]
    show wp (bnd f _) e Q X = _
    rw [wp_bnd]; congr 1; funext d e2
    rw [kDGt2_e, ← obAt_wOb]
    unfold wp
    dsimp only
    cases obAt i e2 with
    | none => rfl
    | some o2 =>
      dsimp only
      rw [kDGt3_e]
      unfold wO
      cases odGet o2 d with
      | none => rfl
      | some r => dsimp only; rw [kDGt4_e]; cases r <;> rfl
def kDPt4 (i : Nat) (Q : Fl → En S → Prop) (e : En S) (o : OD) : Prop := Q .nx { e with sl := e.sl.set i (.ob o) }
@[simp] theorem kDPt4_e (i : Nat) (Q : Fl → En S → Prop) (o : OD) : kDPt4 i Q e o = Q .nx { e with sl := e.sl.set i (.ob o) } := (rfl)
def kDPt3 (i : Nat) (Q : Fl → En S → Prop) (v k : Mi.D) (e : En S) (o : OD) : Prop := wO (odPut o k v) (kDPt4 i Q e)
@[simp] theorem kDPt3_e (i : Nat) (Q : Fl → En S → Prop) (v k : Mi.D) (o : OD) : kDPt3 i Q v k e o = wO (odPut o k v) (kDPt4 i Q e) := (rfl)
def kDPt2 (i : Nat) (Q : Fl → En S → Prop) (v k : Mi.D) (e : En S) : Prop := wOb e.sl[i]? (kDPt3 i Q v k e)
@[simp] theorem kDPt2_e (i : Nat) (Q : Fl → En S → Prop) (v k : Mi.D) : kDPt2 i Q v k e = wOb e.sl[i]? (kDPt3 i Q v k e) := (rfl)
def kDPt1 (i : Nat) (fi : M S Mi.D) (Q : Fl → En S → Prop) (X : Er → En S → Prop) (v : Mi.D) (e : En S) (_ : OD) : Prop := wp fi e (kDPt2 i Q v) X
@[simp] theorem kDPt1_e (i : Nat) (fi : M S Mi.D) (Q : Fl → En S → Prop) (v : Mi.D) (o : OD) : kDPt1 i fi Q X v e o = wp fi e (kDPt2 i Q v) X := (rfl)
def kDPt (i : Nat) (fi : M S Mi.D) (Q : Fl → En S → Prop) (X : Er → En S → Prop) (v : Mi.D) (e : En S) : Prop := wOb e.sl[i]? (kDPt1 i fi Q X v e)
@[simp] theorem kDPt_e (i : Nat) (fi : M S Mi.D) (Q : Fl → En S → Prop) (v : Mi.D) : kDPt i fi Q X v e = wOb e.sl[i]? (kDPt1 i fi Q X v e) := (rfl)
@[simp] theorem wp_mDPut {Q : Fl → En S → Prop} (i : Nat) (fe fi : M S Mi.D) : wp (mDPut i fe fi) e Q X = wp fe e (kDPt i fi Q X) X := by
  unfold mDPut; rw [wp_bnd]; congr 1; funext v e1
  rw [kDPt_e, ← obAt_wOb]
  unfold withOb wp
  dsimp only
  cases obAt i e1 with
  | none => rfl
  | some o =>
    dsimp only
    rw [kDPt1_e]
    show wp (bnd fi _) e1 Q X = _
    rw [wp_bnd]; congr 1; funext d e2
    rw [kDPt2_e, ← obAt_wOb]
    unfold wp
    dsimp only
    cases obAt i e2 with
    | none => rfl
    | some o2 =>
      dsimp only
      rw [kDPt3_e]
      unfold wO
      cases odPut o2 d v <;> rfl
def kTru (Q : Bool → En S → Prop) (d : Mi.D) (e : En S) : Prop := wO (truD d) (kO Q e)
@[simp] theorem kTru_e (Q : Bool → En S → Prop) (d : Mi.D) : kTru Q d e = wO (truD d) (kO Q e) := (rfl)
@[simp] theorem wp_asTr {Q : Bool → En S → Prop} (f : M S Mi.D) : wp (asTr f) e Q X = wp f e (kTru Q) X := by
  unfold asTr; rw [wp_bnd]; simp only [wp_lft]; rfl
@[simp] theorem truD_b (b : Bool) : truD (.bool b) = some b := (rfl)
@[simp] theorem truD_i (i : Int) : truD (.int i) = some (i != 0) := (rfl)
@[simp] theorem truD_n : truD .none = some false := (rfl)
@[simp] theorem truD_l (xs : List Mi.D) : truD (.list xs) = some (!xs.isEmpty) := (rfl)
@[simp] theorem truD_t (xs : List Mi.D) : truD (.tuple xs) = some (!xs.isEmpty) := (rfl)
def kTrO (Q : Bool → En S → Prop) (e : En S) (o : OD) : Prop := wO (odTru o) (kO Q e)
@[simp] theorem kTrO_e (Q : Bool → En S → Prop) (o : OD) : kTrO Q e o = wO (odTru o) (kO Q e) := (rfl)
@[simp] theorem wp_mTruO {Q : Bool → En S → Prop} (i : Nat) : wp (mTruO i) e Q X = wOb e.sl[i]? (kTrO Q e) := by
  rw [← obAt_wOb]
  unfold wp mTruO
  cases obAt i e with
  | none => rfl
  | some o => dsimp only; rw [kTrO_e]; unfold lft wO; cases odTru o <;> rfl
@[simp] theorem odTru_l (xs : List Mi.D) : odTru (.lst xs) = some (!xs.isEmpty) := (rfl)
@[simp] theorem odTru_k (kvs : List (Key × Mi.D)) : odTru (.dk kvs) = some (!kvs.isEmpty) := (rfl)
@[simp] theorem odGet_i (kvs : List (Key × Mi.D)) (i : Int) : odGet (.dk kvs) (.int i) = some (valD kvs (.inl i)) := (rfl)
@[simp] theorem odGet_s (kvs : List (Key × Mi.D)) (i : Str) : odGet (.dk kvs) (.str i) = some (valD kvs (.inr i)) := (rfl)
@[simp] theorem odPut_i (kvs : List (Key × Mi.D)) (i : Int) (v : Mi.D) : odPut (.dk kvs) (.int i) v = if kvs.length < sizeLine then some (.dk (putD kvs (.inl i) v)) else none := (rfl)
end
end Mi
set_option maxHeartbeats 4000000
namespace Mi
open PySem PySem.Spec PyProof.Rows L2
def gInsert : List Mi.D → List Arg → Option (Mi.D × List Mi.D)
  | xs, [.d (.int i), .d d] => if xs.length < sizeLine ∧ 0 ≤ i ∧ i < 2 ^ 63 then some (.none, xs.take i.toNat ++ [d] ++ xs.drop i.toNat) else none
  | _, _ => none
def rInsert : V → List V → Hp → VK → Prop := fun x vs H Q => ∃ (l : Addr) (xs : List V) (i : Int) (y : V), x = .ref l ∧ vs = [.int i, y] ∧ H l = some (.lst xs) ∧ xs.length < sizeLine ∧ 0 ≤ i ∧ i < 2 ^ 63 ∧
    Q .non (upd H l (.lst (xs.take i.toNat ++ [y] ++ xs.drop i.toNat)))
theorem p_insert : PrM rInsert gInsert := fun B xs as d ys p vs ws F H Q h hp r ra x q => by
  unfold gInsert at h
  split at h
  · split at h
    · rename_i hl
      cases h
      cases ra with
      | d r1 r2 =>
        cases r2 with
        | d r3 r4 =>
          cases r4
          cases r1
          exact ⟨p, vs, _, _, rfl, rfl, hp, by rw [RpA.len r]; exact hl.1, hl.2.1, hl.2.2, q _ _ (RpA.app (RpA.app (RpA.take _ r) (RpA.one r3)) (RpA.drop _ r)) .non⟩
    · cases h
  · cases h
@[simp] theorem gInsert_e (xs : List Mi.D) (i : Int) (d : Mi.D) : gInsert xs [.d (.int i), .d d] = if xs.length < sizeLine ∧ 0 ≤ i ∧ i < 2 ^ 63 then some (.none, xs.take i.toNat ++ [d] ++ xs.drop i.toNat) else none := (rfl)
def gReverse : List Mi.D → List Arg → Option (Mi.D × List Mi.D)
  | xs, [] => some (.none, xs.reverse)
  | _, _ => none
theorem RpA.rev {F : Hp} {vs : List V} {ds : List Mi.D} (r : RpA F vs ds) : RpA F vs.reverse ds.reverse := by
  induction ds generalizing vs with
  | nil => cases r; exact .nil
  | cons d ds ih =>
    cases r with
    | cons r1 r2 => simp only [List.reverse_cons]; exact RpA.app (ih r2) (RpA.one r1)
theorem p_reverse : PrM rReverse gReverse := fun B xs as d ys p vs ws F H Q h hp r ra x q => by
  unfold gReverse at h
  split at h
  · cases h
    cases ra
    exact ⟨p, vs, rfl, rfl, hp, q _ _ (RpA.rev r) .non⟩
  · cases h
@[simp] theorem gReverse_e (xs : List Mi.D) : gReverse xs [] = some (.none, xs.reverse) := (rfl)
def gExtend : List Mi.D → List Arg → Option (Mi.D × List Mi.D)
  | xs, [.d (.list zs)] => if xs.length + zs.length ≤ sizeLine then some (.none, xs ++ zs) else none
  | _, _ => none
theorem p_extend : PrM rExtend gExtend := fun B xs as d ys p vs ws F H Q h hp r ra x q => by
  unfold gExtend at h
  split at h
  · split at h
    · rename_i hl
      cases h
      cases ra with
      | d r1 r2 =>
        cases r2
        cases r1 with
        | lst g1 g2 => exact ⟨p, _, vs, _, rfl, rfl, hp, x _ _ g1, by rw [RpA.len r, RpA.len g2]; exact hl, q _ _ (RpA.app r g2) .non⟩
    · cases h
  · cases h
@[simp] theorem gExtend_e (xs zs : List Mi.D) : gExtend xs [.d (.list zs)] = if xs.length + zs.length ≤ sizeLine then some (.none, xs ++ zs) else none := (rfl)
theorem FnG.imp {Pg : Program} {w : World} {K : PySem.W.Frag} {mg : Str → Option Value} {base : Heap} {CX : CXT} {k : Nat} {f : Addr} {fd : FuncData} {ps : List Str} {sp sp' : Sp} (h : FnG Pg w K mg base CX k f fd ps sp) (i : ∀ vs H Q E, sp' vs H Q E → sp vs H Q E) : FnG Pg w K mg base CX k f fd ps sp' :=
  ⟨fun vs H Q E z => h.len vs H Q E (i _ _ _ _ z), fun A outer s H args us vs Q E hr hg e0 hb rv z => h.run A outer s H args us vs Q E hr hg e0 hb rv (i _ _ _ _ z)⟩
theorem FnG.lift {Pg : Program} {w : World} {K : PySem.W.Frag} {mg : Str → Option Value} {base : Heap} {CX : CXT} {k : Nat} {f : Addr} {fd : FuncData} {ps : List Str} {n : Nat} {fn : List Arg → Unit → FO Unit} (h : FnG Pg w K mg base CX k f fd ps (spM mg B0 n fn)) (B : Amb) :
    FnG Pg w K mg base CX k f fd ps (spM mg B n (lift fn)) := by
  refine h.imp fun vs H Q E ⟨hl, F, as, s, hx, off, sto, r, q⟩ => ?_
  unfold Mi.lift at q
  by_cases ht : noTok as = true
  · rw [if_pos ht] at q
    have up : ∀ {F1 H1 : Hp}, Pst B0 () F H F1 H1 → Pst B s F H F1 H1 := fun {F1 H1} p => by
      refine ⟨p.ext, fun a o _ h => p.fr a o (fun z => nomatch z) h, B.loc _ _ _ (fun a o _ h => p.fr a o (fun z => nomatch z) h) sto, fun a ha => ?_⟩
      obtain ⟨o, ho⟩ := B.dom _ _ sto a ha
      cases z : F1 a with
      | none => rfl
      | some u =>
        rcases p.ext.nw a u z with ⟨y, g⟩ | g
        · rw [off a ha] at g; cases g
        · rw [ho] at g; cases g
    refine ⟨hl, F, as, (), hx, fun _ z => (nomatch z), trivial, r.b0 ht, ?_⟩
    cases y : fn as () with
    | stuck => rw [y] at q; exact q
    | exc x s1 => rw [y] at q; exact fun F1 H1 p => q F1 H1 (up p)
    | val r s1 =>
      rw [y] at q
      cases r with
      | sh d => exact fun F1 H1 p => q F1 H1 (up p)
      | fr xs => exact fun F1 H1 p => q F1 H1 (up p)
  · rw [if_neg ht] at q; exact q.elim
end Mi
set_option maxHeartbeats 4000000
namespace Mi
open PySem PySem.Spec PyProof.Rows L2
/-! the text of the row: its defs by their places -/
def topS (i : Nat) : Stmt := PySem.Challenge.pw_earlypulses_k07_parts_of_a_book.main.body.getD i (.Pass ⟨0, 0, 0, 0⟩)
abbrev s_same_parts : Stmt := topS 1
abbrev s_is_whole : Stmt := topS 9
abbrev s_is_index : Stmt := topS 10
abbrev s_copied : Stmt := topS 11
abbrev s_check_state : Stmt := topS 12
abbrev s_is_book : Stmt := topS 13
abbrev s_words_of : Stmt := topS 14
abbrev s_book_words : Stmt := topS 15
abbrev s_is_below : Stmt := topS 17
abbrev s_check_book : Stmt := topS 18
abbrev s_book_made : Stmt := topS 20
abbrev s_part : Stmt := topS 21
abbrev s__law_mixed : Stmt := topS 23
abbrev s__law_store : Stmt := topS 24
abbrev s__law_take : Stmt := topS 25
abbrev s__law_number : Stmt := topS 26
abbrev s__law_great : Stmt := topS 27
abbrev s__law_no_number : Stmt := topS 28
abbrev s__law_outside : Stmt := topS 29
abbrev s__law_unlike : Stmt := topS 30
abbrev s__law_order : Stmt := topS 31
abbrev s__law_power : Stmt := topS 32
abbrev s__law_kind : Stmt := topS 33
abbrev s__law_same : Stmt := topS 34
abbrev s__law_is_whole : Stmt := topS 35
abbrev s__law_mask_word : Stmt := topS 36
abbrev s__law_masks : Stmt := topS 37
abbrev s__law_words : Stmt := topS 38
abbrev s__law_less : Stmt := topS 42
abbrev s__law_pruned : Stmt := topS 39
abbrev s__law_book : Stmt := topS 40
abbrev s__law_plan : Stmt := topS 41
abbrev s__law_asked : Stmt := topS 43
abbrev s__law_due : Stmt := topS 44
abbrev s__law_numbers : Stmt := topS 45
abbrev s__law_parted : Stmt := topS 46
abbrev s__law_some_book : Stmt := topS 47
abbrev s_law : Stmt := topS 48
def st_i_NoWord : Stmt := match topS 3 with
  | .ClassDef (body := b) .. => b.getD 0 (.Pass ⟨0, 0, 0, 0⟩)
  | s => s
def st_i_NotBook : Stmt := match topS 4 with
  | .ClassDef (body := b) .. => b.getD 0 (.Pass ⟨0, 0, 0, 0⟩)
  | s => s
def st_i_BadState : Stmt := match topS 5 with
  | .ClassDef (body := b) .. => b.getD 0 (.Pass ⟨0, 0, 0, 0⟩)
  | s => s
def st_i_BadNumber : Stmt := match topS 6 with
  | .ClassDef (body := b) .. => b.getD 0 (.Pass ⟨0, 0, 0, 0⟩)
  | s => s
def st_i_Double : Stmt := match topS 7 with
  | .ClassDef (body := b) .. => b.getD 0 (.Pass ⟨0, 0, 0, 0⟩)
  | s => s
/-! which class is whose -/
def subT : List (Str × Str × Bool) := [("NotBook", "NotBook", true), ("NotBook", "BadNumber", false), ("NotBook", "Double", false), ("NotBook", "NoWord", false), ("BadNumber", "NotBook", false), ("BadNumber", "BadNumber", true), ("BadNumber", "Double", false), ("BadNumber", "NoWord", false), ("Double", "NotBook", false), ("Double", "BadNumber", false), ("Double", "Double", true), ("Double", "NoWord", false), ("NoWord", "NotBook", false), ("NoWord", "BadNumber", false), ("NoWord", "Double", false), ("NoWord", "NoWord", true)]
def sub : Str → Str → Option Bool := subOf subT
/-! the mirrors -/
def b_same_parts (rec : List Arg → Unit → FO Unit) : M Unit Fl :=
  (sq (mIf (asB (m1 (dIs "list") (mV 0)))
  (mRetF (mLc [1] (mI (mV 0)) (gN 1) tYesM (mCall 1 rec (mCons (mV 1) mNil))))
  nop)
  (sq (mIf (asB (m1 (dIs "tuple") (mV 0)))
  (mRet (mB gTup (mCons (mFz (mLc [1] (mI (mV 0)) (gN 1) tYesM (mCall 1 rec (mCons (mV 1) mNil)))) mNil)))
  nop)
  (mRetV 0)))
def m_same_parts : Nat → List Arg → Unit → FO Unit
  | 0 => fun _ _ => .stuck
  | n + 1 => fnOf 2 (b_same_parts (m_same_parts n))
def b_is_whole : M Unit Fl :=
  (mRet (mAndV (m1 (dIs "int") (mV 0)) (mNotV (m1 (dIs "bool") (mV 0)))))
@[irreducible] def m_is_whole : List Arg → Unit → FO Unit := fnOf 1 b_is_whole
def b_is_index : M Unit Fl :=
  (mRet (mAndV (mCall 1 m_is_whole (mCons (mV 0) mNil)) (mChain dLe dLt (rt (.int 0)) (mV 0) (mV 1))))
@[irreducible] def m_is_index : List Arg → Unit → FO Unit := fnOf 2 b_is_index
def b_copied (rec : List Arg → Unit → FO Unit) : M Unit Fl :=
  (sq (mIf (asB (m1 (dIs "list") (mV 0)))
  (mRetF (mLc [1] (mI (mV 0)) (gN 1) tYesM (mCall 1 rec (mCons (mV 1) mNil))))
  nop)
  (sq (mIf (asB (m1 (dIs "tuple") (mV 0)))
  (mRet (mB gTup (mCons (mFz (mLc [1] (mI (mV 0)) (gN 1) tYesM (mCall 1 rec (mCons (mV 1) mNil)))) mNil)))
  nop)
  (mRetV 0)))
def m_copied : Nat → List Arg → Unit → FO Unit
  | 0 => fun _ _ => .stuck
  | n + 1 => fnOf 2 (b_copied (m_copied n))
def b_check_state : M Unit Fl :=
  (mIf (mNot (asB (mCall 2 m_is_index (mCons (mV 1) (mCons (mB gLen (mCons (m2 dIx (mV 0) (rt (.int 1))) mNil)) mNil)))))
  (mRaise (mMk "BadState" ["value"] (m_same_parts 30) (mCons (mCall 1 (m_copied 30) (mCons (mV 1) mNil)) mNil)))
  nop)
@[irreducible] def m_check_state : List Arg → Unit → FO Unit := fnOf 2 b_check_state
def b_is_book : M Unit Fl :=
  (mRet (m2 dEq (mB gLen (mCons (m2 dIx (mV 0) (rt (.int 1))) mNil)) (rt (.int 1))))
@[irreducible] def m_is_book : List Arg → Unit → FO Unit := fnOf 1 b_is_book
def b_words_of : M Unit Fl :=
  (sq (mDrop (mCall 2 m_check_state (mCons (mV 0) (mCons (mV 1) mNil))))
  (mRet (mB gTup (mCons (mFz (mLc [2, 3] (mI (m2 dIx (m2 dIx (mV 0) (rt (.int 1))) (mV 1))) (gT (gC (gN 2) (gC (gN 3) gE))) tYesM (mV 2))) mNil))))
@[irreducible] def m_words_of : List Arg → Unit → FO Unit := fnOf 4 b_words_of
def b_book_words : M Unit Fl :=
  (sq (mIf (asB (m2 dNe (mB gLen (mCons (m2 dIx (mV 0) (rt (.int 1))) mNil)) (rt (.int 1))))
  (mRaise (mMk "NotBook" ["states"] (m_same_parts 30) (mCons (mB gLen (mCons (m2 dIx (mV 0) (rt (.int 1))) mNil)) mNil)))
  nop)
  (mRet (mCall 2 m_words_of (mCons (mV 0) (mCons (rt (.int 0)) mNil)))))
@[irreducible] def m_book_words : List Arg → Unit → FO Unit := fnOf 1 b_book_words
def b_is_below : M Unit Fl :=
  (mRet (mAndV (m1 (dIs "int") (mV 0)) (mAndV (mNotV (m1 (dIs "bool") (mV 0))) (mChain dLe dLt (rt (.int 0)) (mV 0) (mV 1)))))
@[irreducible] def m_is_below : List Arg → Unit → FO Unit := fnOf 2 b_is_below
def b_check_book : M Unit Fl :=
  (mIf (mNot (asB (mCall 1 m_is_book (mCons (mV 0) mNil))))
  (mRaise (mMk "NotBook" ["states"] (m_same_parts 30) (mCons (mB gLen (mCons (m2 dIx (mV 0) (rt (.int 1))) mNil)) mNil)))
  nop)
@[irreducible] def m_check_book : List Arg → Unit → FO Unit := fnOf 1 b_check_book
def b_book_made : M Unit Fl :=
  (mRet (mTup (mCons (mV 0) (mCons (mTup (mCons (mB gTup (mCons (mFz (mLc [2] (mI (mV 1)) (gN 2) tYesM (mTup (mCons (mV 2) (mCons (rt (.int 0)) mNil))))) mNil)) mNil)) mNil))))
@[irreducible] def m_book_made : List Arg → Unit → FO Unit := fnOf 3 b_book_made
def b_part : M Unit Fl :=
  (sq (mDrop (mCall 1 m_check_book (mCons (mV 0) mNil)))
  (sq (mSet 2 (mCall 1 m_book_words (mCons (mV 0) mNil)))
  (sq (mNewD 3 false)
  (sq (mFor (mEnum (mCons (mV 1) mNil)) (gT (gC (gN 4) (gC (gN 5) gE)))
  (sq (mIf (mNot (asB (mCall 2 m_is_below (mCons (mV 5) (mCons (mB gLen (mCons (mV 2) mNil)) mNil)))))
  (mRaise (mMk "BadNumber" ["place"] (m_same_parts 30) (mCons (mV 4) mNil)))
  nop)
  (sq (mIf (asB (mDIn 3 (mV 5)))
  (mRaise (mMk "Double" ["at", "number"] (m_same_parts 30) (mCons (rt (.int 0)) (mCons (mDGet 3 (mV 5)) mNil))))
  nop)
  (mDPut 3 (mV 4) (mV 5)))))
  (sq (mIf (mNot (mTruO 3))
  (mRaise (mMk "NoWord" ["at"] (m_same_parts 30) (mCons (rt (.int 0)) mNil)))
  nop)
  (mRet (mCall 2 m_book_made (mCons (m2 dIx (mV 0) (rt (.int 0))) (mCons (mFz (mLc [5] (mI (mV 1)) (gN 5) tYesM (m2 dIx (mV 2) (mV 5)))) mNil)))))))))
@[irreducible] def m_part : List Arg → Unit → FO Unit := fnOf 6 b_part
def b__law_number (cs : List Addr) : M Sto Fl :=
  (sq (mIf (asB (m2 dLe (mV 2) (mV 1)))
  (mRetV 1)
  nop)
  (sq (mSet 3 (mCall 2 (m__law_take cs) (mTok 0 (mCons (rt (.int 6)) mNil))))
  (sq (mIf (asB (m2 dEq (mV 3) (rt (.int 0))))
  (mRetV 1)
  nop)
  (sq (mIf (asB (m2 dEq (mV 3) (rt (.int 1))))
  (mRetV 2)
  nop)
  (mRet (m2 dAdd (mV 1) (mCall 2 (m__law_take cs) (mTok 0 (mCons (m2 dAdd (m2 dSub (mV 2) (mV 1)) (rt (.int 1))) mNil)))))))))
@[irreducible] def m__law_number (cs : List Addr) : List Arg → Sto → FO Sto := fnOf 4 (b__law_number cs)
def b__law_great (cs : List Addr) : M Sto Fl :=
  (sq (mSet 1 (m2 dSub (m2 dMul (m2 dPow (rt (.int 10)) (rt (.int 60))) (m2 dPow (rt (.int 10)) (rt (.int 60)))) (rt (.int 1))))
  (sq (mIf (asB (m2 dGt (mCall 2 (m__law_take cs) (mTok 0 (mCons (rt (.int 6)) mNil))) (rt (.int 1))))
  (sq (mSet 1 (m2 dAdd (rt (.int 1)) (mCall 2 (m__law_take cs) (mTok 0 (mCons (rt (.int 999999999)) mNil)))))
  (mFor (mR1 (mCons (mCall 2 (m__law_take cs) (mTok 0 (mCons (rt (.int 13)) mNil))) mNil)) (gN 2)
  (mSet 1 (m2 dAdd (m2 dMul (mV 1) (rt (.int 1000000000))) (mCall 2 (m__law_take cs) (mTok 0 (mCons (rt (.int 1000000000)) mNil)))))))
  nop)
  (sq (mIf (asB (m2 dEq (mCall 2 (m__law_take cs) (mTok 0 (mCons (rt (.int 2)) mNil))) (rt (.int 1))))
  (mRet (m2 dSub (rt (.int 0)) (mV 1)))
  nop)
  (mRetV 1))))
@[irreducible] def m__law_great (cs : List Addr) : List Arg → Sto → FO Sto := fnOf 3 (b__law_great cs)
def b__law_no_number (cs : List Addr) : M Sto Fl :=
  (sq (mSet 1 (mCall 2 (m__law_take cs) (mTok 0 (mCons (rt (.int 5)) mNil))))
  (sq (mSet 2 (mFz (mLst (mCons (rt (.bool true)) (mCons (rt (.bool false)) (mCons (rt .none) (mCons (rt (.str "")) (mCons (mB gStr (mCons (mV 1) mNil)) (mCons (mFz (mLst mNil)) (mCons (mTup mNil) (mCons (mFz (mLst (mCons (mV 1) mNil))) (mCons (mTup (mCons (mV 1) mNil)) (mCons (rt (.str "a")) (mCons (mFz (mLst (mCons (mFz (mLst (mCons (mV 1) mNil))) mNil))) (mCons (mTup (mCons (rt (.bool true)) (mCons (rt .none) mNil))) mNil)))))))))))))))
  (mRet (m2 dIx (mV 2) (mCall 2 (m__law_take cs) (mTok 0 (mCons (mB gLen (mCons (mV 2) mNil)) mNil)))))))
@[irreducible] def m__law_no_number (cs : List Addr) : List Arg → Sto → FO Sto := fnOf 3 (b__law_no_number cs)
def b__law_outside (cs : List Addr) : M Sto Fl :=
  (sq (mSet 3 (mCall 2 (m__law_take cs) (mTok 0 (mCons (rt (.int 8)) mNil))))
  (sq (mIf (asB (m2 dLt (mV 3) (rt (.int 2))))
  (mRet (m2 dSub (mV 1) (rt (.int 1))))
  nop)
  (sq (mIf (asB (m2 dLt (mV 3) (rt (.int 4))))
  (mRet (m2 dAdd (mV 2) (rt (.int 1))))
  nop)
  (sq (mIf (asB (m2 dEq (mV 3) (rt (.int 4))))
  (mRet (m2 dAdd (m2 dAdd (mV 2) (rt (.int 1))) (mCall 2 (m__law_take cs) (mTok 0 (mCons (rt (.int 1000)) mNil)))))
  nop)
  (sq (mIf (asB (m2 dEq (mV 3) (rt (.int 5))))
  (sq (mSet 4 (mCall 1 (m__law_great cs) (mTok 0 mNil)))
  (sq (mIf (mOr (asB (m2 dLt (mV 4) (mV 1))) (asB (m2 dGt (mV 4) (mV 2))))
  (mRetV 4)
  nop)
  (mRet (m2 dAdd (mV 2) (rt (.int 2))))))
  nop)
  (mRet (mCall 1 (m__law_no_number cs) (mTok 0 mNil))))))))
@[irreducible] def m__law_outside (cs : List Addr) : List Arg → Sto → FO Sto := fnOf 5 (b__law_outside cs)
def b__law_unlike (cs : List Addr) : M Sto Fl :=
  (sq (mSetF 3 (mLst mNil))
  (sq (mFor (mR1 (mCons (mB gMin2 (mCons (mV 2) (mCons (mV 1) mNil))) mNil)) (gN 4)
  (sq (mSet 5 (mCall 2 (m__law_take cs) (mTok 0 (mCons (mV 1) mNil))))
  (sq (mFor (mR1 (mCons (mO 3 gLenO) mNil)) (gN 6)
  (sq (mIf (asB (mInO dNotInO 3 (mV 5)))
  mBrk
  nop)
  (mSet 5 (m2 dMod (mB gInt (mCons (m2 dAdd (mV 5) (rt (.int 1))) mNil)) (mV 1)))))
  (mDrop (mMeth 3 gAppend (mCons (mV 5) mNil))))))
  (mRetV 3)))
@[irreducible] def m__law_unlike (cs : List Addr) : List Arg → Sto → FO Sto := fnOf 7 (b__law_unlike cs)
def b__law_order (cs : List Addr) : M Sto Fl :=
  (sq (mSetF 2 (mLR1 (mV 1)))
  (sq (mSet 3 (mCall 2 (m__law_take cs) (mTok 0 (mCons (rt (.int 6)) mNil))))
  (sq (mIf (asB (m2 dEq (mV 3) (rt (.int 0))))
  (mRetV 2)
  nop)
  (sq (mSetF 4 (mLst mNil))
  (sq (mFor (mR1 (mCons (mV 1) mNil)) (gN 5)
  (sq (mSet 6 (m2 dSub (mO 2 gLenO) (rt (.int 1))))
  (sq (mIf (asB (m2 dGt (mV 3) (rt (.int 1))))
  (mSet 6 (mCall 2 (m__law_take cs) (mTok 0 (mCons (mO 2 gLenO) mNil))))
  nop)
  (mDrop (mMeth 4 gAppend (mCons (mMeth 2 gPopAt (mCons (mV 6) mNil)) mNil))))))
  (mRetV 4))))))
@[irreducible] def m__law_order (cs : List Addr) : List Arg → Sto → FO Sto := fnOf 7 (b__law_order cs)
def b__law_power : M Unit Fl :=
  (sq (mSet 2 (rt (.int 1)))
  (sq (mFor (mR1 (mCons (mV 1) mNil)) (gN 3)
  (mSet 2 (m2 dMul (mV 2) (mV 0))))
  (mRetV 2)))
@[irreducible] def m__law_power : List Arg → Unit → FO Unit := fnOf 4 b__law_power
def b__law_kind : M Unit Fl :=
  (sq (mIf (asB (m1 dIsN (mV 0)))
  (mRet (rt (.int 0)))
  nop)
  (sq (mIf (asB (m1 (dIs "bool") (mV 0)))
  (mRet (rt (.int 1)))
  nop)
  (sq (mIf (asB (m1 (dIs "int") (mV 0)))
  (mRet (rt (.int 2)))
  nop)
  (sq (mIf (asB (m1 (dIs "str") (mV 0)))
  (mRet (rt (.int 3)))
  nop)
  (sq (mIf (asB (m1 (dIs "tuple") (mV 0)))
  (mRet (rt (.int 4)))
  nop)
  (sq (mIf (asB (m1 (dIs "list") (mV 0)))
  (mRet (rt (.int 5)))
  nop)
  (mRet (rt (.int 6)))))))))
@[irreducible] def m__law_kind : List Arg → Unit → FO Unit := fnOf 1 b__law_kind
def b__law_same : M Unit Fl :=
  (sq (mSetF 2 (mLst (mCons (mTup (mCons (mV 0) (mCons (mV 1) mNil))) mNil)))
  (sq (whl (asB (m2 dGt (mO 2 gLenO) (rt (.int 0))))
  (sq (mAsg (mMeth0 2 gPop) (gT (gC (gN 3) (gC (gN 4) gE))))
  (sq (mSet 5 (mCall 1 m__law_kind (mCons (mV 3) mNil)))
  (sq (mIf (mOr (asB (m2 dEq (mV 5) (rt (.int 6)))) (asB (m2 dNe (mV 5) (mCall 1 m__law_kind (mCons (mV 4) mNil)))))
  (mRet (rt (.bool false)))
  nop)
  (mIf (asB (m2 dLt (mV 5) (rt (.int 4))))
  (mIf (asB (m2 dNe (mV 3) (mV 4)))
  (mRet (rt (.bool false)))
  nop)
  (mIf (asB (m2 dNe (mB gLen (mCons (mV 3) mNil)) (mB gLen (mCons (mV 4) mNil))))
  (mRet (rt (.bool false)))
  (mFor (mR1 (mCons (mB gLen (mCons (mV 3) mNil)) mNil)) (gN 6)
  (mDrop (mMeth 2 gAppend (mCons (mTup (mCons (m2 dIx (mV 3) (mV 6)) (mCons (m2 dIx (mV 4) (mV 6)) mNil))) mNil))))))))) fuel)
  (mRet (rt (.bool true)))))
@[irreducible] def m__law_same : List Arg → Unit → FO Unit := fnOf 7 b__law_same
def b__law_is_whole : M Unit Fl :=
  (mRet (mAndV (m1 (dIs "int") (mV 0)) (mNotV (m1 (dIs "bool") (mV 0)))))
@[irreducible] def m__law_is_whole : List Arg → Unit → FO Unit := fnOf 1 b__law_is_whole
def b__law_mask_word : M Unit Fl :=
  (sq (mSetF 2 (mLst mNil))
  (sq (mSet 3 (mV 0))
  (sq (mFor (mR1 (mCons (mV 1) mNil)) (gN 4)
  (sq (mIf (asB (m2 dEq (m2 dMod (mB gInt (mCons (mV 3) mNil)) (rt (.int 2))) (rt (.int 1))))
  (mDrop (mMeth 2 gAppend (mCons (mV 4) mNil)))
  nop)
  (mSet 3 (m2 dDiv (mV 3) (rt (.int 2))))))
  (mRet (mO 2 gTupO)))))
@[irreducible] def m__law_mask_word : List Arg → Unit → FO Unit := fnOf 5 b__law_mask_word
def b__law_masks (cs : List Addr) : M Sto Fl :=
  (sq (mSet 3 (m2 dSub (mCall 2 (lift m__law_power) (mCons (rt (.int 2)) (mCons (mV 1) mNil))) (rt (.int 1))))
  (sq (mSet 4 (mAndV (m2 dEq (mCall 2 (m__law_take cs) (mTok 0 (mCons (rt (.int 3)) mNil))) (rt (.int 0))) (m2 dGt (mV 1) (rt (.int 3)))))
  (sq (mSetF 5 (mLst mNil))
  (sq (mFor (mR1 (mCons (mB gMin2 (mCons (mV 2) (mCons (mV 3) mNil))) mNil)) (gN 6)
  (sq (mIf (asB (mV 4))
  (sq (mSet 8 (mCall 2 (lift m__law_power) (mCons (rt (.int 2)) (mCons (mCall 2 (m__law_take cs) (mTok 0 (mCons (mV 1) mNil))) mNil))))
  (sq (mSet 9 (mCall 2 (lift m__law_power) (mCons (rt (.int 2)) (mCons (mCall 2 (m__law_take cs) (mTok 0 (mCons (mV 1) mNil))) mNil))))
  (sq (mSet 10 (mB gMax2 (mCons (mV 8) (mCons (mV 9) mNil))))
  (mIf (asB (m2 dNe (mV 8) (mV 9)))
  (mSet 10 (m2 dAdd (mV 8) (mV 9)))
  nop))))
  (mSet 10 (m2 dAdd (rt (.int 1)) (mCall 2 (m__law_take cs) (mTok 0 (mCons (mV 3) mNil))))))
  (sq (mFor (mR1 (mCons (mO 5 gLenO) mNil)) (gN 7)
  (sq (mIf (asB (mInO dNotInO 5 (mV 10)))
  mBrk
  nop)
  (mSet 10 (m2 dAdd (m2 dMod (mB gInt (mCons (mV 10) mNil)) (mV 3)) (rt (.int 1))))))
  (mDrop (mMeth 5 gAppend (mCons (mV 10) mNil))))))
  (mRetV 5)))))
@[irreducible] def m__law_masks (cs : List Addr) : List Arg → Sto → FO Sto := fnOf 11 (b__law_masks cs)
def b__law_words (cs : List Addr) : M Sto Fl :=
  (mRetF (mLc [3] (mI (mCall 3 (m__law_masks cs) (mTok 0 (mCons (mV 1) (mCons (mV 2) mNil))))) (gN 3) tYesM (mCall 2 (lift m__law_mask_word) (mCons (mV 3) (mCons (mV 1) mNil)))))
@[irreducible] def m__law_words (cs : List Addr) : List Arg → Sto → FO Sto := fnOf 4 (b__law_words cs)
def b__law_less : M Unit Fl :=
  (mRet (mB gTup (mCons (mFz (mLc [2] (mI (mV 0)) (gN 2) (asB (m2 dNotIn (mV 2) (mV 1))) (mV 2))) mNil)))
@[irreducible] def m__law_less : List Arg → Unit → FO Unit := fnOf 3 b__law_less
def b__law_pruned : M Unit Fl :=
  (sq (mSetF 1 (mLst mNil))
  (sq (mFor (mI (mV 0)) (gN 2)
  (sq (mSet 3 (rt (.bool true)))
  (sq (mFor (mI (mV 1)) (gN 4)
  (mIf (mOr (asB (m2 dEq (mB gLen (mCons (mCall 2 m__law_less (mCons (mV 2) (mCons (mV 4) mNil))) mNil)) (rt (.int 0)))) (asB (m2 dEq (mB gLen (mCons (mCall 2 m__law_less (mCons (mV 4) (mCons (mV 2) mNil))) mNil)) (rt (.int 0)))))
  (mSet 3 (rt (.bool false)))
  nop))
  (mIf (asB (mV 3))
  (mDrop (mMeth 1 gAppend (mCons (mV 2) mNil)))
  nop))))
  (mRetV 1)))
@[irreducible] def m__law_pruned : List Arg → Unit → FO Unit := fnOf 5 b__law_pruned
def b__law_book : M Unit Fl :=
  (mRet (mTup (mCons (mV 0) (mCons (mTup (mCons (mB gTup (mCons (mFz (mLc [2] (mI (mV 1)) (gN 2) tYesM (mTup (mCons (mV 2) (mCons (rt (.int 0)) mNil))))) mNil)) mNil)) mNil))))
@[irreducible] def m__law_book : List Arg → Unit → FO Unit := fnOf 3 b__law_book
def b__law_plan (cs : List Addr) : M Sto Fl :=
  (sq (mSet 5 (m2 dAdd (mFz (mLst (mCons (rt (.int 0)) mNil))) (mFz (mLc [13] (mI (mCall 2 (m__law_order cs) (mTok 0 (mCons (m2 dSub (mV 3) (rt (.int 1))) mNil)))) (gN 13) tYesM (m2 dAdd (rt (.int 1)) (mV 13))))))
  (sq (mSetF 6 (mRep (mFz (mLst (mCons (rt (.int 0)) mNil))) (mV 3)))
  (sq (mFor (mR1 (mCons (mV 3) mNil)) (gN 7)
  (mSetIx 6 (m2 dIx (mV 5) (m2 dMod (mB gInt (mCons (m2 dAdd (mV 7) (rt (.int 1))) mNil)) (mV 3))) (m2 dIx (mV 5) (mV 7))))
  (sq (mSetF 8 (mLst mNil))
  (sq (mFor (mR1 (mCons (mV 3) mNil)) (gN 9)
  (sq (mSet 10 (mCall 3 (m__law_words cs) (mTok 0 (mCons (mV 1) (mCons (m2 dAdd (rt (.int 1)) (mCall 2 (m__law_take cs) (mTok 0 (mCons (mV 4) mNil)))) mNil)))))
  (sq (mIf (asB (mV 2))
  (mSet 10 (mCall 1 (lift m__law_pruned) (mCons (mV 10) mNil)))
  nop)
  (sq (mIf (mAnd (asB (m2 dGt (mV 9) (rt (.int 0)))) (asB (m2 dEq (mCall 2 (m__law_take cs) (mTok 0 (mCons (rt (.int 6)) mNil))) (rt (.int 0)))))
  (sq (mSet 12 (mIxO 8 (mCall 2 (m__law_take cs) (mTok 0 (mCons (mV 9) mNil)))))
  (mSetF 10 (mLc [15] (mI (mV 12)) (gN 15) tYesM (m2 dIx (mV 15) (rt (.int 0))))))
  nop)
  (sq (mSetF 11 (mLc [14] (mI (mV 10)) (gN 14) tYesM (mTup (mCons (mV 14) (mCons (mCall 2 (m__law_take cs) (mTok 0 (mCons (mV 3) mNil))) mNil)))))
  (sq (mSet 7 (mCall 2 (m__law_take cs) (mTok 0 (mCons (mO 11 gLenO) mNil))))
  (sq (mSetIx 11 (mTup (mCons (m2 dIx (mIxO 11 (mV 7)) (rt (.int 0))) (mCons (mIxO 6 (mV 9)) mNil))) (mV 7))
  (mDrop (mMeth 8 gAppend (mCons (mO 11 gTupO) mNil))))))))))
  (mRet (mTup (mCons (mV 1) (mCons (mO 8 gTupO) mNil)))))))))
@[irreducible] def m__law_plan (cs : List Addr) : List Arg → Sto → FO Sto := fnOf 16 (b__law_plan cs)
def b__law_asked : M Unit Fl :=
  (mTry sub (mRet (mTup (mCons (rt (.str "told")) (mCons (mCall 2 m_part (mCons (mV 0) (mCons (mV 1) mNil))) mNil))))
  [⟨"NotBook", some 2, (mRet (mTup (mCons (rt (.str "refused")) (mCons (rt (.str "NotBook")) (mCons (mAtt 2 "states" "NotBook") (mCons (mIsE sub 2 ["BadNumber", "Double", "NoWord"]) mNil))))))⟩,
  ⟨"BadNumber", some 2, (mRet (mTup (mCons (rt (.str "refused")) (mCons (rt (.str "BadNumber")) (mCons (mAtt 2 "place" "BadNumber") (mCons (mIsE sub 2 ["Double", "NoWord", "NotBook"]) mNil))))))⟩,
  ⟨"Double", some 2, (mRet (mTup (mCons (rt (.str "refused")) (mCons (rt (.str "Double")) (mCons (mAtt 2 "at" "Double") (mCons (mAtt 2 "number" "Double") (mCons (mIsE sub 2 ["BadNumber", "NoWord", "NotBook"]) mNil)))))))⟩,
  ⟨"NoWord", some 2, (mRet (mTup (mCons (rt (.str "refused")) (mCons (rt (.str "NoWord")) (mCons (mAtt 2 "at" "NoWord") (mCons (mIsE sub 2 ["BadNumber", "Double", "NotBook"]) mNil))))))⟩])
@[irreducible] def m__law_asked : List Arg → Unit → FO Unit := fnOf 3 b__law_asked
def b__law_due : M Unit Fl :=
  (sq (mIf (asB (m2 dNe (mB gLen (mCons (m2 dIx (mV 0) (rt (.int 1))) mNil)) (rt (.int 1))))
  (mRet (mTup (mCons (rt (.str "refused")) (mCons (rt (.str "NotBook")) (mCons (mB gLen (mCons (m2 dIx (mV 0) (rt (.int 1))) mNil)) (mCons (rt (.bool false)) mNil))))))
  nop)
  (sq (mSetF 2 (mLc [7] (mI (m2 dIx (m2 dIx (mV 0) (rt (.int 1))) (rt (.int 0)))) (gN 7) tYesM (m2 dIx (mV 7) (rt (.int 0)))))
  (sq (mSetF 3 (mLst mNil))
  (sq (mFor (mR1 (mCons (mB gLen (mCons (mV 1) mNil)) mNil)) (gN 4)
  (sq (mSet 5 (m2 dIx (mV 1) (mV 4)))
  (sq (mIf (mOr (mNot (asB (mCall 1 m__law_is_whole (mCons (mV 5) mNil)))) (mOr (asB (m2 dLt (mV 5) (rt (.int 0)))) (asB (m2 dGe (mV 5) (mB gLen (mCons (mV 2) mNil))))))
  (mRet (mTup (mCons (rt (.str "refused")) (mCons (rt (.str "BadNumber")) (mCons (mV 4) (mCons (rt (.bool false)) mNil))))))
  nop)
  (sq (mFor (mR1 (mCons (mV 4) mNil)) (gN 6)
  (mIf (asB (m2 dEq (m2 dIx (mV 1) (mV 6)) (mV 5)))
  (mRet (mTup (mCons (rt (.str "refused")) (mCons (rt (.str "Double")) (mCons (rt (.int 0)) (mCons (mV 6) (mCons (rt (.bool false)) mNil)))))))
  nop))
  (mDrop (mMeth 3 gAppend (mCons (m2 dIx (mV 2) (mV 5)) mNil)))))))
  (sq (mIf (asB (m2 dEq (mO 3 gLenO) (rt (.int 0))))
  (mRet (mTup (mCons (rt (.str "refused")) (mCons (rt (.str "NoWord")) (mCons (rt (.int 0)) (mCons (rt (.bool false)) mNil))))))
  nop)
  (mRet (mTup (mCons (rt (.str "told")) (mCons (mCall 2 m__law_book (mCons (m2 dIx (mV 0) (rt (.int 0))) (mCons (mV 3) mNil))) mNil)))))))))
@[irreducible] def m__law_due : List Arg → Unit → FO Unit := fnOf 8 b__law_due
def b__law_numbers (cs : List Addr) : M Sto Fl :=
  (sq (mSetF 3 (mCallF 3 (m__law_unlike cs) (mTok 0 (mCons (mV 1) (mCons (mCall 3 (m__law_number cs) (mTok 0 (mCons (rt (.int 0)) (mCons (mV 1) mNil)))) mNil)))))
  (sq (mFor (mR1 (mCons (mV 2) mNil)) (gN 4)
  (sq (mSet 5 (mCall 2 (m__law_take cs) (mTok 0 (mCons (m2 dAdd (mO 3 gLenO) (rt (.int 1))) mNil))))
  (mIf (mAnd (asB (m2 dGt (mO 3 gLenO) (rt (.int 0)))) (asB (m2 dEq (mCall 2 (m__law_take cs) (mTok 0 (mCons (rt (.int 2)) mNil))) (rt (.int 0)))))
  (mDrop (mMeth 3 gInsert (mCons (mV 5) (mCons (mIxO 3 (mCall 2 (m__law_take cs) (mTok 0 (mCons (mO 3 gLenO) mNil)))) mNil))))
  (mDrop (mMeth 3 gInsert (mCons (mV 5) (mCons (mCall 3 (m__law_outside cs) (mTok 0 (mCons (rt (.int 0)) (mCons (m2 dSub (mV 1) (rt (.int 1))) mNil)))) mNil)))))))
  (mRetV 3)))
@[irreducible] def m__law_numbers (cs : List Addr) : List Arg → Sto → FO Sto := fnOf 6 (b__law_numbers cs)
def b__law_parted : M Unit Fl :=
  (sq (mSet 2 (mB gRepr (mCons (mV 1) mNil)))
  (sq (mSet 3 (mCall 2 m__law_due (mCons (mV 0) (mCons (mV 1) mNil))))
  (sq (mIf (mOr (mNot (asB (mCall 2 m__law_same (mCons (mCall 2 m__law_asked (mCons (mV 0) (mCons (mV 1) mNil))) (mCons (mV 3) mNil))))) (asB (m2 dNe (mB gRepr (mCons (mV 1) mNil)) (mV 2))))
  (mRet (rt (.bool false)))
  nop)
  (mRet (mCall 2 m__law_same (mCons (mCall 2 m__law_asked (mCons (mV 0) (mCons (mB gTup (mCons (mV 1) mNil)) mNil))) (mCons (mV 3) mNil)))))))
@[irreducible] def m__law_parted : List Arg → Unit → FO Unit := fnOf 4 b__law_parted
def b__law_some_book (cs : List Addr) : M Sto Fl :=
  (sq (mIf (asB (m2 dEq (mCall 2 (m__law_take cs) (mTok 0 (mCons (rt (.int 8)) mNil))) (rt (.int 0))))
  (sq (mSet 1 (m2 dAdd (rt (.int 7)) (mCall 2 (m__law_take cs) (mTok 0 (mCons (rt (.int 34)) mNil)))))
  (mRet (mCall 2 (lift m__law_book) (mCons (mV 1) (mCons (mCall 3 (m__law_words cs) (mTok 0 (mCons (mV 1) (mCons (m2 dAdd (rt (.int 30)) (mCall 3 (m__law_number cs) (mTok 0 (mCons (rt (.int 0)) (mCons (rt (.int 34)) mNil))))) mNil)))) mNil)))))
  nop)
  (sq (mSet 1 (m2 dAdd (rt (.int 2)) (mCall 2 (m__law_take cs) (mTok 0 (mCons (rt (.int 4)) mNil)))))
  (mRet (mCall 2 (lift m__law_book) (mCons (mV 1) (mCons (mCall 3 (m__law_words cs) (mTok 0 (mCons (mV 1) (mCons (m2 dAdd (rt (.int 1)) (mCall 2 (m__law_take cs) (mTok 0 (mCons (rt (.int 6)) mNil)))) mNil)))) mNil))))))
@[irreducible] def m__law_some_book (cs : List Addr) : List Arg → Sto → FO Sto := fnOf 2 (b__law_some_book cs)
def b_law (cs : List Addr) : M Sto Fl :=
  (sq (mSet 2 (mCall 1 (m__law_some_book cs) (mTok 1 mNil)))
  (sq (mSet 3 (mB gLen (mCons (m2 dIx (m2 dIx (mV 2) (rt (.int 1))) (rt (.int 0))) mNil)))
  (sq (mSet 4 (mCall 5 (m__law_plan cs) (mTok 1 (mCons (m2 dAdd (rt (.int 1)) (mCall 2 (m__law_take cs) (mTok 1 (mCons (rt (.int 4)) mNil)))) (mCons (rt (.bool false)) (mCons (m2 dAdd (rt (.int 2)) (mCall 2 (m__law_take cs) (mTok 1 (mCons (rt (.int 2)) mNil)))) (mCons (rt (.int 3)) mNil)))))))
  (sq (mSetF 5 (mLst (mCons (mFz (mLst mNil)) (mCons (mCall 2 (m__law_order cs) (mTok 1 (mCons (mV 3) mNil))) (mCons (m2 dAdd (mCall 2 (m__law_order cs) (mTok 1 (mCons (mV 3) mNil))) (mFz (mLst (mCons (m2 dSub (mV 3) (rt (.int 1))) mNil)))) mNil)))))
  (sq (mFor (mR1 (mCons (rt (.int 8)) mNil)) (gN 6)
  (mDrop (mMeth 5 gAppend (mCons (mCall 3 (m__law_numbers cs) (mTok 1 (mCons (mV 3) (mCons (mB gMax2 (mCons (rt (.int 0)) (mCons (m2 dSub (mCall 2 (m__law_take cs) (mTok 1 (mCons (rt (.int 5)) mNil))) (rt (.int 2))) mNil))) mNil)))) mNil))))
  (sq (mFor (mI (mV 5)) (gN 7)
  (sq (mIf (mNot (asB (mCall 2 (lift m__law_parted) (mCons (mV 2) (mCons (mV 7) mNil)))))
  (mRet (rt (.bool false)))
  nop)
  (mIf (mAnd (asB (m2 dEq (mCall 2 (m__law_take cs) (mTok 1 (mCons (rt (.int 3)) mNil))) (rt (.int 0)))) (mNot (asB (mCall 2 (lift m__law_parted) (mCons (mV 4) (mCons (mV 7) mNil))))))
  (mRet (rt (.bool false)))
  nop)))
  (sq (mIf (mOr (mNot (asB (mCall 2 (lift m__law_parted) (mCons (mV 4) (mCons (mFz (mLst (mCons (rt (.int 0)) mNil))) mNil))))) (mNot (asB (mCall 2 (lift m__law_parted) (mCons (mV 4) (mCons (mFz (mLst mNil)) mNil))))))
  (mRet (rt (.bool false)))
  nop)
  (sq (mSet 7 (mCall 3 (m__law_unlike cs) (mTok 1 (mCons (mV 3) (mCons (m2 dAdd (rt (.int 1)) (mCall 2 (m__law_take cs) (mTok 1 (mCons (mV 3) mNil)))) mNil)))))
  (sq (mSet 8 (mCall 3 (m__law_unlike cs) (mTok 1 (mCons (mB gLen (mCons (mV 7) mNil)) (mCons (m2 dAdd (rt (.int 1)) (mCall 2 (m__law_take cs) (mTok 1 (mCons (mB gLen (mCons (mV 7) mNil)) mNil)))) mNil)))))
  (sq (mSet 9 (mCall 2 (lift m__law_due) (mCons (mV 2) (mCons (mFz (mLc [10] (mI (mV 8)) (gN 10) tYesM (m2 dIx (mV 7) (mV 10)))) mNil))))
  (mRet (mCall 2 (lift m__law_same) (mCons (mCall 2 (lift m__law_asked) (mCons (mCall 2 (lift m_part) (mCons (mV 2) (mCons (mV 7) mNil))) (mCons (mV 8) mNil))) (mCons (mV 9) mNil))))))))))))))
@[irreducible] def m_law (cs : List Addr) : List Arg → Sto → FO Sto := fnOf 11 (b_law cs)
end Mi
set_option maxHeartbeats 4000000
namespace Mi
open PySem PySem.Spec PyProof.Rows L2
theorem takeL_in {n : Nat} {k : Int} (h : 2 ≤ k) : ∀ (l : List Addr) (i : Int) (s : Sto), 0 ≤ (takeL n k l i s).1 ∧ (takeL n k l i s).1 < k
  | [], i, s => ⟨Int.emod_nonneg _ (by omega), Int.emod_lt_of_pos _ (by omega)⟩
  | a :: l, i, s => by
    unfold takeL
    split
    · exact ⟨Int.emod_nonneg _ (by omega), Int.emod_lt_of_pos _ (by omega)⟩
    · split
      · exact ⟨Int.emod_nonneg _ (by omega), Int.emod_lt_of_pos _ (by omega)⟩
      · exact takeL_in h l _ _
theorem takeF_in {cs : List Addr} {k : Int} {s : Sto} (h : 0 < k) : 0 ≤ (takeF cs k s).1 ∧ (takeF cs k s).1 < k := by
  unfold takeF
  split
  · exact ⟨Int.le_refl _, h⟩
  · exact takeL_in (by omega) _ _ _
/-- a number of lo..hi-1 -/
def RI (lo hi : Int) (r : R) : Prop := ∃ k : Int, r = .sh (.int k) ∧ lo ≤ k ∧ k < hi
theorem take_sp (cs : List Addr) (k : Int) (s : Sto) (h0 : 0 < k) (h1 : k < 2 ^ 64) : Fn (m__law_take cs) [.tok, .d (.int k)] s (fun r _ => RI 0 k r) fun _ _ => False := by
  have hl : k.natAbs.log2 < 9000 := by
    have : k.natAbs < 2 ^ 64 := by omega
    have := (Nat.log2_lt (by omega)).mpr this
    omega
  unfold Fn m__law_take m_take
  dsimp only
  rw [if_pos hl]
  exact ⟨_, rfl, takeF_in h0⟩
/-- from any draw -/
theorem wTake {cs : List Addr} {e : En Sto} {k : Int} {Q : Mi.D → En Sto → Prop} {X : Er → En Sto → Prop} (h0 : 0 < k) (h1 : k < 2 ^ 64) (q : ∀ (j : Int) s1, 0 ≤ j → j < k → Q (.int j) { e with st := s1 }) : wCall 2 (m__law_take cs) [.tok, .d (.int k)] e Q X := by
  refine wCall_val (take_sp cs k e.st h0 h1) fun r s1 ⟨j, h, h2, h3⟩ => ?_
  subst h
  exact q j s1 h2 h3
theorem mulOk_small {a b : Int} (h0 : -(2 ^ 64) < b) (h1 : b < 2 ^ 64) : mulOk a b := .inl (.inr ⟨h0, h1⟩)
theorem mulOk_l {a b : Int} (h0 : -(2 ^ 64) < a) (h1 : a < 2 ^ 64) : mulOk a b := .inl (.inl ⟨h0, h1⟩)
theorem small_of {i : Int} (h0 : 0 ≤ i) (h1 : i ≤ 1000000) : small62 i := ⟨by omega, by omega⟩
/-- a great number -/
def GI (r : R) : Prop := ∃ k : Int, r = .sh (.int k) ∧ k.natAbs < 10 ^ 120
/-- numbers of lo..hi-1 -/
def LI (lo hi : Int) (ds : List Mi.D) : Prop := ∀ d ∈ ds, ∃ k : Int, d = .int k ∧ lo ≤ k ∧ k < hi
theorem LI.rng (n : Nat) : LI 0 n (rngD 0 n) := fun d hd => by
  obtain ⟨i, hi⟩ := List.getElem?_of_mem hd
  obtain ⟨h1, rfl⟩ := rngD_get hi
  exact ⟨_, rfl, by omega, by omega⟩
theorem LI.app {lo hi : Int} {xs ys : List Mi.D} (h : LI lo hi xs) (g : LI lo hi ys) : LI lo hi (xs ++ ys) := fun d hd => (List.mem_append.mp hd).elim (h d) (g d)
theorem LI.erase {lo hi : Int} {xs : List Mi.D} {i : Nat} (h : LI lo hi xs) : LI lo hi (xs.eraseIdx i) := fun d hd => h d (List.mem_of_mem_eraseIdx hd)
theorem popAt_ok {xs : List Mi.D} {i : Int} (h0 : 0 ≤ i) (h1 : i < xs.length) (h2 : xs.length ≤ 1000000) : ∃ d, d ∈ xs ∧ gPopAt xs [.d (.int i)] = some (d, xs.eraseIdx i.toNat) := by
  have hl : i.toNat < xs.length := by omega
  refine ⟨xs[i.toNat], List.getElem_mem hl, ?_⟩
  unfold gPopAt
  dsimp only
  rw [if_pos ⟨by omega, by omega⟩]
  have e : seqIndex? i xs.length = some i.toNat := by
    unfold seqIndex?
    simp only [Int.not_lt.mpr h0, if_false, h0, h1, decide_true, Bool.and_self, if_true]
  rw [e]
  dsimp only
  rw [List.getElem?_eq_getElem hl]
def OrdR (n : Nat) (r : R) : Prop := ∃ ds, r.d = .list ds ∧ ds.length = n ∧ LI 0 n ds
theorem sizeLine_big {n : Nat} (h : n ≤ 1000000) : n < sizeLine := by
  have := sizeLine_eq
  omega
theorem sizeLine_le {n : Nat} (h : n ≤ 1000000) : n ≤ sizeLine := Nat.le_of_lt (sizeLine_big h)
theorem canLay_all {lo hi : Int} : ∀ {ds : List Mi.D}, LI lo hi ds → PyData.canLayAll0 ds = true ∧ PyData.depthAll ds = 0
  | [], _ => ⟨rfl, rfl⟩
  | d :: ds, h => by
    obtain ⟨k, rfl, _, _⟩ := h d List.mem_cons_self
    obtain ⟨h1, h2⟩ := canLay_all (ds := ds) fun d hd => h d (List.mem_cons_of_mem _ hd)
    refine ⟨?_, ?_⟩
    · show (PyData.canLay0 (.int k) && PyData.canLayAll0 ds) = true
      rw [h1]; rfl
    · show max (PyData.depth (.int k)) (PyData.depthAll ds) = 0
      rw [h2]; rfl
theorem shaped_LI {lo hi : Int} {ds : List Mi.D} (h : LI lo hi ds) : SeqAt.shaped (.list ds) = true := by
  obtain ⟨h1, h2⟩ := canLay_all h
  unfold SeqAt.shaped
  show (PyData.canLayAll0 ds && decide (PyData.depthAll ds + 1 ≤ 64)) = true
  rw [h1, h2]
  rfl
theorem notIn_LI {lo hi k : Int} {ds : List Mi.D} (h : LI lo hi ds) : ∃ b, dNotInO (.int k) ds = some (.bool b) := by
  unfold dNotInO dNotIn
  dsimp only
  rw [if_pos ⟨rfl, shaped_LI h⟩]
  exact ⟨_, rfl⟩
theorem pow_le {a b : Nat} (h : a ≤ b) : (2 : Int) ^ a ≤ 2 ^ b := by
  have h0 : (2 : Nat) ^ a ≤ 2 ^ b := Nat.pow_le_pow_right (by decide) h
  exact_mod_cast h0
theorem pow_pos' (a : Nat) : (0 : Int) < 2 ^ a := by
  have h0 : 0 < (2 : Nat) ^ a := Nat.pos_of_ne_zero (by simp)
  exact_mod_cast h0
def BI : Int := 2 ^ 64
theorem LI.set {lo hi k : Int} {xs : List Mi.D} {i : Nat} (h : LI lo hi xs) (k0 : lo ≤ k) (k1 : k < hi) : LI lo hi (xs.set i (.int k)) := fun d hd => by
  rcases List.mem_or_eq_of_mem_set hd with h1 | h1
  · exact h d h1
  · exact ⟨k, h1, k0, k1⟩
theorem LI.mono {lo hi lo' hi' : Int} {xs : List Mi.D} (h : LI lo hi xs) (h1 : lo' ≤ lo) (h2 : hi ≤ hi') : LI lo' hi' xs := fun d hd => by
  obtain ⟨k, e, k0, k1⟩ := h d hd
  exact ⟨k, e, by omega, by omega⟩
theorem LI.at {lo hi i : Int} {xs : List Mi.D} (h : LI lo hi xs) (h0 : 0 ≤ i) (h1 : i < xs.length) : ∃ k : Int, dIx (.list xs) (.int i) = some (.int k) ∧ lo ≤ k ∧ k < hi := by
  obtain ⟨d, _, q2, q3, _⟩ := ix_at h0 h1
  obtain ⟨k, rfl, k0, k1⟩ := h d q2
  exact ⟨k, q3, k0, k1⟩
theorem LI.rep {lo hi k : Int} {n : Nat} (h0 : lo ≤ k) (h1 : k < hi) : LI lo hi (List.replicate n (.int k)) := fun d hd => ⟨k, (List.mem_replicate.mp hd).2, h0, h1⟩
theorem ixN_at {n : Nat} {i : Int} (h0 : 0 ≤ i) (h1 : i < n) : ixN n i = some i.toNat := by
  unfold ixN
  rw [if_pos h0, if_pos h1]
theorem ixN_m1 {n : Nat} (h : 0 < n) : ixN n (-1) = some (n - 1) := by
  unfold ixN
  rw [if_neg (by decide), if_pos (by omega)]
  congr 1
  omega
theorem rep_flat (n : Nat) (d : Mi.D) : (List.replicate n [d]).flatten = List.replicate n d := by
  induction n with
  | zero => rfl
  | succ n ih => rw [List.replicate_succ, List.flatten_cons, ih]; rfl
theorem repOk_of {xs : List Mi.D} {k : Int} (h0 : 0 ≤ k) (h1 : k ≤ 1000) (h2 : xs.length ≤ 1000) : repOk xs k := by
  refine ⟨by omega, by omega, sizeLine_le ?_⟩
  have : xs.length * k.toNat ≤ 1000 * 1000 := Nat.mul_le_mul h2 (by omega)
  omega
def getK : Mi.D → Int
  | .tuple [_, .int k] => k
  | _ => 0
def psOf : Mi.D → List Mi.D
  | .tuple ps => ps
  | _ => []
def sumK (row : List Int) (x : Mi.D) : Int := ((psOf x).map fun p => row.getD (getK p).toNat 0).sum
def stepR (st : List Mi.D) (row : List Int) : List Int := st.map (sumK row)
def rowR (st : List Mi.D) : Nat → List Int
  | 0 => List.replicate st.length 1
  | i + 1 => stepR st (rowR st i)
theorem rowR_len (st : List Mi.D) : ∀ i, (rowR st i).length = st.length
  | 0 => by simp [rowR]
  | i + 1 => by simp [rowR, stepR]
def rowD (st : List Mi.D) (i : Nat) : Mi.D := .list ((rowR st i).map .int)
def rowsD (st : List Mi.D) (n : Nat) : List Mi.D := (List.range n).map (rowD st)
theorem rowsD_len (st : List Mi.D) (n : Nat) : (rowsD st n).length = n := by simp [rowsD]
theorem rowsD_succ (st : List Mi.D) (n : Nat) : rowsD st (n + 1) = rowsD st n ++ [rowD st n] := by
  unfold rowsD
  rw [List.range_succ, List.map_append]
  rfl
theorem rowsD_at (st : List Mi.D) {n i : Nat} (h : i < n) : (rowsD st n)[i]? = some (rowD st i) := by
  unfold rowsD
  rw [List.getElem?_map, List.getElem?_range h]
  rfl
theorem toInts_ints (l : List Int) : toInts (l.map .int) = some l := by
  induction l with
  | nil => rfl
  | cons a l ih => rw [List.map_cons, toInts, ih]; rfl
theorem row_at {row : List Int} {k : Int} (h0 : 0 ≤ k) (h1 : k < row.length) : dIx (.list (row.map .int)) (.int k) = some (.int (row.getD k.toNat 0)) := by
  obtain ⟨d, q1, _, q3, _⟩ := ix_at (xs := row.map .int) h0 (by rw [List.length_map]; exact h1)
  rw [q3]
  rw [List.getElem?_map] at q1
  obtain ⟨z, z1, z2⟩ := Option.map_eq_some_iff.mp q1
  rw [List.getD_eq_getElem?_getD, z1]
  exact congrArg some z2.symm
theorem dIs_of {T : String} {d : Mi.D} {b : Bool} (h : kitB (tyN d) T = some b) : dIs T d = some (.bool b) := by unfold dIs; rw [h]; rfl
theorem is_int_i (k : Int) : dIs "int" (.int k) = some (.bool true) := dIs_of (by show kitB "int" "int" = _; decide +kernel)
theorem is_bool_i (k : Int) : dIs "bool" (.int k) = some (.bool false) := dIs_of (by show kitB "int" "bool" = _; decide +kernel)
/-- a state's row: pairs (word, next) with next among c states -/
def RowOk (c : Int) (d : Mi.D) : Prop := ∃ ps, d = .tuple ps ∧ 1 ≤ ps.length ∧ ps.length ≤ 64 ∧ ∀ p ∈ ps, ∃ (w : Mi.D) (k : Int), p = .tuple [w, .int k] ∧ 0 ≤ k ∧ k < c
def PlanOk (d : Mi.D) : Prop := ∃ (n : Mi.D) (st : List Mi.D), d = .tuple [n, .tuple st] ∧ 1 ≤ st.length ∧ st.length ≤ 12 ∧ ∀ x ∈ st, RowOk st.length x
def topR (st : List Mi.D) (w : Nat) : Int := (rowR st w).getD 0 0
theorem rows_ix (st : List Mi.D) {w : Int} {m : Nat} (w0 : 0 ≤ w) (w1 : w < m) : dIx (.list (rowsD st m)) (.int w) = some (rowD st w.toNat) := by
  obtain ⟨n, rfl⟩ : ∃ n : Nat, w = n := ⟨w.toNat, by omega⟩
  exact atI_nat (rowsD_at st (by omega))
theorem row_top (st : List Mi.D) (w : Nat) (c : 1 ≤ st.length) : dIx (rowD st w) (.int 0) = some (.int (topR st w)) := by
  have := row_at (row := rowR st w) (k := 0) (by omega) (by rw [rowR_len]; omega)
  exact this
/-- plain data of depth n at most -/
def Pl : Nat → Mi.D → Prop
  | n, .list xs => match n with
    | 0 => False
    | n + 1 => xs.length ≤ 1000 ∧ ∀ x ∈ xs, Pl n x
  | n, .tuple xs => match n with
    | 0 => False
    | n + 1 => xs.length ≤ 1000 ∧ ∀ x ∈ xs, Pl n x
  | _, .dict _ => False
  | _, .str x => PySem.PyData.strOk x = true
  | _, _ => True
theorem isl (d : Mi.D) (h : ∀ xs, d ≠ .list xs) (hd : ∀ ks, d ≠ .dict ks) : dIs "list" d = some (.bool false) := by
  cases d with
  | list xs => exact absurd rfl (h xs)
  | dict ks => exact absurd rfl (hd ks)
  | none => exact dIs_of (by show kitB "NoneType" "list" = _; decide +kernel)
  | bool _ => exact dIs_of (by show kitB "bool" "list" = _; decide +kernel)
  | int _ => exact dIs_of (by show kitB "int" "list" = _; decide +kernel)
  | str _ => exact dIs_of (by show kitB "str" "list" = _; decide +kernel)
  | tuple _ => exact dIs_of (by show kitB "tuple" "list" = _; decide +kernel)
theorem isl_l (xs : List Mi.D) : dIs "list" (.list xs) = some (.bool true) := dIs_of (by show kitB "list" "list" = _; decide +kernel)
theorem ist_t (xs : List Mi.D) : dIs "tuple" (.tuple xs) = some (.bool true) := dIs_of (by show kitB "tuple" "tuple" = _; decide +kernel)
theorem ist_n (d : Mi.D) (h : ∀ xs, d ≠ .tuple xs) (hd : ∀ ks, d ≠ .dict ks) : dIs "tuple" d = some (.bool false) := by
  cases d with
  | tuple xs => exact absurd rfl (h xs)
  | dict ks => exact absurd rfl (hd ks)
  | none => exact dIs_of (by show kitB "NoneType" "tuple" = _; decide +kernel)
  | bool _ => exact dIs_of (by show kitB "bool" "tuple" = _; decide +kernel)
  | int _ => exact dIs_of (by show kitB "int" "tuple" = _; decide +kernel)
  | str _ => exact dIs_of (by show kitB "str" "tuple" = _; decide +kernel)
  | list _ => exact dIs_of (by show kitB "list" "tuple" = _; decide +kernel)
theorem RelL.same {ds ys : List Mi.D} (h : RelL (fun d y => y = d) ds ys) : ys = ds := by
  induction h with
  | nil => rfl
  | cons h _ ih => rw [h, ih]
def kindOf : Mi.D → Int
  | .none => 0
  | .bool _ => 1
  | .int _ => 2
  | .str _ => 3
  | .tuple _ => 4
  | .list _ => 5
  | .dict _ => 6
theorem isN_n : dIsN .none = some (.bool true) := rfl
theorem isN_of {d : Mi.D} (h : d ≠ .none) : dIsN d = some (.bool false) := by cases d <;> first | rfl | exact absurd rfl h
theorem isTy (d : Mi.D) (T : String) (b : Bool) (h : kitB (tyN d) T = some b) : dIs T d = some (.bool b) := dIs_of h
mutual
def sz : PyData → Nat
  | .list xs => 1 + szs xs
  | .tuple xs => 1 + szs xs
  | .dict _ => 1
  | .none => 1
  | .bool _ => 1
  | .int _ => 1
  | .str _ => 1
def szs : List PyData → Nat
  | [] => 0
  | x :: xs => sz x + szs xs
end
theorem sz_pos (d : Mi.D) : 1 ≤ sz d := by cases d <;> simp [sz]
theorem szs_app (xs ys : List Mi.D) : szs (xs ++ ys) = szs xs + szs ys := by
  induction xs with
  | nil => simp [szs]
  | cons x xs ih => simp [szs, ih]; omega
theorem Pl_str {n : Nat} {x : Str} (h : Pl n (.str x)) : PySem.PyData.strOk x = true := by cases n <;> exact h
/-- a scalar equals itself -/
theorem dNe_same {n : Nat} {d : Mi.D} (h : Pl n d) (hk : kindOf d < 4) : dNe d d = some (.bool false) := by
  unfold dNe
  cases d with
  | none => rfl
  | bool b => cases b <;> rfl
  | int k =>
    have := dNe_i k k
    unfold dNe at this
    rw [this]
    simp
  | str x =>
    have hs : SeqAt.shaped (.str x) = true := by
      unfold SeqAt.shaped
      show (PySem.PyData.strOk x && decide (PyData.depth (.str x) ≤ 64)) = true
      rw [Pl_str h]; rfl
    rw [if_pos ⟨hs, hs⟩]
    show some (PyData.bool (!(x == x))) = _
    simp
  | tuple _ => simp [kindOf] at hk
  | list _ => simp [kindOf] at hk
  | dict _ => simp [kindOf] at hk
def pr (x : Mi.D) : Mi.D := .tuple [x, x]
theorem szs_len : ∀ (xs : List Mi.D), xs.length ≤ szs xs
  | [] => Nat.le_refl _
  | x :: xs => by
    have := szs_len xs
    have := sz_pos x
    simp only [szs, List.length_cons]
    omega
def reprOk (d : Mi.D) : Bool := d.showable && !d.hasDict && decide (d.depth ≤ 60) && decide (d.shown.length ≤ 1000) && PySem.PyData.strOk d.shown
def notNum : Mi.D → Bool
  | .int _ => false
  | .dict _ => false
  | _ => true
def plB : Nat → Mi.D → Bool
  | 0, .list _ => false
  | 0, .tuple _ => false
  | n + 1, .list xs => decide (xs.length ≤ 1000) && xs.all (plB n)
  | n + 1, .tuple xs => decide (xs.length ≤ 1000) && xs.all (plB n)
  | _, .dict _ => false
  | _, .str x => PySem.PyData.strOk x
  | _, _ => true
theorem plB_of : ∀ (n : Nat) (d : Mi.D), plB n d = true → Pl n d
  | 0, d, h => by
    cases d <;> first | trivial | exact h | (exact absurd h (by simp [plB]))
  | n + 1, d, h => by
    cases d with
    | list xs =>
      simp [plB] at h
      exact ⟨h.1, fun x hx => plB_of n x (h.2 x hx)⟩
    | tuple xs =>
      simp [plB] at h
      exact ⟨h.1, fun x hx => plB_of n x (h.2 x hx)⟩
    | _ => first | trivial | exact h | (exact absurd h (by simp [plB]))
def fineB (d : Mi.D) : Bool := reprOk d && notNum d && plB 29 d && decide (sz d ≤ 20)
/-- the menu of values that are no number of words -/
def Menu (k : Int) : List Mi.D := [.bool true, .bool false, .none, .str "", .str (PySem.Str.ofString k.repr), .list [], .tuple [], .list [.int k], .tuple [.int k], .str "a", .list [.list [.int k]], .tuple [.bool true, .none]]
/-- a value that stands for no number of 0..60 -/
def OutV (d : Mi.D) : Prop := (∃ k : Int, d = .int k ∧ (k < 0 ∨ 60 < k) ∧ k.natAbs < 10 ^ 120) ∨ ∃ k : Int, 0 ≤ k ∧ k < 5 ∧ d ∈ Menu k
theorem fine_menu : (List.range 5).all (fun k => (Menu k).all fineB) = true := by decide +kernel
def Usual (u : Int) : List Mi.D := [.bool true, .bool false, .none, .str (PySem.Str.ofString u.repr), .list [.int u], .tuple [.int u]]
theorem fine_usual : (List.range 61).all (fun k => (Usual k).all fineB) = true := by decide +kernel
theorem strOk_of (s : String) : PySem.PyData.strOk (PySem.Str.ofString s) = true := by
  rw [PySem.Str.ofString_eq_toList]
  unfold PySem.PyData.strOk
  simp only [Array.all_eq_true, List.getElem_toArray, decide_eq_true_eq, List.getElem_map]
  intro i hi
  have := (s.toList[i]'(by simpa using hi)).valid
  generalize s.toList[i]'(by simpa using hi) = c at *
  have e : c.toNat = c.val.toNat := rfl
  rw [e]
  rcases this with h | h
  · omega
  · omega
theorem shaped_str {x : Str} (h : PySem.PyData.strOk x = true) : SeqAt.shaped (.str x) = true := by
  unfold SeqAt.shaped
  show (PySem.PyData.strOk x && decide (PyData.depth (.str x) ≤ 64)) = true
  rw [h]; rfl
theorem dNe_str {x : Str} (h : PySem.PyData.strOk x = true) : dNe (.str x) (.str x) = some (.bool false) := by
  unfold dNe
  rw [if_pos ⟨shaped_str h, shaped_str h⟩]
  show some (PyData.bool (!(x == x))) = _
  simp
theorem isT (d : Mi.D) (T : String) (b : Bool) (h : kitB (tyN d) T = some b) : dIs T d = some (.bool b) := dIs_of h
@[simp] theorem is_int_none  : dIs "int" .none = some (.bool false) := dIs_of (by show kitB "NoneType" "int" = _; decide +kernel)
@[simp] theorem is_int_bool (v : Bool) : dIs "int" (.bool v) = some (.bool true) := dIs_of (by show kitB "bool" "int" = _; decide +kernel)
@[simp] theorem is_int_int (v : Int) : dIs "int" (.int v) = some (.bool true) := dIs_of (by show kitB "int" "int" = _; decide +kernel)
@[simp] theorem is_int_str (v : Str) : dIs "int" (.str v) = some (.bool false) := dIs_of (by show kitB "str" "int" = _; decide +kernel)
@[simp] theorem is_int_list (v : List Mi.D) : dIs "int" (.list v) = some (.bool false) := dIs_of (by show kitB "list" "int" = _; decide +kernel)
@[simp] theorem is_int_tuple (v : List Mi.D) : dIs "int" (.tuple v) = some (.bool false) := dIs_of (by show kitB "tuple" "int" = _; decide +kernel)
@[simp] theorem is_bool_none  : dIs "bool" .none = some (.bool false) := dIs_of (by show kitB "NoneType" "bool" = _; decide +kernel)
@[simp] theorem is_bool_bool (v : Bool) : dIs "bool" (.bool v) = some (.bool true) := dIs_of (by show kitB "bool" "bool" = _; decide +kernel)
@[simp] theorem is_bool_int (v : Int) : dIs "bool" (.int v) = some (.bool false) := dIs_of (by show kitB "int" "bool" = _; decide +kernel)
@[simp] theorem is_bool_str (v : Str) : dIs "bool" (.str v) = some (.bool false) := dIs_of (by show kitB "str" "bool" = _; decide +kernel)
@[simp] theorem is_bool_list (v : List Mi.D) : dIs "bool" (.list v) = some (.bool false) := dIs_of (by show kitB "list" "bool" = _; decide +kernel)
@[simp] theorem is_bool_tuple (v : List Mi.D) : dIs "bool" (.tuple v) = some (.bool false) := dIs_of (by show kitB "tuple" "bool" = _; decide +kernel)
@[simp] theorem is_str_none  : dIs "str" .none = some (.bool false) := dIs_of (by show kitB "NoneType" "str" = _; decide +kernel)
@[simp] theorem is_str_bool (v : Bool) : dIs "str" (.bool v) = some (.bool false) := dIs_of (by show kitB "bool" "str" = _; decide +kernel)
@[simp] theorem is_str_int (v : Int) : dIs "str" (.int v) = some (.bool false) := dIs_of (by show kitB "int" "str" = _; decide +kernel)
@[simp] theorem is_str_str (v : Str) : dIs "str" (.str v) = some (.bool true) := dIs_of (by show kitB "str" "str" = _; decide +kernel)
@[simp] theorem is_str_list (v : List Mi.D) : dIs "str" (.list v) = some (.bool false) := dIs_of (by show kitB "list" "str" = _; decide +kernel)
@[simp] theorem is_str_tuple (v : List Mi.D) : dIs "str" (.tuple v) = some (.bool false) := dIs_of (by show kitB "tuple" "str" = _; decide +kernel)
@[simp] theorem is_list_none  : dIs "list" .none = some (.bool false) := dIs_of (by show kitB "NoneType" "list" = _; decide +kernel)
@[simp] theorem is_list_bool (v : Bool) : dIs "list" (.bool v) = some (.bool false) := dIs_of (by show kitB "bool" "list" = _; decide +kernel)
@[simp] theorem is_list_int (v : Int) : dIs "list" (.int v) = some (.bool false) := dIs_of (by show kitB "int" "list" = _; decide +kernel)
@[simp] theorem is_list_str (v : Str) : dIs "list" (.str v) = some (.bool false) := dIs_of (by show kitB "str" "list" = _; decide +kernel)
@[simp] theorem is_list_list (v : List Mi.D) : dIs "list" (.list v) = some (.bool true) := dIs_of (by show kitB "list" "list" = _; decide +kernel)
@[simp] theorem is_list_tuple (v : List Mi.D) : dIs "list" (.tuple v) = some (.bool false) := dIs_of (by show kitB "tuple" "list" = _; decide +kernel)
@[simp] theorem is_tuple_none  : dIs "tuple" .none = some (.bool false) := dIs_of (by show kitB "NoneType" "tuple" = _; decide +kernel)
@[simp] theorem is_tuple_bool (v : Bool) : dIs "tuple" (.bool v) = some (.bool false) := dIs_of (by show kitB "bool" "tuple" = _; decide +kernel)
@[simp] theorem is_tuple_int (v : Int) : dIs "tuple" (.int v) = some (.bool false) := dIs_of (by show kitB "int" "tuple" = _; decide +kernel)
@[simp] theorem is_tuple_str (v : Str) : dIs "tuple" (.str v) = some (.bool false) := dIs_of (by show kitB "str" "tuple" = _; decide +kernel)
@[simp] theorem is_tuple_list (v : List Mi.D) : dIs "tuple" (.list v) = some (.bool false) := dIs_of (by show kitB "list" "tuple" = _; decide +kernel)
@[simp] theorem is_tuple_tuple (v : List Mi.D) : dIs "tuple" (.tuple v) = some (.bool true) := dIs_of (by show kitB "tuple" "tuple" = _; decide +kernel)
@[simp] theorem isN_none  : dIsN .none = some (.bool true) := (rfl)
@[simp] theorem notN_none  : dNotN .none = some (.bool false) := (rfl)
@[simp] theorem isN_bool (v : Bool) : dIsN (.bool v) = some (.bool false) := (rfl)
@[simp] theorem notN_bool (v : Bool) : dNotN (.bool v) = some (.bool true) := (rfl)
@[simp] theorem isN_int (v : Int) : dIsN (.int v) = some (.bool false) := (rfl)
@[simp] theorem notN_int (v : Int) : dNotN (.int v) = some (.bool true) := (rfl)
@[simp] theorem isN_str (v : Str) : dIsN (.str v) = some (.bool false) := (rfl)
@[simp] theorem notN_str (v : Str) : dNotN (.str v) = some (.bool true) := (rfl)
@[simp] theorem isN_list (v : List Mi.D) : dIsN (.list v) = some (.bool false) := (rfl)
@[simp] theorem notN_list (v : List Mi.D) : dNotN (.list v) = some (.bool true) := (rfl)
@[simp] theorem isN_tuple (v : List Mi.D) : dIsN (.tuple v) = some (.bool false) := (rfl)
@[simp] theorem notN_tuple (v : List Mi.D) : dNotN (.tuple v) = some (.bool true) := (rfl)
@[simp] theorem gPop_app (xs : List Mi.D) (d : Mi.D) : gPop (xs ++ [d]) [] = some (d, xs) := by unfold gPop; simp
/-- a slot that holds a list, apart or frozen -/
def Lst (x : Slot) (xs : List Mi.D) : Prop := x = .ow xs ∨ x = .sh (.list xs)
theorem Lst.o (xs : List Mi.D) : Lst (.ow xs) xs := .inl rfl
theorem Lst.s (xs : List Mi.D) : Lst (.sh (.list xs)) xs := .inr rfl
theorem wV_lst {S : Type} {x : Slot} {xs : List Mi.D} (h : Lst x xs) (i : Nat) (e : En S) (Q : Mi.D → En S → Prop) (hi : e.sl[i]? = some x) : wV (some x) i e Q = Q (.list xs) { e with sl := e.sl.set i (.sh (.list xs)) } := by
  rcases h with rfl | rfl
  · rfl
  · rw [wV_sh]
    obtain ⟨sl, s⟩ := e
    obtain ⟨h1, h2⟩ := List.getElem?_eq_some_iff.mp hi
    congr 2
    dsimp only at h1 h2 ⊢
    rw [← h2, List.set_getElem_self]
theorem wL_lst {x : Slot} {xs : List Mi.D} (h : Lst x xs) (Q : List Mi.D → Prop) : wL (some x) Q = Q xs := by
  rcases h with rfl | rfl <;> rfl
end Mi
set_option maxHeartbeats 4000000
namespace Mi
open PySem PySem.Spec PyProof.Rows L2
def isIntD : Mi.D → Bool
  | .int _ => true
  | _ => false
def inR (d : Mi.D) (lo hi : Int) : Bool := match d with
  | .int k => decide (lo ≤ k ∧ k ≤ hi)
  | _ => false
def idxOf (d : Mi.D) (n : Int) : Bool := match d with
  | .int k => decide (0 ≤ k ∧ k < n)
  | _ => false
def noDict : Mi.D → Prop
  | .dict _ => False
  | _ => True
theorem and_dec {a b : Prop} [Decidable a] [Decidable b] (h : a) : decide b = decide (a ∧ b) := by simp [h]
end Mi
set_option maxHeartbeats 4000000
namespace Mi
open PySem PySem.Spec PyProof.Rows L2
theorem is_whole_sp (d : Mi.D) (h : noDict d) : Fn m_is_whole [.d d] () (fun r _ => r = .sh (.bool (isIntD d))) fun _ _ => False := by
  unfold m_is_whole
  with_reducible refine Fn_of ?_
  unfold b_is_whole
  cases d with
  | dict _ => exact h.elim
  | _ => simp [isIntD]
end Mi
set_option maxHeartbeats 4000000
namespace Mi
open PySem PySem.Spec PyProof.Rows L2
theorem is_index_sp (d : Mi.D) (n : Int) (h : noDict d) : Fn m_is_index [.d d, .d (.int n)] () (fun r _ => r = .sh (.bool (idxOf d n))) fun _ _ => False := by
  unfold m_is_index
  with_reducible refine Fn_of ?_
  unfold b_is_index
  simp
  refine wCall_val (is_whole_sp d h) fun r s1 e => ?_
  subst e
  cases d with
  | int k =>
    simp [isIntD, idxOf]
    refine wIf_d (c := 0 ≤ k) (fun c => ?_) (fun c => ?_)
    · simp [c]
    · simp [c]
  | _ => simp [isIntD, idxOf]
end Mi
set_option maxHeartbeats 4000000
namespace Mi
open PySem PySem.Spec PyProof.Rows L2
/-! plans as plain tables: rows, sayings, their ranks -/
def rowL (st : List Mi.D) (s : Nat) : List Mi.D := psOf (st.getD s .none)
def gk (st : List Mi.D) (s a : Nat) : Nat := (getK ((rowL st s).getD a .none)).toNat
def rv (st : List Mi.D) (i s : Nat) : Int := (rowR st i).getD s 0
def bef (st : List Mi.D) (i s : Nat) : Nat → Int
  | 0 => 0
  | a + 1 => bef st i s a + rv st i (gk st s a)
theorem bef_succ (st : List Mi.D) (i s a : Nat) : bef st i s (a + 1) = bef st i s a + rv st i (gk st s a) := rfl
def rankF (st : List Mi.D) : Nat → List Nat → Int
  | _, [] => 0
  | s, a :: r => bef st r.length s a + rankF st (gk st s a) r
def okS (st : List Mi.D) : Nat → List Nat → Prop
  | _, [] => True
  | s, a :: r => a < (rowL st s).length ∧ okS st (gk st s a) r
def endS (st : List Mi.D) : Nat → List Nat → Nat
  | s, [] => s
  | s, a :: r => endS st (gk st s a) r
def StOk (st : List Mi.D) : Prop := 1 ≤ st.length ∧ st.length ≤ 12 ∧ ∀ x ∈ st, RowOk st.length x
theorem StOk.row {st : List Mi.D} (h : StOk st) {s : Nat} (hs : s < st.length) : ∃ ps, st[s]? = some (.tuple ps) ∧ rowL st s = ps ∧ 1 ≤ ps.length ∧ ps.length ≤ 64 ∧ ∀ p ∈ ps, ∃ (w : Mi.D) (k : Int), p = .tuple [w, .int k] ∧ 0 ≤ k ∧ k < st.length := by
  obtain ⟨ps, h1, h2, h3, h4⟩ := h.2.2 _ (List.getElem_mem hs)
  have e : st[s]? = some (.tuple ps) := by rw [List.getElem?_eq_getElem hs, h1]
  refine ⟨ps, e, ?_, h2, h3, h4⟩
  unfold rowL
  rw [List.getD_eq_getElem?_getD, e]
  rfl
theorem StOk.pair {st : List Mi.D} (h : StOk st) {s a : Nat} (hs : s < st.length) (ha : a < (rowL st s).length) : ∃ w, (rowL st s)[a]? = some (.tuple [w, .int (gk st s a)]) ∧ gk st s a < st.length := by
  obtain ⟨ps, e1, e2, _, _, h4⟩ := h.row hs
  obtain ⟨w, k, e3, k0, k1⟩ := h4 (rowL st s)[a] (by rw [← e2]; exact List.getElem_mem ha)
  have e : (rowL st s)[a]? = some (.tuple [w, .int k]) := by rw [List.getElem?_eq_getElem ha, e3]
  have g : gk st s a = k.toNat := by
    unfold gk
    rw [List.getD_eq_getElem?_getD, e]
    rfl
  refine ⟨w, ?_, by omega⟩
  rw [e, g]
  have : ((k.toNat : Nat) : Int) = k := by omega
  rw [this]
theorem StOk.gk_lt {st : List Mi.D} (h : StOk st) {s a : Nat} (hs : s < st.length) (ha : a < (rowL st s).length) : gk st s a < st.length := by
  obtain ⟨_, _, q⟩ := h.pair hs ha
  exact q
theorem rv_zero {st : List Mi.D} {s : Nat} (hs : s < st.length) : rv st 0 s = 1 := by
  unfold rv rowR
  rw [List.getD_eq_getElem?_getD, List.getElem?_replicate]
  simp [hs]
theorem bef_sum {st : List Mi.D} (i s : Nat) : ∀ a, a ≤ (rowL st s).length → bef st i s a = (((rowL st s).take a).map fun p => (rowR st i).getD (getK p).toNat 0).sum
  | 0, _ => rfl
  | a + 1, h => by
    have hl : a < (rowL st s).length := by omega
    rw [List.take_succ_eq_append_getElem hl, List.map_append, List.sum_append, ← bef_sum i s a (by omega), bef_succ]
    congr 1
    unfold rv gk
    rw [List.getD_eq_getElem?_getD (l := rowL st s), List.getElem?_eq_getElem hl]
    simp
theorem rv_succ {st : List Mi.D} {s : Nat} (i : Nat) (hs : s < st.length) : rv st (i + 1) s = bef st i s (rowL st s).length := by
  rw [bef_sum i s _ (Nat.le_refl _), List.take_length]
  unfold rv
  show (stepR st (rowR st i)).getD s 0 = _
  unfold stepR
  rw [List.getD_eq_getElem?_getD, List.getElem?_map, List.getElem?_eq_getElem hs]
  show sumK (rowR st i) st[s] = _
  unfold sumK rowL
  rw [List.getD_eq_getElem?_getD, List.getElem?_eq_getElem hs]
  rfl
theorem rv_pos {st : List Mi.D} (h : StOk st) : ∀ (i s : Nat), s < st.length → 1 ≤ rv st i s ∧ rv st i s ≤ 64 ^ i
  | 0, s, hs => by rw [rv_zero hs]; exact ⟨Int.le_refl _, by decide⟩
  | i + 1, s, hs => by
    rw [rv_succ i hs]
    obtain ⟨ps, _, e2, h2, h3, _⟩ := h.row hs
    have main : ∀ a, a ≤ (rowL st s).length → (a : Int) ≤ bef st i s a ∧ bef st i s a ≤ a * 64 ^ i := fun a => by
      induction a with
      | zero => intro _; exact ⟨Int.le_refl _, by simp [bef]⟩
      | succ a ih =>
        intro ha
        obtain ⟨i1, i2⟩ := ih (by omega)
        obtain ⟨r1, r2⟩ := rv_pos h i (gk st s a) (h.gk_lt hs (by omega))
        rw [bef_succ]
        have e : ((a + 1 : Nat) : Int) * 64 ^ i = a * 64 ^ i + 64 ^ i := by rw [Int.natCast_add, Int.add_mul]; simp
        rw [e]
        constructor <;> omega
    obtain ⟨m1, m2⟩ := main (rowL st s).length (Nat.le_refl _)
    rw [e2] at m1 m2 ⊢
    refine ⟨by omega, ?_⟩
    have e : (64 : Int) ^ (i + 1) = 64 * 64 ^ i := by rw [Int.pow_succ]; exact Int.mul_comm _ _
    rw [e]
    have p0 : (0 : Int) ≤ 64 ^ i := Int.le_of_lt (Int.pow_pos (by decide))
    have : (ps.length : Int) * 64 ^ i ≤ 64 * 64 ^ i := Int.mul_le_mul_of_nonneg_right (by omega) p0
    omega
theorem bef_nonneg {st : List Mi.D} (h : StOk st) {i s a : Nat} (hs : s < st.length) (ha : a ≤ (rowL st s).length) : 0 ≤ bef st i s a := by
  induction a with
  | zero => exact Int.le_refl _
  | succ a ih =>
    have := rv_pos h i _ (h.gk_lt hs (show a < _ by omega))
    have := ih (by omega)
    rw [bef_succ]
    omega
theorem bef_mono {st : List Mi.D} (h : StOk st) {i s : Nat} (hs : s < st.length) : ∀ {a b : Nat}, a ≤ b → b ≤ (rowL st s).length → bef st i s a ≤ bef st i s b := fun {a b} hab => by
  induction b with
  | zero => intro _; have : a = 0 := by omega
            subst this; exact Int.le_refl _
  | succ b ih =>
    intro hb
    rcases Nat.lt_or_ge a (b + 1) with h1 | h1
    · have := ih (by omega) (by omega)
      have := rv_pos h i _ (h.gk_lt hs (show b < _ by omega))
      rw [bef_succ]
      omega
    · have : a = b + 1 := by omega
      subst this; exact Int.le_refl _
theorem rank_in {st : List Mi.D} (h : StOk st) : ∀ (l : List Nat) (s : Nat), s < st.length → okS st s l → 0 ≤ rankF st s l ∧ rankF st s l < rv st l.length s
  | [], s, hs, _ => by
    rw [show ([] : List Nat).length = 0 from rfl, rv_zero hs]
    exact ⟨Int.le_refl _, by simp [rankF]⟩
  | a :: r, s, hs, ⟨ha, ho⟩ => by
    obtain ⟨r1, r2⟩ := rank_in h r (gk st s a) (h.gk_lt hs ha) ho
    have b0 := bef_nonneg h (i := r.length) hs (Nat.le_of_lt ha)
    have b1 : bef st r.length s (a + 1) ≤ _ := bef_mono h (i := r.length) hs (show a + 1 ≤ (rowL st s).length from ha) (Nat.le_refl _)
    rw [List.length_cons, rv_succ _ hs]
    show 0 ≤ bef st r.length s a + rankF st (gk st s a) r ∧ bef st r.length s a + rankF st (gk st s a) r < _
    rw [bef_succ] at b1
    omega
theorem endS_lt {st : List Mi.D} (h : StOk st) : ∀ (l : List Nat) (s : Nat), s < st.length → okS st s l → endS st s l < st.length
  | [], s, hs, _ => hs
  | a :: r, s, hs, ⟨ha, ho⟩ => endS_lt h r _ (h.gk_lt hs ha) ho
theorem endS_app {st : List Mi.D} : ∀ (l m : List Nat) (s : Nat), endS st s (l ++ m) = endS st (endS st s l) m
  | [], _, _ => rfl
  | a :: r, m, s => by rw [List.cons_append]; exact endS_app r m _
theorem okS_app {st : List Mi.D} : ∀ (l m : List Nat) (s : Nat), okS st s (l ++ m) ↔ okS st s l ∧ okS st (endS st s l) m
  | [], m, s => by simp [okS, endS]
  | a :: r, m, s => by
    rw [List.cons_append]
    show (_ ∧ okS st _ (r ++ m)) ↔ (_ ∧ okS st _ r) ∧ _
    rw [okS_app r m]
    exact and_assoc.symm
theorem rank_app {st : List Mi.D} : ∀ (l m : List Nat) (s : Nat), rankF st s (l ++ m) = rankF st s (l ++ m) - rankF st (endS st s l) m + rankF st (endS st s l) m := fun _ _ _ => by omega
/-- a saying as data -/
def intsD (l : List Nat) : List Mi.D := l.map fun a => .int (a : Nat)
theorem intsD_len (l : List Nat) : (intsD l).length = l.length := by simp [intsD]
theorem intsD_at {l : List Nat} {i : Nat} (h : i < l.length) : (intsD l)[i]? = some (.int (l[i] : Nat)) := by
  unfold intsD
  rw [List.getElem?_map, List.getElem?_eq_getElem h]
  rfl
theorem intsD_app (l m : List Nat) : intsD (l ++ m) = intsD l ++ intsD m := by simp [intsD]
def preF (st : List Mi.D) (m : Nat) : Nat → List Nat → Int
  | _, [] => 0
  | s, a :: t => bef st (t.length + m) s a + preF st m (gk st s a) t
theorem rank_pre {st : List Mi.D} : ∀ (l r : List Nat) (s : Nat), rankF st s (l ++ r) = preF st r.length s l + rankF st (endS st s l) r
  | [], r, s => by simp [preF, endS]
  | a :: t, r, s => by
    show bef st (t ++ r).length s a + rankF st (gk st s a) (t ++ r) = bef st (t.length + r.length) s a + preF st r.length (gk st s a) t + _
    rw [rank_pre t r, List.length_append, Int.add_assoc]
    rfl
theorem pre_snoc {st : List Mi.D} (m : Nat) (a : Nat) : ∀ (l : List Nat) (s : Nat), preF st m s (l ++ [a]) = preF st (m + 1) s l + bef st m (endS st s l) a
  | [], s => by simp [preF, endS]
  | b :: t, s => by
    show bef st ((t ++ [a]).length + m) s b + preF st m (gk st s b) (t ++ [a]) = bef st (t.length + (m + 1)) s b + preF st (m + 1) (gk st s b) t + bef st m (endS st (gk st s b) t) a
    rw [pre_snoc m a t, List.length_append, Int.add_assoc]
    congr 2
    simp
    omega
theorem rank_pre0 {st : List Mi.D} (l : List Nat) (s : Nat) : rankF st s l = preF st 0 s l := by
  have := rank_pre (st := st) l [] s
  simpa [rankF] using this
theorem bef_range {st : List Mi.D} (m s : Nat) : ∀ a, ((List.range a).map fun j => rv st m (gk st s j)).sum = bef st m s a
  | 0 => rfl
  | a + 1 => by
    rw [List.range_succ, List.map_append, List.sum_append, bef_range m s a, bef_succ]
    simp
theorem rv_top (st : List Mi.D) (w : Nat) : topR st w = rv st w 0 := rfl
end Mi
set_option maxHeartbeats 4000000
namespace Mi
open PySem PySem.Spec PyProof.Rows L2
/-! a list or a tuple, alike -/
structure SeqD (q : Mi.D) (xs : List Mi.D) : Prop where
  len : gLen [.d q] = some (.int xs.length)
  enu : enumOf [.d q] = some (enumF 0 xs)
  ix : ∀ i : Int, dIx q (.int i) = atI xs i
  seq : seqOf q = some xs
  nd : ∀ ks, q ≠ .dict ks
theorem SeqD.l (xs : List Mi.D) : SeqD (.list xs) xs := ⟨rfl, rfl, fun _ => rfl, rfl, fun _ h => nomatch h⟩
theorem SeqD.t (xs : List Mi.D) : SeqD (.tuple xs) xs := ⟨rfl, rfl, fun _ => rfl, rfl, fun _ h => nomatch h⟩
theorem atI_n {xs : List Mi.D} {i : Nat} (h : i < xs.length) : atI xs (i : Int) = some xs[i] := atI_nat (List.getElem?_eq_getElem h)
theorem atI_of {xs : List Mi.D} {i : Nat} {d : Mi.D} (h : xs[i]? = some d) : atI xs (i : Int) = some d := atI_nat h
@[simp] theorem dIx_l (xs : List Mi.D) (i : Int) : dIx (.list xs) (.int i) = atI xs i := (rfl)
@[simp] theorem dIx_t (xs : List Mi.D) (i : Int) : dIx (.tuple xs) (.int i) = atI xs i := (rfl)
@[simp] theorem atI_0 (x : Mi.D) (xs : List Mi.D) : atI (x :: xs) 0 = some x := atI_nat (j := 0) rfl
@[simp] theorem atI_1 (x y : Mi.D) (xs : List Mi.D) : atI (x :: y :: xs) 1 = some y := atI_nat (j := 1) rfl
@[simp] theorem atI_2 (x y z : Mi.D) (xs : List Mi.D) : atI (x :: y :: z :: xs) 2 = some z := atI_nat (j := 2) rfl
@[simp] theorem atI_3 (x y z t : Mi.D) (xs : List Mi.D) : atI (x :: y :: z :: t :: xs) 3 = some t := atI_nat (j := 3) rfl
theorem loop_cut {S : Type} {g : Mi.D → M S Unit} {b : M S Fl} {ds : List Mi.D} {e : En S} {Q : Fl → En S → Prop} {X : Er → En S → Prop} (n : Nat) (I : Nat → En S → Prop) (h0 : I 0 e) (hs : ∀ i d e, ds[i]? = some d → i < n → I i e → wG (g d) e (wpK b (loopQ (I (i + 1)) Q) X)) (hn : ∀ d e, ds[n]? = some d → I n e → wG (g d) e (wpK b (loopQ (fun _ => False) Q) X)) (hd : ∀ i e, i = ds.length → i ≤ n → I i e → Q .nx e) : wLoop g b ds e Q X := by
  refine wLoop_idx (fun i e => i ≤ n ∧ I i e) ⟨Nat.zero_le _, h0⟩ (fun i d e h1 ⟨h2, h3⟩ => ?_) fun e ⟨h1, h2⟩ => hd _ _ rfl h1 h2
  have up : ∀ {J K : En S → Prop}, (∀ e, J e → K e) → ∀ {e}, wG (g d) e (wpK b (loopQ J Q) X) → wG (g d) e (wpK b (loopQ K Q) X) := fun {J K} hJ {e} h => by
    unfold wG at h ⊢
    cases q : g d e with
    | ok u e1 =>
      rw [q] at h
      dsimp only at h ⊢
      rw [wpK_e] at h ⊢
      unfold wp at h ⊢
      cases w : b e1 with
      | ok fl e2 =>
        rw [w] at h
        cases fl with
        | nx => exact hJ _ h
        | ct => exact hJ _ h
        | bk => exact h
        | ret r => exact h
      | err x e2 => rw [w] at h; exact h
      | stuck => rw [w] at h; exact h
    | err x e1 => rw [q] at h; exact h
    | stuck => rw [q] at h; exact h
  rcases Nat.lt_or_ge i n with h | h
  · exact up (fun e he => ⟨h, he⟩) (hs i d e h1 h h3)
  · have : i = n := Nat.le_antisymm h2 h
    subst this
    exact up (fun e he => he.elim) (hn d e h1 h3)
end Mi
set_option maxHeartbeats 4000000
namespace Mi
open PySem PySem.Spec PyProof.Rows L2
theorem parts_sp : ∀ (n : Nat) (d : Mi.D), Pl n d → Fn (m_same_parts (n + 1)) [.d d] () (fun r _ => r.d = d) fun _ _ => False := by
  intro n
  induction n with
  | zero =>
    intro d h
    show Fn (fnOf 2 (b_same_parts (m_same_parts 0))) _ _ _ _
    with_reducible refine Fn_of ?_
    unfold b_same_parts
    cases d with
    | list xs => exact h.elim
    | tuple xs => exact h.elim
    | dict _ => exact h.elim
    | _ => simp [isl, ist_n]
  | succ n ih =>
    intro d h
    show Fn (fnOf 2 (b_same_parts (m_same_parts (n + 1)))) _ _ _ _
    with_reducible refine Fn_of ?_
    unfold b_same_parts
    cases d with
    | list xs =>
      simp [isl_l]
      refine wLcs_of (fun d y => y = d) (sizeLine_le (by have := h.1; omega)) (fun x hx s2 => ?_) fun ys s2 hr => ?_
      · simp [wipeE]
        refine wCall_val (ih x (h.2 x hx)) fun r s1 e => ?_
        simp [wipeE, e]
      · simp [hr.same]
    | tuple xs =>
      simp [isl, ist_t]
      refine wLcs_of (fun d y => y = d) (sizeLine_le (by have := h.1; omega)) (fun x hx s2 => ?_) fun ys s2 hr => ?_
      · simp [wipeE]
        refine wCall_val (ih x (h.2 x hx)) fun r s1 e => ?_
        simp [wipeE, e]
      · simp [hr.same]
    | dict _ => exact h.elim
    | _ => simp [isl, ist_n]
end Mi
set_option maxHeartbeats 4000000
namespace Mi
open PySem PySem.Spec PyProof.Rows L2
/-! a part of a book -/
def bookD (n : Mi.D) (ws : List Mi.D) : Mi.D := .tuple [n, .tuple [.tuple (ws.map fun w => .tuple [w, .int 0])]]
inductive Res where
  | bad (p : Nat) | dbl (q : Nat) | nil | ok (ks : List Nat)
def natOf (n : Nat) : Mi.D → Option Nat
  | .int k => if 0 ≤ k ∧ k < n then some k.toNat else none
  | _ => none
def scan (n : Nat) : List Nat → List Mi.D → Res
  | done, [] => if done = [] then .nil else .ok done
  | done, x :: r => match natOf n x with
    | none => .bad done.length
    | some k => if k ∈ done then .dbl (done.idxOf k) else scan n (done ++ [k]) r
theorem scan_nil (n : Nat) (done : List Nat) : scan n done [] = if done = [] then .nil else .ok done := rfl
theorem scan_cons (n : Nat) (done : List Nat) (x : Mi.D) (r : List Mi.D) : scan n done (x :: r) = match natOf n x with
    | none => .bad done.length
    | some k => if k ∈ done then .dbl (done.idxOf k) else scan n (done ++ [k]) r := rfl
theorem natOf_some {n k : Nat} {x : Mi.D} (h : natOf n x = some k) : x = .int (k : Nat) ∧ k < n := by
  cases x with
  | int j =>
    change (if 0 ≤ j ∧ j < n then some j.toNat else none) = some k at h
    split at h
    · cases h
      refine ⟨?_, by omega⟩
      have : ((j.toNat : Nat) : Int) = j := by omega
      rw [this]
    · cases h
  | _ => cases h
theorem natOf_none {n : Nat} {x : Mi.D} (h : natOf n x = none) : idxOf x n = false := by
  cases x with
  | int j =>
    change (if 0 ≤ j ∧ j < n then some j.toNat else none) = none at h
    split at h
    · cases h
    · simp [idxOf]; omega
  | _ => rfl
def kvF (i : Nat) : List Nat → List (Key × Mi.D)
  | [] => []
  | k :: r => (.inl (k : Nat), .int (i : Nat)) :: kvF (i + 1) r
theorem kvF_len : ∀ (l : List Nat) (i : Nat), (kvF i l).length = l.length
  | [], _ => rfl
  | k :: r, i => by simp [kvF, kvF_len r]
theorem kvF_app (k : Nat) : ∀ (l : List Nat) (i : Nat), kvF i (l ++ [k]) = kvF i l ++ [(.inl (k : Nat), .int (i + l.length : Nat))]
  | [], i => rfl
  | a :: r, i => by
    rw [List.cons_append]
    simp only [kvF, List.cons_append, kvF_app k r, List.length_cons]
    congr 5
    omega
theorem kvF_val (c : Nat) : ∀ (l : List Nat) (i : Nat), valD (kvF i l) (.inl (c : Nat)) = if c ∈ l then some (.int (i + l.idxOf c : Nat)) else none
  | [], i => rfl
  | a :: r, i => by
    unfold valD kvF
    by_cases h : a = c
    · subst h
      simp [List.find?_cons, List.idxOf_cons]
    · have h1 : ¬ ((Sum.inl (a : Int) : Key) = Sum.inl (c : Int)) := by
        intro z
        have : (a : Int) = c := by injection z
        omega
      have h2 : ¬ c = a := fun z => h z.symm
      have ih := kvF_val c r (i + 1)
      unfold valD at ih
      simp only [List.find?_cons, h1, decide_false, ih, List.mem_cons, h2, false_or, List.idxOf_cons, beq_iff_eq, h, cond_false]
      have h3 : (a == c) = false := by simp [h]
      simp only [h3, cond_false]
      split
      · congr 3; omega
      · rfl
theorem kvF_put {l : List Nat} {c : Nat} (h : c ∉ l) (d : Mi.D) : putD (kvF 0 l) (.inl (c : Nat)) d = kvF 0 l ++ [(.inl (c : Nat), d)] := by
  unfold putD
  have : ((kvF 0 l).any fun kv => decide (kv.1 = (.inl (c : Int) : Key))) = false := by
    have main : ∀ (l : List Nat) (i : Nat), c ∉ l → ((kvF i l).any fun kv => decide (kv.1 = (.inl (c : Int) : Key))) = false := fun l => by
      induction l with
      | nil => intro _ _; rfl
      | cons a r ih =>
        intro i hc
        simp only [kvF, List.any_cons, Bool.or_eq_false_iff, decide_eq_false_iff_not]
        refine ⟨fun z => ?_, ih _ fun q => hc (List.mem_cons_of_mem _ q)⟩
        have : (a : Int) = c := by injection z
        exact hc (by rw [show c = a by omega]; exact List.mem_cons_self)
    exact main l 0 h
  rw [if_neg (by rw [this]; exact Bool.false_ne_true)]
def pick (ws : List Mi.D) (ks : List Nat) : List Mi.D := ks.map fun k => ws.getD k .none
theorem mk1 {c f : Str} {d : Mi.D} (h : Pl 29 d) : mkOf c [f] (m_same_parts 30) [.d d] = some ⟨c, [(f, d)]⟩ := by
  obtain ⟨r, h1, h2⟩ := runAll1 (parts_sp 29 d h)
  unfold mkOf
  simp [h1, h2, zipR]
theorem runAll_two {f : List Arg → Unit → FO Unit} {d d2 : Mi.D} {r r' : R} (h : runAll f [d] = some [r]) (h' : runAll f [d2] = some [r']) : runAll f [d, d2] = some [r, r'] := by
  have e : ∀ xs, runAll f (d :: xs) = match f [.d d] () with
    | .val r _ => (runAll f xs).map (r :: ·)
    | _ => none := fun _ => rfl
  rw [e] at h
  rw [e, h']
  cases q : f [.d d] () with
  | val a u =>
    rw [q] at h
    have : a = r := by simpa [runAll] using h
    subst this
    rfl
  | exc x u => rw [q] at h; cases h
  | stuck => rw [q] at h; cases h
theorem mk2 {c f g : Str} {d d2 : Mi.D} (h : Pl 29 d) (h' : Pl 29 d2) : mkOf c [f, g] (m_same_parts 30) [.d d, .d d2] = some ⟨c, [(g, d2), (f, d)]⟩ := by
  obtain ⟨r, h1, h2⟩ := runAll1 (parts_sp 29 d h)
  obtain ⟨r', h1', h2'⟩ := runAll1 (parts_sp 29 d2 h')
  have e : runAll (m_same_parts 30) [d, d2] = some [r, r'] := runAll_two h1 h1'
  unfold mkOf
  simp [e, h2, h2', zipR]
/-- a plan of several states -/
theorem part_not (n : Mi.D) (sts : List Mi.D) (q : Mi.D) (h : sts.length ≠ 1) : Fn m_part [.d (.tuple [n, .tuple sts]), .d q] () (fun _ _ => False) fun x _ => x = ⟨"NotBook", [("states", .int sts.length)]⟩ := by
  have hne : ¬ ((sts.length : Int) = 1) := by omega
  have hb : Fn m_is_book [.d (.tuple [n, .tuple sts])] () (fun r _ => r = .sh (.bool false)) fun _ _ => False := by
    unfold m_is_book
    with_reducible refine Fn_of ?_
    unfold b_is_book
    simp [hne]
  have hc : Fn m_check_book [.d (.tuple [n, .tuple sts])] () (fun _ _ => False) fun x _ => x = ⟨"NotBook", [("states", .int sts.length)]⟩ := by
    unfold m_check_book
    with_reducible refine Fn_of ?_
    unfold b_check_book
    simp
    refine wCall_val hb fun r s1 e => ?_
    subst e
    simp [mk1 (d := .int (sts.length : Nat)) trivial]
  unfold m_part
  with_reducible refine Fn_of ?_
  unfold b_part
  simp
  exact wCall_of hc (fun _ _ z => z.elim) fun x s1 e => e
theorem book_words_sp (n : Mi.D) (ws : List Mi.D) (h : ws.length ≤ 1000) : Fn m_book_words [.d (bookD n ws)] () (fun r _ => r = .sh (.tuple ws)) fun _ _ => False := by
  have hs : Fn m_check_state [.d (bookD n ws), .d (.int 0)] () (fun r _ => True) fun _ _ => False := by
    unfold m_check_state
    with_reducible refine Fn_of ?_
    unfold b_check_state bookD
    simp
    refine wCall_val (is_index_sp (.int 0) 1 trivial) fun r s1 e => ?_
    subst e
    simp [idxOf]
  have hw : Fn m_words_of [.d (bookD n ws), .d (.int 0)] () (fun r _ => r = .sh (.tuple ws)) fun _ _ => False := by
    unfold m_words_of
    with_reducible refine Fn_of ?_
    unfold b_words_of
    simp
    refine wCall_val hs fun r s1 e => ?_
    simp [bookD]
    refine wLcs_of (fun d y => y = (match d with | .tuple [w, _] => w | _ => .none)) (sizeLine_le (by rw [List.length_map]; omega)) (fun d hd s3 => ?_) fun ys s3 hr => ?_
    · obtain ⟨w, _, rfl⟩ := List.mem_map.mp hd
      simp [wipeE]
    · have := hr.eq
      rw [List.map_map] at this
      have e : ys = ws := by rw [this]; simp [Function.comp_def]
      subst e
      simp
  unfold m_book_words
  with_reducible refine Fn_of ?_
  unfold b_book_words
  simp [bookD]
  refine wCall_val hw fun r s1 e => ?_
  subst e
  simp
theorem is_below_sp (d : Mi.D) (n : Int) (h : noDict d) : Fn m_is_below [.d d, .d (.int n)] () (fun r _ => r = .sh (.bool (idxOf d n))) fun _ _ => False := by
  unfold m_is_below
  with_reducible refine Fn_of ?_
  unfold b_is_below
  cases d with
  | int k =>
    simp [idxOf]
    refine wIf_d (c := 0 ≤ k) (fun c => ?_) (fun c => ?_)
    · simp [c]
    · simp [c]
  | dict _ => exact h.elim
  | _ => simp [idxOf]
theorem book_made_sp (n : Mi.D) (ws : List Mi.D) (h : ws.length ≤ 1000) : Fn m_book_made [.d n, .d (.list ws)] () (fun r _ => r = .sh (bookD n ws)) fun _ _ => False := by
  unfold m_book_made
  with_reducible refine Fn_of ?_
  unfold b_book_made
  simp
  refine wLcs_of (fun d y => y = .tuple [d, .int 0]) (sizeLine_le (by omega)) (fun d hd s3 => ?_) fun ys s3 hr => ?_
  · simp [wipeE]
    exact sizeLine_le (by decide)
  · have := hr.eq
    subst this
    simp [bookD]
    exact ⟨sizeLine_le (by decide), sizeLine_le (by decide)⟩
def erOf : Res → Option Er
  | .bad p => some ⟨"BadNumber", [("place", .int (p : Nat))]⟩
  | .dbl q => some ⟨"Double", [("number", .int (q : Nat)), ("at", .int 0)]⟩
  | .nil => some ⟨"NoWord", [("at", .int 0)]⟩
  | .ok _ => none
def IPt (n : Mi.D) (ws : List Mi.D) (q : Mi.D) (xs : List Mi.D) (i : Nat) (e : En Unit) : Prop := ∃ (l : List Nat) (x4 x5 : Slot), e = ⟨[.sh (bookD n ws), .sh q, .sh (.tuple ws), .ob (.dk (kvF 0 l)), x4, x5], ()⟩ ∧ l.length = i ∧ xs.take i = intsD l ∧ (∀ a ∈ l, a < ws.length) ∧ scan ws.length [] xs = scan ws.length l (xs.drop i)
theorem part_sp (n : Mi.D) (ws : List Mi.D) (hw : ws.length ≤ 1000) (q : Mi.D) (xs : List Mi.D) (hq : SeqD q xs) (hx : ∀ x ∈ xs, noDict x) (hl : xs.length ≤ 1000) :
    Fn m_part [.d (bookD n ws), .d q] () (fun r _ => ∃ ks, scan ws.length [] xs = .ok ks ∧ r.d = bookD n (pick ws ks)) fun x _ => erOf (scan ws.length [] xs) = some x := by
  have hb : Fn m_is_book [.d (bookD n ws)] () (fun r _ => r = .sh (.bool true)) fun _ _ => False := by
    unfold m_is_book
    with_reducible refine Fn_of ?_
    unfold b_is_book
    simp [bookD]
  have hc : Fn m_check_book [.d (bookD n ws)] () (fun _ _ => True) fun x _ => False := by
    unfold m_check_book
    with_reducible refine Fn_of ?_
    unfold b_check_book
    simp
    refine wCall_val hb fun r s1 e => ?_
    subst e
    simp
  unfold m_part
  with_reducible refine Fn_of ?_
  unfold b_part
  simp
  refine wCall_val hc fun r s1 _ => ?_
  simp
  refine wCall_val (book_words_sp n ws hw) fun r s2 e => ?_
  subst e
  simp [hq.enu]
  refine wLoop_idx (IPt n ws q xs) ⟨[], _, _, rfl, rfl, rfl, (fun _ h => nomatch h), rfl⟩ ?_ ?_
  · rintro i d e hd ⟨l, x4, x5, rfl, hi, ht, ha, hsc⟩
    obtain ⟨x, h1, rfl⟩ := enumF_get _ _ _ _ hd
    have hil := (List.getElem?_eq_some_iff.mp h1).1
    have hxe : xs[i] = x := (List.getElem?_eq_some_iff.mp h1).2
    rw [List.drop_eq_getElem_cons hil, hxe] at hsc
    have hnd := hx x (by rw [← hxe]; exact List.getElem_mem hil)
    simp
    refine wCall_val (is_below_sp x ws.length hnd) fun r s3 e => ?_
    subst e
    rw [scan_cons] at hsc
    cases hn : natOf ws.length x with
    | none =>
      rw [hn] at hsc
      simp [natOf_none hn, mk1 (d := .int (i : Nat)) trivial]
      rw [hsc, ← hi]
      rfl
    | some k =>
      rw [hn] at hsc
      obtain ⟨rfl, hk⟩ := natOf_some hn
      have hidx : idxOf (.int (k : Nat)) (ws.length : Nat) = true := by simp [idxOf]; omega
      simp [hidx, kvF_val]
      dsimp only at hsc
      by_cases hm : k ∈ l
      · rw [if_pos hm] at hsc
        simp [hm, kvF_val, mk2 (d := .int 0) (d2 := .int (l.idxOf k : Nat)) trivial trivial]
        rw [hsc]
        rfl
      · rw [if_neg hm] at hsc
        simp [hm, kvF_put hm]
        have e1 : kvF 0 l ++ [(Sum.inl (k : Int), PyData.int (i : Nat))] = kvF 0 (l ++ [k]) := by
          rw [kvF_app, hi]
          simp
        rw [e1]
        refine ⟨by rw [kvF_len]; exact sizeLine_big (by omega), l ++ [k], _, _, rfl, by simp [hi], ?_, fun a h => ?_, hsc⟩
        · rw [List.take_succ_eq_append_getElem hil, ht, intsD_app, hxe]
          rfl
        · rcases List.mem_append.mp h with h | h
          · exact ha a h
          · simp at h; subst h; exact hk
  · rintro e ⟨l, x4, x5, rfl, hi, ht, ha, hsc⟩
    rw [enumF_len] at hi ht hsc
    rw [List.take_length] at ht
    rw [List.drop_length] at hsc
    rw [scan_nil] at hsc
    simp
    by_cases h0 : l = []
    · subst h0
      rw [if_pos rfl] at hsc
      simp [kvF, mk1 (d := .int 0) trivial]
      rw [hsc]
      rfl
    · rw [if_neg h0] at hsc
      have hemp : (kvF 0 l).isEmpty = false := by
        cases l with
        | nil => exact absurd rfl h0
        | cons a r => rfl
      simp [hemp, bookD, hq.seq]
      refine wLcs_of (fun d y => y = (match d with | .int k => ws.getD k.toNat .none | _ => .none)) (sizeLine_le (by omega)) (fun d hd s3 => ?_) fun ys s3 hr => ?_
      · rw [ht] at hd
        unfold intsD at hd
        obtain ⟨a, h1, rfl⟩ := List.mem_map.mp hd
        have h2 := ha a h1
        simp [wipeE, atI_n h2]
        rw [List.getElem?_eq_getElem h2]
        rfl
      · have hy := hr.eq
        rw [ht] at hy
        have e : ys = pick ws l := by rw [hy]; unfold intsD pick; simp [Function.comp_def]
        subst e
        simp [resE, wipeE, keepS]
        refine wCall_val (book_made_sp n (pick ws l) (by unfold pick; rw [List.length_map]; omega)) fun r s4 e => ?_
        subst e
        simp
        exact ⟨l, hsc, rfl⟩
end Mi
set_option maxHeartbeats 4000000
namespace Mi
open PySem PySem.Spec PyProof.Rows L2
theorem lwhole_sp (d : Mi.D) (h : noDict d) : Fn m__law_is_whole [.d d] () (fun r _ => r = .sh (.bool (isIntD d))) fun _ _ => False := by
  unfold m__law_is_whole
  with_reducible refine Fn_of ?_
  unfold b__law_is_whole
  cases d with
  | dict _ => exact h.elim
  | _ => simp [isIntD]
end Mi
set_option maxHeartbeats 4000000
namespace Mi
open PySem PySem.Spec PyProof.Rows L2
theorem ofString_inj {a b : String} : PySem.Str.ofString a = PySem.Str.ofString b ↔ a = b := by
  constructor
  · intro h
    rw [PySem.Str.ofString_eq_toList, PySem.Str.ofString_eq_toList] at h
    have h1 : a.toList.map Char.toNat = b.toList.map Char.toNat := by
      have := congrArg (fun s : PySem.Str => s.cps.toList) h
      simpa using this
    have h2 : a.toList = b.toList := by
      refine List.map_inj_right (f := Char.toNat) ?_ |>.mp h1
      intro x y hxy
      exact Char.ext (UInt32.toNat_inj.mp hxy)
    exact String.toList_inj.mp h2
  · intro h; rw [h]
@[simp] theorem dEq_ss (a b : String) : dEq (.str (PySem.Str.ofString a)) (.str (PySem.Str.ofString b)) = some (.bool (decide (a = b))) := by
  unfold dEq
  rw [if_pos ⟨shaped_str (strOk_of a), shaped_str (strOk_of b)⟩]
  show some (PyData.bool (PySem.Str.ofString a == PySem.Str.ofString b)) = _
  congr 2
  by_cases h : a = b
  · subst h; simp
  · have : PySem.Str.ofString a ≠ PySem.Str.ofString b := fun z => h (ofString_inj.mp z)
    simp [h, this]
@[simp] theorem dNe_ss (a b : String) : dNe (.str (PySem.Str.ofString a)) (.str (PySem.Str.ofString b)) = some (.bool (!decide (a = b))) := by
  unfold dNe
  rw [if_pos ⟨shaped_str (strOk_of a), shaped_str (strOk_of b)⟩]
  show some (PyData.bool (!(PySem.Str.ofString a == PySem.Str.ofString b))) = _
  congr 2
  by_cases h : a = b
  · subst h; simp
  · have : PySem.Str.ofString a ≠ PySem.Str.ofString b := fun z => h (ofString_inj.mp z)
    simp [h, this]
end Mi
set_option maxHeartbeats 4000000
namespace Mi
open PySem PySem.Spec PyProof.Rows L2
def refD (c : String) (d : Mi.D) : Mi.D := .tuple [.str "refused", .str (PySem.Str.ofString c), d, .bool false]
def dblD (q : Nat) : Mi.D := .tuple [.str "refused", .str "Double", .int 0, .int (q : Nat), .bool false]
def toldD (d : Mi.D) : Mi.D := .tuple [.str "told", d]
def dueD (n : Mi.D) (ws : List Mi.D) : Res → Mi.D
  | .bad p => refD "BadNumber" (.int (p : Nat))
  | .dbl q => dblD q
  | .nil => refD "NoWord" (.int 0)
  | .ok ks => toldD (bookD n (pick ws ks))
theorem lbook_sp (n : Mi.D) (ws : List Mi.D) (h : ws.length ≤ 1000) : Fn m__law_book [.d n, .d (.list ws)] () (fun r _ => r = .sh (bookD n ws)) fun _ _ => False := by
  unfold m__law_book
  with_reducible refine Fn_of ?_
  unfold b__law_book
  simp
  refine wLcs_of (fun d y => y = .tuple [d, .int 0]) (sizeLine_le (by omega)) (fun d hd s3 => ?_) fun ys s3 hr => ?_
  · simp [wipeE]
    exact sizeLine_le (by decide)
  · have := hr.eq
    subst this
    simp [bookD]
    exact ⟨sizeLine_le (by decide), sizeLine_le (by decide)⟩
theorem due_not (n : Mi.D) (sts : List Mi.D) (q : Mi.D) (h : sts.length ≠ 1) : Fn m__law_due [.d (.tuple [n, .tuple sts]), .d q] () (fun r _ => r = .sh (refD "NotBook" (.int sts.length))) fun _ _ => False := by
  have hne : ¬ ((sts.length : Int) = 1) := by omega
  unfold m__law_due
  with_reducible refine Fn_of ?_
  unfold b__law_due
  simp [hne]
  exact ⟨sizeLine_le (by decide), rfl⟩
def IDue (n : Mi.D) (ws : List Mi.D) (q : Mi.D) (xs : List Mi.D) (i : Nat) (e : En Unit) : Prop := ∃ (l : List Nat) (x2 x4 x5 x6 : Slot), e = ⟨[.sh (bookD n ws), .sh q, x2, .ow (pick ws l), x4, x5, x6, .un], ()⟩ ∧ Lst x2 ws ∧ l.length = i ∧ xs.take i = intsD l ∧ (∀ a ∈ l, a < ws.length) ∧ scan ws.length [] xs = scan ws.length l (xs.drop i)
def IDue2 (n : Mi.D) (ws : List Mi.D) (q : Mi.D) (l : List Nat) (k : Nat) (x4 : Slot) (j : Nat) (e : En Unit) : Prop := ∃ (x6 : Slot), e = ⟨[.sh (bookD n ws), .sh q, .sh (.list ws), .ow (pick ws l), x4, .sh (.int (k : Nat)), x6, .un], ()⟩ ∧ ∀ t (h : t < l.length), t < j → l[t] ≠ k
theorem idxOf_first {l : List Nat} {k j : Nat} (hj : j < l.length) (h : l[j] = k) (hf : ∀ t (h : t < l.length), t < j → l[t] ≠ k) : l.idxOf k = j := by
  induction l generalizing j with
  | nil => simp at hj
  | cons a r ih =>
    cases j with
    | zero =>
      simp at h
      subst h
      simp [List.idxOf_cons]
    | succ j =>
      have h0 := hf 0 (by simp) (by omega)
      simp at h0
      simp at h
      have := ih (by simpa using hj) h fun t ht h2 => by
        have := hf (t + 1) (by simpa using ht) (by omega)
        simpa using this
      rw [List.idxOf_cons]
      have h3 : (a == k) = false := by simp [h0]
      rw [h3]
      simp [this]
theorem due_sp (n : Mi.D) (ws : List Mi.D) (hw : ws.length ≤ 1000) (q : Mi.D) (xs : List Mi.D) (hq : SeqD q xs) (hx : ∀ x ∈ xs, noDict x) (hl : xs.length ≤ 1000) :
    Fn m__law_due [.d (bookD n ws), .d q] () (fun r _ => r = .sh (dueD n ws (scan ws.length [] xs))) fun _ _ => False := by
  unfold m__law_due
  with_reducible refine Fn_of ?_
  unfold b__law_due
  simp [bookD]
  refine wLcs_of (fun d y => y = (match d with | .tuple [w, _] => w | _ => .none)) (sizeLine_le (by rw [List.length_map]; omega)) (fun d hd s3 => ?_) fun ys s3 hr => ?_
  · obtain ⟨w, _, rfl⟩ := List.mem_map.mp hd
    simp [wipeE]
  have hy := hr.eq
  rw [List.map_map] at hy
  have e : ys = ws := by rw [hy]; simp [Function.comp_def]
  subst e
  simp [resE, wipeE, keepS, hq.len]
  refine ⟨small_of (by omega) (by omega), ?_⟩
  refine wLoop_rng (IDue n ys q xs) ⟨[], _, _, _, _, rfl, .o _, rfl, rfl, (fun _ h => nomatch h), rfl⟩ ?_ ?_
  · rintro i e hi ⟨l, x2, x4, x5, x6, rfl, hx2, hil, ht, ha, hsc⟩
    have hi2 : i < xs.length := by omega
    rw [List.drop_eq_getElem_cons hi2, scan_cons] at hsc
    have hnd := hx _ (List.getElem_mem hi2)
    simp [hq.ix, atI_n hi2]
    generalize hxe : xs[i] = x at *
    refine wCall_val (lwhole_sp x hnd) fun r s4 e => ?_
    subst e
    cases hn : natOf ys.length x with
    | none =>
      rw [hn] at hsc
      have hb : dueD n ys (scan ys.length [] xs) = refD "BadNumber" (.int (i : Nat)) := by rw [hsc, hil]; rfl
      have hidx := natOf_none hn
      cases x with
      | int k =>
        simp [isIntD]
        refine wIf_d (fun c => ?_) (fun c => ?_)
        · simp
          exact ⟨sizeLine_le (by decide), by rw [hb]; rfl⟩
        · have : (ys.length : Int) ≤ k := by simp [idxOf] at hidx; omega
          simp [wV_lst hx2, this]
          exact ⟨sizeLine_le (by decide), by rw [hb]; rfl⟩
      | dict _ => exact hnd.elim
      | _ =>
        simp [isIntD]
        exact ⟨sizeLine_le (by decide), by rw [hb]; rfl⟩
    | some k =>
      rw [hn] at hsc
      obtain ⟨rfl, hk⟩ := natOf_some hn
      have c1 : ¬ ((k : Nat) : Int) < 0 := by omega
      have c2 : ¬ (ys.length : Int) ≤ (k : Nat) := by omega
      simp [isIntD, c1, wV_lst hx2, c2]
      dsimp only at hsc
      refine ⟨small_of (by omega) (by omega), ?_⟩
      refine wLoop_rng (IDue2 n ys q l k (.sh (.int (i : Nat)))) ⟨_, rfl, fun t _ h => by omega⟩ ?_ ?_
      · rintro j e hj ⟨x6, rfl, hf⟩
        have hjl : j < l.length := by omega
        have hjx : xs[j]? = some (.int (l[j] : Nat)) := by
          have : (xs.take i)[j]? = some (.int (l[j] : Nat)) := by rw [ht]; exact intsD_at hjl
          rwa [List.getElem?_take_of_lt (by omega)] at this
        simp [hq.ix, atI_of hjx]
        refine wIf_d (fun c => ?_) (fun c => ?_)
        · have c : l[j] = k := by omega
          have hm : k ∈ l := by rw [← c]; exact List.getElem_mem hjl
          rw [if_pos hm, idxOf_first hjl c hf] at hsc
          simp
          exact ⟨sizeLine_le (by decide), by rw [hsc]; rfl⟩
        · simp
          exact ⟨_, rfl, fun t h h2 => by
            rcases Nat.lt_or_ge t j with h3 | h3
            · exact hf t h h3
            · have : t = j := by omega
              subst this
              exact fun z => c (by rw [z])⟩
      · rintro e ⟨x6, rfl, hf⟩
        have hm : k ∉ l := fun h => by
          obtain ⟨t, h1, h2⟩ := List.getElem_of_mem h
          exact hf t h1 (by omega) h2
        rw [if_neg hm] at hsc
        simp [atI_n hk]
        have e1 : pick ys l ++ [ys[k]] = pick ys (l ++ [k]) := by
          unfold pick
          rw [List.map_append]
          simp [hk]
        rw [e1]
        refine ⟨by unfold pick; rw [List.length_map]; exact sizeLine_big (by omega), l ++ [k], _, _, _, _, rfl, .s _, by simp [hil], ?_, fun a h => ?_, hsc⟩
        · rw [List.take_succ_eq_append_getElem hi2, ht, intsD_app, hxe]
          rfl
        · rcases List.mem_append.mp h with h | h
          · exact ha a h
          · simp at h; subst h; exact hk
  · rintro e ⟨l, x2, x4, x5, x6, rfl, hx2, hil, ht, ha, hsc⟩
    rw [List.drop_length, scan_nil] at hsc
    have hpl : (pick ys l).length = l.length := by unfold pick; rw [List.length_map]
    simp [hpl]
    refine wIf_d (fun c => ?_) (fun c => ?_)
    · have : l = [] := by simpa [pick] using c
      subst this
      rw [if_pos rfl] at hsc
      simp
      exact ⟨sizeLine_le (by decide), by rw [hsc]; rfl⟩
    · have h0 : l ≠ [] := by simpa [pick] using c
      rw [if_neg h0] at hsc
      simp [bookD]
      refine wCall_val (lbook_sp n (pick ys l) (by rw [hpl]; omega)) fun r s4 e => ?_
      subst e
      simp
      exact ⟨sizeLine_le (by decide), by rw [hsc]; rfl⟩
end Mi
set_option maxHeartbeats 4000000
namespace Mi
open PySem PySem.Spec PyProof.Rows L2
def Hs07 : List (Hm Unit) := [⟨"NotBook", some 2, (mRet (mTup (mCons (rt (.str "refused")) (mCons (rt (.str "NotBook")) (mCons (mAtt 2 "states" "NotBook") (mCons (mIsE sub 2 ["BadNumber", "Double", "NoWord"]) mNil))))))⟩,
  ⟨"BadNumber", some 2, (mRet (mTup (mCons (rt (.str "refused")) (mCons (rt (.str "BadNumber")) (mCons (mAtt 2 "place" "BadNumber") (mCons (mIsE sub 2 ["Double", "NoWord", "NotBook"]) mNil))))))⟩,
  ⟨"Double", some 2, (mRet (mTup (mCons (rt (.str "refused")) (mCons (rt (.str "Double")) (mCons (mAtt 2 "at" "Double") (mCons (mAtt 2 "number" "Double") (mCons (mIsE sub 2 ["BadNumber", "NoWord", "NotBook"]) mNil)))))))⟩,
  ⟨"NoWord", some 2, (mRet (mTup (mCons (rt (.str "refused")) (mCons (rt (.str "NoWord")) (mCons (mAtt 2 "at" "NoWord") (mCons (mIsE sub 2 ["BadNumber", "Double", "NotBook"]) mNil))))))⟩]
theorem hs_book {a b v : Mi.D} : kTr sub Hs07 (fnQ fun r _ => r = .sh (refD "NotBook" v)) (fun x e => False) ⟨"NotBook", [("states", v)]⟩ ⟨[.sh a, .sh b, .un], ()⟩ := by
  rw [kTr_e]
  refine ⟨by rfl, ?_⟩
  refine wHs_hit (show sub "NotBook" "NotBook" = some true by decide +kernel) ?_
  have hl : isAny sub "NotBook" ["BadNumber", "Double", "NoWord"] = some false := by decide +kernel
  simp [Hm.In, Hm.Un, hl]
  exact ⟨sizeLine_le (by decide), by rfl, rfl⟩
theorem hs_place {a b v : Mi.D} : kTr sub Hs07 (fnQ fun r _ => r = .sh (refD "BadNumber" v)) (fun x e => False) ⟨"BadNumber", [("place", v)]⟩ ⟨[.sh a, .sh b, .un], ()⟩ := by
  rw [kTr_e]
  refine ⟨by rfl, ?_⟩
  refine wHs_miss (show sub "BadNumber" "NotBook" = some false by decide +kernel) ?_
  refine wHs_hit (show sub "BadNumber" "BadNumber" = some true by decide +kernel) ?_
  have hl : isAny sub "BadNumber" ["Double", "NoWord", "NotBook"] = some false := by decide +kernel
  simp [Hm.In, Hm.Un, hl]
  exact ⟨sizeLine_le (by decide), by rfl, rfl⟩
theorem hs_dbl {a b : Mi.D} {q : Nat} : kTr sub Hs07 (fnQ fun r _ => r = .sh (dblD q)) (fun x e => False) ⟨"Double", [("number", .int (q : Nat)), ("at", .int 0)]⟩ ⟨[.sh a, .sh b, .un], ()⟩ := by
  rw [kTr_e]
  refine ⟨by rfl, ?_⟩
  refine wHs_miss (show sub "Double" "NotBook" = some false by decide +kernel) ?_
  refine wHs_miss (show sub "Double" "BadNumber" = some false by decide +kernel) ?_
  refine wHs_hit (show sub "Double" "Double" = some true by decide +kernel) ?_
  have hl : isAny sub "Double" ["BadNumber", "NoWord", "NotBook"] = some false := by decide +kernel
  have h2 : List.lookup (PySem.Str.ofString "at") [(PySem.Str.ofString "number", PyData.int (q : Nat)), (PySem.Str.ofString "at", PyData.int 0)] = some (.int 0) := by rfl
  simp [Hm.In, Hm.Un, hl, h2]
  exact ⟨sizeLine_le (by decide), by rfl, rfl⟩
theorem hs_nil {a b v : Mi.D} : kTr sub Hs07 (fnQ fun r _ => r = .sh (refD "NoWord" v)) (fun x e => False) ⟨"NoWord", [("at", v)]⟩ ⟨[.sh a, .sh b, .un], ()⟩ := by
  rw [kTr_e]
  refine ⟨by rfl, ?_⟩
  refine wHs_miss (show sub "NoWord" "NotBook" = some false by decide +kernel) ?_
  refine wHs_miss (show sub "NoWord" "BadNumber" = some false by decide +kernel) ?_
  refine wHs_miss (show sub "NoWord" "Double" = some false by decide +kernel) ?_
  refine wHs_hit (show sub "NoWord" "NoWord" = some true by decide +kernel) ?_
  have hl : isAny sub "NoWord" ["BadNumber", "Double", "NotBook"] = some false := by decide +kernel
  simp [Hm.In, Hm.Un, hl]
  exact ⟨sizeLine_le (by decide), by rfl, rfl⟩
theorem asked_gen {p k : Mi.D} {P : R → Prop} {G : Mi.D → Prop} {E : Er → Prop} (h : Fn m_part [.d p, .d k] () (fun r _ => G r.d) fun x _ => E x) (hg : ∀ d, G d → P (.sh (toldD d)))
    (hx : ∀ x, E x → kTr sub Hs07 (fnQ fun r _ => P r) (fun x e => False) x ⟨[.sh p, .sh k, .un], ()⟩) : Fn m__law_asked [.d p, .d k] () (fun r _ => P r) fun _ _ => False := by
  unfold m__law_asked
  with_reducible refine Fn_of ?_
  unfold b__law_asked
  simp
  refine wCall_of h (fun r s1 e => ?_) fun x s1 e => ?_
  · simp
    exact ⟨sizeLine_le (by decide), hg _ e⟩
  · have := hx x e
    rw [kTr_e] at this
    exact this
theorem asked_not (n : Mi.D) (sts : List Mi.D) (q : Mi.D) (h : sts.length ≠ 1) : Fn m__law_asked [.d (.tuple [n, .tuple sts]), .d q] () (fun r _ => r = .sh (refD "NotBook" (.int sts.length))) fun _ _ => False :=
  asked_gen (G := fun _ => False) (part_not n sts q h) (fun _ z => z.elim) fun x e => by rw [e]; exact hs_book
theorem asked_sp (n : Mi.D) (ws : List Mi.D) (hw : ws.length ≤ 1000) (q : Mi.D) (xs : List Mi.D) (hq : SeqD q xs) (hx : ∀ x ∈ xs, noDict x) (hl : xs.length ≤ 1000) :
    Fn m__law_asked [.d (bookD n ws), .d q] () (fun r _ => r = .sh (dueD n ws (scan ws.length [] xs))) fun _ _ => False :=
  asked_gen (P := fun r => r = .sh (dueD n ws (scan ws.length [] xs))) (G := fun d => ∃ ks, scan ws.length [] xs = .ok ks ∧ d = bookD n (pick ws ks)) (E := fun x => erOf (scan ws.length [] xs) = some x)
    (part_sp n ws hw q xs hq hx hl) (fun d ⟨ks, h1, h2⟩ => by rw [h1, h2]; rfl) fun x e => by
      cases h : scan ws.length [] xs with
      | bad p => rw [h] at e; cases e; exact hs_place
      | dbl p => rw [h] at e; cases e; exact hs_dbl
      | nil => rw [h] at e; cases e; exact hs_nil
      | ok ks => rw [h] at e; cases e
end Mi
set_option maxHeartbeats 4000000
namespace Mi
open PySem PySem.Spec PyProof.Rows L2
structure RepOk (d : Mi.D) : Prop where
  sh : d.showable = true
  nd : d.hasDict = false
  dp : d.depth ≤ 5
  ln : d.shown.length ≤ 2000
  ok : PySem.PyData.strOk d.shown = true
theorem strOk_app {x y : Str} (h : PySem.PyData.strOk x = true) (h' : PySem.PyData.strOk y = true) : PySem.PyData.strOk (x ++ y) = true := by
  show PySem.PyData.strOk ⟨x.cps ++ y.cps⟩ = true
  unfold PySem.PyData.strOk at *
  rw [Array.all_append, h, h']
  rfl
theorem len_app (x y : Str) : (x ++ y).length = x.length + y.length := by
  show (x.cps ++ y.cps).size = _
  rw [Array.size_append]
  rfl
theorem textFrom_ok {ts : List Str} : ∀ (k : Nat) (acc : Str), (∀ t ∈ ts, PySem.PyData.strOk t = true ∧ t.length ≤ 2000) → PySem.PyData.strOk acc = true → PySem.PyData.strOk (textFrom k acc ts) = true ∧ (textFrom k acc ts).length ≤ acc.length + 2002 * ts.length := by
  induction ts with
  | nil => intro k acc _ h; exact ⟨h, by show acc.length ≤ _; omega⟩
  | cons t r ih =>
    intro k acc h ha
    obtain ⟨t1, t2⟩ := h t List.mem_cons_self
    have hs : PySem.PyData.strOk (PySem.Str.ofString (if k > 0 then ", " else "")) = true := strOk_of _
    have hl : (PySem.Str.ofString (if k > 0 then ", " else "")).length ≤ 2 := by split <;> decide +kernel
    obtain ⟨a, b⟩ := ih (k + 1) (acc ++ PySem.Str.ofString (if k > 0 then ", " else "") ++ t) (fun z hz => h z (List.mem_cons_of_mem _ hz)) (strOk_app (strOk_app ha hs) t1)
    refine ⟨a, ?_⟩
    show (textFrom (k + 1) _ r).length ≤ _
    rw [len_app, len_app] at b
    simp only [List.length_cons]
    omega
theorem shownAll_all {xs : List Mi.D} (h : ∀ x ∈ xs, RepOk x) : ∀ t ∈ PyData.shownAll xs, PySem.PyData.strOk t = true ∧ t.length ≤ 2000 := by
  induction xs with
  | nil => intro t ht; cases ht
  | cons x r ih =>
    intro t ht
    rcases List.mem_cons.mp ht with rfl | ht
    · exact ⟨(h x List.mem_cons_self).ok, (h x List.mem_cons_self).ln⟩
    · exact ih (fun z hz => h z (List.mem_cons_of_mem _ hz)) t ht
theorem shownAll_len (xs : List Mi.D) : (PyData.shownAll xs).length = xs.length := by
  induction xs with
  | nil => rfl
  | cons x r ih => show (_ :: PyData.shownAll r).length = _; simp [ih]
theorem listFacts {xs : List Mi.D} (h : ∀ x ∈ xs, RepOk x) : PyData.showableAll xs = true ∧ PyData.hasDictAll xs = false ∧ PyData.depthAll xs ≤ 5 := by
  induction xs with
  | nil => exact ⟨rfl, rfl, Nat.zero_le _⟩
  | cons x r ih =>
    obtain ⟨a, b, c⟩ := ih fun z hz => h z (List.mem_cons_of_mem _ hz)
    have hx := h x List.mem_cons_self
    refine ⟨?_, ?_, ?_⟩
    · show (x.showable && PyData.showableAll r) = true
      rw [hx.sh, a]; rfl
    · show (x.hasDict || PyData.hasDictAll r) = false
      rw [hx.nd, b]; rfl
    · show max x.depth (PyData.depthAll r) ≤ 5
      have := hx.dp
      omega
theorem repr_list {xs : List Mi.D} (h : ∀ x ∈ xs, RepOk x) (hl : xs.length ≤ 1000) : ∃ t, gRepr [.d (.list xs)] = some (.str t) ∧ PySem.PyData.strOk t = true := by
  obtain ⟨a, b, c⟩ := listFacts h
  have hb : PySem.PyData.strOk (PySem.Str.ofString "[") = true := strOk_of _
  have hb2 : PySem.PyData.strOk (PySem.Str.ofString "]") = true := strOk_of _
  obtain ⟨o, l⟩ := textFrom_ok (ts := PyData.shownAll xs) 0 (PySem.Str.ofString "[") (shownAll_all h) hb
  rw [shownAll_len] at l
  have l1 : (PySem.Str.ofString "[").length = 1 := by decide +kernel
  have l2 : (PySem.Str.ofString "]").length = 1 := by decide +kernel
  have hlen : (PyData.shown (.list xs)).length ≤ sizeLine := by
    show (textFrom 0 (PySem.Str.ofString "[") (PyData.shownAll xs) ++ PySem.Str.ofString "]").length ≤ _
    rw [len_app]
    have := sizeLine_eq
    omega
  refine ⟨_, ?_, strOk_app o hb2⟩
  unfold gRepr
  dsimp only
  rw [if_pos ⟨a, b, by show PyData.depthAll xs + 1 ≤ 60; omega, hlen⟩]
  rfl
theorem repr_int {k : Int} (h : k.natAbs < 10 ^ 130) : RepOk (.int k) := by
  have hl : k.natAbs.log2 < 1920 := by
    by_cases z : k.natAbs = 0
    · rw [z]; decide
    · refine (Nat.log2_lt z).mpr ?_
      have : (10 : Nat) ^ 130 < 2 ^ 1920 := by decide +kernel
      omega
  refine ⟨by show decide (k.natAbs.log2 < 1920) = true; simpa using hl, rfl, Nat.zero_le _, ?_, strOk_of _⟩
  show (PySem.Str.ofString (toString k)).length ≤ 2000
  rw [PySem.ofString_length]
  have := int_text_length_le (a := k) (k := 1920) (by decide) hl
  omega
def repB (d : Mi.D) : Bool := d.showable && !d.hasDict && decide (d.depth ≤ 5) && decide (d.shown.length ≤ 2000) && PySem.PyData.strOk d.shown
theorem repB_of {d : Mi.D} (h : repB d = true) : RepOk d := by
  simp only [repB, Bool.and_eq_true, decide_eq_true_eq] at h
  obtain ⟨⟨⟨⟨a, b⟩, c⟩, e⟩, f⟩ := h
  exact ⟨a, by simpa using b, c, e, f⟩
theorem rep_menu : (List.range 5).all (fun k => (Menu k).all repB) = true := by decide +kernel
theorem menu_rep {d : Mi.D} {k : Int} (h0 : 0 ≤ k) (h1 : k < 5) (h2 : d ∈ Menu k) : RepOk d := by
  have := List.all_eq_true.mp rep_menu k.toNat (List.mem_range.mpr (by omega))
  have e : ((k.toNat : Nat) : Int) = k := by omega
  simp only [e] at this
  exact repB_of (List.all_eq_true.mp this d h2)
end Mi
set_option maxHeartbeats 4000000
namespace Mi
open PySem PySem.Spec PyProof.Rows L2
theorem kind_sp (d : Mi.D) (hd : ∀ ks, d ≠ .dict ks) : Fn m__law_kind [.d d] () (fun r _ => r = .sh (.int (kindOf d))) fun _ _ => False := by
  unfold m__law_kind
  with_reducible refine Fn_of ?_
  unfold b__law_kind
  cases d with
  | none => simp [isN_n, kindOf]
  | bool v => simp [isN_of, isTy (.bool v) "bool" true (by show kitB "bool" "bool" = _; decide +kernel), kindOf]
  | int v => simp [isN_of, isTy (.int v) "bool" false (by show kitB "int" "bool" = _; decide +kernel), isTy (.int v) "int" true (by show kitB "int" "int" = _; decide +kernel), kindOf]
  | str v => simp [isN_of, isTy (.str v) "bool" false (by show kitB "str" "bool" = _; decide +kernel), isTy (.str v) "int" false (by show kitB "str" "int" = _; decide +kernel), isTy (.str v) "str" true (by show kitB "str" "str" = _; decide +kernel), kindOf]
  | tuple v => simp [isN_of, isTy (.tuple v) "bool" false (by show kitB "tuple" "bool" = _; decide +kernel), isTy (.tuple v) "int" false (by show kitB "tuple" "int" = _; decide +kernel), isTy (.tuple v) "str" false (by show kitB "tuple" "str" = _; decide +kernel), ist_t, kindOf]
  | list v => simp [isN_of, isTy (.list v) "bool" false (by show kitB "list" "bool" = _; decide +kernel), isTy (.list v) "int" false (by show kitB "list" "int" = _; decide +kernel), isTy (.list v) "str" false (by show kitB "list" "str" = _; decide +kernel), isTy (.list v) "tuple" false (by show kitB "list" "tuple" = _; decide +kernel), isl_l, kindOf]
  | dict ks => exact absurd rfl (hd ks)
end Mi
set_option maxHeartbeats 4000000
namespace Mi
open PySem PySem.Spec PyProof.Rows L2
def ISame (x : Mi.D) (m : Nat) (e : En Unit) : Prop := ∃ (xs : List Mi.D) (x3 x4 x5 x6 : Slot), e = ⟨[.sh x, .sh x, .ow (xs.map pr), x3, x4, x5, x6], ()⟩ ∧ szs xs = m ∧ m < 900000 ∧ ∀ y ∈ xs, ∃ n, Pl n y
theorem same_sp (x : Mi.D) (h : ∃ n, Pl n x) (hz : sz x < 900000) : Fn m__law_same [.d x, .d x] () (fun r _ => r = .sh (.bool true)) fun _ _ => False := by
  unfold m__law_same
  with_reducible refine Fn_of ?_
  unfold b__law_same
  simp
  refine ⟨sizeLine_le (by decide), sizeLine_le (by decide), ?_⟩
  refine wWhl_inv (ISame x) ?_ (m := sz x) (by unfold fuel; omega) ⟨[x], _, _, _, _, rfl, by simp [szs], hz, fun y hy => by simp at hy; subst hy; exact h⟩
  rintro m e ⟨xs, x3, x4, x5, x6, rfl, hm, hm2, hp⟩
  simp
  refine wIf_d (fun c => ?_) (fun c => ?_)
  · have hne : xs ≠ [] := by rintro rfl; simp at c
    obtain ⟨ys, y, rfl⟩ : ∃ ys y, xs = ys ++ [y] := ⟨xs.dropLast, xs.getLast hne, (List.dropLast_concat_getLast hne).symm⟩
    have hpop : gPop (ys.map pr ++ [.tuple [y, y]]) [] = some (.tuple [y, y], ys.map pr) := by
      unfold gPop
      simp
    obtain ⟨n, hy⟩ := hp y (by simp)
    have hys : ∀ z ∈ ys, ∃ n, Pl n z := fun z hz => hp z (by simp [hz])
    have hsz : szs ys + sz y = m := by rw [szs_app] at hm; simpa [szs] using hm
    have hd : ∀ ks, y ≠ .dict ks := by rintro ks rfl; cases n <;> exact hy
    have hk6 : kindOf y ≠ 6 := by
      cases y with
      | dict ks => exact absurd rfl (hd ks)
      | _ => simp [kindOf]
    simp [hpop, pr]
    refine wCall_val (kind_sp y hd) fun r s1 e => ?_
    subst e
    simp [hk6]
    refine wCall_val (kind_sp y hd) fun r s1 e => ?_
    subst e
    simp
    refine wIf_d (fun c4 => ?_) (fun c4 => ?_)
    · have q := dNe_same hy c4
      simp [q]
      have := sz_pos y
      exact ⟨_, by omega, ys, _, _, _, _, rfl, rfl, by omega, hys⟩
    · suffices kk : ∃ ds : List Mi.D, sz y = 1 + szs ds ∧ (∀ z ∈ ds, ∃ n, Pl n z) ∧ gLen [.d y] = some (.int ds.length) ∧ (∀ i : Int, dIx y (.int i) = atI ds i) by
        obtain ⟨ds, e1, e2, e3, e4⟩ := kk
        have l1 := szs_len ds
        have l2 := szs_len ys
        simp [e3]
        refine ⟨small_of (by omega) (by omega), ?_⟩
        refine wLoop_rng (fun i e => ∃ (x6 : Slot), e = ⟨[.sh x, .sh x, .ow (ys.map pr ++ (ds.map pr).take i), .sh y, .sh y, .sh (.int (kindOf y)), x6], ()⟩) ⟨x6, by simp⟩ ?_ ?_
        · rintro i e hi ⟨x6, rfl⟩
          have hi2 : i < ds.length := by omega
          have g : atI ds (i : Int) = some ds[i] := atI_nat (List.getElem?_eq_getElem hi2)
          simp [e4, g]
          refine ⟨sizeLine_le (by decide), sizeLine_big (by omega), ?_⟩
          rw [List.take_succ_eq_append_getElem (by simpa using hi2)]
          simp [pr]
        · rintro e ⟨x6, rfl⟩
          have tk : (ds.map pr).take ds.length = ds.map pr := by rw [List.take_of_length_le]; simp
          rw [tk]
          rw [loopQ_nx]
          refine ⟨szs (ys ++ ds), by rw [szs_app]; omega, ys ++ ds, _, _, _, _, by rw [List.map_append], rfl, by rw [szs_app]; omega, fun z hz => ?_⟩
          rcases List.mem_append.mp hz with hz | hz
          · exact hys z hz
          · exact e2 z hz
      cases y with
      | list ds =>
        refine ⟨ds, by simp [sz], by cases n with
          | zero => exact hy.elim
          | succ n => exact fun z hz => ⟨n, hy.2 z hz⟩, rfl, fun _ => rfl⟩
      | tuple ds =>
        refine ⟨ds, by simp [sz], by cases n with
          | zero => exact hy.elim
          | succ n => exact fun z hz => ⟨n, hy.2 z hz⟩, rfl, fun _ => rfl⟩
      | dict ks => exact absurd rfl (hd ks)
      | _ => simp [kindOf] at c4
  · simp
end Mi
set_option maxHeartbeats 4000000
namespace Mi
open PySem PySem.Spec PyProof.Rows L2
theorem power_sp (k : Int) (h0 : 0 ≤ k) (h1 : k ≤ 60) : Fn m__law_power [.d (.int 2), .d (.int k)] () (fun r _ => r = .sh (.int (2 ^ k.toNat))) fun _ _ => False := by
  unfold m__law_power
  with_reducible refine Fn_of ?_
  unfold b__law_power
  simp
  refine ⟨small_of (by omega) (by omega), ?_⟩
  refine wLoop_rng (fun i e => ∃ (x : Slot), e = ⟨[.sh (.int 2), .sh (.int k), .sh (.int (2 ^ i)), x], ()⟩) ⟨_, rfl⟩ ?_ ?_
  · rintro i e hi ⟨x, rfl⟩
    simp
    exact ⟨mulOk_small (by decide) (by decide), by rw [Int.pow_succ]⟩
  · rintro e ⟨x, rfl⟩
    simp
end Mi
set_option maxHeartbeats 4000000
namespace Mi
open PySem PySem.Spec PyProof.Rows L2
theorem masks_sp (cs : List Addr) (n count : Int) (s : Sto) (h0 : 1 ≤ n) (h1 : n ≤ 40) (c0 : 1 ≤ count) (c1 : count ≤ 64) : Fn (m__law_masks cs) [.tok, .d (.int n), .d (.int count)] s (fun r _ => ∃ ds, r.d = .list ds ∧ 1 ≤ ds.length ∧ ds.length ≤ 64 ∧ LI (-BI) BI ds) fun _ _ => False := by
  unfold m__law_masks
  with_reducible refine Fn_of ?_
  unfold b__law_masks
  simp
  refine wCall_lift (power_sp n (by omega) (by omega)) fun r h => ?_
  subst h
  simp
  obtain ⟨hg, hh⟩ : ∃ hg : Int, hg = 2 ^ n.toNat - 1 := ⟨_, rfl⟩
  have p1 := pow_le (a := 1) (b := n.toNat) (by omega)
  have p2 := pow_le (a := n.toNat) (b := 40) (by omega)
  have p3 : (2 : Int) ^ 1 = 2 := by decide
  have p4 : (2 : Int) ^ 40 = 1099511627776 := by decide
  have hB : BI = 18446744073709551616 := by decide
  rw [← hh]
  refine wTake (by decide) (by decide) fun j s2 j0 j1 => ?_
  simp
  -- thin
  have main : ∀ (b : Bool) (s : Sto), wp (sq (mSetF 5 (mLst mNil)) (sq (mFor (mR1 (mCons (mB gMin2 (mCons (mV 2) (mCons (mV 3) mNil))) mNil)) (gN 6)
      (sq (mIf (asB (mV 4))
      (sq (mSet 8 (mCall 2 (lift m__law_power) (mCons (rt (.int 2)) (mCons (mCall 2 (m__law_take cs) (mTok 0 (mCons (mV 1) mNil))) mNil))))
      (sq (mSet 9 (mCall 2 (lift m__law_power) (mCons (rt (.int 2)) (mCons (mCall 2 (m__law_take cs) (mTok 0 (mCons (mV 1) mNil))) mNil))))
      (sq (mSet 10 (mB gMax2 (mCons (mV 8) (mCons (mV 9) mNil))))
      (mIf (asB (m2 dNe (mV 8) (mV 9)))
      (mSet 10 (m2 dAdd (mV 8) (mV 9)))
      nop))))
      (mSet 10 (m2 dAdd (rt (.int 1)) (mCall 2 (m__law_take cs) (mTok 0 (mCons (mV 3) mNil))))))
      (sq (mFor (mR1 (mCons (mO 5 gLenO) mNil)) (gN 7)
      (sq (mIf (asB (mInO dNotInO 5 (mV 10)))
      mBrk
      nop)
      (mSet 10 (m2 dAdd (m2 dMod (mB gInt (mCons (mV 10) mNil)) (mV 3)) (rt (.int 1))))))
      (mDrop (mMeth 5 gAppend (mCons (mV 10) mNil))))))
      (mRetV 5))) ⟨[.tok, .sh (.int n), .sh (.int count), .sh (.int hg), .sh (.bool b), .un, .un, .un, .un, .un, .un], s⟩ (fnQ fun r _ => ∃ ds, r.d = .list ds ∧ 1 ≤ ds.length ∧ ds.length ≤ 64 ∧ LI (-BI) BI ds) (fun _ _ => False) := fun b s => by
    simp
    obtain ⟨m, hm⟩ : ∃ m : Int, m = if hg < count then hg else count := ⟨_, rfl⟩
    rw [← hm]
    have m0 : 1 ≤ m := by rw [hm]; split <;> omega
    have m1 : m ≤ 64 := by rw [hm]; split <;> omega
    refine ⟨small_of (by omega) (by omega), ?_⟩
    refine wLoop_rng (fun i e => ∃ (ds : List Mi.D) (x6 x7 x8 x9 x10 : Slot) (s2 : Sto), e = ⟨[.tok, .sh (.int n), .sh (.int count), .sh (.int hg), .sh (.bool b), .ow ds, x6, x7, x8, x9, x10], s2⟩ ∧ ds.length = i ∧ LI (-BI) BI ds)
      ⟨_, _, _, _, _, _, _, rfl, rfl, fun _ z => (nomatch z)⟩ ?_ ?_
    · rintro i e hi ⟨ds, x6, x7, x8, x9, x10, s2, rfl, hl, hd⟩
      have rest : ∀ (Q : Fl → En Sto → Prop) (x6 x8 x9 : Slot) (k : Int) (s3 : Sto), -BI ≤ k → k < BI → wp (sq (mFor (mR1 (mCons (mO 5 gLenO) mNil)) (gN 7)
          (sq (mIf (asB (mInO dNotInO 5 (mV 10)))
          mBrk
          nop)
          (mSet 10 (m2 dAdd (m2 dMod (mB gInt (mCons (mV 10) mNil)) (mV 3)) (rt (.int 1))))))
          (mDrop (mMeth 5 gAppend (mCons (mV 10) mNil)))) ⟨[.tok, .sh (.int n), .sh (.int count), .sh (.int hg), .sh (.bool b), .ow ds, x6, x7, x8, x9, .sh (.int k)], s3⟩
          (loopQ (fun e => ∃ (ds : List Mi.D) (x6 x7 x8 x9 x10 : Slot) (s2 : Sto), e = ⟨[.tok, .sh (.int n), .sh (.int count), .sh (.int hg), .sh (.bool b), .ow ds, x6, x7, x8, x9, x10], s2⟩ ∧ ds.length = i + 1 ∧ LI (-BI) BI ds) Q) (fun _ _ => False) := fun Q x6 x8 x9 k s3 k0 k1 => by
        simp
        refine ⟨small_of (by omega) (by omega), ?_⟩
        have fin : ∀ (x7 : Slot) (k : Int), -BI ≤ k → k < BI → (ds.length < sizeLine ∧ (ds ++ [PyData.int k]).length = i + 1 ∧ LI (-BI) BI (ds ++ [PyData.int k])) := fun x7 k k0 k1 =>
          ⟨sizeLine_big (by omega), by simp [hl], hd.app fun z hz => ⟨k, by simpa using hz, k0, k1⟩⟩
        refine wLoop_rng (fun i e => ∃ (x7 : Slot) (k : Int), e = ⟨[.tok, .sh (.int n), .sh (.int count), .sh (.int hg), .sh (.bool b), .ow ds, x6, x7, x8, x9, .sh (.int k)], s3⟩ ∧ -BI ≤ k ∧ k < BI) ⟨_, _, rfl, k0, k1⟩ ?_ ?_
        · rintro a e ha ⟨x7, k, rfl, k0, k1⟩
          obtain ⟨t, ht⟩ := notIn_LI (k := k) hd
          simp [ht]
          refine wIf_of (fun c => ?_) (fun c => ?_)
          · simp
            exact ⟨(fin x7 k k0 k1).1, by simpa using (fin x7 k k0 k1).2.1, (fin x7 k k0 k1).2.2⟩
          · simp
            have e1 := Int.emod_nonneg k (show hg ≠ 0 by omega)
            have e2 := Int.emod_lt_of_pos k (show 0 < hg by omega)
            exact ⟨by omega, _, _, ⟨rfl, rfl⟩, by omega, by omega⟩
        · rintro e ⟨x7, k, rfl, k0, k1⟩
          simp
          exact ⟨(fin x7 k k0 k1).1, by simpa using (fin x7 k k0 k1).2.1, (fin x7 k k0 k1).2.2⟩
      simp
      refine wIf_of (fun _ => ?_) (fun _ => ?_)
      · simp
        refine wTake (by omega) (by omega) fun a s3 a0 a1 => ?_
        simp
        refine wCall_lift (power_sp a (by omega) (by omega)) fun r h => ?_
        subst h
        simp
        refine wTake (by omega) (by omega) fun d s4 d0 d1 => ?_
        simp
        refine wCall_lift (power_sp d (by omega) (by omega)) fun r h => ?_
        subst h
        simp
        have a2 := pow_le (a := a.toNat) (b := 40) (by omega)
        have a3 := pow_pos' a.toNat
        have d2 := pow_le (a := d.toNat) (b := 40) (by omega)
        have d3 := pow_pos' d.toNat
        refine wIf_nd (fun c => ?_) (fun c => ?_)
        · simp
          have b1 : -BI ≤ (2 : Int) ^ a.toNat + 2 ^ d.toNat := by omega
          have b2 : (2 : Int) ^ a.toNat + 2 ^ d.toNat < BI := by omega
          have q := fun Q x6 x8 x9 => rest Q x6 x8 x9 _ s4 b1 b2
          simp at q
          with_reducible exact q _ _ _ _
        · simp
          have b1 : -BI ≤ (if (2 : Int) ^ d.toNat > 2 ^ a.toNat then 2 ^ d.toNat else 2 ^ a.toNat) := by split <;> omega
          have b2 : (if (2 : Int) ^ d.toNat > 2 ^ a.toNat then 2 ^ d.toNat else 2 ^ a.toNat) < BI := by split <;> omega
          have q := fun Q x6 x8 x9 => rest Q x6 x8 x9 _ s4 b1 b2
          simp at q
          with_reducible exact q _ _ _ _
      · simp
        refine wTake (by omega) (by omega) fun a s3 a0 a1 => ?_
        simp
        have b1 : -BI ≤ 1 + a := by omega
        have b2 : 1 + a < BI := by omega
        have q := fun Q x6 x8 x9 => rest Q x6 x8 x9 _ s3 b1 b2
        simp at q
        with_reducible exact q _ _ _ _
    · rintro e ⟨ds, x6, x7, x8, x9, x10, s2, rfl, hl, hd⟩
      simp
      exact ⟨by omega, by omega, hd⟩
  refine wIf_d (fun c => ?_) (fun c => ?_)
  · simpa using main _ s2
  · simpa using main _ s2
end Mi
set_option maxHeartbeats 4000000
namespace Mi
open PySem PySem.Spec PyProof.Rows L2
/-- a word: a tuple of wires below 64 -/
def WordOk (d : Mi.D) : Prop := ∃ ds, d = .tuple ds ∧ ds.length ≤ 40 ∧ LI 0 64 ds
theorem mask_word2 (mask k : Int) (h0 : 0 ≤ k) (h1 : k ≤ 40) : Fn m__law_mask_word [.d (.int mask), .d (.int k)] () (fun r _ => ∃ d, r = .sh d ∧ WordOk d) fun _ _ => False := by
  unfold m__law_mask_word
  with_reducible refine Fn_of ?_
  unfold b__law_mask_word
  simp
  refine ⟨small_of (by omega) (by omega), ?_⟩
  refine wLoop_rng (fun i e => ∃ (ws : List Mi.D) (j : Int) (x : Slot), e = ⟨[.sh (.int mask), .sh (.int k), .ow ws, .sh (.int j), x], ()⟩ ∧ ws.length ≤ i ∧ LI 0 64 ws) ⟨_, _, _, rfl, Nat.le_refl _, fun _ h => nomatch h⟩ ?_ ?_
  · rintro i e hi ⟨ws, j, x, rfl, h, hw⟩
    simp
    refine wIf_d (fun c => ?_) (fun c => ?_)
    · simp
      exact ⟨sizeLine_big (by omega), ⟨by decide, by decide⟩, h, hw.app fun z hz => ⟨i, by simpa using hz, by omega, by omega⟩⟩
    · simp
      exact ⟨⟨by decide, by decide⟩, by omega, hw⟩
  · rintro e ⟨ws, j, x, rfl, h, hw⟩
    simp
    exact ⟨ws, rfl, by omega, hw⟩
theorem words2_sp (cs : List Addr) (n count : Int) (s : Sto) (h0 : 1 ≤ n) (h1 : n ≤ 40) (c0 : 1 ≤ count) (c1 : count ≤ 64) : Fn (m__law_words cs) [.tok, .d (.int n), .d (.int count)] s (fun r _ => ∃ ds, r.d = .list ds ∧ 1 ≤ ds.length ∧ ds.length ≤ 64 ∧ ∀ w ∈ ds, WordOk w) fun _ _ => False := by
  unfold m__law_words
  with_reducible refine Fn_of ?_
  unfold b__law_words
  simp
  refine wCall_val (masks_sp cs n count s h0 h1 c0 c1) fun r s1 ⟨ds, e1, e2, e3, e4⟩ => ?_
  rw [e1]
  simp
  refine wLcs_of (fun _ w => WordOk w) (sizeLine_le (by omega)) (fun d hd s2 => ?_) fun ys s2 hr => ?_
  · obtain ⟨k, rfl, _, _⟩ := e4 d hd
    simp [wipeE]
    refine wCall_lift (mask_word2 k n (by omega) (by omega)) fun r ⟨w, h, hw⟩ => ?_
    subst h
    simp [wipeE]
    exact hw
  · simp
    have := hr.len
    exact ⟨by omega, by omega, fun w hw => by obtain ⟨d, _, h⟩ := hr.all w hw; exact h⟩
theorem WordOk.pl {d : Mi.D} (h : WordOk d) : Pl 1 d := by
  obtain ⟨ds, rfl, h1, h2⟩ := h
  refine ⟨by omega, fun x hx => ?_⟩
  obtain ⟨k, rfl, _, _⟩ := h2 x hx
  trivial
theorem LI.szs {lo hi : Int} : ∀ {ds : List Mi.D}, LI lo hi ds → Mi.szs ds = ds.length
  | [], _ => rfl
  | d :: ds, h => by
    obtain ⟨k, rfl, _, _⟩ := h d List.mem_cons_self
    have := LI.szs (ds := ds) fun z hz => h z (List.mem_cons_of_mem _ hz)
    simp [Mi.szs, sz, this]
    omega
theorem WordOk.sz {d : Mi.D} (h : WordOk d) : Mi.sz d ≤ 41 := by
  obtain ⟨ds, rfl, h1, h2⟩ := h
  simp [Mi.sz, h2.szs]
  omega
end Mi
set_option maxHeartbeats 4000000
namespace Mi
open PySem PySem.Spec PyProof.Rows L2
theorem great_sp (cs : List Addr) (s : Sto) : Fn (m__law_great cs) [.tok] s (fun r _ => GI r) fun _ _ => False := by
  have last : ∀ (k : Int) (x : Slot) (s1 : Sto), k.natAbs < 10 ^ 120 → wp (sq (mIf (asB (m2 dEq (mCall 2 (m__law_take cs) (mTok 0 (mCons (rt (.int 2)) mNil))) (rt (.int 1)))) (mRet (m2 dSub (rt (.int 0)) (mV 1))) nop) (mRetV 1)) ⟨[.tok, .sh (.int k), x], s1⟩ (fnQ fun r _ => GI r) fun _ _ => False := fun k x s1 hk => by
    simp
    with_reducible refine wTake (by decide) (by decide) fun j s2 j0 j1 => ?_
    simp
    refine wIf_d (fun c => ?_) (fun c => ?_)
    · simp
      exact ⟨_, rfl, by omega⟩
    · simp
      exact ⟨_, rfl, by omega⟩
  unfold m__law_great
  with_reducible refine Fn_of ?_
  unfold b__law_great
  simp
  refine ⟨by unfold powOk CPow; decide, by unfold mulOk CMul CMulW; decide, ?_⟩
  with_reducible refine wTake (by decide) (by decide) fun j s1 j0 j1 => ?_
  simp
  refine wIf_d (fun c => ?_) (fun c => ?_)
  · simp
    with_reducible refine wTake (by decide) (by decide) fun a s2 a0 a1 => ?_
    simp
    with_reducible refine wTake (by decide) (by decide) fun b s3 b0 b1 => ?_
    simp
    refine ⟨small_of b0 (by omega), ?_⟩
    refine wLoop_rng (fun i e => ∃ (k : Int) (x : Slot) (s4 : Sto), e = ⟨[.tok, .sh (.int k), x], s4⟩ ∧ 0 ≤ k ∧ k < 10 ^ (9 * (i + 1))) ⟨_, _, _, rfl, by omega, by omega⟩ ?_ ?_
    · rintro i e hi ⟨k, x, s4, rfl, k0, k1⟩
      simp
      refine ⟨mulOk_small (by decide) (by decide), ?_⟩
      with_reducible refine wTake (by decide) (by decide) fun c s5 c0 c1 => ?_
      simp
      refine ⟨by omega, ?_⟩
      have e9 : (10 : Int) ^ (9 * (i + 1 + 1)) = 10 ^ (9 * (i + 1)) * 1000000000 := by
        rw [show 9 * (i + 1 + 1) = 9 * (i + 1) + 9 by omega, Int.pow_add]; rfl
      rw [e9]
      omega
    · rintro e ⟨k, x, s4, rfl, k0, k1⟩
      simp
      have hb : b.toNat ≤ 12 := by omega
      have h0 : (10 : Nat) ^ (9 * (b.toNat + 1)) ≤ 10 ^ 117 := Nat.pow_le_pow_right (by decide) (by omega)
      have h1 : (10 : Int) ^ (9 * (b.toNat + 1)) ≤ 10 ^ 117 := by exact_mod_cast h0
      have := last k x s4 (by
        have h2 : (10 : Int) ^ 117 < 10 ^ 120 := by decide
        have h3 : k < 10 ^ 120 := by omega
        have h4 : ((10 ^ 120 : Nat) : Int) = (10 : Int) ^ 120 := by decide
        omega)
      simpa using this
  · simp
    have := last (10 ^ 60 * 10 ^ 60 - 1) .un s1 (by decide)
    simpa using this
end Mi
set_option maxHeartbeats 4000000
namespace Mi
open PySem PySem.Spec PyProof.Rows L2
theorem no_number_sp (cs : List Addr) (s : Sto) : Fn (m__law_no_number cs) [.tok] s (fun r _ => ∃ k : Int, 0 ≤ k ∧ k < 5 ∧ r.d ∈ Menu k) fun _ _ => False := by
  unfold m__law_no_number
  with_reducible refine Fn_of ?_
  unfold b__law_no_number
  simp
  refine wTake (by decide) (by decide) fun k s1 k0 k1 => ?_
  have hk : k.natAbs.log2 < 1920 := by
    by_cases z : k.natAbs = 0
    · rw [z]; decide
    · have := (Nat.log2_lt z).mpr (show k.natAbs < 2 ^ 64 by omega)
      omega
  simp
  refine ⟨hk, sizeLine_le (by decide), sizeLine_le (by decide), sizeLine_le (by decide), ?_⟩
  refine wTake (by decide) (by decide) fun a s2 a0 a1 => ?_
  obtain ⟨y, _, y2, y3, _⟩ := ix_at (xs := Menu k) a0 a1
  have y4 := y3
  unfold Menu at y4
  simp [y4]
  exact ⟨k, k0, k1, y2⟩
end Mi
set_option maxHeartbeats 4000000
namespace Mi
open PySem PySem.Spec PyProof.Rows L2
/-- a value that stands for no number of lo..hi -/
def OutG (lo hi : Int) (d : Mi.D) : Prop := (∃ k : Int, d = .int k ∧ (k < lo ∨ hi < k)) ∨ ∃ k : Int, 0 ≤ k ∧ k < 5 ∧ d ∈ Menu k
theorem outside_g (cs : List Addr) (s : Sto) (lo hi : Int) : Fn (m__law_outside cs) [.tok, .d (.int lo), .d (.int hi)] s (fun r _ => OutG lo hi r.d) fun _ _ => False := by
  unfold m__law_outside
  with_reducible refine Fn_of ?_
  unfold b__law_outside
  simp
  refine wTake (by decide) (by decide) fun j s1 j0 j1 => ?_
  simp
  refine wIf_d (fun c => ?_) (fun c => ?_)
  · simp
    exact .inl ⟨_, rfl, by omega⟩
  simp
  refine wIf_d (fun c => ?_) (fun c => ?_)
  · simp
    exact .inl ⟨_, rfl, by omega⟩
  simp
  refine wIf_d (fun c => ?_) (fun c => ?_)
  · simp
    refine wTake (by decide) (by decide) fun a s2 a0 a1 => ?_
    simp
    exact .inl ⟨_, rfl, by omega⟩
  simp
  refine wIf_d (fun c => ?_) (fun c => ?_)
  · simp
    refine wCall_val (great_sp cs s1) fun r s2 ⟨k, h1, h2⟩ => ?_
    subst h1
    simp
    refine wIf_d (fun c => ?_) (fun c => ?_)
    · simp
      exact .inl ⟨k, rfl, by omega⟩
    · simp
      refine wIf_d (fun c2 => ?_) (fun c2 => ?_)
      · simp
        exact .inl ⟨k, rfl, by omega⟩
      · simp
        exact .inl ⟨_, rfl, by omega⟩
  simp
  refine wCall_val (no_number_sp cs s1) fun r s2 h => ?_
  simp
  exact .inr h
theorem menu_fine {d : Mi.D} {k : Int} (h0 : 0 ≤ k) (h1 : k < 5) (h2 : d ∈ Menu k) : fineB d = true := by
  have := List.all_eq_true.mp fine_menu k.toNat (List.mem_range.mpr (by omega))
  have e : ((k.toNat : Nat) : Int) = k := by omega
  simp only [e] at this
  exact List.all_eq_true.mp this d h2
theorem fine_out {d : Mi.D} (h : fineB d = true) : noDict d ∧ (∀ lo hi, inR d lo hi = false) ∧ (∀ n, idxOf d n = false) ∧ Pl 29 d ∧ sz d ≤ 20 := by
  simp only [fineB, Bool.and_eq_true, decide_eq_true_eq] at h
  obtain ⟨⟨⟨_, h2⟩, h3⟩, h4⟩ := h
  refine ⟨?_, fun lo hi => ?_, fun n => ?_, plB_of _ _ h3, h4⟩
  · cases d <;> first | trivial | cases h2
  · cases d <;> first | rfl | cases h2
  · cases d <;> first | rfl | cases h2
/-- what is asked of a value that is refused -/
structure Ref (lo hi : Int) (d : Mi.D) : Prop where
  nd : noDict d
  inr : inR d lo hi = false
  pl : Pl 29 d
  sz : sz d ≤ 20
theorem OutG.ref {lo hi : Int} {d : Mi.D} (h : OutG lo hi d) : Ref lo hi d := by
  rcases h with ⟨k, rfl, hk⟩ | ⟨k, k0, k1, h⟩
  · exact ⟨trivial, by simp [inR]; omega, trivial, by simp [Mi.sz]⟩
  · obtain ⟨a, b, _, c, e⟩ := fine_out (menu_fine k0 k1 h)
    exact ⟨a, b _ _, c, e⟩
theorem Ref.idx {n : Int} {d : Mi.D} (h : Ref 0 (n - 1) d) : idxOf d n = false := by
  have := h.inr
  cases d with
  | int k => simp [inR] at this; simp [idxOf]; omega
  | _ => rfl
end Mi
set_option maxHeartbeats 4000000
namespace Mi
open PySem PySem.Spec PyProof.Rows L2
theorem outside_r (cs : List Addr) (s : Sto) (lo hi : Int) (l0 : lo.natAbs < 10 ^ 120) (h0 : hi.natAbs < 10 ^ 120) : Fn (m__law_outside cs) [.tok, .d (.int lo), .d (.int hi)] s (fun r _ => OutG lo hi r.d ∧ RepOk r.d) fun _ _ => False := by
  unfold m__law_outside
  with_reducible refine Fn_of ?_
  unfold b__law_outside
  simp
  refine wTake (by decide) (by decide) fun j s1 j0 j1 => ?_
  simp
  refine wIf_d (fun c => ?_) (fun c => ?_)
  · simp
    exact ⟨.inl ⟨_, rfl, by omega⟩, repr_int (by omega)⟩
  simp
  refine wIf_d (fun c => ?_) (fun c => ?_)
  · simp
    exact ⟨.inl ⟨_, rfl, by omega⟩, repr_int (by omega)⟩
  simp
  refine wIf_d (fun c => ?_) (fun c => ?_)
  · simp
    refine wTake (by decide) (by decide) fun a s2 a0 a1 => ?_
    simp
    exact ⟨.inl ⟨_, rfl, by omega⟩, repr_int (by omega)⟩
  simp
  refine wIf_d (fun c => ?_) (fun c => ?_)
  · simp
    refine wCall_val (great_sp cs s1) fun r s2 ⟨k, h1, h2⟩ => ?_
    subst h1
    simp
    refine wIf_d (fun c => ?_) (fun c => ?_)
    · simp
      exact ⟨.inl ⟨k, rfl, by omega⟩, repr_int (by omega)⟩
    · simp
      refine wIf_d (fun c2 => ?_) (fun c2 => ?_)
      · simp
        exact ⟨.inl ⟨k, rfl, by omega⟩, repr_int (by omega)⟩
      · simp
        exact ⟨.inl ⟨_, rfl, by omega⟩, repr_int (by omega)⟩
  simp
  refine wCall_val (no_number_sp cs s1) fun r s2 ⟨k, k0, k1, h⟩ => ?_
  simp
  exact ⟨.inr ⟨k, k0, k1, h⟩, menu_rep k0 k1 h⟩
end Mi
set_option maxHeartbeats 4000000
namespace Mi
open PySem PySem.Spec PyProof.Rows L2
theorem number_sp (cs : List Addr) (lo hi : Int) (s : Sto) (h : lo ≤ hi) (h1 : hi - lo < 2 ^ 60) : Fn (m__law_number cs) [.tok, .d (.int lo), .d (.int hi)] s (fun r _ => RI lo (hi + 1) r) fun _ _ => False := by
  unfold m__law_number
  with_reducible refine Fn_of ?_
  unfold b__law_number
  simp
  refine wIf_d (fun c => ?_) (fun c => ?_)
  · simp
    exact ⟨lo, rfl, by omega, by omega⟩
  · simp
    with_reducible refine wTake (by decide) (by decide) fun j s1 j0 j1 => ?_
    simp
    refine wIf_d (fun c1 => ?_) (fun c1 => ?_)
    · simp
      exact ⟨lo, rfl, by omega, by omega⟩
    · simp
      refine wIf_d (fun c2 => ?_) (fun c2 => ?_)
      · simp
        exact ⟨hi, rfl, by omega, by omega⟩
      · simp
        with_reducible refine wTake (by omega) (by omega) fun j s1 j0 j1 => ?_
        simp
        exact ⟨_, rfl, by omega, by omega⟩
end Mi
set_option maxHeartbeats 4000000
namespace Mi
open PySem PySem.Spec PyProof.Rows L2
theorem nodup_le : ∀ (l m : List Nat), l.Nodup → (∀ a ∈ l, a ∈ m) → l.length ≤ m.length
  | [], _, _, _ => Nat.zero_le _
  | a :: r, m, hn, h => by
    obtain ⟨h1, h2⟩ := List.nodup_cons.mp hn
    have ha := h a List.mem_cons_self
    have := nodup_le r (m.erase a) h2 fun b hb => by
      have hne : b ≠ a := fun z => h1 (z ▸ hb)
      exact (List.mem_erase_of_ne hne).mpr (h b (List.mem_cons_of_mem _ hb))
    rw [List.length_erase_of_mem ha] at this
    have hp : 0 < m.length := List.length_pos_of_mem ha
    simp only [List.length_cons]
    omega
theorem mod_inj {a h i j : Nat} (hi : i < h) (hj : j < h) (e : (a + i) % h = (a + j) % h) : i = j := by
  have h1 := Nat.div_add_mod (a + i) h
  have h2 := Nat.div_add_mod (a + j) h
  rw [e] at h1
  rcases Nat.lt_trichotomy ((a + i) / h) ((a + j) / h) with q | q | q
  · have := Nat.mul_le_mul_left h (show (a + i) / h + 1 ≤ (a + j) / h from q)
    rw [Nat.mul_add] at this
    omega
  · rw [q] at h1; omega
  · have := Nat.mul_le_mul_left h (show (a + j) / h + 1 ≤ (a + i) / h from q)
    rw [Nat.mul_add] at this
    omega
/-- all that is met lies in l, so the next one does not -/
theorem pigeon {l : List Nat} {a h : Nat} (hl : l.length < h) (hm : ∀ i, i < l.length → (a + i) % h ∈ l) : (a + l.length) % h ∉ l := fun hx => by
  suffices hh : ((List.range (l.length + 1)).map fun i => (a + i) % h).length ≤ l.length by
    simp at hh
    omega
  refine nodup_le _ l ?_ ?_
  · rw [List.nodup_iff_pairwise_ne, List.pairwise_map]
    refine List.Pairwise.imp_of_mem ?_ (List.nodup_iff_pairwise_ne.mp List.nodup_range)
    intro x y hx' hy' hne e
    exact hne (mod_inj (by have := List.mem_range.mp hx'; omega) (by have := List.mem_range.mp hy'; omega) e)
  · intro b hb
    obtain ⟨i, hi, rfl⟩ := List.mem_map.mp hb
    have hi2 := List.mem_range.mp hi
    rcases Nat.lt_or_ge i l.length with h1 | h1
    · exact hm i h1
    · have : i = l.length := by omega
      subst this
      exact hx
end Mi
set_option maxHeartbeats 4000000
namespace Mi
open PySem PySem.Spec PyProof.Rows L2
theorem shaped_intsD (l : List Nat) : SeqAt.shaped (.list (intsD l)) = true := shaped_LI (lo := 0) (hi := (l.foldl max 0 : Nat) + 1) (fun d hd => by
  unfold intsD at hd
  obtain ⟨a, ha, rfl⟩ := List.mem_map.mp hd
  refine ⟨_, rfl, by omega, ?_⟩
  have : ∀ (l : List Nat) (b : Nat), b ≤ l.foldl max b ∧ ∀ x ∈ l, x ≤ l.foldl max b := fun l => by
    induction l with
    | nil => intro b; exact ⟨Nat.le_refl _, fun _ h => nomatch h⟩
    | cons y r ih =>
      intro b
      obtain ⟨i1, i2⟩ := ih (max b y)
      refine ⟨by simp only [List.foldl_cons]; omega, fun x hx => ?_⟩
      simp only [List.foldl_cons]
      rcases List.mem_cons.mp hx with rfl | hx
      · omega
      · exact i2 x hx
  have := (this l 0).2 a ha
  omega)
theorem any_intsD (l : List Nat) (c : Nat) : ((intsD l).any fun z => PyData.eqv z (.int (c : Nat))) = decide (c ∈ l) := by
  induction l with
  | nil => rfl
  | cons a r ih =>
    show (PyData.eqv (.int (a : Nat)) (.int (c : Nat)) || (intsD r).any _) = _
    rw [ih, eqv_i]
    by_cases h : a = c
    · subst h; simp
    · have : ¬ ((a : Int) = (c : Int)) := by omega
      have h2 : ¬ c = a := fun z => h z.symm
      simp [this, h2]
theorem notIn_intsD (l : List Nat) (c : Nat) : dNotInO (.int (c : Nat)) (intsD l) = some (.bool (!decide (c ∈ l))) := by
  unfold dNotInO dNotIn
  dsimp only
  rw [if_pos ⟨rfl, shaped_intsD l⟩, any_intsD]
def IUn (h k : Int) (i : Nat) (e : En Sto) : Prop := ∃ (l : List Nat) (x4 x5 x6 : Slot) (s : Sto), e = ⟨[.tok, .sh (.int h), .sh (.int k), .ow (intsD l), x4, x5, x6], s⟩ ∧ l.length = i ∧ l.Nodup ∧ ∀ a ∈ l, (a : Int) < h
def IUn2 (h k : Int) (l : List Nat) (i c : Nat) (s : Sto) (j : Nat) (e : En Sto) : Prop := ∃ (x6 : Slot) (b : Nat), e = ⟨[.tok, .sh (.int h), .sh (.int k), .ow (intsD l), .sh (.int (i : Nat)), .sh (.int (b : Nat)), x6], s⟩ ∧ b = (c + j) % h.toNat ∧ ∀ t, t < j → (c + t) % h.toNat ∈ l
theorem unlike_sp (cs : List Addr) (s : Sto) (h k : Int) (h0 : 1 ≤ h) (h1 : h ≤ 1000) (k0 : 0 ≤ k) : Fn (m__law_unlike cs) [.tok, .d (.int h), .d (.int k)] s (fun r _ => ∃ l : List Nat, r = .fr (intsD l) ∧ l.length = min k.toNat h.toNat ∧ l.Nodup ∧ ∀ a ∈ l, (a : Int) < h) fun _ _ => False := by
  unfold m__law_unlike
  with_reducible refine Fn_of ?_
  unfold b__law_unlike
  simp
  obtain ⟨m, hm⟩ : ∃ m : Int, m = if h < k then h else k := ⟨_, rfl⟩
  rw [← hm]
  have m0 : 0 ≤ m := by rw [hm]; split <;> omega
  have m1 : m.toNat = min k.toNat h.toNat := by rw [hm]; split <;> omega
  refine ⟨small_of m0 (by omega), ?_⟩
  refine wLoop_rng (IUn h k) ⟨[], _, _, _, _, rfl, rfl, List.nodup_nil, fun _ z => nomatch z⟩ ?_ ?_
  · rintro i e hi ⟨l, x4, x5, x6, s2, rfl, hl, hn, hb⟩
    have fin : ∀ (x4 x6 : Slot) (c : Nat) (s3 : Sto), c ∉ l → (c : Int) < h → (intsD l).length < sizeLine ∧ IUn h k (i + 1) ⟨[.tok, .sh (.int h), .sh (.int k), .ow (intsD l ++ [.int (c : Nat)]), x4, .sh (.int (c : Nat)), x6], s3⟩ := fun x4 x6 c s3 c1 c2 => by
      refine ⟨by rw [intsD_len]; exact sizeLine_big (by omega), l ++ [c], _, _, _, _, by rw [intsD_app]; rfl, by simp [hl], ?_, fun a ha => ?_⟩
      · rw [List.nodup_append]
        exact ⟨hn, List.nodup_cons.mpr ⟨List.not_mem_nil, List.nodup_nil⟩, fun a ha b hb2 => by simp at hb2; subst hb2; exact fun z => c1 (z ▸ ha)⟩
      · rcases List.mem_append.mp ha with h | h
        · exact hb a h
        · simp at h; subst h; exact c2
    simp
    refine wTake (by omega) (by omega) fun a s3 a0 a1 => ?_
    obtain ⟨c, rfl⟩ : ∃ c : Nat, a = c := ⟨a.toNat, by omega⟩
    simp [intsD_len]
    refine ⟨small_of (by omega) (by omega), ?_⟩
    refine wLoop_rng (IUn2 h k l i c s3) ⟨_, c, rfl, by rw [Nat.add_zero, Nat.mod_eq_of_lt (by omega)], fun t ht => by omega⟩ ?_ ?_
    · rintro j e hj ⟨x6, b, rfl, hb2, ht⟩
      simp [notIn_intsD]
      refine wIf_of (fun q => ?_) (fun q => ?_)
      · have q2 : b ∉ l := by simpa using q
        simp
        exact fin _ _ b s3 q2 (by have := Nat.mod_lt (c + j) (show 0 < h.toNat by omega); omega)
      · have q2 : b ∈ l := by simpa using q
        simp
        have e1 : ((b : Int) + 1) % h = (((b + 1) % h.toNat : Nat) : Int) := by
          rw [Int.natCast_emod]
          congr 1
          omega
        rw [e1]
        refine ⟨by omega, _, (b + 1) % h.toNat, rfl, ?_, fun t h3 => ?_⟩
        · rw [hb2, Nat.mod_add_mod]; rfl
        · rcases Nat.lt_or_ge t j with h4 | h4
          · exact ht t h4
          · have : t = j := by omega
            subst this
            rw [← hb2]; exact q2
    · rintro e ⟨x6, b, rfl, hb2, ht⟩
      have hL : l.length < h.toNat := by
        have : i < m.toNat := hi
        omega
      have q2 : b ∉ l := by rw [hb2]; exact pigeon hL ht
      simp
      exact fin _ _ b s3 q2 (by have := Nat.mod_lt (c + l.length) (show 0 < h.toNat by omega); omega)
  · rintro e ⟨l, x4, x5, x6, s2, rfl, hl, hn, hb⟩
    simp
    exact ⟨l, rfl, by omega, hn, hb⟩
end Mi
set_option maxHeartbeats 4000000
namespace Mi
open PySem PySem.Spec PyProof.Rows L2
structure Ent (x : Mi.D) : Prop where
  nd : noDict x
  pl : Pl 29 x
  sz : sz x ≤ 20
  rep : RepOk x
theorem Ent.of {lo hi : Int} {x : Mi.D} (h : OutG lo hi x) (r : RepOk x) : Ent x := by
  have := h.ref
  exact ⟨this.nd, this.pl, this.sz, r⟩
theorem Ent.int {k : Int} (h : k.natAbs < 10 ^ 130) : Ent (.int k) := ⟨trivial, trivial, by simp [Mi.sz], repr_int h⟩
theorem ent_szs : ∀ {xs : List Mi.D}, (∀ x ∈ xs, Ent x) → szs xs ≤ 20 * xs.length
  | [], _ => Nat.zero_le _
  | x :: r, h => by
    have h1 := (h x List.mem_cons_self).sz
    have h2 := ent_szs (xs := r) fun z hz => h z (List.mem_cons_of_mem _ hz)
    simp only [szs, List.length_cons]
    omega
theorem parted_sp (p due : Mi.D) (xs : List Mi.D) (h1 : Fn m__law_asked [.d p, .d (.list xs)] () (fun r _ => r = .sh due) fun _ _ => False) (h2 : Fn m__law_asked [.d p, .d (.tuple xs)] () (fun r _ => r = .sh due) fun _ _ => False) (h3 : Fn m__law_due [.d p, .d (.list xs)] () (fun r _ => r = .sh due) fun _ _ => False)
    (hd : ∃ n, Pl n due) (hz : sz due < 900000) (hx : ∀ x ∈ xs, Ent x) (hl : xs.length ≤ 1000) : Fn m__law_parted [.d p, .d (.list xs)] () (fun r _ => r = .sh (.bool true)) fun _ _ => False := by
  obtain ⟨t, g1, g2⟩ := repr_list (fun x h => (hx x h).rep) hl
  unfold m__law_parted
  with_reducible refine Fn_of ?_
  unfold b__law_parted
  simp [g1]
  refine wCall_val h3 fun r s1 e => ?_
  subst e
  simp
  refine wCall_val h1 fun r s1 e => ?_
  subst e
  simp
  refine wCall_val (same_sp due hd hz) fun r s1 e => ?_
  subst e
  simp [g1, dNe_str g2]
  refine wCall_val h2 fun r s1 e => ?_
  subst e
  simp
  refine wCall_val (same_sp due hd hz) fun r s1 e => ?_
  subst e
  simp
theorem pl_ref {c : String} {d : Mi.D} (h : Pl 29 d) : ∃ n, Pl n (refD c d) := ⟨30, by show 4 ≤ 1000; decide, fun x hx => by
  simp at hx
  rcases hx with rfl | rfl | rfl | rfl
  · exact strOk_of _
  · exact strOk_of _
  · exact h
  · trivial⟩
theorem Pl.up {n : Nat} : ∀ {d : Mi.D}, Pl n d → Pl (n + 1) d := by
  induction n with
  | zero =>
    intro d h
    cases d <;> first | exact h.elim | exact h | trivial
  | succ n ih =>
    intro d h
    cases d with
    | list xs => exact ⟨h.1, fun x hx => ih (h.2 x hx)⟩
    | tuple xs => exact ⟨h.1, fun x hx => ih (h.2 x hx)⟩
    | _ => first | exact h.elim | exact h | trivial
theorem book_pl {n : Mi.D} {ws : List Mi.D} (hn : Pl 3 n) (hw : ∀ w ∈ ws, WordOk w) (hl : ws.length ≤ 1000) : Pl 5 (bookD n ws) := by
  refine ⟨by show 2 ≤ 1000; decide, fun x hx => ?_⟩
  simp at hx
  rcases hx with rfl | rfl
  · exact hn.up
  · refine ⟨by show 1 ≤ 1000; decide, fun y hy => ?_⟩
    simp at hy
    subst hy
    refine ⟨by rw [List.length_map]; exact hl, fun z hz => ?_⟩
    obtain ⟨w, hw1, rfl⟩ := List.mem_map.mp hz
    refine ⟨by show 2 ≤ 1000; decide, fun y hy => ?_⟩
    simp at hy
    rcases hy with rfl | rfl
    · exact (hw _ hw1).pl
    · trivial
theorem book_sz {n : Mi.D} {ws : List Mi.D} (hn : sz n = 1) (hw : ∀ w ∈ ws, WordOk w) : sz (bookD n ws) ≤ 4 + 43 * ws.length := by
  have main : ∀ ws : List Mi.D, (∀ w ∈ ws, WordOk w) → szs (ws.map fun w => PyData.tuple [w, .int 0]) ≤ 43 * ws.length := fun ws => by
    induction ws with
    | nil => intro _; exact Nat.zero_le _
    | cons w r ih =>
      intro h
      have h1 := (h w List.mem_cons_self).sz
      have h2 := ih fun z hz => h z (List.mem_cons_of_mem _ hz)
      simp only [List.map_cons, szs, sz, List.length_cons]
      omega
  have := main ws hw
  simp [bookD, sz, szs, hn]
  omega
theorem pick_words {ws : List Mi.D} (hw : ∀ w ∈ ws, WordOk w) {ks : List Nat} (hk : ∀ k ∈ ks, k < ws.length) : ∀ w ∈ pick ws ks, WordOk w := fun w h => by
  unfold pick at h
  obtain ⟨k, h1, rfl⟩ := List.mem_map.mp h
  have h2 := hk k h1
  rw [List.getD_eq_getElem?_getD, List.getElem?_eq_getElem h2]
  exact hw _ (List.getElem_mem h2)
theorem scan_ok (n : Nat) : ∀ (xs : List Mi.D) (done ks : List Nat), scan n done xs = .ok ks → (∀ k ∈ done, k < n) → (∀ k ∈ ks, k < n) ∧ ks.length = done.length + xs.length
  | [], done, ks, h, hd => by
    rw [scan_nil] at h
    split at h
    · cases h
    · cases h; exact ⟨hd, by simp⟩
  | x :: r, done, ks, h, hd => by
    rw [scan_cons] at h
    cases q : natOf n x with
    | none => rw [q] at h; cases h
    | some k =>
      rw [q] at h
      dsimp only at h
      split at h
      · cases h
      · obtain ⟨a, b⟩ := scan_ok n r (done ++ [k]) ks h fun z hz => by
          rcases List.mem_append.mp hz with h1 | h1
          · exact hd z h1
          · simp at h1; subst h1; exact (natOf_some q).2
        exact ⟨a, by simp at b ⊢; omega⟩
theorem due_pl {n : Mi.D} {ws : List Mi.D} (hn : Pl 3 n) (hn1 : sz n = 1) (hw : ∀ w ∈ ws, WordOk w) {xs : List Mi.D} (hl : xs.length ≤ 1000) : (∃ m, Pl m (dueD n ws (scan ws.length [] xs))) ∧ sz (dueD n ws (scan ws.length [] xs)) < 900000 := by
  cases h : scan ws.length [] xs with
  | bad p => exact ⟨pl_ref trivial, by simp [dueD, refD, sz, szs]⟩
  | dbl q => exact ⟨⟨30, by show 5 ≤ 1000; decide, fun x hx => by
      simp at hx
      rcases hx with rfl | rfl | rfl | rfl | rfl
      · exact strOk_of _
      · exact strOk_of _
      · trivial
      · trivial
      · trivial⟩, by simp [dueD, dblD, sz, szs]⟩
  | nil => exact ⟨pl_ref trivial, by simp [dueD, refD, sz, szs]⟩
  | ok ks =>
    obtain ⟨a, b⟩ := scan_ok _ _ _ _ h (fun _ z => nomatch z)
    have hp := pick_words hw a
    have hl2 : (pick ws ks).length ≤ 1000 := by unfold pick; rw [List.length_map]; simp at b; omega
    have h3 := book_sz hn1 hp
    refine ⟨⟨6, by show 2 ≤ 1000; decide, fun x hx => ?_⟩, ?_⟩
    · simp at hx
      rcases hx with rfl | rfl
      · exact strOk_of _
      · exact book_pl hn hp hl2
    · simp [dueD, toldD, sz, szs]
      omega
def INum (k f : Int) (i : Nat) (e : En Sto) : Prop := ∃ (xs : List Mi.D) (x4 x5 : Slot) (s : Sto), e = ⟨[.tok, .sh (.int k), .sh (.int f), .ow xs, x4, x5], s⟩ ∧ xs.length ≤ 70 + i ∧ ∀ x ∈ xs, Ent x
theorem numbers_sp (cs : List Addr) (s : Sto) (k f : Int) (k0 : 1 ≤ k) (k1 : k ≤ 64) (f0 : 0 ≤ f) (f1 : f ≤ 10) : Fn (m__law_numbers cs) [.tok, .d (.int k), .d (.int f)] s (fun r _ => ∃ xs, r.d = .list xs ∧ xs.length ≤ 100 ∧ ∀ x ∈ xs, Ent x) fun _ _ => False := by
  unfold m__law_numbers
  with_reducible refine Fn_of ?_
  unfold b__law_numbers
  simp
  refine wCall_val (number_sp cs 0 k s (by omega) (by omega)) fun r s1 ⟨m, h1, h2, h3⟩ => ?_
  subst h1
  simp
  refine wCallF_val (unlike_sp cs s1 k m (by omega) (by omega) h2) fun r s2 ⟨l, h4, h5, h6, h7⟩ => ⟨_, h4, ?_⟩
  simp
  refine ⟨small_of f0 (by omega), ?_⟩
  refine wLoop_rng (INum k f) ⟨intsD l, _, _, _, rfl, by rw [intsD_len, h5]; omega, fun x hx => by
    unfold intsD at hx
    obtain ⟨a, ha, rfl⟩ := List.mem_map.mp hx
    have := h7 a ha
    exact Ent.int (by omega)⟩ ?_ ?_
  · rintro i e hi ⟨xs, x4, x5, s3, rfl, hl, hx⟩
    have fin : ∀ (x : Mi.D) (a : Int) (x4 : Slot) (s4 : Sto), Ent x → INum k f (i + 1) ⟨[.tok, .sh (.int k), .sh (.int f), .ow (xs.take a.toNat ++ x :: xs.drop a.toNat), x4, .sh (.int a)], s4⟩ := fun x a x4 s4 he => by
      refine ⟨_, _, _, _, rfl, ?_, fun y hy => ?_⟩
      · rw [List.length_append, List.length_cons, List.length_take, List.length_drop]; omega
      · rcases List.mem_append.mp hy with h | h
        · exact hx y (List.mem_of_mem_take h)
        · rcases List.mem_cons.mp h with h | h
          · rw [h]; exact he
          · exact hx y (List.mem_of_mem_drop h)
    simp
    refine wTake (by omega) (by omega) fun a s4 a0 a1 => ?_
    have hz : xs.length < sizeLine := sizeLine_big (by omega)
    have ha : a < 2 ^ 63 := by omega
    have out : ∀ (x4 : Slot) (s5 : Sto), wp (mDrop (mMeth 3 gInsert (mCons (mV 5) (mCons (mCall 3 (m__law_outside cs) (mTok 0 (mCons (rt (.int 0)) (mCons (m2 dSub (mV 1) (rt (.int 1))) mNil)))) mNil)))) ⟨[.tok, .sh (.int k), .sh (.int f), .ow xs, x4, .sh (.int a)], s5⟩ (loopQ (INum k f (i + 1)) (seqQ (mRetV 3) (fnQ fun r _ => ∃ xs, r.d = .list xs ∧ xs.length ≤ 100 ∧ ∀ x ∈ xs, Ent x) fun _ _ => False)) fun _ _ => False := fun x4 s5 => by
      simp
      refine wCall_val (outside_r cs s5 0 (k - 1) (by decide) (by omega)) fun r s6 ⟨o1, o2⟩ => ?_
      simp
      exact ⟨⟨hz, a0, ha⟩, fin _ a _ _ (Ent.of o1 o2)⟩
    simp
    refine wIf_d (fun c => ?_) (fun c => ?_)
    · simp
      refine wTake (by decide) (by decide) fun b s5 b0 b1 => ?_
      simp
      refine wIf_d (fun c2 => ?_) (fun c2 => ?_)
      · simp
        refine wTake (by omega) (by omega) fun d s6 d0 d1 => ?_
        obtain ⟨y, _, y2, y3, _⟩ := ix_at (xs := xs) d0 (by omega)
        simp [y3]
        exact ⟨⟨hz, a0, ha⟩, fin _ a _ _ (hx y y2)⟩
      · simpa using out _ s5
    · simpa using out _ s4
  · rintro e ⟨xs, x4, x5, s3, rfl, hl, hx⟩
    simp
    exact ⟨by omega, hx⟩
end Mi
set_option maxHeartbeats 4000000
namespace Mi
open PySem PySem.Spec PyProof.Rows L2
theorem order_sp (cs : List Addr) (k : Int) (s : Sto) (h0 : 0 ≤ k) (h1 : k ≤ 1000) : Fn (m__law_order cs) [.tok, .d (.int k)] s (fun r _ => OrdR k.toNat r) fun _ _ => False := by
  unfold m__law_order
  with_reducible refine Fn_of ?_
  unfold b__law_order
  simp
  refine ⟨⟨by omega, by omega, by omega, by omega, by omega⟩, ?_⟩
  with_reducible refine wTake (by decide) (by decide) fun j s1 j0 j1 => ?_
  simp
  refine wIf_d (fun c => ?_) (fun c => ?_)
  · simp
    exact ⟨_, rfl, rngD_len _ _, LI.rng _⟩
  simp
  refine ⟨small_of (by omega) (by omega), ?_⟩
  refine wLoop_rng (fun i e => ∃ (pool found : List Mi.D) (x y : Slot) (s2 : Sto), e = ⟨[.tok, .sh (.int k), .ow pool, .sh (.int j), .ow found, x, y], s2⟩ ∧ pool.length + i = k.toNat ∧ found.length = i ∧ LI 0 k.toNat pool ∧ LI 0 k.toNat found)
    ⟨_, _, _, _, _, rfl, rngD_len _ _, rfl, LI.rng _, fun _ z => (nomatch z)⟩ ?_ ?_
  · rintro i e hi ⟨pool, found, x, y, s2, rfl, h1, h2, h3, h4⟩
    have fin : ∀ (Q : Fl → En Sto → Prop) (a : Int) (s3 : Sto) (y : Slot), 0 ≤ a → a < pool.length → wp (mDrop (mMeth 4 gAppend (mCons (mMeth 2 gPopAt (mCons (mV 6) mNil)) mNil))) ⟨[.tok, .sh (.int k), .ow pool, .sh (.int j), .ow found, y, .sh (.int a)], s3⟩
        (loopQ (fun e => ∃ (pool found : List Mi.D) (x y : Slot) (s2 : Sto), e = ⟨[.tok, .sh (.int k), .ow pool, .sh (.int j), .ow found, x, y], s2⟩ ∧ pool.length + (i + 1) = k.toNat ∧ found.length = i + 1 ∧ LI 0 k.toNat pool ∧ LI 0 k.toNat found) Q) (fun _ _ => False) := fun Q a s3 y a0 a1 => by
      obtain ⟨d, hd, hp⟩ := popAt_ok a0 a1 (by omega)
      simp only [wp_mDrop, wp_mMeth, List.getElem?_cons_succ, List.getElem?_cons_zero, wW_ow, kMt1_e, wp_mCons, wp_mV, wV_sh, kCns_e, wp_mNil, kCns2_e, kMt2_e, kMt3_e, hp, wO_some, kMt4_e, List.set_cons_succ, List.set_cons_zero, gAppend_d]
      rw [if_pos (sizeLine_big (by omega))]
      refine ⟨_, _, _, _, _, rfl, ?_, ?_, h3.erase, h4.app fun z hz => ?_⟩
      · rw [List.length_eraseIdx, if_pos (by omega)]; omega
      · simp [h2]
      · have : z = d := by simpa using hz
        subst this
        exact h3 _ hd
    simp
    refine wIf_d (fun c => ?_) (fun c => ?_)
    · simp
      with_reducible refine wTake (by omega) (by omega) fun a s3 a0 a1 => ?_
      simpa using fin _ a s3 _ a0 a1
    · simpa using fin _ (pool.length - 1) s2 _ (by omega) (by omega)
  · rintro e ⟨pool, found, x, y, s2, rfl, h1, h2, h3, h4⟩
    simp
    exact ⟨_, rfl, h2, h4⟩
end Mi
set_option maxHeartbeats 4000000
namespace Mi
open PySem PySem.Spec PyProof.Rows L2
def IPl (n c cap : Int) (ring fl : List Mi.D) (i : Nat) (e : En Sto) : Prop := ∃ (st : List Mi.D) (x7 x9 x10 x11 x12 x13 x14 x15 : Slot) (s3 : Sto), e = ⟨[.tok, .sh (.int n), .sh (.bool false), .sh (.int c), .sh (.int cap), .sh (.list ring), .ow fl, x7, .ow st, x9, x10, x11, x12, x13, x14, x15], s3⟩ ∧ st.length = i ∧ ∀ x ∈ st, RowOk c x
theorem lplan_sp (cs : List Addr) (n c cap : Int) (s : Sto) (h0 : 1 ≤ n) (h1 : n ≤ 40) (z0 : 1 ≤ c) (z1 : c ≤ 12) (p0 : 1 ≤ cap) (p1 : cap ≤ 60) : Fn (m__law_plan cs) [.tok, .d (.int n), .d (.bool false), .d (.int c), .d (.int cap)] s (fun r _ => ∃ st : List Mi.D, r = .sh (.tuple [.int n, .tuple st]) ∧ st.length = c.toNat ∧ ∀ x ∈ st, RowOk c x) fun _ _ => False := by
  unfold m__law_plan
  with_reducible refine Fn_of ?_
  unfold b__law_plan
  simp
  refine ⟨sizeLine_le (by decide), ?_⟩
  refine wCall_val (order_sp cs (c - 1) s (by omega) (by omega)) fun r s1 ⟨os, e1, e2, e3⟩ => ?_
  rw [e1]
  simp
  refine wLcs_of (fun _ y => ∃ k : Int, y = .int k ∧ 1 ≤ k ∧ k < c) (sizeLine_le (by omega)) (fun d hd s2 => ?_) fun ys s2 hr => ?_
  · obtain ⟨k, rfl, k0, k1⟩ := e3 d hd
    simp [wipeE]
    exact ⟨by omega, by omega⟩
  have hlen := hr.len
  have hys : LI 0 c ys := fun y hy => by
    obtain ⟨d, _, k, h1, h2, h3⟩ := hr.all y hy
    exact ⟨k, h1, by omega, h3⟩
  obtain ⟨ring, hrg⟩ : ∃ ring : List Mi.D, ring = [.int 0] ++ ys := ⟨_, rfl⟩
  have hrl : ring.length = c.toNat := by rw [hrg]; simp; omega
  have hr0 : LI 0 c ring := by
    rw [hrg]
    exact LI.app (fun z hz => ⟨0, by simpa using hz, by omega, by omega⟩) hys
  have hr1 : ring = .int 0 :: ys := hrg
  simp [resE, wipeE, keepS]
  rw [← hr1]
  refine ⟨sizeLine_le (by omega), sizeLine_le (by decide), repOk_of (by omega) (by omega) (by decide), small_of (by omega) (by omega), ?_⟩
  refine wLoop_rng (fun i e => ∃ (fl : List Mi.D) (x7 : Slot), e = ⟨[.tok, .sh (.int n), .sh (.bool false), .sh (.int c), .sh (.int cap), .sh (.list ring), .ow fl, x7, .un, .un, .un, .un, .un, .un, .un, .un], s2⟩ ∧ fl.length = c.toNat ∧ LI 0 c fl)
    ⟨_, _, rfl, by simp, LI.rep (by omega) (by omega)⟩ ?_ ?_
  · rintro i e hi ⟨fl, x6, rfl, hfl, hf⟩
    have m0 := Int.emod_nonneg ((i : Int) + 1) (show c ≠ 0 by omega)
    have m1 := Int.emod_lt_of_pos ((i : Int) + 1) (show 0 < c by omega)
    obtain ⟨k, hk, k0, k1⟩ := hr0.at (i := ((i : Int) + 1) % c) m0 (by omega)
    obtain ⟨j, hj, j0, j1⟩ := hr0.at (i := (i : Int)) (by omega) (by omega)
    simp [hk, hj]
    refine ⟨by omega, ?_⟩
    simp [ixN_at (n := fl.length) (i := j) j0 (by omega)]
    exact ⟨hfl, hf.set k0 k1⟩
  rintro e ⟨fl, x6, rfl, hfl, hf⟩
  simp
  refine ⟨small_of (by omega) (by omega), ?_⟩
  refine wLoop_rng (IPl n c cap ring fl) ⟨_, _, _, _, _, _, _, _, _, _, rfl, rfl, fun _ z => (nomatch z)⟩ ?_ ?_
  · rintro i e hi ⟨st, x7, x9, x10, x11, x12, x13, x14, x15, s3, rfl, hst, hs⟩
    obtain ⟨f, hf2, f0, f1⟩ := hf.at (i := (i : Int)) (by omega) (by omega)
    have rest : ∀ (ws : List Mi.D) (x7 x10 x11 x12 x13 x14 x15 : Slot) (s4 : Sto) (Q : Fl → En Sto → Prop), Lst x10 ws → 1 ≤ ws.length → ws.length ≤ 64 → wp (sq (mSetF 11 (mLc [14] (mI (mV 10)) (gN 14) tYesM (mTup (mCons (mV 14) (mCons (mCall 2 (m__law_take cs) (mTok 0 (mCons (mV 3) mNil))) mNil)))))
        (sq (mSet 7 (mCall 2 (m__law_take cs) (mTok 0 (mCons (mO 11 gLenO) mNil))))
        (sq (mSetIx 11 (mTup (mCons (m2 dIx (mIxO 11 (mV 7)) (rt (.int 0))) (mCons (mIxO 6 (mV 9)) mNil))) (mV 7))
        (mDrop (mMeth 8 gAppend (mCons (mO 11 gTupO) mNil))))))
        ⟨[.tok, .sh (.int n), .sh (.bool false), .sh (.int c), .sh (.int cap), .sh (.list ring), .ow fl, x7, .ow st, .sh (.int (i : Nat)), x10, x11, x12, x13, x14, x15], s4⟩ (loopQ (IPl n c cap ring fl (i + 1)) Q) fun _ _ => False := fun ws x7 x10 x11 x12 x13 x14 x15 s4 Q hx w0 w1 => by
      simp [wV_lst hx]
      refine wLcs_of (fun _ y => ∃ (w : Mi.D) (k : Int), y = .tuple [w, .int k] ∧ 0 ≤ k ∧ k < c) (sizeLine_le (by omega)) (fun d hd s5 => ?_) fun ys s5 hr => ?_
      · simp [wipeE]
        refine wTake (by omega) (by omega) fun k s6 k0 k1 => ?_
        simp [wipeE]
        exact ⟨sizeLine_le (by decide), _, _, ⟨rfl, rfl⟩, k0, k1⟩
      · have hyl := hr.len
        simp [resE, wipeE]
        refine wTake (by omega) (by omega) fun a s6 a0 a1 => ?_
        obtain ⟨y, y1, y2, y3, _⟩ := ix_at (xs := ys) a0 a1
        obtain ⟨d, _, w, k, rfl, k0, k1⟩ := hr.all y y2
        have g0 : dIx (.tuple [w, .int k]) (.int 0) = some w := rfl
        simp [y3, hf2, g0, ixN_at (n := ys.length) (i := a) a0 a1]
        refine ⟨sizeLine_le (by decide), sizeLine_big (by omega), _, _, _, _, _, _, _, _, _, _, rfl, by simp [hst], fun x hx => ?_⟩
        rcases List.mem_append.mp hx with hx | hx
        · exact hs x hx
        · simp at hx
          subst hx
          refine ⟨_, rfl, by simp; omega, by simp; omega, fun z hz => ?_⟩
          rcases List.mem_or_eq_of_mem_set hz with hz | hz
          · obtain ⟨d, _, h⟩ := hr.all z hz
            exact h
          · exact ⟨w, f, hz, f0, f1⟩
    simp
    refine wTake (by omega) (by omega) fun q s4 q0 q1 => ?_
    simp
    refine wCall_val (words2_sp cs n (1 + q) s4 h0 h1 (by omega) (by omega)) fun r s5 ⟨ws, w1, w2, w3, w4⟩ => ?_
    rw [w1]
    have direct : ∀ s6 x12, _ := fun (s6 : Sto) (x12 : Slot) => rest ws x7 (.sh (.list ws)) x11 x12 x13 x14 x15 s6
    simp
    refine wIf_d (fun c1 => ?_) (fun c1 => ?_)
    · simp
      refine wTake (by decide) (by decide) fun b s6 b0 b1 => ?_
      simp
      refine wIf_d (fun c2 => ?_) (fun c2 => ?_)
      · simp
        refine wTake (by omega) (by omega) fun a s7 a0 a1 => ?_
        obtain ⟨y, _, y2, y3, y4⟩ := ix_at (xs := st) a0 (by omega)
        obtain ⟨ps, rfl, r1, r2, r3⟩ := hs y y2
        simp [y3]
        refine wLcs_of (fun _ _ => True) (sizeLine_le (by omega)) (fun d hd s8 => ?_) fun ys s8 hr => ?_
        · obtain ⟨w, k, rfl, _, _⟩ := r3 d hd
          have g0 : dIx (.tuple [w, .int k]) (.int 0) = some w := rfl
          simp [wipeE, g0]
        · have hyl := hr.len
          have q := fun Q => rest ys x7 (.ow ys) x11 (.sh (.tuple ps)) x13 x14 (keepS x15) s8 Q (.o _) (by omega) (by omega)
          simp at q
          simp [resE, wipeE]
          with_reducible exact q _
      · have q := fun Q => direct s6 x12 Q (.s _) w2 w3
        simp at q
        simp
        with_reducible exact q _
    · have q := fun Q => direct s5 x12 Q (.s _) w2 w3
      simp at q
      simp
      with_reducible exact q _
  · rintro e ⟨st, x7, x9, x10, x11, x12, x13, x14, x15, s3, rfl, hst, hs⟩
    simp
    exact ⟨sizeLine_le (by decide), hst, hs⟩
end Mi
set_option maxHeartbeats 4000000
namespace Mi
open PySem PySem.Spec PyProof.Rows L2
theorem not_parted (n : Mi.D) (sts : List Mi.D) (h : sts.length ≠ 1) (xs : List Mi.D) (hx : ∀ x ∈ xs, Ent x) (hl : xs.length ≤ 1000) : Fn m__law_parted [.d (.tuple [n, .tuple sts]), .d (.list xs)] () (fun r _ => r = .sh (.bool true)) fun _ _ => False :=
  parted_sp _ _ xs (asked_not n sts _ h) (asked_not n sts _ h) (due_not n sts _ h) (pl_ref trivial) (by simp [refD, sz, szs]) hx hl
theorem book_parted (n : Mi.D) (ws : List Mi.D) (hn : Pl 3 n) (hn1 : sz n = 1) (hw : ∀ w ∈ ws, WordOk w) (hwl : ws.length ≤ 1000) (xs : List Mi.D) (hx : ∀ x ∈ xs, Ent x) (hl : xs.length ≤ 1000) : Fn m__law_parted [.d (bookD n ws), .d (.list xs)] () (fun r _ => r = .sh (.bool true)) fun _ _ => False :=
  have hp := due_pl hn hn1 hw hl
  parted_sp _ _ xs (asked_sp n ws hwl _ xs (SeqD.l _) (fun x h => (hx x h).nd) hl) (asked_sp n ws hwl _ xs (SeqD.t _) (fun x h => (hx x h).nd) hl) (due_sp n ws hwl _ xs (SeqD.l _) (fun x h => (hx x h).nd) hl) hp.1 hp.2 hx hl
theorem some_book_sp (cs : List Addr) (s : Sto) : Fn (m__law_some_book cs) [.tok] s (fun r _ => ∃ (n : Int) (ws : List Mi.D), r.d = bookD (.int n) ws ∧ 1 ≤ ws.length ∧ ws.length ≤ 64 ∧ ∀ w ∈ ws, WordOk w) fun _ _ => False := by
  unfold m__law_some_book
  with_reducible refine Fn_of ?_
  unfold b__law_some_book
  simp
  refine wTake (by decide) (by decide) fun j s1 j0 j1 => ?_
  simp
  refine wIf_d (fun c => ?_) (fun c => ?_)
  · simp
    refine wTake (by decide) (by decide) fun a s2 a0 a1 => ?_
    simp
    refine wCall_val (number_sp cs 0 34 s2 (by decide) (by decide)) fun r s3 ⟨m, h1, h2, h3⟩ => ?_
    subst h1
    simp
    refine wCall_val (words2_sp cs (7 + a) (30 + m) s3 (by omega) (by omega) (by omega) (by omega)) fun r s4 ⟨ws, w1, w2, w3, w4⟩ => ?_
    rw [w1]
    simp
    refine wCall_lift (lbook_sp (.int (7 + a)) ws (by omega)) fun r h => ?_
    subst h
    simp
    exact ⟨_, ws, rfl, w2, w3, w4⟩
  · simp
    refine wTake (by decide) (by decide) fun a s2 a0 a1 => ?_
    simp
    refine wTake (by decide) (by decide) fun m s3 m0 m1 => ?_
    simp
    refine wCall_val (words2_sp cs (2 + a) (1 + m) s3 (by omega) (by omega) (by omega) (by omega)) fun r s4 ⟨ws, w1, w2, w3, w4⟩ => ?_
    rw [w1]
    simp
    refine wCall_lift (lbook_sp (.int (2 + a)) ws (by omega)) fun r h => ?_
    subst h
    simp
    exact ⟨_, ws, rfl, w2, w3, w4⟩
/-- distinct numbers in range are all taken -/
theorem scan_full (n : Nat) : ∀ (l done : List Nat), (done ++ l).Nodup → (∀ a ∈ l, a < n) → done ++ l ≠ [] → scan n done (intsD l) = .ok (done ++ l)
  | [], done, _, _, hne => by
    show scan n done [] = _
    rw [scan_nil, if_neg (by simpa using hne)]
    simp
  | a :: r, done, hn, hb, _ => by
    show scan n done (.int (a : Nat) :: intsD r) = _
    rw [scan_cons]
    have ha := hb a List.mem_cons_self
    have h1 : natOf n (.int (a : Nat)) = some a := by
      show (if 0 ≤ (a : Int) ∧ (a : Int) < n then some (a : Int).toNat else none) = _
      rw [if_pos ⟨by omega, by omega⟩]
      rfl
    rw [h1]
    dsimp only
    have hm : a ∉ done := fun z => by
      rw [List.nodup_append] at hn
      exact hn.2.2 a z a List.mem_cons_self rfl
    rw [if_neg hm, scan_full n r (done ++ [a]) (by simpa using hn) (fun b h => hb b (List.mem_cons_of_mem _ h)) (by simp)]
    simp
theorem pick_pick (ws : List Mi.D) (l m : List Nat) (hm : ∀ a ∈ m, a < l.length) : pick (pick ws l) m = pick ws (m.map fun a => l.getD a 0) := by
  unfold pick
  rw [List.map_map]
  refine List.map_congr_left fun a ha => ?_
  have h := hm a ha
  simp [List.getD_eq_getElem?_getD, h]
theorem nodup_map_getD {l m : List Nat} (hl : l.Nodup) (hm : m.Nodup) (hb : ∀ a ∈ m, a < l.length) : (m.map fun a => l.getD a 0).Nodup := by
  rw [List.nodup_iff_pairwise_ne, List.pairwise_map]
  refine List.Pairwise.imp_of_mem ?_ (List.nodup_iff_pairwise_ne.mp hm)
  intro a b ha hb2 hne e
  have h1 := hb a ha
  have h2 := hb b hb2
  rw [List.getD_eq_getElem?_getD, List.getD_eq_getElem?_getD, List.getElem?_eq_getElem h1, List.getElem?_eq_getElem h2] at e
  simp at e
  have pw := List.pairwise_iff_getElem.mp (List.nodup_iff_pairwise_ne.mp hl)
  rcases Nat.lt_trichotomy a b with q | q | q
  · exact pw a b h1 h2 q e
  · exact hne q
  · exact pw b a h2 h1 q e.symm
def IRows (i : Nat) (book more : Mi.D) (c : Int) (e : En Sto) : Prop := ∃ (rs : List Mi.D) (x6 : Slot) (s : Sto), e = ⟨[.un, .tok, .sh book, .sh (.int c), .sh more, .ow rs, x6, .un, .un, .un, .un], s⟩ ∧ rs.length = 3 + i ∧ ∀ x ∈ rs, ∃ xs, x = .list xs ∧ xs.length ≤ 1000 ∧ ∀ z ∈ xs, Ent z
def IAll (book more : Mi.D) (c : Int) (x5 x6 : Slot) (r : List Mi.D) (e : En Sto) : Prop := (∀ x ∈ r, ∃ xs, x = .list xs ∧ xs.length ≤ 1000 ∧ ∀ z ∈ xs, Ent z) ∧ ∃ (x7 : Slot) (s : Sto), e = ⟨[.un, .tok, .sh book, .sh (.int c), .sh more, x5, x6, x7, .un, .un, .un], s⟩
theorem LI.ent {hi : Int} {ds : List Mi.D} (h : LI 0 hi ds) (hh : hi ≤ 1000) : ∀ z ∈ ds, Ent z := fun z hz => by
  obtain ⟨k, rfl, k0, k1⟩ := h z hz
  exact Ent.int (by omega)
theorem law_wp (cs : List Addr) (s : Sto) : wp (b_law cs) ⟨.un :: .tok :: List.replicate 9 .un, s⟩ (fun fl _ => fl = .ret (.sh (.bool true))) (fun _ _ => False) := by
  unfold b_law
  simp
  refine wCall_val (some_book_sp cs s) fun r s1 ⟨n, ws, e1, w0, w1, hw⟩ => ?_
  rw [e1]
  obtain ⟨c, hc⟩ : ∃ c : Int, c = ws.length := ⟨_, rfl⟩
  have hlen : gLen [.d (.tuple (ws.map fun w => PyData.tuple [w, .int 0]))] = some (.int c) := by rw [gLen_t, List.length_map, hc]
  simp [bookD, ← hc]
  refine wTake (by decide) (by decide) fun a s2 a0 a1 => ?_
  simp
  refine wTake (by decide) (by decide) fun b s3 b0 b1 => ?_
  simp
  refine wCall_val (lplan_sp cs (1 + a) (2 + b) 3 s3 (by omega) (by omega) (by omega) (by omega) (by decide) (by decide)) fun r s4 ⟨st, h1, h2, _⟩ => ?_
  subst h1
  have hst : st.length ≠ 1 := by omega
  generalize hmore : PyData.tuple [PyData.int (1 + a), PyData.tuple st] = more at *
  simp
  refine wCall_val (order_sp cs c s4 (by omega) (by omega)) fun r s5 ⟨o1, h3, h4, h5⟩ => ?_
  rw [h3]
  simp
  refine wCall_val (order_sp cs c s5 (by omega) (by omega)) fun r s6 ⟨o2, h6, h7, h8⟩ => ?_
  rw [h6]
  simp
  refine ⟨sizeLine_le (by decide), sizeLine_le (by omega), sizeLine_le (by decide), small_of (by decide) (by decide), ?_⟩
  generalize hbook : PyData.tuple [PyData.int n, PyData.tuple [PyData.tuple (ws.map fun w => PyData.tuple [w, .int 0])]] = book at *
  have eb : book = bookD (.int n) ws := by rw [← hbook]; rfl
  have em : more = .tuple [.int (1 + a), .tuple st] := hmore.symm
  refine wLoop_rng (fun i e => IRows i book more c e) ⟨_, _, _, rfl, rfl, fun x hx => ?_⟩ ?_ ?_
  · simp at hx
    rcases hx with rfl | rfl | rfl
    · exact ⟨[], rfl, by decide, fun _ h => nomatch h⟩
    · exact ⟨o1, rfl, by omega, LI.ent h5 (by omega)⟩
    · refine ⟨o2 ++ [.int (c - 1)], rfl, by simp; omega, fun z hz => ?_⟩
      rcases List.mem_append.mp hz with h | h
      · exact LI.ent h8 (by omega) z h
      · simp at h; subst h; exact Ent.int (by omega)
  · rintro i e hi ⟨rs, x6, s7, rfl, hl, hr⟩
    simp
    refine wTake (by decide) (by decide) fun f s8 f0 f1 => ?_
    simp
    refine wCall_val (numbers_sp cs s8 c (if 2 < f then f - 2 else 0) (by omega) (by omega) (by split <;> omega) (by split <;> omega)) fun r s9 ⟨xs, g1, g2, g3⟩ => ?_
    rw [g1]
    simp
    refine ⟨sizeLine_big (by omega), _, _, _, rfl, by simp [hl]; omega, fun x hx => ?_⟩
    rcases List.mem_append.mp hx with h | h
    · exact hr x h
    · simp at h; subst h; exact ⟨xs, rfl, by omega, g3⟩
  rintro e ⟨rs, x6, s7, rfl, hl, hr⟩
  have pb := fun xs hx hl => book_parted (.int n) ws trivial (by simp [sz]) hw (by omega) xs hx hl
  have pm := fun xs hx hl => not_parted (.int (1 + a)) st hst xs hx hl
  rw [← eb] at pb
  rw [← em] at pm
  simp
  refine wLoop_inv (IAll book more c (.sh (.list rs)) x6) ⟨hr, _, _, rfl⟩ ?_ ?_
  · rintro d r e ⟨hd, x7, s8, rfl⟩
    obtain ⟨xs, rfl, g1, g2⟩ := hd d List.mem_cons_self
    simp
    refine wCall_lift (pb xs g2 g1) fun r' h => ?_
    subst h
    simp
    refine wTake (by decide) (by decide) fun f s9 f0 f1 => ?_
    simp
    refine wIf_d (fun c1 => ?_) (fun c1 => ?_)
    · simp
      refine wCall_lift (pm xs g2 g1) fun r' h => ?_
      subst h
      simp
      exact ⟨fun d h => hd d (List.mem_cons_of_mem _ h), _, _, rfl⟩
    · simp
      exact ⟨fun d h => hd d (List.mem_cons_of_mem _ h), _, _, rfl⟩
  rintro e ⟨_, x7, s8, rfl⟩
  simp
  refine ⟨sizeLine_le (by decide), ?_⟩
  refine wCall_lift (pm [.int 0] (fun z hz => by simp at hz; subst hz; exact Ent.int (by decide)) (by decide)) fun r' h => ?_
  subst h
  simp
  refine wCall_lift (pm [] (fun z hz => nomatch hz) (by decide)) fun r' h => ?_
  subst h
  simp
  refine wTake (by omega) (by omega) fun k s9 k0 k1 => ?_
  simp
  refine wCall_val (unlike_sp cs s9 c (1 + k) (by omega) (by omega) (by omega)) fun r s10 ⟨l, l1, l2, l3, l4⟩ => ?_
  subst l1
  simp [intsD_len]
  have hlp : 1 ≤ l.length := by omega
  have hlm : l.length ≤ 64 := by omega
  refine wTake (by omega) (by omega) fun k2 s11 q0 q1 => ?_
  simp
  refine wCall_val (unlike_sp cs s11 l.length (1 + k2) (by omega) (by omega) (by omega)) fun r s12 ⟨m, m1, m2, m3, m4⟩ => ?_
  subst m1
  simp
  have hml : ∀ x ∈ m, x < l.length := fun x hx => by have := m4 x hx; omega
  have hmp : 1 ≤ m.length := by omega
  refine wLcs_of (fun d y => y = (match d with | .int j => .int (l.getD j.toNat 0 : Nat) | _ => .none)) (sizeLine_le (by rw [intsD_len]; omega)) (fun d hd s13 => ?_) fun ys s13 hr2 => ?_
  · unfold intsD at hd
    obtain ⟨x, hx, rfl⟩ := List.mem_map.mp hd
    have h := hml x hx
    have g : atI (intsD l) (x : Int) = some (.int (l[x] : Nat)) := atI_nat (intsD_at h)
    simp [wipeE, dIx, g, h]
  have hy := hr2.eq
  have ey : ys = intsD (m.map fun x => l.getD x 0) := by rw [hy]; unfold intsD; simp [Function.comp_def]
  subst ey
  have hlb : ∀ x ∈ l, x < ws.length := fun x hx => by have := l4 x hx; omega
  have hnm := nodup_map_getD l3 m3 hml
  have hcb : ∀ x ∈ (m.map fun x => l.getD x 0), x < ws.length := fun x hx => by
    obtain ⟨y, h1, rfl⟩ := List.mem_map.mp hx
    have h := hml y h1
    rw [List.getD_eq_getElem?_getD, List.getElem?_eq_getElem h]
    exact hlb _ (List.getElem_mem h)
  have sc1 : scan ws.length [] (intsD (m.map fun x => l.getD x 0)) = .ok (m.map fun x => l.getD x 0) := by
    have := scan_full ws.length (m.map fun x => l.getD x 0) [] (by simpa using hnm) hcb (fun z => by have := congrArg List.length z; simp at this; subst this; simp at hmp)
    simpa using this
  have sc2 : scan ws.length [] (intsD l) = .ok l := by
    have := scan_full ws.length l [] (by simpa using l3) hlb (fun z => by have := congrArg List.length z; simp at this; subst this; simp at hlp)
    simpa using this
  have sc3 : scan (pick ws l).length [] (intsD m) = .ok m := by
    have hpl : (pick ws l).length = l.length := by unfold pick; rw [List.length_map]
    have := scan_full (pick ws l).length m [] (by simpa using m3) (by rw [hpl]; exact hml) (fun z => by have := congrArg List.length z; simp at this; subst this; simp at hmp)
    simpa using this
  have nd : ∀ l : List Nat, ∀ x ∈ intsD l, noDict x := fun l x hx => by
    unfold intsD at hx
    obtain ⟨y, _, rfl⟩ := List.mem_map.mp hx
    trivial
  simp [resE, wipeE, keepS]
  have d1 := due_sp (.int n) ws (by omega) _ _ (SeqD.l (intsD (m.map fun x => l.getD x 0))) (nd _) (by rw [intsD_len, List.length_map]; omega)
  rw [sc1, ← eb] at d1
  refine wCall_lift d1 fun r' h => ?_
  subst h
  have d2 := part_sp (.int n) ws (by omega) _ _ (SeqD.l (intsD l)) (nd _) (by rw [intsD_len]; omega)
  rw [sc2, ← eb] at d2
  simp
  refine wCall_lift (P := fun r => r.d = bookD (.int n) (pick ws l)) (d2.imp (fun r _ ⟨ks, h, h'⟩ => by cases h; exact h') fun x _ h => by cases h) fun r' h => ?_
  rw [h]
  have hpw := pick_words hw hlb
  have d3 := asked_sp (.int n) (pick ws l) (by unfold pick; rw [List.length_map]; omega) _ _ (SeqD.l (intsD m)) (nd _) (by rw [intsD_len]; omega)
  rw [sc3] at d3
  simp
  refine wCall_lift d3 fun r' h => ?_
  subst h
  have ed : dueD (.int n) (pick ws l) (.ok m) = dueD (.int n) ws (.ok (m.map fun x => l.getD x 0)) := by
    show toldD (bookD _ (pick (pick ws l) m)) = toldD (bookD _ (pick ws _))
    rw [pick_pick ws l m hml]
  rw [ed]
  have hp := due_pl (n := .int n) (ws := ws) trivial (by simp [sz]) hw (xs := intsD (m.map fun x => l.getD x 0)) (by rw [intsD_len, List.length_map]; omega)
  rw [sc1] at hp
  simp
  refine wCall_lift (same_sp _ hp.1 hp.2) fun r' h => ?_
  subst h
  simp
theorem law_pure (cs : List Addr) (s : Sto) : ∃ e, b_law cs ⟨.un :: .tok :: List.replicate 9 .un, s⟩ = .ok (.ret (.sh (.bool true))) e := by
  have h := law_wp cs s
  unfold wp at h
  cases q : b_law cs ⟨.un :: .tok :: List.replicate 9 .un, s⟩ with
  | ok fl e => rw [q] at h; dsimp only at h; subst h; exact ⟨e, rfl⟩
  | err x e => rw [q] at h; exact h.elim
  | stuck => rw [q] at h; exact h.elim
end Mi
set_option maxHeartbeats 4000000
namespace Mi
open PySem PySem.Spec PyProof.Rows L2
theorem sc_same_parts : FnScope ["value", "part"] ["value"] (defScope s_same_parts) := ⟨rfl, rfl, rfl, by decide +kernel, rfl, by decide +kernel, by decide +kernel⟩
theorem sc_is_whole : FnScope ["value"] ["value"] (defScope s_is_whole) := ⟨rfl, rfl, rfl, by decide +kernel, rfl, by decide +kernel, by decide +kernel⟩
theorem sc_is_index : FnScope ["value", "many"] ["value", "many"] (defScope s_is_index) := ⟨rfl, rfl, rfl, by decide +kernel, rfl, by decide +kernel, by decide +kernel⟩
theorem sc_copied : FnScope ["value", "part"] ["value"] (defScope s_copied) := ⟨rfl, rfl, rfl, by decide +kernel, rfl, by decide +kernel, by decide +kernel⟩
theorem sc_check_state : FnScope ["plan", "state"] ["plan", "state"] (defScope s_check_state) := ⟨rfl, rfl, rfl, by decide +kernel, rfl, by decide +kernel, by decide +kernel⟩
theorem sc_is_book : FnScope ["plan"] ["plan"] (defScope s_is_book) := ⟨rfl, rfl, rfl, by decide +kernel, rfl, by decide +kernel, by decide +kernel⟩
theorem sc_words_of : FnScope ["plan", "state", "word", "spare"] ["plan", "state"] (defScope s_words_of) := ⟨rfl, rfl, rfl, by decide +kernel, rfl, by decide +kernel, by decide +kernel⟩
theorem sc_book_words : FnScope ["book"] ["book"] (defScope s_book_words) := ⟨rfl, rfl, rfl, by decide +kernel, rfl, by decide +kernel, by decide +kernel⟩
theorem sc_is_below : FnScope ["value", "end"] ["value", "end"] (defScope s_is_below) := ⟨rfl, rfl, rfl, by decide +kernel, rfl, by decide +kernel, by decide +kernel⟩
theorem sc_check_book : FnScope ["book"] ["book"] (defScope s_check_book) := ⟨rfl, rfl, rfl, by decide +kernel, rfl, by decide +kernel, by decide +kernel⟩
theorem sc_book_made : FnScope ["n", "words", "word"] ["n", "words"] (defScope s_book_made) := ⟨rfl, rfl, rfl, by decide +kernel, rfl, by decide +kernel, by decide +kernel⟩
theorem sc_part : FnScope ["book", "numbers", "words", "places", "place", "number"] ["book", "numbers"] (defScope s_part) := ⟨rfl, rfl, rfl, by decide +kernel, rfl, by decide +kernel, by decide +kernel⟩
theorem sc__law_mixed : FnScope ["number", "step", "one", "two", "three"] ["number", "step"] (defScope s__law_mixed) := ⟨rfl, rfl, rfl, by decide +kernel, rfl, by decide +kernel, by decide +kernel⟩
theorem sc__law_store : FnScope ["script", "cells", "seed", "cell"] ["script"] (defScope s__law_store) := ⟨rfl, rfl, rfl, by decide +kernel, rfl, by decide +kernel, by decide +kernel⟩
theorem sc__law_take : FnScope ["store", "count", "cells", "at", "cell", "found"] ["store", "count"] (defScope s__law_take) := ⟨rfl, rfl, rfl, by decide +kernel, rfl, by decide +kernel, by decide +kernel⟩
theorem sc__law_number : FnScope ["store", "least", "high", "share"] ["store", "least", "high"] (defScope s__law_number) := ⟨rfl, rfl, rfl, by decide +kernel, rfl, by decide +kernel, by decide +kernel⟩
theorem sc__law_great : FnScope ["store", "number", "step"] ["store"] (defScope s__law_great) := ⟨rfl, rfl, rfl, by decide +kernel, rfl, by decide +kernel, by decide +kernel⟩
theorem sc__law_no_number : FnScope ["store", "number", "menu"] ["store"] (defScope s__law_no_number) := ⟨rfl, rfl, rfl, by decide +kernel, rfl, by decide +kernel, by decide +kernel⟩
theorem sc__law_outside : FnScope ["store", "least", "high", "share", "value"] ["store", "least", "high"] (defScope s__law_outside) := ⟨rfl, rfl, rfl, by decide +kernel, rfl, by decide +kernel, by decide +kernel⟩
theorem sc__law_unlike : FnScope ["store", "high", "count", "found", "step", "number", "move"] ["store", "high", "count"] (defScope s__law_unlike) := ⟨rfl, rfl, rfl, by decide +kernel, rfl, by decide +kernel, by decide +kernel⟩
theorem sc__law_order : FnScope ["store", "count", "pool", "share", "found", "step", "at"] ["store", "count"] (defScope s__law_order) := ⟨rfl, rfl, rfl, by decide +kernel, rfl, by decide +kernel, by decide +kernel⟩
theorem sc__law_power : FnScope ["base", "count", "number", "step"] ["base", "count"] (defScope s__law_power) := ⟨rfl, rfl, rfl, by decide +kernel, rfl, by decide +kernel, by decide +kernel⟩
theorem sc__law_kind : FnScope ["value"] ["value"] (defScope s__law_kind) := ⟨rfl, rfl, rfl, by decide +kernel, rfl, by decide +kernel, by decide +kernel⟩
theorem sc__law_same : FnScope ["left", "right", "pairs", "one", "two", "kind", "at"] ["left", "right"] (defScope s__law_same) := ⟨rfl, rfl, rfl, by decide +kernel, rfl, by decide +kernel, by decide +kernel⟩
theorem sc__law_is_whole : FnScope ["value"] ["value"] (defScope s__law_is_whole) := ⟨rfl, rfl, rfl, by decide +kernel, rfl, by decide +kernel, by decide +kernel⟩
theorem sc__law_mask_word : FnScope ["mask", "n", "wires", "rest", "wire"] ["mask", "n"] (defScope s__law_mask_word) := ⟨rfl, rfl, rfl, by decide +kernel, rfl, by decide +kernel, by decide +kernel⟩
theorem sc__law_masks : FnScope ["store", "n", "count", "high", "thin", "found", "step", "move", "one", "two", "mask"] ["store", "n", "count"] (defScope s__law_masks) := ⟨rfl, rfl, rfl, by decide +kernel, rfl, by decide +kernel, by decide +kernel⟩
theorem sc__law_words : FnScope ["store", "n", "count", "mask"] ["store", "n", "count"] (defScope s__law_words) := ⟨rfl, rfl, rfl, by decide +kernel, rfl, by decide +kernel, by decide +kernel⟩
theorem sc__law_less : FnScope ["left", "right", "wire"] ["left", "right"] (defScope s__law_less) := ⟨rfl, rfl, rfl, by decide +kernel, rfl, by decide +kernel, by decide +kernel⟩
theorem sc__law_pruned : FnScope ["words", "kept", "word", "fine", "other"] ["words"] (defScope s__law_pruned) := ⟨rfl, rfl, rfl, by decide +kernel, rfl, by decide +kernel, by decide +kernel⟩
theorem sc__law_book : FnScope ["n", "words", "word"] ["n", "words"] (defScope s__law_book) := ⟨rfl, rfl, rfl, by decide +kernel, rfl, by decide +kernel, by decide +kernel⟩
theorem sc__law_plan : FnScope ["store", "n", "right", "count", "cap", "ring", "follow", "at", "states", "state", "words", "row", "earlier", "place", "word", "pair"] ["store", "n", "right", "count", "cap"] (defScope s__law_plan) := ⟨rfl, rfl, rfl, by decide +kernel, rfl, by decide +kernel, by decide +kernel⟩
theorem sc__law_asked : FnScope ["plan", "numbers", "e"] ["plan", "numbers"] (defScope s__law_asked) := ⟨rfl, rfl, rfl, by decide +kernel, rfl, by decide +kernel, by decide +kernel⟩
theorem sc__law_due : FnScope ["plan", "numbers", "words", "found", "place", "value", "earlier", "pair"] ["plan", "numbers"] (defScope s__law_due) := ⟨rfl, rfl, rfl, by decide +kernel, rfl, by decide +kernel, by decide +kernel⟩
theorem sc__law_numbers : FnScope ["store", "count", "faults", "numbers", "step", "at"] ["store", "count", "faults"] (defScope s__law_numbers) := ⟨rfl, rfl, rfl, by decide +kernel, rfl, by decide +kernel, by decide +kernel⟩
theorem sc__law_parted : FnScope ["plan", "numbers", "kept", "due"] ["plan", "numbers"] (defScope s__law_parted) := ⟨rfl, rfl, rfl, by decide +kernel, rfl, by decide +kernel, by decide +kernel⟩
theorem sc__law_some_book : FnScope ["store", "n"] ["store"] (defScope s__law_some_book) := ⟨rfl, rfl, rfl, by decide +kernel, rfl, by decide +kernel, by decide +kernel⟩
theorem sc_law : FnScope ["script", "store", "book", "count", "more", "rows", "step", "numbers", "inner", "due", "at"] ["script"] (defScope s_law) := ⟨rfl, rfl, rfl, by decide +kernel, rfl, by decide +kernel, by decide +kernel⟩
theorem sc_i_NoWord : FnScope ["self", "at"] ["self", "at"] (defScope st_i_NoWord) := ⟨rfl, rfl, rfl, by decide +kernel, rfl, by decide +kernel, by decide +kernel⟩
theorem sc_i_NotBook : FnScope ["self", "states"] ["self", "states"] (defScope st_i_NotBook) := ⟨rfl, rfl, rfl, by decide +kernel, rfl, by decide +kernel, by decide +kernel⟩
theorem sc_i_BadState : FnScope ["self", "value"] ["self", "value"] (defScope st_i_BadState) := ⟨rfl, rfl, rfl, by decide +kernel, rfl, by decide +kernel, by decide +kernel⟩
theorem sc_i_BadNumber : FnScope ["self", "place"] ["self", "place"] (defScope st_i_BadNumber) := ⟨rfl, rfl, rfl, by decide +kernel, rfl, by decide +kernel, by decide +kernel⟩
theorem sc_i_Double : FnScope ["self", "at", "number"] ["self", "at", "number"] (defScope st_i_Double) := ⟨rfl, rfl, rfl, by decide +kernel, rfl, by decide +kernel, by decide +kernel⟩
/-! what the top has written -/
structure Tx (K : PySem.W.Frag) (mg : Str → Option Value) where
  a_same_parts : Addr
  d_same_parts : FuncData
  fu_same_parts : Fun K "same_parts" "same_parts" s_same_parts a_same_parts d_same_parts
  g_same_parts : mg "same_parts" = some (.ref a_same_parts)
  b_same_parts : Binds K d_same_parts ["value"] []
  a_is_whole : Addr
  d_is_whole : FuncData
  fu_is_whole : Fun K "is_whole" "is_whole" s_is_whole a_is_whole d_is_whole
  g_is_whole : mg "is_whole" = some (.ref a_is_whole)
  b_is_whole : Binds K d_is_whole ["value"] []
  a_is_index : Addr
  d_is_index : FuncData
  fu_is_index : Fun K "is_index" "is_index" s_is_index a_is_index d_is_index
  g_is_index : mg "is_index" = some (.ref a_is_index)
  b_is_index : Binds K d_is_index ["value", "many"] []
  a_copied : Addr
  d_copied : FuncData
  fu_copied : Fun K "copied" "copied" s_copied a_copied d_copied
  g_copied : mg "copied" = some (.ref a_copied)
  b_copied : Binds K d_copied ["value"] []
  a_check_state : Addr
  d_check_state : FuncData
  fu_check_state : Fun K "check_state" "check_state" s_check_state a_check_state d_check_state
  g_check_state : mg "check_state" = some (.ref a_check_state)
  b_check_state : Binds K d_check_state ["plan", "state"] []
  a_is_book : Addr
  d_is_book : FuncData
  fu_is_book : Fun K "is_book" "is_book" s_is_book a_is_book d_is_book
  g_is_book : mg "is_book" = some (.ref a_is_book)
  b_is_book : Binds K d_is_book ["plan"] []
  a_words_of : Addr
  d_words_of : FuncData
  fu_words_of : Fun K "words_of" "words_of" s_words_of a_words_of d_words_of
  g_words_of : mg "words_of" = some (.ref a_words_of)
  b_words_of : Binds K d_words_of ["plan", "state"] []
  a_book_words : Addr
  d_book_words : FuncData
  fu_book_words : Fun K "book_words" "book_words" s_book_words a_book_words d_book_words
  g_book_words : mg "book_words" = some (.ref a_book_words)
  b_book_words : Binds K d_book_words ["book"] []
  a_is_below : Addr
  d_is_below : FuncData
  fu_is_below : Fun K "is_below" "is_below" s_is_below a_is_below d_is_below
  g_is_below : mg "is_below" = some (.ref a_is_below)
  b_is_below : Binds K d_is_below ["value", "end"] []
  a_check_book : Addr
  d_check_book : FuncData
  fu_check_book : Fun K "check_book" "check_book" s_check_book a_check_book d_check_book
  g_check_book : mg "check_book" = some (.ref a_check_book)
  b_check_book : Binds K d_check_book ["book"] []
  a_book_made : Addr
  d_book_made : FuncData
  fu_book_made : Fun K "book_made" "book_made" s_book_made a_book_made d_book_made
  g_book_made : mg "book_made" = some (.ref a_book_made)
  b_book_made : Binds K d_book_made ["n", "words"] []
  a_part : Addr
  d_part : FuncData
  fu_part : Fun K "part" "part" s_part a_part d_part
  g_part : mg "part" = some (.ref a_part)
  b_part : Binds K d_part ["book", "numbers"] []
  a__law_mixed : Addr
  d__law_mixed : FuncData
  fu__law_mixed : Fun K "_law_mixed" "_law_mixed" s__law_mixed a__law_mixed d__law_mixed
  g__law_mixed : mg "_law_mixed" = some (.ref a__law_mixed)
  b__law_mixed : Binds K d__law_mixed ["number", "step"] []
  a__law_store : Addr
  d__law_store : FuncData
  fu__law_store : Fun K "_law_store" "_law_store" s__law_store a__law_store d__law_store
  g__law_store : mg "_law_store" = some (.ref a__law_store)
  b__law_store : Binds K d__law_store ["script"] []
  a__law_take : Addr
  d__law_take : FuncData
  fu__law_take : Fun K "_law_take" "_law_take" s__law_take a__law_take d__law_take
  g__law_take : mg "_law_take" = some (.ref a__law_take)
  b__law_take : Binds K d__law_take ["store", "count"] []
  a__law_number : Addr
  d__law_number : FuncData
  fu__law_number : Fun K "_law_number" "_law_number" s__law_number a__law_number d__law_number
  g__law_number : mg "_law_number" = some (.ref a__law_number)
  b__law_number : Binds K d__law_number ["store", "least", "high"] []
  a__law_great : Addr
  d__law_great : FuncData
  fu__law_great : Fun K "_law_great" "_law_great" s__law_great a__law_great d__law_great
  g__law_great : mg "_law_great" = some (.ref a__law_great)
  b__law_great : Binds K d__law_great ["store"] []
  a__law_no_number : Addr
  d__law_no_number : FuncData
  fu__law_no_number : Fun K "_law_no_number" "_law_no_number" s__law_no_number a__law_no_number d__law_no_number
  g__law_no_number : mg "_law_no_number" = some (.ref a__law_no_number)
  b__law_no_number : Binds K d__law_no_number ["store"] []
  a__law_outside : Addr
  d__law_outside : FuncData
  fu__law_outside : Fun K "_law_outside" "_law_outside" s__law_outside a__law_outside d__law_outside
  g__law_outside : mg "_law_outside" = some (.ref a__law_outside)
  b__law_outside : Binds K d__law_outside ["store", "least", "high"] []
  a__law_unlike : Addr
  d__law_unlike : FuncData
  fu__law_unlike : Fun K "_law_unlike" "_law_unlike" s__law_unlike a__law_unlike d__law_unlike
  g__law_unlike : mg "_law_unlike" = some (.ref a__law_unlike)
  b__law_unlike : Binds K d__law_unlike ["store", "high", "count"] []
  a__law_order : Addr
  d__law_order : FuncData
  fu__law_order : Fun K "_law_order" "_law_order" s__law_order a__law_order d__law_order
  g__law_order : mg "_law_order" = some (.ref a__law_order)
  b__law_order : Binds K d__law_order ["store", "count"] []
  a__law_power : Addr
  d__law_power : FuncData
  fu__law_power : Fun K "_law_power" "_law_power" s__law_power a__law_power d__law_power
  g__law_power : mg "_law_power" = some (.ref a__law_power)
  b__law_power : Binds K d__law_power ["base", "count"] []
  a__law_kind : Addr
  d__law_kind : FuncData
  fu__law_kind : Fun K "_law_kind" "_law_kind" s__law_kind a__law_kind d__law_kind
  g__law_kind : mg "_law_kind" = some (.ref a__law_kind)
  b__law_kind : Binds K d__law_kind ["value"] []
  a__law_same : Addr
  d__law_same : FuncData
  fu__law_same : Fun K "_law_same" "_law_same" s__law_same a__law_same d__law_same
  g__law_same : mg "_law_same" = some (.ref a__law_same)
  b__law_same : Binds K d__law_same ["left", "right"] []
  a__law_is_whole : Addr
  d__law_is_whole : FuncData
  fu__law_is_whole : Fun K "_law_is_whole" "_law_is_whole" s__law_is_whole a__law_is_whole d__law_is_whole
  g__law_is_whole : mg "_law_is_whole" = some (.ref a__law_is_whole)
  b__law_is_whole : Binds K d__law_is_whole ["value"] []
  a__law_mask_word : Addr
  d__law_mask_word : FuncData
  fu__law_mask_word : Fun K "_law_mask_word" "_law_mask_word" s__law_mask_word a__law_mask_word d__law_mask_word
  g__law_mask_word : mg "_law_mask_word" = some (.ref a__law_mask_word)
  b__law_mask_word : Binds K d__law_mask_word ["mask", "n"] []
  a__law_masks : Addr
  d__law_masks : FuncData
  fu__law_masks : Fun K "_law_masks" "_law_masks" s__law_masks a__law_masks d__law_masks
  g__law_masks : mg "_law_masks" = some (.ref a__law_masks)
  b__law_masks : Binds K d__law_masks ["store", "n", "count"] []
  a__law_words : Addr
  d__law_words : FuncData
  fu__law_words : Fun K "_law_words" "_law_words" s__law_words a__law_words d__law_words
  g__law_words : mg "_law_words" = some (.ref a__law_words)
  b__law_words : Binds K d__law_words ["store", "n", "count"] []
  a__law_less : Addr
  d__law_less : FuncData
  fu__law_less : Fun K "_law_less" "_law_less" s__law_less a__law_less d__law_less
  g__law_less : mg "_law_less" = some (.ref a__law_less)
  b__law_less : Binds K d__law_less ["left", "right"] []
  a__law_pruned : Addr
  d__law_pruned : FuncData
  fu__law_pruned : Fun K "_law_pruned" "_law_pruned" s__law_pruned a__law_pruned d__law_pruned
  g__law_pruned : mg "_law_pruned" = some (.ref a__law_pruned)
  b__law_pruned : Binds K d__law_pruned ["words"] []
  a__law_book : Addr
  d__law_book : FuncData
  fu__law_book : Fun K "_law_book" "_law_book" s__law_book a__law_book d__law_book
  g__law_book : mg "_law_book" = some (.ref a__law_book)
  b__law_book : Binds K d__law_book ["n", "words"] []
  a__law_plan : Addr
  d__law_plan : FuncData
  fu__law_plan : Fun K "_law_plan" "_law_plan" s__law_plan a__law_plan d__law_plan
  g__law_plan : mg "_law_plan" = some (.ref a__law_plan)
  b__law_plan : Binds K d__law_plan ["store", "n", "right", "count", "cap"] []
  a__law_asked : Addr
  d__law_asked : FuncData
  fu__law_asked : Fun K "_law_asked" "_law_asked" s__law_asked a__law_asked d__law_asked
  g__law_asked : mg "_law_asked" = some (.ref a__law_asked)
  b__law_asked : Binds K d__law_asked ["plan", "numbers"] []
  a__law_due : Addr
  d__law_due : FuncData
  fu__law_due : Fun K "_law_due" "_law_due" s__law_due a__law_due d__law_due
  g__law_due : mg "_law_due" = some (.ref a__law_due)
  b__law_due : Binds K d__law_due ["plan", "numbers"] []
  a__law_numbers : Addr
  d__law_numbers : FuncData
  fu__law_numbers : Fun K "_law_numbers" "_law_numbers" s__law_numbers a__law_numbers d__law_numbers
  g__law_numbers : mg "_law_numbers" = some (.ref a__law_numbers)
  b__law_numbers : Binds K d__law_numbers ["store", "count", "faults"] []
  a__law_parted : Addr
  d__law_parted : FuncData
  fu__law_parted : Fun K "_law_parted" "_law_parted" s__law_parted a__law_parted d__law_parted
  g__law_parted : mg "_law_parted" = some (.ref a__law_parted)
  b__law_parted : Binds K d__law_parted ["plan", "numbers"] []
  a__law_some_book : Addr
  d__law_some_book : FuncData
  fu__law_some_book : Fun K "_law_some_book" "_law_some_book" s__law_some_book a__law_some_book d__law_some_book
  g__law_some_book : mg "_law_some_book" = some (.ref a__law_some_book)
  b__law_some_book : Binds K d__law_some_book ["store"] []
  a_law : Addr
  d_law : FuncData
  fu_law : Fun K "law" "law" s_law a_law d_law
  g_law : mg "law" = some (.ref a_law)
  b_law : Binds K d_law ["script"] []
  z_abs : mg "abs" = none
  z_bool : mg "bool" = none
  z_enumerate : mg "enumerate" = none
  z_int : mg "int" = none
  z_isinstance : mg "isinstance" = none
  z_len : mg "len" = none
  z_list : mg "list" = none
  z_max : mg "max" = none
  z_min : mg "min" = none
  z_range : mg "range" = none
  z_repr : mg "repr" = none
  z_str : mg "str" = none
  z_tuple : mg "tuple" = none
  C_PulseError : Addr
  g_PulseError : mg "PulseError" = some (.ref C_PulseError)
  C_NoWord : Addr
  g_NoWord : mg "NoWord" = some (.ref C_NoWord)
  oc_NoWord : OexC K C_NoWord
  i_NoWord : Addr
  di_NoWord : FuncData
  ic_NoWord : PySem.W.findIn K (.ref C_NoWord) "__init__" = some (some (.ref i_NoWord))
  ti_NoWord : PySem.W.typeIn K (.ref i_NoWord) = some (.type "function")
  fi_NoWord : Fun K "__init__" "NoWord.__init__" st_i_NoWord i_NoWord di_NoWord
  bi_NoWord : Binds K di_NoWord ["self", "at"] []
  nf_NoWord_at : PySem.W.findIn K (.ref C_NoWord) "at" = some none
  xf_NoWord : XfC K C_NoWord
  xm_NoWord : ∀ n cls b, sub n "NoWord" = some b → mg n = some cls → PySem.W.exmOne K cls (.ref C_NoWord) = some b
  C_NotBook : Addr
  g_NotBook : mg "NotBook" = some (.ref C_NotBook)
  oc_NotBook : OexC K C_NotBook
  i_NotBook : Addr
  di_NotBook : FuncData
  ic_NotBook : PySem.W.findIn K (.ref C_NotBook) "__init__" = some (some (.ref i_NotBook))
  ti_NotBook : PySem.W.typeIn K (.ref i_NotBook) = some (.type "function")
  fi_NotBook : Fun K "__init__" "NotBook.__init__" st_i_NotBook i_NotBook di_NotBook
  bi_NotBook : Binds K di_NotBook ["self", "states"] []
  nf_NotBook_states : PySem.W.findIn K (.ref C_NotBook) "states" = some none
  xf_NotBook : XfC K C_NotBook
  xm_NotBook : ∀ n cls b, sub n "NotBook" = some b → mg n = some cls → PySem.W.exmOne K cls (.ref C_NotBook) = some b
  C_BadState : Addr
  g_BadState : mg "BadState" = some (.ref C_BadState)
  oc_BadState : OexC K C_BadState
  i_BadState : Addr
  di_BadState : FuncData
  ic_BadState : PySem.W.findIn K (.ref C_BadState) "__init__" = some (some (.ref i_BadState))
  ti_BadState : PySem.W.typeIn K (.ref i_BadState) = some (.type "function")
  fi_BadState : Fun K "__init__" "BadState.__init__" st_i_BadState i_BadState di_BadState
  bi_BadState : Binds K di_BadState ["self", "value"] []
  nf_BadState_value : PySem.W.findIn K (.ref C_BadState) "value" = some none
  C_BadNumber : Addr
  g_BadNumber : mg "BadNumber" = some (.ref C_BadNumber)
  oc_BadNumber : OexC K C_BadNumber
  i_BadNumber : Addr
  di_BadNumber : FuncData
  ic_BadNumber : PySem.W.findIn K (.ref C_BadNumber) "__init__" = some (some (.ref i_BadNumber))
  ti_BadNumber : PySem.W.typeIn K (.ref i_BadNumber) = some (.type "function")
  fi_BadNumber : Fun K "__init__" "BadNumber.__init__" st_i_BadNumber i_BadNumber di_BadNumber
  bi_BadNumber : Binds K di_BadNumber ["self", "place"] []
  nf_BadNumber_place : PySem.W.findIn K (.ref C_BadNumber) "place" = some none
  xf_BadNumber : XfC K C_BadNumber
  xm_BadNumber : ∀ n cls b, sub n "BadNumber" = some b → mg n = some cls → PySem.W.exmOne K cls (.ref C_BadNumber) = some b
  C_Double : Addr
  g_Double : mg "Double" = some (.ref C_Double)
  oc_Double : OexC K C_Double
  i_Double : Addr
  di_Double : FuncData
  ic_Double : PySem.W.findIn K (.ref C_Double) "__init__" = some (some (.ref i_Double))
  ti_Double : PySem.W.typeIn K (.ref i_Double) = some (.type "function")
  fi_Double : Fun K "__init__" "Double.__init__" st_i_Double i_Double di_Double
  bi_Double : Binds K di_Double ["self", "at", "number"] []
  nf_Double_at : PySem.W.findIn K (.ref C_Double) "at" = some none
  nf_Double_number : PySem.W.findIn K (.ref C_Double) "number" = some none
  xf_Double : XfC K C_Double
  xm_Double : ∀ n cls b, sub n "Double" = some b → mg n = some cls → PySem.W.exmOne K cls (.ref C_Double) = some b
  ki : ∀ a n ca cn b, sub a n = some b → mg a = some ca → mg n = some cn → PySem.W.kitOne K ca cn = some b ∧ ∃ C, ca = .ref C ∧ ExC K C
/-! each def keeps its promise -/
section
variable {Pg : Program} {w : World} {K : PySem.W.Frag} {mg : Str → Option Value} {base : Heap}
theorem ok_same_parts (T : Tx K mg) : ∀ n : Nat, FnOk Pg w K mg base (L2.CX Pg w) (0 + n) T.a_same_parts T.d_same_parts ["value"] (spM mg B0 1 (m_same_parts n))
  | 0 => stuck_ok
  | n + 1 => by
    have ih := ok_same_parts T n
    exact fn_mi T.fu_same_parts sc_same_parts B0 (b_same_parts (m_same_parts n)) (fun cdv A outer s H E F0 hr tk po =>
  (ss_cons (s_if (t_val (x_isD T.z_isinstance (x_var 0) T.z_list boot_list))
  (ss_one (s_retF (f_lc [("part", 1)] (by rfl) sc_same_parts.nd (i_seq (x_var 0)) (blkOk_by (by kernel_rfl)) (fun _ _ _ _ _ => (g_name sc_same_parts.nd)) (fun _ _ _ _ _ => ts_nil) (fun _ _ _ _ _ => (x_call ih (by exact hr) T.g_same_parts T.fu_same_parts.kp T.b_same_parts takes0 (a_cons (x_var 1) a_nil))) (go_name 1))))
  ss_nil)
  (ss_cons (s_if (t_val (x_isD T.z_isinstance (x_var 0) T.z_tuple boot_tuple))
  (ss_one (s_ret (x_cT call_tuple_of (p_tup _) T.z_tuple boot_tuple (a_cons (x_fz (f_lc [("part", 1)] (by rfl) sc_same_parts.nd (i_seq (x_var 0)) (blkOk_by (by kernel_rfl)) (fun _ _ _ _ _ => (g_name sc_same_parts.nd)) (fun _ _ _ _ _ => ts_nil) (fun _ _ _ _ _ => (x_call ih (by exact hr) T.g_same_parts T.fu_same_parts.kp T.b_same_parts takes0 (a_cons (x_var 1) a_nil))) (go_name 1))) a_nil))))
  ss_nil)
  (ss_one (s_retV 0)))))
theorem ok_is_whole (T : Tx K mg) : FnOk Pg w K mg base (L2.CX Pg w) 1 T.a_is_whole T.d_is_whole ["value"] (spM mg B0 1 (m_is_whole)) := by
  unfold m_is_whole
  exact fn_mi T.fu_is_whole sc_is_whole B0 b_is_whole (fun cdv A outer s H E F0 hr tk po =>
  (ss_one (s_ret (x_and (x_isD T.z_isinstance (x_var 0) T.z_int boot_int) (x_one (x_not (x_isD T.z_isinstance (x_var 0) T.z_bool boot_bool)))))))
theorem ok_is_index (T : Tx K mg) : FnOk Pg w K mg base (L2.CX Pg w) 2 T.a_is_index T.d_is_index ["value", "many"] (spM mg B0 2 (m_is_index)) := by
  unfold m_is_index
  exact fn_mi T.fu_is_index sc_is_index B0 b_is_index (fun cdv A outer s H E F0 hr tk po =>
  (ss_one (s_ret (x_and (x_call (ok_is_whole T) (by exact hr.mono (by omega)) T.g_is_whole T.fu_is_whole.kp T.b_is_whole tk (a_cons (x_var 0) a_nil)) (x_one (x_chain o_le o_lt p_le p_lt x_int (x_var 0) (x_var 1)))))))
theorem ok_copied (T : Tx K mg) : ∀ n : Nat, FnOk Pg w K mg base (L2.CX Pg w) (0 + n) T.a_copied T.d_copied ["value"] (spM mg B0 1 (m_copied n))
  | 0 => stuck_ok
  | n + 1 => by
    have ih := ok_copied T n
    exact fn_mi T.fu_copied sc_copied B0 (b_copied (m_copied n)) (fun cdv A outer s H E F0 hr tk po =>
  (ss_cons (s_if (t_val (x_isD T.z_isinstance (x_var 0) T.z_list boot_list))
  (ss_one (s_retF (f_lc [("part", 1)] (by rfl) sc_copied.nd (i_seq (x_var 0)) (blkOk_by (by kernel_rfl)) (fun _ _ _ _ _ => (g_name sc_copied.nd)) (fun _ _ _ _ _ => ts_nil) (fun _ _ _ _ _ => (x_call ih (by exact hr) T.g_copied T.fu_copied.kp T.b_copied takes0 (a_cons (x_var 1) a_nil))) (go_name 1))))
  ss_nil)
  (ss_cons (s_if (t_val (x_isD T.z_isinstance (x_var 0) T.z_tuple boot_tuple))
  (ss_one (s_ret (x_cT call_tuple_of (p_tup _) T.z_tuple boot_tuple (a_cons (x_fz (f_lc [("part", 1)] (by rfl) sc_copied.nd (i_seq (x_var 0)) (blkOk_by (by kernel_rfl)) (fun _ _ _ _ _ => (g_name sc_copied.nd)) (fun _ _ _ _ _ => ts_nil) (fun _ _ _ _ _ => (x_call ih (by exact hr) T.g_copied T.fu_copied.kp T.b_copied takes0 (a_cons (x_var 1) a_nil))) (go_name 1))) a_nil))))
  ss_nil)
  (ss_one (s_retV 0)))))
theorem ok_init_NoWord (T : Tx K mg) : FnOk Pg w K mg base (L2.CX Pg w) 31 T.i_NoWord T.di_NoWord ["self", "at"] (initSp (m_same_parts 30) T.C_NoWord ["at"]) := by
  refine T.fi_NoWord.okX sc_i_NoWord (fun vs H Q E h => initSp_len h) (fun cdv A outer s H vs Q E hr h => ⟨_, (pss_one (ps_ost (pv 0) (pe_callS (ok_same_parts T 30) (hr.mono (by omega)) (by rfl) T.g_same_parts T.fu_same_parts.kp T.b_same_parts (fun σ => passAt (W := wE E) (takes_of rfl rfl rfl rfl) σ) (pa_cons (pv 1) pa_nil)))), ?_⟩)
  exact init1 T.oc_NoWord T.nf_NoWord_at rfl h
theorem ok_init_NotBook (T : Tx K mg) : FnOk Pg w K mg base (L2.CX Pg w) 31 T.i_NotBook T.di_NotBook ["self", "states"] (initSp (m_same_parts 30) T.C_NotBook ["states"]) := by
  refine T.fi_NotBook.okX sc_i_NotBook (fun vs H Q E h => initSp_len h) (fun cdv A outer s H vs Q E hr h => ⟨_, (pss_one (ps_ost (pv 0) (pe_callS (ok_same_parts T 30) (hr.mono (by omega)) (by rfl) T.g_same_parts T.fu_same_parts.kp T.b_same_parts (fun σ => passAt (W := wE E) (takes_of rfl rfl rfl rfl) σ) (pa_cons (pv 1) pa_nil)))), ?_⟩)
  exact init1 T.oc_NotBook T.nf_NotBook_states rfl h
theorem ok_init_BadState (T : Tx K mg) : FnOk Pg w K mg base (L2.CX Pg w) 31 T.i_BadState T.di_BadState ["self", "value"] (initSp (m_same_parts 30) T.C_BadState ["value"]) := by
  refine T.fi_BadState.okX sc_i_BadState (fun vs H Q E h => initSp_len h) (fun cdv A outer s H vs Q E hr h => ⟨_, (pss_one (ps_ost (pv 0) (pe_callS (ok_same_parts T 30) (hr.mono (by omega)) (by rfl) T.g_same_parts T.fu_same_parts.kp T.b_same_parts (fun σ => passAt (W := wE E) (takes_of rfl rfl rfl rfl) σ) (pa_cons (pv 1) pa_nil)))), ?_⟩)
  exact init1 T.oc_BadState T.nf_BadState_value rfl h
theorem ok_init_BadNumber (T : Tx K mg) : FnOk Pg w K mg base (L2.CX Pg w) 31 T.i_BadNumber T.di_BadNumber ["self", "place"] (initSp (m_same_parts 30) T.C_BadNumber ["place"]) := by
  refine T.fi_BadNumber.okX sc_i_BadNumber (fun vs H Q E h => initSp_len h) (fun cdv A outer s H vs Q E hr h => ⟨_, (pss_one (ps_ost (pv 0) (pe_callS (ok_same_parts T 30) (hr.mono (by omega)) (by rfl) T.g_same_parts T.fu_same_parts.kp T.b_same_parts (fun σ => passAt (W := wE E) (takes_of rfl rfl rfl rfl) σ) (pa_cons (pv 1) pa_nil)))), ?_⟩)
  exact init1 T.oc_BadNumber T.nf_BadNumber_place rfl h
theorem ok_init_Double (T : Tx K mg) : FnOk Pg w K mg base (L2.CX Pg w) 31 T.i_Double T.di_Double ["self", "at", "number"] (initSp (m_same_parts 30) T.C_Double ["at", "number"]) := by
  refine T.fi_Double.okX sc_i_Double (fun vs H Q E h => initSp_len h) (fun cdv A outer s H vs Q E hr h => ⟨_, (pss_cons (ps_ost (pv 0) (pe_callS (ok_same_parts T 30) (hr.mono (by omega)) (by rfl) T.g_same_parts T.fu_same_parts.kp T.b_same_parts (fun σ => passAt (W := wE E) (takes_of rfl rfl rfl rfl) σ) (pa_cons (pv 1) pa_nil)))
    (pss_one (ps_ost (pv 0) (pe_callS (ok_same_parts T 30) (hr.mono (by omega)) (by rfl) T.g_same_parts T.fu_same_parts.kp T.b_same_parts (fun σ => passAt (W := wE E) (takes_of rfl rfl rfl rfl) σ) (pa_cons (pv 2) pa_nil))))), ?_⟩)
  exact init2 T.oc_Double T.nf_Double_at T.nf_Double_number rfl h
theorem ok_check_state (T : Tx K mg) : FnOk Pg w K mg base (L2.CX Pg w) 33 T.a_check_state T.d_check_state ["plan", "state"] (spM mg B0 2 (m_check_state)) := by
  unfold m_check_state
  exact fn_mi T.fu_check_state sc_check_state B0 b_check_state (fun cdv A outer s H E F0 hr tk po =>
  (ss_one (s_if (t_not (t_val (x_call (ok_is_index T) (by exact hr.mono (by omega)) T.g_is_index T.fu_is_index.kp T.b_is_index tk (a_cons (x_var 1) (a_cons (x_cB call_len_seq (p_len _) T.z_len PySem.boot_len (a_cons (x_ix (x_var 0) x_int) a_nil)) a_nil)))))
  (ss_one (s_raise (by rfl) tk (r_make T.oc_BadState T.ic_BadState T.ti_BadState (ok_init_BadState T) (by exact hr.mono (by omega)) T.bi_BadState T.g_BadState T.g_BadState (by decide) (a_cons (x_call (ok_copied T 30) (by exact hr.mono (by omega)) T.g_copied T.fu_copied.kp T.b_copied tk (a_cons (x_var 1) a_nil)) a_nil))))
  ss_nil)))
theorem ok_is_book (T : Tx K mg) : FnOk Pg w K mg base (L2.CX Pg w) 1 T.a_is_book T.d_is_book ["plan"] (spM mg B0 1 (m_is_book)) := by
  unfold m_is_book
  exact fn_mi T.fu_is_book sc_is_book B0 b_is_book (fun cdv A outer s H E F0 hr tk po =>
  (ss_one (s_ret (x_cmp (o_eq hr) (p_eq _) (x_cB call_len_seq (p_len _) T.z_len PySem.boot_len (a_cons (x_ix (x_var 0) x_int) a_nil)) x_int (nomark _)))))
theorem ok_words_of (T : Tx K mg) : FnOk Pg w K mg base (L2.CX Pg w) 34 T.a_words_of T.d_words_of ["plan", "state"] (spM mg B0 2 (m_words_of)) := by
  unfold m_words_of
  exact fn_mi T.fu_words_of sc_words_of B0 b_words_of (fun cdv A outer s H E F0 hr tk po =>
  (ss_cons (s_expr (x_call (ok_check_state T) (by exact hr.mono (by omega)) T.g_check_state T.fu_check_state.kp T.b_check_state tk (a_cons (x_var 0) (a_cons (x_var 1) a_nil))))
  (ss_one (s_ret (x_cT call_tuple_of (p_tup _) T.z_tuple boot_tuple (a_cons (x_fz (f_lc [("word", 2), ("spare", 3)] (by rfl) sc_words_of.nd (i_seq (x_ix (x_ix (x_var 0) x_int) (x_var 1))) (blkOk_by (by kernel_rfl)) (fun _ _ _ _ _ => (g_tup (by rfl) (gs_cons (g_name sc_words_of.nd) (gs_cons (g_name sc_words_of.nd) gs_nil)) (gC_len (gC_len gE_len)))) (fun _ _ _ _ _ => ts_nil) (fun _ _ _ _ _ => (x_var 2)) (go_tup (go_cons (go_name 2) (go_cons (go_name 3) go_nil))))) a_nil))))))
theorem ok_book_words (T : Tx K mg) : FnOk Pg w K mg base (L2.CX Pg w) 35 T.a_book_words T.d_book_words ["book"] (spM mg B0 1 (m_book_words)) := by
  unfold m_book_words
  exact fn_mi T.fu_book_words sc_book_words B0 b_book_words (fun cdv A outer s H E F0 hr tk po =>
  (ss_cons (s_if (t_cmp (o_ne hr) (p_ne _) (x_cB call_len_seq (p_len _) T.z_len PySem.boot_len (a_cons (x_ix (x_var 0) x_int) a_nil)) x_int (nomark _))
  (ss_one (s_raise (by rfl) tk (r_make T.oc_NotBook T.ic_NotBook T.ti_NotBook (ok_init_NotBook T) (by exact hr.mono (by omega)) T.bi_NotBook T.g_NotBook T.g_NotBook (by decide) (a_cons (x_cB call_len_seq (p_len _) T.z_len PySem.boot_len (a_cons (x_ix (x_var 0) x_int) a_nil)) a_nil))))
  ss_nil)
  (ss_one (s_ret (x_call (ok_words_of T) (by exact hr.mono (by omega)) T.g_words_of T.fu_words_of.kp T.b_words_of tk (a_cons (x_var 0) (a_cons x_int a_nil)))))))
theorem ok_is_below (T : Tx K mg) : FnOk Pg w K mg base (L2.CX Pg w) 1 T.a_is_below T.d_is_below ["value", "end"] (spM mg B0 2 (m_is_below)) := by
  unfold m_is_below
  exact fn_mi T.fu_is_below sc_is_below B0 b_is_below (fun cdv A outer s H E F0 hr tk po =>
  (ss_one (s_ret (x_and (x_isD T.z_isinstance (x_var 0) T.z_int boot_int) (x_and (x_not (x_isD T.z_isinstance (x_var 0) T.z_bool boot_bool)) (x_one (x_chain o_le o_lt p_le p_lt x_int (x_var 0) (x_var 1))))))))
theorem ok_check_book (T : Tx K mg) : FnOk Pg w K mg base (L2.CX Pg w) 33 T.a_check_book T.d_check_book ["book"] (spM mg B0 1 (m_check_book)) := by
  unfold m_check_book
  exact fn_mi T.fu_check_book sc_check_book B0 b_check_book (fun cdv A outer s H E F0 hr tk po =>
  (ss_one (s_if (t_not (t_val (x_call (ok_is_book T) (by exact hr.mono (by omega)) T.g_is_book T.fu_is_book.kp T.b_is_book tk (a_cons (x_var 0) a_nil))))
  (ss_one (s_raise (by rfl) tk (r_make T.oc_NotBook T.ic_NotBook T.ti_NotBook (ok_init_NotBook T) (by exact hr.mono (by omega)) T.bi_NotBook T.g_NotBook T.g_NotBook (by decide) (a_cons (x_cB call_len_seq (p_len _) T.z_len PySem.boot_len (a_cons (x_ix (x_var 0) x_int) a_nil)) a_nil))))
  ss_nil)))
theorem ok_book_made (T : Tx K mg) : FnOk Pg w K mg base (L2.CX Pg w) 1 T.a_book_made T.d_book_made ["n", "words"] (spM mg B0 2 (m_book_made)) := by
  unfold m_book_made
  exact fn_mi T.fu_book_made sc_book_made B0 b_book_made (fun cdv A outer s H E F0 hr tk po =>
  (ss_one (s_ret (x_tup (a_cons (x_var 0) (a_cons (x_tup (a_cons (x_cT call_tuple_of (p_tup _) T.z_tuple boot_tuple (a_cons (x_fz (f_lc [("word", 2)] (by rfl) sc_book_made.nd (i_seq (x_var 1)) (blkOk_by (by kernel_rfl)) (fun _ _ _ _ _ => (g_name sc_book_made.nd)) (fun _ _ _ _ _ => ts_nil) (fun _ _ _ _ _ => (x_tup (a_cons (x_var 2) (a_cons x_int a_nil)))) (go_name 2))) a_nil)) a_nil)) a_nil))))))
theorem ok_part (T : Tx K mg) : FnOk Pg w K mg base (L2.CX Pg w) 36 T.a_part T.d_part ["book", "numbers"] (spM mg B0 2 (m_part)) := by
  unfold m_part
  exact fn_mi T.fu_part sc_part B0 b_part (fun cdv A outer s H E F0 hr tk po =>
  (ss_cons (s_expr (x_call (ok_check_book T) (by exact hr.mono (by omega)) T.g_check_book T.fu_check_book.kp T.b_check_book tk (a_cons (x_var 0) a_nil)))
  (ss_cons (s_set sc_part.nd (x_call (ok_book_words T) (by exact hr.mono (by omega)) T.g_book_words T.fu_book_words.kp T.b_book_words tk (a_cons (x_var 0) a_nil)))
  (ss_cons (s_newDK sc_part.nd)
  (ss_cons (s_for po (by rfl) (i_enum T.z_enumerate (a_cons (x_var 1) a_nil)) (g_tup (by rfl) (gs_cons (g_name sc_part.nd) (gs_cons (g_name sc_part.nd) gs_nil)) (gC_len (gC_len gE_len)))
  (ss_cons (s_if (t_not (t_val (x_call (ok_is_below T) (by exact hr.mono (by omega)) T.g_is_below T.fu_is_below.kp T.b_is_below tk (a_cons (x_var 5) (a_cons (x_cB call_len_seq (p_len _) T.z_len PySem.boot_len (a_cons (x_var 2) a_nil)) a_nil)))))
  (ss_one (s_raise (by rfl) tk (r_make T.oc_BadNumber T.ic_BadNumber T.ti_BadNumber (ok_init_BadNumber T) (by exact hr.mono (by omega)) T.bi_BadNumber T.g_BadNumber T.g_BadNumber (by decide) (a_cons (x_var 4) a_nil))))
  ss_nil)
  (ss_cons (s_if (t_dIn 3 (hu_of hr) (x_var 5))
  (ss_one (s_raise (by rfl) tk (r_make T.oc_Double T.ic_Double T.ti_Double (ok_init_Double T) (by exact hr.mono (by omega)) T.bi_Double T.g_Double T.g_Double (by decide) (a_cons x_int (a_cons (x_dGet 3 (hu_of hr) (x_var 5)) a_nil)))))
  ss_nil)
  (ss_one (s_dPut 3 (hu_of hr) (x_var 4) (x_var 5))))))
  (ss_cons (s_if (t_not (t_truO 3))
  (ss_one (s_raise (by rfl) tk (r_make T.oc_NoWord T.ic_NoWord T.ti_NoWord (ok_init_NoWord T) (by exact hr.mono (by omega)) T.bi_NoWord T.g_NoWord T.g_NoWord (by decide) (a_cons x_int a_nil))))
  ss_nil)
  (ss_one (s_ret (x_call (ok_book_made T) (by exact hr.mono (by omega)) T.g_book_made T.fu_book_made.kp T.b_book_made tk (a_cons (x_ix (x_var 0) x_int) (a_cons (x_fz (f_lc [("number", 5)] (by rfl) sc_part.nd (i_seq (x_var 1)) (blkOk_by (by kernel_rfl)) (fun _ _ _ _ _ => (g_name sc_part.nd)) (fun _ _ _ _ _ => ts_nil) (fun _ _ _ _ _ => (x_ix (x_var 2) (x_var 5))) (go_name 5))) a_nil)))))))))))
theorem ok__law_mixed (T : Tx K mg) : FnOk Pg w K mg base (L2.CX Pg w) 1 T.a__law_mixed T.d__law_mixed ["number", "step"] spMixed := by
  refine T.fu__law_mixed.okX sc__law_mixed (fun vs H Q E h => ?_) (fun cdv A outer s H vs Q E hr h => ⟨_, pss_cons (ps_set (i := 2) sc__law_mixed.nd rfl (.inl rfl) (pe_op op_mod (pe_callTy call_int1 (by rfl) T.z_int boot_int (pa_cons (pe_op op_add (pe_op op_add (pe_op op_mul (pv 0) pe_int) (pe_op op_mul (pv 1) pe_int)) pe_int) pa_nil)) pe_int))
    (pss_cons (ps_set (i := 3) sc__law_mixed.nd rfl (.inl rfl) (pe_op op_mod (pe_callTy call_int1 (by rfl) T.z_int boot_int (pa_cons (pe_op op_add (pe_op op_add (pe_op op_add (pe_op op_mul (pv 2) (pv 2)) (pe_op op_mul (pv 1) pe_int)) (pe_op o_div (pv 2) pe_int)) pe_int) pa_nil)) pe_int))
    (pss_cons (ps_set (i := 4) sc__law_mixed.nd rfl (.inl rfl) (pe_op op_mod (pe_callTy call_int1 (by rfl) T.z_int boot_int (pa_cons (pe_op op_add (pe_op op_add (pe_op op_add (pe_op op_mul (pv 3) (pv 3)) (pe_op o_div (pv 3) pe_int)) (pv 2)) (pv 1)) pa_nil)) pe_int))
    (pss_one (ps_ret (pe_op op_add (pe_op op_mul (pv 4) pe_int) (pv 3)))))), ?_⟩)
  · obtain ⟨n, z, rfl, _⟩ := h
    rfl
  · obtain ⟨n, z, rfl, q⟩ := h
    refine ⟨_, rfl, n, 48271, rfl, rfl, .inr ⟨by decide, by decide⟩, _, rfl, z, 69621, rfl, rfl, .inr ⟨by decide, by decide⟩, _, _, rfl, rfl, _, 12345, rfl, rfl, .inl ⟨_, rfl, _, 2147483647, rfl, rfl, (show (0 : Int) < 2147483647 by decide), ?_⟩⟩
    obtain ⟨one, h1⟩ : ∃ one, (n * 48271 + z * 69621 + 12345) % 2147483647 = one := ⟨_, rfl⟩
    show gName 2 (V.int ((n * 48271 + z * 69621 + 12345) % 2147483647)) _ _ _
    rw [h1]
    have b1 := Int.emod_nonneg (n * 48271 + z * 69621 + 12345) (show (2147483647 : Int) ≠ 0 by decide)
    have c1 := Int.emod_lt_of_pos (n * 48271 + z * 69621 + 12345) (show (0 : Int) < 2147483647 by decide)
    rw [h1] at b1 c1
    refine ⟨_, rfl, _, rfl, one, one, rfl, rfl, .inl ⟨by omega, by omega⟩, _, rfl, z, 16807, rfl, rfl, .inr ⟨by decide, by decide⟩, _, _, rfl, rfl, _, rfl, one, 65536, rfl, rfl, ⟨by decide, by decide⟩, _, _, rfl, rfl, _, 7, rfl, rfl, .inl ⟨_, rfl, _, 2147483629, rfl, rfl, (show (0 : Int) < 2147483629 by decide), ?_⟩⟩
    obtain ⟨two, h2⟩ : ∃ two, (one * one + z * 16807 + one / 65536 + 7) % 2147483629 = two := ⟨_, rfl⟩
    show gName 3 (V.int ((one * one + z * 16807 + one / 65536 + 7) % 2147483629)) _ _ _
    rw [h2]
    have b2 := Int.emod_nonneg (one * one + z * 16807 + one / 65536 + 7) (show (2147483629 : Int) ≠ 0 by decide)
    have c2 := Int.emod_lt_of_pos (one * one + z * 16807 + one / 65536 + 7) (show (0 : Int) < 2147483629 by decide)
    rw [h2] at b2 c2
    refine ⟨_, rfl, _, rfl, two, two, rfl, rfl, .inl ⟨by omega, by omega⟩, _, rfl, two, 8192, rfl, rfl, ⟨by decide, by decide⟩, _, _, rfl, rfl, _, rfl, _, one, rfl, rfl, _, rfl, _, z, rfl, rfl, .inl ⟨_, rfl, _, 2147483399, rfl, rfl, (show (0 : Int) < 2147483399 by decide), ?_⟩⟩
    refine ⟨_, rfl, _, 2147483629, rfl, rfl, .inr ⟨by decide, by decide⟩, _, rfl, _, two, rfl, rfl, ?_⟩
    have e : mixed n z = (two * two + two / 8192 + one + z) % 2147483399 * 2147483629 + two := by unfold mixed; rw [h1]; dsimp only; rw [h2]
    show Q (V.int ((two * two + two / 8192 + one + z) % 2147483399 * 2147483629 + two)) H
    rw [← e]
    exact q

theorem ok__law_store (T : Tx K mg) : FnOk Pg w K mg base (L2.CX Pg w) 1 T.a__law_store T.d__law_store ["script"] (spStore K) := by
  have nd := sc__law_store.nd
  refine T.fu__law_store.okX sc__law_store (fun vs H Q E h => ?_) fun cdv A outer s H vs Q E hr h => ⟨_,
    pss_cons (ps_set (i := 1) nd rfl (.inl rfl) (pe_lst pa_nil))
    (pss_cons (ps_set (i := 2) nd rfl (.inl rfl) pe_int)
    (pss_cons (ps_for (passes_of rfl) rfl (pi_list (pe_slice sl_list (pv 0) po_none (po_some pe_int))) (pg_name (i := 3) nd rfl (.inl rfl))
      (pss_cons (ps_if (pt_chain op_lt op_lt (pe_un un_neg (pe_op op_pow pe_int pe_int)) (pv 3) (pe_op op_pow pe_int pe_int))
        (pss_one (ps_expr (pe_bm PySem.F.plainAttrs_list PySem.F.slot_list_append PySem.F.type_list_append mt_append (pv 1) (pa_cons (pe_lst (pa_cons pe_int (pa_cons (pe_op op_mod (pe_callTy call_int1 (by rfl) T.z_int boot_int (pa_cons (pv 3) pa_nil)) pe_int) pa_nil))) pa_nil))))
        (pss_one (ps_expr (pe_bm PySem.F.plainAttrs_list PySem.F.slot_list_append PySem.F.type_list_append mt_append (pv 1) (pa_cons (pe_lst (pa_cons pe_int (pa_cons (pe_op op_mod (pe_callTy call_int1 (by rfl) T.z_int boot_int (pa_cons (pe_callB call_abs (by rfl) T.z_abs boot_abs (pa_cons (pv 3) pa_nil)) pa_nil)) (pe_op op_pow pe_int pe_int)) pa_nil))) pa_nil)))))
      (pss_one (ps_set (i := 2) nd rfl (.inl rfl) (pe_op op_mod (pe_callTy call_int1 (by rfl) T.z_int boot_int (pa_cons (pe_op op_add (pe_op op_add (pe_op op_mul (pv 2) pe_int) (pe_ix ix_list (pe_ix ix_list (pv 1) (pe_un un_neg pe_int) (fun _ _ => rfl)) pe_int (fun _ _ => rfl))) pe_int) pa_nil)) pe_int)))))
    (pss_one (ps_ret (pe_lst (pa_cons (pv 1) (pa_cons pe_int (pa_cons pe_int (pa_cons (pv 2) (pa_cons pe_int pa_nil)))))))))), ?_⟩
  · obtain ⟨a, ns, rfl, _⟩ := h
    rfl
  · obtain ⟨a, ns, rfl, hS, hl, q⟩ := h
    -- cells = []
    refine ⟨Nat.zero_le _, fun c nc => ?_⟩
    -- script[:63]
    have s1 : Same H (upd H c (.lst [])) := fun b o e => by rw [upd_ne (fun z : b = c => by rw [z, nc] at e; cases e)]; exact e
    refine ⟨.ref a, rfl, 63, rfl, a, ns.map V.int, rfl, s1.seq hS, fun b nb => ?_⟩
    have nbc : c ≠ b := fun z => by rw [← z, upd_same] at nb; cases nb
    refine ⟨b, rfl, ⟨_, .of upd_same⟩, ?_⟩
    generalize hz : cutV (ns.map V.int) none (some 63) = zs
    have hzi : ∀ v ∈ zs, ∃ i, v = .int i := fun v hv => cut_int (by rw [hz]; exact hv)
    have hzl : zs.length ≤ 1000 := by
      rw [← hz]
      exact Nat.le_trans (cutV_length _ _ _) (by rw [List.length_map]; exact hl)
    refine for_list (xs := zs) (fun i σ H' => ∃ x3 cs sd, σ = [some (.ref a), some (.ref c), some (.int sd), x3] ∧ CellsAt c cs H' ∧ cs.length = i ∧ H' b = some (.lst zs)) ⟨none, [], 77, rfl, ⟨by rw [upd_ne nbc, upd_same] <;> rfl, fun _ z => (nomatch z), fun z => nomatch z⟩, rfl, upd_same⟩ (fun i σ H' _ ⟨_, _, _, _, _, _, e⟩ => .of e) ?_ ?_
    · rintro i y σ H2 hi ⟨x3, cs, sd, rfl, hC, hlen, hb⟩
      obtain ⟨z, rfl⟩ := hzi y (List.mem_of_getElem? hi)
      have hil : i < zs.length := (List.getElem?_eq_some_iff.mp hi).1
      refine sq_if (decide (-(10 : Int) ^ (18 : Int).toNat < z) && decide (z < (10 : Int) ^ (18 : Int).toNat)) (fun Q q => chain_lt (a := -(10 : Int) ^ (18 : Int).toNat) (b := z) (c := (10 : Int) ^ (18 : Int).toNat) (fun Q q => ⟨10, 18, rfl, rfl, ⟨by decide, by decide, by decide⟩, _, rfl, q⟩) (fun Q q => ⟨_, rfl, q⟩) (fun Q q => ⟨10, 18, rfl, rfl, ⟨by decide, by decide, by decide⟩, q⟩) q) (fun _ => ?_) (fun _ => ?_)
      · refine ⟨.ref c, rfl, .inl ⟨rfl, _, .inl (.inl hC.hc)⟩, _, rfl, .inl ⟨_, rfl, _, 2147483647, rfl, rfl, (show (0 : Int) < 2147483647 by decide), by show 2 ≤ sizeLine; decide, fun qa nq => ?_⟩⟩
        have nqb : b ≠ qa := fun y => by rw [y, nq] at hb; cases hb
        have nqc : c ≠ qa := fun y => by rw [← y, hC.hc] at nq; cases nq
        have C4 : CellsAt c (cs ++ [qa]) (upd (upd H2 qa (.lst [.int 0, .int (z % 2147483647)])) c (.lst (cs.map V.ref ++ [.ref qa]))) := by
          have y := hC.add (k := 0) (v := (z % 2147483647)) nq
          rw [List.map_append] at y
          exact y
        refine ⟨c, _, _, rfl, rfl, by rw [upd_ne nqc]; exact hC.hc, by rw [List.length_map, hlen]; exact Nat.lt_of_lt_of_le hil (Nat.le_trans hzl (by decide)), ?_⟩
        have h5 : SqL K (upd (upd H2 qa (.lst [.int 0, .int (z % 2147483647)])) c (.lst (cs.map V.ref ++ [.ref qa]))) qa (cellV (0, (z % 2147483647))) := .of (by rw [upd_ne (Ne.symm nqc), upd_same] <;> rfl)
        refine ⟨_, rfl, _, 48271, rfl, rfl, .inr ⟨by decide, by decide⟩, _, rfl, 1, rfl, c, _, -1, _, rfl, rfl, .of upd_same, atI_last1, qa, _, 1, _, rfl, rfl, h5, rfl, _, _, rfl, rfl, _, 13, rfl, rfl, .inl ⟨_, rfl, _, 2147483647, rfl, rfl, (show (0 : Int) < 2147483647 by decide), ?_⟩⟩
        exact ⟨_, cs ++ [qa], _, rfl, C4, by rw [List.length_append, hlen]; rfl, by rw [upd_ne (Ne.symm nbc), upd_ne nqb]; exact hb⟩
      · refine ⟨.ref c, rfl, .inl ⟨rfl, _, .inl (.inl hC.hc)⟩, _, rfl, _, rfl, .inl ⟨_, rfl, 10, 60, rfl, rfl, ⟨by decide, by decide, by decide⟩, _, _, rfl, rfl, pow60, by show 2 ≤ sizeLine; decide, fun qa nq => ?_⟩⟩
        have nqb : b ≠ qa := fun y => by rw [y, nq] at hb; cases hb
        have nqc : c ≠ qa := fun y => by rw [← y, hC.hc] at nq; cases nq
        have C4 : CellsAt c (cs ++ [qa]) (upd (upd H2 qa (.lst [.int 1, .int ((if z < 0 then -z else z) % 10 ^ (60 : Int).toNat)])) c (.lst (cs.map V.ref ++ [.ref qa]))) := by
          have y := hC.add (k := 1) (v := ((if z < 0 then -z else z) % 10 ^ (60 : Int).toNat)) nq
          rw [List.map_append] at y
          exact y
        refine ⟨c, _, _, rfl, rfl, by rw [upd_ne nqc]; exact hC.hc, by rw [List.length_map, hlen]; exact Nat.lt_of_lt_of_le hil (Nat.le_trans hzl (by decide)), ?_⟩
        have h5 : SqL K (upd (upd H2 qa (.lst [.int 1, .int ((if z < 0 then -z else z) % 10 ^ (60 : Int).toNat)])) c (.lst (cs.map V.ref ++ [.ref qa]))) qa (cellV (1, ((if z < 0 then -z else z) % 10 ^ (60 : Int).toNat))) := .of (by rw [upd_ne (Ne.symm nqc), upd_same] <;> rfl)
        refine ⟨_, rfl, _, 48271, rfl, rfl, .inr ⟨by decide, by decide⟩, _, rfl, 1, rfl, c, _, -1, _, rfl, rfl, .of upd_same, atI_last1, qa, _, 1, _, rfl, rfl, h5, rfl, _, _, rfl, rfl, _, 13, rfl, rfl, .inl ⟨_, rfl, _, 2147483647, rfl, rfl, (show (0 : Int) < 2147483647 by decide), ?_⟩⟩
        exact ⟨_, cs ++ [qa], _, rfl, C4, by rw [List.length_append, hlen]; rfl, by rw [upd_ne (Ne.symm nbc), upd_ne nqb]; exact hb⟩
    · rintro σ H2 ⟨x3, cs, sd, rfl, hC, hlen, hb⟩
      refine ⟨_, rfl, _, rfl, by show 5 ≤ sizeLine; decide, fun p np => ?_⟩
      have npc : c ≠ p := fun y => by rw [← y, hC.hc] at np; cases np
      have hnp : p ∉ cs := fun y => by
        obtain ⟨k, v, e⟩ := hC.hs p y
        rw [np] at e; cases e
      obtain ⟨m, hm⟩ : ∃ m : Addr → Int × Int, ∀ x ∈ cs, H2 x = some (.lst (cellV (m x))) := by
        classical
        refine ⟨fun x => if h : ∃ kv : Int × Int, H2 x = some (.lst (cellV kv)) then h.choose else (0, 0), fun x hx => ?_⟩
        have h : ∃ kv : Int × Int, H2 x = some (.lst (cellV kv)) := by
          obtain ⟨k, v, e⟩ := hC.hs x hx
          exact ⟨(k, v), e⟩
        dsimp only
        rw [dif_pos h]
        exact h.choose_spec
      refine q p c cs ⟨m, 0, 0, sd, 0⟩ _ ⟨upd_same, by rw [upd_ne npc]; exact hC.hc, fun x hx => ?_, Ne.symm npc, hnp, hC.nc, ⟨Int.le_refl _, Int.natCast_nonneg _⟩, by omega⟩
      rw [upd_ne (fun y : x = p => hnp (y ▸ hx))]
      exact hm x hx

theorem ok__law_take (T : Tx K mg) (p c : Addr) (cs : List Addr) : FnOk Pg w K mg base (L2.CX Pg w) 2 T.a__law_take T.d__law_take ["store", "count"] (spM mg (Bsto p c cs) 2 (m__law_take cs)) := by
  have G2 := ok__law_mixed (Pg := Pg) (w := w) (base := base) T
  have nd := sc__law_take.nd
  refine T.fu__law_take.okX sc__law_take (fun vs H Q E h => h.1) fun cdv A outer s H vs Q E hr h => ⟨_,
    pss_cons (ps_set (i := 2) nd rfl (.inl rfl) (pe_ix ix_list (pv 0) pe_int (fun _ _ => rfl)))
    (pss_cons (ps_asg (pe_op op_add (pe_ix ix_list (pv 0) pe_int (fun _ _ => rfl)) pe_int) (pg_sub (pv 0) pe_int set_list (fun _ => rfl)))
    (pss_cons (ps_if (pt_cmpR op_lt (pv 1) pe_int (nomark _)) (pss_one (ps_ret pe_int)) pss_nil)
    (pss_cons (ps_for (passes_of rfl) rfl (pi_range2 (by rfl) T.z_range (pa_cons (pe_ix ix_list (pv 0) pe_int (fun _ _ => rfl)) (pa_cons (pe_callB call_len_seq (by rfl) T.z_len PySem.boot_len (pa_cons (pv 2) pa_nil)) pa_nil)) (by rfl) (by rfl)) (pg_name (i := 3) nd rfl (.inl rfl))
      (pss_cons (ps_set (i := 4) nd rfl (.inl rfl) (pe_ix ix_list (pv 2) (pv 3) (fun _ _ => rfl)))
      (pss_cons (ps_asg (pv 3) (pg_sub (pv 0) pe_int set_list (fun _ => rfl)))
      (pss_cons (ps_if (pw_and (pt_cmpR op_eq (pe_ix ix_list (pv 4) pe_int (fun _ _ => rfl)) pe_int (nomark _)) (pw_and1 (pt_cmpR op_gt (pe_ix ix_list (pv 4) pe_int (fun _ _ => rfl)) pe_int (nomark _)))).pt
        (pss_cons (ps_set (i := 5) nd rfl (.inl rfl) (pe_op op_mod (pe_callTy call_int1 (by rfl) T.z_int boot_int (pa_cons (pe_ix ix_list (pv 4) pe_int (fun _ _ => rfl)) pa_nil)) (pv 1)))
        (pss_cons (ps_asg (pe_op o_div (pe_ix ix_list (pv 4) pe_int (fun _ _ => rfl)) (pv 1)) (pg_sub (pv 4) pe_int set_list (fun _ => rfl)))
        (pss_one (ps_ret (pv 5))))) pss_nil)
      (pss_cons (ps_if (pw_and (pt_cmpR op_eq (pe_ix ix_list (pv 4) pe_int (fun _ _ => rfl)) pe_int (nomark _)) (pw_and1 (pt_cmpR op_lt (pe_ix ix_list (pv 0) pe_int (fun _ _ => rfl)) pe_int (nomark _)))).pt
        (pss_cons (ps_asg (pe_op op_add (pe_ix ix_list (pv 0) pe_int (fun _ _ => rfl)) pe_int) (pg_sub (pv 0) pe_int set_list (fun _ => rfl)))
        (pss_one (ps_ret (pe_op op_mod (pe_callTy call_int1 (by rfl) T.z_int boot_int (pa_cons (pe_callS G2 hr (by rfl) T.g__law_mixed T.fu__law_mixed.kp T.b__law_mixed (fun σ => passAt (W := wE E) (takes_of rfl rfl rfl rfl) σ) (pa_cons (pe_op op_add (pe_ix ix_list (pv 4) pe_int (fun _ _ => rfl)) (pe_op op_mul (pv 3) pe_int)) (pa_cons (pe_ix ix_list (pv 0) pe_int (fun _ _ => rfl)) pa_nil))) pa_nil)) (pv 1))))) pss_nil)
      (pss_one (ps_asg pe_int (pg_sub (pv 0) pe_int set_list (fun _ => rfl)))))))))
    (pss_cons (ps_asg (pe_callB call_len_seq (by rfl) T.z_len PySem.boot_len (pa_cons (pv 2) pa_nil)) (pg_sub (pv 0) pe_int set_list (fun _ => rfl)))
    (pss_one (ps_ret (pe_op op_mod (pe_callTy call_int1 (by rfl) T.z_int boot_int (pa_cons (pe_callS G2 hr (by rfl) T.g__law_mixed T.fu__law_mixed.kp T.b__law_mixed (fun σ => passAt (W := wE E) (takes_of rfl rfl rfl rfl) σ) (pa_cons (pe_ix ix_list (pv 0) pe_int (fun _ _ => rfl)) (pa_cons (pe_ix ix_list (pv 0) pe_int (fun _ _ => rfl)) pa_nil))) pa_nil)) (pv 1)))))))), ?_⟩
  obtain ⟨_, F0, as, s0, hx, off, sto, ra, h⟩ := h
  unfold m__law_take m_take at h
  split at h
  · rename_i n
    split at h
    · rename_i hl
      cases ra with
      | tok r1 =>
        cases r1 with
        | d r2 r3 =>
          cases r3
          cases r2
          have off' : ∀ a ∈ p :: c :: cs, F0 a = none := off
          have sto : StoAt p c cs s0 H := sto
          -- cells = store[0]
          refine ⟨_, rfl, p, _, 0, _, rfl, rfl, .of sto.hp, rfl, ?_⟩
          -- store[4] = store[4] + 1
          refine ⟨_, rfl, p, _, 4, _, rfl, rfl, .of sto.hp, rfl, s0.steps, 1, rfl, rfl, ?_⟩
          refine ⟨_, rfl, p, _, 4, 4, rfl, rfl, sto.hp, rfl, ?_⟩
          have fin : ∀ r s1 H1, StoAt p c cs s1 H1 → Fr (p :: c :: cs) H H1 → takeF cs n s0 = (r, s1) → Q (.int r) H1 := fun r s1 H1 z1 z2 z3 => by
            rw [z3] at h
            exact h F0 H1 (Fr.pst (B := Bsto p c cs) z2 hx off z1) _ (.int r)
          have st1 : StoAt p c cs { s0 with steps := s0.steps + 1 } (upd H p (.lst (stoV c { s0 with steps := s0.steps + 1 }))) := sto.st rfl sto.pz
          have fr1 : Fr (p :: c :: cs) H (upd H p (.lst (stoV c { s0 with steps := s0.steps + 1 }))) := Fr.refl.upd List.mem_cons_self
          show tSeq _ _ _ _ (upd H p (.lst (stoV c { s0 with steps := s0.steps + 1 })))
          generalize upd H p (.lst (stoV c { s0 with steps := s0.steps + 1 })) = H1 at st1 fr1
          -- if count < 2
          refine ⟨_, rfl, n, 2, rfl, rfl, _, rfl, ite2 (fun e => ?_) (fun e => ?_)⟩
          · have e' : n < 2 := of_decide_eq_true e
            exact fin 0 _ H1 st1 fr1 (by unfold takeF; rw [if_pos e'])
          have e' : ¬ n < 2 := fun z => e (decide_eq_true z)
          -- the loop
          have hpos := sto.pz
          have hcl := sto.cl
          refine ⟨_, rfl, p, _, 1, _, rfl, rfl, .of st1.hp, rfl, _, rfl, c, _, rfl, .inl (.of st1.hc), s0.pos, ((cs.map V.ref).length : Nat), rfl, ⟨by omega, by omega, by rw [List.length_map]; omega, by rw [List.length_map]; omega⟩, ?_⟩
          refine for_range (lo := s0.pos) (n := (((cs.map V.ref).length : Nat) - s0.pos).toNat) (fun i σ H' => ∃ x3 x4 x5 s, σ = [some (.ref p), some (.int n), some (.ref c), x3, x4, x5] ∧ StoAt p c cs s H' ∧ Fr (p :: c :: cs) H H' ∧ takeL cs.length n (cs.drop (s0.pos.toNat + i)) (s0.pos + i) s = takeF cs n s0)
            ⟨none, none, none, _, rfl, st1, fr1, ?_⟩ ?_ ?_
          · unfold takeF
            rw [if_neg e']
            simp
          · rintro i σ H2 hi ⟨x3, x4, x5, s2, rfl, st2, fr2, q2⟩
            rw [List.length_map] at hi
            have hj : s0.pos.toNat + i < cs.length := by omega
            have hja : cs[s0.pos.toNat + i]? = some cs[s0.pos.toNat + i] := List.getElem?_eq_getElem hj
            generalize cs[s0.pos.toNat + i] = a at hja
            have ha : a ∈ cs := List.mem_of_getElem? hja
            have hc0 : s0.pos + (i : Int) = ((s0.pos.toNat + i : Nat) : Int) := by omega
            have hd : cs.drop (s0.pos.toNat + i) = a :: cs.drop (s0.pos.toNat + (i + 1)) := by
              obtain ⟨h1, h2⟩ := List.getElem?_eq_some_iff.mp hja
              rw [List.drop_eq_getElem_cons h1, h2]
              rfl
            rw [hd] at q2
            unfold takeL at q2
            have na : a ≠ p := fun z => sto.n2 (z ▸ ha)
            -- cell = cells[at]
            refine ⟨_, rfl, _, rfl, c, _, s0.pos + i, _, rfl, rfl, .of st2.hc, idx_cell hja hc0, ?_⟩
            -- store[1] = at
            refine ⟨_, rfl, _, rfl, p, _, 1, 1, rfl, rfl, st2.hp, rfl, ?_⟩
            have st3 : StoAt p c cs { s2 with pos := s0.pos + i } (upd H2 p (.lst ((stoV c s2).set 1 (.int (s0.pos + i))))) := st2.st (s' := { s2 with pos := s0.pos + i }) rfl ⟨by show 0 ≤ s0.pos + (i : Int); omega, by show s0.pos + (i : Int) ≤ _; omega⟩
            have fr3 : Fr (p :: c :: cs) H (upd H2 p (.lst ((stoV c s2).set 1 (.int (s0.pos + i))))) := fr2.upd List.mem_cons_self
            dsimp only
            generalize upd H2 p (.lst ((stoV c s2).set 1 (.int (s0.pos + i)))) = H3 at st3 fr3
            have hx3 := st3.hs a ha
            have hn0 : 0 < n := by omega
            refine sq_and (decide (V.int (s2.m a).1 = V.int 1)) (decide (0 < (s2.m a).2)) (fun Q q => ⟨_, rfl, a, _, 0, _, rfl, rfl, .of hx3, rfl, rfl, _, rfl, q⟩) (fun Q q => ⟨_, rfl, a, _, 1, _, rfl, rfl, .of hx3, rfl, _, _, rfl, rfl, _, rfl, q⟩) (fun b => ?_) (fun b => ?_)
            · obtain ⟨b1, b2⟩ := Bool.and_eq_true_iff.mp b
              have b1' : (s2.m a).1 = 1 := V.int.inj (of_decide_eq_true b1)
              have b2' := of_decide_eq_true b2
              rw [if_pos ⟨b1', b2'⟩] at q2
              refine ⟨_, rfl, a, _, 1, _, rfl, rfl, .of hx3, rfl, .inl ⟨_, rfl, _, rfl, _, n, rfl, rfl, hn0, ?_⟩⟩
              refine ⟨_, rfl, a, _, 1, _, rfl, rfl, .of hx3, rfl, _, rfl, _, n, rfl, rfl, ⟨hn0, hl⟩, _, rfl, a, _, 1, 1, rfl, rfl, hx3, rfl, ?_⟩
              refine ⟨_, rfl, ?_⟩
              exact fin _ _ _ (st3.cell (x := ((s2.m a).1, (s2.m a).2 / n)) ha) (fr3.upd (List.mem_cons_of_mem _ (List.mem_cons_of_mem _ ha))) q2.symm
            · have nb : ¬ ((s2.m a).1 = 1 ∧ 0 < (s2.m a).2) := fun z => by
                rw [decide_eq_true z.2, decide_eq_true (congrArg V.int z.1)] at b
                cases b
              rw [if_neg nb] at q2
              refine sq_and (decide (V.int (s2.m a).1 = V.int 0)) (decide (s2.tries < 4)) (fun Q q => ⟨_, rfl, a, _, 0, _, rfl, rfl, .of hx3, rfl, rfl, _, rfl, q⟩) (fun Q q => ⟨_, rfl, p, _, 2, _, rfl, rfl, .of st3.hp, rfl, _, _, rfl, rfl, _, rfl, q⟩) (fun b => ?_) (fun b => ?_)
              · obtain ⟨b1, b2⟩ := Bool.and_eq_true_iff.mp b
                have b1' : (s2.m a).1 = 0 := V.int.inj (of_decide_eq_true b1)
                have b2' := of_decide_eq_true b2
                rw [if_pos ⟨b1', b2'⟩] at q2
                refine ⟨_, rfl, p, _, 2, _, rfl, rfl, .of st3.hp, rfl, s2.tries, 1, rfl, rfl, _, rfl, p, _, 2, 2, rfl, rfl, st3.hp, rfl, ?_⟩
                have st4 : StoAt p c cs { s2 with pos := s0.pos + i, tries := s2.tries + 1 } (upd H3 p (.lst ((stoV c { s2 with pos := s0.pos + i }).set 2 (.int (s2.tries + 1))))) := st3.st (s' := { s2 with pos := s0.pos + i, tries := s2.tries + 1 }) rfl st3.pz
                have fr4 : Fr (p :: c :: cs) H (upd H3 p (.lst ((stoV c { s2 with pos := s0.pos + i }).set 2 (.int (s2.tries + 1))))) := fr3.upd List.mem_cons_self
                dsimp only
                generalize upd H3 p (.lst ((stoV c { s2 with pos := s0.pos + i }).set 2 (.int (s2.tries + 1)))) = H4 at st4 fr4
                have hx4 := st4.hs a ha
                refine ⟨_, rfl, a, _, 1, _, rfl, rfl, .of hx4, rfl, _, rfl, _, 7919, rfl, rfl, .inr ⟨by decide, by decide⟩, _, _, rfl, rfl, _, rfl, p, _, 2, _, rfl, rfl, .of st4.hp, rfl, _, _, rfl, .inl ⟨_, rfl, _, rfl, _, n, rfl, rfl, hn0, ?_⟩⟩
                exact fin _ _ _ st4 fr4 q2.symm
              · have nb : ¬ ((s2.m a).1 = 0 ∧ s2.tries < 4) := fun z => by
                  rw [decide_eq_true z.2, decide_eq_true (congrArg V.int z.1)] at b
                  cases b
                rw [if_neg nb] at q2
                refine ⟨_, rfl, p, _, 2, 2, rfl, rfl, st3.hp, rfl, ?_⟩
                refine ⟨_, _, _, { s2 with pos := s0.pos + i, tries := 0 }, rfl, st3.st (s' := { s2 with pos := s0.pos + i, tries := 0 }) rfl st3.pz, fr3.upd List.mem_cons_self, ?_⟩
                rw [show s0.pos + ((i + 1 : Nat) : Int) = s0.pos + i + 1 by omega]
                exact q2
          · rintro σ H2 ⟨x3, x4, x5, s2, rfl, st2, fr2, q2⟩
            rw [List.length_map] at q2
            have hd : cs.drop (s0.pos.toNat + (((cs.length : Nat) : Int) - s0.pos).toNat) = [] := List.drop_eq_nil_of_le (by omega)
            rw [hd] at q2
            unfold takeL at q2
            have hn0 : 0 < n := by omega
            have eL : (((cs.map V.ref).length : Nat) : Int) = (cs.length : Nat) := by rw [List.length_map]
            refine ⟨_, rfl, c, _, rfl, .inl (.of st2.hc), _, rfl, p, _, 1, 1, rfl, rfl, st2.hp, rfl, ?_⟩
            have st3 : StoAt p c cs { s2 with pos := ((cs.map V.ref).length : Nat) } (upd H2 p (.lst ((stoV c s2).set 1 (.int ((cs.map V.ref).length : Nat))))) := st2.st (s' := { s2 with pos := ((cs.map V.ref).length : Nat) }) rfl ⟨by show (0 : Int) ≤ ((cs.map V.ref).length : Nat); omega, by show (((cs.map V.ref).length : Nat) : Int) ≤ _; omega⟩
            have fr3 : Fr (p :: c :: cs) H (upd H2 p (.lst ((stoV c s2).set 1 (.int ((cs.map V.ref).length : Nat))))) := fr2.upd List.mem_cons_self
            dsimp only
            generalize upd H2 p (.lst ((stoV c s2).set 1 (.int ((cs.map V.ref).length : Nat)))) = H3 at st3 fr3
            refine ⟨_, rfl, p, _, 3, _, rfl, rfl, .of st3.hp, rfl, _, rfl, p, _, 4, _, rfl, rfl, .of st3.hp, rfl, _, _, rfl, .inl ⟨_, rfl, _, rfl, _, n, rfl, rfl, hn0, ?_⟩⟩
            exact fin _ _ _ st3 fr3 (by rw [← q2, eL])
    · exact h.elim
  · exact h.elim

theorem ok__law_number (T : Tx K mg) (p c : Addr) (cs : List Addr) : FnOk Pg w K mg base (L2.CX Pg w) 3 T.a__law_number T.d__law_number ["store", "least", "high"] (spM mg (Bsto p c cs) 3 (m__law_number cs)) := by
  unfold m__law_number
  exact fn_mi T.fu__law_number sc__law_number (Bsto p c cs) (b__law_number cs) (fun cdv A outer s H E F0 hr tk po =>
  (ss_cons (s_if (t_cmp o_le p_le (x_var 2) (x_var 1) (nomark _))
  (ss_one (s_retV 1))
  ss_nil)
  (ss_cons (s_set sc__law_number.nd (x_call (ok__law_take T _ _ _) (by exact hr.mono (by omega)) T.g__law_take T.fu__law_take.kp T.b__law_take tk (a_tok 0 (a_cons x_int a_nil))))
  (ss_cons (s_if (t_cmp (o_eq hr) (p_eq _) (x_var 3) x_int (nomark _))
  (ss_one (s_retV 1))
  ss_nil)
  (ss_cons (s_if (t_cmp (o_eq hr) (p_eq _) (x_var 3) x_int (nomark _))
  (ss_one (s_retV 2))
  ss_nil)
  (ss_one (s_ret (x_op o_add (p_add _) (x_var 1) (x_call (ok__law_take T _ _ _) (by exact hr.mono (by omega)) T.g__law_take T.fu__law_take.kp T.b__law_take tk (a_tok 0 (a_cons (x_op o_add (p_add _) (x_op o_sub p_sub (x_var 2) (x_var 1)) x_int) a_nil)))))))))))
theorem ok__law_great (T : Tx K mg) (p c : Addr) (cs : List Addr) : FnOk Pg w K mg base (L2.CX Pg w) 3 T.a__law_great T.d__law_great ["store"] (spM mg (Bsto p c cs) 1 (m__law_great cs)) := by
  unfold m__law_great
  exact fn_mi T.fu__law_great sc__law_great (Bsto p c cs) (b__law_great cs) (fun cdv A outer s H E F0 hr tk po =>
  (ss_cons (s_set sc__law_great.nd (x_op o_sub p_sub (x_op o_mul p_mul (x_op o_pow p_pow x_int x_int) (x_op o_pow p_pow x_int x_int)) x_int))
  (ss_cons (s_if (t_cmp o_gt p_gt (x_call (ok__law_take T _ _ _) (by exact hr.mono (by omega)) T.g__law_take T.fu__law_take.kp T.b__law_take tk (a_tok 0 (a_cons x_int a_nil))) x_int (nomark _))
  (ss_cons (s_set sc__law_great.nd (x_op o_add (p_add _) x_int (x_call (ok__law_take T _ _ _) (by exact hr.mono (by omega)) T.g__law_take T.fu__law_take.kp T.b__law_take tk (a_tok 0 (a_cons x_int a_nil)))))
  (ss_one (s_for po (by rfl) (i_range1 T.z_range (a_cons (x_call (ok__law_take T _ _ _) (by exact hr.mono (by omega)) T.g__law_take T.fu__law_take.kp T.b__law_take tk (a_tok 0 (a_cons x_int a_nil))) a_nil)) (g_name sc__law_great.nd)
  (ss_one (s_set sc__law_great.nd (x_op o_add (p_add _) (x_op o_mul p_mul (x_var 1) x_int) (x_call (ok__law_take T _ _ _) (by exact hr.mono (by omega)) T.g__law_take T.fu__law_take.kp T.b__law_take tk (a_tok 0 (a_cons x_int a_nil)))))))))
  ss_nil)
  (ss_cons (s_if (t_cmp (o_eq hr) (p_eq _) (x_call (ok__law_take T _ _ _) (by exact hr.mono (by omega)) T.g__law_take T.fu__law_take.kp T.b__law_take tk (a_tok 0 (a_cons x_int a_nil))) x_int (nomark _))
  (ss_one (s_ret (x_op o_sub p_sub x_int (x_var 1))))
  ss_nil)
  (ss_one (s_retV 1))))))
theorem ok__law_no_number (T : Tx K mg) (p c : Addr) (cs : List Addr) : FnOk Pg w K mg base (L2.CX Pg w) 3 T.a__law_no_number T.d__law_no_number ["store"] (spM mg (Bsto p c cs) 1 (m__law_no_number cs)) := by
  unfold m__law_no_number
  exact fn_mi T.fu__law_no_number sc__law_no_number (Bsto p c cs) (b__law_no_number cs) (fun cdv A outer s H E F0 hr tk po =>
  (ss_cons (s_set sc__law_no_number.nd (x_call (ok__law_take T _ _ _) (by exact hr.mono (by omega)) T.g__law_take T.fu__law_take.kp T.b__law_take tk (a_tok 0 (a_cons x_int a_nil))))
  (ss_cons (s_set sc__law_no_number.nd (x_fz (f_lst (a_cons x_bl (a_cons x_bl (a_cons x_non (a_cons x_str (a_cons (x_cT call_str_int p_str T.z_str boot_str (a_cons (x_var 1) a_nil)) (a_cons (x_fz (f_lst a_nil)) (a_cons (x_tup a_nil) (a_cons (x_fz (f_lst (a_cons (x_var 1) a_nil))) (a_cons (x_tup (a_cons (x_var 1) a_nil)) (a_cons x_str (a_cons (x_fz (f_lst (a_cons (x_fz (f_lst (a_cons (x_var 1) a_nil))) a_nil))) (a_cons (x_tup (a_cons x_bl (a_cons x_non a_nil))) a_nil)))))))))))))))
  (ss_one (s_ret (x_ix (x_var 2) (x_call (ok__law_take T _ _ _) (by exact hr.mono (by omega)) T.g__law_take T.fu__law_take.kp T.b__law_take tk (a_tok 0 (a_cons (x_cB call_len_seq (p_len _) T.z_len PySem.boot_len (a_cons (x_var 2) a_nil)) a_nil)))))))))
theorem ok__law_outside (T : Tx K mg) (p c : Addr) (cs : List Addr) : FnOk Pg w K mg base (L2.CX Pg w) 4 T.a__law_outside T.d__law_outside ["store", "least", "high"] (spM mg (Bsto p c cs) 3 (m__law_outside cs)) := by
  unfold m__law_outside
  exact fn_mi T.fu__law_outside sc__law_outside (Bsto p c cs) (b__law_outside cs) (fun cdv A outer s H E F0 hr tk po =>
  (ss_cons (s_set sc__law_outside.nd (x_call (ok__law_take T _ _ _) (by exact hr.mono (by omega)) T.g__law_take T.fu__law_take.kp T.b__law_take tk (a_tok 0 (a_cons x_int a_nil))))
  (ss_cons (s_if (t_cmp o_lt p_lt (x_var 3) x_int (nomark _))
  (ss_one (s_ret (x_op o_sub p_sub (x_var 1) x_int)))
  ss_nil)
  (ss_cons (s_if (t_cmp o_lt p_lt (x_var 3) x_int (nomark _))
  (ss_one (s_ret (x_op o_add (p_add _) (x_var 2) x_int)))
  ss_nil)
  (ss_cons (s_if (t_cmp (o_eq hr) (p_eq _) (x_var 3) x_int (nomark _))
  (ss_one (s_ret (x_op o_add (p_add _) (x_op o_add (p_add _) (x_var 2) x_int) (x_call (ok__law_take T _ _ _) (by exact hr.mono (by omega)) T.g__law_take T.fu__law_take.kp T.b__law_take tk (a_tok 0 (a_cons x_int a_nil))))))
  ss_nil)
  (ss_cons (s_if (t_cmp (o_eq hr) (p_eq _) (x_var 3) x_int (nomark _))
  (ss_cons (s_set sc__law_outside.nd (x_call (ok__law_great T _ _ _) (by exact hr.mono (by omega)) T.g__law_great T.fu__law_great.kp T.b__law_great tk (a_tok 0 a_nil)))
  (ss_cons (s_if (t_pw (t_or (t_cmp o_lt p_lt (x_var 4) (x_var 1) (nomark _)) (t_or1 (t_cmp o_gt p_gt (x_var 4) (x_var 2) (nomark _)))))
  (ss_one (s_retV 4))
  ss_nil)
  (ss_one (s_ret (x_op o_add (p_add _) (x_var 2) x_int)))))
  ss_nil)
  (ss_one (s_ret (x_call (ok__law_no_number T _ _ _) (by exact hr.mono (by omega)) T.g__law_no_number T.fu__law_no_number.kp T.b__law_no_number tk (a_tok 0 a_nil))))))))))
theorem ok__law_unlike (T : Tx K mg) (p c : Addr) (cs : List Addr) : FnOk Pg w K mg base (L2.CX Pg w) 3 T.a__law_unlike T.d__law_unlike ["store", "high", "count"] (spM mg (Bsto p c cs) 3 (m__law_unlike cs)) := by
  unfold m__law_unlike
  exact fn_mi T.fu__law_unlike sc__law_unlike (Bsto p c cs) (b__law_unlike cs) (fun cdv A outer s H E F0 hr tk po =>
  (ss_cons (s_setF sc__law_unlike.nd (f_lst a_nil))
  (ss_cons (s_for po (by rfl) (i_range1 T.z_range (a_cons (x_cB (call_min2 (by rfl)) p_min2 T.z_min boot_min (a_cons (x_var 2) (a_cons (x_var 1) a_nil))) a_nil)) (g_name sc__law_unlike.nd)
  (ss_cons (s_set sc__law_unlike.nd (x_call (ok__law_take T _ _ _) (by exact hr.mono (by omega)) T.g__law_take T.fu__law_take.kp T.b__law_take tk (a_tok 0 (a_cons (x_var 1) a_nil))))
  (ss_cons (s_for po (by rfl) (i_range1 T.z_range (a_cons (x_oB 3 call_len_seq (p_lenO _) T.z_len PySem.boot_len) a_nil)) (g_name sc__law_unlike.nd)
  (ss_cons (s_if (t_inO 3 (o_notIn hr) (p_notInO _) (x_var 5))
  (ss_one s_brk)
  ss_nil)
  (ss_one (s_set sc__law_unlike.nd (x_op o_mod p_mod (x_cT call_int1 p_int T.z_int boot_int (a_cons (x_op o_add (p_add _) (x_var 5) x_int) a_nil)) (x_var 1))))))
  (ss_one (s_expr (x_meth 3 PySem.F.slot_list_append PySem.F.type_list_append mt_append p_append (a_cons (x_var 5) a_nil)))))))
  (ss_one (s_retV 3)))))
theorem ok__law_order (T : Tx K mg) (p c : Addr) (cs : List Addr) : FnOk Pg w K mg base (L2.CX Pg w) 3 T.a__law_order T.d__law_order ["store", "count"] (spM mg (Bsto p c cs) 2 (m__law_order cs)) := by
  unfold m__law_order
  exact fn_mi T.fu__law_order sc__law_order (Bsto p c cs) (b__law_order cs) (fun cdv A outer s H E F0 hr tk po =>
  (ss_cons (s_setF sc__law_order.nd (f_listR1 (by rfl) T.z_list T.z_range (x_var 1)))
  (ss_cons (s_set sc__law_order.nd (x_call (ok__law_take T _ _ _) (by exact hr.mono (by omega)) T.g__law_take T.fu__law_take.kp T.b__law_take tk (a_tok 0 (a_cons x_int a_nil))))
  (ss_cons (s_if (t_cmp (o_eq hr) (p_eq _) (x_var 3) x_int (nomark _))
  (ss_one (s_retV 2))
  ss_nil)
  (ss_cons (s_setF sc__law_order.nd (f_lst a_nil))
  (ss_cons (s_for po (by rfl) (i_range1 T.z_range (a_cons (x_var 1) a_nil)) (g_name sc__law_order.nd)
  (ss_cons (s_set sc__law_order.nd (x_op o_sub p_sub (x_oB 2 call_len_seq (p_lenO _) T.z_len PySem.boot_len) x_int))
  (ss_cons (s_if (t_cmp o_gt p_gt (x_var 3) x_int (nomark _))
  (ss_one (s_set sc__law_order.nd (x_call (ok__law_take T _ _ _) (by exact hr.mono (by omega)) T.g__law_take T.fu__law_take.kp T.b__law_take tk (a_tok 0 (a_cons (x_oB 2 call_len_seq (p_lenO _) T.z_len PySem.boot_len) a_nil)))))
  ss_nil)
  (ss_one (s_expr (x_meth 4 PySem.F.slot_list_append PySem.F.type_list_append mt_append p_append (a_cons (x_meth 2 PySem.F.slot_list_pop PySem.F.type_list_pop mt_popAt p_popAt (a_cons (x_var 6) a_nil)) a_nil)))))))
  (ss_one (s_retV 4))))))))
theorem ok__law_power (T : Tx K mg) : FnOk Pg w K mg base (L2.CX Pg w) 1 T.a__law_power T.d__law_power ["base", "count"] (spM mg B0 2 (m__law_power)) := by
  unfold m__law_power
  exact fn_mi T.fu__law_power sc__law_power B0 b__law_power (fun cdv A outer s H E F0 hr tk po =>
  (ss_cons (s_set sc__law_power.nd x_int)
  (ss_cons (s_for po (by rfl) (i_range1 T.z_range (a_cons (x_var 1) a_nil)) (g_name sc__law_power.nd)
  (ss_one (s_set sc__law_power.nd (x_op o_mul p_mul (x_var 2) (x_var 0)))))
  (ss_one (s_retV 2)))))
theorem ok__law_kind (T : Tx K mg) : FnOk Pg w K mg base (L2.CX Pg w) 1 T.a__law_kind T.d__law_kind ["value"] (spM mg B0 1 (m__law_kind)) := by
  unfold m__law_kind
  exact fn_mi T.fu__law_kind sc__law_kind B0 b__law_kind (fun cdv A outer s H E F0 hr tk po =>
  (ss_cons (s_if (t_isN (x_var 0))
  (ss_one (s_ret x_int))
  ss_nil)
  (ss_cons (s_if (t_val (x_isD T.z_isinstance (x_var 0) T.z_bool boot_bool))
  (ss_one (s_ret x_int))
  ss_nil)
  (ss_cons (s_if (t_val (x_isD T.z_isinstance (x_var 0) T.z_int boot_int))
  (ss_one (s_ret x_int))
  ss_nil)
  (ss_cons (s_if (t_val (x_isD T.z_isinstance (x_var 0) T.z_str boot_str))
  (ss_one (s_ret x_int))
  ss_nil)
  (ss_cons (s_if (t_val (x_isD T.z_isinstance (x_var 0) T.z_tuple boot_tuple))
  (ss_one (s_ret x_int))
  ss_nil)
  (ss_cons (s_if (t_val (x_isD T.z_isinstance (x_var 0) T.z_list boot_list))
  (ss_one (s_ret x_int))
  ss_nil)
  (ss_one (s_ret x_int)))))))))
theorem ok__law_same (T : Tx K mg) : FnOk Pg w K mg base (L2.CX Pg w) 2 T.a__law_same T.d__law_same ["left", "right"] (spM mg B0 2 (m__law_same)) := by
  unfold m__law_same
  exact fn_mi T.fu__law_same sc__law_same B0 b__law_same (fun cdv A outer s H E F0 hr tk po =>
  (ss_cons (s_setF sc__law_same.nd (f_lst (a_cons (x_tup (a_cons (x_var 0) (a_cons (x_var 1) a_nil))) a_nil)))
  (ss_cons (s_while fuel po (t_cmp o_gt p_gt (x_oB 2 call_len_seq (p_lenO _) T.z_len PySem.boot_len) x_int (nomark _))
  (ss_cons (s_asg (x_meth0 2 PySem.F.slot_list_pop PySem.F.type_list_pop mt_pop p_pop) (g_tup (by rfl) (gs_cons (g_name sc__law_same.nd) (gs_cons (g_name sc__law_same.nd) gs_nil)) (gC_len (gC_len gE_len))))
  (ss_cons (s_set sc__law_same.nd (x_call (ok__law_kind T) (by exact hr.mono (by omega)) T.g__law_kind T.fu__law_kind.kp T.b__law_kind tk (a_cons (x_var 3) a_nil)))
  (ss_cons (s_if (t_pw (t_or (t_cmp (o_eq hr) (p_eq _) (x_var 5) x_int (nomark _)) (t_or1 (t_cmp (o_ne hr) (p_ne _) (x_var 5) (x_call (ok__law_kind T) (by exact hr.mono (by omega)) T.g__law_kind T.fu__law_kind.kp T.b__law_kind tk (a_cons (x_var 4) a_nil)) (nomark _)))))
  (ss_one (s_ret x_bl))
  ss_nil)
  (ss_one (s_if (t_cmp o_lt p_lt (x_var 5) x_int (nomark _))
  (ss_one (s_if (t_cmp (o_ne hr) (p_ne _) (x_var 3) (x_var 4) (nomark _))
  (ss_one (s_ret x_bl))
  ss_nil))
  (ss_one (s_if (t_cmp (o_ne hr) (p_ne _) (x_cB call_len_seq (p_len _) T.z_len PySem.boot_len (a_cons (x_var 3) a_nil)) (x_cB call_len_seq (p_len _) T.z_len PySem.boot_len (a_cons (x_var 4) a_nil)) (nomark _))
  (ss_one (s_ret x_bl))
  (ss_one (s_for po (by rfl) (i_range1 T.z_range (a_cons (x_cB call_len_seq (p_len _) T.z_len PySem.boot_len (a_cons (x_var 3) a_nil)) a_nil)) (g_name sc__law_same.nd)
  (ss_one (s_expr (x_meth 2 PySem.F.slot_list_append PySem.F.type_list_append mt_append p_append (a_cons (x_tup (a_cons (x_ix (x_var 3) (x_var 6)) (a_cons (x_ix (x_var 4) (x_var 6)) a_nil))) a_nil))))))))))))))
  (ss_one (s_ret x_bl)))))
theorem ok__law_is_whole (T : Tx K mg) : FnOk Pg w K mg base (L2.CX Pg w) 1 T.a__law_is_whole T.d__law_is_whole ["value"] (spM mg B0 1 (m__law_is_whole)) := by
  unfold m__law_is_whole
  exact fn_mi T.fu__law_is_whole sc__law_is_whole B0 b__law_is_whole (fun cdv A outer s H E F0 hr tk po =>
  (ss_one (s_ret (x_and (x_isD T.z_isinstance (x_var 0) T.z_int boot_int) (x_one (x_not (x_isD T.z_isinstance (x_var 0) T.z_bool boot_bool)))))))
theorem ok__law_mask_word (T : Tx K mg) : FnOk Pg w K mg base (L2.CX Pg w) 1 T.a__law_mask_word T.d__law_mask_word ["mask", "n"] (spM mg B0 2 (m__law_mask_word)) := by
  unfold m__law_mask_word
  exact fn_mi T.fu__law_mask_word sc__law_mask_word B0 b__law_mask_word (fun cdv A outer s H E F0 hr tk po =>
  (ss_cons (s_setF sc__law_mask_word.nd (f_lst a_nil))
  (ss_cons (s_set sc__law_mask_word.nd (x_var 0))
  (ss_cons (s_for po (by rfl) (i_range1 T.z_range (a_cons (x_var 1) a_nil)) (g_name sc__law_mask_word.nd)
  (ss_cons (s_if (t_cmp (o_eq hr) (p_eq _) (x_op o_mod p_mod (x_cT call_int1 p_int T.z_int boot_int (a_cons (x_var 3) a_nil)) x_int) x_int (nomark _))
  (ss_one (s_expr (x_meth 2 PySem.F.slot_list_append PySem.F.type_list_append mt_append p_append (a_cons (x_var 4) a_nil))))
  ss_nil)
  (ss_one (s_set sc__law_mask_word.nd (x_op o_div p_div (x_var 3) x_int)))))
  (ss_one (s_ret (x_oT 2 call_tuple_of (p_tupO _) T.z_tuple boot_tuple)))))))
theorem ok__law_masks (T : Tx K mg) (p c : Addr) (cs : List Addr) : FnOk Pg w K mg base (L2.CX Pg w) 3 T.a__law_masks T.d__law_masks ["store", "n", "count"] (spM mg (Bsto p c cs) 3 (m__law_masks cs)) := by
  unfold m__law_masks
  exact fn_mi T.fu__law_masks sc__law_masks (Bsto p c cs) (b__law_masks cs) (fun cdv A outer s H E F0 hr tk po =>
  (ss_cons (s_set sc__law_masks.nd (x_op o_sub p_sub (x_call (FnOk.lift (ok__law_power T) _) (by exact hr.mono (by omega)) T.g__law_power T.fu__law_power.kp T.b__law_power tk (a_cons x_int (a_cons (x_var 1) a_nil))) x_int))
  (ss_cons (s_set sc__law_masks.nd (x_and (x_cmp (o_eq hr) (p_eq _) (x_call (ok__law_take T _ _ _) (by exact hr.mono (by omega)) T.g__law_take T.fu__law_take.kp T.b__law_take tk (a_tok 0 (a_cons x_int a_nil))) x_int (nomark _)) (x_one (x_cmp o_gt p_gt (x_var 1) x_int (nomark _)))))
  (ss_cons (s_setF sc__law_masks.nd (f_lst a_nil))
  (ss_cons (s_for po (by rfl) (i_range1 T.z_range (a_cons (x_cB (call_min2 (by rfl)) p_min2 T.z_min boot_min (a_cons (x_var 2) (a_cons (x_var 3) a_nil))) a_nil)) (g_name sc__law_masks.nd)
  (ss_cons (s_if (t_val (x_var 4))
  (ss_cons (s_set sc__law_masks.nd (x_call (FnOk.lift (ok__law_power T) _) (by exact hr.mono (by omega)) T.g__law_power T.fu__law_power.kp T.b__law_power tk (a_cons x_int (a_cons (x_call (ok__law_take T _ _ _) (by exact hr.mono (by omega)) T.g__law_take T.fu__law_take.kp T.b__law_take tk (a_tok 0 (a_cons (x_var 1) a_nil))) a_nil))))
  (ss_cons (s_set sc__law_masks.nd (x_call (FnOk.lift (ok__law_power T) _) (by exact hr.mono (by omega)) T.g__law_power T.fu__law_power.kp T.b__law_power tk (a_cons x_int (a_cons (x_call (ok__law_take T _ _ _) (by exact hr.mono (by omega)) T.g__law_take T.fu__law_take.kp T.b__law_take tk (a_tok 0 (a_cons (x_var 1) a_nil))) a_nil))))
  (ss_cons (s_set sc__law_masks.nd (x_cB (call_max2 (by rfl)) p_max2 T.z_max boot_max (a_cons (x_var 8) (a_cons (x_var 9) a_nil))))
  (ss_one (s_if (t_cmp (o_ne hr) (p_ne _) (x_var 8) (x_var 9) (nomark _))
  (ss_one (s_set sc__law_masks.nd (x_op o_add (p_add _) (x_var 8) (x_var 9))))
  ss_nil)))))
  (ss_one (s_set sc__law_masks.nd (x_op o_add (p_add _) x_int (x_call (ok__law_take T _ _ _) (by exact hr.mono (by omega)) T.g__law_take T.fu__law_take.kp T.b__law_take tk (a_tok 0 (a_cons (x_var 3) a_nil)))))))
  (ss_cons (s_for po (by rfl) (i_range1 T.z_range (a_cons (x_oB 5 call_len_seq (p_lenO _) T.z_len PySem.boot_len) a_nil)) (g_name sc__law_masks.nd)
  (ss_cons (s_if (t_inO 5 (o_notIn hr) (p_notInO _) (x_var 10))
  (ss_one s_brk)
  ss_nil)
  (ss_one (s_set sc__law_masks.nd (x_op o_add (p_add _) (x_op o_mod p_mod (x_cT call_int1 p_int T.z_int boot_int (a_cons (x_var 10) a_nil)) (x_var 3)) x_int)))))
  (ss_one (s_expr (x_meth 5 PySem.F.slot_list_append PySem.F.type_list_append mt_append p_append (a_cons (x_var 10) a_nil)))))))
  (ss_one (s_retV 5)))))))
theorem ok__law_words (T : Tx K mg) (p c : Addr) (cs : List Addr) : FnOk Pg w K mg base (L2.CX Pg w) 4 T.a__law_words T.d__law_words ["store", "n", "count"] (spM mg (Bsto p c cs) 3 (m__law_words cs)) := by
  unfold m__law_words
  exact fn_mi T.fu__law_words sc__law_words (Bsto p c cs) (b__law_words cs) (fun cdv A outer s H E F0 hr tk po =>
  (ss_one (s_retF (f_lc [("mask", 3)] (by rfl) sc__law_words.nd (i_seq (x_call (ok__law_masks T _ _ _) (by exact hr.mono (by omega)) T.g__law_masks T.fu__law_masks.kp T.b__law_masks tk (a_tok 0 (a_cons (x_var 1) (a_cons (x_var 2) a_nil))))) (blkOk_by (by kernel_rfl)) (fun _ _ _ _ _ => (g_name sc__law_words.nd)) (fun _ _ _ _ _ => ts_nil) (fun _ _ _ _ _ => (x_call (FnOk.lift (ok__law_mask_word T) _) (by exact hr.mono (by omega)) T.g__law_mask_word T.fu__law_mask_word.kp T.b__law_mask_word takes0 (a_cons (x_var 3) (a_cons (x_var 1) a_nil)))) (go_name 3)))))
theorem ok__law_less (T : Tx K mg) : FnOk Pg w K mg base (L2.CX Pg w) 1 T.a__law_less T.d__law_less ["left", "right"] (spM mg B0 2 (m__law_less)) := by
  unfold m__law_less
  exact fn_mi T.fu__law_less sc__law_less B0 b__law_less (fun cdv A outer s H E F0 hr tk po =>
  (ss_one (s_ret (x_cT call_tuple_of (p_tup _) T.z_tuple boot_tuple (a_cons (x_fz (f_lc [("wire", 2)] (by rfl) sc__law_less.nd (i_seq (x_var 0)) (blkOk_by (by kernel_rfl)) (fun _ _ _ _ _ => (g_name sc__law_less.nd)) (fun _ _ _ _ _ => (ts_one (t_cmp (o_notIn hr) (p_notIn _) (x_var 2) (x_var 1) rfl))) (fun _ _ _ _ _ => (x_var 2)) (go_name 2))) a_nil)))))
theorem ok__law_pruned (T : Tx K mg) : FnOk Pg w K mg base (L2.CX Pg w) 2 T.a__law_pruned T.d__law_pruned ["words"] (spM mg B0 1 (m__law_pruned)) := by
  unfold m__law_pruned
  exact fn_mi T.fu__law_pruned sc__law_pruned B0 b__law_pruned (fun cdv A outer s H E F0 hr tk po =>
  (ss_cons (s_setF sc__law_pruned.nd (f_lst a_nil))
  (ss_cons (s_for po (by rfl) (i_seq (x_var 0)) (g_name sc__law_pruned.nd)
  (ss_cons (s_set sc__law_pruned.nd x_bl)
  (ss_cons (s_for po (by rfl) (i_seq (x_var 1)) (g_name sc__law_pruned.nd)
  (ss_one (s_if (t_pw (t_or (t_cmp (o_eq hr) (p_eq _) (x_cB call_len_seq (p_len _) T.z_len PySem.boot_len (a_cons (x_call (ok__law_less T) (by exact hr.mono (by omega)) T.g__law_less T.fu__law_less.kp T.b__law_less tk (a_cons (x_var 2) (a_cons (x_var 4) a_nil))) a_nil)) x_int (nomark _)) (t_or1 (t_cmp (o_eq hr) (p_eq _) (x_cB call_len_seq (p_len _) T.z_len PySem.boot_len (a_cons (x_call (ok__law_less T) (by exact hr.mono (by omega)) T.g__law_less T.fu__law_less.kp T.b__law_less tk (a_cons (x_var 4) (a_cons (x_var 2) a_nil))) a_nil)) x_int (nomark _)))))
  (ss_one (s_set sc__law_pruned.nd x_bl))
  ss_nil)))
  (ss_one (s_if (t_val (x_var 3))
  (ss_one (s_expr (x_meth 1 PySem.F.slot_list_append PySem.F.type_list_append mt_append p_append (a_cons (x_var 2) a_nil))))
  ss_nil)))))
  (ss_one (s_retV 1)))))
theorem ok__law_book (T : Tx K mg) : FnOk Pg w K mg base (L2.CX Pg w) 1 T.a__law_book T.d__law_book ["n", "words"] (spM mg B0 2 (m__law_book)) := by
  unfold m__law_book
  exact fn_mi T.fu__law_book sc__law_book B0 b__law_book (fun cdv A outer s H E F0 hr tk po =>
  (ss_one (s_ret (x_tup (a_cons (x_var 0) (a_cons (x_tup (a_cons (x_cT call_tuple_of (p_tup _) T.z_tuple boot_tuple (a_cons (x_fz (f_lc [("word", 2)] (by rfl) sc__law_book.nd (i_seq (x_var 1)) (blkOk_by (by kernel_rfl)) (fun _ _ _ _ _ => (g_name sc__law_book.nd)) (fun _ _ _ _ _ => ts_nil) (fun _ _ _ _ _ => (x_tup (a_cons (x_var 2) (a_cons x_int a_nil)))) (go_name 2))) a_nil)) a_nil)) a_nil))))))
theorem ok__law_plan (T : Tx K mg) (p c : Addr) (cs : List Addr) : FnOk Pg w K mg base (L2.CX Pg w) 5 T.a__law_plan T.d__law_plan ["store", "n", "right", "count", "cap"] (spM mg (Bsto p c cs) 5 (m__law_plan cs)) := by
  unfold m__law_plan
  exact fn_mi T.fu__law_plan sc__law_plan (Bsto p c cs) (b__law_plan cs) (fun cdv A outer s H E F0 hr tk po =>
  (ss_cons (s_set sc__law_plan.nd (x_op o_add (p_add _) (x_fz (f_lst (a_cons x_int a_nil))) (x_fz (f_lc [("place", 13)] (by rfl) sc__law_plan.nd (i_seq (x_call (ok__law_order T _ _ _) (by exact hr.mono (by omega)) T.g__law_order T.fu__law_order.kp T.b__law_order tk (a_tok 0 (a_cons (x_op o_sub p_sub (x_var 3) x_int) a_nil)))) (blkOk_by (by kernel_rfl)) (fun _ _ _ _ _ => (g_name sc__law_plan.nd)) (fun _ _ _ _ _ => ts_nil) (fun _ _ _ _ _ => (x_op o_add (p_add _) x_int (x_var 13))) (go_name 13)))))
  (ss_cons (s_setF sc__law_plan.nd (f_rep (x_fz (f_lst (a_cons x_int a_nil))) (x_var 3)))
  (ss_cons (s_for po (by rfl) (i_range1 T.z_range (a_cons (x_var 3) a_nil)) (g_name sc__law_plan.nd)
  (ss_one (s_setIx 6 (x_ix (x_var 5) (x_op o_mod p_mod (x_cT call_int1 p_int T.z_int boot_int (a_cons (x_op o_add (p_add _) (x_var 7) x_int) a_nil)) (x_var 3))) (x_ix (x_var 5) (x_var 7)))))
  (ss_cons (s_setF sc__law_plan.nd (f_lst a_nil))
  (ss_cons (s_for po (by rfl) (i_range1 T.z_range (a_cons (x_var 3) a_nil)) (g_name sc__law_plan.nd)
  (ss_cons (s_set sc__law_plan.nd (x_call (ok__law_words T _ _ _) (by exact hr.mono (by omega)) T.g__law_words T.fu__law_words.kp T.b__law_words tk (a_tok 0 (a_cons (x_var 1) (a_cons (x_op o_add (p_add _) x_int (x_call (ok__law_take T _ _ _) (by exact hr.mono (by omega)) T.g__law_take T.fu__law_take.kp T.b__law_take tk (a_tok 0 (a_cons (x_var 4) a_nil)))) a_nil)))))
  (ss_cons (s_if (t_val (x_var 2))
  (ss_one (s_set sc__law_plan.nd (x_call (FnOk.lift (ok__law_pruned T) _) (by exact hr.mono (by omega)) T.g__law_pruned T.fu__law_pruned.kp T.b__law_pruned tk (a_cons (x_var 10) a_nil))))
  ss_nil)
  (ss_cons (s_if (t_pw (t_and (t_cmp o_gt p_gt (x_var 9) x_int (nomark _)) (t_and1 (t_cmp (o_eq hr) (p_eq _) (x_call (ok__law_take T _ _ _) (by exact hr.mono (by omega)) T.g__law_take T.fu__law_take.kp T.b__law_take tk (a_tok 0 (a_cons x_int a_nil))) x_int (nomark _)))))
  (ss_cons (s_set sc__law_plan.nd (x_ixO 8 (x_call (ok__law_take T _ _ _) (by exact hr.mono (by omega)) T.g__law_take T.fu__law_take.kp T.b__law_take tk (a_tok 0 (a_cons (x_var 9) a_nil)))))
  (ss_one (s_setLc [("pair", 15)] (by rfl) sc__law_plan.nd (i_seq (x_var 12)) (blkOk_by (by kernel_rfl)) (fun _ _ _ _ _ => (g_name sc__law_plan.nd)) (fun _ _ _ _ _ => ts_nil) (fun _ _ _ _ _ => (x_ix (x_var 15) x_int)) (go_name 15) (sw_true rfl rfl rfl (by decide +kernel)))))
  ss_nil)
  (ss_cons (s_setLc [("word", 14)] (by rfl) sc__law_plan.nd (i_seq (x_var 10)) (blkOk_by (by kernel_rfl)) (fun _ _ _ _ _ => (g_name sc__law_plan.nd)) (fun _ _ _ _ _ => ts_nil) (fun _ _ _ _ _ => (x_tup (a_cons (x_var 14) (a_cons (x_call (ok__law_take T _ _ _) (by exact hr.mono (by omega)) T.g__law_take T.fu__law_take.kp T.b__law_take takes0 (a_tok 0 (a_cons (x_var 3) a_nil))) a_nil)))) (go_name 14) (sw_true rfl rfl rfl (by decide +kernel)))
  (ss_cons (s_set sc__law_plan.nd (x_call (ok__law_take T _ _ _) (by exact hr.mono (by omega)) T.g__law_take T.fu__law_take.kp T.b__law_take tk (a_tok 0 (a_cons (x_oB 11 call_len_seq (p_lenO _) T.z_len PySem.boot_len) a_nil))))
  (ss_cons (s_setIx 11 (x_tup (a_cons (x_ix (x_ixO 11 (x_var 7)) x_int) (a_cons (x_ixO 6 (x_var 9)) a_nil))) (x_var 7))
  (ss_one (s_expr (x_meth 8 PySem.F.slot_list_append PySem.F.type_list_append mt_append p_append (a_cons (x_oT 11 call_tuple_of (p_tupO _) T.z_tuple boot_tuple) a_nil)))))))))))
  (ss_one (s_ret (x_tup (a_cons (x_var 1) (a_cons (x_oT 8 call_tuple_of (p_tupO _) T.z_tuple boot_tuple) a_nil)))))))))))
theorem ok__law_asked (T : Tx K mg) : FnOk Pg w K mg base (L2.CX Pg w) 37 T.a__law_asked T.d__law_asked ["plan", "numbers"] (spM mg B0 2 (m__law_asked)) := by
  unfold m__law_asked
  exact fn_mi T.fu__law_asked sc__law_asked B0 b__law_asked (fun cdv A outer s H E F0 hr tk po =>
  (ss_one (s_try sc__law_asked.nd tk (fun W1 pn xe tk1 po1 => (ss_one (s_ret (x_tup (a_cons x_str (a_cons (x_call (ok_part T) (by exact hr.mono (by omega)) T.g_part T.fu_part.kp T.b_part tk1 (a_cons (x_var 0) (a_cons (x_var 1) a_nil))) a_nil))))))
  (.named ⟨rfl, by decide, .inl T.g_NotBook⟩ (i := 2) rfl rfl (T.xm_NotBook) (fun a oe cls dd pn hz hf => (ss_one (s_ret (x_tup (a_cons x_str (a_cons x_str (a_cons (x_att 2 T.xf_NotBook T.nf_NotBook_states hz hf T.g_NotBook) (a_cons (x_isE 2 hz hf rfl T.ki (.cons T.g_BadNumber rfl (by decide) rfl (.cons T.g_Double rfl (by decide) rfl (.cons T.g_NoWord rfl (by decide) rfl .nil))) (by decide) (show 3 ≤ sizeLine by decide) T.z_isinstance) a_nil)))))))) (.named ⟨rfl, by decide, .inl T.g_BadNumber⟩ (i := 2) rfl rfl (T.xm_BadNumber) (fun a oe cls dd pn hz hf => (ss_one (s_ret (x_tup (a_cons x_str (a_cons x_str (a_cons (x_att 2 T.xf_BadNumber T.nf_BadNumber_place hz hf T.g_BadNumber) (a_cons (x_isE 2 hz hf rfl T.ki (.cons T.g_Double rfl (by decide) rfl (.cons T.g_NoWord rfl (by decide) rfl (.cons T.g_NotBook rfl (by decide) rfl .nil))) (by decide) (show 3 ≤ sizeLine by decide) T.z_isinstance) a_nil)))))))) (.named ⟨rfl, by decide, .inl T.g_Double⟩ (i := 2) rfl rfl (T.xm_Double) (fun a oe cls dd pn hz hf => (ss_one (s_ret (x_tup (a_cons x_str (a_cons x_str (a_cons (x_att 2 T.xf_Double T.nf_Double_at hz hf T.g_Double) (a_cons (x_att 2 T.xf_Double T.nf_Double_number hz hf T.g_Double) (a_cons (x_isE 2 hz hf rfl T.ki (.cons T.g_BadNumber rfl (by decide) rfl (.cons T.g_NoWord rfl (by decide) rfl (.cons T.g_NotBook rfl (by decide) rfl .nil))) (by decide) (show 3 ≤ sizeLine by decide) T.z_isinstance) a_nil))))))))) (.named ⟨rfl, by decide, .inl T.g_NoWord⟩ (i := 2) rfl rfl (T.xm_NoWord) (fun a oe cls dd pn hz hf => (ss_one (s_ret (x_tup (a_cons x_str (a_cons x_str (a_cons (x_att 2 T.xf_NoWord T.nf_NoWord_at hz hf T.g_NoWord) (a_cons (x_isE 2 hz hf rfl T.ki (.cons T.g_BadNumber rfl (by decide) rfl (.cons T.g_Double rfl (by decide) rfl (.cons T.g_NotBook rfl (by decide) rfl .nil))) (by decide) (show 3 ≤ sizeLine by decide) T.z_isinstance) a_nil)))))))) .nil)))))))
theorem ok__law_due (T : Tx K mg) : FnOk Pg w K mg base (L2.CX Pg w) 2 T.a__law_due T.d__law_due ["plan", "numbers"] (spM mg B0 2 (m__law_due)) := by
  unfold m__law_due
  exact fn_mi T.fu__law_due sc__law_due B0 b__law_due (fun cdv A outer s H E F0 hr tk po =>
  (ss_cons (s_if (t_cmp (o_ne hr) (p_ne _) (x_cB call_len_seq (p_len _) T.z_len PySem.boot_len (a_cons (x_ix (x_var 0) x_int) a_nil)) x_int (nomark _))
  (ss_one (s_ret (x_tup (a_cons x_str (a_cons x_str (a_cons (x_cB call_len_seq (p_len _) T.z_len PySem.boot_len (a_cons (x_ix (x_var 0) x_int) a_nil)) (a_cons x_bl a_nil)))))))
  ss_nil)
  (ss_cons (s_setLc [("pair", 7)] (by rfl) sc__law_due.nd (i_seq (x_ix (x_ix (x_var 0) x_int) x_int)) (blkOk_by (by kernel_rfl)) (fun _ _ _ _ _ => (g_name sc__law_due.nd)) (fun _ _ _ _ _ => ts_nil) (fun _ _ _ _ _ => (x_ix (x_var 7) x_int)) (go_name 7) (sw_true rfl rfl rfl (by decide +kernel)))
  (ss_cons (s_setF sc__law_due.nd (f_lst a_nil))
  (ss_cons (s_for po (by rfl) (i_range1 T.z_range (a_cons (x_cB call_len_seq (p_len _) T.z_len PySem.boot_len (a_cons (x_var 1) a_nil)) a_nil)) (g_name sc__law_due.nd)
  (ss_cons (s_set sc__law_due.nd (x_ix (x_var 1) (x_var 4)))
  (ss_cons (s_if (t_pw (t_or (t_not (t_val (x_call (ok__law_is_whole T) (by exact hr.mono (by omega)) T.g__law_is_whole T.fu__law_is_whole.kp T.b__law_is_whole tk (a_cons (x_var 5) a_nil)))) (t_or (t_cmp o_lt p_lt (x_var 5) x_int (nomark _)) (t_or1 (t_cmp o_ge p_ge (x_var 5) (x_cB call_len_seq (p_len _) T.z_len PySem.boot_len (a_cons (x_var 2) a_nil)) (nomark _))))))
  (ss_one (s_ret (x_tup (a_cons x_str (a_cons x_str (a_cons (x_var 4) (a_cons x_bl a_nil)))))))
  ss_nil)
  (ss_cons (s_for po (by rfl) (i_range1 T.z_range (a_cons (x_var 4) a_nil)) (g_name sc__law_due.nd)
  (ss_one (s_if (t_cmp (o_eq hr) (p_eq _) (x_ix (x_var 1) (x_var 6)) (x_var 5) (nomark _))
  (ss_one (s_ret (x_tup (a_cons x_str (a_cons x_str (a_cons x_int (a_cons (x_var 6) (a_cons x_bl a_nil))))))))
  ss_nil)))
  (ss_one (s_expr (x_meth 3 PySem.F.slot_list_append PySem.F.type_list_append mt_append p_append (a_cons (x_ix (x_var 2) (x_var 5)) a_nil))))))))
  (ss_cons (s_if (t_cmp (o_eq hr) (p_eq _) (x_oB 3 call_len_seq (p_lenO _) T.z_len PySem.boot_len) x_int (nomark _))
  (ss_one (s_ret (x_tup (a_cons x_str (a_cons x_str (a_cons x_int (a_cons x_bl a_nil)))))))
  ss_nil)
  (ss_one (s_ret (x_tup (a_cons x_str (a_cons (x_call (ok__law_book T) (by exact hr.mono (by omega)) T.g__law_book T.fu__law_book.kp T.b__law_book tk (a_cons (x_ix (x_var 0) x_int) (a_cons (x_var 3) a_nil))) a_nil)))))))))))
theorem ok__law_numbers (T : Tx K mg) (p c : Addr) (cs : List Addr) : FnOk Pg w K mg base (L2.CX Pg w) 5 T.a__law_numbers T.d__law_numbers ["store", "count", "faults"] (spM mg (Bsto p c cs) 3 (m__law_numbers cs)) := by
  unfold m__law_numbers
  exact fn_mi T.fu__law_numbers sc__law_numbers (Bsto p c cs) (b__law_numbers cs) (fun cdv A outer s H E F0 hr tk po =>
  (ss_cons (s_setF sc__law_numbers.nd (f_call (ok__law_unlike T _ _ _) (by exact hr.mono (by omega)) T.g__law_unlike T.fu__law_unlike.kp T.b__law_unlike tk (a_tok 0 (a_cons (x_var 1) (a_cons (x_call (ok__law_number T _ _ _) (by exact hr.mono (by omega)) T.g__law_number T.fu__law_number.kp T.b__law_number tk (a_tok 0 (a_cons x_int (a_cons (x_var 1) a_nil)))) a_nil)))))
  (ss_cons (s_for po (by rfl) (i_range1 T.z_range (a_cons (x_var 2) a_nil)) (g_name sc__law_numbers.nd)
  (ss_cons (s_set sc__law_numbers.nd (x_call (ok__law_take T _ _ _) (by exact hr.mono (by omega)) T.g__law_take T.fu__law_take.kp T.b__law_take tk (a_tok 0 (a_cons (x_op o_add (p_add _) (x_oB 3 call_len_seq (p_lenO _) T.z_len PySem.boot_len) x_int) a_nil))))
  (ss_one (s_if (t_pw (t_and (t_cmp o_gt p_gt (x_oB 3 call_len_seq (p_lenO _) T.z_len PySem.boot_len) x_int (nomark _)) (t_and1 (t_cmp (o_eq hr) (p_eq _) (x_call (ok__law_take T _ _ _) (by exact hr.mono (by omega)) T.g__law_take T.fu__law_take.kp T.b__law_take tk (a_tok 0 (a_cons x_int a_nil))) x_int (nomark _)))))
  (ss_one (s_expr (x_meth 3 PySem.F.slot_list_insert PySem.F.type_list_insert mt_insert p_insert (a_cons (x_var 5) (a_cons (x_ixO 3 (x_call (ok__law_take T _ _ _) (by exact hr.mono (by omega)) T.g__law_take T.fu__law_take.kp T.b__law_take tk (a_tok 0 (a_cons (x_oB 3 call_len_seq (p_lenO _) T.z_len PySem.boot_len) a_nil)))) a_nil)))))
  (ss_one (s_expr (x_meth 3 PySem.F.slot_list_insert PySem.F.type_list_insert mt_insert p_insert (a_cons (x_var 5) (a_cons (x_call (ok__law_outside T _ _ _) (by exact hr.mono (by omega)) T.g__law_outside T.fu__law_outside.kp T.b__law_outside tk (a_tok 0 (a_cons x_int (a_cons (x_op o_sub p_sub (x_var 1) x_int) a_nil)))) a_nil)))))))))
  (ss_one (s_retV 3)))))
theorem ok__law_parted (T : Tx K mg) : FnG Pg w K mg base (L2.CX Pg w) 38 T.a__law_parted T.d__law_parted ["plan", "numbers"] (spM mg B0 2 (m__law_parted)) := by
  unfold m__law_parted
  exact fn_miG T.fu__law_parted sc__law_parted B0 b__law_parted (fun cdv A outer s H E F0 hr hgu tk po =>
  (ss_cons (s_set sc__law_parted.nd (x_cB (call_reprD hr hgu) (p_repr _) T.z_repr boot_repr (a_cons (x_var 1) a_nil)))
  (ss_cons (s_set sc__law_parted.nd (x_call (ok__law_due T) (by exact hr.mono (by omega)) T.g__law_due T.fu__law_due.kp T.b__law_due tk (a_cons (x_var 0) (a_cons (x_var 1) a_nil))))
  (ss_cons (s_if (t_pw (t_or (t_not (t_val (x_call (ok__law_same T) (by exact hr.mono (by omega)) T.g__law_same T.fu__law_same.kp T.b__law_same tk (a_cons (x_call (ok__law_asked T) (by exact hr.mono (by omega)) T.g__law_asked T.fu__law_asked.kp T.b__law_asked tk (a_cons (x_var 0) (a_cons (x_var 1) a_nil))) (a_cons (x_var 3) a_nil))))) (t_or1 (t_cmp (o_ne hr) (p_ne _) (x_cB (call_reprD hr hgu) (p_repr _) T.z_repr boot_repr (a_cons (x_var 1) a_nil)) (x_var 2) (nomark _)))))
  (ss_one (s_ret x_bl))
  ss_nil)
  (ss_one (s_ret (x_call (ok__law_same T) (by exact hr.mono (by omega)) T.g__law_same T.fu__law_same.kp T.b__law_same tk (a_cons (x_call (ok__law_asked T) (by exact hr.mono (by omega)) T.g__law_asked T.fu__law_asked.kp T.b__law_asked tk (a_cons (x_var 0) (a_cons (x_cT call_tuple_of (p_tup _) T.z_tuple boot_tuple (a_cons (x_var 1) a_nil)) a_nil))) (a_cons (x_var 3) a_nil)))))))))
theorem ok__law_some_book (T : Tx K mg) (p c : Addr) (cs : List Addr) : FnOk Pg w K mg base (L2.CX Pg w) 5 T.a__law_some_book T.d__law_some_book ["store"] (spM mg (Bsto p c cs) 1 (m__law_some_book cs)) := by
  unfold m__law_some_book
  exact fn_mi T.fu__law_some_book sc__law_some_book (Bsto p c cs) (b__law_some_book cs) (fun cdv A outer s H E F0 hr tk po =>
  (ss_cons (s_if (t_cmp (o_eq hr) (p_eq _) (x_call (ok__law_take T _ _ _) (by exact hr.mono (by omega)) T.g__law_take T.fu__law_take.kp T.b__law_take tk (a_tok 0 (a_cons x_int a_nil))) x_int (nomark _))
  (ss_cons (s_set sc__law_some_book.nd (x_op o_add (p_add _) x_int (x_call (ok__law_take T _ _ _) (by exact hr.mono (by omega)) T.g__law_take T.fu__law_take.kp T.b__law_take tk (a_tok 0 (a_cons x_int a_nil)))))
  (ss_one (s_ret (x_call (FnOk.lift (ok__law_book T) _) (by exact hr.mono (by omega)) T.g__law_book T.fu__law_book.kp T.b__law_book tk (a_cons (x_var 1) (a_cons (x_call (ok__law_words T _ _ _) (by exact hr.mono (by omega)) T.g__law_words T.fu__law_words.kp T.b__law_words tk (a_tok 0 (a_cons (x_var 1) (a_cons (x_op o_add (p_add _) x_int (x_call (ok__law_number T _ _ _) (by exact hr.mono (by omega)) T.g__law_number T.fu__law_number.kp T.b__law_number tk (a_tok 0 (a_cons x_int (a_cons x_int a_nil))))) a_nil)))) a_nil))))))
  ss_nil)
  (ss_cons (s_set sc__law_some_book.nd (x_op o_add (p_add _) x_int (x_call (ok__law_take T _ _ _) (by exact hr.mono (by omega)) T.g__law_take T.fu__law_take.kp T.b__law_take tk (a_tok 0 (a_cons x_int a_nil)))))
  (ss_one (s_ret (x_call (FnOk.lift (ok__law_book T) _) (by exact hr.mono (by omega)) T.g__law_book T.fu__law_book.kp T.b__law_book tk (a_cons (x_var 1) (a_cons (x_call (ok__law_words T _ _ _) (by exact hr.mono (by omega)) T.g__law_words T.fu__law_words.kp T.b__law_words tk (a_tok 0 (a_cons (x_var 1) (a_cons (x_op o_add (p_add _) x_int (x_call (ok__law_take T _ _ _) (by exact hr.mono (by omega)) T.g__law_take T.fu__law_take.kp T.b__law_take tk (a_tok 0 (a_cons x_int a_nil)))) a_nil)))) a_nil))))))))
end
section
variable {Pg : Program} {w : World} {K : PySem.W.Frag} {mg : Str → Option Value} {base : Heap}
theorem x_law (T : Tx K mg) (p c : Addr) (cs : List Addr) (cdv : Value) (A : Around) (outer : List PySem.Env) (s : Shared) (H : Hp) (E : XK) (F0 H0 : Hp) (hr : Room 38 (cxOf (L2.CX Pg w) Pg w K mg base ["script", "store", "book", "count", "more", "rows", "step", "numbers", "inner", "due", "at"] "law" (defScope s_law) T.a_law cdv A outer s H E).A) (hgu : (cxOf (L2.CX Pg w) Pg w K mg base ["script", "store", "book", "count", "more", "rows", "step", "numbers", "inner", "due", "at"] "law" (defScope s_law) T.a_law cdv A outer s H E).A.guards = some [])
    (tk : Takes (cxOf (L2.CX Pg w) Pg w K mg base ["script", "store", "book", "count", "more", "rows", "step", "numbers", "inner", "due", "at"] "law" (defScope s_law) T.a_law cdv A outer s H E) (wE E)) (po : PassesOwn (model Pg w) (cxOf (L2.CX Pg w) Pg w K mg base ["script", "store", "book", "count", "more", "rows", "step", "numbers", "inner", "due", "at"] "law" (defScope s_law) T.a_law cdv A outer s H E).A (cxOf (L2.CX Pg w) Pg w K mg base ["script", "store", "book", "count", "more", "rows", "step", "numbers", "inner", "due", "at"] "law" (defScope s_law) T.a_law cdv A outer s H E).env (cxOf (L2.CX Pg w) Pg w K mg base ["script", "store", "book", "count", "more", "rows", "step", "numbers", "inner", "due", "at"] "law" (defScope s_law) T.a_law cdv A outer s H E).xe) :
    XSs ⟨K, mg, Bsto p c cs, F0, H0, 0, .none, none⟩ (cxOf (L2.CX Pg w) Pg w K mg base ["script", "store", "book", "count", "more", "rows", "step", "numbers", "inner", "due", "at"] "law" (defScope s_law) T.a_law cdv A outer s H E) (wE E) ((defBody s_law).drop 1) (b_law cs) :=
  (ss_cons (s_set sc_law.nd (x_call (ok__law_some_book T _ _ _) (by exact hr.mono (by omega)) T.g__law_some_book T.fu__law_some_book.kp T.b__law_some_book tk (a_tok 1 a_nil)))
  (ss_cons (s_set sc_law.nd (x_cB call_len_seq (p_len _) T.z_len PySem.boot_len (a_cons (x_ix (x_ix (x_var 2) x_int) x_int) a_nil)))
  (ss_cons (s_set sc_law.nd (x_call (ok__law_plan T _ _ _) (by exact hr.mono (by omega)) T.g__law_plan T.fu__law_plan.kp T.b__law_plan tk (a_tok 1 (a_cons (x_op o_add (p_add _) x_int (x_call (ok__law_take T _ _ _) (by exact hr.mono (by omega)) T.g__law_take T.fu__law_take.kp T.b__law_take tk (a_tok 1 (a_cons x_int a_nil)))) (a_cons x_bl (a_cons (x_op o_add (p_add _) x_int (x_call (ok__law_take T _ _ _) (by exact hr.mono (by omega)) T.g__law_take T.fu__law_take.kp T.b__law_take tk (a_tok 1 (a_cons x_int a_nil)))) (a_cons x_int a_nil)))))))
  (ss_cons (s_setF sc_law.nd (f_lst (a_cons (x_fz (f_lst a_nil)) (a_cons (x_call (ok__law_order T _ _ _) (by exact hr.mono (by omega)) T.g__law_order T.fu__law_order.kp T.b__law_order tk (a_tok 1 (a_cons (x_var 3) a_nil))) (a_cons (x_op o_add (p_add _) (x_call (ok__law_order T _ _ _) (by exact hr.mono (by omega)) T.g__law_order T.fu__law_order.kp T.b__law_order tk (a_tok 1 (a_cons (x_var 3) a_nil))) (x_fz (f_lst (a_cons (x_op o_sub p_sub (x_var 3) x_int) a_nil)))) a_nil)))))
  (ss_cons (s_for po (by rfl) (i_range1 T.z_range (a_cons x_int a_nil)) (g_name sc_law.nd)
  (ss_one (s_expr (x_meth 5 PySem.F.slot_list_append PySem.F.type_list_append mt_append p_append (a_cons (x_call (ok__law_numbers T _ _ _) (by exact hr.mono (by omega)) T.g__law_numbers T.fu__law_numbers.kp T.b__law_numbers tk (a_tok 1 (a_cons (x_var 3) (a_cons (x_cB (call_max2 (by rfl)) p_max2 T.z_max boot_max (a_cons x_int (a_cons (x_op o_sub p_sub (x_call (ok__law_take T _ _ _) (by exact hr.mono (by omega)) T.g__law_take T.fu__law_take.kp T.b__law_take tk (a_tok 1 (a_cons x_int a_nil))) x_int) a_nil))) a_nil)))) a_nil)))))
  (ss_cons (s_for po (by rfl) (i_seq (x_var 5)) (g_name sc_law.nd)
  (ss_cons (s_if (t_not (t_val (x_callG (FnG.lift (ok__law_parted T) _) (by exact hr.mono (by omega)) (by exact hgu) T.g__law_parted T.fu__law_parted.kp T.b__law_parted tk (a_cons (x_var 2) (a_cons (x_var 7) a_nil)))))
  (ss_one (s_ret x_bl))
  ss_nil)
  (ss_one (s_if (t_pw (t_and (t_cmp (o_eq hr) (p_eq _) (x_call (ok__law_take T _ _ _) (by exact hr.mono (by omega)) T.g__law_take T.fu__law_take.kp T.b__law_take tk (a_tok 1 (a_cons x_int a_nil))) x_int (nomark _)) (t_and1 (t_not (t_val (x_callG (FnG.lift (ok__law_parted T) _) (by exact hr.mono (by omega)) (by exact hgu) T.g__law_parted T.fu__law_parted.kp T.b__law_parted tk (a_cons (x_var 4) (a_cons (x_var 7) a_nil))))))))
  (ss_one (s_ret x_bl))
  ss_nil))))
  (ss_cons (s_if (t_pw (t_or (t_not (t_val (x_callG (FnG.lift (ok__law_parted T) _) (by exact hr.mono (by omega)) (by exact hgu) T.g__law_parted T.fu__law_parted.kp T.b__law_parted tk (a_cons (x_var 4) (a_cons (x_fz (f_lst (a_cons x_int a_nil))) a_nil))))) (t_or1 (t_not (t_val (x_callG (FnG.lift (ok__law_parted T) _) (by exact hr.mono (by omega)) (by exact hgu) T.g__law_parted T.fu__law_parted.kp T.b__law_parted tk (a_cons (x_var 4) (a_cons (x_fz (f_lst a_nil)) a_nil))))))))
  (ss_one (s_ret x_bl))
  ss_nil)
  (ss_cons (s_set sc_law.nd (x_call (ok__law_unlike T _ _ _) (by exact hr.mono (by omega)) T.g__law_unlike T.fu__law_unlike.kp T.b__law_unlike tk (a_tok 1 (a_cons (x_var 3) (a_cons (x_op o_add (p_add _) x_int (x_call (ok__law_take T _ _ _) (by exact hr.mono (by omega)) T.g__law_take T.fu__law_take.kp T.b__law_take tk (a_tok 1 (a_cons (x_var 3) a_nil)))) a_nil)))))
  (ss_cons (s_set sc_law.nd (x_call (ok__law_unlike T _ _ _) (by exact hr.mono (by omega)) T.g__law_unlike T.fu__law_unlike.kp T.b__law_unlike tk (a_tok 1 (a_cons (x_cB call_len_seq (p_len _) T.z_len PySem.boot_len (a_cons (x_var 7) a_nil)) (a_cons (x_op o_add (p_add _) x_int (x_call (ok__law_take T _ _ _) (by exact hr.mono (by omega)) T.g__law_take T.fu__law_take.kp T.b__law_take tk (a_tok 1 (a_cons (x_cB call_len_seq (p_len _) T.z_len PySem.boot_len (a_cons (x_var 7) a_nil)) a_nil)))) a_nil)))))
  (ss_cons (s_set sc_law.nd (x_call (FnOk.lift (ok__law_due T) _) (by exact hr.mono (by omega)) T.g__law_due T.fu__law_due.kp T.b__law_due tk (a_cons (x_var 2) (a_cons (x_fz (f_lc [("at", 10)] (by rfl) sc_law.nd (i_seq (x_var 8)) (blkOk_by (by kernel_rfl)) (fun _ _ _ _ _ => (g_name sc_law.nd)) (fun _ _ _ _ _ => ts_nil) (fun _ _ _ _ _ => (x_ix (x_var 7) (x_var 10))) (go_name 10))) a_nil))))
  (ss_one (s_ret (x_call (FnOk.lift (ok__law_same T) _) (by exact hr.mono (by omega)) T.g__law_same T.fu__law_same.kp T.b__law_same tk (a_cons (x_call (FnOk.lift (ok__law_asked T) _) (by exact hr.mono (by omega)) T.g__law_asked T.fu__law_asked.kp T.b__law_asked tk (a_cons (x_call (FnOk.lift (ok_part T) _) (by exact hr.mono (by omega)) T.g_part T.fu_part.kp T.b_part tk (a_cons (x_var 2) (a_cons (x_var 7) a_nil))) (a_cons (x_var 8) a_nil))) (a_cons (x_var 9) a_nil)))))))))))))))
theorem ok_law (T : Tx K mg) (pure : ∀ cs s, ∃ e, b_law cs ⟨.un :: .tok :: List.replicate 9 .un, s⟩ = .ok (.ret (.sh (.bool true))) e) : FnG Pg w K mg base (L2.CX Pg w) 39 T.a_law T.d_law ["script"] (spLaw K) := by
  refine fnG_by T.fu_law sc_law spLaw_len (fun cdv A outer s H E hr hgu vs Q h => ?_)
  obtain ⟨a, ns, rfl, hS, hl, q⟩ := h
  refine ⟨_, pss_cons (ps_set (i := 1) sc_law.nd rfl (.inl rfl) (pe_callS (ok__law_store T) (hr.mono (by decide)) (by rfl) T.g__law_store T.fu__law_store.kp T.b__law_store (fun σ => passAt (W := wE E) (takes_of rfl rfl rfl rfl) σ) (pa_cons (pv 0) pa_nil)))
    (pss_ex (ι := Addr × Addr × List Addr × Hp) fun i => x_law T i.1 i.2.1 i.2.2.1 cdv A outer s H E (fun _ => none) i.2.2.2 hr hgu (takes_of rfl rfl rfl rfl) (passes_of rfl)), ?_⟩
  refine ⟨.ref a, rfl, a, ns, rfl, hS, hl, fun p c cs st H1 hst => ?_⟩
  obtain ⟨e, he⟩ := pure cs st
  refine ⟨(p, c, cs, H1), fun _ => none, ⟨.un :: .tok :: List.replicate 9 .un, st⟩, eok_law hst rfl rfl, ?_⟩
  exact satS_ret he fun H2 v F1 rv => by cases rv; exact q H2
end
/-! the end -/
theorem all_mk {l : PySem.W.OpenLaw} {w : World} {K : PySem.W.Frag} {h : Heap} {mg : Str → Option Value} {fa : Addr} (X : K.In h) (G : h.Ns mainGlobals mg) (hfa : mg "law" = some (.ref fa)) (pure : ∀ cs s, ∃ e, b_law cs ⟨.un :: .tok :: List.replicate 9 .un, s⟩ = .ok (.ret (.sh (.bool true))) e)
    {f_same_parts : Addr} {od_same_parts an_same_parts : Option Addr} {sl_same_parts : Array (Option Value)} {oc_same_parts kV_same_parts dc_same_parts pm_same_parts cd_same_parts ct_same_parts : Value}
    {f_is_whole : Addr} {od_is_whole an_is_whole : Option Addr} {sl_is_whole : Array (Option Value)} {oc_is_whole kV_is_whole dc_is_whole pm_is_whole cd_is_whole ct_is_whole : Value}
    {f_is_index : Addr} {od_is_index an_is_index : Option Addr} {sl_is_index : Array (Option Value)} {oc_is_index kV_is_index dc_is_index pm_is_index cd_is_index ct_is_index : Value}
    {f_copied : Addr} {od_copied an_copied : Option Addr} {sl_copied : Array (Option Value)} {oc_copied kV_copied dc_copied pm_copied cd_copied ct_copied : Value}
    {f_check_state : Addr} {od_check_state an_check_state : Option Addr} {sl_check_state : Array (Option Value)} {oc_check_state kV_check_state dc_check_state pm_check_state cd_check_state ct_check_state : Value}
    {f_is_book : Addr} {od_is_book an_is_book : Option Addr} {sl_is_book : Array (Option Value)} {oc_is_book kV_is_book dc_is_book pm_is_book cd_is_book ct_is_book : Value}
    {f_words_of : Addr} {od_words_of an_words_of : Option Addr} {sl_words_of : Array (Option Value)} {oc_words_of kV_words_of dc_words_of pm_words_of cd_words_of ct_words_of : Value}
    {f_book_words : Addr} {od_book_words an_book_words : Option Addr} {sl_book_words : Array (Option Value)} {oc_book_words kV_book_words dc_book_words pm_book_words cd_book_words ct_book_words : Value}
    {f_is_below : Addr} {od_is_below an_is_below : Option Addr} {sl_is_below : Array (Option Value)} {oc_is_below kV_is_below dc_is_below pm_is_below cd_is_below ct_is_below : Value}
    {f_check_book : Addr} {od_check_book an_check_book : Option Addr} {sl_check_book : Array (Option Value)} {oc_check_book kV_check_book dc_check_book pm_check_book cd_check_book ct_check_book : Value}
    {f_book_made : Addr} {od_book_made an_book_made : Option Addr} {sl_book_made : Array (Option Value)} {oc_book_made kV_book_made dc_book_made pm_book_made cd_book_made ct_book_made : Value}
    {f_part : Addr} {od_part an_part : Option Addr} {sl_part : Array (Option Value)} {oc_part kV_part dc_part pm_part cd_part ct_part : Value}
    {f__law_mixed : Addr} {od__law_mixed an__law_mixed : Option Addr} {sl__law_mixed : Array (Option Value)} {oc__law_mixed kV__law_mixed dc__law_mixed pm__law_mixed cd__law_mixed ct__law_mixed : Value}
    {f__law_store : Addr} {od__law_store an__law_store : Option Addr} {sl__law_store : Array (Option Value)} {oc__law_store kV__law_store dc__law_store pm__law_store cd__law_store ct__law_store : Value}
    {f__law_take : Addr} {od__law_take an__law_take : Option Addr} {sl__law_take : Array (Option Value)} {oc__law_take kV__law_take dc__law_take pm__law_take cd__law_take ct__law_take : Value}
    {f__law_number : Addr} {od__law_number an__law_number : Option Addr} {sl__law_number : Array (Option Value)} {oc__law_number kV__law_number dc__law_number pm__law_number cd__law_number ct__law_number : Value}
    {f__law_great : Addr} {od__law_great an__law_great : Option Addr} {sl__law_great : Array (Option Value)} {oc__law_great kV__law_great dc__law_great pm__law_great cd__law_great ct__law_great : Value}
    {f__law_no_number : Addr} {od__law_no_number an__law_no_number : Option Addr} {sl__law_no_number : Array (Option Value)} {oc__law_no_number kV__law_no_number dc__law_no_number pm__law_no_number cd__law_no_number ct__law_no_number : Value}
    {f__law_outside : Addr} {od__law_outside an__law_outside : Option Addr} {sl__law_outside : Array (Option Value)} {oc__law_outside kV__law_outside dc__law_outside pm__law_outside cd__law_outside ct__law_outside : Value}
    {f__law_unlike : Addr} {od__law_unlike an__law_unlike : Option Addr} {sl__law_unlike : Array (Option Value)} {oc__law_unlike kV__law_unlike dc__law_unlike pm__law_unlike cd__law_unlike ct__law_unlike : Value}
    {f__law_order : Addr} {od__law_order an__law_order : Option Addr} {sl__law_order : Array (Option Value)} {oc__law_order kV__law_order dc__law_order pm__law_order cd__law_order ct__law_order : Value}
    {f__law_power : Addr} {od__law_power an__law_power : Option Addr} {sl__law_power : Array (Option Value)} {oc__law_power kV__law_power dc__law_power pm__law_power cd__law_power ct__law_power : Value}
    {f__law_kind : Addr} {od__law_kind an__law_kind : Option Addr} {sl__law_kind : Array (Option Value)} {oc__law_kind kV__law_kind dc__law_kind pm__law_kind cd__law_kind ct__law_kind : Value}
    {f__law_same : Addr} {od__law_same an__law_same : Option Addr} {sl__law_same : Array (Option Value)} {oc__law_same kV__law_same dc__law_same pm__law_same cd__law_same ct__law_same : Value}
    {f__law_is_whole : Addr} {od__law_is_whole an__law_is_whole : Option Addr} {sl__law_is_whole : Array (Option Value)} {oc__law_is_whole kV__law_is_whole dc__law_is_whole pm__law_is_whole cd__law_is_whole ct__law_is_whole : Value}
    {f__law_mask_word : Addr} {od__law_mask_word an__law_mask_word : Option Addr} {sl__law_mask_word : Array (Option Value)} {oc__law_mask_word kV__law_mask_word dc__law_mask_word pm__law_mask_word cd__law_mask_word ct__law_mask_word : Value}
    {f__law_masks : Addr} {od__law_masks an__law_masks : Option Addr} {sl__law_masks : Array (Option Value)} {oc__law_masks kV__law_masks dc__law_masks pm__law_masks cd__law_masks ct__law_masks : Value}
    {f__law_words : Addr} {od__law_words an__law_words : Option Addr} {sl__law_words : Array (Option Value)} {oc__law_words kV__law_words dc__law_words pm__law_words cd__law_words ct__law_words : Value}
    {f__law_less : Addr} {od__law_less an__law_less : Option Addr} {sl__law_less : Array (Option Value)} {oc__law_less kV__law_less dc__law_less pm__law_less cd__law_less ct__law_less : Value}
    {f__law_pruned : Addr} {od__law_pruned an__law_pruned : Option Addr} {sl__law_pruned : Array (Option Value)} {oc__law_pruned kV__law_pruned dc__law_pruned pm__law_pruned cd__law_pruned ct__law_pruned : Value}
    {f__law_book : Addr} {od__law_book an__law_book : Option Addr} {sl__law_book : Array (Option Value)} {oc__law_book kV__law_book dc__law_book pm__law_book cd__law_book ct__law_book : Value}
    {f__law_plan : Addr} {od__law_plan an__law_plan : Option Addr} {sl__law_plan : Array (Option Value)} {oc__law_plan kV__law_plan dc__law_plan pm__law_plan cd__law_plan ct__law_plan : Value}
    {f__law_asked : Addr} {od__law_asked an__law_asked : Option Addr} {sl__law_asked : Array (Option Value)} {oc__law_asked kV__law_asked dc__law_asked pm__law_asked cd__law_asked ct__law_asked : Value}
    {f__law_due : Addr} {od__law_due an__law_due : Option Addr} {sl__law_due : Array (Option Value)} {oc__law_due kV__law_due dc__law_due pm__law_due cd__law_due ct__law_due : Value}
    {f__law_numbers : Addr} {od__law_numbers an__law_numbers : Option Addr} {sl__law_numbers : Array (Option Value)} {oc__law_numbers kV__law_numbers dc__law_numbers pm__law_numbers cd__law_numbers ct__law_numbers : Value}
    {f__law_parted : Addr} {od__law_parted an__law_parted : Option Addr} {sl__law_parted : Array (Option Value)} {oc__law_parted kV__law_parted dc__law_parted pm__law_parted cd__law_parted ct__law_parted : Value}
    {f__law_some_book : Addr} {od__law_some_book an__law_some_book : Option Addr} {sl__law_some_book : Array (Option Value)} {oc__law_some_book kV__law_some_book dc__law_some_book pm__law_some_book cd__law_some_book ct__law_some_book : Value}
    {f_law : Addr} {od_law an_law : Option Addr} {sl_law : Array (Option Value)} {oc_law kV_law dc_law pm_law cd_law ct_law : Value}
    {C_PulseError : Addr}
    {C_NoWord : Addr}
    {nm_NoWord qn_NoWord : Str} {N_NoWord : Addr} {bs_NoWord bm_NoWord : List Value} {sn_NoWord : List Str} {sb_NoWord : List Value} {ab_NoWord : Bool} {col_NoWord : Option Bool} {dd_NoWord : Option Addr} {m0_NoWord m1_NoWord m2_NoWord m3_NoWord m5_NoWord : Option Value}
    {i_NoWord : Addr} {od_i_NoWord an_i_NoWord : Option Addr} {sl_i_NoWord : Array (Option Value)} {oc_i_NoWord kV_i_NoWord dc_i_NoWord pm_i_NoWord cd_i_NoWord ct_i_NoWord : Value}
    {C_NotBook : Addr}
    {nm_NotBook qn_NotBook : Str} {N_NotBook : Addr} {bs_NotBook bm_NotBook : List Value} {sn_NotBook : List Str} {sb_NotBook : List Value} {ab_NotBook : Bool} {col_NotBook : Option Bool} {dd_NotBook : Option Addr} {m0_NotBook m1_NotBook m2_NotBook m3_NotBook m5_NotBook : Option Value}
    {i_NotBook : Addr} {od_i_NotBook an_i_NotBook : Option Addr} {sl_i_NotBook : Array (Option Value)} {oc_i_NotBook kV_i_NotBook dc_i_NotBook pm_i_NotBook cd_i_NotBook ct_i_NotBook : Value}
    {C_BadState : Addr}
    {nm_BadState qn_BadState : Str} {N_BadState : Addr} {bs_BadState bm_BadState : List Value} {sn_BadState : List Str} {sb_BadState : List Value} {ab_BadState : Bool} {col_BadState : Option Bool} {dd_BadState : Option Addr} {m0_BadState m1_BadState m2_BadState m3_BadState m5_BadState : Option Value}
    {i_BadState : Addr} {od_i_BadState an_i_BadState : Option Addr} {sl_i_BadState : Array (Option Value)} {oc_i_BadState kV_i_BadState dc_i_BadState pm_i_BadState cd_i_BadState ct_i_BadState : Value}
    {C_BadNumber : Addr}
    {nm_BadNumber qn_BadNumber : Str} {N_BadNumber : Addr} {bs_BadNumber bm_BadNumber : List Value} {sn_BadNumber : List Str} {sb_BadNumber : List Value} {ab_BadNumber : Bool} {col_BadNumber : Option Bool} {dd_BadNumber : Option Addr} {m0_BadNumber m1_BadNumber m2_BadNumber m3_BadNumber m5_BadNumber : Option Value}
    {i_BadNumber : Addr} {od_i_BadNumber an_i_BadNumber : Option Addr} {sl_i_BadNumber : Array (Option Value)} {oc_i_BadNumber kV_i_BadNumber dc_i_BadNumber pm_i_BadNumber cd_i_BadNumber ct_i_BadNumber : Value}
    {C_Double : Addr}
    {nm_Double qn_Double : Str} {N_Double : Addr} {bs_Double bm_Double : List Value} {sn_Double : List Str} {sb_Double : List Value} {ab_Double : Bool} {col_Double : Option Bool} {dd_Double : Option Addr} {m0_Double m1_Double m2_Double m3_Double m5_Double : Option Value}
    {i_Double : Addr} {od_i_Double an_i_Double : Option Addr} {sl_i_Double : Array (Option Value)} {oc_i_Double kV_i_Double dc_i_Double pm_i_Double cd_i_Double ct_i_Double : Value}
    (a_same_parts : PySem.W.nsIn K mainGlobals "same_parts" = some (some (.ref f_same_parts)))
    (l_same_parts : K.lookup f_same_parts = some ⟨oc_same_parts, od_same_parts, .func (PySem.W.fnOf "same_parts" "same_parts" (defArgs s_same_parts) (defBody s_same_parts) (defScope s_same_parts) .none kV_same_parts dc_same_parts pm_same_parts an_same_parts cd_same_parts ct_same_parts), sl_same_parts⟩)
    (c_same_parts : PySem.W.codeIn K cd_same_parts "same_parts" = true)
    (k_same_parts : PySem.W.keepIn K (.ref f_same_parts) = true)
    (a_is_whole : PySem.W.nsIn K mainGlobals "is_whole" = some (some (.ref f_is_whole)))
    (l_is_whole : K.lookup f_is_whole = some ⟨oc_is_whole, od_is_whole, .func (PySem.W.fnOf "is_whole" "is_whole" (defArgs s_is_whole) (defBody s_is_whole) (defScope s_is_whole) .none kV_is_whole dc_is_whole pm_is_whole an_is_whole cd_is_whole ct_is_whole), sl_is_whole⟩)
    (c_is_whole : PySem.W.codeIn K cd_is_whole "is_whole" = true)
    (k_is_whole : PySem.W.keepIn K (.ref f_is_whole) = true)
    (a_is_index : PySem.W.nsIn K mainGlobals "is_index" = some (some (.ref f_is_index)))
    (l_is_index : K.lookup f_is_index = some ⟨oc_is_index, od_is_index, .func (PySem.W.fnOf "is_index" "is_index" (defArgs s_is_index) (defBody s_is_index) (defScope s_is_index) .none kV_is_index dc_is_index pm_is_index an_is_index cd_is_index ct_is_index), sl_is_index⟩)
    (c_is_index : PySem.W.codeIn K cd_is_index "is_index" = true)
    (k_is_index : PySem.W.keepIn K (.ref f_is_index) = true)
    (a_copied : PySem.W.nsIn K mainGlobals "copied" = some (some (.ref f_copied)))
    (l_copied : K.lookup f_copied = some ⟨oc_copied, od_copied, .func (PySem.W.fnOf "copied" "copied" (defArgs s_copied) (defBody s_copied) (defScope s_copied) .none kV_copied dc_copied pm_copied an_copied cd_copied ct_copied), sl_copied⟩)
    (c_copied : PySem.W.codeIn K cd_copied "copied" = true)
    (k_copied : PySem.W.keepIn K (.ref f_copied) = true)
    (a_check_state : PySem.W.nsIn K mainGlobals "check_state" = some (some (.ref f_check_state)))
    (l_check_state : K.lookup f_check_state = some ⟨oc_check_state, od_check_state, .func (PySem.W.fnOf "check_state" "check_state" (defArgs s_check_state) (defBody s_check_state) (defScope s_check_state) .none kV_check_state dc_check_state pm_check_state an_check_state cd_check_state ct_check_state), sl_check_state⟩)
    (c_check_state : PySem.W.codeIn K cd_check_state "check_state" = true)
    (k_check_state : PySem.W.keepIn K (.ref f_check_state) = true)
    (a_is_book : PySem.W.nsIn K mainGlobals "is_book" = some (some (.ref f_is_book)))
    (l_is_book : K.lookup f_is_book = some ⟨oc_is_book, od_is_book, .func (PySem.W.fnOf "is_book" "is_book" (defArgs s_is_book) (defBody s_is_book) (defScope s_is_book) .none kV_is_book dc_is_book pm_is_book an_is_book cd_is_book ct_is_book), sl_is_book⟩)
    (c_is_book : PySem.W.codeIn K cd_is_book "is_book" = true)
    (k_is_book : PySem.W.keepIn K (.ref f_is_book) = true)
    (a_words_of : PySem.W.nsIn K mainGlobals "words_of" = some (some (.ref f_words_of)))
    (l_words_of : K.lookup f_words_of = some ⟨oc_words_of, od_words_of, .func (PySem.W.fnOf "words_of" "words_of" (defArgs s_words_of) (defBody s_words_of) (defScope s_words_of) .none kV_words_of dc_words_of pm_words_of an_words_of cd_words_of ct_words_of), sl_words_of⟩)
    (c_words_of : PySem.W.codeIn K cd_words_of "words_of" = true)
    (k_words_of : PySem.W.keepIn K (.ref f_words_of) = true)
    (a_book_words : PySem.W.nsIn K mainGlobals "book_words" = some (some (.ref f_book_words)))
    (l_book_words : K.lookup f_book_words = some ⟨oc_book_words, od_book_words, .func (PySem.W.fnOf "book_words" "book_words" (defArgs s_book_words) (defBody s_book_words) (defScope s_book_words) .none kV_book_words dc_book_words pm_book_words an_book_words cd_book_words ct_book_words), sl_book_words⟩)
    (c_book_words : PySem.W.codeIn K cd_book_words "book_words" = true)
    (k_book_words : PySem.W.keepIn K (.ref f_book_words) = true)
    (a_is_below : PySem.W.nsIn K mainGlobals "is_below" = some (some (.ref f_is_below)))
    (l_is_below : K.lookup f_is_below = some ⟨oc_is_below, od_is_below, .func (PySem.W.fnOf "is_below" "is_below" (defArgs s_is_below) (defBody s_is_below) (defScope s_is_below) .none kV_is_below dc_is_below pm_is_below an_is_below cd_is_below ct_is_below), sl_is_below⟩)
    (c_is_below : PySem.W.codeIn K cd_is_below "is_below" = true)
    (k_is_below : PySem.W.keepIn K (.ref f_is_below) = true)
    (a_check_book : PySem.W.nsIn K mainGlobals "check_book" = some (some (.ref f_check_book)))
    (l_check_book : K.lookup f_check_book = some ⟨oc_check_book, od_check_book, .func (PySem.W.fnOf "check_book" "check_book" (defArgs s_check_book) (defBody s_check_book) (defScope s_check_book) .none kV_check_book dc_check_book pm_check_book an_check_book cd_check_book ct_check_book), sl_check_book⟩)
    (c_check_book : PySem.W.codeIn K cd_check_book "check_book" = true)
    (k_check_book : PySem.W.keepIn K (.ref f_check_book) = true)
    (a_book_made : PySem.W.nsIn K mainGlobals "book_made" = some (some (.ref f_book_made)))
    (l_book_made : K.lookup f_book_made = some ⟨oc_book_made, od_book_made, .func (PySem.W.fnOf "book_made" "book_made" (defArgs s_book_made) (defBody s_book_made) (defScope s_book_made) .none kV_book_made dc_book_made pm_book_made an_book_made cd_book_made ct_book_made), sl_book_made⟩)
    (c_book_made : PySem.W.codeIn K cd_book_made "book_made" = true)
    (k_book_made : PySem.W.keepIn K (.ref f_book_made) = true)
    (a_part : PySem.W.nsIn K mainGlobals "part" = some (some (.ref f_part)))
    (l_part : K.lookup f_part = some ⟨oc_part, od_part, .func (PySem.W.fnOf "part" "part" (defArgs s_part) (defBody s_part) (defScope s_part) .none kV_part dc_part pm_part an_part cd_part ct_part), sl_part⟩)
    (c_part : PySem.W.codeIn K cd_part "part" = true)
    (k_part : PySem.W.keepIn K (.ref f_part) = true)
    (a__law_mixed : PySem.W.nsIn K mainGlobals "_law_mixed" = some (some (.ref f__law_mixed)))
    (l__law_mixed : K.lookup f__law_mixed = some ⟨oc__law_mixed, od__law_mixed, .func (PySem.W.fnOf "_law_mixed" "_law_mixed" (defArgs s__law_mixed) (defBody s__law_mixed) (defScope s__law_mixed) .none kV__law_mixed dc__law_mixed pm__law_mixed an__law_mixed cd__law_mixed ct__law_mixed), sl__law_mixed⟩)
    (c__law_mixed : PySem.W.codeIn K cd__law_mixed "_law_mixed" = true)
    (k__law_mixed : PySem.W.keepIn K (.ref f__law_mixed) = true)
    (a__law_store : PySem.W.nsIn K mainGlobals "_law_store" = some (some (.ref f__law_store)))
    (l__law_store : K.lookup f__law_store = some ⟨oc__law_store, od__law_store, .func (PySem.W.fnOf "_law_store" "_law_store" (defArgs s__law_store) (defBody s__law_store) (defScope s__law_store) .none kV__law_store dc__law_store pm__law_store an__law_store cd__law_store ct__law_store), sl__law_store⟩)
    (c__law_store : PySem.W.codeIn K cd__law_store "_law_store" = true)
    (k__law_store : PySem.W.keepIn K (.ref f__law_store) = true)
    (a__law_take : PySem.W.nsIn K mainGlobals "_law_take" = some (some (.ref f__law_take)))
    (l__law_take : K.lookup f__law_take = some ⟨oc__law_take, od__law_take, .func (PySem.W.fnOf "_law_take" "_law_take" (defArgs s__law_take) (defBody s__law_take) (defScope s__law_take) .none kV__law_take dc__law_take pm__law_take an__law_take cd__law_take ct__law_take), sl__law_take⟩)
    (c__law_take : PySem.W.codeIn K cd__law_take "_law_take" = true)
    (k__law_take : PySem.W.keepIn K (.ref f__law_take) = true)
    (a__law_number : PySem.W.nsIn K mainGlobals "_law_number" = some (some (.ref f__law_number)))
    (l__law_number : K.lookup f__law_number = some ⟨oc__law_number, od__law_number, .func (PySem.W.fnOf "_law_number" "_law_number" (defArgs s__law_number) (defBody s__law_number) (defScope s__law_number) .none kV__law_number dc__law_number pm__law_number an__law_number cd__law_number ct__law_number), sl__law_number⟩)
    (c__law_number : PySem.W.codeIn K cd__law_number "_law_number" = true)
    (k__law_number : PySem.W.keepIn K (.ref f__law_number) = true)
    (a__law_great : PySem.W.nsIn K mainGlobals "_law_great" = some (some (.ref f__law_great)))
    (l__law_great : K.lookup f__law_great = some ⟨oc__law_great, od__law_great, .func (PySem.W.fnOf "_law_great" "_law_great" (defArgs s__law_great) (defBody s__law_great) (defScope s__law_great) .none kV__law_great dc__law_great pm__law_great an__law_great cd__law_great ct__law_great), sl__law_great⟩)
    (c__law_great : PySem.W.codeIn K cd__law_great "_law_great" = true)
    (k__law_great : PySem.W.keepIn K (.ref f__law_great) = true)
    (a__law_no_number : PySem.W.nsIn K mainGlobals "_law_no_number" = some (some (.ref f__law_no_number)))
    (l__law_no_number : K.lookup f__law_no_number = some ⟨oc__law_no_number, od__law_no_number, .func (PySem.W.fnOf "_law_no_number" "_law_no_number" (defArgs s__law_no_number) (defBody s__law_no_number) (defScope s__law_no_number) .none kV__law_no_number dc__law_no_number pm__law_no_number an__law_no_number cd__law_no_number ct__law_no_number), sl__law_no_number⟩)
    (c__law_no_number : PySem.W.codeIn K cd__law_no_number "_law_no_number" = true)
    (k__law_no_number : PySem.W.keepIn K (.ref f__law_no_number) = true)
    (a__law_outside : PySem.W.nsIn K mainGlobals "_law_outside" = some (some (.ref f__law_outside)))
    (l__law_outside : K.lookup f__law_outside = some ⟨oc__law_outside, od__law_outside, .func (PySem.W.fnOf "_law_outside" "_law_outside" (defArgs s__law_outside) (defBody s__law_outside) (defScope s__law_outside) .none kV__law_outside dc__law_outside pm__law_outside an__law_outside cd__law_outside ct__law_outside), sl__law_outside⟩)
    (c__law_outside : PySem.W.codeIn K cd__law_outside "_law_outside" = true)
    (k__law_outside : PySem.W.keepIn K (.ref f__law_outside) = true)
    (a__law_unlike : PySem.W.nsIn K mainGlobals "_law_unlike" = some (some (.ref f__law_unlike)))
    (l__law_unlike : K.lookup f__law_unlike = some ⟨oc__law_unlike, od__law_unlike, .func (PySem.W.fnOf "_law_unlike" "_law_unlike" (defArgs s__law_unlike) (defBody s__law_unlike) (defScope s__law_unlike) .none kV__law_unlike dc__law_unlike pm__law_unlike an__law_unlike cd__law_unlike ct__law_unlike), sl__law_unlike⟩)
    (c__law_unlike : PySem.W.codeIn K cd__law_unlike "_law_unlike" = true)
    (k__law_unlike : PySem.W.keepIn K (.ref f__law_unlike) = true)
    (a__law_order : PySem.W.nsIn K mainGlobals "_law_order" = some (some (.ref f__law_order)))
    (l__law_order : K.lookup f__law_order = some ⟨oc__law_order, od__law_order, .func (PySem.W.fnOf "_law_order" "_law_order" (defArgs s__law_order) (defBody s__law_order) (defScope s__law_order) .none kV__law_order dc__law_order pm__law_order an__law_order cd__law_order ct__law_order), sl__law_order⟩)
    (c__law_order : PySem.W.codeIn K cd__law_order "_law_order" = true)
    (k__law_order : PySem.W.keepIn K (.ref f__law_order) = true)
    (a__law_power : PySem.W.nsIn K mainGlobals "_law_power" = some (some (.ref f__law_power)))
    (l__law_power : K.lookup f__law_power = some ⟨oc__law_power, od__law_power, .func (PySem.W.fnOf "_law_power" "_law_power" (defArgs s__law_power) (defBody s__law_power) (defScope s__law_power) .none kV__law_power dc__law_power pm__law_power an__law_power cd__law_power ct__law_power), sl__law_power⟩)
    (c__law_power : PySem.W.codeIn K cd__law_power "_law_power" = true)
    (k__law_power : PySem.W.keepIn K (.ref f__law_power) = true)
    (a__law_kind : PySem.W.nsIn K mainGlobals "_law_kind" = some (some (.ref f__law_kind)))
    (l__law_kind : K.lookup f__law_kind = some ⟨oc__law_kind, od__law_kind, .func (PySem.W.fnOf "_law_kind" "_law_kind" (defArgs s__law_kind) (defBody s__law_kind) (defScope s__law_kind) .none kV__law_kind dc__law_kind pm__law_kind an__law_kind cd__law_kind ct__law_kind), sl__law_kind⟩)
    (c__law_kind : PySem.W.codeIn K cd__law_kind "_law_kind" = true)
    (k__law_kind : PySem.W.keepIn K (.ref f__law_kind) = true)
    (a__law_same : PySem.W.nsIn K mainGlobals "_law_same" = some (some (.ref f__law_same)))
    (l__law_same : K.lookup f__law_same = some ⟨oc__law_same, od__law_same, .func (PySem.W.fnOf "_law_same" "_law_same" (defArgs s__law_same) (defBody s__law_same) (defScope s__law_same) .none kV__law_same dc__law_same pm__law_same an__law_same cd__law_same ct__law_same), sl__law_same⟩)
    (c__law_same : PySem.W.codeIn K cd__law_same "_law_same" = true)
    (k__law_same : PySem.W.keepIn K (.ref f__law_same) = true)
    (a__law_is_whole : PySem.W.nsIn K mainGlobals "_law_is_whole" = some (some (.ref f__law_is_whole)))
    (l__law_is_whole : K.lookup f__law_is_whole = some ⟨oc__law_is_whole, od__law_is_whole, .func (PySem.W.fnOf "_law_is_whole" "_law_is_whole" (defArgs s__law_is_whole) (defBody s__law_is_whole) (defScope s__law_is_whole) .none kV__law_is_whole dc__law_is_whole pm__law_is_whole an__law_is_whole cd__law_is_whole ct__law_is_whole), sl__law_is_whole⟩)
    (c__law_is_whole : PySem.W.codeIn K cd__law_is_whole "_law_is_whole" = true)
    (k__law_is_whole : PySem.W.keepIn K (.ref f__law_is_whole) = true)
    (a__law_mask_word : PySem.W.nsIn K mainGlobals "_law_mask_word" = some (some (.ref f__law_mask_word)))
    (l__law_mask_word : K.lookup f__law_mask_word = some ⟨oc__law_mask_word, od__law_mask_word, .func (PySem.W.fnOf "_law_mask_word" "_law_mask_word" (defArgs s__law_mask_word) (defBody s__law_mask_word) (defScope s__law_mask_word) .none kV__law_mask_word dc__law_mask_word pm__law_mask_word an__law_mask_word cd__law_mask_word ct__law_mask_word), sl__law_mask_word⟩)
    (c__law_mask_word : PySem.W.codeIn K cd__law_mask_word "_law_mask_word" = true)
    (k__law_mask_word : PySem.W.keepIn K (.ref f__law_mask_word) = true)
    (a__law_masks : PySem.W.nsIn K mainGlobals "_law_masks" = some (some (.ref f__law_masks)))
    (l__law_masks : K.lookup f__law_masks = some ⟨oc__law_masks, od__law_masks, .func (PySem.W.fnOf "_law_masks" "_law_masks" (defArgs s__law_masks) (defBody s__law_masks) (defScope s__law_masks) .none kV__law_masks dc__law_masks pm__law_masks an__law_masks cd__law_masks ct__law_masks), sl__law_masks⟩)
    (c__law_masks : PySem.W.codeIn K cd__law_masks "_law_masks" = true)
    (k__law_masks : PySem.W.keepIn K (.ref f__law_masks) = true)
    (a__law_words : PySem.W.nsIn K mainGlobals "_law_words" = some (some (.ref f__law_words)))
    (l__law_words : K.lookup f__law_words = some ⟨oc__law_words, od__law_words, .func (PySem.W.fnOf "_law_words" "_law_words" (defArgs s__law_words) (defBody s__law_words) (defScope s__law_words) .none kV__law_words dc__law_words pm__law_words an__law_words cd__law_words ct__law_words), sl__law_words⟩)
    (c__law_words : PySem.W.codeIn K cd__law_words "_law_words" = true)
    (k__law_words : PySem.W.keepIn K (.ref f__law_words) = true)
    (a__law_less : PySem.W.nsIn K mainGlobals "_law_less" = some (some (.ref f__law_less)))
    (l__law_less : K.lookup f__law_less = some ⟨oc__law_less, od__law_less, .func (PySem.W.fnOf "_law_less" "_law_less" (defArgs s__law_less) (defBody s__law_less) (defScope s__law_less) .none kV__law_less dc__law_less pm__law_less an__law_less cd__law_less ct__law_less), sl__law_less⟩)
    (c__law_less : PySem.W.codeIn K cd__law_less "_law_less" = true)
    (k__law_less : PySem.W.keepIn K (.ref f__law_less) = true)
    (a__law_pruned : PySem.W.nsIn K mainGlobals "_law_pruned" = some (some (.ref f__law_pruned)))
    (l__law_pruned : K.lookup f__law_pruned = some ⟨oc__law_pruned, od__law_pruned, .func (PySem.W.fnOf "_law_pruned" "_law_pruned" (defArgs s__law_pruned) (defBody s__law_pruned) (defScope s__law_pruned) .none kV__law_pruned dc__law_pruned pm__law_pruned an__law_pruned cd__law_pruned ct__law_pruned), sl__law_pruned⟩)
    (c__law_pruned : PySem.W.codeIn K cd__law_pruned "_law_pruned" = true)
    (k__law_pruned : PySem.W.keepIn K (.ref f__law_pruned) = true)
    (a__law_book : PySem.W.nsIn K mainGlobals "_law_book" = some (some (.ref f__law_book)))
    (l__law_book : K.lookup f__law_book = some ⟨oc__law_book, od__law_book, .func (PySem.W.fnOf "_law_book" "_law_book" (defArgs s__law_book) (defBody s__law_book) (defScope s__law_book) .none kV__law_book dc__law_book pm__law_book an__law_book cd__law_book ct__law_book), sl__law_book⟩)
    (c__law_book : PySem.W.codeIn K cd__law_book "_law_book" = true)
    (k__law_book : PySem.W.keepIn K (.ref f__law_book) = true)
    (a__law_plan : PySem.W.nsIn K mainGlobals "_law_plan" = some (some (.ref f__law_plan)))
    (l__law_plan : K.lookup f__law_plan = some ⟨oc__law_plan, od__law_plan, .func (PySem.W.fnOf "_law_plan" "_law_plan" (defArgs s__law_plan) (defBody s__law_plan) (defScope s__law_plan) .none kV__law_plan dc__law_plan pm__law_plan an__law_plan cd__law_plan ct__law_plan), sl__law_plan⟩)
    (c__law_plan : PySem.W.codeIn K cd__law_plan "_law_plan" = true)
    (k__law_plan : PySem.W.keepIn K (.ref f__law_plan) = true)
    (a__law_asked : PySem.W.nsIn K mainGlobals "_law_asked" = some (some (.ref f__law_asked)))
    (l__law_asked : K.lookup f__law_asked = some ⟨oc__law_asked, od__law_asked, .func (PySem.W.fnOf "_law_asked" "_law_asked" (defArgs s__law_asked) (defBody s__law_asked) (defScope s__law_asked) .none kV__law_asked dc__law_asked pm__law_asked an__law_asked cd__law_asked ct__law_asked), sl__law_asked⟩)
    (c__law_asked : PySem.W.codeIn K cd__law_asked "_law_asked" = true)
    (k__law_asked : PySem.W.keepIn K (.ref f__law_asked) = true)
    (a__law_due : PySem.W.nsIn K mainGlobals "_law_due" = some (some (.ref f__law_due)))
    (l__law_due : K.lookup f__law_due = some ⟨oc__law_due, od__law_due, .func (PySem.W.fnOf "_law_due" "_law_due" (defArgs s__law_due) (defBody s__law_due) (defScope s__law_due) .none kV__law_due dc__law_due pm__law_due an__law_due cd__law_due ct__law_due), sl__law_due⟩)
    (c__law_due : PySem.W.codeIn K cd__law_due "_law_due" = true)
    (k__law_due : PySem.W.keepIn K (.ref f__law_due) = true)
    (a__law_numbers : PySem.W.nsIn K mainGlobals "_law_numbers" = some (some (.ref f__law_numbers)))
    (l__law_numbers : K.lookup f__law_numbers = some ⟨oc__law_numbers, od__law_numbers, .func (PySem.W.fnOf "_law_numbers" "_law_numbers" (defArgs s__law_numbers) (defBody s__law_numbers) (defScope s__law_numbers) .none kV__law_numbers dc__law_numbers pm__law_numbers an__law_numbers cd__law_numbers ct__law_numbers), sl__law_numbers⟩)
    (c__law_numbers : PySem.W.codeIn K cd__law_numbers "_law_numbers" = true)
    (k__law_numbers : PySem.W.keepIn K (.ref f__law_numbers) = true)
    (a__law_parted : PySem.W.nsIn K mainGlobals "_law_parted" = some (some (.ref f__law_parted)))
    (l__law_parted : K.lookup f__law_parted = some ⟨oc__law_parted, od__law_parted, .func (PySem.W.fnOf "_law_parted" "_law_parted" (defArgs s__law_parted) (defBody s__law_parted) (defScope s__law_parted) .none kV__law_parted dc__law_parted pm__law_parted an__law_parted cd__law_parted ct__law_parted), sl__law_parted⟩)
    (c__law_parted : PySem.W.codeIn K cd__law_parted "_law_parted" = true)
    (k__law_parted : PySem.W.keepIn K (.ref f__law_parted) = true)
    (a__law_some_book : PySem.W.nsIn K mainGlobals "_law_some_book" = some (some (.ref f__law_some_book)))
    (l__law_some_book : K.lookup f__law_some_book = some ⟨oc__law_some_book, od__law_some_book, .func (PySem.W.fnOf "_law_some_book" "_law_some_book" (defArgs s__law_some_book) (defBody s__law_some_book) (defScope s__law_some_book) .none kV__law_some_book dc__law_some_book pm__law_some_book an__law_some_book cd__law_some_book ct__law_some_book), sl__law_some_book⟩)
    (c__law_some_book : PySem.W.codeIn K cd__law_some_book "_law_some_book" = true)
    (k__law_some_book : PySem.W.keepIn K (.ref f__law_some_book) = true)
    (a_law : PySem.W.nsIn K mainGlobals "law" = some (some (.ref f_law)))
    (l_law : K.lookup f_law = some ⟨oc_law, od_law, .func (PySem.W.fnOf "law" "law" (defArgs s_law) (defBody s_law) (defScope s_law) .none kV_law dc_law pm_law an_law cd_law ct_law), sl_law⟩)
    (c_law : PySem.W.codeIn K cd_law "law" = true)
    (k_law : PySem.W.keepIn K (.ref f_law) = true)
    (z_abs : PySem.W.nsIn K mainGlobals "abs" = some none)
    (z_bool : PySem.W.nsIn K mainGlobals "bool" = some none)
    (z_enumerate : PySem.W.nsIn K mainGlobals "enumerate" = some none)
    (z_int : PySem.W.nsIn K mainGlobals "int" = some none)
    (z_isinstance : PySem.W.nsIn K mainGlobals "isinstance" = some none)
    (z_len : PySem.W.nsIn K mainGlobals "len" = some none)
    (z_list : PySem.W.nsIn K mainGlobals "list" = some none)
    (z_max : PySem.W.nsIn K mainGlobals "max" = some none)
    (z_min : PySem.W.nsIn K mainGlobals "min" = some none)
    (z_range : PySem.W.nsIn K mainGlobals "range" = some none)
    (z_repr : PySem.W.nsIn K mainGlobals "repr" = some none)
    (z_str : PySem.W.nsIn K mainGlobals "str" = some none)
    (z_tuple : PySem.W.nsIn K mainGlobals "tuple" = some none)
    (ac_PulseError : PySem.W.nsIn K mainGlobals "PulseError" = some (some (.ref C_PulseError)))
    (ac_NoWord : PySem.W.nsIn K mainGlobals "NoWord" = some (some (.ref C_NoWord)))
    (is_NoWord : PySem.W.isClsIn K C_NoWord = true)
    (ty_NoWord : PySem.W.typeIn K (.ref C_NoWord) = some (.type "type"))
    (ex_NoWord : PySem.W.subIn K (.ref C_NoWord) (.type "BaseException") = some true)
    (ga_NoWord : PySem.W.findIn K (.ref C_NoWord) "__getattribute__" = some (some (.builtin "BaseException.__getattribute__")))
    (gg_NoWord : PySem.W.findIn K (.ref C_NoWord) "__getattr__" = some none)
    (x_NoWord : K.lookup C_NoWord = some (excClassObj nm_NoWord qn_NoWord C_NoWord N_NoWord bs_NoWord bm_NoWord true sn_NoWord sb_NoWord ab_NoWord col_NoWord dd_NoWord m0_NoWord m1_NoWord m2_NoWord m3_NoWord m5_NoWord "ValueError.__new__"))
    (rv_NoWord : PySem.HandSPX.refsVE bm_NoWord = true)
    (sa_NoWord : PySem.W.findIn K (.ref C_NoWord) "__setattr__" = some (some (.builtin "object.__setattr__")))
    (kc_NoWord : PySem.W.keepIn K (.ref C_NoWord) = true)
    (ii_NoWord : PySem.W.findIn K (.ref C_NoWord) "__init__" = some (some (.ref i_NoWord)))
    (it_NoWord : PySem.W.typeIn K (.ref i_NoWord) = some (.type "function"))
    (li_NoWord : K.lookup i_NoWord = some ⟨oc_i_NoWord, od_i_NoWord, .func (PySem.W.fnOf "__init__" "NoWord.__init__" (defArgs st_i_NoWord) (defBody st_i_NoWord) (defScope st_i_NoWord) .none kV_i_NoWord dc_i_NoWord pm_i_NoWord an_i_NoWord cd_i_NoWord ct_i_NoWord), sl_i_NoWord⟩)
    (ci_NoWord : PySem.W.codeIn K cd_i_NoWord "NoWord.__init__" = true)
    (ki_NoWord : PySem.W.keepIn K (.ref i_NoWord) = true)
    (nf_NoWord_at : PySem.W.findIn K (.ref C_NoWord) "at" = some none)
    (hd_NoWord : PySem.W.hasDictIn K C_NoWord = true)
    (cl_NoWord : PySem.W.findIn K (.ref C_NoWord) "__class__" = some (some (.builtin "object.__class__")))
    (mo_NoWord : PySem.W.mroIn K C_NoWord (.type "object") = some true)
    (sf_NoWord : PySem.W.subIn K (.ref C_NoWord) (.ref C_NoWord) = some true)
    (ac_NotBook : PySem.W.nsIn K mainGlobals "NotBook" = some (some (.ref C_NotBook)))
    (is_NotBook : PySem.W.isClsIn K C_NotBook = true)
    (ty_NotBook : PySem.W.typeIn K (.ref C_NotBook) = some (.type "type"))
    (ex_NotBook : PySem.W.subIn K (.ref C_NotBook) (.type "BaseException") = some true)
    (ga_NotBook : PySem.W.findIn K (.ref C_NotBook) "__getattribute__" = some (some (.builtin "BaseException.__getattribute__")))
    (gg_NotBook : PySem.W.findIn K (.ref C_NotBook) "__getattr__" = some none)
    (x_NotBook : K.lookup C_NotBook = some (excClassObj nm_NotBook qn_NotBook C_NotBook N_NotBook bs_NotBook bm_NotBook true sn_NotBook sb_NotBook ab_NotBook col_NotBook dd_NotBook m0_NotBook m1_NotBook m2_NotBook m3_NotBook m5_NotBook "ValueError.__new__"))
    (rv_NotBook : PySem.HandSPX.refsVE bm_NotBook = true)
    (sa_NotBook : PySem.W.findIn K (.ref C_NotBook) "__setattr__" = some (some (.builtin "object.__setattr__")))
    (kc_NotBook : PySem.W.keepIn K (.ref C_NotBook) = true)
    (ii_NotBook : PySem.W.findIn K (.ref C_NotBook) "__init__" = some (some (.ref i_NotBook)))
    (it_NotBook : PySem.W.typeIn K (.ref i_NotBook) = some (.type "function"))
    (li_NotBook : K.lookup i_NotBook = some ⟨oc_i_NotBook, od_i_NotBook, .func (PySem.W.fnOf "__init__" "NotBook.__init__" (defArgs st_i_NotBook) (defBody st_i_NotBook) (defScope st_i_NotBook) .none kV_i_NotBook dc_i_NotBook pm_i_NotBook an_i_NotBook cd_i_NotBook ct_i_NotBook), sl_i_NotBook⟩)
    (ci_NotBook : PySem.W.codeIn K cd_i_NotBook "NotBook.__init__" = true)
    (ki_NotBook : PySem.W.keepIn K (.ref i_NotBook) = true)
    (nf_NotBook_states : PySem.W.findIn K (.ref C_NotBook) "states" = some none)
    (hd_NotBook : PySem.W.hasDictIn K C_NotBook = true)
    (cl_NotBook : PySem.W.findIn K (.ref C_NotBook) "__class__" = some (some (.builtin "object.__class__")))
    (mo_NotBook : PySem.W.mroIn K C_NotBook (.type "object") = some true)
    (sf_NotBook : PySem.W.subIn K (.ref C_NotBook) (.ref C_NotBook) = some true)
    (ac_BadState : PySem.W.nsIn K mainGlobals "BadState" = some (some (.ref C_BadState)))
    (is_BadState : PySem.W.isClsIn K C_BadState = true)
    (ty_BadState : PySem.W.typeIn K (.ref C_BadState) = some (.type "type"))
    (ex_BadState : PySem.W.subIn K (.ref C_BadState) (.type "BaseException") = some true)
    (ga_BadState : PySem.W.findIn K (.ref C_BadState) "__getattribute__" = some (some (.builtin "BaseException.__getattribute__")))
    (gg_BadState : PySem.W.findIn K (.ref C_BadState) "__getattr__" = some none)
    (x_BadState : K.lookup C_BadState = some (excClassObj nm_BadState qn_BadState C_BadState N_BadState bs_BadState bm_BadState true sn_BadState sb_BadState ab_BadState col_BadState dd_BadState m0_BadState m1_BadState m2_BadState m3_BadState m5_BadState "ValueError.__new__"))
    (rv_BadState : PySem.HandSPX.refsVE bm_BadState = true)
    (sa_BadState : PySem.W.findIn K (.ref C_BadState) "__setattr__" = some (some (.builtin "object.__setattr__")))
    (kc_BadState : PySem.W.keepIn K (.ref C_BadState) = true)
    (ii_BadState : PySem.W.findIn K (.ref C_BadState) "__init__" = some (some (.ref i_BadState)))
    (it_BadState : PySem.W.typeIn K (.ref i_BadState) = some (.type "function"))
    (li_BadState : K.lookup i_BadState = some ⟨oc_i_BadState, od_i_BadState, .func (PySem.W.fnOf "__init__" "BadState.__init__" (defArgs st_i_BadState) (defBody st_i_BadState) (defScope st_i_BadState) .none kV_i_BadState dc_i_BadState pm_i_BadState an_i_BadState cd_i_BadState ct_i_BadState), sl_i_BadState⟩)
    (ci_BadState : PySem.W.codeIn K cd_i_BadState "BadState.__init__" = true)
    (ki_BadState : PySem.W.keepIn K (.ref i_BadState) = true)
    (nf_BadState_value : PySem.W.findIn K (.ref C_BadState) "value" = some none)
    (ac_BadNumber : PySem.W.nsIn K mainGlobals "BadNumber" = some (some (.ref C_BadNumber)))
    (is_BadNumber : PySem.W.isClsIn K C_BadNumber = true)
    (ty_BadNumber : PySem.W.typeIn K (.ref C_BadNumber) = some (.type "type"))
    (ex_BadNumber : PySem.W.subIn K (.ref C_BadNumber) (.type "BaseException") = some true)
    (ga_BadNumber : PySem.W.findIn K (.ref C_BadNumber) "__getattribute__" = some (some (.builtin "BaseException.__getattribute__")))
    (gg_BadNumber : PySem.W.findIn K (.ref C_BadNumber) "__getattr__" = some none)
    (x_BadNumber : K.lookup C_BadNumber = some (excClassObj nm_BadNumber qn_BadNumber C_BadNumber N_BadNumber bs_BadNumber bm_BadNumber true sn_BadNumber sb_BadNumber ab_BadNumber col_BadNumber dd_BadNumber m0_BadNumber m1_BadNumber m2_BadNumber m3_BadNumber m5_BadNumber "ValueError.__new__"))
    (rv_BadNumber : PySem.HandSPX.refsVE bm_BadNumber = true)
    (sa_BadNumber : PySem.W.findIn K (.ref C_BadNumber) "__setattr__" = some (some (.builtin "object.__setattr__")))
    (kc_BadNumber : PySem.W.keepIn K (.ref C_BadNumber) = true)
    (ii_BadNumber : PySem.W.findIn K (.ref C_BadNumber) "__init__" = some (some (.ref i_BadNumber)))
    (it_BadNumber : PySem.W.typeIn K (.ref i_BadNumber) = some (.type "function"))
    (li_BadNumber : K.lookup i_BadNumber = some ⟨oc_i_BadNumber, od_i_BadNumber, .func (PySem.W.fnOf "__init__" "BadNumber.__init__" (defArgs st_i_BadNumber) (defBody st_i_BadNumber) (defScope st_i_BadNumber) .none kV_i_BadNumber dc_i_BadNumber pm_i_BadNumber an_i_BadNumber cd_i_BadNumber ct_i_BadNumber), sl_i_BadNumber⟩)
    (ci_BadNumber : PySem.W.codeIn K cd_i_BadNumber "BadNumber.__init__" = true)
    (ki_BadNumber : PySem.W.keepIn K (.ref i_BadNumber) = true)
    (nf_BadNumber_place : PySem.W.findIn K (.ref C_BadNumber) "place" = some none)
    (hd_BadNumber : PySem.W.hasDictIn K C_BadNumber = true)
    (cl_BadNumber : PySem.W.findIn K (.ref C_BadNumber) "__class__" = some (some (.builtin "object.__class__")))
    (mo_BadNumber : PySem.W.mroIn K C_BadNumber (.type "object") = some true)
    (sf_BadNumber : PySem.W.subIn K (.ref C_BadNumber) (.ref C_BadNumber) = some true)
    (ac_Double : PySem.W.nsIn K mainGlobals "Double" = some (some (.ref C_Double)))
    (is_Double : PySem.W.isClsIn K C_Double = true)
    (ty_Double : PySem.W.typeIn K (.ref C_Double) = some (.type "type"))
    (ex_Double : PySem.W.subIn K (.ref C_Double) (.type "BaseException") = some true)
    (ga_Double : PySem.W.findIn K (.ref C_Double) "__getattribute__" = some (some (.builtin "BaseException.__getattribute__")))
    (gg_Double : PySem.W.findIn K (.ref C_Double) "__getattr__" = some none)
    (x_Double : K.lookup C_Double = some (excClassObj nm_Double qn_Double C_Double N_Double bs_Double bm_Double true sn_Double sb_Double ab_Double col_Double dd_Double m0_Double m1_Double m2_Double m3_Double m5_Double "ValueError.__new__"))
    (rv_Double : PySem.HandSPX.refsVE bm_Double = true)
    (sa_Double : PySem.W.findIn K (.ref C_Double) "__setattr__" = some (some (.builtin "object.__setattr__")))
    (kc_Double : PySem.W.keepIn K (.ref C_Double) = true)
    (ii_Double : PySem.W.findIn K (.ref C_Double) "__init__" = some (some (.ref i_Double)))
    (it_Double : PySem.W.typeIn K (.ref i_Double) = some (.type "function"))
    (li_Double : K.lookup i_Double = some ⟨oc_i_Double, od_i_Double, .func (PySem.W.fnOf "__init__" "Double.__init__" (defArgs st_i_Double) (defBody st_i_Double) (defScope st_i_Double) .none kV_i_Double dc_i_Double pm_i_Double an_i_Double cd_i_Double ct_i_Double), sl_i_Double⟩)
    (ci_Double : PySem.W.codeIn K cd_i_Double "Double.__init__" = true)
    (ki_Double : PySem.W.keepIn K (.ref i_Double) = true)
    (nf_Double_at : PySem.W.findIn K (.ref C_Double) "at" = some none)
    (nf_Double_number : PySem.W.findIn K (.ref C_Double) "number" = some none)
    (hd_Double : PySem.W.hasDictIn K C_Double = true)
    (cl_Double : PySem.W.findIn K (.ref C_Double) "__class__" = some (some (.builtin "object.__class__")))
    (mo_Double : PySem.W.mroIn K C_Double (.type "object") = some true)
    (sf_Double : PySem.W.subIn K (.ref C_Double) (.ref C_Double) = some true)
    (sg : PySem.W.specialIn K (.builtin "object.__class__") "__get__" = some (some (.builtin "getset_descriptor.__get__")))
    (st : PySem.W.takesIn K (.builtin "object.__class__") = some true)
    (su_NotBook_BadNumber : PySem.W.subIn K (.ref C_NotBook) (.ref C_BadNumber) = some false)
    (su_NotBook_Double : PySem.W.subIn K (.ref C_NotBook) (.ref C_Double) = some false)
    (su_NotBook_NoWord : PySem.W.subIn K (.ref C_NotBook) (.ref C_NoWord) = some false)
    (su_BadNumber_NotBook : PySem.W.subIn K (.ref C_BadNumber) (.ref C_NotBook) = some false)
    (su_BadNumber_Double : PySem.W.subIn K (.ref C_BadNumber) (.ref C_Double) = some false)
    (su_BadNumber_NoWord : PySem.W.subIn K (.ref C_BadNumber) (.ref C_NoWord) = some false)
    (su_Double_NotBook : PySem.W.subIn K (.ref C_Double) (.ref C_NotBook) = some false)
    (su_Double_BadNumber : PySem.W.subIn K (.ref C_Double) (.ref C_BadNumber) = some false)
    (su_Double_NoWord : PySem.W.subIn K (.ref C_Double) (.ref C_NoWord) = some false)
    (su_NoWord_NotBook : PySem.W.subIn K (.ref C_NoWord) (.ref C_NotBook) = some false)
    (su_NoWord_BadNumber : PySem.W.subIn K (.ref C_NoWord) (.ref C_BadNumber) = some false)
    (su_NoWord_Double : PySem.W.subIn K (.ref C_NoWord) (.ref C_Double) = some false) :
    ∃ fd : FuncData, (∀ (s : Shared) (v : Value), BindsTo s fd ⟨[v], []⟩ [("script", v)]) ∧ ∀ base : Heap, K.In base → base.Ns mainGlobals mg → FnG l.prog w K mg base (L2.CX l.prog w) 39 fa fd ["script"] (spLaw K) := by
  obtain rfl : f_law = fa := by cases hfa.symm.trans (PySem.W.mg_of X G a_law); rfl
  have T : { T : Tx K mg // T.a_law = f_law ∧ T.d_law = PySem.W.fnOf "law" "law" (defArgs s_law) (defBody s_law) (defScope s_law) .none kV_law dc_law pm_law an_law cd_law ct_law } := ⟨{
    a_same_parts := f_same_parts, d_same_parts := _, fu_same_parts := fun_mk (st := s_same_parts) l_same_parts c_same_parts k_same_parts, g_same_parts := PySem.W.mg_of X G a_same_parts, b_same_parts := (fun_mk (st := s_same_parts) l_same_parts c_same_parts k_same_parts).binds (ps := ["value"]) fun _ _ _ _ _ _ us hl => match us, hl with | [_], _ => rfl
    a_is_whole := f_is_whole, d_is_whole := _, fu_is_whole := fun_mk (st := s_is_whole) l_is_whole c_is_whole k_is_whole, g_is_whole := PySem.W.mg_of X G a_is_whole, b_is_whole := (fun_mk (st := s_is_whole) l_is_whole c_is_whole k_is_whole).binds (ps := ["value"]) fun _ _ _ _ _ _ us hl => match us, hl with | [_], _ => rfl
    a_is_index := f_is_index, d_is_index := _, fu_is_index := fun_mk (st := s_is_index) l_is_index c_is_index k_is_index, g_is_index := PySem.W.mg_of X G a_is_index, b_is_index := (fun_mk (st := s_is_index) l_is_index c_is_index k_is_index).binds (ps := ["value", "many"]) fun _ _ _ _ _ _ us hl => match us, hl with | [_, _], _ => rfl
    a_copied := f_copied, d_copied := _, fu_copied := fun_mk (st := s_copied) l_copied c_copied k_copied, g_copied := PySem.W.mg_of X G a_copied, b_copied := (fun_mk (st := s_copied) l_copied c_copied k_copied).binds (ps := ["value"]) fun _ _ _ _ _ _ us hl => match us, hl with | [_], _ => rfl
    a_check_state := f_check_state, d_check_state := _, fu_check_state := fun_mk (st := s_check_state) l_check_state c_check_state k_check_state, g_check_state := PySem.W.mg_of X G a_check_state, b_check_state := (fun_mk (st := s_check_state) l_check_state c_check_state k_check_state).binds (ps := ["plan", "state"]) fun _ _ _ _ _ _ us hl => match us, hl with | [_, _], _ => rfl
    a_is_book := f_is_book, d_is_book := _, fu_is_book := fun_mk (st := s_is_book) l_is_book c_is_book k_is_book, g_is_book := PySem.W.mg_of X G a_is_book, b_is_book := (fun_mk (st := s_is_book) l_is_book c_is_book k_is_book).binds (ps := ["plan"]) fun _ _ _ _ _ _ us hl => match us, hl with | [_], _ => rfl
    a_words_of := f_words_of, d_words_of := _, fu_words_of := fun_mk (st := s_words_of) l_words_of c_words_of k_words_of, g_words_of := PySem.W.mg_of X G a_words_of, b_words_of := (fun_mk (st := s_words_of) l_words_of c_words_of k_words_of).binds (ps := ["plan", "state"]) fun _ _ _ _ _ _ us hl => match us, hl with | [_, _], _ => rfl
    a_book_words := f_book_words, d_book_words := _, fu_book_words := fun_mk (st := s_book_words) l_book_words c_book_words k_book_words, g_book_words := PySem.W.mg_of X G a_book_words, b_book_words := (fun_mk (st := s_book_words) l_book_words c_book_words k_book_words).binds (ps := ["book"]) fun _ _ _ _ _ _ us hl => match us, hl with | [_], _ => rfl
    a_is_below := f_is_below, d_is_below := _, fu_is_below := fun_mk (st := s_is_below) l_is_below c_is_below k_is_below, g_is_below := PySem.W.mg_of X G a_is_below, b_is_below := (fun_mk (st := s_is_below) l_is_below c_is_below k_is_below).binds (ps := ["value", "end"]) fun _ _ _ _ _ _ us hl => match us, hl with | [_, _], _ => rfl
    a_check_book := f_check_book, d_check_book := _, fu_check_book := fun_mk (st := s_check_book) l_check_book c_check_book k_check_book, g_check_book := PySem.W.mg_of X G a_check_book, b_check_book := (fun_mk (st := s_check_book) l_check_book c_check_book k_check_book).binds (ps := ["book"]) fun _ _ _ _ _ _ us hl => match us, hl with | [_], _ => rfl
    a_book_made := f_book_made, d_book_made := _, fu_book_made := fun_mk (st := s_book_made) l_book_made c_book_made k_book_made, g_book_made := PySem.W.mg_of X G a_book_made, b_book_made := (fun_mk (st := s_book_made) l_book_made c_book_made k_book_made).binds (ps := ["n", "words"]) fun _ _ _ _ _ _ us hl => match us, hl with | [_, _], _ => rfl
    a_part := f_part, d_part := _, fu_part := fun_mk (st := s_part) l_part c_part k_part, g_part := PySem.W.mg_of X G a_part, b_part := (fun_mk (st := s_part) l_part c_part k_part).binds (ps := ["book", "numbers"]) fun _ _ _ _ _ _ us hl => match us, hl with | [_, _], _ => rfl
    a__law_mixed := f__law_mixed, d__law_mixed := _, fu__law_mixed := fun_mk (st := s__law_mixed) l__law_mixed c__law_mixed k__law_mixed, g__law_mixed := PySem.W.mg_of X G a__law_mixed, b__law_mixed := (fun_mk (st := s__law_mixed) l__law_mixed c__law_mixed k__law_mixed).binds (ps := ["number", "step"]) fun _ _ _ _ _ _ us hl => match us, hl with | [_, _], _ => rfl
    a__law_store := f__law_store, d__law_store := _, fu__law_store := fun_mk (st := s__law_store) l__law_store c__law_store k__law_store, g__law_store := PySem.W.mg_of X G a__law_store, b__law_store := (fun_mk (st := s__law_store) l__law_store c__law_store k__law_store).binds (ps := ["script"]) fun _ _ _ _ _ _ us hl => match us, hl with | [_], _ => rfl
    a__law_take := f__law_take, d__law_take := _, fu__law_take := fun_mk (st := s__law_take) l__law_take c__law_take k__law_take, g__law_take := PySem.W.mg_of X G a__law_take, b__law_take := (fun_mk (st := s__law_take) l__law_take c__law_take k__law_take).binds (ps := ["store", "count"]) fun _ _ _ _ _ _ us hl => match us, hl with | [_, _], _ => rfl
    a__law_number := f__law_number, d__law_number := _, fu__law_number := fun_mk (st := s__law_number) l__law_number c__law_number k__law_number, g__law_number := PySem.W.mg_of X G a__law_number, b__law_number := (fun_mk (st := s__law_number) l__law_number c__law_number k__law_number).binds (ps := ["store", "least", "high"]) fun _ _ _ _ _ _ us hl => match us, hl with | [_, _, _], _ => rfl
    a__law_great := f__law_great, d__law_great := _, fu__law_great := fun_mk (st := s__law_great) l__law_great c__law_great k__law_great, g__law_great := PySem.W.mg_of X G a__law_great, b__law_great := (fun_mk (st := s__law_great) l__law_great c__law_great k__law_great).binds (ps := ["store"]) fun _ _ _ _ _ _ us hl => match us, hl with | [_], _ => rfl
    a__law_no_number := f__law_no_number, d__law_no_number := _, fu__law_no_number := fun_mk (st := s__law_no_number) l__law_no_number c__law_no_number k__law_no_number, g__law_no_number := PySem.W.mg_of X G a__law_no_number, b__law_no_number := (fun_mk (st := s__law_no_number) l__law_no_number c__law_no_number k__law_no_number).binds (ps := ["store"]) fun _ _ _ _ _ _ us hl => match us, hl with | [_], _ => rfl
    a__law_outside := f__law_outside, d__law_outside := _, fu__law_outside := fun_mk (st := s__law_outside) l__law_outside c__law_outside k__law_outside, g__law_outside := PySem.W.mg_of X G a__law_outside, b__law_outside := (fun_mk (st := s__law_outside) l__law_outside c__law_outside k__law_outside).binds (ps := ["store", "least", "high"]) fun _ _ _ _ _ _ us hl => match us, hl with | [_, _, _], _ => rfl
    a__law_unlike := f__law_unlike, d__law_unlike := _, fu__law_unlike := fun_mk (st := s__law_unlike) l__law_unlike c__law_unlike k__law_unlike, g__law_unlike := PySem.W.mg_of X G a__law_unlike, b__law_unlike := (fun_mk (st := s__law_unlike) l__law_unlike c__law_unlike k__law_unlike).binds (ps := ["store", "high", "count"]) fun _ _ _ _ _ _ us hl => match us, hl with | [_, _, _], _ => rfl
    a__law_order := f__law_order, d__law_order := _, fu__law_order := fun_mk (st := s__law_order) l__law_order c__law_order k__law_order, g__law_order := PySem.W.mg_of X G a__law_order, b__law_order := (fun_mk (st := s__law_order) l__law_order c__law_order k__law_order).binds (ps := ["store", "count"]) fun _ _ _ _ _ _ us hl => match us, hl with | [_, _], _ => rfl
    a__law_power := f__law_power, d__law_power := _, fu__law_power := fun_mk (st := s__law_power) l__law_power c__law_power k__law_power, g__law_power := PySem.W.mg_of X G a__law_power, b__law_power := (fun_mk (st := s__law_power) l__law_power c__law_power k__law_power).binds (ps := ["base", "count"]) fun _ _ _ _ _ _ us hl => match us, hl with | [_, _], _ => rfl
    a__law_kind := f__law_kind, d__law_kind := _, fu__law_kind := fun_mk (st := s__law_kind) l__law_kind c__law_kind k__law_kind, g__law_kind := PySem.W.mg_of X G a__law_kind, b__law_kind := (fun_mk (st := s__law_kind) l__law_kind c__law_kind k__law_kind).binds (ps := ["value"]) fun _ _ _ _ _ _ us hl => match us, hl with | [_], _ => rfl
    a__law_same := f__law_same, d__law_same := _, fu__law_same := fun_mk (st := s__law_same) l__law_same c__law_same k__law_same, g__law_same := PySem.W.mg_of X G a__law_same, b__law_same := (fun_mk (st := s__law_same) l__law_same c__law_same k__law_same).binds (ps := ["left", "right"]) fun _ _ _ _ _ _ us hl => match us, hl with | [_, _], _ => rfl
    a__law_is_whole := f__law_is_whole, d__law_is_whole := _, fu__law_is_whole := fun_mk (st := s__law_is_whole) l__law_is_whole c__law_is_whole k__law_is_whole, g__law_is_whole := PySem.W.mg_of X G a__law_is_whole, b__law_is_whole := (fun_mk (st := s__law_is_whole) l__law_is_whole c__law_is_whole k__law_is_whole).binds (ps := ["value"]) fun _ _ _ _ _ _ us hl => match us, hl with | [_], _ => rfl
    a__law_mask_word := f__law_mask_word, d__law_mask_word := _, fu__law_mask_word := fun_mk (st := s__law_mask_word) l__law_mask_word c__law_mask_word k__law_mask_word, g__law_mask_word := PySem.W.mg_of X G a__law_mask_word, b__law_mask_word := (fun_mk (st := s__law_mask_word) l__law_mask_word c__law_mask_word k__law_mask_word).binds (ps := ["mask", "n"]) fun _ _ _ _ _ _ us hl => match us, hl with | [_, _], _ => rfl
    a__law_masks := f__law_masks, d__law_masks := _, fu__law_masks := fun_mk (st := s__law_masks) l__law_masks c__law_masks k__law_masks, g__law_masks := PySem.W.mg_of X G a__law_masks, b__law_masks := (fun_mk (st := s__law_masks) l__law_masks c__law_masks k__law_masks).binds (ps := ["store", "n", "count"]) fun _ _ _ _ _ _ us hl => match us, hl with | [_, _, _], _ => rfl
    a__law_words := f__law_words, d__law_words := _, fu__law_words := fun_mk (st := s__law_words) l__law_words c__law_words k__law_words, g__law_words := PySem.W.mg_of X G a__law_words, b__law_words := (fun_mk (st := s__law_words) l__law_words c__law_words k__law_words).binds (ps := ["store", "n", "count"]) fun _ _ _ _ _ _ us hl => match us, hl with | [_, _, _], _ => rfl
    a__law_less := f__law_less, d__law_less := _, fu__law_less := fun_mk (st := s__law_less) l__law_less c__law_less k__law_less, g__law_less := PySem.W.mg_of X G a__law_less, b__law_less := (fun_mk (st := s__law_less) l__law_less c__law_less k__law_less).binds (ps := ["left", "right"]) fun _ _ _ _ _ _ us hl => match us, hl with | [_, _], _ => rfl
    a__law_pruned := f__law_pruned, d__law_pruned := _, fu__law_pruned := fun_mk (st := s__law_pruned) l__law_pruned c__law_pruned k__law_pruned, g__law_pruned := PySem.W.mg_of X G a__law_pruned, b__law_pruned := (fun_mk (st := s__law_pruned) l__law_pruned c__law_pruned k__law_pruned).binds (ps := ["words"]) fun _ _ _ _ _ _ us hl => match us, hl with | [_], _ => rfl
    a__law_book := f__law_book, d__law_book := _, fu__law_book := fun_mk (st := s__law_book) l__law_book c__law_book k__law_book, g__law_book := PySem.W.mg_of X G a__law_book, b__law_book := (fun_mk (st := s__law_book) l__law_book c__law_book k__law_book).binds (ps := ["n", "words"]) fun _ _ _ _ _ _ us hl => match us, hl with | [_, _], _ => rfl
    a__law_plan := f__law_plan, d__law_plan := _, fu__law_plan := fun_mk (st := s__law_plan) l__law_plan c__law_plan k__law_plan, g__law_plan := PySem.W.mg_of X G a__law_plan, b__law_plan := (fun_mk (st := s__law_plan) l__law_plan c__law_plan k__law_plan).binds (ps := ["store", "n", "right", "count", "cap"]) fun _ _ _ _ _ _ us hl => match us, hl with | [_, _, _, _, _], _ => rfl
    a__law_asked := f__law_asked, d__law_asked := _, fu__law_asked := fun_mk (st := s__law_asked) l__law_asked c__law_asked k__law_asked, g__law_asked := PySem.W.mg_of X G a__law_asked, b__law_asked := (fun_mk (st := s__law_asked) l__law_asked c__law_asked k__law_asked).binds (ps := ["plan", "numbers"]) fun _ _ _ _ _ _ us hl => match us, hl with | [_, _], _ => rfl
    a__law_due := f__law_due, d__law_due := _, fu__law_due := fun_mk (st := s__law_due) l__law_due c__law_due k__law_due, g__law_due := PySem.W.mg_of X G a__law_due, b__law_due := (fun_mk (st := s__law_due) l__law_due c__law_due k__law_due).binds (ps := ["plan", "numbers"]) fun _ _ _ _ _ _ us hl => match us, hl with | [_, _], _ => rfl
    a__law_numbers := f__law_numbers, d__law_numbers := _, fu__law_numbers := fun_mk (st := s__law_numbers) l__law_numbers c__law_numbers k__law_numbers, g__law_numbers := PySem.W.mg_of X G a__law_numbers, b__law_numbers := (fun_mk (st := s__law_numbers) l__law_numbers c__law_numbers k__law_numbers).binds (ps := ["store", "count", "faults"]) fun _ _ _ _ _ _ us hl => match us, hl with | [_, _, _], _ => rfl
    a__law_parted := f__law_parted, d__law_parted := _, fu__law_parted := fun_mk (st := s__law_parted) l__law_parted c__law_parted k__law_parted, g__law_parted := PySem.W.mg_of X G a__law_parted, b__law_parted := (fun_mk (st := s__law_parted) l__law_parted c__law_parted k__law_parted).binds (ps := ["plan", "numbers"]) fun _ _ _ _ _ _ us hl => match us, hl with | [_, _], _ => rfl
    a__law_some_book := f__law_some_book, d__law_some_book := _, fu__law_some_book := fun_mk (st := s__law_some_book) l__law_some_book c__law_some_book k__law_some_book, g__law_some_book := PySem.W.mg_of X G a__law_some_book, b__law_some_book := (fun_mk (st := s__law_some_book) l__law_some_book c__law_some_book k__law_some_book).binds (ps := ["store"]) fun _ _ _ _ _ _ us hl => match us, hl with | [_], _ => rfl
    a_law := f_law, d_law := _, fu_law := fun_mk (st := s_law) l_law c_law k_law, g_law := PySem.W.mg_of X G a_law, b_law := (fun_mk (st := s_law) l_law c_law k_law).binds (ps := ["script"]) fun _ _ _ _ _ _ us hl => match us, hl with | [_], _ => rfl
    z_abs := PySem.W.mg_none_of X G z_abs
    z_bool := PySem.W.mg_none_of X G z_bool
    z_enumerate := PySem.W.mg_none_of X G z_enumerate
    z_int := PySem.W.mg_none_of X G z_int
    z_isinstance := PySem.W.mg_none_of X G z_isinstance
    z_len := PySem.W.mg_none_of X G z_len
    z_list := PySem.W.mg_none_of X G z_list
    z_max := PySem.W.mg_none_of X G z_max
    z_min := PySem.W.mg_none_of X G z_min
    z_range := PySem.W.mg_none_of X G z_range
    z_repr := PySem.W.mg_none_of X G z_repr
    z_str := PySem.W.mg_none_of X G z_str
    z_tuple := PySem.W.mg_none_of X G z_tuple
    C_PulseError := C_PulseError, g_PulseError := PySem.W.mg_of X G ac_PulseError
    C_NoWord := C_NoWord, g_NoWord := PySem.W.mg_of X G ac_NoWord
    oc_NoWord := ⟨⟨nm_NoWord, qn_NoWord, N_NoWord, bs_NoWord, bm_NoWord, sn_NoWord, sb_NoWord, ab_NoWord, col_NoWord, dd_NoWord, m0_NoWord, m1_NoWord, m2_NoWord, m3_NoWord, m5_NoWord, x_NoWord, rv_NoWord⟩, sa_NoWord, ex_NoWord, ty_NoWord, kc_NoWord⟩
    i_NoWord := i_NoWord, di_NoWord := _, ic_NoWord := ii_NoWord, ti_NoWord := it_NoWord, fi_NoWord := fun_mk (st := st_i_NoWord) li_NoWord ci_NoWord ki_NoWord, bi_NoWord := (fun_mk (st := st_i_NoWord) li_NoWord ci_NoWord ki_NoWord).binds (ps := ["self", "at"]) fun _ _ _ _ _ _ us hl => match us, hl with | [_, _], _ => rfl
    nf_NoWord_at := nf_NoWord_at
    xf_NoWord := ⟨ga_NoWord, gg_NoWord, ex_NoWord, hd_NoWord⟩
    C_NotBook := C_NotBook, g_NotBook := PySem.W.mg_of X G ac_NotBook
    oc_NotBook := ⟨⟨nm_NotBook, qn_NotBook, N_NotBook, bs_NotBook, bm_NotBook, sn_NotBook, sb_NotBook, ab_NotBook, col_NotBook, dd_NotBook, m0_NotBook, m1_NotBook, m2_NotBook, m3_NotBook, m5_NotBook, x_NotBook, rv_NotBook⟩, sa_NotBook, ex_NotBook, ty_NotBook, kc_NotBook⟩
    i_NotBook := i_NotBook, di_NotBook := _, ic_NotBook := ii_NotBook, ti_NotBook := it_NotBook, fi_NotBook := fun_mk (st := st_i_NotBook) li_NotBook ci_NotBook ki_NotBook, bi_NotBook := (fun_mk (st := st_i_NotBook) li_NotBook ci_NotBook ki_NotBook).binds (ps := ["self", "states"]) fun _ _ _ _ _ _ us hl => match us, hl with | [_, _], _ => rfl
    nf_NotBook_states := nf_NotBook_states
    xf_NotBook := ⟨ga_NotBook, gg_NotBook, ex_NotBook, hd_NotBook⟩
    C_BadState := C_BadState, g_BadState := PySem.W.mg_of X G ac_BadState
    oc_BadState := ⟨⟨nm_BadState, qn_BadState, N_BadState, bs_BadState, bm_BadState, sn_BadState, sb_BadState, ab_BadState, col_BadState, dd_BadState, m0_BadState, m1_BadState, m2_BadState, m3_BadState, m5_BadState, x_BadState, rv_BadState⟩, sa_BadState, ex_BadState, ty_BadState, kc_BadState⟩
    i_BadState := i_BadState, di_BadState := _, ic_BadState := ii_BadState, ti_BadState := it_BadState, fi_BadState := fun_mk (st := st_i_BadState) li_BadState ci_BadState ki_BadState, bi_BadState := (fun_mk (st := st_i_BadState) li_BadState ci_BadState ki_BadState).binds (ps := ["self", "value"]) fun _ _ _ _ _ _ us hl => match us, hl with | [_, _], _ => rfl
    nf_BadState_value := nf_BadState_value
    C_BadNumber := C_BadNumber, g_BadNumber := PySem.W.mg_of X G ac_BadNumber
    oc_BadNumber := ⟨⟨nm_BadNumber, qn_BadNumber, N_BadNumber, bs_BadNumber, bm_BadNumber, sn_BadNumber, sb_BadNumber, ab_BadNumber, col_BadNumber, dd_BadNumber, m0_BadNumber, m1_BadNumber, m2_BadNumber, m3_BadNumber, m5_BadNumber, x_BadNumber, rv_BadNumber⟩, sa_BadNumber, ex_BadNumber, ty_BadNumber, kc_BadNumber⟩
    i_BadNumber := i_BadNumber, di_BadNumber := _, ic_BadNumber := ii_BadNumber, ti_BadNumber := it_BadNumber, fi_BadNumber := fun_mk (st := st_i_BadNumber) li_BadNumber ci_BadNumber ki_BadNumber, bi_BadNumber := (fun_mk (st := st_i_BadNumber) li_BadNumber ci_BadNumber ki_BadNumber).binds (ps := ["self", "place"]) fun _ _ _ _ _ _ us hl => match us, hl with | [_, _], _ => rfl
    nf_BadNumber_place := nf_BadNumber_place
    xf_BadNumber := ⟨ga_BadNumber, gg_BadNumber, ex_BadNumber, hd_BadNumber⟩
    C_Double := C_Double, g_Double := PySem.W.mg_of X G ac_Double
    oc_Double := ⟨⟨nm_Double, qn_Double, N_Double, bs_Double, bm_Double, sn_Double, sb_Double, ab_Double, col_Double, dd_Double, m0_Double, m1_Double, m2_Double, m3_Double, m5_Double, x_Double, rv_Double⟩, sa_Double, ex_Double, ty_Double, kc_Double⟩
    i_Double := i_Double, di_Double := _, ic_Double := ii_Double, ti_Double := it_Double, fi_Double := fun_mk (st := st_i_Double) li_Double ci_Double ki_Double, bi_Double := (fun_mk (st := st_i_Double) li_Double ci_Double ki_Double).binds (ps := ["self", "at", "number"]) fun _ _ _ _ _ _ us hl => match us, hl with | [_, _, _], _ => rfl
    nf_Double_at := nf_Double_at
    nf_Double_number := nf_Double_number
    xf_Double := ⟨ga_Double, gg_Double, ex_Double, hd_Double⟩
    xm_NoWord := fun n cls b hs hm => by
      have hh := subOf_mem hs
      simp only [subT, List.mem_cons, Prod.mk.injEq, List.not_mem_nil, or_false] at hh
      rcases hh with ⟨h1, h2, h3⟩ | ⟨h1, h2, h3⟩ | ⟨h1, h2, h3⟩ | ⟨h1, h2, h3⟩ | ⟨h1, h2, h3⟩ | ⟨h1, h2, h3⟩ | ⟨h1, h2, h3⟩ | ⟨h1, h2, h3⟩ | ⟨h1, h2, h3⟩ | ⟨h1, h2, h3⟩ | ⟨h1, h2, h3⟩ | ⟨h1, h2, h3⟩ | ⟨h1, h2, h3⟩ | ⟨h1, h2, h3⟩ | ⟨h1, h2, h3⟩ | ⟨h1, h2, h3⟩
      · exact absurd h2 (by decide)
      · exact absurd h2 (by decide)
      · exact absurd h2 (by decide)
      · subst h1 h3; rw [PySem.W.mg_of X G ac_NotBook] at hm; cases hm; exact PySem.W.exm_ref ex_NoWord hd_NoWord ty_NoWord su_NotBook_NoWord
      · exact absurd h2 (by decide)
      · exact absurd h2 (by decide)
      · exact absurd h2 (by decide)
      · subst h1 h3; rw [PySem.W.mg_of X G ac_BadNumber] at hm; cases hm; exact PySem.W.exm_ref ex_NoWord hd_NoWord ty_NoWord su_BadNumber_NoWord
      · exact absurd h2 (by decide)
      · exact absurd h2 (by decide)
      · exact absurd h2 (by decide)
      · subst h1 h3; rw [PySem.W.mg_of X G ac_Double] at hm; cases hm; exact PySem.W.exm_ref ex_NoWord hd_NoWord ty_NoWord su_Double_NoWord
      · exact absurd h2 (by decide)
      · exact absurd h2 (by decide)
      · exact absurd h2 (by decide)
      · subst h1 h3; rw [PySem.W.mg_of X G ac_NoWord] at hm; cases hm; exact PySem.W.exm_ref ex_NoWord hd_NoWord ty_NoWord sf_NoWord
    xm_NotBook := fun n cls b hs hm => by
      have hh := subOf_mem hs
      simp only [subT, List.mem_cons, Prod.mk.injEq, List.not_mem_nil, or_false] at hh
      rcases hh with ⟨h1, h2, h3⟩ | ⟨h1, h2, h3⟩ | ⟨h1, h2, h3⟩ | ⟨h1, h2, h3⟩ | ⟨h1, h2, h3⟩ | ⟨h1, h2, h3⟩ | ⟨h1, h2, h3⟩ | ⟨h1, h2, h3⟩ | ⟨h1, h2, h3⟩ | ⟨h1, h2, h3⟩ | ⟨h1, h2, h3⟩ | ⟨h1, h2, h3⟩ | ⟨h1, h2, h3⟩ | ⟨h1, h2, h3⟩ | ⟨h1, h2, h3⟩ | ⟨h1, h2, h3⟩
      · subst h1 h3; rw [PySem.W.mg_of X G ac_NotBook] at hm; cases hm; exact PySem.W.exm_ref ex_NotBook hd_NotBook ty_NotBook sf_NotBook
      · exact absurd h2 (by decide)
      · exact absurd h2 (by decide)
      · exact absurd h2 (by decide)
      · subst h1 h3; rw [PySem.W.mg_of X G ac_BadNumber] at hm; cases hm; exact PySem.W.exm_ref ex_NotBook hd_NotBook ty_NotBook su_BadNumber_NotBook
      · exact absurd h2 (by decide)
      · exact absurd h2 (by decide)
      · exact absurd h2 (by decide)
      · subst h1 h3; rw [PySem.W.mg_of X G ac_Double] at hm; cases hm; exact PySem.W.exm_ref ex_NotBook hd_NotBook ty_NotBook su_Double_NotBook
      · exact absurd h2 (by decide)
      · exact absurd h2 (by decide)
      · exact absurd h2 (by decide)
      · subst h1 h3; rw [PySem.W.mg_of X G ac_NoWord] at hm; cases hm; exact PySem.W.exm_ref ex_NotBook hd_NotBook ty_NotBook su_NoWord_NotBook
      · exact absurd h2 (by decide)
      · exact absurd h2 (by decide)
      · exact absurd h2 (by decide)
    xm_BadNumber := fun n cls b hs hm => by
      have hh := subOf_mem hs
      simp only [subT, List.mem_cons, Prod.mk.injEq, List.not_mem_nil, or_false] at hh
      rcases hh with ⟨h1, h2, h3⟩ | ⟨h1, h2, h3⟩ | ⟨h1, h2, h3⟩ | ⟨h1, h2, h3⟩ | ⟨h1, h2, h3⟩ | ⟨h1, h2, h3⟩ | ⟨h1, h2, h3⟩ | ⟨h1, h2, h3⟩ | ⟨h1, h2, h3⟩ | ⟨h1, h2, h3⟩ | ⟨h1, h2, h3⟩ | ⟨h1, h2, h3⟩ | ⟨h1, h2, h3⟩ | ⟨h1, h2, h3⟩ | ⟨h1, h2, h3⟩ | ⟨h1, h2, h3⟩
      · exact absurd h2 (by decide)
      · subst h1 h3; rw [PySem.W.mg_of X G ac_NotBook] at hm; cases hm; exact PySem.W.exm_ref ex_BadNumber hd_BadNumber ty_BadNumber su_NotBook_BadNumber
      · exact absurd h2 (by decide)
      · exact absurd h2 (by decide)
      · exact absurd h2 (by decide)
      · subst h1 h3; rw [PySem.W.mg_of X G ac_BadNumber] at hm; cases hm; exact PySem.W.exm_ref ex_BadNumber hd_BadNumber ty_BadNumber sf_BadNumber
      · exact absurd h2 (by decide)
      · exact absurd h2 (by decide)
      · exact absurd h2 (by decide)
      · subst h1 h3; rw [PySem.W.mg_of X G ac_Double] at hm; cases hm; exact PySem.W.exm_ref ex_BadNumber hd_BadNumber ty_BadNumber su_Double_BadNumber
      · exact absurd h2 (by decide)
      · exact absurd h2 (by decide)
      · exact absurd h2 (by decide)
      · subst h1 h3; rw [PySem.W.mg_of X G ac_NoWord] at hm; cases hm; exact PySem.W.exm_ref ex_BadNumber hd_BadNumber ty_BadNumber su_NoWord_BadNumber
      · exact absurd h2 (by decide)
      · exact absurd h2 (by decide)
    xm_Double := fun n cls b hs hm => by
      have hh := subOf_mem hs
      simp only [subT, List.mem_cons, Prod.mk.injEq, List.not_mem_nil, or_false] at hh
      rcases hh with ⟨h1, h2, h3⟩ | ⟨h1, h2, h3⟩ | ⟨h1, h2, h3⟩ | ⟨h1, h2, h3⟩ | ⟨h1, h2, h3⟩ | ⟨h1, h2, h3⟩ | ⟨h1, h2, h3⟩ | ⟨h1, h2, h3⟩ | ⟨h1, h2, h3⟩ | ⟨h1, h2, h3⟩ | ⟨h1, h2, h3⟩ | ⟨h1, h2, h3⟩ | ⟨h1, h2, h3⟩ | ⟨h1, h2, h3⟩ | ⟨h1, h2, h3⟩ | ⟨h1, h2, h3⟩
      · exact absurd h2 (by decide)
      · exact absurd h2 (by decide)
      · subst h1 h3; rw [PySem.W.mg_of X G ac_NotBook] at hm; cases hm; exact PySem.W.exm_ref ex_Double hd_Double ty_Double su_NotBook_Double
      · exact absurd h2 (by decide)
      · exact absurd h2 (by decide)
      · exact absurd h2 (by decide)
      · subst h1 h3; rw [PySem.W.mg_of X G ac_BadNumber] at hm; cases hm; exact PySem.W.exm_ref ex_Double hd_Double ty_Double su_BadNumber_Double
      · exact absurd h2 (by decide)
      · exact absurd h2 (by decide)
      · exact absurd h2 (by decide)
      · subst h1 h3; rw [PySem.W.mg_of X G ac_Double] at hm; cases hm; exact PySem.W.exm_ref ex_Double hd_Double ty_Double sf_Double
      · exact absurd h2 (by decide)
      · exact absurd h2 (by decide)
      · exact absurd h2 (by decide)
      · subst h1 h3; rw [PySem.W.mg_of X G ac_NoWord] at hm; cases hm; exact PySem.W.exm_ref ex_Double hd_Double ty_Double su_NoWord_Double
      · exact absurd h2 (by decide)
    ki := fun a n ca cn b hs h1 h2 => by
      have hh := subOf_mem hs
      simp only [subT, List.mem_cons, Prod.mk.injEq, List.not_mem_nil, or_false] at hh
      rcases hh with ⟨e1, e2, e3⟩ | ⟨e1, e2, e3⟩ | ⟨e1, e2, e3⟩ | ⟨e1, e2, e3⟩ | ⟨e1, e2, e3⟩ | ⟨e1, e2, e3⟩ | ⟨e1, e2, e3⟩ | ⟨e1, e2, e3⟩ | ⟨e1, e2, e3⟩ | ⟨e1, e2, e3⟩ | ⟨e1, e2, e3⟩ | ⟨e1, e2, e3⟩ | ⟨e1, e2, e3⟩ | ⟨e1, e2, e3⟩ | ⟨e1, e2, e3⟩ | ⟨e1, e2, e3⟩
      · subst e1 e2 e3; rw [PySem.W.mg_of X G ac_NotBook] at h1; cases h1; rw [PySem.W.mg_of X G ac_NotBook] at h2; cases h2
        exact ⟨kit_ref is_NotBook ty_NotBook sf_NotBook (fun e => by rfl), _, rfl, is_NotBook, ga_NotBook, ⟨_, gg_NotBook⟩, ex_NotBook, cl_NotBook, sg, st, mo_NotBook⟩
      · subst e1 e2 e3; rw [PySem.W.mg_of X G ac_NotBook] at h1; cases h1; rw [PySem.W.mg_of X G ac_BadNumber] at h2; cases h2
        exact ⟨kit_ref is_BadNumber ty_BadNumber su_NotBook_BadNumber (fun e => by subst e; rw [sf_NotBook] at su_NotBook_BadNumber; cases su_NotBook_BadNumber), _, rfl, is_NotBook, ga_NotBook, ⟨_, gg_NotBook⟩, ex_NotBook, cl_NotBook, sg, st, mo_NotBook⟩
      · subst e1 e2 e3; rw [PySem.W.mg_of X G ac_NotBook] at h1; cases h1; rw [PySem.W.mg_of X G ac_Double] at h2; cases h2
        exact ⟨kit_ref is_Double ty_Double su_NotBook_Double (fun e => by subst e; rw [sf_NotBook] at su_NotBook_Double; cases su_NotBook_Double), _, rfl, is_NotBook, ga_NotBook, ⟨_, gg_NotBook⟩, ex_NotBook, cl_NotBook, sg, st, mo_NotBook⟩
      · subst e1 e2 e3; rw [PySem.W.mg_of X G ac_NotBook] at h1; cases h1; rw [PySem.W.mg_of X G ac_NoWord] at h2; cases h2
        exact ⟨kit_ref is_NoWord ty_NoWord su_NotBook_NoWord (fun e => by subst e; rw [sf_NotBook] at su_NotBook_NoWord; cases su_NotBook_NoWord), _, rfl, is_NotBook, ga_NotBook, ⟨_, gg_NotBook⟩, ex_NotBook, cl_NotBook, sg, st, mo_NotBook⟩
      · subst e1 e2 e3; rw [PySem.W.mg_of X G ac_BadNumber] at h1; cases h1; rw [PySem.W.mg_of X G ac_NotBook] at h2; cases h2
        exact ⟨kit_ref is_NotBook ty_NotBook su_BadNumber_NotBook (fun e => by subst e; rw [sf_BadNumber] at su_BadNumber_NotBook; cases su_BadNumber_NotBook), _, rfl, is_BadNumber, ga_BadNumber, ⟨_, gg_BadNumber⟩, ex_BadNumber, cl_BadNumber, sg, st, mo_BadNumber⟩
      · subst e1 e2 e3; rw [PySem.W.mg_of X G ac_BadNumber] at h1; cases h1; rw [PySem.W.mg_of X G ac_BadNumber] at h2; cases h2
        exact ⟨kit_ref is_BadNumber ty_BadNumber sf_BadNumber (fun e => by rfl), _, rfl, is_BadNumber, ga_BadNumber, ⟨_, gg_BadNumber⟩, ex_BadNumber, cl_BadNumber, sg, st, mo_BadNumber⟩
      · subst e1 e2 e3; rw [PySem.W.mg_of X G ac_BadNumber] at h1; cases h1; rw [PySem.W.mg_of X G ac_Double] at h2; cases h2
        exact ⟨kit_ref is_Double ty_Double su_BadNumber_Double (fun e => by subst e; rw [sf_BadNumber] at su_BadNumber_Double; cases su_BadNumber_Double), _, rfl, is_BadNumber, ga_BadNumber, ⟨_, gg_BadNumber⟩, ex_BadNumber, cl_BadNumber, sg, st, mo_BadNumber⟩
      · subst e1 e2 e3; rw [PySem.W.mg_of X G ac_BadNumber] at h1; cases h1; rw [PySem.W.mg_of X G ac_NoWord] at h2; cases h2
        exact ⟨kit_ref is_NoWord ty_NoWord su_BadNumber_NoWord (fun e => by subst e; rw [sf_BadNumber] at su_BadNumber_NoWord; cases su_BadNumber_NoWord), _, rfl, is_BadNumber, ga_BadNumber, ⟨_, gg_BadNumber⟩, ex_BadNumber, cl_BadNumber, sg, st, mo_BadNumber⟩
      · subst e1 e2 e3; rw [PySem.W.mg_of X G ac_Double] at h1; cases h1; rw [PySem.W.mg_of X G ac_NotBook] at h2; cases h2
        exact ⟨kit_ref is_NotBook ty_NotBook su_Double_NotBook (fun e => by subst e; rw [sf_Double] at su_Double_NotBook; cases su_Double_NotBook), _, rfl, is_Double, ga_Double, ⟨_, gg_Double⟩, ex_Double, cl_Double, sg, st, mo_Double⟩
      · subst e1 e2 e3; rw [PySem.W.mg_of X G ac_Double] at h1; cases h1; rw [PySem.W.mg_of X G ac_BadNumber] at h2; cases h2
        exact ⟨kit_ref is_BadNumber ty_BadNumber su_Double_BadNumber (fun e => by subst e; rw [sf_Double] at su_Double_BadNumber; cases su_Double_BadNumber), _, rfl, is_Double, ga_Double, ⟨_, gg_Double⟩, ex_Double, cl_Double, sg, st, mo_Double⟩
      · subst e1 e2 e3; rw [PySem.W.mg_of X G ac_Double] at h1; cases h1; rw [PySem.W.mg_of X G ac_Double] at h2; cases h2
        exact ⟨kit_ref is_Double ty_Double sf_Double (fun e => by rfl), _, rfl, is_Double, ga_Double, ⟨_, gg_Double⟩, ex_Double, cl_Double, sg, st, mo_Double⟩
      · subst e1 e2 e3; rw [PySem.W.mg_of X G ac_Double] at h1; cases h1; rw [PySem.W.mg_of X G ac_NoWord] at h2; cases h2
        exact ⟨kit_ref is_NoWord ty_NoWord su_Double_NoWord (fun e => by subst e; rw [sf_Double] at su_Double_NoWord; cases su_Double_NoWord), _, rfl, is_Double, ga_Double, ⟨_, gg_Double⟩, ex_Double, cl_Double, sg, st, mo_Double⟩
      · subst e1 e2 e3; rw [PySem.W.mg_of X G ac_NoWord] at h1; cases h1; rw [PySem.W.mg_of X G ac_NotBook] at h2; cases h2
        exact ⟨kit_ref is_NotBook ty_NotBook su_NoWord_NotBook (fun e => by subst e; rw [sf_NoWord] at su_NoWord_NotBook; cases su_NoWord_NotBook), _, rfl, is_NoWord, ga_NoWord, ⟨_, gg_NoWord⟩, ex_NoWord, cl_NoWord, sg, st, mo_NoWord⟩
      · subst e1 e2 e3; rw [PySem.W.mg_of X G ac_NoWord] at h1; cases h1; rw [PySem.W.mg_of X G ac_BadNumber] at h2; cases h2
        exact ⟨kit_ref is_BadNumber ty_BadNumber su_NoWord_BadNumber (fun e => by subst e; rw [sf_NoWord] at su_NoWord_BadNumber; cases su_NoWord_BadNumber), _, rfl, is_NoWord, ga_NoWord, ⟨_, gg_NoWord⟩, ex_NoWord, cl_NoWord, sg, st, mo_NoWord⟩
      · subst e1 e2 e3; rw [PySem.W.mg_of X G ac_NoWord] at h1; cases h1; rw [PySem.W.mg_of X G ac_Double] at h2; cases h2
        exact ⟨kit_ref is_Double ty_Double su_NoWord_Double (fun e => by subst e; rw [sf_NoWord] at su_NoWord_Double; cases su_NoWord_Double), _, rfl, is_NoWord, ga_NoWord, ⟨_, gg_NoWord⟩, ex_NoWord, cl_NoWord, sg, st, mo_NoWord⟩
      · subst e1 e2 e3; rw [PySem.W.mg_of X G ac_NoWord] at h1; cases h1; rw [PySem.W.mg_of X G ac_NoWord] at h2; cases h2
        exact ⟨kit_ref is_NoWord ty_NoWord sf_NoWord (fun e => by rfl), _, rfl, is_NoWord, ga_NoWord, ⟨_, gg_NoWord⟩, ex_NoWord, cl_NoWord, sg, st, mo_NoWord⟩
  }, rfl, rfl⟩
  obtain ⟨T, e1, e2⟩ := T
  refine ⟨_, fun s v => .of_eq ?_, fun base _ _ => e1 ▸ e2 ▸ ok_law T pure⟩
  rfl
end Mi
set_option maxHeartbeats 4000000
namespace Mi
open PySem PySem.Spec PyProof.Rows L2
end Mi
open PySem PySem.W PyProof.Rows
set_option maxRecDepth 100000 in
set_option maxHeartbeats 0 in
theorem PySem.Challenge.cw_earlypulses_k07_parts_of_a_book_holds : PySem.Challenge.rw_earlypulses_k07_parts_of_a_book.Holds := by
  w_on; o_law; k_head; (case hw => w_witness2)
  k_fill
  refine Mi.walk_g (l := PySem.Challenge.rw_earlypulses_k07_parts_of_a_book) (n := 63) (k := 39) (x := "script") (sp := fun w => Mi.spLaw _) rfl (by decide) rfl ⟨rfl, by decide, by decide⟩ (fun w h Y => PySem.W.kIn_of Y) ?F (fun w H a ns hl _ hS => ⟨a, ns, rfl, hS, by omega, fun _ => rfl⟩)
  case F =>
    intro w mg fa h KX G hmg
    refine' Mi.all_mk KX G hmg Mi.law_pure ?a_same_parts ?l_same_parts ?c_same_parts ?k_same_parts ?a_is_whole ?l_is_whole ?c_is_whole ?k_is_whole ?a_is_index ?l_is_index ?c_is_index ?k_is_index ?a_copied ?l_copied ?c_copied ?k_copied ?a_check_state ?l_check_state ?c_check_state ?k_check_state ?a_is_book ?l_is_book ?c_is_book ?k_is_book ?a_words_of ?l_words_of ?c_words_of ?k_words_of ?a_book_words ?l_book_words ?c_book_words ?k_book_words ?a_is_below ?l_is_below ?c_is_below ?k_is_below ?a_check_book ?l_check_book ?c_check_book ?k_check_book ?a_book_made ?l_book_made ?c_book_made ?k_book_made ?a_part ?l_part ?c_part ?k_part ?a__law_mixed ?l__law_mixed ?c__law_mixed ?k__law_mixed ?a__law_store ?l__law_store ?c__law_store ?k__law_store ?a__law_take ?l__law_take ?c__law_take ?k__law_take ?a__law_number ?l__law_number ?c__law_number ?k__law_number ?a__law_great ?l__law_great ?c__law_great ?k__law_great ?a__law_no_number ?l__law_no_number ?c__law_no_number ?k__law_no_number ?a__law_outside ?l__law_outside ?c__law_outside ?k__law_outside ?a__law_unlike ?l__law_unlike ?c__law_unlike ?k__law_unlike ?a__law_order ?l__law_order ?c__law_order ?k__law_order ?a__law_power ?l__law_power ?c__law_power ?k__law_power ?a__law_kind ?l__law_kind ?c__law_kind ?k__law_kind ?a__law_same ?l__law_same ?c__law_same ?k__law_same ?a__law_is_whole ?l__law_is_whole ?c__law_is_whole ?k__law_is_whole ?a__law_mask_word ?l__law_mask_word ?c__law_mask_word ?k__law_mask_word ?a__law_masks ?l__law_masks ?c__law_masks ?k__law_masks ?a__law_words ?l__law_words ?c__law_words ?k__law_words ?a__law_less ?l__law_less ?c__law_less ?k__law_less ?a__law_pruned ?l__law_pruned ?c__law_pruned ?k__law_pruned ?a__law_book ?l__law_book ?c__law_book ?k__law_book ?a__law_plan ?l__law_plan ?c__law_plan ?k__law_plan ?a__law_asked ?l__law_asked ?c__law_asked ?k__law_asked ?a__law_due ?l__law_due ?c__law_due ?k__law_due ?a__law_numbers ?l__law_numbers ?c__law_numbers ?k__law_numbers ?a__law_parted ?l__law_parted ?c__law_parted ?k__law_parted ?a__law_some_book ?l__law_some_book ?c__law_some_book ?k__law_some_book ?a_law ?l_law ?c_law ?k_law ?z_abs ?z_bool ?z_enumerate ?z_int ?z_isinstance ?z_len ?z_list ?z_max ?z_min ?z_range ?z_repr ?z_str ?z_tuple ?ac_PulseError ?ac_NoWord ?is_NoWord ?ty_NoWord ?ex_NoWord ?ga_NoWord ?gg_NoWord ?x_NoWord ?rv_NoWord ?sa_NoWord ?kc_NoWord ?ii_NoWord ?it_NoWord ?li_NoWord ?ci_NoWord ?ki_NoWord ?nf_NoWord_at ?hd_NoWord ?cl_NoWord ?mo_NoWord ?sf_NoWord ?ac_NotBook ?is_NotBook ?ty_NotBook ?ex_NotBook ?ga_NotBook ?gg_NotBook ?x_NotBook ?rv_NotBook ?sa_NotBook ?kc_NotBook ?ii_NotBook ?it_NotBook ?li_NotBook ?ci_NotBook ?ki_NotBook ?nf_NotBook_states ?hd_NotBook ?cl_NotBook ?mo_NotBook ?sf_NotBook ?ac_BadState ?is_BadState ?ty_BadState ?ex_BadState ?ga_BadState ?gg_BadState ?x_BadState ?rv_BadState ?sa_BadState ?kc_BadState ?ii_BadState ?it_BadState ?li_BadState ?ci_BadState ?ki_BadState ?nf_BadState_value ?ac_BadNumber ?is_BadNumber ?ty_BadNumber ?ex_BadNumber ?ga_BadNumber ?gg_BadNumber ?x_BadNumber ?rv_BadNumber ?sa_BadNumber ?kc_BadNumber ?ii_BadNumber ?it_BadNumber ?li_BadNumber ?ci_BadNumber ?ki_BadNumber ?nf_BadNumber_place ?hd_BadNumber ?cl_BadNumber ?mo_BadNumber ?sf_BadNumber ?ac_Double ?is_Double ?ty_Double ?ex_Double ?ga_Double ?gg_Double ?x_Double ?rv_Double ?sa_Double ?kc_Double ?ii_Double ?it_Double ?li_Double ?ci_Double ?ki_Double ?nf_Double_at ?nf_Double_number ?hd_Double ?cl_Double ?mo_Double ?sf_Double ?sg ?st ?su_NotBook_BadNumber ?su_NotBook_Double ?su_NotBook_NoWord ?su_BadNumber_NotBook ?su_BadNumber_Double ?su_BadNumber_NoWord ?su_Double_NotBook ?su_Double_BadNumber ?su_Double_NoWord ?su_NoWord_NotBook ?su_NoWord_BadNumber ?su_NoWord_Double
    (case a_same_parts => first | k_is | rfl | decide +kernel)
    (case l_same_parts => first | k_is | rfl | decide +kernel)
    (case c_same_parts => first | k_is | rfl | decide +kernel)
    (case k_same_parts => first | k_is | rfl | decide +kernel)
    (case a_is_whole => first | k_is | rfl | decide +kernel)
    (case l_is_whole => first | k_is | rfl | decide +kernel)
    (case c_is_whole => first | k_is | rfl | decide +kernel)
    (case k_is_whole => first | k_is | rfl | decide +kernel)
    (case a_is_index => first | k_is | rfl | decide +kernel)
    (case l_is_index => first | k_is | rfl | decide +kernel)
    (case c_is_index => first | k_is | rfl | decide +kernel)
    (case k_is_index => first | k_is | rfl | decide +kernel)
    (case a_copied => first | k_is | rfl | decide +kernel)
    (case l_copied => first | k_is | rfl | decide +kernel)
    (case c_copied => first | k_is | rfl | decide +kernel)
    (case k_copied => first | k_is | rfl | decide +kernel)
    (case a_check_state => first | k_is | rfl | decide +kernel)
    (case l_check_state => first | k_is | rfl | decide +kernel)
    (case c_check_state => first | k_is | rfl | decide +kernel)
    (case k_check_state => first | k_is | rfl | decide +kernel)
    (case a_is_book => first | k_is | rfl | decide +kernel)
    (case l_is_book => first | k_is | rfl | decide +kernel)
    (case c_is_book => first | k_is | rfl | decide +kernel)
    (case k_is_book => first | k_is | rfl | decide +kernel)
    (case a_words_of => first | k_is | rfl | decide +kernel)
    (case l_words_of => first | k_is | rfl | decide +kernel)
    (case c_words_of => first | k_is | rfl | decide +kernel)
    (case k_words_of => first | k_is | rfl | decide +kernel)
    (case a_book_words => first | k_is | rfl | decide +kernel)
    (case l_book_words => first | k_is | rfl | decide +kernel)
    (case c_book_words => first | k_is | rfl | decide +kernel)
    (case k_book_words => first | k_is | rfl | decide +kernel)
    (case a_is_below => first | k_is | rfl | decide +kernel)
    (case l_is_below => first | k_is | rfl | decide +kernel)
    (case c_is_below => first | k_is | rfl | decide +kernel)
    (case k_is_below => first | k_is | rfl | decide +kernel)
    (case a_check_book => first | k_is | rfl | decide +kernel)
    (case l_check_book => first | k_is | rfl | decide +kernel)
    (case c_check_book => first | k_is | rfl | decide +kernel)
    (case k_check_book => first | k_is | rfl | decide +kernel)
    (case a_book_made => first | k_is | rfl | decide +kernel)
    (case l_book_made => first | k_is | rfl | decide +kernel)
    (case c_book_made => first | k_is | rfl | decide +kernel)
    (case k_book_made => first | k_is | rfl | decide +kernel)
    (case a_part => first | k_is | rfl | decide +kernel)
    (case l_part => first | k_is | rfl | decide +kernel)
    (case c_part => first | k_is | rfl | decide +kernel)
    (case k_part => first | k_is | rfl | decide +kernel)
    (case a__law_mixed => first | k_is | rfl | decide +kernel)
    (case l__law_mixed => first | k_is | rfl | decide +kernel)
    (case c__law_mixed => first | k_is | rfl | decide +kernel)
    (case k__law_mixed => first | k_is | rfl | decide +kernel)
    (case a__law_store => first | k_is | rfl | decide +kernel)
    (case l__law_store => first | k_is | rfl | decide +kernel)
    (case c__law_store => first | k_is | rfl | decide +kernel)
    (case k__law_store => first | k_is | rfl | decide +kernel)
    (case a__law_take => first | k_is | rfl | decide +kernel)
    (case l__law_take => first | k_is | rfl | decide +kernel)
    (case c__law_take => first | k_is | rfl | decide +kernel)
    (case k__law_take => first | k_is | rfl | decide +kernel)
    (case a__law_number => first | k_is | rfl | decide +kernel)
    (case l__law_number => first | k_is | rfl | decide +kernel)
    (case c__law_number => first | k_is | rfl | decide +kernel)
    (case k__law_number => first | k_is | rfl | decide +kernel)
    (case a__law_great => first | k_is | rfl | decide +kernel)
    (case l__law_great => first | k_is | rfl | decide +kernel)
    (case c__law_great => first | k_is | rfl | decide +kernel)
    (case k__law_great => first | k_is | rfl | decide +kernel)
    (case a__law_no_number => first | k_is | rfl | decide +kernel)
    (case l__law_no_number => first | k_is | rfl | decide +kernel)
    (case c__law_no_number => first | k_is | rfl | decide +kernel)
    (case k__law_no_number => first | k_is | rfl | decide +kernel)
    (case a__law_outside => first | k_is | rfl | decide +kernel)
    (case l__law_outside => first | k_is | rfl | decide +kernel)
    (case c__law_outside => first | k_is | rfl | decide +kernel)
    (case k__law_outside => first | k_is | rfl | decide +kernel)
    (case a__law_unlike => first | k_is | rfl | decide +kernel)
    (case l__law_unlike => first | k_is | rfl | decide +kernel)
    (case c__law_unlike => first | k_is | rfl | decide +kernel)
    (case k__law_unlike => first | k_is | rfl | decide +kernel)
    (case a__law_order => first | k_is | rfl | decide +kernel)
    (case l__law_order => first | k_is | rfl | decide +kernel)
    (case c__law_order => first | k_is | rfl | decide +kernel)
    (case k__law_order => first | k_is | rfl | decide +kernel)
    (case a__law_power => first | k_is | rfl | decide +kernel)
    (case l__law_power => first | k_is | rfl | decide +kernel)
    (case c__law_power => first | k_is | rfl | decide +kernel)
    (case k__law_power => first | k_is | rfl | decide +kernel)
    (case a__law_kind => first | k_is | rfl | decide +kernel)
    (case l__law_kind => first | k_is | rfl | decide +kernel)
    (case c__law_kind => first | k_is | rfl | decide +kernel)
    (case k__law_kind => first | k_is | rfl | decide +kernel)
    (case a__law_same => first | k_is | rfl | decide +kernel)
    (case l__law_same => first | k_is | rfl | decide +kernel)
    (case c__law_same => first | k_is | rfl | decide +kernel)
    (case k__law_same => first | k_is | rfl | decide +kernel)
    (case a__law_is_whole => first | k_is | rfl | decide +kernel)
    (case l__law_is_whole => first | k_is | rfl | decide +kernel)
    (case c__law_is_whole => first | k_is | rfl | decide +kernel)
    (case k__law_is_whole => first | k_is | rfl | decide +kernel)
    (case a__law_mask_word => first | k_is | rfl | decide +kernel)
    (case l__law_mask_word => first | k_is | rfl | decide +kernel)
    (case c__law_mask_word => first | k_is | rfl | decide +kernel)
    (case k__law_mask_word => first | k_is | rfl | decide +kernel)
    (case a__law_masks => first | k_is | rfl | decide +kernel)
    (case l__law_masks => first | k_is | rfl | decide +kernel)
    (case c__law_masks => first | k_is | rfl | decide +kernel)
    (case k__law_masks => first | k_is | rfl | decide +kernel)
    (case a__law_words => first | k_is | rfl | decide +kernel)
    (case l__law_words => first | k_is | rfl | decide +kernel)
    (case c__law_words => first | k_is | rfl | decide +kernel)
    (case k__law_words => first | k_is | rfl | decide +kernel)
    (case a__law_less => first | k_is | rfl | decide +kernel)
    (case l__law_less => first | k_is | rfl | decide +kernel)
    (case c__law_less => first | k_is | rfl | decide +kernel)
    (case k__law_less => first | k_is | rfl | decide +kernel)
    (case a__law_pruned => first | k_is | rfl | decide +kernel)
    (case l__law_pruned => first | k_is | rfl | decide +kernel)
    (case c__law_pruned => first | k_is | rfl | decide +kernel)
    (case k__law_pruned => first | k_is | rfl | decide +kernel)
    (case a__law_book => first | k_is | rfl | decide +kernel)
    (case l__law_book => first | k_is | rfl | decide +kernel)
    (case c__law_book => first | k_is | rfl | decide +kernel)
    (case k__law_book => first | k_is | rfl | decide +kernel)
    (case a__law_plan => first | k_is | rfl | decide +kernel)
    (case l__law_plan => first | k_is | rfl | decide +kernel)
    (case c__law_plan => first | k_is | rfl | decide +kernel)
    (case k__law_plan => first | k_is | rfl | decide +kernel)
    (case a__law_asked => first | k_is | rfl | decide +kernel)
    (case l__law_asked => first | k_is | rfl | decide +kernel)
    (case c__law_asked => first | k_is | rfl | decide +kernel)
    (case k__law_asked => first | k_is | rfl | decide +kernel)
    (case a__law_due => first | k_is | rfl | decide +kernel)
    (case l__law_due => first | k_is | rfl | decide +kernel)
    (case c__law_due => first | k_is | rfl | decide +kernel)
    (case k__law_due => first | k_is | rfl | decide +kernel)
    (case a__law_numbers => first | k_is | rfl | decide +kernel)
    (case l__law_numbers => first | k_is | rfl | decide +kernel)
    (case c__law_numbers => first | k_is | rfl | decide +kernel)
    (case k__law_numbers => first | k_is | rfl | decide +kernel)
    (case a__law_parted => first | k_is | rfl | decide +kernel)
    (case l__law_parted => first | k_is | rfl | decide +kernel)
    (case c__law_parted => first | k_is | rfl | decide +kernel)
    (case k__law_parted => first | k_is | rfl | decide +kernel)
    (case a__law_some_book => first | k_is | rfl | decide +kernel)
    (case l__law_some_book => first | k_is | rfl | decide +kernel)
    (case c__law_some_book => first | k_is | rfl | decide +kernel)
    (case k__law_some_book => first | k_is | rfl | decide +kernel)
    (case a_law => first | k_is | rfl | decide +kernel)
    (case l_law => first | k_is | rfl | decide +kernel)
    (case c_law => first | k_is | rfl | decide +kernel)
    (case k_law => first | k_is | rfl | decide +kernel)
    (case z_abs => first | k_is | rfl | decide +kernel)
    (case z_bool => first | k_is | rfl | decide +kernel)
    (case z_enumerate => first | k_is | rfl | decide +kernel)
    (case z_int => first | k_is | rfl | decide +kernel)
    (case z_isinstance => first | k_is | rfl | decide +kernel)
    (case z_len => first | k_is | rfl | decide +kernel)
    (case z_list => first | k_is | rfl | decide +kernel)
    (case z_max => first | k_is | rfl | decide +kernel)
    (case z_min => first | k_is | rfl | decide +kernel)
    (case z_range => first | k_is | rfl | decide +kernel)
    (case z_repr => first | k_is | rfl | decide +kernel)
    (case z_str => first | k_is | rfl | decide +kernel)
    (case z_tuple => first | k_is | rfl | decide +kernel)
    (case ac_PulseError => first | k_is | rfl | decide +kernel)
    (case ac_NoWord => first | k_is | rfl | decide +kernel)
    (case is_NoWord => first | k_is | rfl | decide +kernel)
    (case ty_NoWord => first | k_is | rfl | decide +kernel)
    (case ex_NoWord => first | k_is | rfl | decide +kernel)
    (case ga_NoWord => first | k_is | rfl | decide +kernel)
    (case gg_NoWord => first | k_is | rfl | decide +kernel)
    (case x_NoWord => first | k_is | rfl | decide +kernel)
    (case rv_NoWord => first | k_is | rfl | decide +kernel)
    (case sa_NoWord => first | k_is | rfl | decide +kernel)
    (case kc_NoWord => first | k_is | rfl | decide +kernel)
    (case ii_NoWord => first | k_is | rfl | decide +kernel)
    (case it_NoWord => first | k_is | rfl | decide +kernel)
    (case li_NoWord => first | k_is | rfl | decide +kernel)
    (case ci_NoWord => first | k_is | rfl | decide +kernel)
    (case ki_NoWord => first | k_is | rfl | decide +kernel)
    (case nf_NoWord_at => first | k_is | rfl | decide +kernel)
    (case hd_NoWord => first | k_is | rfl | decide +kernel)
    (case cl_NoWord => first | k_is | rfl | decide +kernel)
    (case mo_NoWord => first | k_is | rfl | decide +kernel)
    (case sf_NoWord => first | k_is | rfl | decide +kernel)
    (case ac_NotBook => first | k_is | rfl | decide +kernel)
    (case is_NotBook => first | k_is | rfl | decide +kernel)
    (case ty_NotBook => first | k_is | rfl | decide +kernel)
    (case ex_NotBook => first | k_is | rfl | decide +kernel)
    (case ga_NotBook => first | k_is | rfl | decide +kernel)
    (case gg_NotBook => first | k_is | rfl | decide +kernel)
    (case x_NotBook => first | k_is | rfl | decide +kernel)
    (case rv_NotBook => first | k_is | rfl | decide +kernel)
    (case sa_NotBook => first | k_is | rfl | decide +kernel)
    (case kc_NotBook => first | k_is | rfl | decide +kernel)
    (case ii_NotBook => first | k_is | rfl | decide +kernel)
    (case it_NotBook => first | k_is | rfl | decide +kernel)
    (case li_NotBook => first | k_is | rfl | decide +kernel)
    (case ci_NotBook => first | k_is | rfl | decide +kernel)
    (case ki_NotBook => first | k_is | rfl | decide +kernel)
    (case nf_NotBook_states => first | k_is | rfl | decide +kernel)
    (case hd_NotBook => first | k_is | rfl | decide +kernel)
    (case cl_NotBook => first | k_is | rfl | decide +kernel)
    (case mo_NotBook => first | k_is | rfl | decide +kernel)
    (case sf_NotBook => first | k_is | rfl | decide +kernel)
    (case ac_BadState => first | k_is | rfl | decide +kernel)
    (case is_BadState => first | k_is | rfl | decide +kernel)
    (case ty_BadState => first | k_is | rfl | decide +kernel)
    (case ex_BadState => first | k_is | rfl | decide +kernel)
    (case ga_BadState => first | k_is | rfl | decide +kernel)
    (case gg_BadState => first | k_is | rfl | decide +kernel)
    (case x_BadState => first | k_is | rfl | decide +kernel)
    (case rv_BadState => first | k_is | rfl | decide +kernel)
    (case sa_BadState => first | k_is | rfl | decide +kernel)
    (case kc_BadState => first | k_is | rfl | decide +kernel)
    (case ii_BadState => first | k_is | rfl | decide +kernel)
    (case it_BadState => first | k_is | rfl | decide +kernel)
    (case li_BadState => first | k_is | rfl | decide +kernel)
    (case ci_BadState => first | k_is | rfl | decide +kernel)
    (case ki_BadState => first | k_is | rfl | decide +kernel)
    (case nf_BadState_value => first | k_is | rfl | decide +kernel)
    (case ac_BadNumber => first | k_is | rfl | decide +kernel)
    (case is_BadNumber => first | k_is | rfl | decide +kernel)
    (case ty_BadNumber => first | k_is | rfl | decide +kernel)
    (case ex_BadNumber => first | k_is | rfl | decide +kernel)
    (case ga_BadNumber => first | k_is | rfl | decide +kernel)
    (case gg_BadNumber => first | k_is | rfl | decide +kernel)
    (case x_BadNumber => first | k_is | rfl | decide +kernel)
    (case rv_BadNumber => first | k_is | rfl | decide +kernel)
    (case sa_BadNumber => first | k_is | rfl | decide +kernel)
    (case kc_BadNumber => first | k_is | rfl | decide +kernel)
    (case ii_BadNumber => first | k_is | rfl | decide +kernel)
    (case it_BadNumber => first | k_is | rfl | decide +kernel)
    (case li_BadNumber => first | k_is | rfl | decide +kernel)
    (case ci_BadNumber => first | k_is | rfl | decide +kernel)
    (case ki_BadNumber => first | k_is | rfl | decide +kernel)
    (case nf_BadNumber_place => first | k_is | rfl | decide +kernel)
    (case hd_BadNumber => first | k_is | rfl | decide +kernel)
    (case cl_BadNumber => first | k_is | rfl | decide +kernel)
    (case mo_BadNumber => first | k_is | rfl | decide +kernel)
    (case sf_BadNumber => first | k_is | rfl | decide +kernel)
    (case ac_Double => first | k_is | rfl | decide +kernel)
    (case is_Double => first | k_is | rfl | decide +kernel)
    (case ty_Double => first | k_is | rfl | decide +kernel)
    (case ex_Double => first | k_is | rfl | decide +kernel)
    (case ga_Double => first | k_is | rfl | decide +kernel)
    (case gg_Double => first | k_is | rfl | decide +kernel)
    (case x_Double => first | k_is | rfl | decide +kernel)
    (case rv_Double => first | k_is | rfl | decide +kernel)
    (case sa_Double => first | k_is | rfl | decide +kernel)
    (case kc_Double => first | k_is | rfl | decide +kernel)
    (case ii_Double => first | k_is | rfl | decide +kernel)
    (case it_Double => first | k_is | rfl | decide +kernel)
    (case li_Double => first | k_is | rfl | decide +kernel)
    (case ci_Double => first | k_is | rfl | decide +kernel)
    (case ki_Double => first | k_is | rfl | decide +kernel)
    (case nf_Double_at => first | k_is | rfl | decide +kernel)
    (case nf_Double_number => first | k_is | rfl | decide +kernel)
    (case hd_Double => first | k_is | rfl | decide +kernel)
    (case cl_Double => first | k_is | rfl | decide +kernel)
    (case mo_Double => first | k_is | rfl | decide +kernel)
    (case sf_Double => first | k_is | rfl | decide +kernel)
    (case sg => first | k_is | rfl | decide +kernel)
    (case st => first | k_is | rfl | decide +kernel)
    (case su_NotBook_BadNumber => first | k_is | rfl | decide +kernel)
    (case su_NotBook_Double => first | k_is | rfl | decide +kernel)
    (case su_NotBook_NoWord => first | k_is | rfl | decide +kernel)
    (case su_BadNumber_NotBook => first | k_is | rfl | decide +kernel)
    (case su_BadNumber_Double => first | k_is | rfl | decide +kernel)
    (case su_BadNumber_NoWord => first | k_is | rfl | decide +kernel)
    (case su_Double_NotBook => first | k_is | rfl | decide +kernel)
    (case su_Double_BadNumber => first | k_is | rfl | decide +kernel)
    (case su_Double_NoWord => first | k_is | rfl | decide +kernel)
    (case su_NoWord_NotBook => first | k_is | rfl | decide +kernel)
    (case su_NoWord_BadNumber => first | k_is | rfl | decide +kernel)
    (case su_NoWord_Double => first | k_is | rfl | decide +kernel)
