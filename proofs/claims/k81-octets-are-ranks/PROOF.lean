import PyProof.Rows.All
import Wide.All
import OpenK.AllK
import Wide.FinOn
import HandS.Base
import HandS.Call
import HandS.List
import HandS.Comp
import HandS.Exc
import HandS.ExcOwn
import HandS.TryMany
import HandS.Wide
import HandS.WordsList
import HandS.WordsExc
import HandS.ExcInit
import HandS.ExcField
import HandS.IsInst
import KE.KExcIs
import HandS.Deep
import HandS.Conv
import HandS.SortInts
import HandS.Ends
import HandS.ForMost
import HandS.ExcIs
import HandS.Iter
import KE.GoesEnum
import HandS.TupAny
import HandS.Dict
import HandS.More
import HandS.Rev
import HandS.Small
import KE.KDictList
import HandS.Style
import HandS.HeadHook1
import PySem.Challenge.RW_earlypulses_k81_octets_are_ranks
set_option Elab.async false
set_option linter.all false
set_option maxRecDepth 100000
set_option maxHeartbeats 2000000
namespace Mi
open PySem PySem.Spec PyProof.Rows L2

abbrev D := PyData
abbrev St := L2.St

/-! heaps -/
def Ex (H G : Hp) : Prop := ∀ a o, H a = some o → G a = some o
theorem Ex.refl (H : Hp) : Ex H H := fun _ _ h => h
theorem Ex.trans {H G I : Hp} (a : Ex H G) (b : Ex G I) : Ex H I := fun x o h => b x o (a x o h)
theorem Ex.new {H : Hp} {p : Addr} {o : HO} (h : H p = none) : Ex H (upd H p o) := fun a u e => by
  rw [upd_ne (ne_of_none e h)]; exact e
theorem Ex.rd {H G : Hp} {a : Addr} {u : HO} (e : Ex H G) (h : Rd H a u) : Rd G a u := by
  rcases h with h | ⟨o, h⟩
  · exact .inl (e _ _ h)
  · exact .inr ⟨o, e _ _ h⟩
theorem Ex.sl {K : PySem.W.Frag} {H G : Hp} {a : Addr} {xs : List V} (e : Ex H G) (h : SqL K H a xs) : SqL K G a xs := by
  rcases h with h | h
  · exact .inl (e.rd h)
  · exact .inr h
theorem Ex.st {K : PySem.W.Frag} {H G : Hp} {a : Addr} {xs : List V} (e : Ex H G) (h : SqT K H a xs) : SqT K G a xs := by
  rcases h with h | h
  · exact .inl (e.rd h)
  · exact .inr h
theorem Ex.back {H G : Hp} {p : Addr} (e : Ex H G) (h : G p = none) : H p = none := by
  cases q : H p with
  | none => rfl
  | some o => rw [e p o q] at h; cases h
theorem Ex.updR {H G : Hp} {p : Addr} {o : HO} (e : Ex H G) (h : H p = none) : Ex H (upd G p o) := fun a u q => by
  rw [upd_ne (ne_of_none q h)]; exact e a u q
theorem Ex.updB {H G : Hp} {p : Addr} {o : HO} (e : Ex H G) : Ex (upd H p o) (upd G p o) := fun a u q => by
  by_cases h : a = p
  · subst h; rw [upd_same] at q ⊢; exact q
  · rw [upd_ne h] at q ⊢; exact e a u q
theorem Ex.updL {H G : Hp} {p : Addr} {o : HO} (e : Ex H G) (h : G p = some o) : Ex (upd H p o) G := fun a u q => by
  by_cases z : a = p
  · subst z; rw [upd_same] at q; rw [h]; exact q
  · rw [upd_ne z] at q; exact e a u q

/-! data of any depth, all of it tracked -/
mutual
inductive Rp (H : Hp) : V → D → Prop
  | non : Rp H .non .none
  | bl (b : Bool) : Rp H (.bl b) (.bool b)
  | int (i : Int) : Rp H (.int i) (.int i)
  | str (x : Str) : Rp H (.str x) (.str x)
  | lst {a : Addr} {xs : List V} {ds : List D} : H a = some (.lst xs) → RpA H xs ds → Rp H (.ref a) (.list ds)
  | tup {a : Addr} {xs : List V} {ds : List D} : H a = some (.tup xs) → RpA H xs ds → Rp H (.ref a) (.tuple ds)
inductive RpA (H : Hp) : List V → List D → Prop
  | nil : RpA H [] []
  | cons {v : V} {vs : List V} {d : D} {ds : List D} : Rp H v d → RpA H vs ds → RpA H (v :: vs) (d :: ds)
end
mutual
theorem Ex.dp {H G : Hp} (e : Ex H G) : ∀ (d : D) (v : V), Rp H v d → Rp G v d
  | .none, _, h => by cases h; exact .non
  | .bool b, _, h => by cases h; exact .bl b
  | .int i, _, h => by cases h; exact .int i
  | .str x, _, h => by cases h; exact .str x
  | .list ds, _, h => by
    cases h with
    | lst h1 h2 => exact .lst (e _ _ h1) (Ex.dpa e ds _ h2)
  | .tuple ds, _, h => by
    cases h with
    | tup h1 h2 => exact .tup (e _ _ h1) (Ex.dpa e ds _ h2)
  | .dict _, _, h => by cases h
theorem Ex.dpa {H G : Hp} (e : Ex H G) : ∀ (ds : List D) (vs : List V), RpA H vs ds → RpA G vs ds
  | [], _, h => by cases h; exact .nil
  | d :: ds, _, h => by
    cases h with
    | cons h1 h2 => exact .cons (Ex.dp e d _ h1) (Ex.dpa e ds _ h2)
end
theorem RpA.len {H : Hp} : ∀ {vs : List V} {ds : List D}, RpA H vs ds → vs.length = ds.length
  | [], _, h => by cases h; rfl
  | v :: vs, _, h => by
    cases h with
    | cons h1 h2 => simp [RpA.len h2]
theorem RpA.get {H : Hp} : ∀ {vs : List V} {ds : List D} {i : Nat} {d : D}, RpA H vs ds → ds[i]? = some d → ∃ v, vs[i]? = some v ∧ Rp H v d
  | [], _, _, _, h, e => by cases h; simp at e
  | v :: vs, _, 0, _, h, e => by
    cases h with
    | cons h1 h2 => simp at e; subst e; exact ⟨v, rfl, h1⟩
  | v :: vs, _, i + 1, _, h, e => by
    cases h with
    | cons h1 h2 => exact RpA.get (i := i) h2 (by simpa using e)
theorem RpA.getv {H : Hp} : ∀ {vs : List V} {ds : List D} {i : Nat} {v : V}, RpA H vs ds → vs[i]? = some v → ∃ d, ds[i]? = some d ∧ Rp H v d
  | [], _, _, _, h, e => by cases h; simp at e
  | v :: vs, _, 0, _, h, e => by
    cases h with
    | cons h1 h2 => simp at e; subst e; exact ⟨_, rfl, h1⟩
  | v :: vs, _, i + 1, _, h, e => by
    cases h with
    | cons h1 h2 => exact RpA.getv (i := i) h2 (by simpa using e)
theorem RpA.app {H : Hp} : ∀ {vs ws : List V} {ds es : List D}, RpA H vs ds → RpA H ws es → RpA H (vs ++ ws) (ds ++ es)
  | [], _, _, _, h, q => by cases h; exact q
  | v :: vs, _, _, _, h, q => by
    cases h with
    | cons h1 h2 => exact .cons h1 (RpA.app h2 q)
theorem RpA.one {H : Hp} {v : V} {d : D} (h : Rp H v d) : RpA H [v] [d] := .cons h .nil
theorem RpA.set {H : Hp} {w : V} {d : D} (q : Rp H w d) : ∀ {vs : List V} {ds : List D} (i : Nat), RpA H vs ds → RpA H (vs.set i w) (ds.set i d)
  | [], _, _, h => by cases h; exact .nil
  | v :: vs, _, 0, h => by
    cases h with
    | cons h1 h2 => exact .cons q h2
  | v :: vs, _, i + 1, h => by
    cases h with
    | cons h1 h2 => exact .cons h1 (RpA.set q i h2)
theorem RpA.erase {H : Hp} : ∀ {vs : List V} {ds : List D} (i : Nat), RpA H vs ds → RpA H (vs.eraseIdx i) (ds.eraseIdx i)
  | [], _, _, h => by cases h; exact .nil
  | v :: vs, _, 0, h => by
    cases h with
    | cons h1 h2 => exact h2
  | v :: vs, _, i + 1, h => by
    cases h with
    | cons h1 h2 => exact .cons h1 (RpA.erase i h2)
theorem RpA.take {H : Hp} : ∀ {vs : List V} {ds : List D} (i : Nat), RpA H vs ds → RpA H (vs.take i) (ds.take i)
  | [], _, i, h => by cases h; cases i <;> exact .nil
  | v :: vs, _, 0, h => .nil
  | v :: vs, _, i + 1, h => by
    cases h with
    | cons h1 h2 => exact .cons h1 (RpA.take i h2)
theorem RpA.drop {H : Hp} : ∀ {vs : List V} {ds : List D} (i : Nat), RpA H vs ds → RpA H (vs.drop i) (ds.drop i)
  | [], _, i, h => by cases h; cases i <;> exact .nil
  | v :: vs, _, 0, h => h
  | v :: vs, _, i + 1, h => by
    cases h with
    | cons h1 h2 => exact RpA.drop i h2
theorem RpA.repl {H : Hp} {vs : List V} {ds : List D} (h : RpA H vs ds) : ∀ k : Nat, RpA H (List.replicate k vs).flatten (List.replicate k ds).flatten
  | 0 => .nil
  | k + 1 => by
    rw [List.replicate_succ, List.replicate_succ, List.flatten_cons, List.flatten_cons]
    exact RpA.app h (RpA.repl h k)
theorem RpA.ints {H : Hp} : ∀ (ns : List Int), RpA H (ns.map V.int) (ns.map PyData.int)
  | [] => .nil
  | n :: ns => .cons (.int n) (RpA.ints ns)
theorem RpA.ints_inv {H : Hp} : ∀ {vs : List V} {ns : List Int}, RpA H vs (ns.map PyData.int) → vs = ns.map V.int
  | [], [], _ => rfl
  | [], n :: ns, h => by cases h
  | v :: vs, [], h => by cases h
  | v :: vs, n :: ns, h => by
    cases h with
    | cons h1 h2 => cases h1; rw [RpA.ints_inv h2]; rfl

mutual
theorem Rp.dp {K : PySem.W.Frag} {H : Hp} : ∀ (d : D) (v : V), Rp H v d → Dp K H v d
  | .none, _, h => by cases h; exact .non
  | .bool b, _, h => by cases h; exact .bl b
  | .int i, _, h => by cases h; exact .int i
  | .str x, _, h => by cases h; exact .str x
  | .list ds, _, h => by
    cases h with
    | lst h1 h2 => exact .lst (.of h1) (RpA.dpa ds _ h2)
  | .tuple ds, _, h => by
    cases h with
    | tup h1 h2 => exact .tup (.of h1) (RpA.dpa ds _ h2)
  | .dict _, _, h => by cases h
theorem RpA.dpa {K : PySem.W.Frag} {H : Hp} : ∀ (ds : List D) (vs : List V), RpA H vs ds → DpAll K H vs ds
  | [], _, h => by cases h; exact .nil
  | d :: ds, _, h => by
    cases h with
    | cons h1 h2 => exact .cons (Rp.dp d _ h1) (RpA.dpa ds _ h2)
end

/-! exceptions, environments -/
structure Er where
  cls : Str
  fs : List (Str × D)

/-- an object of the frame's own -/
inductive OD where
  | lst (xs : List D) | dk (kvs : List (Key × D)) | dt (kvs : List (List Key × D)) | st (ns : List Int)
inductive Slot where
  | un | sh (d : D) | ob (o : OD) | tok | ex (x : Er)
abbrev Slot.ow (xs : List D) : Slot := .ob (.lst xs)
def KvR {κ : Type} (F : Hp) : List (κ × V) → List (κ × D) → Prop := Paired fun (p : κ × V) (q : κ × D) => p.1 = q.1 ∧ Rp F p.2 q.2
def OdR (F : Hp) : HO → OD → Prop
  | .lst vs, .lst xs => RpA F vs xs
  | .dK kvs, .dk es => KvR F kvs es
  | .dT kvs, .dt es => KvR F kvs es
  | .set S n, .st ns => n = ns.length ∧ ns.Nodup ∧ ∀ i, S i = ns.contains i
  | _, _ => False
theorem KvR.mono {κ : Type} {F G : Hp} (e : Ex F G) {vs : List (κ × V)} {ds : List (κ × D)} (h : KvR F vs ds) : KvR G vs ds := Paired.mapP h fun _ _ q => ⟨q.1, e.dp _ _ q.2⟩
theorem OdR.mono {F G : Hp} (e : Ex F G) : ∀ {u : HO} {o : OD}, OdR F u o → OdR G u o
  | .lst _, .lst _, h => e.dpa _ _ h
  | .dK _, .dk _, h => KvR.mono e h
  | .dT _, .dt _, h => KvR.mono e h
  | .set _ _, .st _, h => h
  | .lst _, .dk _, h => h.elim
  | .lst _, .dt _, h => h.elim
  | .lst _, .st _, h => h.elim
  | .dK _, .lst _, h => h.elim
  | .dK _, .dt _, h => h.elim
  | .dK _, .st _, h => h.elim
  | .dT _, .lst _, h => h.elim
  | .dT _, .dk _, h => h.elim
  | .dT _, .st _, h => h.elim
  | .set _ _, .lst _, h => h.elim
  | .set _ _, .dk _, h => h.elim
  | .set _ _, .dt _, h => h.elim
  | .tup _, .lst _, h => h.elim
  | .tup _, .dk _, h => h.elim
  | .tup _, .dt _, h => h.elim
  | .tup _, .st _, h => h.elim
  | .ins _ _ _, .lst _, h => h.elim
  | .ins _ _ _, .dk _, h => h.elim
  | .ins _ _ _, .dt _, h => h.elim
  | .ins _ _ _, .st _, h => h.elim
  | .own _, .lst _, h => h.elim
  | .own _, .dk _, h => h.elim
  | .own _, .dt _, h => h.elim
  | .own _, .st _, h => h.elim
  | .xd _, .lst _, h => h.elim
  | .xd _, .dk _, h => h.elim
  | .xd _, .dt _, h => h.elim
  | .xd _, .st _, h => h.elim
  | .met _ _, .lst _, h => h.elim
  | .met _ _, .dk _, h => h.elim
  | .met _ _, .dt _, h => h.elim
  | .met _ _, .st _, h => h.elim
  | .rng _ _, .lst _, h => h.elim
  | .rng _ _, .dk _, h => h.elim
  | .rng _ _, .dt _, h => h.elim
  | .rng _ _, .st _, h => h.elim
  | .frz _ _, .lst _, h => h.elim
  | .frz _ _, .dk _, h => h.elim
  | .frz _ _, .dt _, h => h.elim
  | .frz _ _, .st _, h => h.elim
  | .tbl _, .lst _, h => h.elim
  | .tbl _, .dk _, h => h.elim
  | .tbl _, .dt _, h => h.elim
  | .tbl _, .st _, h => h.elim
  | .ext _, .lst _, h => h.elim
  | .ext _, .dk _, h => h.elim
  | .ext _, .dt _, h => h.elim
  | .ext _, .st _, h => h.elim
theorem OdR.lst_inv {F : Hp} {u : HO} {xs : List D} (h : OdR F u (.lst xs)) : ∃ vs, u = .lst vs ∧ RpA F vs xs := by
  cases u <;> first | exact ⟨_, rfl, h⟩ | exact h.elim
theorem OdR.dk_inv {F : Hp} {u : HO} {xs : List (Key × D)} (h : OdR F u (.dk xs)) : ∃ vs, u = .dK vs ∧ KvR F vs xs := by
  cases u <;> first | exact ⟨_, rfl, h⟩ | exact h.elim
theorem OdR.dt_inv {F : Hp} {u : HO} {xs : List (List Key × D)} (h : OdR F u (.dt xs)) : ∃ vs, u = .dT vs ∧ KvR F vs xs := by
  cases u <;> first | exact ⟨_, rfl, h⟩ | exact h.elim
theorem OdR.st_inv {F : Hp} {u : HO} {ns : List Int} (h : OdR F u (.st ns)) : ∃ S, u = .set S ns.length ∧ ns.Nodup ∧ ∀ i, S i = ns.contains i := by
  cases u <;> first | exact (by obtain ⟨h1, h2, h3⟩ := h; subst h1; exact ⟨_, rfl, h2, h3⟩) | exact h.elim

/-- a thing that lives beside the frames, at the addresses O -/
structure Amb where
  S : Type
  At : S → Hp → Prop
  O : List Addr
  p : Addr
  loc : ∀ s H G, (∀ a o, a ∈ O → H a = some o → G a = some o) → At s H → At s G
  dom : ∀ s H, At s H → ∀ a ∈ O, ∃ o, H a = some o

structure En (S : Type) where
  sl : List Slot
  st : S

inductive Out (S α : Type) where
  | ok (a : α) (e : En S) | err (x : Er) (e : En S) | stuck
abbrev M (S α : Type) := En S → Out S α
def bnd {S α β : Type} (f : M S α) (k : α → M S β) : M S β := fun e =>
  match f e with
  | .ok a e1 => k a e1
  | .err x e1 => .err x e1
  | .stuck => .stuck
def rt {S α : Type} (a : α) : M S α := fun e => .ok a e
def lft {S α : Type} (o : Option α) : M S α := fun e => match o with
  | some a => .ok a e
  | none => .stuck
def stk {S α : Type} : M S α := fun _ => .stuck

structure Pm where
  K : PySem.W.Frag
  mg : Str → Option Value
  B : Amb
  F0 : Hp
  H0 : Hp
  xa : Addr
  xc : Value
  xd : Option Addr

def FsOk (F : Hp) : List (Str × V) → List (Str × D) → Prop := Paired fun (p : Str × V) (q : Str × D) => p.1 = q.1 ∧ Rp F p.2 q.2
def ErOk (mg : Str → Option Value) (F : Hp) (c : Value) (d : Option Addr) (x : Er) : Prop :=
  mg x.cls = some c ∧ ((d = none ∧ x.fs = []) ∨ ∃ dd fs, d = some dd ∧ F dd = some (.xd fs) ∧ FsOk F fs x.fs)
theorem FsOk.mono {F G : Hp} (e : Ex F G) {fs : List (Str × V)} {ds : List (Str × D)} (h : FsOk F fs ds) : FsOk G fs ds :=
  Paired.mapP h fun _ _ q => ⟨q.1, e.dp _ _ q.2⟩
theorem ErOk.mono {mg : Str → Option Value} {F G : Hp} (e : Ex F G) {c : Value} {d : Option Addr} {x : Er} (h : ErOk mg F c d x) : ErOk mg G c d x := by
  obtain ⟨h1, h2 | ⟨dd, fs, h2, h3, h4⟩⟩ := h
  · exact ⟨h1, .inl h2⟩
  · exact ⟨h1, .inr ⟨dd, fs, h2, e _ _ h3, h4.mono e⟩⟩

/-- how (F, H) may come to (G, I) -/
structure Ext (F H G I : Hp) : Prop where
  ff : Ex F G
  fh : Ex G I
  nw : ∀ a o, G a = some o → (∃ u, F a = some u) ∨ H a = none
  kp : ∀ a o, H a = some o → ∃ u, I a = some u
theorem Ext.trans {F H F1 H1 F2 H2 : Hp} (a : Ext F H F1 H1) (b : Ext F1 H1 F2 H2) : Ext F H F2 H2 where
  ff := a.ff.trans b.ff
  fh := b.fh
  nw := fun x o h => by
    rcases b.nw x o h with ⟨u, q⟩ | q
    · exact a.nw x u q
    · refine .inr ?_
      cases z : H x with
      | none => rfl
      | some w => obtain ⟨u, y⟩ := a.kp x w z; rw [q] at y; cases y
  kp := fun x o h => let ⟨u, q⟩ := a.kp x o h; b.kp x u q
theorem Ext.non {F H G I : Hp} (a : Ext F H G I) {x : Addr} (h : I x = none) : H x = none := by
  cases z : H x with
  | none => rfl
  | some w => obtain ⟨u, y⟩ := a.kp x w z; rw [h] at y; cases y

def Ow {S : Type} (e : En S) (σ : St) (a : Addr) : Prop := ∃ (i : Nat) (xs : OD), e.sl[i]? = some (.ob xs) ∧ σ[i]? = some (some (.ref a))

structure EOk (P : Pm) (e : En P.B.S) (σ : St) (F H : Hp) : Prop where
  ext : Ext P.F0 P.H0 F H
  fra : ∀ a o, a ∉ P.B.O → P.H0 a = some o → H a = some o
  sto : P.B.At e.st H
  off : ∀ a ∈ P.B.O, F a = none
  len : e.sl.length = σ.length
  sh : ∀ (i : Nat) (d : D), e.sl[i]? = some (.sh d) → ∃ v, σ[i]? = some (some v) ∧ Rp F v d
  tok : ∀ i : Nat, e.sl[i]? = some .tok → σ[i]? = some (some (.ref P.B.p))
  ow : ∀ (i : Nat) (xs : OD), e.sl[i]? = some (.ob xs) → ∃ p u, σ[i]? = some (some (.ref p)) ∧ H p = some u ∧ F p = none ∧ P.H0 p = none ∧ p ∉ P.B.O ∧ OdR F u xs
  sep : ∀ (i j : Nat) (xs ys : OD) (p : Addr), e.sl[i]? = some (.ob xs) → e.sl[j]? = some (.ob ys) → σ[i]? = some (some (.ref p)) → σ[j]? = some (some (.ref p)) → i = j
  ex : ∀ (i : Nat) (x : Er), e.sl[i]? = some (.ex x) → σ[i]? = some (some (.ref P.xa)) ∧ ErOk P.mg F P.xc P.xd x

structure Step (P : Pm) (e e1 : En P.B.S) (σ : St) (F H F1 H1 : Hp) : Prop where
  ff : Ex F F1
  nw : ∀ a o, F1 a = some o → (∃ u, F a = some u) ∨ H a = none ∨ Ow e σ a
  kp : ∀ a o, H a = some o → ∃ u, H1 a = some u
  ow : ∀ a, Ow e1 σ a → Ow e σ a
  fr : ∀ a o, a ∉ P.B.O → ¬ Ow e σ a → H a = some o → H1 a = some o
theorem Step.refl {P : Pm} {e : En P.B.S} {σ : St} {F H : Hp} : Step P e e σ F H F H :=
  ⟨Ex.refl _, fun _ _ h => .inl ⟨_, h⟩, fun _ _ h => ⟨_, h⟩, fun _ h => h, fun _ _ _ _ h => h⟩
theorem Step.trans {P : Pm} {e e1 e2 : En P.B.S} {σ : St} {F H F1 H1 F2 H2 : Hp} (a : Step P e e1 σ F H F1 H1) (b : Step P e1 e2 σ F1 H1 F2 H2) : Step P e e2 σ F H F2 H2 where
  ff := a.ff.trans b.ff
  nw := fun x o h => by
    rcases b.nw x o h with ⟨u, q⟩ | q | q
    · exact a.nw x u q
    · refine .inr (.inl ?_)
      cases z : H x with
      | none => rfl
      | some w => obtain ⟨u, y⟩ := a.kp x w z; rw [q] at y; cases y
    · exact .inr (.inr (a.ow x q))
  kp := fun x o h => let ⟨u, q⟩ := a.kp x o h; b.kp x u q
  ow := fun x h => a.ow x (b.ow x h)
  fr := fun x o h1 h2 h3 => b.fr x o h1 (fun q => h2 (a.ow x q)) (a.fr x o h1 h2 h3)
theorem Step.non {P : Pm} {e e1 : En P.B.S} {σ : St} {F H F1 H1 : Hp} (a : Step P e e1 σ F H F1 H1) {x : Addr} (h : H1 x = none) : H x = none := by
  cases z : H x with
  | none => rfl
  | some w => obtain ⟨u, y⟩ := a.kp x w z; rw [h] at y; cases y

theorem EOk.owL {P : Pm} {e : En P.B.S} {σ : St} {F H : Hp} (k : EOk P e σ F H) (i : Nat) (xs : List D) (h : e.sl[i]? = some (.ow xs)) : ∃ p vs, σ[i]? = some (some (.ref p)) ∧ H p = some (.lst vs) ∧ F p = none ∧ P.H0 p = none ∧ p ∉ P.B.O ∧ RpA F vs xs := by
  obtain ⟨p, u, q1, q2, q3, q4, q5, q6⟩ := k.ow i _ h
  obtain ⟨vs, rfl, q7⟩ := q6.lst_inv
  exact ⟨p, vs, q1, q2, q3, q4, q5, q7⟩
theorem EOk.ow_some {P : Pm} {e : En P.B.S} {σ : St} {F H : Hp} (k : EOk P e σ F H) {a : Addr} (h : Ow e σ a) : (∃ u, H a = some u) ∧ F a = none ∧ a ∉ P.B.O ∧ P.H0 a = none := by
  obtain ⟨i, xs, h1, h2⟩ := h
  obtain ⟨p, vs, q1, q2, q3, q4, q5, _⟩ := k.ow i xs h1
  rw [q1] at h2
  cases h2
  exact ⟨⟨vs, q2⟩, q3, q5, q4⟩
theorem EOk.fresh {P : Pm} {e : En P.B.S} {σ : St} {F H : Hp} (k : EOk P e σ F H) {a : Addr} (h : H a = none) : F a = none ∧ P.H0 a = none ∧ a ∉ P.B.O ∧ ¬ Ow e σ a := by
  refine ⟨?_, k.ext.non h, fun z => ?_, fun z => ?_⟩
  · exact k.ext.fh.back h
  · obtain ⟨o, q⟩ := P.B.dom _ _ k.sto a z
    rw [h] at q; cases q
  · obtain ⟨⟨vs, q⟩, _⟩ := k.ow_some z
    rw [h] at q; cases q
/-- the heap grows -/
theorem EOk.grow {P : Pm} {e : En P.B.S} {σ : St} {F H F1 H1 : Hp} (k : EOk P e σ F H) (hx : Ex H H1) (x : Ext F H F1 H1) : EOk P e σ F1 H1 ∧ Step P e e σ F H F1 H1 := by
  have kn : ∀ {a : Addr} {o : HO}, F a = none → H a = some o → F1 a = none := fun {a o} h1 h2 => by
    cases z : F1 a with
    | none => rfl
    | some w =>
      rcases x.nw a w z with ⟨u, q⟩ | q
      · rw [h1] at q; cases q
      · rw [h2] at q; cases q
  refine ⟨⟨k.ext.trans x, fun a o h1 h2 => hx a o (k.fra a o h1 h2), P.B.loc _ _ _ (fun a o _ q => hx a o q) k.sto, fun a h => ?_, k.len, fun i d h => ?_, k.tok, fun i xs h => ?_, k.sep, fun i y h => ?_⟩,
    ⟨x.ff, fun a o h => (x.nw a o h).elim .inl fun q => .inr (.inl q), x.kp, fun _ h => h, fun a o _ _ h => hx a o h⟩⟩
  · obtain ⟨o, q⟩ := P.B.dom _ _ k.sto a h
    exact kn (k.off a h) q
  · obtain ⟨v, q1, q2⟩ := k.sh i d h
    exact ⟨v, q1, x.ff.dp _ _ q2⟩
  · obtain ⟨p, vs, q1, q2, q3, q4, q5, q6⟩ := k.ow i xs h
    exact ⟨p, vs, q1, hx _ _ q2, kn q3 q2, q4, q5, OdR.mono x.ff q6⟩
  · obtain ⟨q1, q2⟩ := k.ex i y h
    exact ⟨q1, q2.mono x.ff⟩
theorem Ext.refl {F H : Hp} (h : Ex F H) : Ext F H F H := ⟨Ex.refl _, h, fun _ _ q => .inl ⟨_, q⟩, fun _ _ q => ⟨_, q⟩⟩
/-- a new frozen object -/
theorem Ext.lay {F H : Hp} {p : Addr} {o : HO} (h : Ex F H) (n : H p = none) : Ext F H (upd F p o) (upd H p o) := by
  refine ⟨Ex.new (h.back n), h.updB, fun a u q => ?_, fun a u q => ⟨_, Ex.new n a u q⟩⟩
  by_cases z : a = p
  · subst z; exact .inr n
  · rw [upd_ne z] at q; exact .inl ⟨_, q⟩
/-- a new object that is kept apart -/
theorem Ext.layO {F H : Hp} {p : Addr} {o : HO} (h : Ex F H) (n : H p = none) : Ext F H F (upd H p o) :=
  ⟨Ex.refl _, h.updR (h.back n), fun a u q => .inl ⟨_, q⟩, fun a u q => ⟨_, Ex.new n a u q⟩⟩
/-- a kept-apart object is frozen -/
theorem EOk.freeze {P : Pm} {e : En P.B.S} {σ : St} {F H : Hp} (k : EOk P e σ F H) {p : Addr} {o : HO} (h : H p = some o) (h0 : P.H0 p = none) (hO : p ∉ P.B.O) (hw : ¬ Ow e σ p) (hF : F p = none) : EOk P e σ (upd F p o) H := by
  have ff : Ex F (upd F p o) := Ex.new hF
  refine ⟨⟨k.ext.ff.trans ff, k.ext.fh.updL h, fun a u q => ?_, k.ext.kp⟩, k.fra, k.sto, fun a q => ?_, k.len, fun i d q => ?_, k.tok, fun i xs q => ?_, k.sep, fun i y q => ?_⟩
  · by_cases z : a = p
    · subst z; exact .inr h0
    · rw [upd_ne z] at q; exact k.ext.nw a u q
  · have z : a ≠ p := fun z => hO (by rw [← z]; exact q)
    rw [upd_ne z]; exact k.off a q
  · obtain ⟨v, q1, q2⟩ := k.sh i d q
    exact ⟨v, q1, ff.dp _ _ q2⟩
  · obtain ⟨r, vs, q1, q2, q3, q4, q5, q6⟩ := k.ow i xs q
    refine ⟨r, vs, q1, q2, ?_, q4, q5, OdR.mono ff q6⟩
    have z : r ≠ p := fun z => hw ⟨i, xs, q, by rw [← z]; exact q1⟩
    rw [upd_ne z]
    exact q3
  · obtain ⟨q1, q2⟩ := k.ex i y q
    exact ⟨q1, q2.mono ff⟩

/-! what a computation's end gives -/
section
variable {P : Pm}
def Sat (P : Pm) (W : WX) {α : Type} (e : En P.B.S) (σ : St) (F H : Hp) (o : Out P.B.S α) (G : α → En P.B.S → Hp → Hp → Prop) : Prop :=
  match o with
  | .ok a e1 => ∀ F1 H1, EOk P e1 σ F1 H1 → Step P e e1 σ F H F1 H1 → G a e1 F1 H1
  | .err x e1 => ∀ c d F1 H1, EOk P e1 σ F1 H1 → Ex F F1 → ErOk P.mg F1 c d x → W c d σ H1
  | .stuck => False
variable {W : WX} {α β : Type} {e e1 : En P.B.S} {σ : St} {F H F1 H1 : Hp}
theorem Sat.back {o : Out P.B.S α} {G : α → En P.B.S → Hp → Hp → Prop} (st : Step P e e1 σ F H F1 H1) (h : Sat P W e σ F H o G) : Sat P W e1 σ F1 H1 o G := by
  cases o with
  | ok a e2 => exact fun F2 H2 k s => h F2 H2 k (st.trans s)
  | err x e2 => exact fun c d F2 H2 k x r => h c d F2 H2 k (st.ff.trans x) r
  | stuck => exact h
theorem Sat.imp {o : Out P.B.S α} {G G1 : α → En P.B.S → Hp → Hp → Prop} (h : Sat P W e σ F H o G)
    (hg : ∀ a e1 F1 H1, EOk P e1 σ F1 H1 → Step P e e1 σ F H F1 H1 → G a e1 F1 H1 → G1 a e1 F1 H1) : Sat P W e σ F H o G1 := by
  cases o with
  | ok a e2 => exact fun F2 H2 k s => hg _ _ _ _ k s (h F2 H2 k s)
  | err x e2 => exact h
  | stuck => exact h
theorem Sat.bnd {f : M P.B.S α} {k : α → M P.B.S β} {G : β → En P.B.S → Hp → Hp → Prop} (h : Sat P W e σ F H (bnd f k e) G) :
    Sat P W e σ F H (f e) fun a e1 F1 H1 => Sat P W e1 σ F1 H1 (k a e1) G := by
  unfold Mi.bnd at h
  cases q : f e with
  | ok a e2 => rw [q] at h; exact fun F2 H2 k s => Sat.back s h
  | err x e2 => rw [q] at h; exact h
  | stuck => rw [q] at h; exact h
def tX (P : Pm) (W : WX) (m : M P.B.S D) : TE := fun σ H Q => ∃ F e, EOk P e σ F H ∧ Sat P W e σ F H (m e) fun d _ F1 H1 => ∀ v, Rp F1 v d → Q v H1
def tF (P : Pm) (W : WX) (m : M P.B.S (List D)) : TE := fun σ H Q => ∃ F e, EOk P e σ F H ∧ Sat P W e σ F H (m e) fun xs _ F1 H1 => ∀ p vs, H p = none → H1 p = some (.lst vs) → F1 p = none → RpA F1 vs xs → Q (.ref p) H1
def tT (P : Pm) (W : WX) (m : M P.B.S Bool) : TT := fun σ H Q => ∃ F e, EOk P e σ F H ∧ Sat P W e σ F H (m e) fun b _ _ H1 => Q b H1
inductive Arg where
  | d (x : D) | tok
inductive ArgsOk (B : Amb) (F : Hp) : List V → List Arg → Prop
  | nil : ArgsOk B F [] []
  | d {v : V} {x : D} {vs : List V} {as : List Arg} : Rp F v x → ArgsOk B F vs as → ArgsOk B F (v :: vs) (.d x :: as)
  | tok {vs : List V} {as : List Arg} : ArgsOk B F vs as → ArgsOk B F (.ref B.p :: vs) (.tok :: as)
theorem ArgsOk.mono {B : Amb} {F G : Hp} (e : Ex F G) {vs : List V} {as : List Arg} (h : ArgsOk B F vs as) : ArgsOk B G vs as := by
  induction h with
  | nil => exact .nil
  | d h1 _ ih => exact .d (e.dp _ _ h1) ih
  | tok _ ih => exact .tok ih
theorem ArgsOk.len {B : Amb} {F : Hp} {vs : List V} {as : List Arg} (h : ArgsOk B F vs as) : vs.length = as.length := by
  induction h with
  | nil => rfl
  | d _ _ ih => simp [ih]
  | tok _ ih => simp [ih]
def tA (P : Pm) (W : WX) (m : M P.B.S (List Arg)) : TA := fun σ H Q => ∃ F e, EOk P e σ F H ∧ Sat P W e σ F H (m e) fun as _ F1 H1 => ∀ vs, ArgsOk P.B F1 vs as → Q vs H1
end

structure Cn (P : Pm) (X : Cx) (W : WX) : Prop where
  hK : X.K = P.K
  hmg : X.mg = P.mg
  tk : Takes X W
abbrev XE (P : Pm) (X : Cx) (W : WX) (e : Expr) (m : M P.B.S D) : Prop := PE X e (tX P W m)
abbrev XF (P : Pm) (X : Cx) (W : WX) (e : Expr) (m : M P.B.S (List D)) : Prop := PE X e (tF P W m)
abbrev XT (P : Pm) (X : Cx) (W : WX) (e : Expr) (m : M P.B.S Bool) : Prop := PT X e (tT P W m)
abbrev XW (P : Pm) (X : Cx) (W : WX) (e : Expr) (m : M P.B.S Bool) : Prop := PW X e (tT P W m)
abbrev XA (P : Pm) (X : Cx) (W : WX) (es : List Expr) (m : M P.B.S (List Arg)) : Prop := PA X es (tA P W m)

theorem pe_imp {X : Cx} {e : Expr} {t u : TE} (h : PE X e t) (i : ∀ σ H Q, u σ H Q → t σ H Q) : PE X e u := ⟨fun pins s σ H Q I q => h.run pins s σ H Q I (i σ H Q q)⟩
theorem pt_imp {X : Cx} {e : Expr} {t u : TT} (h : PT X e t) (i : ∀ σ H Q, u σ H Q → t σ H Q) : PT X e u := ⟨fun pins s σ H Q I q => h.run pins s σ H Q I (i σ H Q q)⟩
theorem pw_imp {X : Cx} {e : Expr} {t u : TT} (h : PW X e t) (i : ∀ σ H Q, u σ H Q → t σ H Q) : PW X e u := ⟨fun wh pins s σ H Q I q => h.run wh pins s σ H Q I (i σ H Q q)⟩
theorem pa_imp {X : Cx} {es : List Expr} {t u : TA} (h : PA X es t) (i : ∀ σ H Q, u σ H Q → t σ H Q) : PA X es u := ⟨fun pos pins s σ H Q I q => h.run pos pins s σ H Q I (i σ H Q q)⟩
theorem ps_imp {X : Cx} {st : Stmt} {t u : TS} (h : PS X st t) (i : ∀ D σ H, u D σ H → t D σ H) : PS X st u := ⟨fun pins s σ H D I q => h.run pins s σ H D I (i D σ H q)⟩
theorem pss_imp {X : Cx} {st : List Stmt} {t u : TS} (h : PSs X st t) (i : ∀ D σ H, u D σ H → t D σ H) : PSs X st u := ⟨fun pins s σ H D I q => h.run pins s σ H D I (i D σ H q)⟩
end Mi
set_option maxHeartbeats 2000000
namespace Mi
open PySem PySem.Spec PyProof.Rows L2

section
variable {P : Pm} {X : Cx} {W : WX} {α β : Type} {e e1 : En P.B.S} {σ : St} {F H F1 H1 : Hp} {pos : Pos}

theorem Sat.rt {a : α} {G : α → En P.B.S → Hp → Hp → Prop} (k : EOk P e σ F H) (h : Sat P W e σ F H (rt a e) G) : G a e F H := h F H k Step.refl
theorem Sat.lft {o : Option α} {G : α → En P.B.S → Hp → Hp → Prop} (h : Sat P W e σ F H (lft o e) G) : ∃ a, o = some a ∧ Sat P W e σ F H (.ok a e) G := by
  cases o with
  | none => exact h.elim
  | some a => exact ⟨a, rfl, h⟩
theorem Sat.grow {a : α} {G : α → En P.B.S → Hp → Hp → Prop} (k : EOk P e σ F H) (h : Sat P W e σ F H (.ok a e) G) (hx : Ex H H1) (x : Ext F H F1 H1) : G a e F1 H1 :=
  h F1 H1 (k.grow hx x).1 (k.grow hx x).2

theorem tX_of {m : M P.B.S D} {k : D → M P.B.S β} {G : β → En P.B.S → Hp → Hp → Prop} {Q : VK} (ek : EOk P e σ F H) (h : Sat P W e σ F H (bnd m k e) G)
    (q : ∀ d e1 F1 H1 v, EOk P e1 σ F1 H1 → Step P e e1 σ F H F1 H1 → Rp F1 v d → Sat P W e1 σ F1 H1 (k d e1) G → Q v H1) : tX P W m σ H Q :=
  ⟨F, e, ek, h.bnd.imp fun d e1 F1 H1 k1 s1 h1 v rv => q d e1 F1 H1 v k1 s1 rv h1⟩
theorem tT_of {m : M P.B.S Bool} {k : Bool → M P.B.S β} {G : β → En P.B.S → Hp → Hp → Prop} {Q : Bool → Hp → Prop} (ek : EOk P e σ F H) (h : Sat P W e σ F H (bnd m k e) G)
    (q : ∀ d e1 F1 H1, EOk P e1 σ F1 H1 → Step P e e1 σ F H F1 H1 → Sat P W e1 σ F1 H1 (k d e1) G → Q d H1) : tT P W m σ H Q :=
  ⟨F, e, ek, h.bnd.imp fun d e1 F1 H1 k1 s1 h1 => q d e1 F1 H1 k1 s1 h1⟩
theorem tA_of {m : M P.B.S (List Arg)} {k : List Arg → M P.B.S β} {G : β → En P.B.S → Hp → Hp → Prop} {Q : List V → Hp → Prop} (ek : EOk P e σ F H) (h : Sat P W e σ F H (bnd m k e) G)
    (q : ∀ d e1 F1 H1 v, EOk P e1 σ F1 H1 → Step P e e1 σ F H F1 H1 → ArgsOk P.B F1 v d → Sat P W e1 σ F1 H1 (k d e1) G → Q v H1) : tA P W m σ H Q :=
  ⟨F, e, ek, h.bnd.imp fun d e1 F1 H1 k1 s1 h1 v rv => q d e1 F1 H1 v k1 s1 rv h1⟩
theorem tF_of {m : M P.B.S (List D)} {k : List D → M P.B.S β} {G : β → En P.B.S → Hp → Hp → Prop} {Q : VK} (ek : EOk P e σ F H) (h : Sat P W e σ F H (bnd m k e) G)
    (q : ∀ xs e1 F1 H1 p vs, EOk P e1 σ F1 H1 → Step P e e1 σ F H F1 H1 → H p = none → H1 p = some (.lst vs) → F1 p = none → RpA F1 vs xs → Sat P W e1 σ F1 H1 (k xs e1) G → Q (.ref p) H1) : tF P W m σ H Q :=
  ⟨F, e, ek, h.bnd.imp fun xs e1 F1 H1 k1 s1 h1 p vs g1 g2 g3 g4 => q xs e1 F1 H1 p vs k1 s1 g1 g2 g3 g4 h1⟩

/-! constants, names -/
theorem x_int {i : Int} {j : Nat} : XE P X W (.Constant (.int i) j pos) (rt (.int i)) := pe_imp pe_int fun σ H Q ⟨F, e, k, h⟩ => h.rt k _ (.int i)
theorem x_bl {b : Bool} {j : Nat} : XE P X W (.Constant (.bool b) j pos) (rt (.bool b)) := pe_imp pe_bl fun σ H Q ⟨F, e, k, h⟩ => h.rt k _ (.bl b)
theorem x_non {j : Nat} : XE P X W (.Constant .none j pos) (rt .none) := pe_imp pe_non fun σ H Q ⟨F, e, k, h⟩ => h.rt k _ .non
theorem x_str {x : Str} {j : Nat} : XE P X W (.Constant (.str x) j pos) (rt (.str x)) := pe_imp pe_str fun σ H Q ⟨F, e, k, h⟩ => h.rt k _ (.str x)

def mV {S : Type} (i : Nat) : M S D := fun e => match e.sl[i]? with
  | some (.sh d) => .ok d e
  | some (.ob (.lst xs)) => .ok (.list xs) { e with sl := e.sl.set i (.sh (.list xs)) }
  | _ => .stuck
theorem lget_set {α : Type} {l : List α} {i j : Nat} {a b : α} (h : (l.set i a)[j]? = some b) : (j = i ∧ b = a) ∨ (j ≠ i ∧ l[j]? = some b) := by
  by_cases z : i = j
  · subst z
    have hl : i < (l.set i a).length := (List.getElem?_eq_some_iff.mp h).1
    rw [List.getElem?_set_self (by simpa using hl)] at h
    exact .inl ⟨rfl, (Option.some.inj h).symm⟩
  · rw [List.getElem?_set_ne z] at h
    exact .inr ⟨fun q => z q.symm, h⟩
/-- a slot is given up: nothing is said of it any more -/
theorem EOk.drop {i : Nat} (k : EOk P e σ F H) {s : Slot} (hs : ∀ xs, s ≠ .ob xs) (h1 : ∀ d, s = .sh d → ∃ v, σ[i]? = some (some v) ∧ Rp F v d) (h2 : s ≠ .tok) (h3 : ∀ x, s ≠ .ex x) : EOk P { e with sl := e.sl.set i s } σ F H := by
  refine ⟨k.ext, k.fra, k.sto, k.off, by simpa using k.len, fun j d h => ?_, fun j h => ?_, fun j xs h => ?_, fun j j' xs ys p h h' => ?_, fun j x h => ?_⟩
  · rcases lget_set h with ⟨rfl, z⟩ | ⟨_, z⟩
    · exact h1 d z.symm
    · exact k.sh j d z
  · rcases lget_set h with ⟨rfl, z⟩ | ⟨_, z⟩
    · exact (h2 z.symm).elim
    · exact k.tok j z
  · rcases lget_set h with ⟨rfl, z⟩ | ⟨_, z⟩
    · exact (hs _ z.symm).elim
    · exact k.ow j xs z
  · rcases lget_set h with ⟨rfl, z⟩ | ⟨_, z⟩
    · exact (hs _ z.symm).elim
    · rcases lget_set h' with ⟨rfl, z'⟩ | ⟨_, z'⟩
      · exact (hs _ z'.symm).elim
      · exact k.sep j j' xs ys p z z'
  · rcases lget_set h with ⟨rfl, z⟩ | ⟨_, z⟩
    · exact (h3 _ z.symm).elim
    · exact k.ex j x z
theorem ow_set {i : Nat} {s : Slot} (hs : ∀ xs, s ≠ .ob xs) {a : Addr} (h : Ow { e with sl := e.sl.set i s } σ a) : Ow e σ a := by
  obtain ⟨j, xs, h1, h2⟩ := h
  rcases lget_set h1 with ⟨rfl, z⟩ | ⟨_, z⟩
  · exact (hs _ z.symm).elim
  · exact ⟨j, xs, z, h2⟩
/-- the kept-apart list in slot i is frozen -/
theorem EOk.frz {i : Nat} {xs : List D} (k : EOk P e σ F H) (h : e.sl[i]? = some (.ow xs)) : ∃ p F1, σ[i]? = some (some (.ref p)) ∧ EOk P { e with sl := e.sl.set i (.sh (.list xs)) } σ F1 H ∧
    Step P e { e with sl := e.sl.set i (.sh (.list xs)) } σ F H F1 H ∧ Rp F1 (.ref p) (.list xs) := by
  obtain ⟨p, vs, q1, q2, q3, q4, q5, q6⟩ := k.owL i xs h
  have ff : Ex F (upd F p (.lst vs)) := Ex.new q3
  have rp : Rp (upd F p (.lst vs)) (.ref p) (.list xs) := .lst upd_same (ff.dpa _ _ q6)
  have k0 : EOk P { e with sl := e.sl.set i .un } σ F H := k.drop (s := .un) (fun _ z => by cases z) (fun _ z => by cases z) (fun z => by cases z) (fun _ z => by cases z)
  have now : ¬ Ow { e with sl := e.sl.set i Slot.un } σ p := fun ⟨j, ys, h1, h2⟩ => by
    rcases lget_set h1 with ⟨_, z⟩ | ⟨ne, z⟩
    · cases z
    · exact ne (k.sep j i ys _ p z h h2 q1)
  have k1 := k0.freeze q2 q4 q5 now q3
  have k2 := k1.drop (i := i) (s := .sh (.list xs)) (fun _ z => nomatch z) (fun d z => by cases z; exact ⟨_, q1, rp⟩) (fun z => nomatch z) (fun _ z => nomatch z)
  refine ⟨p, upd F p (.lst vs), q1, by simpa using k2, ⟨ff, fun a o z => ?_, fun a o z => ⟨o, z⟩, fun a z => ow_set (fun _ y => by cases y) z, fun a o _ _ z => z⟩, rp⟩
  by_cases y : a = p
  · subst y; exact .inr (.inr ⟨i, _, h, q1⟩)
  · rw [upd_ne y] at z; exact .inl ⟨o, z⟩
theorem x_var (i : Nat) {x : Str} (hN : X.N[i]? = some x := by rfl) (hv : Vis X.env.scope x := by first | exact Or.inl rfl | exact Or.inr (Or.inl rfl) | exact Or.inr (Or.inr rfl)) (hd : (x == ("__debug__" : Str)) = false := by decide)
    (hcd : (x == ("__classdict__" : Str)) = false := by decide) : XE P X W (.Name x pos) (mV i) := pe_imp (pe_var hN hv hd hcd) fun σ H Q ⟨F, e, k, h⟩ => by
  unfold mV at h
  cases q : e.sl[i]? with
  | none => rw [q] at h; exact h.elim
  | some s =>
    rw [q] at h
    cases s with
    | un => exact h.elim
    | tok => exact h.elim
    | ex _ => exact h.elim
    | sh d =>
      obtain ⟨v, q1, q2⟩ := k.sh i d q
      exact ⟨v, q1, h F H k Step.refl v q2⟩
    | ob o =>
      cases o with
      | lst xs =>
        obtain ⟨p, F1, q1, k1, s1, rp⟩ := k.frz q
        exact ⟨_, q1, h F1 H k1 s1 _ rp⟩
      | dk _ => exact h.elim
      | dt _ => exact h.elim
      | st _ => exact h.elim

/-! operations on data -/
def Pr1 (r : V → Hp → VK → Prop) (g : D → Option D) : Prop := ∀ d d2 v (F H : Hp) Q, g d = some d2 → Rp F v d → Ex F H → (∀ v F1 H1, Ex H H1 → Ext F H F1 H1 → Rp F1 v d2 → Q v H1) → r v H Q
def Pr2 (r : R2) (g : D → D → Option D) : Prop := ∀ d1 d2 d3 v1 v2 (F H : Hp) Q, g d1 d2 = some d3 → Rp F v1 d1 → Rp F v2 d2 → Ex F H → (∀ v F1 H1, Ex H H1 → Ext F H F1 H1 → Rp F1 v d3 → Q v H1) → r v1 v2 H Q
def m2 {S : Type} (g : D → D → Option D) (f1 f2 : M S D) : M S D := bnd f1 fun x => bnd f2 fun y => lft (g x y)
def m1 {S : Type} (g : D → Option D) (f : M S D) : M S D := bnd f fun x => lft (g x)
theorem im2 {r : R2} {g : D → D → Option D} {f1 f2 : M P.B.S D} (pr : Pr2 r g) {Q : VK} (h : tX P W (m2 g f1 f2) σ H Q) : tOp r (tX P W f1) (tX P W f2) σ H Q := by
  obtain ⟨F, e, k, h⟩ := h
  refine tX_of k h fun d1 e1 F1 H1 v1 k1 s1 r1 h1 => ?_
  refine tX_of k1 h1 fun d2 e2 F2 H2 v2 k2 s2 r2 h2 => ?_
  obtain ⟨d3, hg, h3⟩ := h2.lft
  exact pr d1 d2 d3 v1 v2 F2 H2 Q hg (s2.ff.dp _ _ r1) r2 k2.ext.fh fun v F' H' hx x rv => h3.grow k2 hx x v rv
theorem x_op {op : Operator} {a b : Expr} {r : R2} {g : D → D → Option D} {f1 f2 : M P.B.S D} (ho : OpR X (binaryOp op) r) (pr : Pr2 r g) (ha : XE P X W a f1) (hb : XE P X W b f2) : XE P X W (.BinOp a op b pos) (m2 g f1 f2) :=
  pe_imp (pe_op ho ha hb) fun _ _ _ h => im2 pr h
theorem x_cmp {op : CmpOp} {a b : Expr} {r : R2} {g : D → D → Option D} {f1 f2 : M P.B.S D} (ho : OpR X (compareOp op) r) (pr : Pr2 r g) (ha : XE P X W a f1) (hb : XE P X W b f2) (hm : behindInMarks op b = false) : XE P X W (.Compare a [op] [b] pos) (m2 g f1 f2) :=
  pe_imp (pe_cmpR ho ha hb hm) fun _ _ _ h => im2 pr h
/-- a bool's own -/
def asB {S : Type} (f : M S D) : M S Bool := bnd f fun d => match d with
  | .bool b => rt b
  | _ => stk
theorem im_tst {f : M P.B.S D} {t : TE} (ht : ∀ σ H Q, tX P W f σ H Q → t σ H Q) (σ : St) (H : Hp) (Q : Bool → Hp → Prop) (h : tT P W (asB f) σ H Q) : t σ H fun x H1 => ∃ k, x = .bl k ∧ Q k H1 := by
  obtain ⟨F, e, k, h⟩ := h
  refine ht σ H _ (tX_of k h fun d1 e1 F1 H1 v1 k1 s1 r1 h1 => ?_)
  cases r1 with
  | bl b => exact ⟨b, rfl, h1.rt k1⟩
  | _ => exact h1.elim
theorem t_cmp {op : CmpOp} {a b : Expr} {r : R2} {g : D → D → Option D} {f1 f2 : M P.B.S D} (ho : OpR X (compareOp op) r) (pr : Pr2 r g) (ha : XE P X W a f1) (hb : XE P X W b f2) (hm : behindInMarks op b = false) : XT P X W (.Compare a [op] [b] pos) (asB (m2 g f1 f2)) :=
  pt_imp (pt_cmpR ho ha hb hm) fun σ H Q h => im_tst (t := tOp r (tX P W f1) (tX P W f2)) (fun _ _ _ z => im2 pr z) σ H Q h
theorem x_un {op : UnaryOp} {a : Expr} {r : V → Hp → VK → Prop} {g : D → Option D} {f : M P.B.S D} (ho : UnR X (unaryOp op) r) (pr : Pr1 r g) (ha : XE P X W a f) : XE P X W (.UnaryOp op a pos) (m1 g f) :=
  pe_imp (pe_un ho ha) fun σ H Q ⟨F, e, k, h⟩ => by
    refine tX_of k h fun d1 e1 F1 H1 v1 k1 s1 r1 h1 => ?_
    obtain ⟨d3, hg, h3⟩ := h1.lft
    exact pr d1 d3 v1 F1 H1 Q hg r1 k1.ext.fh fun v F' H' hx x rv => h3.grow k1 hx x v rv
/-- a value that is a bool, as a test -/
theorem t_val {a : Expr} {f : M P.B.S D} (h : XE P X W a f) (he : ∀ whole, isTrue a X.env whole = (do let v ← whole; standAt a.pos; holding [v] (truthy v)) := by intro _; rfl) : XT P X W a (asB f) :=
  pt_imp (pt_val h he) fun σ H Q h => im_tst (t := tX P W f) (fun _ _ _ z => z) σ H Q h

/-! and, or, not, if -/
def mAnd {S : Type} (f g : M S Bool) : M S Bool := bnd f fun b => if b = true then g else rt false
def mOr {S : Type} (f g : M S Bool) : M S Bool := bnd f fun b => if b = true then rt true else g
def mNot {S : Type} (f : M S Bool) : M S Bool := bnd f fun b => rt (!b)
def mIfE {S α : Type} (f : M S Bool) (g h : M S α) : M S α := bnd f fun b => if b = true then g else h
theorem t_and1 {a : Expr} {f : M P.B.S Bool} (h : XT P X W a f) : XW P X W (.BoolOp .And [a] pos) f := pw_and1 h
theorem t_or1 {a : Expr} {f : M P.B.S Bool} (h : XT P X W a f) : XW P X W (.BoolOp .Or [a] pos) f := pw_or1 h
theorem t_and {a b : Expr} {rest : List Expr} {f g : M P.B.S Bool} (h : XT P X W a f) (q : XW P X W (.BoolOp .And (b :: rest) pos) g) : XW P X W (.BoolOp .And (a :: b :: rest) pos) (mAnd f g) :=
  pw_imp (pw_and h q) fun σ H Q ⟨F, e, k, h⟩ => tT_of k h fun b e1 F1 H1 k1 s1 h1 => by
    cases b with
    | true => exact ⟨F1, e1, k1, h1⟩
    | false => exact h1.rt k1
theorem t_or {a b : Expr} {rest : List Expr} {f g : M P.B.S Bool} (h : XT P X W a f) (q : XW P X W (.BoolOp .Or (b :: rest) pos) g) : XW P X W (.BoolOp .Or (a :: b :: rest) pos) (mOr f g) :=
  pw_imp (pw_or h q) fun σ H Q ⟨F, e, k, h⟩ => tT_of k h fun b e1 F1 H1 k1 s1 h1 => by
    cases b with
    | true => exact h1.rt k1
    | false => exact ⟨F1, e1, k1, h1⟩
theorem t_pw {a : Expr} {f : M P.B.S Bool} (h : XW P X W a f) : XT P X W a f := h.pt
theorem t_not {a : Expr} {f : M P.B.S Bool} (h : XT P X W a f) : XT P X W (.UnaryOp .Not a pos) (mNot f) :=
  pt_imp (pt_not h) fun σ H Q ⟨F, e, k, h⟩ => tT_of k h fun b e1 F1 H1 k1 s1 h1 => h1.rt k1
/-- as values -/
def mAndV {S : Type} (f g : M S D) : M S D := bnd (asB f) fun b => if b = true then g else rt (.bool false)
def mOrV {S : Type} (f g : M S D) : M S D := bnd (asB f) fun b => if b = true then rt (.bool true) else g
def mNotV {S : Type} (f : M S D) : M S D := bnd (asB f) fun b => rt (.bool (!b))
theorem asB_of {f : M P.B.S D} {k : Bool → M P.B.S β} {G : β → En P.B.S → Hp → Hp → Prop} {Q : VK} (ek : EOk P e σ F H) (h : Sat P W e σ F H (bnd (asB f) k e) G)
    (q : ∀ b e1 F1 H1, EOk P e1 σ F1 H1 → Step P e e1 σ F H F1 H1 → Sat P W e1 σ F1 H1 (k b e1) G → Q (.bl b) H1) : tX P W f σ H Q := by
  have h1 : Sat P W e σ F H (bnd f (fun d => bnd (match d with | .bool b => rt b | _ => stk) k) e) G := by
    have : bnd (asB f) k e = bnd f (fun d => bnd (match d with | .bool b => rt b | _ => stk) k) e := by
      unfold asB bnd
      cases f e <;> rfl
    rw [← this]; exact h
  refine tX_of ek h1 fun d1 e1 F1 H1 v1 k1 s1 r1 h2 => ?_
  cases r1 with
  | bl b => exact q b e1 F1 H1 k1 s1 h2
  | _ => exact h2.elim
theorem x_one {op : BoolOp} {a : Expr} {f : M P.B.S D} (h : XE P X W a f) : XE P X W (.BoolOp op [a] pos) f := pe_one h
theorem x_and {a b : Expr} {rest : List Expr} {f g : M P.B.S D} (h : XE P X W a f) (q : XE P X W (.BoolOp .And (b :: rest) pos) g) : XE P X W (.BoolOp .And (a :: b :: rest) pos) (mAndV f g) :=
  pe_imp (pe_and h q) fun σ H Q ⟨F, e, k, h⟩ => asB_of k h fun b e1 F1 H1 k1 s1 h1 => ⟨b, rfl, by
    cases b with
    | true => exact ⟨F1, e1, k1, h1⟩
    | false => exact h1.rt k1 _ (.bl _)⟩
theorem x_or {a b : Expr} {rest : List Expr} {f g : M P.B.S D} (h : XE P X W a f) (q : XE P X W (.BoolOp .Or (b :: rest) pos) g) : XE P X W (.BoolOp .Or (a :: b :: rest) pos) (mOrV f g) :=
  pe_imp (pe_or h q) fun σ H Q ⟨F, e, k, h⟩ => asB_of k h fun b e1 F1 H1 k1 s1 h1 => ⟨b, rfl, by
    cases b with
    | true => exact h1.rt k1 _ (.bl _)
    | false => exact ⟨F1, e1, k1, h1⟩⟩
theorem x_not {a : Expr} {f : M P.B.S D} (h : XE P X W a f) : XE P X W (.UnaryOp .Not a pos) (mNotV f) :=
  pe_imp (pe_not h) fun σ H Q ⟨F, e, k, h⟩ => asB_of k h fun b e1 F1 H1 k1 s1 h1 => ⟨b, rfl, h1.rt k1 _ (.bl _)⟩
theorem x_ifE {c a b : Expr} {f : M P.B.S Bool} {g h : M P.B.S D} (hc : XT P X W c f) (ha : XE P X W a g) (hb : XE P X W b h) : XE P X W (.IfExp c a b pos) (mIfE f g h) :=
  pe_imp (pe_ifExp hc ha hb) fun σ H Q ⟨F, e, k, h⟩ => tT_of k h fun b e1 F1 H1 k1 s1 h1 => by
    cases b with
    | true => exact ⟨F1, e1, k1, h1⟩
    | false => exact ⟨F1, e1, k1, h1⟩

/-! argument lists, displays -/
def mNil {S : Type} : M S (List Arg) := rt []
def mCons {S : Type} (f : M S D) (g : M S (List Arg)) : M S (List Arg) := bnd f fun d => bnd g fun as => rt (.d d :: as)
def mTok {S : Type} (i : Nat) (g : M S (List Arg)) : M S (List Arg) := fun e => match e.sl[i]? with
  | some .tok => bnd g (fun as => rt (.tok :: as)) e
  | _ => .stuck
theorem a_nil : XA P X W [] mNil := pa_imp pa_nil fun σ H Q ⟨F, e, k, h⟩ => h.rt k _ .nil
theorem a_cons {a : Expr} {es : List Expr} {f : M P.B.S D} {g : M P.B.S (List Arg)} (ha : XE P X W a f) (hr : XA P X W es g) (hs : starEach (a :: es) X.env = (false, eval a X.env) :: starEach es X.env := by rfl) : XA P X W (a :: es) (mCons f g) :=
  pa_imp (pa_cons ha hr hs) fun σ H Q ⟨F, e, k, h⟩ => tX_of k h fun d e1 F1 H1 v k1 s1 r1 h1 => tA_of k1 h1 fun as e2 F2 H2 vs k2 s2 r2 h2 => h2.rt k2 _ (.d (s2.ff.dp _ _ r1) r2)
theorem a_tok (i : Nat) {x : Str} {p : Pos} {es : List Expr} {g : M P.B.S (List Arg)} (hr : XA P X W es g) (hN : X.N[i]? = some x := by rfl) (hv : Vis X.env.scope x := by first | exact Or.inl rfl | exact Or.inr (Or.inl rfl) | exact Or.inr (Or.inr rfl))
    (hd : (x == ("__debug__" : Str)) = false := by decide) (hcd : (x == ("__classdict__" : Str)) = false := by decide) (hs : starEach (.Name x p :: es) X.env = (false, eval (.Name x p) X.env) :: starEach es X.env := by rfl) : XA P X W (.Name x p :: es) (mTok i g) :=
  pa_imp (pa_cons (pe_var hN hv hd hcd) hr hs) fun σ H Q ⟨F, e, k, h⟩ => by
    unfold mTok at h
    cases q : e.sl[i]? with
    | none => rw [q] at h; exact h.elim
    | some s =>
      rw [q] at h
      cases s with
      | tok => exact ⟨_, k.tok i q, tA_of k h fun as e2 F2 H2 vs k2 s2 r2 h2 => h2.rt k2 _ (.tok r2)⟩
      | _ => exact h.elim
def argD : List Arg → Option (List D)
  | [] => some []
  | .d x :: as => (argD as).map (x :: ·)
  | .tok :: _ => none
theorem argD_ok {B : Amb} {F : Hp} : ∀ {vs : List V} {as : List Arg} {ds : List D}, ArgsOk B F vs as → argD as = some ds → RpA F vs ds
  | _, [], _, h, e => by cases h; cases e; exact .nil
  | _, .d x :: as, ds, h, e => by
    cases h with
    | d h1 h2 =>
      unfold argD at e
      cases q : argD as with
      | none => rw [q] at e; cases e
      | some es => rw [q] at e; cases e; exact .cons h1 (argD_ok h2 q)
  | _, .tok :: _, _, _, e => by cases e
def capL (ds : List D) : Option (List D) := if ds.length ≤ sizeLine then some ds else none
theorem capL_ok {ds es : List D} (h : capL ds = some es) : es = ds ∧ ds.length ≤ sizeLine := by
  unfold capL at h
  split at h
  · cases h; exact ⟨rfl, by assumption⟩
  · cases h
def mLst {S : Type} (g : M S (List Arg)) : M S (List D) := bnd g fun as => lft ((argD as).bind capL)
def mTup {S : Type} (g : M S (List Arg)) : M S D := bnd g fun as => lft (((argD as).bind capL).map PyData.tuple)
def mFz {S : Type} (f : M S (List D)) : M S D := bnd f fun xs => rt (.list xs)
theorem f_lst {es : List Expr} {g : M P.B.S (List Arg)} (h : XA P X W es g) : XF P X W (.List es pos) (mLst g) :=
  pe_imp (pe_lst h) fun σ H Q ⟨F, e, k, h⟩ => tA_of k h fun as e1 F1 H1 vs k1 s1 r1 h1 => by
    obtain ⟨ds, hg, h3⟩ := h1.lft
    obtain ⟨es, hg1, hg2⟩ := Option.bind_eq_some_iff.mp hg
    obtain ⟨rfl, hz⟩ := capL_ok hg2
    have ra := argD_ok r1 hg1
    refine ⟨by rw [RpA.len ra]; exact hz, fun p np => ?_⟩
    obtain ⟨kF, _⟩ := k1.fresh np
    have x := Ext.layO (p := p) (o := .lst vs) k1.ext.fh np
    exact h3.grow k1 (Ex.new np) x p vs (s1.non np) upd_same kF ra
theorem x_tup {es : List Expr} {c : Nat} {g : M P.B.S (List Arg)} (h : XA P X W es g) : XE P X W (.Tuple es c pos) (mTup g) :=
  pe_imp (pe_tup h) fun σ H Q ⟨F, e, k, h⟩ => tA_of k h fun as e1 F1 H1 vs k1 s1 r1 h1 => by
    obtain ⟨d, hg, h3⟩ := h1.lft
    obtain ⟨ds, hg0, hd⟩ := Option.map_eq_some_iff.mp hg
    obtain ⟨es, hg1, hg2⟩ := Option.bind_eq_some_iff.mp hg0
    obtain ⟨rfl, hz⟩ := capL_ok hg2
    subst hd
    have ra := argD_ok r1 hg1
    refine ⟨by rw [RpA.len ra]; exact hz, fun p np => ?_⟩
    have x := Ext.lay (p := p) (o := .tup vs) k1.ext.fh np
    exact h3.grow k1 (Ex.new np) x _ (.tup upd_same (x.ff.dpa _ _ ra))
/-- a new list is taken as it is -/
theorem x_fz {a : Expr} {f : M P.B.S (List D)} (h : XF P X W a f) : XE P X W a (mFz f) :=
  pe_imp h fun σ H Q ⟨F, e, k, h⟩ => by
    refine ⟨F, e, k, ?_⟩
    unfold mFz bnd at h
    cases q : f e with
    | stuck => rw [q] at h; exact h
    | err x e1 => rw [q] at h; exact h
    | ok xs e1 =>
      rw [q] at h
      intro F1 H1 k1 s1 p vs h1 h2 h3 ra
      obtain ⟨kF, kH0, kO, kW⟩ := k.fresh h1
      have nw : ¬ Ow e1 σ p := fun z => kW (s1.ow p z)
      have k2 := k1.freeze h2 kH0 kO nw h3
      refine h (upd F1 p (.lst vs)) H1 k2 ⟨s1.ff.trans (Ex.new h3), fun a o z => ?_, s1.kp, s1.ow, s1.fr⟩ _ (.lst upd_same ((Ex.new h3).dpa _ _ ra))
      by_cases y : a = p
      · subst y; exact .inr (.inl h1)
      · rw [upd_ne y] at z; exact s1.nw a o z
end
end Mi
set_option maxHeartbeats 2000000
namespace Mi
open PySem PySem.Spec PyProof.Rows L2

inductive R where
  | sh (d : D) | fr (xs : List D)
inductive Fl where
  | nx | ret (r : R) | bk | ct
def R.d : R → D
  | .sh d => d
  | .fr xs => .list xs

section
variable {P : Pm} {X : Cx} {W : WX} {α β : Type} {e e1 : En P.B.S} {σ : St} {F H F1 H1 : Hp} {pos : Pos} {D : Ends}

def SatS (P : Pm) (W : WX) (F : Hp) (D : Ends) (o : Out P.B.S Fl) : Prop :=
  match o with
  | .ok .nx e1 => ∀ σ1 F1 H1, EOk P e1 σ1 F1 H1 → Ex F F1 → D.nx σ1 H1
  | .ok .bk e1 => ∀ σ1 F1 H1, EOk P e1 σ1 F1 H1 → Ex F F1 → D.bk σ1 H1
  | .ok .ct e1 => ∀ σ1 F1 H1, EOk P e1 σ1 F1 H1 → Ex F F1 → D.ct σ1 H1
  | .ok (.ret (.sh d)) e1 => ∀ σ1 F1 H1, EOk P e1 σ1 F1 H1 → Ex F F1 → ∀ v, Rp F1 v d → D.rt v H1
  | .ok (.ret (.fr xs)) e1 => ∀ σ1 F1 H1, EOk P e1 σ1 F1 H1 → Ex F F1 → ∀ p vs, P.H0 p = none → H1 p = some (.lst vs) → F1 p = none → RpA F1 vs xs → D.rt (.ref p) H1
  | .err x e1 => ∀ c d σ1 F1 H1, EOk P e1 σ1 F1 H1 → Ex F F1 → ErOk P.mg F1 c d x → W c d σ1 H1
  | .stuck => False
theorem SatS.mono (x : Ex F F1) {o : Out P.B.S Fl} (h : SatS P W F D o) : SatS P W F1 D o := by
  cases o with
  | stuck => exact h
  | err y e => exact fun c d σ1 F2 H2 k q r => h c d σ1 F2 H2 k (x.trans q) r
  | ok fl e =>
    cases fl with
    | nx => exact fun σ1 F2 H2 k q => h σ1 F2 H2 k (x.trans q)
    | bk => exact fun σ1 F2 H2 k q => h σ1 F2 H2 k (x.trans q)
    | ct => exact fun σ1 F2 H2 k q => h σ1 F2 H2 k (x.trans q)
    | ret r =>
      cases r with
      | sh d => exact fun σ1 F2 H2 k q => h σ1 F2 H2 k (x.trans q)
      | fr xs => exact fun σ1 F2 H2 k q => h σ1 F2 H2 k (x.trans q)
def tS (P : Pm) (W : WX) (m : M P.B.S Fl) : TS := fun D σ H => ∃ F e, EOk P e σ F H ∧ SatS P W F D (m e)
abbrev XS (P : Pm) (X : Cx) (W : WX) (st : Stmt) (m : M P.B.S Fl) : Prop := PS X st (tS P W m)
abbrev XSs (P : Pm) (X : Cx) (W : WX) (st : List Stmt) (m : M P.B.S Fl) : Prop := PSs X st (tS P W m)

def sq {S : Type} (m1 m2 : M S Fl) : M S Fl := fun e => match m1 e with
  | .ok .nx e1 => m2 e1
  | o => o
def nop {S : Type} : M S Fl := fun e => .ok .nx e
theorem ss_nil : XSs P X W [] nop := pss_imp pss_nil fun D σ H ⟨F, e, k, h⟩ => h σ F H k (Ex.refl _)
theorem ss_one {st : Stmt} {m : M P.B.S Fl} (h : XS P X W st m) : XSs P X W [st] m := pss_one h
theorem SatS.sq {m1 m2 : M P.B.S Fl} (h : SatS P W F D (sq m1 m2 e)) : SatS P W F { D with nx := tS P W m2 D } (m1 e) := by
  unfold Mi.sq at h
  cases q : m1 e with
  | stuck => rw [q] at h; exact h
  | err y e => rw [q] at h; exact h
  | ok fl e1 =>
    rw [q] at h
    cases fl with
    | nx => exact fun σ1 F2 H2 k x => ⟨F2, e1, k, h.mono x⟩
    | bk => exact h
    | ct => exact h
    | ret r =>
      cases r with
      | sh d => exact h
      | fr xs => exact h
theorem ss_cons {st : Stmt} {rest : List Stmt} {m1 m2 : M P.B.S Fl} (h1 : XS P X W st m1) (h2 : XSs P X W rest m2) : XSs P X W (st :: rest) (sq m1 m2) :=
  pss_imp (pss_cons h1 h2) fun D σ H ⟨F, e, k, h⟩ => ⟨F, e, k, h.sq⟩

/-- an expression, then the rest of a statement -/
theorem SatS.bnd {f : M P.B.S α} {k : α → M P.B.S Fl} (h : SatS P W F D (bnd f k e)) : Sat P W e σ F H (f e) fun a e1 F1 H1 => SatS P W F1 D (k a e1) := by
  unfold Mi.bnd at h
  cases q : f e with
  | stuck => rw [q] at h; exact h
  | err y e1 => rw [q] at h; exact fun c d F1 H1 k x r => h c d σ F1 H1 k x r
  | ok a e1 => rw [q] at h; exact fun F1 H1 _ s => h.mono s.ff
theorem sX_of {m : M P.B.S Mi.D} {k : Mi.D → M P.B.S Fl} {Q : VK} (ek : EOk P e σ F H) (h : SatS P W F D (bnd m k e))
    (q : ∀ d e1 F1 H1 v, EOk P e1 σ F1 H1 → Step P e e1 σ F H F1 H1 → Rp F1 v d → SatS P W F1 D (k d e1) → Q v H1) : tX P W m σ H Q :=
  ⟨F, e, ek, Sat.imp h.bnd fun d e1 F1 H1 k1 s1 h1 v rv => q d e1 F1 H1 v k1 s1 rv h1⟩
theorem sF_of {m : M P.B.S (List Mi.D)} {k : List Mi.D → M P.B.S Fl} {Q : VK} (ek : EOk P e σ F H) (h : SatS P W F D (bnd m k e))
    (q : ∀ xs e1 F1 H1 p vs, EOk P e1 σ F1 H1 → Step P e e1 σ F H F1 H1 → H p = none → H1 p = some (.lst vs) → F1 p = none → RpA F1 vs xs → SatS P W F1 D (k xs e1) → Q (.ref p) H1) : tF P W m σ H Q :=
  ⟨F, e, ek, Sat.imp h.bnd fun xs e1 F1 H1 k1 s1 h1 p vs g1 g2 g3 g4 => q xs e1 F1 H1 p vs k1 s1 g1 g2 g3 g4 h1⟩
theorem sT_of {m : M P.B.S Bool} {k : Bool → M P.B.S Fl} {Q : Bool → Hp → Prop} (ek : EOk P e σ F H) (h : SatS P W F D (bnd m k e))
    (q : ∀ b e1 F1 H1, EOk P e1 σ F1 H1 → Step P e e1 σ F H F1 H1 → SatS P W F1 D (k b e1) → Q b H1) : tT P W m σ H Q :=
  ⟨F, e, ek, Sat.imp h.bnd fun b e1 F1 H1 k1 s1 h1 => q b e1 F1 H1 k1 s1 h1⟩

/-! return, pass, break, continue, if, an expression alone -/
def mRet {S : Type} (f : M S Mi.D) : M S Fl := bnd f fun d => rt (.ret (.sh d))
def mRetF {S : Type} (f : M S (List Mi.D)) : M S Fl := bnd f fun xs => rt (.ret (.fr xs))
def mRetV {S : Type} (i : Nat) : M S Fl := fun e => match e.sl[i]? with
  | some (.sh d) => .ok (.ret (.sh d)) e
  | some (.ob (.lst xs)) => .ok (.ret (.fr xs)) { e with sl := e.sl.set i .un }
  | _ => .stuck
def mDrop {S : Type} (f : M S Mi.D) : M S Fl := bnd f fun _ => nop
def mIf {S : Type} (f : M S Bool) (g h : M S Fl) : M S Fl := bnd f fun b => if b = true then g else h
def mBrk {S : Type} : M S Fl := fun e => .ok .bk e
def mCt {S : Type} : M S Fl := fun e => .ok .ct e
theorem s_ret {a : Expr} {f : M P.B.S Mi.D} (h : XE P X W a f) : XS P X W (.Return (some a) pos) (mRet f) :=
  ps_imp (ps_ret h) fun D σ H ⟨F, e, k, h⟩ => sX_of k h fun d e1 F1 H1 v k1 s1 r1 h1 => h1 σ F1 H1 k1 (Ex.refl _) v r1
theorem s_retF {a : Expr} {f : M P.B.S (List Mi.D)} (h : XF P X W a f) : XS P X W (.Return (some a) pos) (mRetF f) :=
  ps_imp (ps_ret h) fun D σ H ⟨F, e, k, h⟩ => sF_of k h fun xs e1 F1 H1 p vs k1 s1 g1 g2 g3 g4 h1 => h1 σ F1 H1 k1 (Ex.refl _) p vs (k.fresh g1).2.1 g2 g3 g4
theorem s_retV (i : Nat) {x : Str} {p : Pos} (hN : X.N[i]? = some x := by rfl) (hv : Vis X.env.scope x := by first | exact Or.inl rfl | exact Or.inr (Or.inl rfl) | exact Or.inr (Or.inr rfl)) (hd : (x == ("__debug__" : Str)) = false := by decide)
    (hcd : (x == ("__classdict__" : Str)) = false := by decide) : XS P X W (.Return (some (.Name x p)) pos) (mRetV i) :=
  ps_imp (ps_ret (pe_var hN hv hd hcd)) fun D σ H ⟨F, e, k, h⟩ => by
    unfold mRetV at h
    cases q : e.sl[i]? with
    | none => rw [q] at h; exact h.elim
    | some s =>
      rw [q] at h
      cases s with
      | sh d =>
        obtain ⟨v, q1, q2⟩ := k.sh i d q
        exact ⟨v, q1, h σ F H k (Ex.refl _) v q2⟩
      | ob o =>
        cases o with
        | lst xs =>
          obtain ⟨r, vs, q1, q2, q3, q4, q5, q6⟩ := k.owL i xs q
          have k1 := k.drop (i := i) (s := .un) (fun _ z => by cases z) (fun _ z => by cases z) (fun z => by cases z) (fun _ z => by cases z)
          exact ⟨_, q1, h σ F H k1 (Ex.refl _) r vs q4 q2 q3 q6⟩
        | _ => exact h.elim
      | _ => exact h.elim
def mRetN {S : Type} : M S Fl := fun e => .ok (.ret (.sh .none)) e
theorem s_retN : XS P X W (.Return none pos) mRetN := ps_imp ps_retN fun D σ H ⟨F, e, k, h⟩ => h σ F H k (Ex.refl _) _ .non
theorem s_pass : XS P X W (.Pass pos) nop := ps_imp ps_pass fun D σ H ⟨F, e, k, h⟩ => h σ F H k (Ex.refl _)
theorem s_brk : XS P X W (.Break pos) mBrk := ps_imp ps_break fun D σ H ⟨F, e, k, h⟩ => h σ F H k (Ex.refl _)
theorem s_ct : XS P X W (.Continue pos) mCt := ps_imp ps_continue fun D σ H ⟨F, e, k, h⟩ => h σ F H k (Ex.refl _)
theorem s_doc {x : Str} {j : Nat} {p : Pos} : XS P X W (.Expr (.Constant (.str x) j p) pos) nop := ps_imp ps_doc fun D σ H ⟨F, e, k, h⟩ => h σ F H k (Ex.refl _)
theorem s_expr {a : Expr} {f : M P.B.S Mi.D} (h : XE P X W a f) (hs : swapsWith a none pos.line X.env = pure false := by rfl) : XS P X W (.Expr a pos) (mDrop f) :=
  ps_imp (ps_expr h hs) fun D σ H ⟨F, e, k, h⟩ => sX_of k h fun d e1 F1 H1 v k1 s1 r1 h1 => h1 σ F1 H1 k1 (Ex.refl _)
theorem s_if {c : Expr} {a b : List Stmt} {f : M P.B.S Bool} {g h : M P.B.S Fl} (hc : XT P X W c f) (ha : XSs P X W a g) (hb : XSs P X W b h) : XS P X W (.If c a b pos) (mIf f g h) :=
  ps_imp (ps_if hc ha hb) fun D σ H ⟨F, e, k, h⟩ => sT_of k h fun b e1 F1 H1 k1 s1 h1 => by
    cases b with
    | true => exact ⟨F1, e1, k1, h1⟩
    | false => exact ⟨F1, e1, k1, h1⟩

/-! stores -/
theorem EOk.put {i : Nat} {v : V} {d : Mi.D} (k : EOk P e σ F H) (r : Rp F v d) : EOk P { e with sl := e.sl.set i (.sh d) } (σ.set i (some v)) F H := by
  have at_ : ∀ {j : Nat} {s : Slot}, j ≠ i → (σ.set i (some v))[j]? = σ[j]? := fun h => List.getElem?_set_ne (Ne.symm h)
  refine ⟨k.ext, k.fra, k.sto, k.off, by simpa using k.len, fun j d2 h => ?_, fun j h => ?_, fun j xs h => ?_, fun j j' xs ys p h h' g g' => ?_, fun j x h => ?_⟩
  · rcases lget_set h with ⟨rfl, z⟩ | ⟨ne, z⟩
    · cases z
      have hl : j < e.sl.length := by have := (List.getElem?_eq_some_iff.mp h).1; simpa using this
      exact ⟨v, List.getElem?_set_self (by rw [← k.len]; exact hl), r⟩
    · rw [List.getElem?_set_ne (Ne.symm ne)]; exact k.sh j d2 z
  · rcases lget_set h with ⟨rfl, z⟩ | ⟨ne, z⟩
    · cases z
    · rw [List.getElem?_set_ne (Ne.symm ne)]; exact k.tok j z
  · rcases lget_set h with ⟨rfl, z⟩ | ⟨ne, z⟩
    · cases z
    · rw [List.getElem?_set_ne (Ne.symm ne)]; exact k.ow j xs z
  · rcases lget_set h with ⟨rfl, z⟩ | ⟨ne, z⟩
    · cases z
    · rcases lget_set h' with ⟨rfl, z'⟩ | ⟨ne', z'⟩
      · cases z'
      · rw [List.getElem?_set_ne (Ne.symm ne)] at g
        rw [List.getElem?_set_ne (Ne.symm ne')] at g'
        exact k.sep j j' xs ys p z z' g g'
  · rcases lget_set h with ⟨rfl, z⟩ | ⟨ne, z⟩
    · cases z
    · rw [List.getElem?_set_ne (Ne.symm ne)]; exact k.ex j x z
theorem EOk.putOb {i : Nat} {p : Addr} {u : HO} {o : OD} (k : EOk P e σ F H) (h1 : H p = some u) (h2 : F p = none) (h3 : P.H0 p = none) (h4 : p ∉ P.B.O) (h5 : ¬ Ow e σ p) (r : OdR F u o) :
    EOk P { e with sl := e.sl.set i (.ob o) } (σ.set i (some (.ref p))) F H := by
  refine ⟨k.ext, k.fra, k.sto, k.off, by simpa using k.len, fun j d2 h => ?_, fun j h => ?_, fun j ys h => ?_, fun j j' zs ys q h h' g g' => ?_, fun j x h => ?_⟩
  · rcases lget_set h with ⟨rfl, z⟩ | ⟨ne, z⟩
    · cases z
    · rw [List.getElem?_set_ne (Ne.symm ne)]; exact k.sh j d2 z
  · rcases lget_set h with ⟨rfl, z⟩ | ⟨ne, z⟩
    · cases z
    · rw [List.getElem?_set_ne (Ne.symm ne)]; exact k.tok j z
  · rcases lget_set h with ⟨rfl, z⟩ | ⟨ne, z⟩
    · cases z
      have hl : j < e.sl.length := by have := (List.getElem?_eq_some_iff.mp h).1; simpa using this
      exact ⟨p, u, List.getElem?_set_self (by rw [← k.len]; exact hl), h1, h2, h3, h4, r⟩
    · rw [List.getElem?_set_ne (Ne.symm ne)]; exact k.ow j ys z
  · rcases lget_set h with ⟨rfl, z⟩ | ⟨ne, z⟩
    · have hl : j < e.sl.length := by have := (List.getElem?_eq_some_iff.mp h).1; simpa using this
      rw [List.getElem?_set_self (by rw [← k.len]; exact hl)] at g
      cases g
      rcases lget_set h' with ⟨rfl, z'⟩ | ⟨ne', z'⟩
      · rfl
      · rw [List.getElem?_set_ne (Ne.symm ne')] at g'
        exact (h5 ⟨j', ys, z', g'⟩).elim
    · rw [List.getElem?_set_ne (Ne.symm ne)] at g
      rcases lget_set h' with ⟨rfl, z'⟩ | ⟨ne', z'⟩
      · have hl : j' < e.sl.length := by have := (List.getElem?_eq_some_iff.mp h').1; simpa using this
        rw [List.getElem?_set_self (by rw [← k.len]; exact hl)] at g'
        cases g'
        exact (h5 ⟨j, zs, z, g⟩).elim
      · rw [List.getElem?_set_ne (Ne.symm ne')] at g'
        exact k.sep j j' zs ys q z z' g g'
  · rcases lget_set h with ⟨rfl, z⟩ | ⟨ne, z⟩
    · cases z
    · rw [List.getElem?_set_ne (Ne.symm ne)]; exact k.ex j x z
theorem EOk.putO {i : Nat} {p : Addr} {vs : List V} {xs : List Mi.D} (k : EOk P e σ F H) (h1 : H p = some (.lst vs)) (h2 : F p = none) (h3 : P.H0 p = none) (h4 : p ∉ P.B.O) (h5 : ¬ Ow e σ p) (r : RpA F vs xs) :
    EOk P { e with sl := e.sl.set i (.ow xs) } (σ.set i (some (.ref p))) F H := k.putOb h1 h2 h3 h4 h5 (o := .lst xs) r
def stV {S : Type} (i : Nat) (d : Mi.D) : M S Fl := fun e => .ok .nx { e with sl := e.sl.set i (.sh d) }
def stO {S : Type} (i : Nat) (xs : List Mi.D) : M S Fl := fun e => .ok .nx { e with sl := e.sl.set i (.ow xs) }
def mSet {S : Type} (i : Nat) (f : M S Mi.D) : M S Fl := bnd f (stV i)
def mSetF {S : Type} (i : Nat) (f : M S (List Mi.D)) : M S Fl := bnd f (stO i)
theorem im_set {i : Nat} {f : M P.B.S Mi.D} (h : tS P W (mSet i f) D σ H) : tX P W f σ H fun x H1 => D.nx (σ.set i (some x)) H1 := by
  obtain ⟨F, e, k, h⟩ := h
  exact sX_of k h fun d e1 F1 H1 v k1 s1 r1 h1 => h1 _ F1 H1 (k1.put r1) (Ex.refl _)
theorem im_setF {i : Nat} {f : M P.B.S (List Mi.D)} (h : tS P W (mSetF i f) D σ H) : tF P W f σ H fun x H1 => D.nx (σ.set i (some x)) H1 := by
  obtain ⟨F, e, k, h⟩ := h
  exact sF_of k h fun xs e1 F1 H1 p vs k1 s1 g1 g2 g3 g4 h1 => h1 _ F1 H1 (k1.putO g2 g3 (k.fresh g1).2.1 (k.fresh g1).2.2.1 (fun z => (k.fresh g1).2.2.2 (s1.ow _ z)) g4) (Ex.refl _)
theorem s_set {i : Nat} {x : Str} {a : Expr} {f : M P.B.S Mi.D} {p : Pos} (hN : X.N.Nodup) (h : XE P X W a f) (hi : X.N[i]? = some x := by rfl) (hx : Loc X.env.scope x := by first | exact Or.inl rfl | exact Or.inr rfl)
    (hs : swapsWith a (some (.Name x p)) pos.line X.env = pure false := by rfl) (hf : X.fn x = true ∨ X.env.scope.names.lookup x = some .local := by first | exact .inl rfl | exact .inr rfl) : XS P X W (.Assign [.Name x p] a pos) (mSet i f) :=
  ps_imp (ps_set hN hi hx h hs hf) fun D σ H h => im_set h
theorem s_setF {i : Nat} {x : Str} {a : Expr} {f : M P.B.S (List Mi.D)} {p : Pos} (hN : X.N.Nodup) (h : XF P X W a f) (hi : X.N[i]? = some x := by rfl) (hx : Loc X.env.scope x := by first | exact Or.inl rfl | exact Or.inr rfl)
    (hs : swapsWith a (some (.Name x p)) pos.line X.env = pure false := by rfl) (hf : X.fn x = true ∨ X.env.scope.names.lookup x = some .local := by first | exact .inl rfl | exact .inr rfl) : XS P X W (.Assign [.Name x p] a pos) (mSetF i f) :=
  ps_imp (ps_set hN hi hx h hs hf) fun D σ H h => im_setF h

/-! targets -/
/-- the slots l alone may differ -/
def Alike (l : List Nat) (σ τ : St) : Prop := τ.length = σ.length ∧ ∀ j : Nat, j ∉ l → τ[j]? = σ[j]?
def tG (P : Pm) (l : List Nat) (g : Mi.D → M P.B.S Unit) : TG := fun v σ H Q => ∃ F e d, EOk P e σ F H ∧ Rp F v d ∧ match g d e with
  | .ok _ e1 => ∀ σ1, EOk P e1 σ1 F H → Alike l σ σ1 → Q σ1 H
  | _ => False
def tGs (P : Pm) (l : List Nat) (g : List Mi.D → M P.B.S Unit) : TGs := fun vs σ H Q => ∃ F e ds, EOk P e σ F H ∧ RpA F vs ds ∧ match g ds e with
  | .ok _ e1 => ∀ σ1, EOk P e1 σ1 F H → Alike l σ σ1 → Q σ1 H
  | _ => False
abbrev XG (P : Pm) (X : Cx) (a : Expr) (l : List Nat) (g : Mi.D → M P.B.S Unit) : Prop := PG X a (tG P l g)
abbrev XGs (P : Pm) (X : Cx) (as : List Expr) (l : List Nat) (g : List Mi.D → M P.B.S Unit) : Prop := PGs X as (tGs P l g)
theorem pg_imp {X : Cx} {a : Expr} {t u : TG} (h : PG X a t) (i : ∀ v σ H Q, u v σ H Q → t v σ H Q) : PG X a u := ⟨fun pins s σ H v w Q I r q => h.run pins s σ H v w Q I r (i v σ H Q q)⟩
theorem pgs_imp {X : Cx} {as : List Expr} {t u : TGs} (h : PGs X as t) (i : ∀ v σ H Q, u v σ H Q → t v σ H Q) : PGs X as u := ⟨fun pins s σ H v w Q I r q => h.run pins s σ H v w Q I r (i v σ H Q q)⟩
def gN {S : Type} (i : Nat) : Mi.D → M S Unit := fun d e => .ok () { e with sl := e.sl.set i (.sh d) }
def gT {S : Type} (g : List Mi.D → M S Unit) : Mi.D → M S Unit := fun d => match d with
  | .tuple ds => g ds
  | _ => stk
def gE {S : Type} : List Mi.D → M S Unit := fun ds => match ds with
  | [] => rt ()
  | _ => stk
def gC {S : Type} (g : Mi.D → M S Unit) (h : List Mi.D → M S Unit) : List Mi.D → M S Unit := fun ds => match ds with
  | d :: r => bnd (g d) fun _ => h r
  | [] => stk
theorem g_name {i : Nat} {x : Str} (hN : X.N.Nodup) (hi : X.N[i]? = some x := by rfl) (hx : Loc X.env.scope x := by first | exact Or.inl rfl | exact Or.inr rfl)
    (hf : X.fn x = true ∨ X.env.scope.names.lookup x = some .local := by first | exact .inl rfl | exact .inr rfl) : XG P X (.Name x pos) [i] (gN i) :=
  pg_imp (pg_name hN hi hx hf) fun v σ H Q ⟨F, e, d, k, r, h⟩ => h _ (k.put r) ⟨by simp, fun j hj => List.getElem?_set_ne (fun z => hj (by simp [z]))⟩
theorem gs_nil : XGs P X [] [] gE := pgs_imp pgs_nil fun vs σ H Q ⟨F, e, ds, k, r, h⟩ => by
  cases r with
  | nil => exact ⟨rfl, h _ k ⟨rfl, fun _ _ => rfl⟩⟩
  | cons _ _ => exact h.elim
theorem gs_cons {a : Expr} {as : List Expr} {g : Mi.D → M P.B.S Unit} {h_ : List Mi.D → M P.B.S Unit} {l1 l2 : List Nat} (h1 : XG P X a l1 g) (h2 : XGs P X as l2 h_) (hs : (assignEach (a :: as) X.env).map (·.2) = assign a X.env :: (assignEach as X.env).map (·.2) := by rfl) : XGs P X (a :: as) (l1 ++ l2) (gC g h_) :=
  pgs_imp (pgs_cons h1 h2 hs) fun vs σ H Q ⟨F, e, ds, k, r, h⟩ => by
    cases r with
    | nil => exact h.elim
    | @cons v ws d es r1 r2 =>
      refine ⟨v, ws, rfl, F, e, d, k, r1, ?_⟩
      unfold gC bnd at h
      dsimp only at h
      cases q : g d e with
      | ok _ e1 =>
        rw [q] at h
        refine fun σ1 k1 a1 => ⟨F, e1, es, k1, r2, ?_⟩
        dsimp only at h
        cases y : h_ es e1 with
        | ok u e2 => rw [y] at h; exact fun σ2 k2 a2 => h σ2 k2 ⟨a2.1.trans a1.1, fun j hj => (a2.2 j fun z => hj (List.mem_append_right _ z)).trans (a1.2 j fun z => hj (List.mem_append_left _ z))⟩
        | err _ _ => rw [y] at h; exact h
        | stuck => rw [y] at h; exact h
      | err _ _ => rw [q] at h; exact h
      | stuck => rw [q] at h; exact h
theorem gC_len {S : Type} {g : Mi.D → M S Unit} {h : List Mi.D → M S Unit} {n : Nat} (q : ∀ ds e, ds.length ≠ n → ∀ u e1, h ds e ≠ .ok u e1) : ∀ ds e, ds.length ≠ n + 1 → ∀ u e1, gC g h ds e ≠ .ok u e1 := by
  intro ds e hl u e1 z
  cases ds with
  | nil => cases z
  | cons d r =>
    unfold gC bnd at z
    dsimp only at z
    cases y : g d e with
    | ok a e2 => rw [y] at z; exact q r e2 (fun w => hl (by simp [w])) u e1 z
    | err _ _ => rw [y] at z; cases z
    | stuck => rw [y] at z; cases z
theorem gE_len {S : Type} : ∀ (ds : List Mi.D) (e : En S), ds.length ≠ 0 → ∀ u e1, (gE ds e : Out S Unit) ≠ .ok u e1 := by
  intro ds e hl u e1 z
  cases ds with
  | nil => exact hl rfl
  | cons d r => cases z
theorem g_tup {as : List Expr} {c n : Nat} {l : List Nat} {h : List Mi.D → M P.B.S Unit} (hc : X.calm = true) (h1 : XGs P X as l h) (hl : ∀ ds e, ds.length ≠ n → ∀ u e1, h ds e ≠ .ok u e1)
    (hn : (assignEach as X.env).length = n := by rfl) (hst : (assignEach as X.env).findIdx? (·.1) = none := by rfl) : XG P X (.Tuple as c pos) l (gT h) :=
  pg_imp (pg_tup hc h1 hn hst) fun v σ H Q ⟨F, e, d, k, r, q⟩ => by
    cases r with
    | @tup a xs ds g1 g2 =>
      refine ⟨a, xs, rfl, .of (k.ext.fh _ _ g1), ?_, F, e, ds, k, g2, q⟩
      rw [RpA.len g2]
      by_cases z : ds.length = n
      · exact z
      · unfold gT at q
        dsimp only at q
        cases y : h ds e with
        | ok u e1 => exact (hl ds e z u e1 y).elim
        | err _ _ => rw [y] at q; exact q.elim
        | stuck => rw [y] at q; exact q.elim
    | _ => exact q.elim
def mAsg {S : Type} (f : M S Mi.D) (g : Mi.D → M S Unit) : M S Fl := bnd f fun d e => match g d e with
  | .ok _ e1 => .ok .nx e1
  | _ => .stuck
theorem s_asg {tg a : Expr} {l : List Nat} {f : M P.B.S Mi.D} {g : Mi.D → M P.B.S Unit} (h : XE P X W a f) (hg : XG P X tg l g) (hs : swapsWithSole [tg] a pos.line X.env = pure false := by rfl) (hw : swappedStores [tg] a X.env = pure none := by rfl)
    (h1 : (assignEach [tg] X.env).map (·.2) = [assign tg X.env] := by rfl) : XS P X W (.Assign [tg] a pos) (mAsg f g) :=
  ps_imp (ps_asg h hg hs hw h1) fun D σ H ⟨F, e, k, h⟩ => sX_of k h fun d e1 F1 H1 v k1 s1 r1 h1 => by
    refine ⟨F1, e1, d, k1, r1, ?_⟩
    cases y : g d e1 with
    | ok u e2 => rw [y] at h1; exact fun σ1 k2 _ => h1 σ1 F1 H1 k2 (Ex.refl _)
    | err x e2 => rw [y] at h1; exact h1.elim
    | stuck => rw [y] at h1; exact h1.elim
end
end Mi
set_option maxHeartbeats 2000000
namespace Mi
open PySem PySem.Spec PyProof.Rows L2

section
variable {P : Pm} {X : Cx} {W : WX} {α β : Type} {e e1 : En P.B.S} {σ : St} {F H F1 H1 : Hp} {pos : Pos} {D : Ends}

/-! what a loop walks -/
def ItOk (J : It) (ds : List Mi.D) (F : Hp) : Prop := ∀ F2 H2, Ex F F2 → Ex F2 H2 → J.stop ds.length H2 ∧ ∀ (i : Nat) (d : Mi.D), ds[i]? = some d → J.go i H2 ∧ ∀ x H3, J.yld i H2 x H3 → ∃ F3, Ex H2 H3 ∧ Ext F2 H2 F3 H3 ∧ Rp F3 x d
theorem ItOk.mono {J : It} {ds : List Mi.D} (x : Ex F F1) (h : ItOk J ds F) : ItOk J ds F1 := fun F2 H2 a b => h F2 H2 (x.trans a) b
def tI (P : Pm) (W : WX) (m : M P.B.S (List Mi.D)) : TI := fun σ H R => ∃ F e, EOk P e σ F H ∧ Sat P W e σ F H (m e) fun ds _ F1 H1 => ∀ J, ItOk J ds F1 → R J H1
abbrev XI (P : Pm) (X : Cx) (W : WX) (tg it : Expr) (m : M P.B.S (List Mi.D)) : Prop := PI X tg it (tI P W m)
def mI {S : Type} (f : M S Mi.D) : M S (List Mi.D) := bnd f fun d => match d with
  | .list ds => rt ds
  | .tuple ds => rt ds
  | _ => stk
theorem itl_ok {K : PySem.W.Frag} {a : Addr} {vs : List V} {ds : List Mi.D} (h : F a = some (.lst vs)) (r : RpA F vs ds) : ItOk (Itl K a) ds F := fun F2 H2 x y => by
  have hs : SqL K H2 a vs := .of (y _ _ (x _ _ h))
  refine ⟨⟨vs, hs, by rw [RpA.len r]; exact Nat.le_refl _⟩, fun i d hd => ?_⟩
  obtain ⟨v, hv, rv⟩ := r.get hd
  refine ⟨⟨vs, v, hs, hv⟩, fun z H3 q => ?_⟩
  obtain ⟨rfl, q⟩ := q
  have e := q vs hs
  rw [hv] at e
  cases e
  exact ⟨F2, Ex.refl _, Ext.refl y, x.dp _ _ rv⟩
theorem itt_ok {K : PySem.W.Frag} {a : Addr} {vs : List V} {ds : List Mi.D} (h : F a = some (.tup vs)) (r : RpA F vs ds) : ItOk (Itt K a) ds F := fun F2 H2 x y => by
  have hs : SqT K H2 a vs := .of (y _ _ (x _ _ h))
  refine ⟨⟨vs, hs, by rw [RpA.len r]; exact Nat.le_refl _⟩, fun i d hd => ?_⟩
  obtain ⟨v, hv, rv⟩ := r.get hd
  refine ⟨⟨vs, v, hs, hv⟩, fun z H3 q => ?_⟩
  obtain ⟨rfl, q⟩ := q
  have e := q vs hs
  rw [hv] at e
  cases e
  exact ⟨F2, Ex.refl _, Ext.refl y, x.dp _ _ rv⟩
theorem i_seq {tg a : Expr} {f : M P.B.S Mi.D} (h : XE P X W a f) : XI P X W tg a (mI f) := ⟨fun pins s σ H R I ⟨F, e, k, q⟩ => by
  unfold mI bnd at q
  cases y : f e with
  | stuck => rw [y] at q; exact q.elim
  | err x e1 => rw [y] at q; exact (pi_list h).run pins s σ H R I ⟨F, e, k, by rw [y]; exact q⟩
  | ok d e1 =>
    rw [y] at q
    cases d with
    | list ds =>
      refine (pi_list h).run pins s σ H R I ⟨F, e, k, ?_⟩
      rw [y]
      intro F1 H1 k1 s1 v rv
      cases rv with
      | lst g1 g2 => exact ⟨_, rfl, ⟨_, .of (k1.ext.fh _ _ g1)⟩, q F1 H1 k1 s1 _ (itl_ok g1 g2)⟩
    | tuple ds =>
      refine (pi_tup h).run pins s σ H R I ⟨F, e, k, ?_⟩
      rw [y]
      intro F1 H1 k1 s1 v rv
      cases rv with
      | tup g1 g2 => exact ⟨_, rfl, ⟨_, .of (k1.ext.fh _ _ g1)⟩, q F1 H1 k1 s1 _ (itt_ok g1 g2)⟩
    | _ => exact q.elim⟩
def rngD (lo : Int) (n : Nat) : List Mi.D := (List.range n).map fun (i : Nat) => PyData.int (lo + (i : Int))
theorem itr_ok {lo : Int} {n : Nat} : ItOk (Itr lo n) (rngD lo n) F := fun F2 H2 x y => by
  refine ⟨by show n ≤ (rngD lo n).length; simp [rngD], fun i d hd => ?_⟩
  unfold rngD at hd
  obtain ⟨j, h1, h2⟩ := Option.map_eq_some_iff.mp (by rw [List.getElem?_map] at hd; exact hd)
  have hi : i < n := by
    have := (List.getElem?_eq_some_iff.mp h1).1
    simpa using this
  have hj : j = i := by
    rw [List.getElem?_range hi] at h1
    exact (Option.some.inj h1).symm
  subst hj
  refine ⟨hi, fun z H3 q => ?_⟩
  obtain ⟨rfl, rfl⟩ := q
  subst h2
  exact ⟨F2, Ex.refl _, Ext.refl y, .int _⟩
def small62 (j : Int) : Prop := -(2 ^ 62) ≤ j ∧ j < 2 ^ 62
@[irreducible] def dec_small62 (j : Int) : Decidable (small62 j) := by unfold small62; infer_instance
instance (j : Int) : Decidable (small62 j) := dec_small62 j
def mR1 {S : Type} (g : M S (List Arg)) : M S (List Mi.D) := bnd g fun as => match as with
  | [.d (.int j)] => if small62 j then rt (rngD 0 j.toNat) else stk
  | _ => stk
def mR2 {S : Type} (g : M S (List Arg)) : M S (List Mi.D) := bnd g fun as => match as with
  | [.d (.int i), .d (.int j)] => if small62 i ∧ small62 j then rt (rngD i (j - i).toNat) else stk
  | _ => stk
theorem pi_imp {X : Cx} {tg a : Expr} {t u : TI} (h : PI X tg a t) (i : ∀ σ H R, u σ H R → t σ H R) : PI X tg a u := ⟨fun pins s σ H R I q => h.run pins s σ H R I (i σ H R q)⟩
theorem i_range1 {tg a : Expr} {g : M P.B.S (List Arg)} {p : Pos} (hm : X.mg "range" = none) (ha : XA P X W [a] g) (hg : Gl X "range" := by rfl) (hs : starEach [a] X.env = [(false, eval a X.env)] := by rfl) : XI P X W tg (.Call (.Name "range" p) [a] [] pos) (mR1 g) :=
  pi_imp (pi_range1 hg hm ha hs) fun σ H R ⟨F, e, k, h⟩ => tA_of k h fun as e1 F1 H1 vs k1 s1 r1 h1 => by
    revert h1
    split
    · rename_i j
      intro h1
      split at h1
      · rename_i z
        cases r1 with
        | d q1 q2 =>
          cases q2
          cases q1
          exact ⟨j, rfl, z.1, z.2, h1.rt k1 _ itr_ok⟩
      · exact h1.elim
    · intro h1; exact h1.elim
theorem i_range2 {tg a b : Expr} {g : M P.B.S (List Arg)} {p : Pos} (hm : X.mg "range" = none) (ha : XA P X W [a, b] g) (hg : Gl X "range" := by rfl) (hs : starEach [a, b] X.env = [(false, eval a X.env), (false, eval b X.env)] := by rfl) (hs2 : starEach [b] X.env = [(false, eval b X.env)] := by rfl) : XI P X W tg (.Call (.Name "range" p) [a, b] [] pos) (mR2 g) :=
  pi_imp (pi_range2 hg hm ha hs hs2) fun σ H R ⟨F, e, k, h⟩ => tA_of k h fun as e1 F1 H1 vs k1 s1 r1 h1 => by
    revert h1
    split
    · rename_i i j
      intro h1
      split at h1
      · rename_i z
        cases r1 with
        | d q1 q2 =>
          cases q2 with
          | d q3 q4 =>
            cases q4
            cases q1
            cases q3
            exact ⟨i, j, rfl, ⟨z.1.1, z.1.2, z.2.1, z.2.2⟩, h1.rt k1 _ itr_ok⟩
      · exact h1.elim
    · intro h1; exact h1.elim

/-! for -/
def loop {S : Type} (g : Mi.D → M S Unit) (b : M S Fl) : List Mi.D → M S Fl
  | [] => nop
  | d :: ds => fun e => match g d e with
    | .ok _ e1 => (match b e1 with
      | .ok .nx e2 => loop g b ds e2
      | .ok .ct e2 => loop g b ds e2
      | .ok .bk e2 => .ok .nx e2
      | .ok (.ret r) e2 => .ok (.ret r) e2
      | .err x e2 => .err x e2
      | .stuck => .stuck)
    | _ => .stuck
def mFor {S : Type} (f : M S (List Mi.D)) (g : Mi.D → M S Unit) (b : M S Fl) : M S Fl := bnd f (loop g b)
theorem s_for {tg it : Expr} {l : List Nat} {body : List Stmt} {f : M P.B.S (List Mi.D)} {g : Mi.D → M P.B.S Unit} {b : M P.B.S Fl} (hp : PassesOwn (model X.prog X.w) X.A X.env X.xe) (hc : X.calm = true) (hi : XI P X W tg it f) (hg : XG P X tg l g) (hb : XSs P X W body b)
    (hs : ∀ x, foldedSetIterable it X.env x = pure x := by intro _; rfl) : XS P X W (.For tg it body [] pos) (mFor f g b) :=
  ps_imp (ps_for hp hc hi hg hb hs) fun D σ H ⟨F, e, k, h⟩ => by
    refine ⟨F, e, k, Sat.imp h.bnd fun ds e1 F1 H1 k1 s1 h1 J hJ => ?_⟩
    refine ⟨fun i m σ H => ∃ F e, EOk P e σ F H ∧ ItOk J ds F ∧ i ≤ ds.length ∧ m = ds.length - i ∧ SatS P W F D (loop g b (ds.drop i) e), ⟨_, F1, e1, k1, hJ, Nat.zero_le _, rfl, h1⟩, ?_⟩
    rintro i m σ H ⟨F, e, k, hJ, hi, rfl, q⟩
    obtain ⟨stop, turn⟩ := hJ F H (Ex.refl _) k.ext.fh
    by_cases hl : i < ds.length
    · have hd : ds[i]? = some ds[i] := List.getElem?_eq_getElem hl
      obtain ⟨go, yld⟩ := turn i ds[i] hd
      rw [List.drop_eq_getElem_cons hl] at q
      refine .inr ⟨go, fun σ' H' => ∃ F e, EOk P e σ' F H' ∧ ItOk J ds F ∧ SatS P W F D (loop g b (ds.drop (i + 1)) e), fun σ' H' ⟨F, e, k, hJ, q⟩ => ⟨ds.length - (i + 1), by omega, F, e, k, hJ, hl, rfl, q⟩, fun x H3 y => ?_⟩
      obtain ⟨F3, hx, ex, rx⟩ := yld x H3 y
      obtain ⟨k3, _⟩ := k.grow hx ex
      refine ⟨F3, e, ds[i], k3, rx, ?_⟩
      unfold loop at q
      cases z : g ds[i] e with
      | stuck => rw [z] at q; exact q
      | err _ _ => rw [z] at q; exact q
      | ok u e4 =>
        rw [z] at q
        dsimp only at q
        refine fun σ4 k4 _ => ⟨F3, e4, k4, ?_⟩
        have J3 : ItOk J ds F3 := hJ.mono ex.ff
        cases w : b e4 with
        | stuck => rw [w] at q; exact q
        | err y e5 => rw [w] at q; exact fun c d σ1 F2 H2 k x r => q c d σ1 F2 H2 k (ex.ff.trans x) r
        | ok fl e5 =>
          rw [w] at q
          cases fl with
          | nx => exact fun σ1 F2 H2 k x => ⟨F2, e5, k, J3.mono x, q.mono (ex.ff.trans x)⟩
          | ct => exact fun σ1 F2 H2 k x => ⟨F2, e5, k, J3.mono x, q.mono (ex.ff.trans x)⟩
          | bk => exact fun σ1 F2 H2 k x => q σ1 F2 H2 k (ex.ff.trans x)
          | ret r =>
            cases r with
            | sh d => exact fun σ1 F2 H2 k x => q σ1 F2 H2 k (ex.ff.trans x)
            | fr xs => exact fun σ1 F2 H2 k x => q σ1 F2 H2 k (ex.ff.trans x)
    · have e : i = ds.length := by omega
      subst e
      rw [List.drop_length] at q
      exact .inl ⟨stop, q σ F H k (Ex.refl _)⟩

/-! while -/
def whl {S : Type} (c : M S Bool) (b : M S Fl) : Nat → M S Fl
  | 0 => stk
  | n + 1 => bnd c fun t => if t = true then (fun e => match b e with
      | .ok .nx e2 => whl c b n e2
      | .ok .ct e2 => whl c b n e2
      | .ok .bk e2 => .ok .nx e2
      | .ok (.ret r) e2 => .ok (.ret r) e2
      | .err x e2 => .err x e2
      | .stuck => .stuck) else nop
theorem s_while (n : Nat) {c : Expr} {body : List Stmt} {f : M P.B.S Bool} {b : M P.B.S Fl} (hp : PassesOwn (model X.prog X.w) X.A X.env X.xe) (hc : XT P X W c f) (hb : XSs P X W body b) : XS P X W (.While c body [] pos) (whl f b n) :=
  ps_imp (ps_while hp hc hb) fun D σ H h => by
    refine ⟨fun m σ H => tS P W (whl f b m) D σ H, ⟨n, h⟩, ?_⟩
    rintro m σ H ⟨F, e, k, h⟩
    cases m with
    | zero => exact h.elim
    | succ m =>
      refine sT_of k h fun t e1 F1 H1 k1 s1 h1 => ?_
      cases t with
      | false => exact h1 σ F1 H1 k1 (Ex.refl _)
      | true =>
        refine ⟨tS P W (whl f b m) D, fun σ' H' q => ⟨m, Nat.lt_succ_self _, q⟩, F1, e1, k1, ?_⟩
        simp only [if_true] at h1
        cases w : b e1 with
        | stuck => rw [w] at h1; exact h1
        | err y e5 => rw [w] at h1; exact h1
        | ok fl e5 =>
          rw [w] at h1
          cases fl with
          | nx => exact fun σ1 F2 H2 k x => ⟨F2, e5, k, h1.mono x⟩
          | ct => exact fun σ1 F2 H2 k x => ⟨F2, e5, k, h1.mono x⟩
          | bk => exact h1
          | ret r =>
            cases r with
            | sh d => exact h1
            | fr xs => exact h1

/-! defs and their calls -/
inductive FO (S : Type) where
  | val (r : R) (s : S) | exc (x : Er) (s : S) | stuck
structure Pst (B : Amb) (s1 : B.S) (F H F1 H1 : Hp) : Prop where
  ext : Ext F H F1 H1
  fr : ∀ a o, a ∉ B.O → H a = some o → H1 a = some o
  sto : B.At s1 H1
  off : ∀ a ∈ B.O, F1 a = none
def SatF (mg : Str → Option Value) (B : Amb) (F H : Hp) (o : FO B.S) (Q : VK) (E : XK) : Prop :=
  match o with
  | .val (.sh d) s1 => ∀ F1 H1, Pst B s1 F H F1 H1 → ∀ v, Rp F1 v d → Q v H1
  | .val (.fr xs) s1 => ∀ F1 H1, Pst B s1 F H F1 H1 → ∀ p vs, H p = none → H1 p = some (.lst vs) → F1 p = none → RpA F1 vs xs → Q (.ref p) H1
  | .exc x s1 => ∀ F1 H1, Pst B s1 F H F1 H1 → ∀ c d, ErOk mg F1 c d x → E c d H1
  | .stuck => False
def spM (mg : Str → Option Value) (B : Amb) (n : Nat) (fn : List Arg → B.S → FO B.S) : Sp := fun vs H Q E => vs.length = n ∧ ∃ F as s, Ex F H ∧ (∀ a ∈ B.O, F a = none) ∧ B.At s H ∧ ArgsOk B F vs as ∧ SatF mg B F H (fn as s) Q E
def Arg.slot : Arg → Slot
  | .d x => .sh x
  | .tok => .tok
def fnOf {S : Type} (n : Nat) (m : M S Fl) : List Arg → S → FO S := fun as s => match m ⟨as.map Arg.slot ++ List.replicate (n - as.length) .un, s⟩ with
  | .ok .nx e => .val (.sh .none) e.st
  | .ok (.ret r) e => .val r e.st
  | .ok .bk e => .stuck
  | .ok .ct e => .stuck
  | .err x e => .exc x e.st
  | .stuck => .stuck
theorem ArgsOk.at {B : Amb} : ∀ {vs : List V} {as : List Arg}, ArgsOk B F vs as → ∀ (i : Nat) (a : Arg), as[i]? = some a → ∃ v, vs[i]? = some v ∧ (match a with | .d x => Rp F v x | .tok => v = .ref B.p)
  | _, _, .nil, i, a, h => by simp at h
  | _, _, .d r t, 0, a, h => by simp at h; subst h; exact ⟨_, rfl, r⟩
  | _, _, .tok t, 0, a, h => by simp at h; subst h; exact ⟨_, rfl, rfl⟩
  | _, _, .d r t, i + 1, a, h => ArgsOk.at t i a (by simpa using h)
  | _, _, .tok t, i + 1, a, h => ArgsOk.at t i a (by simpa using h)
theorem start_ok {K : PySem.W.Frag} {mg : Str → Option Value} {B : Amb} {xa : Addr} {xc : Value} {xd : Option Addr} {N : List Str} {vs : List V} {as : List Arg} {s : B.S} (hx : Ex F H) (off : ∀ a ∈ B.O, F a = none) (sto : B.At s H) (r : ArgsOk B F vs as) :
    EOk ⟨K, mg, B, F, H, xa, xc, xd⟩ ⟨as.map Arg.slot ++ List.replicate (N.length - as.length) .un, s⟩ (L2.start N vs) F H := by
  have look : ∀ (i : Nat) (sl : Slot), (as.map Arg.slot ++ List.replicate (N.length - as.length) Slot.un)[i]? = some sl → sl = .un ∨ ∃ a v, as[i]? = some a ∧ a.slot = sl ∧ (L2.start N vs)[i]? = some (some v) ∧ (match a with | .d x => Rp F v x | .tok => v = .ref B.p) := by
    intro i sl h
    by_cases hi : i < as.length
    · rw [List.getElem?_append_left (by simpa using hi), List.getElem?_map] at h
      obtain ⟨a, h1, h2⟩ := Option.map_eq_some_iff.mp h
      obtain ⟨v, h3, h4⟩ := r.at i a h1
      refine .inr ⟨a, v, h1, h2, ?_, h4⟩
      unfold L2.start
      rw [List.getElem?_append_left (by rw [List.length_map, r.len]; exact hi), List.getElem?_map, h3]
      rfl
    · rw [List.getElem?_append_right (by simpa using hi), List.getElem?_replicate] at h
      split at h
      · cases h; exact .inl rfl
      · cases h
  refine ⟨Ext.refl hx, fun _ _ _ h => h, sto, off, ?_, fun i d h => ?_, fun i h => ?_, fun i xs h => ?_, fun i j xs ys p h => ?_, fun i x h => ?_⟩
  · unfold L2.start
    simp [r.len]
  · rcases look i _ h with h | ⟨a, v, h1, h2, h3, h4⟩
    · cases h
    · cases a with
      | d x => cases h2; exact ⟨v, h3, h4⟩
      | tok => cases h2
  · rcases look i _ h with h | ⟨a, v, h1, h2, h3, h4⟩
    · cases h
    · cases a with
      | d x => cases h2
      | tok => rw [h3, show v = V.ref B.p from h4]
  · rcases look i _ h with h | ⟨a, v, h1, h2, h3, h4⟩
    · cases h
    · cases a <;> cases h2
  · rcases look i _ h with h | ⟨a, v, h1, h2, h3, h4⟩
    · cases h
    · cases a <;> cases h2
  · rcases look i _ h with h | ⟨a, v, h1, h2, h3, h4⟩
    · cases h
    · cases a <;> cases h2
abbrev wE (E : XK) : WX := fun c d _ H => E c d H
theorem fn_mi {Pg : Program} {w : World} {K : PySem.W.Frag} {mg : Str → Option Value} {base : Heap} {x qual : Str} {st : Stmt} {f : Addr} {fd : FuncData} {N ps : List Str} {k : Nat} (Fu : Fun K x qual st f fd) (S : FnScope N ps (defScope st)) (B : Amb) (m : M B.S Fl)
    (hb : ∀ (cdv : Value) (A : Around) (outer : List PySem.Env) (s : Shared) (H : Hp) (E : XK) (F0 : Hp), Room k (cxOf (L2.CX Pg w) Pg w K mg base N qual (defScope st) f cdv A outer s H E).A →
      Takes (cxOf (L2.CX Pg w) Pg w K mg base N qual (defScope st) f cdv A outer s H E) (wE E) →
      PassesOwn (model Pg w) (cxOf (L2.CX Pg w) Pg w K mg base N qual (defScope st) f cdv A outer s H E).A (cxOf (L2.CX Pg w) Pg w K mg base N qual (defScope st) f cdv A outer s H E).env (cxOf (L2.CX Pg w) Pg w K mg base N qual (defScope st) f cdv A outer s H E).xe →
      XSs ⟨K, mg, B, F0, H, 0, .none, none⟩ (cxOf (L2.CX Pg w) Pg w K mg base N qual (defScope st) f cdv A outer s H E) (wE E) (defBody st) m) :
    FnOk Pg w K mg base (L2.CX Pg w) (k + 1) f fd ps (spM mg B ps.length (fnOf N.length m)) := by
  refine Fu.okX S (fun vs H Q E h => h.1) fun cdv A outer s H vs Q E hr h => ?_
  obtain ⟨hl, F0, as, s0, hx, off, sto, ra, h⟩ := h
  refine ⟨_, hb cdv A outer s H E F0 hr (takes_of rfl rfl rfl rfl) (passes_of rfl), F0, _, start_ok hx off sto ra, ?_⟩
  unfold fnOf at h
  have fin : ∀ {e : En B.S} {σ1 : St} {F1 H1 : Hp}, EOk ⟨K, mg, B, F0, H, 0, .none, none⟩ e σ1 F1 H1 → Pst B e.st F0 H F1 H1 := fun k => ⟨k.ext, k.fra, k.sto, k.off⟩
  cases q : m ⟨as.map Arg.slot ++ List.replicate (N.length - as.length) .un, s0⟩ with
  | stuck => rw [q] at h; exact h
  | err y e => rw [q] at h; exact fun c d σ1 F1 H1 k x r => h F1 H1 (fin k) c d r
  | ok fl e =>
    rw [q] at h
    cases fl with
    | nx => exact fun σ1 F1 H1 k x => h F1 H1 (fin k) _ .non
    | bk => exact h.elim
    | ct => exact h.elim
    | ret r =>
      cases r with
      | sh d => exact fun σ1 F1 H1 k x v rv => h F1 H1 (fin k) v rv
      | fr xs => exact fun σ1 F1 H1 k x p vs => h F1 H1 (fin k) p vs

theorem EOk.called (k : EOk P e σ F H) {s1 : P.B.S} (p : Pst P.B s1 F H F1 H1) : EOk P { e with st := s1 } σ F1 H1 ∧ Step P e { e with st := s1 } σ F H F1 H1 := by
  have kn : ∀ {a : Addr} {o : HO}, F a = none → H a = some o → F1 a = none := fun {a o} h1 h2 => by
    cases z : F1 a with
    | none => rfl
    | some w =>
      rcases p.ext.nw a w z with ⟨u, q⟩ | q
      · rw [h1] at q; cases q
      · rw [h2] at q; cases q
  refine ⟨⟨k.ext.trans p.ext, fun a o h1 h2 => p.fr a o h1 (k.fra a o h1 h2), p.sto, p.off, k.len, fun i d h => ?_, k.tok, fun i xs h => ?_, k.sep, fun i y h => ?_⟩,
    ⟨p.ext.ff, fun a o h => (p.ext.nw a o h).elim .inl fun q => .inr (.inl q), p.ext.kp, fun _ h => h, fun a o h1 _ h => p.fr a o h1 h⟩⟩
  · obtain ⟨v, q1, q2⟩ := k.sh i d h
    exact ⟨v, q1, p.ext.ff.dp _ _ q2⟩
  · obtain ⟨r, vs, q1, q2, q3, q4, q5, q6⟩ := k.ow i xs h
    exact ⟨r, vs, q1, p.fr _ _ q5 q2, kn q3 q2, q4, q5, OdR.mono p.ext.ff q6⟩
  · obtain ⟨q1, q2⟩ := k.ex i y h
    exact ⟨q1, q2.mono p.ext.ff⟩
def outV {S : Type} (o : FO S) (e : En S) : Out S Mi.D := match o with
  | .val r s1 => .ok r.d { e with st := s1 }
  | .exc x s1 => .err x { e with st := s1 }
  | .stuck => .stuck
def outF {S : Type} (o : FO S) (e : En S) : Out S (List Mi.D) := match o with
  | .val (.fr xs) s1 => .ok xs { e with st := s1 }
  | .val (.sh _) s1 => .stuck
  | .exc x s1 => .err x { e with st := s1 }
  | .stuck => .stuck
def mCall {S : Type} (n : Nat) (fn : List Arg → S → FO S) (g : M S (List Arg)) : M S Mi.D := bnd g fun as e => if as.length = n then outV (fn as e.st) e else .stuck
def mCallF {S : Type} (n : Nat) (fn : List Arg → S → FO S) (g : M S (List Arg)) : M S (List Mi.D) := bnd g fun as e => if as.length = n then outF (fn as e.st) e else .stuck
theorem im_exc {as : List Arg} {fn : List Arg → P.B.S → FO P.B.S} {x : Er} {s1 : P.B.S} {G : α → En P.B.S → Hp → Hp → Prop} (k : EOk P e σ F H) (h : Sat P W e σ F H (.err x { e with st := s1 } : Out P.B.S α) G) :
    ∀ F1 H1, Pst P.B s1 F H F1 H1 → ∀ c d, ErOk P.mg F1 c d x → W c d σ H1 := fun F1 H1 p c d r => h c d F1 H1 (k.called p).1 p.ext.ff r
theorem im_call {as : List Arg} {fn : List Arg → P.B.S → FO P.B.S} {Q : VK} {vs : List V} {n : Nat} (k : EOk P e σ F H) (r : ArgsOk P.B F vs as) (hl : vs.length = n)
    (h : Sat P W e σ F H (outV (fn as e.st) e) fun d _ F1 H1 => ∀ v, Rp F1 v d → Q v H1) : spM P.mg P.B n fn vs H Q (WE W σ) := by
  refine ⟨hl, F, as, e.st, k.ext.fh, k.off, k.sto, r, ?_⟩
  cases q : fn as e.st with
  | stuck => rw [q] at h; exact h.elim
  | exc x s1 => rw [q] at h; exact im_exc (as := as) (fn := fn) k h
  | val r s1 =>
    rw [q] at h
    cases r with
    | sh d => exact fun F1 H1 p v rv => h F1 H1 (k.called p).1 (k.called p).2 v rv
    | fr xs =>
      intro F1 H1 p r vs g1 g2 g3 g4
      obtain ⟨kF, kH0, kO, kW⟩ := k.fresh g1
      obtain ⟨k1, s1'⟩ := k.called p
      have nw : ¬ Ow { e with st := s1 } σ r := fun z => kW (s1'.ow r z)
      have k2 := k1.freeze g2 kH0 kO nw g3
      refine h (upd F1 r (.lst vs)) H1 k2 ⟨s1'.ff.trans (Ex.new g3), fun a o z => ?_, s1'.kp, s1'.ow, s1'.fr⟩ _ (.lst upd_same ((Ex.new g3).dpa _ _ g4))
      by_cases y : a = r
      · subst y; exact .inr (.inl g1)
      · rw [upd_ne y] at z; exact s1'.nw a o z
theorem im_callF {as : List Arg} {fn : List Arg → P.B.S → FO P.B.S} {Q : VK} {vs : List V} {n : Nat} {Hs : Hp} (k : EOk P e σ F H) (r : ArgsOk P.B F vs as) (hl : vs.length = n) (hH : ∀ a, H a = none → Hs a = none)
    (h : Sat P W e σ F H (outF (fn as e.st) e) fun xs _ F1 H1 => ∀ p vs, Hs p = none → H1 p = some (.lst vs) → F1 p = none → RpA F1 vs xs → Q (.ref p) H1) : spM P.mg P.B n fn vs H Q (WE W σ) := by
  refine ⟨hl, F, as, e.st, k.ext.fh, k.off, k.sto, r, ?_⟩
  cases q : fn as e.st with
  | stuck => rw [q] at h; exact h.elim
  | exc x s1 => rw [q] at h; exact im_exc (as := as) (fn := fn) k h
  | val r s1 =>
    rw [q] at h
    cases r with
    | sh d => exact h.elim
    | fr xs => exact fun F1 H1 p r vs g1 g2 g3 g4 => h F1 H1 (k.called p).1 (k.called p).2 r vs (hH _ g1) g2 g3 g4
/-- a def that knows nothing of the thing beside the frames -/
def B0 : Amb := ⟨Unit, fun _ _ => True, [], 0, fun _ _ _ _ h => h, fun _ _ _ _ h => nomatch h⟩
def noTok : List Arg → Bool
  | [] => true
  | .d _ :: as => noTok as
  | .tok :: _ => false
theorem ArgsOk.b0 {B : Amb} {vs : List V} {as : List Arg} (h : ArgsOk B F vs as) (q : noTok as = true) : ArgsOk B0 F vs as := by
  induction h with
  | nil => exact .nil
  | d r _ ih => exact .d r (ih q)
  | tok _ _ => cases q
def lift {S : Type} (fn : List Arg → Unit → FO Unit) : List Arg → S → FO S := fun as s => if noTok as = true then (match fn as () with
  | .val r _ => .val r s
  | .exc x _ => .exc x s
  | .stuck => .stuck) else .stuck
theorem FnOk.lift {Pg : Program} {w : World} {K : PySem.W.Frag} {mg : Str → Option Value} {base : Heap} {CX : CXT} {k : Nat} {f : Addr} {fd : FuncData} {ps : List Str} {n : Nat} {fn : List Arg → Unit → FO Unit} (h : FnOk Pg w K mg base CX k f fd ps (spM mg B0 n fn)) (B : Amb) :
    FnOk Pg w K mg base CX k f fd ps (spM mg B n (lift fn)) := by
  refine h.imp fun vs H Q E ⟨hl, F, as, s, hx, off, sto, r, q⟩ => ?_
  unfold Mi.lift at q
  by_cases ht : noTok as = true
  · rw [if_pos ht] at q
    have up : ∀ {F1 H1 : Hp}, Pst B0 () F H F1 H1 → Pst B s F H F1 H1 := fun {F1 H1} p => by
      refine ⟨p.ext, fun a o _ h => p.fr a o (fun z => nomatch z) h, B.loc _ _ _ (fun a o _ h => p.fr a o (fun z => nomatch z) h) sto, fun a ha => ?_⟩
      obtain ⟨o, ho⟩ := B.dom _ _ sto a ha
      cases z : F1 a with
      | none => rfl
      | some u =>
        rcases p.ext.nw a u z with ⟨y, g⟩ | g
        · rw [off a ha] at g; cases g
        · rw [ho] at g; cases g
    refine ⟨hl, F, as, (), hx, fun _ z => (nomatch z), trivial, r.b0 ht, ?_⟩
    cases y : fn as () with
    | stuck => rw [y] at q; exact q
    | exc x s1 => rw [y] at q; exact fun F1 H1 p => q F1 H1 (up p)
    | val r s1 =>
      rw [y] at q
      cases r with
      | sh d => exact fun F1 H1 p => q F1 H1 (up p)
      | fr xs => exact fun F1 H1 p => q F1 H1 (up p)
  · rw [if_neg ht] at q; exact q.elim
section
variable {k : Nat} {f : Addr} {fd : FuncData} {ps : List Str} {x : Str} {p : Pos} {a : Expr} {es : List Expr}
theorem x_call {n : Nat} {fn : List Arg → P.B.S → FO P.B.S} {g : M P.B.S (List Arg)} (Fk : FnOk X.prog X.w X.K X.mg X.base (L2.CX X.prog X.w) k f fd ps (spM P.mg P.B ps.length fn)) (hr : Room k X.A) (hm : X.mg x = some (.ref f)) (hk : PySem.W.keepIn X.K (.ref f) = true) (hb : Binds X.K fd ps []) (tk : Takes X W)
    (ha : XA P X W (a :: es) g) (hg : Gl X x := by rfl) (hdb : (x == ("__debug__" : Str)) = false := by decide) (he : starEach (a :: es) X.env = (false, eval a X.env) :: starEach es X.env := by rfl) (hpl : (backTo pos (starEach es X.env)).any (·.1) = false := by rfl) (hn : ps.length = n := by rfl) :
    XE P X W (.Call (.Name x p) (a :: es) [] pos) (mCall n fn g) :=
  pe_imp (pe_callS Fk hr hg hm hk hb (fun σ => passAt tk σ) ha hdb he hpl) fun σ H Q ⟨F, e, k, h⟩ => tA_of k h fun as e1 F1 H1 vs k1 s1 r1 h1 => by
    subst hn
    by_cases hl : as.length = ps.length
    · rw [if_pos hl] at h1; exact im_call k1 r1 (r1.len.trans hl) h1
    · rw [if_neg hl] at h1; exact h1.elim
theorem f_call {n : Nat} {fn : List Arg → P.B.S → FO P.B.S} {g : M P.B.S (List Arg)} (Fk : FnOk X.prog X.w X.K X.mg X.base (L2.CX X.prog X.w) k f fd ps (spM P.mg P.B ps.length fn)) (hr : Room k X.A) (hm : X.mg x = some (.ref f)) (hk : PySem.W.keepIn X.K (.ref f) = true) (hb : Binds X.K fd ps []) (tk : Takes X W)
    (ha : XA P X W (a :: es) g) (hg : Gl X x := by rfl) (hdb : (x == ("__debug__" : Str)) = false := by decide) (he : starEach (a :: es) X.env = (false, eval a X.env) :: starEach es X.env := by rfl) (hpl : (backTo pos (starEach es X.env)).any (·.1) = false := by rfl) (hn : ps.length = n := by rfl) :
    XF P X W (.Call (.Name x p) (a :: es) [] pos) (mCallF n fn g) :=
  pe_imp (pe_callS Fk hr hg hm hk hb (fun σ => passAt tk σ) ha hdb he hpl) fun σ H Q ⟨F, e, k, h⟩ => tA_of k h fun as e1 F1 H1 vs k1 s1 r1 h1 => by
    subst hn
    by_cases hl : as.length = ps.length
    · rw [if_pos hl] at h1; exact im_callF k1 r1 (r1.len.trans hl) (fun a z => s1.non z) h1
    · rw [if_neg hl] at h1; exact h1.elim
end
end
end Mi
set_option maxHeartbeats 4000000
namespace Mi
open PySem PySem.Spec PyProof.Rows L2

/-! several clauses, each with or without a name for what it holds -/
structure Hd where
  c : Value
  i : Option Nat
  ts : Addr → Value → Option Addr → TS
def Hd.σ (h : Hd) (a : Addr) (σ : St) : St := match h.i with
  | some j => σ.set j (some (.ref a))
  | none => σ
def Hd.D (h : Hd) (D : Ends) : Ends := match h.i with
  | some j => { nx := fun σ H => D.nx (σ.set j none) H, rt := D.rt, bk := fun σ H => D.bk (σ.set j none) H, ct := fun σ H => D.ct (σ.set j none) H }
  | none => D
def wHds (K : PySem.W.Frag) (Wo : WX) (D : Ends) : List Hd → WX
  | [] => Wo
  | h :: r => fun cls d σ H => ∃ b, PySem.W.exmOne K cls h.c = some b ∧ (b = true → ∀ a, H a = none → h.ts a cls d (h.D D) (h.σ a σ) H) ∧ (b = false → wHds K Wo D r cls d σ H)
inductive HdsA (X : Cx) : List ExceptHandler → List Hd → Prop
  | nil : HdsA X [] []
  | plain {x : Str} {c : Value} {ts : Addr → Value → Option Addr → TS} {b₀ : Stmt} {su : List Stmt} {np p2 : Pos} {hds : List ExceptHandler} {l : List Hd} (hc : Names X x c)
      (hsu : ∀ (a : Addr) (oe : Obj) (cls : Value) (d : Option Addr) (pn : List (Addr × Obj)), Zc cls d oe → (∃ vs, oe.data = .fields vs) → PSs (X.suite a ((a, oe) :: pn)) (b₀ :: su) (ts a cls d)) (r : HdsA X hds l) :
      HdsA X (.ExceptHandler (some (.Name x np)) none (b₀ :: su) p2 :: hds) (⟨c, none, ts⟩ :: l)
  | named {x n : Str} {i : Nat} {c : Value} {ts : Addr → Value → Option Addr → TS} {b₀ : Stmt} {su : List Stmt} {np p2 : Pos} {hds : List ExceptHandler} {l : List Hd} (hc : Names X x c) (hi : X.N[i]? = some n) (hl : X.env.kindOf n = some .local)
      (hsu : ∀ (a : Addr) (oe : Obj) (cls : Value) (d : Option Addr) (pn : List (Addr × Obj)), Zc cls d oe → (∃ vs, oe.data = .fields vs) → PSs (X.suite a ((a, oe) :: pn)) (b₀ :: su) (ts a cls d)) (r : HdsA X hds l) :
      HdsA X (.ExceptHandler (some (.Name x np)) (some n) (b₀ :: su) p2 :: hds) (⟨c, some i, ts⟩ :: l)
section
variable {X : Cx} {body : List Stmt} {h₀ : ExceptHandler} {hds : List ExceptHandler} {l : List Hd} {pos : Pos} {tb : WX → TS} {Wo : WX}
theorem ps_try_hds (hN : X.N.Nodup) (hs : X.stack = X.env :: X.outer) (hf : X.env.frame = some X.env.locals) (tk : Takes X Wo)
    (hb : ∀ (W : WX) (pn : List (Addr × Obj)) (xe : Value → Shared → Prop), Takes (X.tr pn xe) W → PassesOwn (model X.prog X.w) X.A X.env xe → PSs (X.tr pn xe) body (tb W))
    (hh : HdsA X (h₀ :: hds) l) : PS X (.Try body (h₀ :: hds) [] [] pos) (fun D σ H => tb (wHds X.K Wo D l) D σ H) := by
  refine ⟨fun pins s σ H D I h => ?_⟩
  have okX := I.ok
  have frm : X.A.frames = some (X.env :: X.outer) := by rw [okX.frames, hs]
  refine wpAny_Try_except ?_
  let after : Value → Shared → Prop := fun e u1 => wpAny (model X.prog X.w) X.A (noteFrame e X.env) (fun _ u2 => wpAny (model X.prog X.w) X.A (setFlight e none) (fun _ u3 =>
    wpAny (model X.prog X.w) X.A (handleBy e X.env (h₀ :: hds)) (SP X pins D) X.xe u3) X.xe u2) X.xe u1
  have tkB : Takes (X.tr (X.pn ++ pins) after) (wHds X.K Wo D l) := by
    intro u t xx
    obtain ⟨a, B, tI, pins2, σ2, H2, cls, d, rfl, J2, nb, up, sky, na, os, ag, w⟩ := xx
    have J : Inv X pins σ2 H2 tI := J2.ofTry okX
    have sky2 : Sky B (X.env :: X.outer) a (Zc cls d) X.env.locals t.heap := by rw [← hs]; exact sky
    show wpAny (model X.prog X.w) X.A (noteFrame (.ref a) X.env) _ _ _
    refine Sky.land Zc.steady frm hf sky2 fun g3 fl3 up3 => ?_
    have J3 : Inv X pins σ2 H2 { t with heap := g3 } := J.landed nb fl3.1 (up.trans up3) os ag
    obtain ⟨o3, vs3, he3, hz3, hd3⟩ := fl3.there
    have nfr : a ∉ frs (X.env :: X.outer) := fun hm => by
      obtain ⟨_, o', e', hnf⟩ := fl3.2.2.1.mem hm
      rw [he3] at e'; cases e'
      exact hnf _ hd3
    have nL : a ≠ X.env.locals := fun z => nfr (List.mem_filterMap.mpr ⟨X.env, List.mem_cons_self, by rw [hf, z]⟩)
    have nF : a ∉ X.fs := fun hm => by
      obtain ⟨e, he, q⟩ := List.mem_filterMap.mp hm
      exact nfr (List.mem_filterMap.mpr ⟨e, List.mem_cons_of_mem _ he, q⟩)
    have S3 := J3.suite he3 hd3 na nL nF
    have LT : PySem.W.Looks (model X.prog X.w) g3 (typeOf (.ref a)) cls := fun A Q E s k q => wpAny_typeOf_ref (k _ _ he3) (by rw [hz3.1]; exact q)
    have named : ∀ {x : Str} {np : Pos} {c : Value}, Names X x c → ∀ {Q : Value → Shared → Prop} {E : Value → Shared → Prop}, Q c { t with heap := g3 } →
        wpAny (model X.prog X.w) (X.A.mark (some (.ref a))) (eval (.Name x np) X.env) Q E { t with heap := g3 } := fun {x np c} hc {Q E} q => by
      obtain ⟨hg, hdbg, hm | ⟨hm, hv, hnn⟩⟩ := hc
      · exact ld_glob (X := X.suite a ((a, o3) :: (X.pn ++ pins))) S3 hg hm q hdbg
      · exact ld_blt (X := X.suite a ((a, o3) :: (X.pn ++ pins))) S3 hg hm hv q hnn hdbg
    have go : ∀ {hs2 : List ExceptHandler} {l2 : List Hd}, HdsA X hs2 l2 → wHds X.K Wo D l2 cls d σ2 H2 → wpAny (model X.prog X.w) X.A (handleBy (.ref a) X.env hs2) (SP X pins D) X.xe { t with heap := g3 } := by
      intro hs2 l2 hk
      induction hk with
      | nil =>
        intro w
        refine wpAny_handleBy_nil ?_
        obtain ⟨k1, k2, k3, oe, vs, T, oT, ts', he, hz, hd, h1, hr⟩ := id fl3
        unfold PySem.passOn
        refine wpAny_bind (wpAny_field he hd h1 ?_)
        rw [if_neg (show ¬ ((Value.ref T == Value.none) = true) from by simp)]
        have fin : wpAny (model X.prog X.w) X.A (setFlight (.ref a) X.env.frame) (fun _ u4 => wpAny (model X.prog X.w) X.A (throw (.ref a) : Sem Flow) (SP X pins D) X.xe u4) X.xe { t with heap := g3 } := by
          rw [hf]
          refine HandSPX.setFlight_upZ fl3 fun g4 hh4 up4 => wpAny_throw (tk _ _ ?_)
          exact ⟨a, B, tI, pins, σ2, H2, cls, d, rfl, J, nb, (up.trans up3).trans up4, .inr (.inr (by rw [hs]; exact hh4)), na, os, ag, w⟩
        first
          | exact wpAny_bind (wpAny_pure (wpAny_bind fin))
          | exact wpAny_bind fin
      | @plain x c ts b₀ su np p2 hds2 l2 hc hsu r ih =>
        intro w
        obtain ⟨b, hb1, hyes, hno⟩ := w
        refine wpAny_handleBy_cons (codeAny_handlers_test ?_) (by intro q; cases q)
        refine named hc ((PySem.W.exm_one (M := model X.prog X.w) J3.kIn LT hb1).here ?_)
        cases b with
        | true =>
          refine codeAny_handlers_suite ?_
          refine HandSPX.lands_againZ fl3 fun g4 fl4 up4 => ?_
          have J4 : Inv X pins σ2 H2 { t with heap := g4 } := J.landed nb fl4.1 ((up.trans up3).trans up4) os ag
          obtain ⟨o4, vs4, he4, hz4, hd4⟩ := fl4.there
          have S4 := J4.suite he4 hd4 na nL nF
          refine wpAny_mono ((hsu a o4 cls d (X.pn ++ pins) hz4 ⟨_, hd4⟩).run [] _ _ H2 _ S4 (hyes rfl a na)) (fun f u6 hsp => ?_) (fun _ _ z => False.elim z)
          cases f with
          | next => obtain ⟨σ6, H6, S6, q6⟩ := hsp; exact ⟨_, _, S6.unsuite okX, q6⟩
          | brk => obtain ⟨σ6, H6, S6, q6⟩ := hsp; exact ⟨_, _, S6.unsuite okX, q6⟩
          | cont => obtain ⟨σ6, H6, S6, q6⟩ := hsp; exact ⟨_, _, S6.unsuite okX, q6⟩
          | ret u => obtain ⟨v6, σ6, H6, S6, r6, q6⟩ := hsp; exact ⟨_, _, _, S6.unsuite okX, r6, q6⟩
        | false =>
          show wpAny _ X.A (handleBy (.ref a) X.env hds2) _ _ _
          exact ih (hno rfl)
      | @named x n i c ts b₀ su np p2 hds2 l2 hc hi hl hsu r ih =>
        intro w
        obtain ⟨b, hb1, hyes, hno⟩ := w
        refine wpAny_handleBy_cons (codeAny_handlers_test ?_) (by intro q; cases q)
        refine named hc ((PySem.W.exm_one (M := model X.prog X.w) J3.kIn LT hb1).here ?_)
        cases b with
        | true =>
          refine codeAny_handlers_suite_as ?_
          refine HandSPX.lands_againZ fl3 fun g4 fl4 up4 => ?_
          have J4 : Inv X pins σ2 H2 { t with heap := g4 } := J.landed nb fl4.1 ((up.trans up3).trans up4) os ag
          obtain ⟨o4, vs4, he4, hz4, hd4⟩ := fl4.there
          have S4 := J4.suite he4 hd4 na nL nF
          refine store_ok (X := X.suite a ((a, o4) :: (X.pn ++ pins))) (v := .ref a) S4 hN hi (.inl hl) rfl (fun u5 S5 => ?_) (.inr hl)
          refine wpAny_mono ((hsu a o4 cls d (X.pn ++ pins) hz4 ⟨_, hd4⟩).run [] u5 _ H2 _ S5 (hyes rfl a na)) (fun f u6 hsp => ?_) (fun _ _ z => False.elim z)
          have gone : ∀ {σ6 : St} {H6 : Hp} {Q : Shared → Prop}, Inv (X.suite a ((a, o4) :: (X.pn ++ pins))) [] σ6 H6 u6 → (∀ u7, Inv X pins (σ6.set i none) H6 u7 → Q u7) →
              wpAny (model X.prog X.w) X.A (do bindName X.env n .none; unbindBehindTheSuite X.env n p2) (fun _ u7 => Q u7) X.xe u6 := fun {σ6 H6 Q} S6 hq => gone_ok (S6.unsuite okX) hN hi hl hq
          cases f with
          | next => obtain ⟨σ6, H6, S6, q6⟩ := hsp; exact gone S6 fun u7 J7 => ⟨_, _, J7, q6⟩
          | brk => obtain ⟨σ6, H6, S6, q6⟩ := hsp; exact gone S6 fun u7 J7 => ⟨_, _, J7, q6⟩
          | cont => obtain ⟨σ6, H6, S6, q6⟩ := hsp; exact gone S6 fun u7 J7 => ⟨_, _, J7, q6⟩
          | ret u => obtain ⟨v6, σ6, H6, S6, r6, q6⟩ := hsp; exact gone S6 fun u7 J7 => ⟨_, _, _, J7, r6, q6⟩
        | false =>
          show wpAny _ X.A (handleBy (.ref a) X.env hds2) _ _ _
          exact ih (hno rfl)
    exact go hh w
  refine wpAny_mono ((hb (wHds X.K Wo D l) (X.pn ++ pins) after tkB PassesOwn.looking).run [] s σ H D (I.toTry _) h) (fun f u1 hsp => ?_) (fun e u1 he => he)
  cases f with
  | next => obtain ⟨σ2, H2, J2, q⟩ := hsp; exact wpAny_execs_nil ⟨σ2, H2, J2.ofTry okX, q⟩
  | brk => obtain ⟨σ2, H2, J2, q⟩ := hsp; exact ⟨σ2, H2, J2.ofTry okX, q⟩
  | cont => obtain ⟨σ2, H2, J2, q⟩ := hsp; exact ⟨σ2, H2, J2.ofTry okX, q⟩
  | ret u => obtain ⟨v, σ2, H2, J2, r, q⟩ := hsp; exact ⟨v, σ2, H2, J2.ofTry okX, r, q⟩
end

section
variable {P : Pm} {X : Cx} {W : WX} {α β : Type} {e e1 : En P.B.S} {σ : St} {F H F1 H1 : Hp} {pos : Pos} {D : Ends}

/-! the mirror of try -/
def noEx : List Slot → Bool
  | [] => true
  | .ex _ :: _ => false
  | .un :: r => noEx r
  | .sh _ :: r => noEx r
  | .ob _ :: r => noEx r
  | .tok :: r => noEx r
theorem noEx_at : ∀ {l : List Slot}, noEx l = true → ∀ (i : Nat) (x : Er), l[i]? ≠ some (.ex x)
  | [], _, i, x, h => by simp at h
  | .ex _ :: _, h, _, _, _ => by cases h
  | s :: r, h, 0, x, q => by
    simp at q
    subst q
    cases h
  | .un :: r, h, i + 1, x, q => noEx_at (l := r) h i x (by simpa using q)
  | .sh _ :: r, h, i + 1, x, q => noEx_at (l := r) h i x (by simpa using q)
  | .ob _ :: r, h, i + 1, x, q => noEx_at (l := r) h i x (by simpa using q)
  | .tok :: r, h, i + 1, x, q => noEx_at (l := r) h i x (by simpa using q)
abbrev Pm.at (P : Pm) (a : Addr) (c : Value) (d : Option Addr) : Pm := { P with xa := a, xc := c, xd := d }
theorem EOk.re (k : EOk P e σ F H) (h : noEx e.sl = true) (a : Addr) (c : Value) (d : Option Addr) : EOk (P.at a c d) e σ F H :=
  ⟨k.ext, k.fra, k.sto, k.off, k.len, k.sh, k.tok, k.ow, k.sep, fun i x q => (noEx_at h i x q).elim⟩
theorem EOk.un_re {a : Addr} {c : Value} {d : Option Addr} (k : EOk (P.at a c d) e σ F H) (h : noEx e.sl = true) : EOk P e σ F H :=
  ⟨k.ext, k.fra, k.sto, k.off, k.len, k.sh, k.tok, k.ow, k.sep, fun i x q => (noEx_at h i x q).elim⟩
structure Hm (S : Type) where
  c : Str
  i : Option Nat
  m : M S Fl
def Hm.In {S : Type} (h : Hm S) (x : Er) (e : En S) : En S := match h.i with
  | some j => { e with sl := e.sl.set j (.ex x) }
  | none => e
def Hm.Un {S : Type} (h : Hm S) (e : En S) : En S := match h.i with
  | some j => { e with sl := e.sl.set j .un }
  | none => e
def hend {S : Type} (h : Hm S) (o : Out S Fl) : Out S Fl := match o with
  | .ok fl e1 => if noEx (h.Un e1).sl = true then .ok fl (h.Un e1) else .stuck
  | _ => .stuck
/-- which class is caught by which clause -/
def hgo {S : Type} (sub : Str → Str → Option Bool) : List (Hm S) → Er → En S → Out S Fl
  | [], x, e => .err x e
  | h :: r, x, e => match sub x.cls h.c with
    | some true => hend h (h.m (h.In x e))
    | some false => hgo sub r x e
    | none => .stuck
def mTry {S : Type} (sub : Str → Str → Option Bool) (b : M S Fl) (l : List (Hm S)) : M S Fl := fun e => match b e with
  | .err x e1 => if noEx e1.sl = true then hgo sub l x e1 else .stuck
  | .ok fl e1 => .ok fl e1
  | .stuck => .stuck
def WF : WX := fun _ _ _ _ => False
inductive HdsM (P : Pm) (X : Cx) (sub : Str → Str → Option Bool) : List ExceptHandler → List (Hm P.B.S) → List Hd → Prop
  | nil : HdsM P X sub [] [] []
  | plain {x : Str} {c : Value} {m : M P.B.S Fl} {b₀ : Stmt} {su : List Stmt} {np p2 : Pos} {hds : List ExceptHandler} {l : List (Hm P.B.S)} {l2 : List Hd} (hc : Names X x c)
      (hx : ∀ n cls b, sub n x = some b → P.mg n = some cls → PySem.W.exmOne X.K cls c = some b)
      (hsu : ∀ (a : Addr) (oe : Obj) (cls : Value) (d : Option Addr) (pn : List (Addr × Obj)), Zc cls d oe → (∃ vs, oe.data = .fields vs) → XSs (P.at a cls d) (X.suite a ((a, oe) :: pn)) WF (b₀ :: su) m) (r : HdsM P X sub hds l l2) :
      HdsM P X sub (.ExceptHandler (some (.Name x np)) none (b₀ :: su) p2 :: hds) (⟨x, none, m⟩ :: l) (⟨c, none, fun a cls d => tS (P.at a cls d) WF m⟩ :: l2)
  | named {x n : Str} {i : Nat} {c : Value} {m : M P.B.S Fl} {b₀ : Stmt} {su : List Stmt} {np p2 : Pos} {hds : List ExceptHandler} {l : List (Hm P.B.S)} {l2 : List Hd} (hc : Names X x c) (hi : X.N[i]? = some n) (hl : X.env.kindOf n = some .local)
      (hx : ∀ n cls b, sub n x = some b → P.mg n = some cls → PySem.W.exmOne X.K cls c = some b)
      (hsu : ∀ (a : Addr) (oe : Obj) (cls : Value) (d : Option Addr) (pn : List (Addr × Obj)), Zc cls d oe → (∃ vs, oe.data = .fields vs) → XSs (P.at a cls d) (X.suite a ((a, oe) :: pn)) WF (b₀ :: su) m) (r : HdsM P X sub hds l l2) :
      HdsM P X sub (.ExceptHandler (some (.Name x np)) (some n) (b₀ :: su) p2 :: hds) (⟨x, some i, m⟩ :: l) (⟨c, some i, fun a cls d => tS (P.at a cls d) WF m⟩ :: l2)
theorem HdsM.a {sub : Str → Str → Option Bool} {hs : List ExceptHandler} {l : List (Hm P.B.S)} {l2 : List Hd} (h : HdsM P X sub hs l l2) : HdsA X hs l2 := by
  induction h with
  | nil => exact .nil
  | plain hc hx hsu _ ih => exact .plain hc (fun a oe cls d pn h1 h2 => hsu a oe cls d pn h1 h2) ih
  | named hc hi hl hx hsu _ ih => exact .named hc hi hl (fun a oe cls d pn h1 h2 => hsu a oe cls d pn h1 h2) ih
theorem EOk.putX {i : Nat} {a : Addr} {c : Value} {d : Option Addr} {x : Er} (k : EOk (P.at a c d) e σ F H) (r : ErOk P.mg F c d x) : EOk (P.at a c d) { e with sl := e.sl.set i (.ex x) } (σ.set i (some (.ref a))) F H := by
  refine ⟨k.ext, k.fra, k.sto, k.off, by simpa using k.len, fun j d2 h => ?_, fun j h => ?_, fun j xs h => ?_, fun j j' xs ys p h h' g g' => ?_, fun j x h => ?_⟩
  · rcases lget_set h with ⟨rfl, z⟩ | ⟨ne, z⟩
    · cases z
    · rw [List.getElem?_set_ne (Ne.symm ne)]; exact k.sh j d2 z
  · rcases lget_set h with ⟨rfl, z⟩ | ⟨ne, z⟩
    · cases z
    · rw [List.getElem?_set_ne (Ne.symm ne)]; exact k.tok j z
  · rcases lget_set h with ⟨rfl, z⟩ | ⟨ne, z⟩
    · cases z
    · rw [List.getElem?_set_ne (Ne.symm ne)]; exact k.ow j xs z
  · rcases lget_set h with ⟨rfl, z⟩ | ⟨ne, z⟩
    · cases z
    · rcases lget_set h' with ⟨rfl, z'⟩ | ⟨ne', z'⟩
      · cases z'
      · rw [List.getElem?_set_ne (Ne.symm ne)] at g
        rw [List.getElem?_set_ne (Ne.symm ne')] at g'
        exact k.sep j j' xs ys p z z' g g'
  · rcases lget_set h with ⟨rfl, z⟩ | ⟨ne, z⟩
    · cases z
      have hl : j < e.sl.length := by have := (List.getElem?_eq_some_iff.mp h).1; simpa using this
      exact ⟨List.getElem?_set_self (by rw [← k.len]; exact hl), r⟩
    · rw [List.getElem?_set_ne (Ne.symm ne)]; exact k.ex j x z
/-- a slot forgotten on both sides -/
theorem EOk.wipe {i : Nat} {v : Option V} (k : EOk P e σ F H) : EOk P { e with sl := e.sl.set i .un } (σ.set i v) F H := by
  refine ⟨k.ext, k.fra, k.sto, k.off, by simpa using k.len, fun j d2 h => ?_, fun j h => ?_, fun j xs h => ?_, fun j j' xs ys p h h' g g' => ?_, fun j x h => ?_⟩
  · rcases lget_set h with ⟨rfl, z⟩ | ⟨ne, z⟩
    · cases z
    · rw [List.getElem?_set_ne (Ne.symm ne)]; exact k.sh j d2 z
  · rcases lget_set h with ⟨rfl, z⟩ | ⟨ne, z⟩
    · cases z
    · rw [List.getElem?_set_ne (Ne.symm ne)]; exact k.tok j z
  · rcases lget_set h with ⟨rfl, z⟩ | ⟨ne, z⟩
    · cases z
    · rw [List.getElem?_set_ne (Ne.symm ne)]; exact k.ow j xs z
  · rcases lget_set h with ⟨rfl, z⟩ | ⟨ne, z⟩
    · cases z
    · rcases lget_set h' with ⟨rfl, z'⟩ | ⟨ne', z'⟩
      · cases z'
      · rw [List.getElem?_set_ne (Ne.symm ne)] at g
        rw [List.getElem?_set_ne (Ne.symm ne')] at g'
        exact k.sep j j' xs ys p z z' g g'
  · rcases lget_set h with ⟨rfl, z⟩ | ⟨ne, z⟩
    · cases z
    · rw [List.getElem?_set_ne (Ne.symm ne)]; exact k.ex j x z
theorem im_hds {sub : Str → Str → Option Bool} {hs : List ExceptHandler} {l : List (Hm P.B.S)} {l2 : List Hd} (hm : HdsM P X sub hs l l2) {er : Er} (he : noEx e.sl = true) (h : SatS P W F D (hgo sub l er e)) :
    ∀ c d σ1 F1 H1, EOk P e σ1 F1 H1 → Ex F F1 → ErOk P.mg F1 c d er → wHds X.K W D l2 c d σ1 H1 := by
  induction hm with
  | nil => exact h
  | @plain x c m b₀ su np p2 hds l l2 hc hx hsu _ ih =>
    intro cls d σ1 F1 H1 k ex r
    unfold hgo at h
    cases q : sub er.cls _ with
    | none => rw [q] at h; exact h.elim
    | some b =>
      rw [q] at h
      refine ⟨b, hx _ _ _ q r.1, fun hb a ha => ?_, fun hb => ?_⟩
      · subst hb
        dsimp only at h
        refine ⟨F1, e, k.re he a cls d, ?_⟩
        show SatS (P.at a cls d) WF F1 D (m e)
        change SatS P W F D (hend ⟨x, none, m⟩ (m e)) at h
        unfold hend at h
        cases y : m e with
        | stuck => rw [y] at h; exact h.elim
        | err _ _ => rw [y] at h; exact h.elim
        | ok fl e1 =>
          rw [y] at h
          dsimp only at h
          split at h
          · rename_i hn
            cases fl with
            | nx => exact fun σ2 F2 H2 k2 x2 => h σ2 F2 H2 (k2.un_re hn) (ex.trans x2)
            | bk => exact fun σ2 F2 H2 k2 x2 => h σ2 F2 H2 (k2.un_re hn) (ex.trans x2)
            | ct => exact fun σ2 F2 H2 k2 x2 => h σ2 F2 H2 (k2.un_re hn) (ex.trans x2)
            | ret rr =>
              cases rr with
              | sh dd => exact fun σ2 F2 H2 k2 x2 => h σ2 F2 H2 (k2.un_re hn) (ex.trans x2)
              | fr xs => exact fun σ2 F2 H2 k2 x2 => h σ2 F2 H2 (k2.un_re hn) (ex.trans x2)
          · exact h.elim
      · subst hb
        exact ih h cls d σ1 F1 H1 k ex r
  | @named x n i c m b₀ su np p2 hds l l2 hc hi hl hx hsu _ ih =>
    intro cls d σ1 F1 H1 k ex r
    unfold hgo at h
    cases q : sub er.cls _ with
    | none => rw [q] at h; exact h.elim
    | some b =>
      rw [q] at h
      refine ⟨b, hx _ _ _ q r.1, fun hb a ha => ?_, fun hb => ?_⟩
      · subst hb
        dsimp only at h
        refine ⟨F1, { e with sl := e.sl.set i (.ex er) }, (k.re he a cls d).putX r, ?_⟩
        show SatS (P.at a cls d) WF F1 (Hd.D ⟨c, some i, _⟩ D) (m { e with sl := e.sl.set i (.ex er) })
        change SatS P W F D (hend ⟨x, some i, m⟩ (m { e with sl := e.sl.set i (.ex er) })) at h
        unfold hend at h
        cases y : m { e with sl := e.sl.set i (.ex er) } with
        | stuck => rw [y] at h; exact h.elim
        | err _ _ => rw [y] at h; exact h.elim
        | ok fl e1 =>
          rw [y] at h
          dsimp only at h
          split at h
          · rename_i hn
            cases fl with
            | nx => exact fun σ2 F2 H2 k2 x2 => h _ F2 H2 (k2.wipe.un_re hn) (ex.trans x2)
            | bk => exact fun σ2 F2 H2 k2 x2 => h _ F2 H2 (k2.wipe.un_re hn) (ex.trans x2)
            | ct => exact fun σ2 F2 H2 k2 x2 => h _ F2 H2 (k2.wipe.un_re hn) (ex.trans x2)
            | ret rr =>
              cases rr with
              | sh dd => exact fun σ2 F2 H2 k2 x2 => h (σ2.set i none) F2 H2 (k2.wipe.un_re hn) (ex.trans x2)
              | fr xs => exact fun σ2 F2 H2 k2 x2 => h (σ2.set i none) F2 H2 (k2.wipe.un_re hn) (ex.trans x2)
          · exact h.elim
      · subst hb
        exact ih h cls d σ1 F1 H1 k ex r
theorem s_try {sub : Str → Str → Option Bool} {body : List Stmt} {h₀ : ExceptHandler} {hds : List ExceptHandler} {mb : M P.B.S Fl} {l : List (Hm P.B.S)} {l2 : List Hd} (hN : X.N.Nodup) (tk : Takes X W)
    (hb : ∀ (W : WX) (pn : List (Addr × Obj)) (xe : Value → Shared → Prop), Takes (X.tr pn xe) W → PassesOwn (model X.prog X.w) X.A X.env xe → XSs P (X.tr pn xe) W body mb)
    (hm : HdsM P X sub (h₀ :: hds) l l2) (hs : X.stack = X.env :: X.outer := by rfl) (hf : X.env.frame = some X.env.locals := by rfl) : XS P X W (.Try body (h₀ :: hds) [] [] pos) (mTry sub mb l) :=
  ps_imp (ps_try_hds (tb := fun W => tS P W mb) hN hs hf tk hb hm.a) fun D σ H ⟨F, e, k, h⟩ => by
    refine ⟨F, e, k, ?_⟩
    unfold mTry at h
    cases q : mb e with
    | stuck => rw [q] at h; exact h
    | ok fl e1 =>
      rw [q] at h
      cases fl with
      | ret r => cases r <;> exact h
      | _ => exact h
    | err x e1 =>
      rw [q] at h
      dsimp only at h
      split at h
      · rename_i hn; exact im_hds hm hn h
      · exact h.elim

/-! what a suite says of what it holds -/
def mAtt {S : Type} (j : Nat) (n c : Str) : M S Mi.D := fun e => match e.sl[j]? with
  | some (.ex x) => if x.cls = c then (match x.fs.lookup n with
    | some d => .ok d e
    | none => .stuck) else .stuck
  | _ => .stuck
theorem FsOk.look {n : Str} {d : Mi.D} : ∀ {fs : List (Str × V)} {ds : List (Str × Mi.D)}, FsOk F fs ds → ds.lookup n = some d → ∃ v, fs.lookup n = some v ∧ Rp F v d
  | _, _, .nil, h => by cases h
  | (a, v) :: fs, (b, x) :: ds, .cons ⟨h1, h2⟩ t, h => by
    dsimp only at h1 h2
    subst h1
    rw [List.lookup_cons] at h ⊢
    cases q : n == a with
    | true => rw [q] at h; cases h; exact ⟨v, rfl, h2⟩
    | false => rw [q] at h; exact FsOk.look t h
theorem x_att (j : Nat) {x n c : Str} {a C : Addr} {oe : Obj} {cls : Value} {d : Option Addr} {pn : List (Addr × Obj)} {p : Pos} (T : XfC X.K C) (hno : PySem.W.findIn X.K (.ref C) n = some none) (hz : Zc cls d oe) (hf : ∃ vs, oe.data = .fields vs)
    (hm : P.mg c = some (.ref C)) (hN : X.N[j]? = some x := by rfl) (hv : Vis X.env.scope x := by first | exact Or.inl rfl | exact Or.inr (Or.inl rfl) | exact Or.inr (Or.inr rfl)) (hd : (x == ("__debug__" : Str)) = false := by decide)
    (hcd : (x == ("__classdict__" : Str)) = false := by decide) (hb : attributeBase (.Name x p) n X.env (eval (.Name x p) X.env) = eval (.Name x p) X.env := by rfl) :
    XE (P.at a cls d) (X.suite a ((a, oe) :: pn)) W (.Attribute (.Name x p) n pos) (mAtt j n c) :=
  pe_imp (pe_xf T hno hz hf (pe_var (X := X.suite a ((a, oe) :: pn)) (i := j) hN hv hd hcd) hb) fun σ H Q ⟨F, e, k, h⟩ => by
    unfold mAtt at h
    cases q : e.sl[j]? with
    | none => rw [q] at h; exact h.elim
    | some s =>
      rw [q] at h
      cases s with
      | ex y =>
        obtain ⟨q1, q2, q3⟩ := k.ex j y q
        dsimp only at h
        split at h
        · rename_i hc
          cases z : y.fs.lookup n with
          | none => rw [z] at h; exact h.elim
          | some dd =>
            rw [z] at h
            rcases q3 with ⟨_, q3⟩ | ⟨dx, fs, q3, q4, q5⟩
            · rw [q3] at z; cases z
            · obtain ⟨v, v1, v2⟩ := q5.look z
              refine ⟨_, q1, rfl, ?_, dx, fs, v, q3, k.ext.fh _ _ q4, v1, h F H k Step.refl v v2⟩
              have e1 : P.mg c = some cls := by rw [← hc]; exact q2
              rw [hm] at e1
              exact (Option.some.inj e1).symm
        · exact h.elim
      | _ => exact h.elim
end
end Mi
set_option maxHeartbeats 4000000
namespace Mi
open PySem PySem.Spec PyProof.Rows L2

/-! plain operations -/
def mulOk (a b : Int) : Prop := CMul a b ∨ CMulW a b
@[irreducible] def dec_mulOk (a b : Int) : Decidable (mulOk a b) := by unfold mulOk CMul CMulW; infer_instance
instance (a b : Int) : Decidable (mulOk a b) := dec_mulOk a b
def divOk (b : Int) : Prop := 0 < b ∧ b.natAbs.log2 < 9000
@[irreducible] def dec_divOk (b : Int) : Decidable (divOk b) := by unfold divOk; infer_instance
instance (b : Int) : Decidable (divOk b) := dec_divOk b
def powOk (a b : Int) : Prop := CPow a b
@[irreducible] def dec_powOk (a b : Int) : Decidable (powOk a b) := by unfold powOk CPow; infer_instance
instance (a b : Int) : Decidable (powOk a b) := dec_powOk a b
def repOk (xs : List D) (k : Int) : Prop := -(2 ^ 63) ≤ k ∧ k < 2 ^ 63 ∧ xs.length * k.toNat ≤ sizeLine
@[irreducible] def dec_repOk (xs : List D) (k : Int) : Decidable (repOk xs k) := by unfold repOk; infer_instance
instance (xs : List D) (k : Int) : Decidable (repOk xs k) := dec_repOk xs k
def dAdd : D → D → Option D
  | .int a, .int b => some (.int (a + b))
  | .str a, .str b => if a.length + b.length ≤ sizeLine then some (.str (a ++ b)) else none
  | .list a, .list b => if a.length + b.length ≤ sizeLine then some (.list (a ++ b)) else none
  | .tuple a, .tuple b => if a ≠ [] ∧ a.length + b.length ≤ sizeLine then some (.tuple (a ++ b)) else none
  | _, _ => none
def dSub : D → D → Option D
  | .int a, .int b => some (.int (a - b))
  | _, _ => none
def dMul : D → D → Option D
  | .int a, .int b => if mulOk a b then some (.int (a * b)) else none
  | .list xs, .int k => if repOk xs k then some (.list (List.replicate k.toNat xs).flatten) else none
  | _, _ => none
def dDiv : D → D → Option D
  | .int a, .int b => if divOk b then some (.int (a / b)) else none
  | _, _ => none
def dMod : D → D → Option D
  | .int a, .int b => if 0 < b then some (.int (a % b)) else none
  | _, _ => none
def dPow : D → D → Option D
  | .int a, .int b => if powOk a b then some (.int (a ^ b.toNat)) else none
  | _, _ => none
def dNeg : D → Option D
  | .int a => some (.int (-a))
  | _ => none
def dLt : D → D → Option D
  | .int a, .int b => some (.bool (decide (a < b)))
  | _, _ => none
def dLe : D → D → Option D
  | .int a, .int b => some (.bool (decide (a ≤ b)))
  | _, _ => none
def dGt : D → D → Option D
  | .int a, .int b => some (.bool (decide (b < a)))
  | _, _ => none
def dGe : D → D → Option D
  | .int a, .int b => some (.bool (decide (b ≤ a)))
  | _, _ => none
def dEq (a b : D) : Option D := if SeqAt.shaped a = true ∧ SeqAt.shaped b = true then some (.bool (PyData.eqv a b)) else none
def dNe (a b : D) : Option D := if SeqAt.shaped a = true ∧ SeqAt.shaped b = true then some (.bool (!PyData.eqv a b)) else none
def dIn : D → D → Option D
  | a, .list bs => if SeqAt.shaped a = true ∧ SeqAt.shaped (.list bs) = true then some (.bool (bs.any fun z => PyData.eqv z a)) else none
  | _, _ => none
def dNotIn : D → D → Option D
  | a, .list bs => if SeqAt.shaped a = true ∧ SeqAt.shaped (.list bs) = true then some (.bool (!bs.any fun z => PyData.eqv z a)) else none
  | _, _ => none
def dIsN : D → Option D
  | .none => some (.bool true)
  | _ => some (.bool false)
def dNotN : D → Option D
  | .none => some (.bool false)
  | _ => some (.bool true)
def dIx : D → D → Option D
  | .list xs, .int i => atI xs i
  | .tuple xs, .int i => atI xs i
  | _, _ => none

theorem Ext.same {F H : Hp} (h : Ex F H) : Ext F H F H := Ext.refl h
theorem pr_II {g : D → D → Option D} {C : Int → Int → Prop} {v : Int → Int → V} {d : Int → Int → D} (hd : ∀ a b (F : Hp), Rp F (v a b) (d a b)) (hg : ∀ a b c, g a b = some c → ∃ i j, a = .int i ∧ b = .int j ∧ C i j ∧ c = d i j) :
    Pr2 (rI C v) g := fun d1 d2 d3 v1 v2 F H Q h r1 r2 x q => by
  obtain ⟨i, j, rfl, rfl, hc, rfl⟩ := hg _ _ _ h
  cases r1; cases r2
  exact ⟨i, j, rfl, rfl, hc, q _ F H (Ex.refl _) (Ext.refl x) (hd i j F)⟩
theorem pr_II0 {g : D → D → Option D} {v : Int → Int → V} {d : Int → Int → D} (hd : ∀ a b (F : Hp), Rp F (v a b) (d a b)) (hg : ∀ a b c, g a b = some c → ∃ i j, a = .int i ∧ b = .int j ∧ c = d i j) :
    Pr2 (rI0 v) g := fun d1 d2 d3 v1 v2 F H Q h r1 r2 x q => by
  obtain ⟨i, j, rfl, rfl, rfl⟩ := hg _ _ _ h
  cases r1; cases r2
  exact ⟨i, j, rfl, rfl, q _ F H (Ex.refl _) (Ext.refl x) (hd i j F)⟩
section
variable {X : Cx}
theorem o_sub : OpR X (binaryOp .Sub) (rI0 fun i j => .int (i - j)) := op_sub
theorem p_sub : Pr2 (rI0 fun i j => .int (i - j)) dSub := pr_II0 (d := fun i j => .int (i - j)) (fun a b F => .int _) fun a b c h => by
  unfold dSub at h
  split at h
  · cases h; exact ⟨_, _, rfl, rfl, rfl⟩
  · cases h
def rAddA (K : PySem.W.Frag) : R2 := fun x y H Q => (∃ i j, x = .int i ∧ y = .int j ∧ Q (.int (i + j)) H) ∨ ((∃ i j, x = .str i ∧ y = .str j ∧ i.length + j.length ≤ sizeLine ∧ Q (.str (i ++ j)) H) ∨ (rCat x y H Q ∨ rCatT K x y H Q))
theorem o_add : OpR X (binaryOp .Add) (rAddA X.K) := op_add.or (op_add_str.or (op_cat.or op_catT))
theorem p_add (K : PySem.W.Frag) : Pr2 (rAddA K) dAdd := fun d1 d2 d3 v1 v2 F H Q h r1 r2 x q => by
  unfold dAdd at h
  split at h
  · cases h; cases r1; cases r2
    exact .inl ⟨_, _, rfl, rfl, q _ F H (Ex.refl _) (Ext.refl x) (.int _)⟩
  · split at h
    · rename_i hl
      cases h; cases r1; cases r2
      exact .inr (.inl ⟨_, _, rfl, rfl, hl, q _ F H (Ex.refl _) (Ext.refl x) (.str _)⟩)
    · cases h
  · split at h
    · rename_i hl
      cases h
      cases r1 with
      | lst a1 b1 =>
        cases r2 with
        | lst a2 b2 =>
          refine .inr (.inr (.inl ⟨_, _, _, _, rfl, rfl, x _ _ a1, x _ _ a2, by rw [RpA.len b1, RpA.len b2]; exact hl, fun p np => ?_⟩))
          exact q _ _ _ (Ex.new np) (Ext.lay x np) (.lst upd_same ((Ext.lay x np).ff.dpa _ _ (RpA.app b1 b2)))
    · cases h
  · split at h
    · rename_i hl
      cases h
      cases r1 with
      | @tup a1 xs ds1 a1' b1 =>
        cases r2 with
        | @tup a2 ys ds2 a2' b2 =>
          have ne : xs ≠ [] := fun z => by subst z; cases b1; exact hl.1 rfl
          refine .inr (.inr (.inr ⟨_, _, xs, ys, rfl, rfl, .of (x _ _ a1'), .of (x _ _ a2'), ne, by rw [RpA.len b1, RpA.len b2]; exact hl.2, fun e => ?_, fun _ p np => ?_⟩))
          · subst e
            cases b2
            rw [List.append_nil] at q
            exact q _ F H (Ex.refl _) (Ext.refl x) (.tup a1' b1)
          · have z := Ext.lay (p := p) (o := .tup (xs ++ ys)) x np
            exact q _ _ _ (Ex.new np) z (.tup upd_same (z.ff.dpa _ _ (RpA.app b1 b2)))
    · cases h
  · cases h
def rMulA : R2 := fun x y H Q => (rI CMul (fun i j => .int (i * j)) x y H Q ∨ rI CMulW (fun i j => .int (i * j)) x y H Q) ∨ rRep x y H Q
theorem o_mul : OpR X (binaryOp .Mult) rMulA := (op_mul.or op_mulW).or op_rep
theorem p_mul : Pr2 rMulA dMul := fun d1 d2 d3 v1 v2 F H Q h r1 r2 x q => by
  unfold dMul at h
  split at h
  · split at h
    · rename_i hl
      cases h; cases r1; cases r2
      rcases hl with hl | hl
      · exact .inl (.inl ⟨_, _, rfl, rfl, hl, q _ F H (Ex.refl _) (Ext.refl x) (.int _)⟩)
      · exact .inl (.inr ⟨_, _, rfl, rfl, hl, q _ F H (Ex.refl _) (Ext.refl x) (.int _)⟩)
    · cases h
  · split at h
    · rename_i hl
      cases h; cases r2
      cases r1 with
      | lst a1 b1 =>
        refine .inr ⟨_, _, _, rfl, rfl, x _ _ a1, hl.1, hl.2.1, by rw [RpA.len b1]; exact hl.2.2, fun p np => ?_⟩
        exact q _ _ _ (Ex.new np) (Ext.lay x np) (.lst upd_same ((Ext.lay x np).ff.dpa _ _ (RpA.repl b1 _)))
    · cases h
  · cases h
theorem o_div : OpR X (binaryOp .FloorDiv) (rI CDivW fun i j => .int (i / j)) := op_fdivW
theorem p_div : Pr2 (rI CDivW fun i j => .int (i / j)) dDiv := pr_II (d := fun i j => .int (i / j)) (fun a b F => .int _) fun a b c h => by
  unfold dDiv at h
  split at h
  · split at h
    · rename_i hl; cases h; exact ⟨_, _, rfl, rfl, hl, rfl⟩
    · cases h
  · cases h
theorem o_mod : OpR X (binaryOp .Mod) (rI (fun _ j => 0 < j) fun i j => .int (i % j)) := op_mod
theorem p_mod : Pr2 (rI (fun _ j => 0 < j) fun i j => .int (i % j)) dMod := pr_II (d := fun i j => .int (i % j)) (fun a b F => .int _) fun a b c h => by
  unfold dMod at h
  split at h
  · split at h
    · rename_i hl; cases h; exact ⟨_, _, rfl, rfl, hl, rfl⟩
    · cases h
  · cases h
theorem o_pow : OpR X (binaryOp .Pow) (rI CPow fun i j => .int (i ^ j.toNat)) := op_pow
theorem p_pow : Pr2 (rI CPow fun i j => .int (i ^ j.toNat)) dPow := pr_II (d := fun i j => .int (i ^ j.toNat)) (fun a b F => .int _) fun a b c h => by
  unfold dPow at h
  split at h
  · split at h
    · rename_i hl; cases h; exact ⟨_, _, rfl, rfl, hl, rfl⟩
    · cases h
  · cases h
theorem o_neg : UnR X (unaryOp .USub) (rU fun i => .int (-i)) := un_neg
theorem p_neg : Pr1 (rU fun i => .int (-i)) dNeg := fun d d2 v F H Q h r x q => by
  unfold dNeg at h
  split at h
  · cases h; cases r; exact ⟨_, rfl, q _ F H (Ex.refl _) (Ext.refl x) (.int _)⟩
  · cases h
theorem o_lt : OpR X (compareOp .Lt) (rI0 fun i j => .bl (decide (i < j))) := op_lt
theorem p_lt : Pr2 (rI0 fun i j => .bl (decide (i < j))) dLt := pr_II0 (d := fun i j => .bool (decide (i < j))) (fun a b F => .bl _) fun a b c h => by
  unfold dLt at h
  split at h
  · cases h; exact ⟨_, _, rfl, rfl, rfl⟩
  · cases h
theorem o_le : OpR X (compareOp .LtE) (rI0 fun i j => .bl (decide (i ≤ j))) := op_le
theorem p_le : Pr2 (rI0 fun i j => .bl (decide (i ≤ j))) dLe := pr_II0 (d := fun i j => .bool (decide (i ≤ j))) (fun a b F => .bl _) fun a b c h => by
  unfold dLe at h
  split at h
  · cases h; exact ⟨_, _, rfl, rfl, rfl⟩
  · cases h
theorem o_gt : OpR X (compareOp .Gt) (rI0 fun i j => .bl (decide (j < i))) := op_gt
theorem p_gt : Pr2 (rI0 fun i j => .bl (decide (j < i))) dGt := pr_II0 (d := fun i j => .bool (decide (j < i))) (fun a b F => .bl _) fun a b c h => by
  unfold dGt at h
  split at h
  · cases h; exact ⟨_, _, rfl, rfl, rfl⟩
  · cases h
theorem o_ge : OpR X (compareOp .GtE) (rI0 fun i j => .bl (decide (j ≤ i))) := op_ge
theorem p_ge : Pr2 (rI0 fun i j => .bl (decide (j ≤ i))) dGe := pr_II0 (d := fun i j => .bool (decide (j ≤ i))) (fun a b F => .bl _) fun a b c h => by
  unfold dGe at h
  split at h
  · cases h; exact ⟨_, _, rfl, rfl, rfl⟩
  · cases h
theorem hu64 {A : Around} {k : Nat} (hr : Room k A) : A.units + 65 < cLine := by have := hr.un; omega
theorem o_eq {k : Nat} (hr : Room k X.A) : OpR X (compareOp .Eq) (rEqD X.K) := op_eqD (by have := hr.un; omega)
theorem p_eq (K : PySem.W.Frag) : Pr2 (rEqD K) dEq := fun d1 d2 d3 v1 v2 F H Q h r1 r2 x q => by
  unfold dEq at h
  split at h
  · rename_i hl
    cases h
    exact ⟨d1, d2, (x.dp _ _ r1).dp, (x.dp _ _ r2).dp, hl.1, hl.2, q _ F H (Ex.refl _) (Ext.refl x) (.bl _)⟩
  · cases h
theorem o_ne {k : Nat} (hr : Room k X.A) : OpR X (compareOp .NotEq) (rNeD X.K) := op_neD (by have := hr.un; omega)
theorem p_ne (K : PySem.W.Frag) : Pr2 (rNeD K) dNe := fun d1 d2 d3 v1 v2 F H Q h r1 r2 x q => by
  unfold dNe at h
  split at h
  · rename_i hl
    cases h
    exact ⟨d1, d2, (x.dp _ _ r1).dp, (x.dp _ _ r2).dp, hl.1, hl.2, q _ F H (Ex.refl _) (Ext.refl x) (.bl _)⟩
  · cases h
theorem o_in {k : Nat} (hr : Room k X.A) : OpR X (compareOp .In) (rInD X.K) := op_inD (hu64 hr)
theorem p_in (K : PySem.W.Frag) : Pr2 (rInD K) dIn := fun d1 d2 d3 v1 v2 F H Q h r1 r2 x q => by
  unfold dIn at h
  split at h
  · split at h
    · rename_i hl
      cases h
      exact ⟨d1, _, (x.dp _ _ r1).dp, (x.dp _ _ r2).dp, hl.1, hl.2, q _ F H (Ex.refl _) (Ext.refl x) (.bl _)⟩
    · cases h
  · cases h
theorem o_notIn {k : Nat} (hr : Room k X.A) : OpR X (compareOp .NotIn) (rNotInD X.K) := op_notInD (hu64 hr)
theorem p_notIn (K : PySem.W.Frag) : Pr2 (rNotInD K) dNotIn := fun d1 d2 d3 v1 v2 F H Q h r1 r2 x q => by
  unfold dNotIn at h
  split at h
  · split at h
    · rename_i hl
      cases h
      exact ⟨d1, _, (x.dp _ _ r1).dp, (x.dp _ _ r2).dp, hl.1, hl.2, q _ F H (Ex.refl _) (Ext.refl x) (.bl _)⟩
    · cases h
  · cases h
end

section
variable {P : Pm} {X : Cx} {W : WX} {α β : Type} {e e1 : En P.B.S} {σ : St} {F H F1 H1 : Hp} {pos : Pos}
/-- is None, is not None -/
theorem im_isN {f : M P.B.S D} {g : D → Option D} {neg : Bool} (hg : ∀ d d2, g d = some d2 → ∃ b, d2 = .bool b ∧ ∀ (F : Hp) v, Rp F v d → (if neg then !decide (v = .non) else decide (v = .non)) = b) {Q : VK}
    (h : tX P W (m1 g f) σ H Q) : tX P W f σ H fun x H1 => Q (.bl (if neg then !decide (x = .non) else decide (x = .non))) H1 := by
  obtain ⟨F, e, k, h⟩ := h
  refine tX_of k h fun d1 e1 F1 H1 v1 k1 s1 r1 h1 => ?_
  obtain ⟨d2, h2, h3⟩ := h1.lft
  obtain ⟨b, rfl, hb⟩ := hg _ _ h2
  rw [hb F1 v1 r1]
  exact h3 F1 H1 k1 Step.refl _ (.bl b)
theorem isN_ok (d d2 : D) (h : dIsN d = some d2) : ∃ b, d2 = .bool b ∧ ∀ (F : Hp) v, Rp F v d → (if false then !decide (v = .non) else decide (v = .non)) = b := by
  cases d <;> (unfold dIsN at h; cases h; refine ⟨_, rfl, fun F v r => ?_⟩; cases r <;> rfl)
theorem notN_ok (d d2 : D) (h : dNotN d = some d2) : ∃ b, d2 = .bool b ∧ ∀ (F : Hp) v, Rp F v d → (if true then !decide (v = .non) else decide (v = .non)) = b := by
  cases d <;> (unfold dNotN at h; cases h; refine ⟨_, rfl, fun F v r => ?_⟩; cases r <;> rfl)
theorem x_isN {a : Expr} {f : M P.B.S D} {j : Nat} {p : Pos} (h : XE P X W a f) : XE P X W (.Compare a [.Is] [.Constant .none j p] pos) (m1 dIsN f) :=
  pe_imp (pe_cmp (pc_isN h)) fun _ _ _ z => im_isN (neg := false) isN_ok z
theorem x_notN {a : Expr} {f : M P.B.S D} {j : Nat} {p : Pos} (h : XE P X W a f) : XE P X W (.Compare a [.IsNot] [.Constant .none j p] pos) (m1 dNotN f) :=
  pe_imp (pe_cmp (pc_notN h)) fun _ _ _ z => im_isN (neg := true) notN_ok z
theorem t_isN {a : Expr} {f : M P.B.S D} {j : Nat} {p : Pos} (h : XE P X W a f) : XT P X W (.Compare a [.Is] [.Constant .none j p] pos) (asB (m1 dIsN f)) :=
  pt_imp (pt_cmp (pc_isN h)) fun σ H Q z => im_tst (t := tIsN (tX P W f)) (fun _ _ _ z => im_isN (neg := false) isN_ok z) σ H Q z
theorem t_notN {a : Expr} {f : M P.B.S D} {j : Nat} {p : Pos} (h : XE P X W a f) : XT P X W (.Compare a [.IsNot] [.Constant .none j p] pos) (asB (m1 dNotN f)) :=
  pt_imp (pt_cmp (pc_notN h)) fun σ H Q z => im_tst (t := tNotN (tX P W f)) (fun _ _ _ z => im_isN (neg := true) notN_ok z) σ H Q z
/-- a < b < c -/
def mChain {S : Type} (g g' : D → D → Option D) (fa fb fc : M S D) : M S D := bnd fa fun x => bnd fb fun y => bnd (lft (g x y)) fun z => match z with
  | .bool true => bnd fc fun w => lft (g' y w)
  | .bool false => rt (.bool false)
  | _ => stk
theorem im_chain {r r' : R2} {g g' : D → D → Option D} {fa fb fc : M P.B.S D} (p1 : Pr2 r g) (p2 : Pr2 r' g') {Q : VK} (h : tX P W (mChain g g' fa fb fc) σ H Q) : tChain r r' (tX P W fa) (tX P W fb) (tX P W fc) σ H Q := by
  obtain ⟨F, e, k, h⟩ := h
  refine tX_of k h fun d1 e1 F1 H1 v1 k1 s1 r1 h1 => ?_
  refine tX_of k1 h1 fun d2 e2 F2 H2 v2 k2 s2 r2 h2 => ?_
  obtain ⟨d3, hg, h3⟩ : ∃ d3, g d1 d2 = some d3 ∧ Sat P W e2 σ F2 H2 ((match d3 with
      | .bool true => bnd fc fun w => lft (g' d2 w)
      | .bool false => rt (.bool false)
      | _ => stk : M P.B.S D) e2) fun d _ F1 H1 => ∀ v, Rp F1 v d → Q v H1 := by
    unfold bnd lft at h2
    cases q : g d1 d2 with
    | none => rw [q] at h2; exact h2.elim
    | some d3 => rw [q] at h2; exact ⟨d3, rfl, h2⟩
  refine p1 d1 d2 d3 v1 v2 F2 H2 _ hg (s2.ff.dp _ _ r1) r2 k2.ext.fh fun v F3 H3 hx x rv => ?_
  obtain ⟨k3, s3⟩ := k2.grow hx x
  cases rv with
  | bl b =>
    refine ⟨b, rfl, ?_⟩
    cases b with
    | true =>
      rw [if_pos rfl]
      refine tX_of k3 (Sat.back s3 h3) fun d4 e4 F4 H4 v4 k4 s4 r4 h4 => ?_
      obtain ⟨d5, hg5, h5⟩ := h4.lft
      exact p2 d2 d4 d5 v2 v4 F4 H4 Q hg5 (s4.ff.dp _ _ (s3.ff.dp _ _ r2)) r4 k4.ext.fh fun v F' H' hx x rv => h5.grow k4 hx x v rv
    | false =>
      rw [if_neg Bool.false_ne_true]
      exact (Sat.back s3 h3) F3 H3 k3 Step.refl _ (.bl _)
  | _ => exact h3.elim
theorem x_chain {op op' : CmpOp} {a b c : Expr} {r r' : R2} {g g' : D → D → Option D} {fa fb fc : M P.B.S D} (ho : OpR X (compareOp op) r) (ho' : OpR X (compareOp op') r') (p1 : Pr2 r g) (p2 : Pr2 r' g') (ha : XE P X W a fa) (hb : XE P X W b fb) (hc : XE P X W c fc)
    (hm : lastMarks [op, op'] [b, c] = false := by with_unfolding_all rfl) : XE P X W (.Compare a [op, op'] [b, c] pos) (mChain g g' fa fb fc) := pe_imp (pe_chain ho ho' ha hb hc hm) fun _ _ _ z => im_chain p1 p2 z
theorem t_chain {op op' : CmpOp} {a b c : Expr} {r r' : R2} {g g' : D → D → Option D} {fa fb fc : M P.B.S D} (ho : OpR X (compareOp op) r) (ho' : OpR X (compareOp op') r') (p1 : Pr2 r g) (p2 : Pr2 r' g') (ha : XE P X W a fa) (hb : XE P X W b fb) (hc : XE P X W c fc)
    (hm : lastMarks [op, op'] [b, c] = false := by with_unfolding_all rfl) : XT P X W (.Compare a [op, op'] [b, c] pos) (asB (mChain g g' fa fb fc)) :=
  pt_imp (pt_chain ho ho' ha hb hc hm) fun σ H Q z => im_tst (t := tChain r r' (tX P W fa) (tX P W fb) (tX P W fc)) (fun _ _ _ z => im_chain p1 p2 z) σ H Q z

/-! subscripts -/
theorem ixN_lt {n : Nat} {i : Int} {j : Nat} (h : ixN n i = some j) : j < n := (ixN_seq h).2.1
theorem atI_rp {F : Hp} {vs : List V} {ds : List D} {i : Int} {d : D} (r : RpA F vs ds) (h : atI ds i = some d) : ∃ v, atI vs i = some v ∧ Rp F v d := by
  unfold atI at h ⊢
  rw [RpA.len r]
  obtain ⟨j, h1, h2⟩ := Option.bind_eq_some_iff.mp h
  obtain ⟨v, h3, h4⟩ := r.get h2
  exact ⟨v, by rw [h1]; exact h3, h4⟩
theorem p_ix (K : PySem.W.Frag) : Pr2 (rIx K) dIx := fun d1 d2 d3 v1 v2 F H Q h r1 r2 x q => by
  unfold dIx at h
  split at h
  · cases r2
    cases r1 with
    | lst a b =>
      obtain ⟨v, h1, h2⟩ := atI_rp b h
      exact .inl ⟨_, _, _, v, rfl, rfl, .of (x _ _ a), h1, q _ F H (Ex.refl _) (Ext.refl x) h2⟩
  · cases r2
    cases r1 with
    | tup a b =>
      obtain ⟨v, h1, h2⟩ := atI_rp b h
      exact .inr (.inl ⟨_, _, _, v, rfl, rfl, .of (x _ _ a), h1, q _ F H (Ex.refl _) (Ext.refl x) h2⟩)
  · cases h
theorem x_ix {a b : Expr} {f1 f2 : M P.B.S D} (ha : XE P X W a f1) (hb : XE P X W b f2) (hs : PlainIx b := by exact fun _ _ => rfl) : XE P X W (.Subscript a b pos) (m2 dIx f1 f2) :=
  pe_imp (pe_ix ix_seq ha hb hs) fun _ _ _ h => im2 (p_ix X.K) h
/-- the kept-apart (or frozen) list in slot i -/
def lstAt {S : Type} (i : Nat) (e : En S) : Option (List D) := match e.sl[i]? with
  | some (.ob (.lst xs)) => some xs
  | some (.sh (.list xs)) => some xs
  | _ => none
theorem EOk.lstAt (k : EOk P e σ F H) {i : Nat} {xs : List D} (h : lstAt i e = some xs) : ∃ p vs, σ[i]? = some (some (.ref p)) ∧ H p = some (.lst vs) ∧ RpA F vs xs := by
  unfold Mi.lstAt at h
  split at h
  · rename_i ys q
    cases h
    obtain ⟨p, vs, q1, q2, _, _, _, q6⟩ := k.owL i _ q
    exact ⟨p, vs, q1, q2, q6⟩
  · rename_i ys q
    cases h
    obtain ⟨v, q1, q2⟩ := k.sh i _ q
    cases q2 with
    | lst a b => exact ⟨_, _, q1, k.ext.fh _ _ a, b⟩
  · cases h
def withL {S α : Type} (i : Nat) (m : M S α) : M S α := fun e => match lstAt i e with
  | some _ => m e
  | none => .stuck
theorem withL_of {i : Nat} {m : M P.B.S α} {G : α → En P.B.S → Hp → Hp → Prop} (k : EOk P e σ F H) (h : Sat P W e σ F H (withL i m e) G) : ∃ p vs xs, lstAt i e = some xs ∧ σ[i]? = some (some (.ref p)) ∧ H p = some (.lst vs) ∧ RpA F vs xs ∧ Sat P W e σ F H (m e) G := by
  unfold withL at h
  cases q : lstAt i e with
  | none => rw [q] at h; exact h.elim
  | some xs =>
    rw [q] at h
    obtain ⟨p, vs, q1, q2, q3⟩ := k.lstAt q
    exact ⟨p, vs, xs, rfl, q1, q2, q3, h⟩
def mIxO {S : Type} (i : Nat) (f : M S D) : M S D := withL i (bnd f fun k e => match lstAt i e, k with
  | some xs, .int j => lft (atI xs j) e
  | _, _ => .stuck)
section
variable (i : Nat) {x : Str} (hN : X.N[i]? = some x) (hv : Vis X.env.scope x) (hd : (x == ("__debug__" : Str)) = false) (hcd : (x == ("__classdict__" : Str)) = false)
end
/-- x[b], x the list of a slot, which stays as it is -/
theorem x_ixO (i : Nat) {x : Str} {b : Expr} {f : M P.B.S D} {p : Pos} (hb : XE P X W b f) (hN : X.N[i]? = some x := by rfl) (hv : Vis X.env.scope x := by first | exact Or.inl rfl | exact Or.inr (Or.inl rfl) | exact Or.inr (Or.inr rfl)) (hs : PlainIx b := by exact fun _ _ => rfl)
    (hd : (x == ("__debug__" : Str)) = false := by decide) (hcd : (x == ("__classdict__" : Str)) = false := by decide) : XE P X W (.Subscript (.Name x p) b pos) (mIxO i f) :=
  pe_imp (pe_ix ix_list (pe_var hN hv hd hcd) hb hs) fun σ H Q ⟨F, e, k, h⟩ => by
    obtain ⟨p, vs, xs, _, q1, q2, q3, h⟩ := withL_of k h
    refine ⟨_, q1, tX_of k h fun d1 e1 F1 H1 v1 k1 s1 r1 h1 => ?_⟩
    cases z : lstAt i e1 with
    | none => rw [z] at h1; exact h1.elim
    | some ys =>
      rw [z] at h1
      obtain ⟨p', ws, g1, g2, g3⟩ := k1.lstAt z
      rw [q1] at g1
      cases g1
      cases r1 with
      | int j =>
        obtain ⟨d, hd, h2⟩ := h1.lft
        obtain ⟨v, w1, w2⟩ := atI_rp g3 hd
        exact ⟨p, ws, j, v, rfl, rfl, .of g2, w1, h2 F1 H1 k1 Step.refl v w2⟩
      | _ => exact h1.elim

/-! built-in functions by their arguments -/
def PrN (r : List V → Hp → VK → Prop) (g : List Arg → Option D) : Prop := ∀ (B : Amb) as d vs (F H : Hp) Q, g as = some d → ArgsOk B F vs as → Ex F H → (∀ v F1 H1, Ex H H1 → Ext F H F1 H1 → Rp F1 v d → Q v H1) → r vs H Q
def PrNF (r : List V → Hp → VK → Prop) (g : List Arg → Option (List D)) : Prop := ∀ (B : Amb) as xs vs (F H : Hp) Q, g as = some xs → ArgsOk B F vs as → Ex F H → (∀ p ws, H p = none → RpA F ws xs → Q (.ref p) (upd H p (.lst ws))) → r vs H Q
/-- .. by the one list of a slot -/
def PrO (r : List V → Hp → VK → Prop) (g : List D → Option D) : Prop := ∀ xs d p vs (F H : Hp) Q, g xs = some d → H p = some (.lst vs) → RpA F vs xs → Ex F H → (∀ v F1 H1, Ex H H1 → Ext F H F1 H1 → Rp F1 v d → Q v H1) → r [.ref p] H Q
def PrOF (r : List V → Hp → VK → Prop) (g : List D → Option (List D)) : Prop := ∀ xs ys p vs (F H : Hp) Q, g xs = some ys → H p = some (.lst vs) → RpA F vs xs → Ex F H → (∀ p ws, H p = none → RpA F ws ys → Q (.ref p) (upd H p (.lst ws))) → r [.ref p] H Q
def mB {S : Type} (g : List Arg → Option D) (m : M S (List Arg)) : M S D := bnd m fun as => lft (g as)
def mBF {S : Type} (g : List Arg → Option (List D)) (m : M S (List Arg)) : M S (List D) := bnd m fun as => lft (g as)
def mO {S α : Type} (i : Nat) (g : List D → Option α) : M S α := fun e => match lstAt i e with
  | some xs => lft (g xs) e
  | none => .stuck
theorem im_B {r : List V → Hp → VK → Prop} {g : List Arg → Option D} {m : M P.B.S (List Arg)} (pr : PrN r g) {Q : VK} (h : tX P W (mB g m) σ H Q) : tCB r (tA P W m) σ H Q := by
  obtain ⟨F, e, k, h⟩ := h
  refine tA_of k h fun as e1 F1 H1 vs k1 s1 r1 h1 => ?_
  obtain ⟨d, hg, h2⟩ := h1.lft
  exact pr P.B as d vs F1 H1 Q hg r1 k1.ext.fh fun v F' H' hx x rv => h2.grow k1 hx x v rv
theorem im_BF {r : List V → Hp → VK → Prop} {g : List Arg → Option (List D)} {m : M P.B.S (List Arg)} (pr : PrNF r g) {Q : VK} (h : tF P W (mBF g m) σ H Q) : tCB r (tA P W m) σ H Q := by
  obtain ⟨F, e, k, h⟩ := h
  refine tA_of k h fun as e1 F1 H1 vs k1 s1 r1 h1 => ?_
  obtain ⟨xs, hg, h2⟩ := h1.lft
  refine pr P.B as xs vs F1 H1 Q hg r1 k1.ext.fh fun p ws np ra => ?_
  exact h2.grow k1 (Ex.new np) (Ext.layO k1.ext.fh np) p ws (s1.non np) upd_same (k1.fresh np).1 ra
theorem im_O {i : Nat} {r : List V → Hp → VK → Prop} {g : List D → Option D} (pr : PrO r g) {Q : VK} (h : tX P W (mO i g) σ H Q) : tCB r (tCons (tVar i) tNil) σ H Q := by
  obtain ⟨F, e, k, h⟩ := h
  unfold mO at h
  cases q : lstAt i e with
  | none => rw [q] at h; exact h.elim
  | some xs =>
    rw [q] at h
    obtain ⟨p, vs, q1, q2, q3⟩ := k.lstAt q
    obtain ⟨d, hg, h2⟩ := h.lft
    exact ⟨_, q1, pr xs d p vs F H Q hg q2 q3 k.ext.fh fun v F' H' hx x rv => h2.grow k hx x v rv⟩
theorem im_OF {i : Nat} {r : List V → Hp → VK → Prop} {g : List D → Option (List D)} (pr : PrOF r g) {Q : VK} (h : tF P W (mO i g) σ H Q) : tCB r (tCons (tVar i) tNil) σ H Q := by
  obtain ⟨F, e, k, h⟩ := h
  unfold mO at h
  cases q : lstAt i e with
  | none => rw [q] at h; exact h.elim
  | some xs =>
    rw [q] at h
    obtain ⟨p, vs, q1, q2, q3⟩ := k.lstAt q
    obtain ⟨ys, hg, h2⟩ := h.lft
    exact ⟨_, q1, pr xs ys p vs F H Q hg q2 q3 k.ext.fh fun r ws np ra => h2.grow k (Ex.new np) (Ext.layO k.ext.fh np) r ws np upd_same (k.fresh np).1 ra⟩
section
variable {x : Str} {p : Pos} {a : Expr} {es : List Expr} {id T : String} {r : List V → Hp → VK → Prop}
theorem x_cB {g : List Arg → Option D} {m : M P.B.S (List Arg)} (hc : CallR X (.builtin id) r) (pr : PrN r g) (hm : X.mg x = none) (hv : bootBuiltins x = some (.builtin id)) (ha : XA P X W (a :: es) m) (hg : Gl X x := by rfl) (hn : x ≠ "__name__" := by decide) (hdb : (x == ("__debug__" : Str)) = false := by decide)
    (he : starEach (a :: es) X.env = (false, eval a X.env) :: starEach es X.env := by rfl) (hpl : (backTo pos (starEach es X.env)).any (·.1) = false := by rfl) : XE P X W (.Call (.Name x p) (a :: es) [] pos) (mB g m) :=
  pe_imp (pe_callB hc hg hm hv ha hn hdb he hpl) fun _ _ _ h => im_B pr h
theorem f_cB {g : List Arg → Option (List D)} {m : M P.B.S (List Arg)} (hc : CallR X (.builtin id) r) (pr : PrNF r g) (hm : X.mg x = none) (hv : bootBuiltins x = some (.builtin id)) (ha : XA P X W (a :: es) m) (hg : Gl X x := by rfl) (hn : x ≠ "__name__" := by decide) (hdb : (x == ("__debug__" : Str)) = false := by decide)
    (he : starEach (a :: es) X.env = (false, eval a X.env) :: starEach es X.env := by rfl) (hpl : (backTo pos (starEach es X.env)).any (·.1) = false := by rfl) : XF P X W (.Call (.Name x p) (a :: es) [] pos) (mBF g m) :=
  pe_imp (pe_callB hc hg hm hv ha hn hdb he hpl) fun _ _ _ h => im_BF pr h
theorem x_cT {g : List Arg → Option D} {m : M P.B.S (List Arg)} (hc : CallR X (.type T) r) (pr : PrN r g) (hm : X.mg x = none) (hv : bootBuiltins x = some (.type T)) (ha : XA P X W (a :: es) m) (hg : Gl X x := by rfl) (hn : x ≠ "__name__" := by decide) (hdb : (x == ("__debug__" : Str)) = false := by decide)
    (he : starEach (a :: es) X.env = (false, eval a X.env) :: starEach es X.env := by rfl) (hpl : (backTo pos (starEach es X.env)).any (·.1) = false := by rfl) : XE P X W (.Call (.Name x p) (a :: es) [] pos) (mB g m) :=
  pe_imp (pe_callTy hc hg hm hv ha hn hdb he hpl) fun _ _ _ h => im_B pr h
theorem f_cT {g : List Arg → Option (List D)} {m : M P.B.S (List Arg)} (hc : CallR X (.type T) r) (pr : PrNF r g) (hm : X.mg x = none) (hv : bootBuiltins x = some (.type T)) (ha : XA P X W (a :: es) m) (hg : Gl X x := by rfl) (hn : x ≠ "__name__" := by decide) (hdb : (x == ("__debug__" : Str)) = false := by decide)
    (he : starEach (a :: es) X.env = (false, eval a X.env) :: starEach es X.env := by rfl) (hpl : (backTo pos (starEach es X.env)).any (·.1) = false := by rfl) : XF P X W (.Call (.Name x p) (a :: es) [] pos) (mBF g m) :=
  pe_imp (pe_callTy hc hg hm hv ha hn hdb he hpl) fun _ _ _ h => im_BF pr h
variable {y : Str} {py : Pos}
theorem x_oB (i : Nat) {g : List D → Option D} (hc : CallR X (.builtin id) r) (pr : PrO r g) (hm : X.mg x = none) (hv : bootBuiltins x = some (.builtin id)) (hN : X.N[i]? = some y := by rfl) (hy : Vis X.env.scope y := by first | exact Or.inl rfl | exact Or.inr (Or.inl rfl) | exact Or.inr (Or.inr rfl))
    (hd : (y == ("__debug__" : Str)) = false := by decide) (hcd : (y == ("__classdict__" : Str)) = false := by decide) (hg : Gl X x := by rfl) (hn : x ≠ "__name__" := by decide) (hdb : (x == ("__debug__" : Str)) = false := by decide)
    (he : starEach [.Name y py] X.env = (false, eval (.Name y py) X.env) :: starEach [] X.env := by rfl) (hpl : (backTo pos (starEach [] X.env)).any (·.1) = false := by rfl) : XE P X W (.Call (.Name x p) [.Name y py] [] pos) (mO i g) :=
  pe_imp (pe_callB hc hg hm hv (pa_cons (pe_var hN hy hd hcd) pa_nil he) hn hdb he hpl) fun _ _ _ h => im_O pr h
theorem x_oT (i : Nat) {g : List D → Option D} (hc : CallR X (.type T) r) (pr : PrO r g) (hm : X.mg x = none) (hv : bootBuiltins x = some (.type T)) (hN : X.N[i]? = some y := by rfl) (hy : Vis X.env.scope y := by first | exact Or.inl rfl | exact Or.inr (Or.inl rfl) | exact Or.inr (Or.inr rfl))
    (hd : (y == ("__debug__" : Str)) = false := by decide) (hcd : (y == ("__classdict__" : Str)) = false := by decide) (hg : Gl X x := by rfl) (hn : x ≠ "__name__" := by decide) (hdb : (x == ("__debug__" : Str)) = false := by decide)
    (he : starEach [.Name y py] X.env = (false, eval (.Name y py) X.env) :: starEach [] X.env := by rfl) (hpl : (backTo pos (starEach [] X.env)).any (·.1) = false := by rfl) : XE P X W (.Call (.Name x p) [.Name y py] [] pos) (mO i g) :=
  pe_imp (pe_callTy hc hg hm hv (pa_cons (pe_var hN hy hd hcd) pa_nil he) hn hdb he hpl) fun _ _ _ h => im_O pr h
theorem f_oT (i : Nat) {g : List D → Option (List D)} (hc : CallR X (.type T) r) (pr : PrOF r g) (hm : X.mg x = none) (hv : bootBuiltins x = some (.type T)) (hN : X.N[i]? = some y := by rfl) (hy : Vis X.env.scope y := by first | exact Or.inl rfl | exact Or.inr (Or.inl rfl) | exact Or.inr (Or.inr rfl))
    (hd : (y == ("__debug__" : Str)) = false := by decide) (hcd : (y == ("__classdict__" : Str)) = false := by decide) (hg : Gl X x := by rfl) (hn : x ≠ "__name__" := by decide) (hdb : (x == ("__debug__" : Str)) = false := by decide)
    (he : starEach [.Name y py] X.env = (false, eval (.Name y py) X.env) :: starEach [] X.env := by rfl) (hpl : (backTo pos (starEach [] X.env)).any (·.1) = false := by rfl) : XF P X W (.Call (.Name x p) [.Name y py] [] pos) (mO i g) :=
  pe_imp (pe_callTy hc hg hm hv (pa_cons (pe_var hN hy hd hcd) pa_nil he) hn hdb he hpl) fun _ _ _ h => im_OF pr h
end
/-! which -/
def gLen : List Arg → Option D
  | [.d (.list xs)] => some (.int xs.length)
  | [.d (.tuple xs)] => some (.int xs.length)
  | _ => none
def gAbs : List Arg → Option D
  | [.d (.int i)] => some (.int (if i < 0 then -i else i))
  | _ => none
def gMin2 : List Arg → Option D
  | [.d (.int i), .d (.int j)] => some (.int (if j < i then j else i))
  | _ => none
def gMax2 : List Arg → Option D
  | [.d (.int i), .d (.int j)] => some (.int (if j > i then j else i))
  | _ => none
def gInt : List Arg → Option D
  | [.d (.int i)] => some (.int i)
  | [.d (.bool b)] => some (.int (if b then 1 else 0))
  | _ => none
def gStr : List Arg → Option D
  | [.d (.int i)] => if i.natAbs.log2 < 1920 then some (.str (toString i)) else none
  | _ => none
def toInts : List D → Option (List Int)
  | [] => some []
  | .int i :: r => (toInts r).map (i :: ·)
  | _ => none
theorem toInts_ok : ∀ {ds : List D} {ns : List Int}, toInts ds = some ns → ds = ns.map PyData.int
  | [], ns, h => by cases h; rfl
  | .int i :: r, ns, h => by
    unfold toInts at h
    obtain ⟨ms, h1, h2⟩ := Option.map_eq_some_iff.mp h
    subst h2
    rw [toInts_ok h1]
    rfl
  | .none :: _, _, h => by cases h
  | .bool _ :: _, _, h => by cases h
  | .str _ :: _, _, h => by cases h
  | .list _ :: _, _, h => by cases h
  | .tuple _ :: _, _, h => by cases h
  | .dict _ :: _, _, h => by cases h
theorem toInts_map (ns : List Int) : toInts (ns.map PyData.int) = some ns := by
  induction ns with
  | nil => rfl
  | cons n r ih => rw [List.map_cons]; unfold toInts; rw [ih]; rfl
def gSum : List Arg → Option D
  | [.d (.list xs)] => (toInts xs).map fun ns => .int ns.sum
  | _ => none
def gTupO : List D → Option D := fun xs => some (.tuple xs)
def gTup : List Arg → Option D
  | [.d (.list xs)] => some (.tuple xs)
  | [.d (.tuple xs)] => some (.tuple xs)
  | _ => none
def gLst : List Arg → Option (List D)
  | [.d (.list xs)] => some xs
  | [.d (.tuple xs)] => some xs
  | _ => none
def gLenO : List D → Option D := fun xs => some (.int xs.length)
def rLenS (K : PySem.W.Frag) : List V → Hp → VK → Prop := fun xs H Q => ∃ p ys, xs = [.ref p] ∧ (SqL K H p ys ∨ SqT K H p ys) ∧ Q (.int ys.length) H
theorem p_len (K : PySem.W.Frag) : PrN (rLenS K) gLen := fun B as d vs F H Q h r x q => by
  unfold gLen at h
  split at h
  · cases h
    cases r with
    | d r1 r2 =>
      cases r2
      cases r1 with
      | lst a b => exact ⟨_, _, rfl, .inl (.of (x _ _ a)), by rw [RpA.len b]; exact q _ F H (Ex.refl _) (Ext.refl x) (.int _)⟩
  · cases h
    cases r with
    | d r1 r2 =>
      cases r2
      cases r1 with
      | tup a b => exact ⟨_, _, rfl, .inr (.of (x _ _ a)), by rw [RpA.len b]; exact q _ F H (Ex.refl _) (Ext.refl x) (.int _)⟩
  · cases h
theorem p_lenO (K : PySem.W.Frag) : PrO (rLenS K) gLenO := fun xs d p vs F H Q h hp r x q => by
  unfold gLenO at h
  cases h
  exact ⟨_, _, rfl, .inl (.of hp), by rw [RpA.len r]; exact q _ F H (Ex.refl _) (Ext.refl x) (.int _)⟩
theorem p_abs : PrN (fun xs H Q => ∃ i, xs = [.int i] ∧ Q (.int (if i < 0 then -i else i)) H) gAbs := fun B as d vs F H Q h r x q => by
  unfold gAbs at h
  split at h
  · cases h
    cases r with
    | d r1 r2 => cases r2; cases r1; exact ⟨_, rfl, q _ F H (Ex.refl _) (Ext.refl x) (.int _)⟩
  · cases h
theorem p_min2 : PrN (fun xs H Q => ∃ i j, xs = [.int i, .int j] ∧ Q (.int (if j < i then j else i)) H) gMin2 := fun B as d vs F H Q h r x q => by
  unfold gMin2 at h
  split at h
  · cases h
    cases r with
    | d r1 r2 =>
      cases r2 with
      | d r3 r4 => cases r4; cases r1; cases r3; exact ⟨_, _, rfl, q _ F H (Ex.refl _) (Ext.refl x) (.int _)⟩
  · cases h
theorem p_max2 : PrN (fun xs H Q => ∃ i j, xs = [.int i, .int j] ∧ Q (.int (if j > i then j else i)) H) gMax2 := fun B as d vs F H Q h r x q => by
  unfold gMax2 at h
  split at h
  · cases h
    cases r with
    | d r1 r2 =>
      cases r2 with
      | d r3 r4 => cases r4; cases r1; cases r3; exact ⟨_, _, rfl, q _ F H (Ex.refl _) (Ext.refl x) (.int _)⟩
  · cases h
theorem p_int : PrN (fun xs H Q => (∃ i, xs = [.int i] ∧ Q (.int i) H) ∨ ∃ k, xs = [.bl k] ∧ Q (.int (if k then 1 else 0)) H) gInt := fun B as d vs F H Q h r x q => by
  unfold gInt at h
  split at h
  · cases h
    cases r with
    | d r1 r2 => cases r2; cases r1; exact .inl ⟨_, rfl, q _ F H (Ex.refl _) (Ext.refl x) (.int _)⟩
  · cases h
    cases r with
    | d r1 r2 => cases r2; cases r1; exact .inr ⟨_, rfl, q _ F H (Ex.refl _) (Ext.refl x) (.int _)⟩
  · cases h
theorem p_str : PrN (fun xs H Q => ∃ i, xs = [.int i] ∧ i.natAbs.log2 < 1920 ∧ Q (.str (toString i)) H) gStr := fun B as d vs F H Q h r x q => by
  unfold gStr at h
  split at h
  · split at h
    · rename_i hl
      cases h
      cases r with
      | d r1 r2 => cases r2; cases r1; exact ⟨_, rfl, hl, q _ F H (Ex.refl _) (Ext.refl x) (.str _)⟩
    · cases h
  · cases h
theorem p_sum (K : PySem.W.Frag) : PrN (rSum K) gSum := fun B as d vs F H Q h r x q => by
  unfold gSum at h
  split at h
  · obtain ⟨ns, h1, h2⟩ := Option.map_eq_some_iff.mp h
    have h3 := toInts_ok h1
    subst h2 h3
    cases r with
    | d r1 r2 =>
      cases r2
      cases r1 with
      | lst a b =>
        have e := RpA.ints_inv b
        subst e
        exact ⟨_, ns, rfl, .of (x _ _ a), q _ F H (Ex.refl _) (Ext.refl x) (.int _)⟩
  · cases h
def rTupS (K : PySem.W.Frag) : List V → Hp → VK → Prop := fun xs H Q => ∃ p ys, xs = [.ref p] ∧ ((SqL K H p ys ∧ ∀ l, H l = none → Q (.ref l) (upd H l (.tup ys))) ∨ (SqT K H p ys ∧ Q (.ref p) H))
theorem p_tup (K : PySem.W.Frag) : PrN (rTupS K) gTup := fun B as d vs F H Q h r x q => by
  unfold gTup at h
  split at h
  · cases h
    cases r with
    | d r1 r2 =>
      cases r2
      cases r1 with
      | lst a b => exact ⟨_, _, rfl, .inl ⟨.of (x _ _ a), fun l nl => q _ _ _ (Ex.new nl) (Ext.lay x nl) (.tup upd_same ((Ext.lay x nl).ff.dpa _ _ b))⟩⟩
  · cases h
    cases r with
    | d r1 r2 =>
      cases r2
      cases r1 with
      | tup a b => exact ⟨_, _, rfl, .inr ⟨.of (x _ _ a), q _ F H (Ex.refl _) (Ext.refl x) (.tup a b)⟩⟩
  · cases h
theorem p_tupO (K : PySem.W.Frag) : PrO (rTupS K) gTupO := fun xs d p vs F H Q h hp r x q => by
  unfold gTupO at h
  cases h
  exact ⟨_, _, rfl, .inl ⟨.of hp, fun l nl => q _ _ _ (Ex.new nl) (Ext.lay x nl) (.tup upd_same ((Ext.lay x nl).ff.dpa _ _ r))⟩⟩
def rLstS (K : PySem.W.Frag) : List V → Hp → VK → Prop := fun xs H Q => ∃ p ys, xs = [.ref p] ∧ (SqL K H p ys ∨ SqT K H p ys) ∧ ∀ l, H l = none → Q (.ref l) (upd H l (.lst ys))
theorem p_lst (K : PySem.W.Frag) : PrNF (rLstS K) gLst := fun B as d vs F H Q h r x q => by
  unfold gLst at h
  split at h
  · cases h
    cases r with
    | d r1 r2 =>
      cases r2
      cases r1 with
      | lst a b => exact ⟨_, _, rfl, .inl (.of (x _ _ a)), fun l nl => q l _ nl b⟩
  · cases h
    cases r with
    | d r1 r2 =>
      cases r2
      cases r1 with
      | tup a b => exact ⟨_, _, rfl, .inr (.of (x _ _ a)), fun l nl => q l _ nl b⟩
  · cases h
def gLstO : List D → Option (List D) := fun xs => some xs
theorem p_lstO (K : PySem.W.Frag) : PrOF (rLstS K) gLstO := fun xs d p vs F H Q h hp r x q => by
  unfold gLstO at h
  cases h
  exact ⟨_, _, rfl, .inl (.of hp), fun l nl => q l _ nl r⟩
/-! list(range(n)) -/
def rgOk (a b : Int) : Prop := RgOk a b
@[irreducible] def dec_rgOk (a b : Int) : Decidable (rgOk a b) := by unfold rgOk RgOk; infer_instance
instance (a b : Int) : Decidable (rgOk a b) := dec_rgOk a b
def mLR1 {S : Type} (f : M S D) : M S (List D) := bnd f fun d => match d with
  | .int n => if rgOk 0 n then rt (rngD 0 n.toNat) else stk
  | _ => stk
theorem rg_rp (n : Int) : RpA F (rgV 0 n) (rngD 0 n.toNat) := by
  have z : ∀ (l : List Nat), RpA F (l.map fun i => V.int (0 + (i : Nat))) (l.map fun (i : Nat) => PyData.int (0 + (i : Int))) := fun l => by
    induction l with
    | nil => exact .nil
    | cons a r ih => exact .cons (.int _) ih
  unfold rgV rngD
  rw [Int.sub_zero]
  exact z _
theorem f_listR1 {a : Expr} {f : M P.B.S D} {p p2 pos2 : Pos} (hc : X.calm = true) (hl : X.mg "list" = none) (hr : X.mg "range" = none) (ha : XE P X W a f) (hg : Gl X "list" := by rfl) (hg2 : Gl X "range" := by rfl)
    (na : starEach [a] X.env = (false, eval a X.env) :: starEach [] X.env := by rfl) (na2 : starEach [.Call (.Name "range" p2) [a] [] pos2] X.env = (false, eval (.Call (.Name "range" p2) [a] [] pos2) X.env) :: starEach [] X.env := by rfl) :
    XF P X W (.Call (.Name "list" p) [.Call (.Name "range" p2) [a] [] pos2] [] pos) (mLR1 f) :=
  pe_imp (pe_listRg hc hg hl (prg_1 hg2 hr ha na) na2) fun σ H Q ⟨F, e, k, h⟩ => tX_of k h fun d e1 F1 H1 v k1 s1 r1 h1 => by
    cases r1 with
    | int n =>
      dsimp only at h1
      split at h1
      · rename_i hl
        exact ⟨n, rfl, hl, fun q nq => h1.grow k1 (Ex.new nq) (Ext.layO k1.ext.fh nq) q _ (s1.non nq) upd_same (k1.fresh nq).1 (rg_rp n)⟩
      · exact h1.elim
    | _ => exact h1.elim
end
end Mi
set_option maxHeartbeats 4000000
namespace Mi
open PySem PySem.Spec PyProof.Rows L2

section
variable {P : Pm} {X : Cx} {W : WX} {α β : Type} {e e1 : En P.B.S} {σ : St} {F H F1 H1 : Hp} {pos : Pos} {D : Ends}
/-- the kept-apart list in slot i is changed -/
theorem EOk.mutOb {i : Nat} {xs ys : OD} {p : Addr} {zs : HO} (k : EOk P e σ F H) (h : e.sl[i]? = some (.ob xs)) (hp : σ[i]? = some (some (.ref p))) (r : OdR F zs ys) :
    EOk P { e with sl := e.sl.set i (.ob ys) } σ F (upd H p zs) ∧ Step P e { e with sl := e.sl.set i (.ob ys) } σ F H F (upd H p zs) := by
  obtain ⟨p', vs, q1, q2, q3, q4, q5, q6⟩ := k.ow i xs h
  rw [hp] at q1
  cases q1
  have fh : Ex F (upd H p zs) := fun a o z => by
    have : a ≠ p := fun y => by rw [y, q3] at z; cases z
    rw [upd_ne this]
    exact k.ext.fh a o z
  have kp : ∀ a o, H a = some o → ∃ u, upd H p zs a = some u := fun a o z => by
    by_cases y : a = p
    · subst y; exact ⟨_, upd_same⟩
    · exact ⟨o, by rw [upd_ne y]; exact z⟩
  refine ⟨⟨⟨k.ext.ff, fh, k.ext.nw, fun a o z => ?_⟩, fun a o g1 g2 => ?_, ?_, k.off, by simpa using k.len, fun j d g => ?_, fun j g => ?_, fun j ws g => ?_, fun j j' us ws r g g' => ?_, fun j x g => ?_⟩, ⟨Ex.refl _, fun a o z => .inl ⟨_, z⟩, kp, fun a z => ?_, fun a o g1 g2 g3 => ?_⟩⟩
  · obtain ⟨u, z⟩ := k.ext.kp a o z; exact kp a u z
  · have : a ≠ p := fun y => by rw [y, q4] at g2; cases g2
    rw [upd_ne this]; exact k.fra a o g1 g2
  · refine P.B.loc _ _ _ (fun a o g1 g2 => ?_) k.sto
    have : a ≠ p := fun y => q5 (by rw [← y]; exact g1)
    rw [upd_ne this]; exact g2
  · rcases lget_set g with ⟨rfl, z⟩ | ⟨_, z⟩
    · cases z
    · exact k.sh j d z
  · rcases lget_set g with ⟨rfl, z⟩ | ⟨_, z⟩
    · cases z
    · exact k.tok j z
  · rcases lget_set g with ⟨rfl, z⟩ | ⟨ne, z⟩
    · cases z
      exact ⟨p, zs, hp, upd_same, q3, q4, q5, r⟩
    · obtain ⟨r', vs', w1, w2, w3, w4, w5, w6⟩ := k.ow j ws z
      have : r' ≠ p := fun y => ne (k.sep j i ws xs r' z h w1 (by rw [y]; exact hp))
      exact ⟨r', vs', w1, by rw [upd_ne this]; exact w2, w3, w4, w5, w6⟩
  · have un : ∀ {m : Nat} {us : OD}, (e.sl.set i (.ob ys))[m]? = some (.ob us) → ∃ ws, e.sl[m]? = some (.ob ws) := fun {m us} g => by
      rcases lget_set g with ⟨rfl, z⟩ | ⟨_, z⟩
      · exact ⟨xs, h⟩
      · exact ⟨us, z⟩
    obtain ⟨u1, z1⟩ := un g
    obtain ⟨u2, z2⟩ := un g'
    exact k.sep j j' u1 u2 r z1 z2
  · rcases lget_set g with ⟨rfl, z⟩ | ⟨_, z⟩
    · cases z
    · exact k.ex j x z
  · obtain ⟨j, ws, z1, z2⟩ := z
    rcases lget_set z1 with ⟨rfl, z⟩ | ⟨_, z⟩
    · exact ⟨j, xs, h, z2⟩
    · exact ⟨j, ws, z, z2⟩
  · have : a ≠ p := fun y => g2 ⟨i, xs, h, by rw [y]; exact hp⟩
    rw [upd_ne this]; exact g3
theorem EOk.mut {i : Nat} {xs ys : List Mi.D} {p : Addr} {zs : List V} (k : EOk P e σ F H) (h : e.sl[i]? = some (.ow xs)) (hp : σ[i]? = some (some (.ref p))) (r : RpA F zs ys) :
    EOk P { e with sl := e.sl.set i (.ow ys) } σ F (upd H p (.lst zs)) ∧ Step P e { e with sl := e.sl.set i (.ow ys) } σ F H F (upd H p (.lst zs)) := k.mutOb (ys := .lst ys) (zs := .lst zs) h hp r
def owAt {S : Type} (i : Nat) (e : En S) : Option (List Mi.D) := match e.sl[i]? with
  | some (.ob (.lst xs)) => some xs
  | _ => none
theorem owAt_ok {S : Type} {i : Nat} {e : En S} {xs : List Mi.D} (h : owAt i e = some xs) : e.sl[i]? = some (.ow xs) := by
  unfold owAt at h
  split at h
  · cases h; assumption
  · cases h
def withO {S α : Type} (i : Nat) (m : M S α) : M S α := fun e => match owAt i e with
  | some _ => m e
  | none => .stuck
theorem withO_of {i : Nat} {m : M P.B.S α} {G : α → En P.B.S → Hp → Hp → Prop} (k : EOk P e σ F H) (h : Sat P W e σ F H (withO i m e) G) : ∃ p vs xs, owAt i e = some xs ∧ σ[i]? = some (some (.ref p)) ∧ H p = some (.lst vs) ∧ RpA F vs xs ∧ Sat P W e σ F H (m e) G := by
  unfold withO at h
  cases q : owAt i e with
  | none => rw [q] at h; exact h.elim
  | some xs =>
    rw [q] at h
    obtain ⟨p, vs, q1, q2, _, _, _, q3⟩ := k.owL i xs (owAt_ok q)
    exact ⟨p, vs, xs, rfl, q1, q2, q3, h⟩
/-- methods of lists -/
def PrM (r : V → List V → Hp → VK → Prop) (g : List Mi.D → List Arg → Option (Mi.D × List Mi.D)) : Prop :=
  ∀ (B : Amb) xs as d ys p vs ws (F H : Hp) Q, g xs as = some (d, ys) → H p = some (.lst vs) → RpA F vs xs → ArgsOk B F ws as → Ex F H → (∀ v zs, RpA F zs ys → Rp F v d → Q v (upd H p (.lst zs))) → r (.ref p) ws H Q
def mMeth {S : Type} (i : Nat) (g : List Mi.D → List Arg → Option (Mi.D × List Mi.D)) (m : M S (List Arg)) : M S Mi.D := withO i (bnd m fun as e => match owAt i e with
  | some xs => (match g xs as with
    | some (d, ys) => .ok d { e with sl := e.sl.set i (.ow ys) }
    | none => .stuck)
  | none => .stuck)
theorem im_meth {i : Nat} {r : V → List V → Hp → VK → Prop} {g : List Mi.D → List Arg → Option (Mi.D × List Mi.D)} {m : M P.B.S (List Arg)} (pr : PrM r g) {Q : VK} (h : tX P W (mMeth i g m) σ H Q) : tBM X.K "list" r (tVar i) (tA P W m) σ H Q := by
  obtain ⟨F, e, k, h⟩ := h
  obtain ⟨p, vs, xs, _, q1, q2, q3, h⟩ := withO_of k h
  refine ⟨_, q1, .inl ⟨rfl, vs, .of q2⟩, tA_of k h fun as e1 F1 H1 ws k1 s1 r1 h1 => ?_⟩
  cases z : owAt i e1 with
  | none => rw [z] at h1; exact h1.elim
  | some ys =>
    rw [z] at h1
    dsimp only at h1
    cases y : g ys as with
    | none => rw [y] at h1; exact h1.elim
    | some dz =>
      obtain ⟨d, zs⟩ := dz
      rw [y] at h1
      obtain ⟨p', vs', w1, w2, _, _, _, w6⟩ := k1.owL i ys (owAt_ok z)
      rw [q1] at w1
      cases w1
      refine pr P.B ys as d zs p vs' ws F1 H1 Q y w2 w6 r1 k1.ext.fh fun v us ra rv => ?_
      obtain ⟨k2, s2⟩ := k1.mut (owAt_ok z) q1 ra
      exact h1 _ _ k2 s2 v rv
def mMeth0 {S : Type} (i : Nat) (g : List Mi.D → List Arg → Option (Mi.D × List Mi.D)) : M S Mi.D := mMeth i g mNil
section
variable {x : Str} {p apos : Pos} {a : Expr} {es : List Expr} {name : Str} {id : String} {r : V → List V → Hp → VK → Prop} {g : List Mi.D → List Arg → Option (Mi.D × List Mi.D)}
theorem x_meth (i : Nat) {m : M P.B.S (List Arg)} (slot : PySem.Slot "list" name id) (hty : typeOf (.builtin id) = pure (.type "method_descriptor")) (hr : MtR X id r) (pr : PrM r g) (ha : XA P X W (a :: es) m) (hN : X.N[i]? = some x := by rfl)
    (hy : Vis X.env.scope x := by first | exact Or.inl rfl | exact Or.inr (Or.inl rfl) | exact Or.inr (Or.inr rfl)) (hd : (x == ("__debug__" : Str)) = false := by decide) (hcd : (x == ("__classdict__" : Str)) = false := by decide)
    (hbase : attributeBase (.Name x p) name X.env (eval (.Name x p) X.env) = eval (.Name x p) X.env := by rfl)
    (hfew : ((backTo pos (starEach (a :: es) X.env)).all (fun x => !x.1) && (backToKw pos (keywordEach [] X.env)).all (fun x => x.1.isSome)
      && decide ((a :: es).length + ([] : List Keyword).length + (if ([] : List Keyword).isEmpty then 0 else 1) < 30)) = true := by rfl)
    (hline : (apos.endLine == pos.line) = true := by rfl) (hs : starEach (a :: es) X.env = (false, eval a X.env) :: starEach es X.env := by rfl) (hpl : (backTo pos (starEach es X.env)).any (·.1) = false := by rfl) :
    XE P X W (.Call (.Attribute (.Name x p) name apos) (a :: es) [] pos) (mMeth i g m) :=
  pe_imp (pe_bm PySem.F.plainAttrs_list slot hty hr (pe_var hN hy hd hcd) ha hbase hfew hline hs hpl) fun _ _ _ h => im_meth pr h
theorem x_meth0 (i : Nat) (slot : PySem.Slot "list" name id) (hty : typeOf (.builtin id) = pure (.type "method_descriptor")) (hr : MtR X id r) (pr : PrM r g) (hN : X.N[i]? = some x := by rfl)
    (hy : Vis X.env.scope x := by first | exact Or.inl rfl | exact Or.inr (Or.inl rfl) | exact Or.inr (Or.inr rfl)) (hd : (x == ("__debug__" : Str)) = false := by decide) (hcd : (x == ("__classdict__" : Str)) = false := by decide)
    (hbase : attributeBase (.Name x p) name X.env (eval (.Name x p) X.env) = eval (.Name x p) X.env := by rfl) (hline : (apos.endLine == pos.line) = true := by rfl) :
    XE P X W (.Call (.Attribute (.Name x p) name apos) [] [] pos) (mMeth0 i g) :=
  pe_imp (pe_bm0 PySem.F.plainAttrs_list slot hty hr (pe_var hN hy hd hcd) hbase hline) fun σ H Q h => by
    obtain ⟨v, h1, h2, h3⟩ := im_meth (X := X) pr h
    obtain ⟨F, e, k, h⟩ := h
    obtain ⟨p, vs, xs, z, q1, q2, q3, h⟩ := withO_of k h
    refine ⟨_, q1, .inl ⟨rfl, vs, .of q2⟩, ?_⟩
    have hb : bnd mNil (fun as e => match owAt i e with
      | some xs => (match g xs as with
        | some (d, ys) => .ok d { e with sl := e.sl.set i (.ow ys) }
        | none => .stuck)
      | none => .stuck) e = (match owAt i e with
      | some xs => (match g xs [] with
        | some (d, ys) => (.ok d { e with sl := e.sl.set i (.ow ys) } : Out P.B.S Mi.D)
        | none => .stuck)
      | none => .stuck) := rfl
    rw [hb, z] at h
    dsimp only at h
    cases y : g xs [] with
    | none => rw [y] at h; exact h.elim
    | some dz =>
      obtain ⟨d, zs⟩ := dz
      rw [y] at h
      refine pr P.B xs [] d zs p vs [] F H Q y q2 q3 .nil k.ext.fh fun v us ra rv => ?_
      obtain ⟨k2, s2⟩ := k.mut (owAt_ok z) q1 ra
      exact h _ _ k2 s2 v rv
end
def gAppend : List Mi.D → List Arg → Option (Mi.D × List Mi.D)
  | xs, [.d d] => if xs.length < sizeLine then some (.none, xs ++ [d]) else none
  | _, _ => none
theorem p_append : PrM rAppend gAppend := fun B xs as d ys p vs ws F H Q h hp r ra x q => by
  unfold gAppend at h
  split at h
  · split at h
    · rename_i hl
      cases h
      cases ra with
      | d r1 r2 => cases r2; exact ⟨p, vs, _, rfl, rfl, hp, by rw [RpA.len r]; exact hl, q _ _ (RpA.app r (RpA.one r1)) .non⟩
    · cases h
  · cases h
def gPop : List Mi.D → List Arg → Option (Mi.D × List Mi.D)
  | xs, [] => match xs[xs.length - 1]? with
    | some d => some (d, xs.dropLast)
    | none => none
  | _, _ => none
theorem RpA.dl {F : Hp} : ∀ {vs : List V} {ds : List Mi.D}, RpA F vs ds → RpA F vs.dropLast ds.dropLast
  | [], _, h => by cases h; exact .nil
  | [v], _, h => by
    cases h with
    | cons h1 h2 => cases h2; exact .nil
  | v :: w :: vs, _, h => by
    cases h with
    | cons h1 h2 =>
      cases h2 with
      | cons h3 h4 => exact .cons h1 (RpA.dl (.cons h3 h4))
theorem p_pop : PrM rPop gPop := fun B xs as d ys p vs ws F H Q h hp r ra x q => by
  unfold gPop at h
  split at h
  · split at h
    · rename_i z
      cases h
      cases ra
      obtain ⟨v, h1, h2⟩ := r.get z
      exact ⟨p, vs, v, rfl, rfl, hp, by rw [RpA.len r]; exact h1, q _ _ (RpA.dl r) h2⟩
    · cases h
  · cases h
def okIx (i : Int) : Prop := -(2 ^ 63) ≤ i ∧ i < 2 ^ 63
@[irreducible] def dec_okIx (i : Int) : Decidable (okIx i) := by unfold okIx; infer_instance
instance (i : Int) : Decidable (okIx i) := dec_okIx i
def gPopAt : List Mi.D → List Arg → Option (Mi.D × List Mi.D)
  | xs, [.d (.int i)] => if okIx i then (match seqIndex? i xs.length with
    | some k => (match xs[k]? with
      | some d => some (d, xs.eraseIdx k)
      | none => none)
    | none => none) else none
  | _, _ => none
theorem p_popAt : PrM rPopAt gPopAt := fun B xs as d ys p vs ws F H Q h hp r ra x q => by
  unfold gPopAt at h
  split at h
  · split at h
    · rename_i hl
      split at h
      · rename_i z
        split at h
        · rename_i w
          cases h
          cases ra with
          | d r1 r2 =>
            cases r2; cases r1
            obtain ⟨v, h1, h2⟩ := r.get w
            exact ⟨p, vs, _, _, v, rfl, rfl, hp, hl.1, hl.2, by rw [RpA.len r]; exact z, h1, q _ _ (RpA.erase _ r) h2⟩
        · cases h
      · cases h
    · cases h
  · cases h
/-- x[i] = e, x the kept-apart list of a slot -/
def mSetIx {S : Type} (i : Nat) (fe fi : M S Mi.D) : M S Fl := bnd fe fun d => withO i (bnd fi fun k e => match owAt i e, k with
  | some xs, .int n => (match ixN xs.length n with
    | some j => .ok .nx { e with sl := e.sl.set i (.ow (xs.set j d)) }
    | none => .stuck)
  | _, _ => .stuck)
theorem SatS.withO_of {i : Nat} {m : M P.B.S Fl} (k : EOk P e σ F H) (h : SatS P W F D (withO i m e)) : ∃ p vs xs, owAt i e = some xs ∧ σ[i]? = some (some (.ref p)) ∧ H p = some (.lst vs) ∧ RpA F vs xs ∧ SatS P W F D (m e) := by
  unfold withO at h
  cases q : owAt i e with
  | none => rw [q] at h; exact h.elim
  | some xs =>
    rw [q] at h
    obtain ⟨p, vs, q1, q2, _, _, _, q3⟩ := k.owL i xs (owAt_ok q)
    exact ⟨p, vs, xs, rfl, q1, q2, q3, h⟩
theorem s_setIx (i : Nat) {x : Str} {p spos : Pos} {ix a : Expr} {fe fi : M P.B.S Mi.D} (h : XE P X W a fe) (hi : XE P X W ix fi) (hN : X.N[i]? = some x := by rfl)
    (hy : Vis X.env.scope x := by first | exact Or.inl rfl | exact Or.inr (Or.inl rfl) | exact Or.inr (Or.inr rfl)) (hd : (x == ("__debug__" : Str)) = false := by decide) (hcd : (x == ("__classdict__" : Str)) = false := by decide)
    (ha : ∀ v, assign (.Subscript (.Name x p) ix spos) X.env v = (do
      let ov ← holding [v] (eval (.Name x p) X.env)
      let iv ← holding [v, ov] (eval ix X.env)
      standAt spos
      holding [v, ov, iv] (setItem ov iv v)
      release [v, ov, iv] []) := by intro _; rfl)
    (hs : swapsWithSole [.Subscript (.Name x p) ix spos] a pos.line X.env = pure false := by rfl) (hw : swappedStores [.Subscript (.Name x p) ix spos] a X.env = pure none := by rfl)
    (h1 : (assignEach [.Subscript (.Name x p) ix spos] X.env).map (·.2) = [assign (.Subscript (.Name x p) ix spos) X.env] := by rfl) : XS P X W (.Assign [.Subscript (.Name x p) ix spos] a pos) (mSetIx i fe fi) :=
  ps_imp (ps_asg h (pg_sub (pe_var hN hy hd hcd) hi set_list ha) hs hw h1) fun D σ H ⟨F, e, k, h⟩ => sX_of k h fun d e1 F1 H1 v k1 s1 r1 h1 => by
    obtain ⟨p, vs, xs, _, q1, q2, q3, h1⟩ := h1.withO_of k1
    refine ⟨_, q1, sX_of k1 h1 fun dk e2 F2 H2 vk k2 s2 r2 h2 => ?_⟩
    cases z : owAt i e2 with
    | none => rw [z] at h2; exact h2.elim
    | some ys =>
      rw [z] at h2
      cases r2 with
      | int n =>
        dsimp only at h2
        cases w : ixN ys.length n with
        | none => rw [w] at h2; exact h2.elim
        | some j =>
          rw [w] at h2
          obtain ⟨p', vs', w1, w2, _, _, _, w6⟩ := k2.owL i ys (owAt_ok z)
          rw [q1] at w1
          cases w1
          obtain ⟨k3, s3⟩ := k2.mut (owAt_ok z) q1 (RpA.set (s2.ff.dp _ _ r1) j w6)
          exact ⟨p, vs', n, j, rfl, rfl, w2, by rw [RpA.len w6]; exact w, h2 _ _ _ k3 (Ex.refl _)⟩
      | _ => exact h2.elim
/-- x op= e, a plain name -/
def mAug {S : Type} (i : Nat) (g : Mi.D → Mi.D → Option Mi.D) (f : M S Mi.D) : M S Fl := fun e => match e.sl[i]? with
  | some (.sh x) => bnd f (fun y => bnd (lft (g x y)) (stV i)) e
  | _ => .stuck
theorem s_aug (i : Nat) {x : Str} {op : Operator} {p : Pos} {a : Expr} {f : M P.B.S Mi.D} {ti : TIp} {g : Mi.D → Mi.D → Option Mi.D} (hN : X.N.Nodup) (h : XE P X W a f) (ho : PIp X op ti) (pr : Pr2 ti g) (hi : X.N[i]? = some x := by rfl) (hx : Loc X.env.scope x := by first | exact Or.inl rfl | exact Or.inr rfl)
    (hf : X.fn x = true ∨ X.env.scope.names.lookup x = some .local := by first | exact .inl rfl | exact .inr rfl) : XS P X W (.AugAssign (.Name x p) op a pos) (mAug i g f) :=
  ps_imp (ps_aug hN hi hx h ho hf) fun D σ H ⟨F, e, k, h⟩ => by
    unfold mAug at h
    split at h
    · rename_i d q
      obtain ⟨v, q1, q2⟩ := k.sh i d q
      refine ⟨v, q1, sX_of k h fun dy e1 F1 H1 w k1 s1 r1 h1 => ?_⟩
      obtain ⟨d3, hg, h2⟩ : ∃ d3, g d dy = some d3 ∧ SatS P W F1 D (stV i d3 e1) := by
        unfold bnd lft at h1
        cases y : g d dy with
        | none => rw [y] at h1; exact h1.elim
        | some d3 => rw [y] at h1; exact ⟨d3, rfl, h1⟩
      refine pr d dy d3 v w F1 H1 _ hg (s1.ff.dp _ _ q2) r1 k1.ext.fh fun u F' H' hx x rv => ?_
      exact h2 _ F' H' ((k1.grow hx x).1.put rv) x.ff
    · exact h.elim
def dAddI : Mi.D → Mi.D → Option Mi.D
  | .int a, .int b => some (.int (a + b))
  | _, _ => none
theorem p_ipadd : Pr2 (ipI fun i j => i + j) dAddI := fun d1 d2 d3 v1 v2 F H Q h r1 r2 x q => by
  unfold dAddI at h
  split at h
  · cases h; cases r1; cases r2; exact ⟨_, _, rfl, rfl, q _ F H (Ex.refl _) (Ext.refl x) (.int _)⟩
  · cases h
theorem p_ipsub : Pr2 (ipI fun i j => i - j) dSub := fun d1 d2 d3 v1 v2 F H Q h r1 r2 x q => by
  unfold dSub at h
  split at h
  · cases h; cases r1; cases r2; exact ⟨_, _, rfl, rfl, q _ F H (Ex.refl _) (Ext.refl x) (.int _)⟩
  · cases h

/-! raise -/
def tR (P : Pm) (W : WX) (m : M P.B.S Er) : St → Hp → XK → Prop := fun σ H Q => ∃ F e, EOk P e σ F H ∧ Sat P W e σ F H (m e) fun x _ F1 H1 => ∀ c d, ErOk P.mg F1 c d x → Q c d H1
abbrev XR (P : Pm) (X : Cx) (W : WX) (a : Expr) (m : M P.B.S Er) : Prop := PMk X a (tR P W m)
theorem pmk_imp {X : Cx} {a : Expr} {t u : St → Hp → XK → Prop} (h : PMk X a t) (i : ∀ σ H Q, u σ H Q → t σ H Q) : PMk X a u := fun pins s σ H Q I q => h pins s σ H Q I (i σ H Q q)
def mRaise {S : Type} (m : M S Er) : M S Fl := bnd m fun x e => .err x e
theorem s_raise {a : Expr} {m : M P.B.S Er} (hc : X.calm = true) (tk : Takes X W) (h : XR P X W a m) : XS P X W (.Raise (some a) none pos) (mRaise m) :=
  ps_imp (ps_raise hc tk h) fun D σ H ⟨F, e, k, h⟩ => ⟨F, e, k, Sat.imp h.bnd fun x e1 F1 H1 k1 s1 h1 c d r => h1 c d σ F1 H1 k1 (Ex.refl _) r⟩

/-! an own exception class whose __init__ keeps its arguments by a def -/
structure IS (F0 H0 : Hp) (a C : Addr) (d : Option Addr) (fs : List (Str × V)) (F H : Hp) : Prop where
  ext : Ext F0 H0 F H
  fr : ∀ b o, b ≠ a → H0 b = some o → H b = some o
  ha : H a = some (exo a C d)
  fa : F a = none
  hd : ∀ dx, d = some dx → H dx = some (exd dx fs) ∧ H0 dx = none ∧ dx ≠ a ∧ F dx = none
  h0 : ∃ o, H0 a = some o
  d0 : d = none → fs = []
theorem init_step {K : PySem.W.Frag} {mg : Str → Option Value} {fnp : List Arg → Unit → FO Unit} {E : St → XK} {F0 H0 : Hp} {a C : Addr} {d : Option Addr} {fs : List (Str × V)} {fld : Str} {i : Nat} {v : V} {x : Mi.D} {r : R} (T : OexC K C) (hno : PySem.W.findIn K (.ref C) fld = some none)
    (I : IS F0 H0 a C d fs F H) (h0 : σ[0]? = some (some (.ref a))) (hi : σ[i]? = some (some v)) (rv : Rp F v x) (hf : fnp [.d x] () = .val r ()) (hl : fs.length ≤ 900)
    (k : ∀ dx w F1 H1, IS F0 H0 a C (some dx) ((fld, w) :: fs) F1 H1 → Ex F F1 → Rp F1 w r.d → D.nx σ H1) :
    tOst K fld (tVar 0) (tCallS (spM mg B0 1 fnp) E (tCons (tVar i) tNil)) D σ H := by
  have main : ∀ {F1 H1 : Hp} {w : V}, Ext F H F1 H1 → (∀ b o, H b = some o → H1 b = some o) → Rp F1 w r.d → tVar 0 σ H1 fun x H2 => ∃ a C : Addr, x = .ref a ∧ OexC K C ∧ PySem.W.findIn K (.ref C) fld = some none ∧
      ((H2 a = some (exo a C none) ∧ ∀ dx, H2 dx = none → dx ≠ a → D.nx σ (upd (upd H2 dx (exd dx [(fld, w)])) a (exo a C (some dx)))) ∨
        ∃ (dx : Addr) (fs : List (Str × V)), H2 a = some (exo a C (some dx)) ∧ H2 dx = some (exd dx fs) ∧ fs.length ≤ 900 ∧ D.nx σ (upd H2 dx (exd dx ((fld, w) :: fs)))) := fun {F1 H1 w} x hk rw => by
    have ha := hk _ _ I.ha
    have fa1 : F1 a = none := by
      cases z : F1 a with
      | none => rfl
      | some u =>
        rcases x.nw a u z with ⟨y, q⟩ | q
        · rw [I.fa] at q; cases q
        · rw [I.ha] at q; cases q
    refine ⟨_, h0, a, C, rfl, T, hno, ?_⟩
    cases d with
    | none =>
      refine .inl ⟨ha, fun dx nd ne => ?_⟩
      have e0 : fs = [] := I.d0 rfl
      subst e0
      have fd1 : F1 dx = none := x.fh.back nd
      have Hn : H dx = none := x.non nd
      refine k dx w F1 _ ⟨?_, fun b o nb hb => ?_, upd_same, fa1, fun dx' e => ?_, I.h0, fun e => nomatch e⟩ x.ff rw
      · refine ⟨I.ext.ff.trans x.ff, fun b o z => ?_, (I.ext.trans x).nw, fun b o z => ?_⟩
        · have n1 : b ≠ a := fun y => by rw [y, fa1] at z; cases z
          have n2 : b ≠ dx := fun y => by rw [y, fd1] at z; cases z
          rw [upd_ne n1, upd_ne n2]
          exact x.fh b o z
        · obtain ⟨u, q⟩ := (I.ext.trans x).kp b o z
          by_cases n1 : b = a
          · subst n1; exact ⟨_, upd_same⟩
          · have n2 : b ≠ dx := fun y => by rw [y, nd] at q; cases q
            exact ⟨u, by rw [upd_ne n1, upd_ne n2]; exact q⟩
      · have q := hk _ _ (I.fr b o nb hb)
        have n2 : b ≠ dx := fun y => by rw [y, nd] at q; cases q
        rw [upd_ne nb, upd_ne n2]; exact q
      · cases e
        exact ⟨by rw [upd_ne ne, upd_same], I.ext.non Hn, ne, fd1⟩
    | some dx =>
      obtain ⟨g1, g2, g3, g4⟩ := I.hd dx rfl
      have hdx := hk _ _ g1
      have fd1 : F1 dx = none := by
        cases z : F1 dx with
        | none => rfl
        | some u =>
          rcases x.nw dx u z with ⟨y, q⟩ | q
          · rw [g4] at q; cases q
          · rw [g1] at q; cases q
      refine .inr ⟨dx, fs, ha, hdx, hl, k dx w F1 _ ⟨?_, fun b o nb hb => ?_, by rw [upd_ne (Ne.symm g3)]; exact ha, fa1, fun dx' e => ?_, I.h0, fun e => nomatch e⟩ x.ff rw⟩
      · refine ⟨I.ext.ff.trans x.ff, fun b o z => ?_, (I.ext.trans x).nw, fun b o z => ?_⟩
        · have n2 : b ≠ dx := fun y => by rw [y, fd1] at z; cases z
          rw [upd_ne n2]
          exact x.fh b o z
        · obtain ⟨u, q⟩ := (I.ext.trans x).kp b o z
          by_cases n2 : b = dx
          · subst n2; exact ⟨_, upd_same⟩
          · exact ⟨u, by rw [upd_ne n2]; exact q⟩
      · have n2 : b ≠ dx := fun y => by rw [y, g2] at hb; cases hb
        rw [upd_ne n2]; exact hk _ _ (I.fr b o nb hb)
      · cases e
        exact ⟨upd_same, g2, g3, fd1⟩
  refine ⟨v, hi, rfl, F, [.d x], (), I.ext.fh, fun _ z => (nomatch z), trivial, .d rv .nil, ?_⟩
  rw [hf]
  have keep : ∀ {F1 H1 : Hp}, Pst B0 () F H F1 H1 → ∀ b o, H b = some o → H1 b = some o := fun p b o z => p.fr b o (fun y => nomatch y) z
  cases r with
  | sh d => exact fun F1 H1 p w rw => main p.ext (keep p) rw
  | fr xs =>
    intro F1 H1 p q vs n1 n2 n3 n4
    have ff : Ex F1 (upd F1 q (.lst vs)) := Ex.new n3
    refine main (F1 := upd F1 q (.lst vs)) ⟨p.ext.ff.trans ff, p.ext.fh.updL n2, fun a o z => ?_, p.ext.kp⟩ (keep p) (.lst upd_same (ff.dpa _ _ n4))
    by_cases y : a = q
    · subst y; exact .inr n1
    · rw [upd_ne y] at z; exact p.ext.nw a o z
def zipR {α : Type} : List Str → List α → List (Str × α) → List (Str × α)
  | f :: fs, w :: ws, acc => zipR fs ws ((f, w) :: acc)
  | _, _, acc => acc
/-- what __init__ promises: the fields stand, the last one first -/
def initSp (fnp : List Arg → Unit → FO Unit) (C : Addr) (flds : List Str) : Sp := fun vs H Q _ => ∃ a vals F xs rs, vs = .ref a :: vals ∧ vals.length = flds.length ∧ H a = some (exo a C none) ∧ Ex F H ∧ F a = none ∧ RpA F vals xs ∧
  Paired (fun (x : Mi.D) (r : R) => fnp [.d x] () = .val r ()) xs rs ∧ ∀ dx ws F1 H1, IS F H a C (some dx) (zipR flds ws []) F1 H1 → ws.length = flds.length → RpA F1 ws (rs.map R.d) → Q .non H1
def runAll (fnp : List Arg → Unit → FO Unit) : List Mi.D → Option (List R)
  | [] => some []
  | x :: xs => match fnp [.d x] () with
    | .val r _ => (runAll fnp xs).map (r :: ·)
    | _ => none
theorem runAll_ok {fnp : List Arg → Unit → FO Unit} : ∀ {xs : List Mi.D} {rs : List R}, runAll fnp xs = some rs → Paired (fun (x : Mi.D) (r : R) => fnp [.d x] () = .val r ()) xs rs
  | [], rs, h => by cases h; exact .nil
  | x :: xs, rs, h => by
    unfold runAll at h
    split at h
    · rename_i q
      obtain ⟨ts, h1, h2⟩ := Option.map_eq_some_iff.mp h
      subst h2
      exact .cons q (runAll_ok h1)
    · cases h
def mMk {S : Type} (n : Str) (flds : List Str) (fnp : List Arg → Unit → FO Unit) (m : M S (List Arg)) : M S Er := bnd m fun as => lft ((argD as).bind fun xs => if xs.length = flds.length then (runAll fnp xs).map fun rs => Er.mk n (zipR flds (rs.map R.d) []) else none)
theorem zipR_ok {F : Hp} : ∀ {flds : List Str} {ws : List V} {ds : List Mi.D} {acc : List (Str × V)} {acd : List (Str × Mi.D)}, RpA F ws ds → FsOk F acc acd → FsOk F (zipR flds ws acc) (zipR flds ds acd)
  | [], _, _, _, _, _, h => by unfold zipR; exact h
  | f :: fs, [], _, _, _, r, h => by cases r; unfold zipR; exact h
  | f :: fs, w :: ws, _, _, _, r, h => by
    cases r with
    | cons r1 r2 => unfold zipR; exact zipR_ok r2 (.cons ⟨rfl, r1⟩ h)
theorem r_make {k : Nat} {fd : FuncData} {ps flds : List Str} {x : Str} {C fI : Addr} {p : Pos} {a : Expr} {es : List Expr} {fnp : List Arg → Unit → FO Unit} {m : M P.B.S (List Arg)} (T : OexC X.K C) (iC : PySem.W.findIn X.K (.ref C) "__init__" = some (some (.ref fI))) (tI : PySem.W.typeIn X.K (.ref fI) = some (.type "function"))
    (F1 : FnOk X.prog X.w X.K X.mg X.base (L2.CX X.prog X.w) k fI fd ps (initSp fnp C flds)) (hr : Room (k + 1) X.A) (hb : Binds X.K fd ps []) (hm : X.mg x = some (.ref C)) (hmg : P.mg x = some (.ref C)) (hl : flds.length ≤ 1000) (ha : XA P X W (a :: es) m) (hg : Gl X x := by rfl)
    (hdb : (x == ("__debug__" : Str)) = false := by decide) (he : starEach (a :: es) X.env = (false, eval a X.env) :: starEach es X.env := by rfl) (hpl : (backTo pos (starEach es X.env)).any (·.1) = false := by rfl) : XR P X W (.Call (.Name x p) (a :: es) [] pos) (mMk x flds fnp m) :=
  pmk_imp (pmk_oex T iC tI F1 hr hb .nil passL hg hm ha hdb he hpl) fun σ H Q ⟨F, e, k, h⟩ => tA_of k h fun as e1 F1 H1 vs k1 s1 r1 h1 => by
    obtain ⟨er, hg, h2⟩ := h1.lft
    obtain ⟨xs, hg1, hg2⟩ := Option.bind_eq_some_iff.mp hg
    have ra := argD_ok r1 hg1
    split at hg2
    · rename_i hlen
      obtain ⟨rs, hg3, hg4⟩ := Option.map_eq_some_iff.mp hg2
      subst hg4
      have hvl : vs.length = flds.length := (RpA.len ra).trans hlen
      refine ⟨by rw [hvl]; exact hl, fun q nq => ?_⟩
      obtain ⟨kF, kH0, kO, kW⟩ := k1.fresh nq
      refine ⟨q, vs, F1, xs, rs, by rw [List.append_nil], hvl, upd_same, k1.ext.fh.updR kF, kF, ra, runAll_ok hg3, fun dx ws F2 H2 I2 hws r2 => ⟨rfl, ?_⟩⟩
      obtain ⟨g1, g2, g3, g4⟩ := I2.hd dx rfl
      rw [upd_ne g3] at g2
      refine ⟨dx, _, I2.ha, g1, g2, ?_⟩
      have ex1 : Ex H1 (upd (del H2 q) dx (.xd (zipR flds ws []))) := fun b o z => by
        have n1 : b ≠ q := fun y => by rw [y, nq] at z; cases z
        have n2 : b ≠ dx := fun y => by rw [y, g2] at z; cases z
        rw [upd_ne n2, del_ne n1]
        exact I2.fr b o n1 (by rw [upd_ne n1]; exact z)
      have ff : Ex F2 (upd F2 dx (.xd (zipR flds ws []))) := Ex.new g4
      have x : Ext F1 H1 (upd F2 dx (.xd (zipR flds ws []))) (upd (del H2 q) dx (.xd (zipR flds ws []))) := by
        refine ⟨I2.ext.ff.trans ff, fun b o z => ?_, fun b o z => ?_, fun b o z => ⟨o, ex1 b o z⟩⟩
        · by_cases y : b = dx
          · subst y; rw [upd_same] at z ⊢; exact z
          · rw [upd_ne y] at z ⊢
            have n1 : b ≠ q := fun w => by rw [w, I2.fa] at z; cases z
            rw [del_ne n1]
            exact I2.ext.fh b o z
        · by_cases y : b = dx
          · subst y; exact .inr g2
          · rw [upd_ne y] at z
            rcases I2.ext.nw b o z with w | w
            · exact .inl w
            · have n1 : b ≠ q := fun w => by rw [w, I2.fa] at z; cases z
              rw [upd_ne n1] at w
              exact .inr w
      refine h2.grow k1 ex1 x _ _ ⟨hmg, .inr ⟨dx, _, rfl, upd_same, zipR_ok (ff.dpa _ _ r2) .nil⟩⟩
    · cases hg2
end
end Mi
set_option maxHeartbeats 4000000
namespace Mi
open PySem PySem.Spec PyProof.Rows L2

section
variable {P : Pm} {X : Cx} {W : WX} {α β : Type} {e e1 : En P.B.S} {σ : St} {F H F1 H1 : Hp} {pos : Pos} {D : Ends}

/-- a target leaves no kept-apart list in the slots that it sets -/
def GOk {S : Type} {δ : Type} (l : List Nat) (g : δ → M S Unit) : Prop := ∀ d e u e1, g d e = .ok u e1 → ∀ (i : Nat) (xs : OD), e1.sl[i]? = some (.ob xs) → i ∉ l ∧ e.sl[i]? = some (.ob xs)
theorem go_name {S : Type} (i : Nat) : GOk (S := S) [i] (gN i) := fun d e u e1 h j xs q => by
  unfold gN at h
  cases h
  rcases lget_set q with ⟨_, z⟩ | ⟨ne, z⟩
  · cases z
  · exact ⟨by simp [ne], z⟩
theorem go_nil {S : Type} : GOk (S := S) [] gE := fun d e u e1 h j xs q => by
  unfold gE at h
  cases d with
  | nil => cases h; exact ⟨by simp, q⟩
  | cons _ _ => cases h
theorem go_cons {S : Type} {l1 l2 : List Nat} {g : Mi.D → M S Unit} {k : List Mi.D → M S Unit} (h1 : GOk l1 g) (h2 : GOk l2 k) : GOk (l1 ++ l2) (gC g k) := fun ds e u e2 h j xs q => by
  cases ds with
  | nil => cases h
  | cons d r =>
    unfold gC bnd at h
    dsimp only at h
    cases y : g d e with
    | ok a e1 =>
      rw [y] at h
      obtain ⟨n2, q2⟩ := h2 r e1 u e2 h j xs q
      obtain ⟨n1, q1⟩ := h1 d e a e1 y j xs q2
      exact ⟨fun z => (List.mem_append.mp z).elim n1 n2, q1⟩
    | err _ _ => rw [y] at h; cases h
    | stuck => rw [y] at h; cases h
theorem go_tup {S : Type} {l : List Nat} {k : List Mi.D → M S Unit} (h1 : GOk l k) : GOk l (gT k) := fun d e u e1 h => by
  cases d with
  | tuple ds => exact h1 ds e u e1 h
  | _ => cases h

def wipeE {S : Type} (l : List Nat) (e : En S) : En S := { e with sl := l.foldr (fun v s => s.set v .un) e.sl }
theorem wipeE_st {S : Type} (l : List Nat) (e : En S) : (wipeE l e).st = e.st := rfl
theorem wipeE_ow {S : Type} {l : List Nat} {e : En S} {i : Nat} {xs : OD} (h : (wipeE l e).sl[i]? = some (.ob xs)) : i ∉ l ∧ e.sl[i]? = some (.ob xs) := by
  induction l with
  | nil => exact ⟨by simp, h⟩
  | cons v l ih =>
    have h2 : ((wipeE l e).sl.set v .un)[i]? = some (.ob xs) := h
    rcases lget_set h2 with ⟨_, z⟩ | ⟨ne, z⟩
    · cases z
    · obtain ⟨a, b⟩ := ih z
      exact ⟨by simp [ne, a], b⟩
theorem EOk.wipes {l : List Nat} (k : EOk P e σ F H) : EOk P (wipeE l e) (L2.wipe σ l) F H := by
  induction l with
  | nil => exact k
  | cons v l ih => exact ih.wipe (i := v) (v := none)
theorem wipe_eq {σ τ : St} {l : List Nat} (h : Alike l σ τ) : L2.wipe τ l = L2.wipe σ l := by
  apply List.ext_getElem?
  intro j
  by_cases hj : j ∈ l
  · have z : ∀ (ρ : St), (L2.wipe ρ l)[j]? = if j < ρ.length then some none else none := fun ρ => by
      have : ∀ m : List Nat, j ∈ m → (L2.wipe ρ m)[j]? = if j < ρ.length then some none else none := by
        intro m
        induction m with
        | nil => intro hm; cases hm
        | cons v m ih =>
          intro hm
          show ((L2.wipe ρ m).set v none)[j]? = _
          by_cases hv : v = j
          · subst hv
            by_cases hl : v < ρ.length
            · rw [List.getElem?_set_self (by rw [wipe_length]; exact hl), if_pos hl]
            · rw [if_neg hl, List.getElem?_eq_none (by rw [List.length_set, wipe_length]; omega)]
          · rw [List.getElem?_set_ne hv]
            exact ih (by rcases List.mem_cons.mp hm with q | q; exact (hv q.symm).elim; exact q)
      exact this l hj
    rw [z, z, h.1]
  · rw [wipe_out hj, wipe_out hj]
    exact h.2 j hj
theorem alike_wipe {σ : St} {l : List Nat} : Alike l (L2.wipe σ l) σ := ⟨(wipe_length σ l).symm, fun j hj => (wipe_out hj).symm⟩
def keepS : Slot → Slot
  | .sh d => .sh d
  | _ => .un
def resE {S : Type} (l : List Nat) (e0 e : En S) : En S := { e with sl := l.foldr (fun v s => s.set v (keepS (e0.sl.getD v .un))) e.sl }
theorem resE_at {S : Type} {l : List Nat} {e0 e : En S} {i : Nat} {s : Slot} (h : (resE l e0 e).sl[i]? = some s) : (i ∈ l ∧ s = keepS (e0.sl.getD i .un)) ∨ (i ∉ l ∧ e.sl[i]? = some s) := by
  induction l with
  | nil => exact .inr ⟨by simp, h⟩
  | cons v l ih =>
    have h2 : ((resE l e0 e).sl.set v (keepS (e0.sl.getD v .un)))[i]? = some s := h
    rcases lget_set h2 with ⟨rfl, z⟩ | ⟨ne, z⟩
    · exact .inl ⟨List.mem_cons_self, z⟩
    · rcases ih z with ⟨a, b⟩ | ⟨a, b⟩
      · exact .inl ⟨List.mem_cons_of_mem _ a, b⟩
      · exact .inr ⟨by simp [ne, a], b⟩
theorem resE_len {S : Type} {l : List Nat} {e0 e : En S} : (resE l e0 e).sl.length = e.sl.length := by
  induction l with
  | nil => rfl
  | cons v l ih =>
    have : (resE (v :: l) e0 e).sl = (resE l e0 e).sl.set v (keepS (e0.sl.getD v .un)) := rfl
    rw [this, List.length_set, ih]
/-- back from a block: the slots of its own names as before -/
theorem EOk.unwipe {l : List Nat} {e0 : En P.B.S} {F0 H0 : Hp} (k0 : EOk P e0 σ F0 H0) (k : EOk P e (L2.wipe σ l) F H) (x : Ex F0 F) : EOk P (resE l e0 e) σ F H := by
  have at0 : ∀ {i : Nat} {d : Mi.D}, keepS (e0.sl.getD i .un) = .sh d → e0.sl[i]? = some (.sh d) := fun {i d} h => by
    rw [List.getD_eq_getElem?_getD] at h
    cases q : e0.sl[i]? with
    | none => rw [q] at h; cases h
    | some s =>
      rw [q] at h
      cases s <;> cases h
      rfl
  have no : ∀ {i : Nat} {s : Slot}, keepS (e0.sl.getD i .un) = s → (∃ d, s = .sh d) ∨ s = .un := fun {i s} h => by
    cases q : e0.sl.getD i .un with
    | sh d => rw [q] at h; exact .inl ⟨d, h.symm⟩
    | _ => rw [q] at h; exact .inr h.symm
  refine ⟨k.ext, k.fra, k.sto, k.off, by rw [resE_len, k.len, wipe_length], fun j d h => ?_, fun j h => ?_, fun j xs h => ?_, fun j j' xs ys p h h' g g' => ?_, fun j y h => ?_⟩
  · rcases resE_at h with ⟨_, b⟩ | ⟨a, b⟩
    · obtain ⟨v, q1, q2⟩ := k0.sh j d (at0 b.symm)
      exact ⟨v, q1, x.dp _ _ q2⟩
    · obtain ⟨v, q1, q2⟩ := k.sh j d b
      rw [wipe_out a] at q1
      exact ⟨v, q1, q2⟩
  · rcases resE_at h with ⟨_, b⟩ | ⟨a, b⟩
    · rcases no b.symm with ⟨_, z⟩ | z <;> cases z
    · have q1 := k.tok j b
      rw [wipe_out a] at q1
      exact q1
  · rcases resE_at h with ⟨_, b⟩ | ⟨a, b⟩
    · rcases no b.symm with ⟨_, z⟩ | z <;> cases z
    · obtain ⟨p, vs, q1, q2⟩ := k.ow j xs b
      rw [wipe_out a] at q1
      exact ⟨p, vs, q1, q2⟩
  · rcases resE_at h with ⟨_, b⟩ | ⟨a, b⟩
    · rcases no b.symm with ⟨_, z⟩ | z <;> cases z
    · rcases resE_at h' with ⟨_, b'⟩ | ⟨a', b'⟩
      · rcases no b'.symm with ⟨_, z⟩ | z <;> cases z
      · exact k.sep j j' xs ys p b b' (by rw [wipe_out a]; exact g) (by rw [wipe_out a']; exact g')
  · rcases resE_at h with ⟨_, b⟩ | ⟨a, b⟩
    · rcases no b.symm with ⟨_, z⟩ | z <;> cases z
    · obtain ⟨q1, q2⟩ := k.ex j y b
      rw [wipe_out a] at q1
      exact ⟨q1, q2⟩

/-! comprehensions -/
def lcl {S : Type} (l : List Nat) (g : Mi.D → M S Unit) (t : M S Bool) (f : M S Mi.D) : List Mi.D → M S (List Mi.D)
  | [] => rt []
  | d :: ds => fun e => match g d e with
    | .ok _ e1 => bnd t (fun b => if b = true then bnd f (fun y e3 => bnd (lcl l g t f ds) (fun ys => rt (y :: ys)) (wipeE l e3)) else fun e3 => lcl l g t f ds (wipeE l e3)) e1
    | _ => .stuck
def mLc {S : Type} (l : List Nat) (m : M S (List Mi.D)) (g : Mi.D → M S Unit) (t : M S Bool) (f : M S Mi.D) : M S (List Mi.D) := bnd m fun ds e0 => if ds.length ≤ sizeLine then (match lcl l g t f ds (wipeE l e0) with
  | .ok ys e1 => .ok ys (resE l e0 e1)
  | .err _ _ => .stuck
  | .stuck => .stuck) else .stuck
/-- the state between two turns: what is made so far stands at L -/
structure Lw (P : Pm) (l : List Nat) (e0 : En P.B.S) (σ : St) (F0 H0 : Hp) (L : Addr) (e : En P.B.S) (acc : List Mi.D) (F H : Hp) : Prop where
  ok : EOk P e (L2.wipe σ l) F H
  at_ : ∃ vs, H L = some (.lst vs) ∧ RpA F vs acc
  fL : F L = none
  ff : Ex F0 F
  nw : ∀ a o, F a = some o → (∃ u, F0 a = some u) ∨ H0 a = none ∨ Ow e0 σ a
  kp : ∀ a o, H0 a = some o → ∃ u, H a = some u
  ow : ∀ a, Ow e (L2.wipe σ l) a → Ow e0 σ a
  fr : ∀ a o, a ∉ P.B.O → ¬ Ow e0 σ a → H0 a = some o → H a = some o
theorem EOk.poke {L : Addr} {o u : HO} (k : EOk P e σ F H) (h : H L = some u) (hF : F L = none) (h0 : P.H0 L = none) (hO : L ∉ P.B.O) (hw : ¬ Ow e σ L) : EOk P e σ F (upd H L o) := by
  refine ⟨⟨k.ext.ff, fun a v z => ?_, k.ext.nw, fun a v z => ?_⟩, fun a v g1 g2 => ?_, ?_, k.off, k.len, k.sh, k.tok, fun i xs q => ?_, k.sep, k.ex⟩
  · have : a ≠ L := fun y => by rw [y, hF] at z; cases z
    rw [upd_ne this]; exact k.ext.fh a v z
  · obtain ⟨w, z⟩ := k.ext.kp a v z
    by_cases y : a = L
    · subst y; exact ⟨_, upd_same⟩
    · exact ⟨w, by rw [upd_ne y]; exact z⟩
  · have : a ≠ L := fun y => by rw [y, h0] at g2; cases g2
    rw [upd_ne this]; exact k.fra a v g1 g2
  · refine P.B.loc _ _ _ (fun a v g1 g2 => ?_) k.sto
    have : a ≠ L := fun y => hO (by rw [← y]; exact g1)
    rw [upd_ne this]; exact g2
  · obtain ⟨p, vs, q1, q2, q3⟩ := k.ow i xs q
    have : p ≠ L := fun y => hw ⟨i, xs, q, by rw [← y]; exact q1⟩
    exact ⟨p, vs, q1, by rw [upd_ne this]; exact q2, q3⟩
theorem ow_wipe {l : List Nat} {a : Addr} (h : Ow (wipeE l e) (L2.wipe σ l) a) : Ow e σ a := by
  obtain ⟨i, xs, h1, h2⟩ := h
  obtain ⟨q1, q2⟩ := wipeE_ow h1
  rw [wipe_out q1] at h2
  exact ⟨i, xs, q2, h2⟩
theorem im_lc {l gl : List Nat} {m : M P.B.S (List Mi.D)} {g : Mi.D → M P.B.S Unit} {t : M P.B.S Bool} {f : M P.B.S Mi.D} (hg : GOk gl g) (hsub : ∀ j ∈ gl, j ∈ l) {Q : VK} (h : tF P W (mLc l m g t f) σ H Q) :
    tLc (tI P W m) (tG P gl g) (tT P WF t) (tX P WF f) l σ H Q := by
  obtain ⟨Fa, ea, ka, h⟩ := h
  refine ⟨Fa, ea, ka, Sat.imp h.bnd fun ds e0 F0 H0 k0 s0 h0 J hJ L nL => ?_⟩
  obtain ⟨fL0, hL0, oL0, wL0⟩ := k0.fresh nL
  split at h0
  · rename_i hlen
    cases hl : lcl l g t f ds (wipeE l e0) with
    | err _ _ => rw [hl] at h0; exact h0.elim
    | stuck => rw [hl] at h0; exact h0.elim
    | ok ys e1 =>
      rw [hl] at h0
      refine ⟨fun i mm Hc => mm = ds.length - i ∧ i ≤ ds.length ∧ ∃ F ec acc rest, Lw P l e0 σ F0 H0 L ec acc F Hc ∧ acc.length ≤ i ∧ lcl l g t f (ds.drop i) ec = .ok rest e1 ∧ acc ++ rest = ys, ⟨_, rfl, Nat.zero_le _, F0, wipeE l e0, [], ys, ?_, Nat.le_refl _, hl, rfl⟩, ?_⟩
      · have kw := k0.wipes (l := l)
        refine ⟨(kw.grow (Ex.new nL) (Ext.layO kw.ext.fh nL)).1, ⟨[], upd_same, .nil⟩, fL0, Ex.refl _, fun a o z => .inl ⟨o, z⟩, fun a o z => ⟨o, Ex.new nL a o z⟩, fun a z => ow_wipe z, fun a o _ _ z => Ex.new nL a o z⟩
      · rintro i mm Hc ⟨rfl, hi, F, ec, acc, rest, w, hacc, hr, hy⟩
        obtain ⟨stop, turn⟩ := hJ F Hc w.ff w.ok.ext.fh
        obtain ⟨vs, hvs, rvs⟩ := w.at_
        by_cases hlt : i < ds.length
        · have hd : ds[i]? = some ds[i] := List.getElem?_eq_getElem hlt
          obtain ⟨go, yld⟩ := turn i ds[i] hd
          rw [List.drop_eq_getElem_cons hlt] at hr
          unfold lcl at hr
          cases hgd : g ds[i] ec with
          | err _ _ => rw [hgd] at hr; cases hr
          | stuck => rw [hgd] at hr; cases hr
          | ok u e2 =>
            rw [hgd] at hr
            dsimp only at hr
            refine .inr ⟨go, fun Hn => ∃ F ec acc rest, Lw P l e0 σ F0 H0 L ec acc F Hn ∧ acc.length ≤ i + 1 ∧ lcl l g t f (ds.drop (i + 1)) ec = .ok rest e1 ∧ acc ++ rest = ys, fun Hn q => ⟨ds.length - (i + 1), by omega, rfl, hlt, q⟩, fun x H3 y => ?_⟩
            obtain ⟨F3, hx3, ex3, rx⟩ := yld x H3 y
            obtain ⟨k3, _⟩ := w.ok.grow hx3 ex3
            refine ⟨F3, ec, ds[i], k3, rx, ?_⟩
            rw [hgd]
            intro σ2 k4 al
            have al2 : Alike l (L2.wipe σ l) σ2 := ⟨al.1, fun j hj => al.2 j fun z => hj (hsub j z)⟩
            have ew : L2.wipe σ2 l = L2.wipe σ l := (wipe_eq al2).trans (wipe_eq (alike_wipe (σ := σ) (l := l))).symm
            refine ⟨ew, ?_⟩
            have ow2 : ∀ a, Ow e2 σ2 a → Ow e0 σ a := fun a ⟨j, xs, z1, z2⟩ => by
              obtain ⟨y1, y2⟩ := hg _ _ _ _ hgd j xs z1
              exact w.ow a ⟨j, xs, y2, by rw [← al.2 j y1]; exact z2⟩
            have nw2 : ¬ Ow e2 σ2 L := fun z => wL0 (ow2 L z)
            have f3 : F3 L = none := by
              cases z : F3 L with
              | none => rfl
              | some v =>
                rcases ex3.nw L v z with ⟨v2, q⟩ | q
                · rw [w.fL] at q; cases q
                · rw [hvs] at q; cases q
            cases ht : t e2 with
            | err _ _ => unfold bnd at hr; rw [ht] at hr; cases hr
            | stuck => unfold bnd at hr; rw [ht] at hr; cases hr
            | ok b e3 =>
              have hr2 := hr
              unfold bnd at hr2
              rw [ht] at hr2
              dsimp only at hr2
              refine ⟨F3, e2, k4, ?_⟩
              rw [ht]
              intro F5 H5 k5 s5
              have H5L : H5 L = some (.lst vs) := s5.fr L _ oL0 nw2 (hx3 _ _ hvs)
              have f5 : F5 L = none := by
                cases z : F5 L with
                | none => rfl
                | some v =>
                  rcases s5.nw L v z with ⟨v2, q⟩ | q | q
                  · rw [f3] at q; cases q
                  · rw [hx3 _ _ hvs] at q; cases q
                  · exact (nw2 q).elim
              have kp5 : ∀ a o, H0 a = some o → ∃ u, H5 a = some u := fun a o z => by
                obtain ⟨o1, z1⟩ := w.kp a o z
                exact s5.kp a o1 (hx3 _ _ z1)
              have nw5 : ∀ a o, F5 a = some o → (∃ u, F0 a = some u) ∨ H0 a = none ∨ Ow e0 σ a := fun a o z => by
                have back : ∀ {Hz : Hp}, (∀ a o, H0 a = some o → ∃ u, Hz a = some u) → Hz a = none → H0 a = none := fun kz q => by
                  cases y : H0 a with
                  | none => rfl
                  | some v => obtain ⟨u, y2⟩ := kz a v y; rw [q] at y2; cases y2
                rcases s5.nw a o z with ⟨v, q⟩ | q | q
                · rcases ex3.nw a v q with ⟨v2, q2⟩ | q2
                  · exact w.nw a v2 q2
                  · exact .inr (.inl (back w.kp q2))
                · exact .inr (.inl (back (fun a o z => let ⟨o1, z1⟩ := w.kp a o z; ⟨_, hx3 _ _ z1⟩) q))
                · exact .inr (.inr (ow2 a q))
              have fr5 : ∀ a o, a ∉ P.B.O → ¬ Ow e0 σ a → H0 a = some o → H5 a = some o := fun a o z1 z2 z3 => s5.fr a o z1 (fun q => z2 (ow2 a q)) (hx3 _ _ (w.fr a o z1 z2 z3))
              cases b with
              | false =>
                rw [if_neg Bool.false_ne_true] at hr2
                refine L2.iteF ?_
                refine ⟨F5, wipeE l e3, acc, rest, ⟨?_, ⟨vs, H5L, s5.ff.dpa _ _ (ex3.ff.dpa _ _ rvs)⟩, f5, w.ff.trans (ex3.ff.trans s5.ff), nw5, kp5, fun a z => ?_, fr5⟩, by omega, hr2, hy⟩
                · have := k5.wipes (l := l); rw [ew] at this; exact this
                · rw [← ew] at z; exact ow2 a (s5.ow a (ow_wipe z))
              | true =>
                rw [if_pos rfl] at hr2
                refine L2.iteT ?_
                cases hf : f e3 with
                | err _ _ => rw [hf] at hr2; cases hr2
                | stuck => rw [hf] at hr2; cases hr2
                | ok y e4 =>
                  rw [hf] at hr2
                  dsimp only at hr2
                  cases hn : lcl l g t f (ds.drop (i + 1)) (wipeE l e4) with
                  | err _ _ => rw [hn] at hr2; cases hr2
                  | stuck => rw [hn] at hr2; cases hr2
                  | ok r2 e5 =>
                    rw [hn] at hr2
                    cases hr2
                    refine ⟨F5, e3, k5, ?_⟩
                    rw [hf]
                    intro F6 H6 k6 s6 v rv
                    have nw3 : ¬ Ow e3 σ2 L := fun z => nw2 (s5.ow L z)
                    have H6L : H6 L = some (.lst vs) := s6.fr L _ oL0 nw3 H5L
                    have f6 : F6 L = none := by
                      cases z : F6 L with
                      | none => rfl
                      | some u =>
                        rcases s6.nw L u z with ⟨v2, q⟩ | q | q
                        · rw [f5] at q; cases q
                        · rw [H5L] at q; cases q
                        · exact (nw3 q).elim
                    have ow4 : ∀ a, Ow (wipeE l e4) (L2.wipe σ l) a → Ow e0 σ a := fun a z => by
                      rw [← ew] at z; exact ow2 a (s5.ow a (s6.ow a (ow_wipe z)))
                    refine ⟨vs, H6L, by rw [RpA.len rvs]; omega, F6, wipeE l e4, acc ++ [y], r2, ⟨?_, ⟨vs ++ [v], upd_same, RpA.app (s6.ff.dpa _ _ (s5.ff.dpa _ _ (ex3.ff.dpa _ _ rvs))) (RpA.one rv)⟩, f6, (w.ff.trans (ex3.ff.trans s5.ff)).trans s6.ff, fun a o z => ?_, fun a o z => ?_, ow4, fun a o z1 z2 z3 => ?_⟩, by simp; omega, hn, by rw [← hy]; simp⟩
                    · have kw := k6.wipes (l := l)
                      rw [ew] at kw
                      exact kw.poke H6L f6 hL0 oL0 fun z => wL0 (ow4 L z)
                    · rcases s6.nw a o z with ⟨u, q⟩ | q | q
                      · exact nw5 a u q
                      · refine .inr (.inl ?_)
                        cases y : H0 a with
                        | none => rfl
                        | some u => obtain ⟨u2, y2⟩ := kp5 a u y; rw [q] at y2; cases y2
                      · exact .inr (.inr (ow2 a (s5.ow a q)))
                    · obtain ⟨u, z1⟩ := kp5 a o z
                      obtain ⟨u2, z2⟩ := s6.kp a u z1
                      by_cases n : a = L
                      · subst n; exact ⟨_, upd_same⟩
                      · exact ⟨u2, by rw [upd_ne n]; exact z2⟩
                    · have n : a ≠ L := fun y => by rw [y, nL] at z3; cases z3
                      rw [upd_ne n]
                      exact s6.fr a o z1 (fun q => z2 (ow2 a (s5.ow a q))) (fr5 a o z1 z2 z3)
        · have e : i = ds.length := by omega
          subst e
          rw [List.drop_length] at hr
          cases hr
          refine .inl ⟨stop, ?_⟩
          rw [List.append_nil] at hy
          subst hy
          refine h0 F Hc (k0.unwipe w.ok w.ff) ⟨w.ff, w.nw, w.kp, fun a z => ?_, w.fr⟩ L vs (s0.non nL) hvs w.fL rvs
          obtain ⟨j, xs, z1, z2⟩ := z
          rcases resE_at z1 with ⟨_, q⟩ | ⟨q1, q2⟩
          · unfold keepS at q
            split at q <;> cases q
          · exact w.ow a ⟨j, xs, q2, by rw [wipe_out q1]; exact z2⟩
  · exact h0.elim
/-- the condition of a comprehension's clause -/
def tYesM {S : Type} : M S Bool := rt true
theorem ts_nil : PTs X [] (tT P W tYesM) := ⟨fun pins s σ H Q I ⟨F, e, k, h⟩ => pts_nil.run pins s σ H Q I (h.rt k)⟩
theorem ts_one {c : Expr} {f : M P.B.S Bool} (h : XT P X W c f) : PTs X [c] (tT P W f) := pts_one h
section
variable {elt tg it : Expr} {ifs : List Expr} {scope : Scope} {own : List (Str × Nat)} {gl : List Nat} {m : M P.B.S (List Mi.D)} {g : Mi.D → M P.B.S Unit} {t : M P.B.S Bool} {f : M P.B.S Mi.D}
theorem f_lc (own : List (Str × Nat)) (hc : X.calm = true) (hN : X.N.Nodup) (hi : XI P X W tg it m) (ok : BlkOk X.N X.env.scope scope own)
    (hg : ∀ (s : Shared) (H : Hp) (C : Addr) (cl : List (Str × Addr)) (fp : List Addr), XG P (X.blk s H scope (compEnvC scope cl C X.env) fp) tg gl g)
    (ht : ∀ (s : Shared) (H : Hp) (C : Addr) (cl : List (Str × Addr)) (fp : List Addr), PTs (X.blk s H scope (compEnvC scope cl C X.env) fp) ifs (tT P WF t))
    (he : ∀ (s : Shared) (H : Hp) (C : Addr) (cl : List (Str × Addr)) (fp : List Addr), XE P (X.blk s H scope (compEnvC scope cl C X.env) fp) WF elt f) (gok : GOk gl g) (hsub : ∀ j ∈ gl, j ∈ own.map (·.2) := by decide)
    (hs : ∀ x, foldedSetIterable it X.env x = pure x := by intro _; rfl) : XF P X W (.ListComp elt [⟨tg, it, ifs, 0⟩] scope pos) (mLc (own.map (·.2)) m g t f) :=
  pe_imp (pe_lc hc hN hi ok hg ht he hs) fun _ _ _ h => im_lc gok hsub h
theorem s_setLc (own : List (Str × Nat)) {i : Nat} {y : Str} {py spos : Pos} (hc : X.calm = true) (hN : X.N.Nodup) (hi : XI P X W tg it m) (ok : BlkOk X.N X.env.scope scope own)
    (hg : ∀ (s : Shared) (H : Hp) (C : Addr) (cl : List (Str × Addr)) (fp : List Addr), XG P (X.blk s H scope (compEnvC scope cl C X.env) fp) tg gl g)
    (ht : ∀ (s : Shared) (H : Hp) (C : Addr) (cl : List (Str × Addr)) (fp : List Addr), PTs (X.blk s H scope (compEnvC scope cl C X.env) fp) ifs (tT P WF t))
    (he : ∀ (s : Shared) (H : Hp) (C : Addr) (cl : List (Str × Addr)) (fp : List Addr), XE P (X.blk s H scope (compEnvC scope cl C X.env) fp) WF elt f) (gok : GOk gl g)
    (hsw : swapsWith (.ListComp elt [⟨tg, it, ifs, 0⟩] scope pos) (some (.Name y py)) spos.line X.env = pure true)
    (hy : X.N[i]? = some y := by rfl) (hyl : X.env.scope.names.lookup y = some .local := by rfl) (hsub : ∀ j ∈ gl, j ∈ own.map (·.2) := by decide)
    (hs : ∀ x, foldedSetIterable it X.env x = pure x := by intro _; rfl) : XS P X W (.Assign [.Name y py] (.ListComp elt [⟨tg, it, ifs, 0⟩] scope pos) spos) (mSetF i (mLc (own.map (·.2)) m g t f)) :=
  ps_imp (ps_setLc hc hN hy hyl hsw hi ok hg ht he hs) fun D σ H h => im_lc gok hsub (im_setF h)
end
end
end Mi
set_option maxHeartbeats 4000000
namespace Mi
open PySem PySem.Spec PyProof.Rows L2

section
variable {P : Pm} {X : Cx} {W : WX} {α β : Type} {e e1 : En P.B.S} {σ : St} {F H F1 H1 : Hp} {pos : Pos} {D : Ends}
/-! constants of the module -/
theorem x_gint {x : Str} {i : Int} {t : Tok} (hm : X.mg x = some (.int i t)) (hg : Gl X x := by rfl) (hd : (x == ("__debug__" : Str)) = false := by decide) : XE P X W (.Name x pos) (rt (.int i)) :=
  pe_imp (pe_glob (v := .int i) hg hm ⟨_, rfl⟩ hd) fun σ H Q ⟨F, e, k, h⟩ => h.rt k _ (.int i)
theorem x_gstr {x y : Str} {t : Tok} (hm : X.mg x = some (.str y t)) (hg : Gl X x := by rfl) (hd : (x == ("__debug__" : Str)) = false := by decide) : XE P X W (.Name x pos) (rt (.str y)) :=
  pe_imp (pe_glob (v := .str y) hg hm ⟨_, rfl⟩ hd) fun σ H Q ⟨F, e, k, h⟩ => h.rt k _ (.str y)

/-! isinstance -/
def tyN : Mi.D → String
  | .none => "NoneType"
  | .bool _ => "bool"
  | .int _ => "int"
  | .str _ => "str"
  | .list _ => "list"
  | .tuple _ => "tuple"
  | .dict _ => "dict"
theorem tyX_rp {K : PySem.W.Frag} {v : V} {d : Mi.D} (x : Ex F H) (r : Rp F v d) : TyX K H v (.type (tyN d)) := by
  cases r with
  | non => exact .base .non
  | bl b => exact .base (.bl b)
  | int i => exact .base (.int i)
  | str z => exact .base (.str z)
  | lst a b => exact .base (.lst (x _ _ a))
  | tup a b => exact .base (.tup (x _ _ a))
def dIs (T : String) (d : Mi.D) : Option Mi.D := (kitB (tyN d) T).map .bool
theorem im_isD {T : String} {f : M P.B.S Mi.D} {Q : VK} (h : tX P W (m1 (dIs T) f) σ H Q) : tCB (rIsi X.K) (tCons (tX P W f) (tCons (tC (.ty T)) tNil)) σ H Q := by
  obtain ⟨F, e, k, h⟩ := h
  refine tX_of k h fun d e1 F1 H1 v k1 s1 r1 h1 => ?_
  obtain ⟨d2, hg, h2⟩ := h1.lft
  unfold dIs at hg
  obtain ⟨b, hb, rfl⟩ := Option.map_eq_some_iff.mp hg
  exact ⟨v, .ty T, _, _, b, rfl, .ty T, tyX_rp k1.ext.fh r1, kit_ty hb, h2 F1 H1 k1 Step.refl _ (.bl b)⟩
theorem x_isD {T : String} {y : Str} {a : Expr} {f : M P.B.S Mi.D} {p py : Pos} (hm : X.mg "isinstance" = none) (ha : XE P X W a f) (hy : X.mg y = none) (hv : bootBuiltins y = some (.type T)) (hg : Gl X "isinstance" := by rfl) (hgy : Gl X y := by rfl) (hny : y ≠ "__name__" := by decide) (hdy : (y == ("__debug__" : Str)) = false := by decide)
    (he : starEach [a, .Name y py] X.env = (false, eval a X.env) :: starEach [.Name y py] X.env := by rfl) (he2 : starEach [.Name y py] X.env = (false, eval (.Name y py) X.env) :: starEach [] X.env := by rfl) (hpl : (backTo pos (starEach [.Name y py] X.env)).any (·.1) = false := by rfl) :
    XE P X W (.Call (.Name "isinstance" p) [a, .Name y py] [] pos) (m1 (dIs T) f) :=
  pe_imp (pe_callB call_isi hg hm boot_isinstance (pa_cons ha (pa_cons (pe_bltn hgy hy hv (v := .ty T) rfl hny hdy) pa_nil he2) he) (by decide) (by decide) he hpl) fun _ _ _ h => im_isD h
/-- an exception that a suite holds, asked for its class -/
inductive CsOk (mg : Str → Option Value) : List Str → List V → List Value → Prop
  | nil : CsOk mg [] [] []
  | cons {n : Str} {C : Addr} {ns : List Str} {vs : List V} {us : List Value} (h : mg n = some (.ref C)) (r : CsOk mg ns vs us) : CsOk mg (n :: ns) (.ref C :: vs) (.ref C :: us)
theorem CsOk.cls {mg : Str → Option Value} {ns : List Str} {vs : List V} {us : List Value} (h : CsOk mg ns vs us) : Paired ClsV vs us := by
  induction h with
  | nil => exact .nil
  | cons _ _ ih => exact .cons (.own _) ih
/-- isinstance(e, (A, B, ..)) by a table -/
def isAny (sub : Str → Str → Option Bool) (c : Str) : List Str → Option Bool
  | [] => some false
  | n :: ns => match sub c n with
    | some true => some true
    | some false => isAny sub c ns
    | none => none
def mIsE {S : Type} (sub : Str → Str → Option Bool) (j : Nat) (ns : List Str) : M S Mi.D := fun e => match e.sl[j]? with
  | some (.ex x) => lft ((isAny sub x.cls ns).map .bool) e
  | _ => .stuck
theorem isAny_ok {K : PySem.W.Frag} {mg : Str → Option Value} {sub : Str → Str → Option Bool} (hk : ∀ a n ca cn b, sub a n = some b → mg a = some ca → mg n = some cn → PySem.W.kitOne K ca cn = some b) {c : Str} {cv : Value} (hc : mg c = some cv) {ns : List Str} {vs : List V} {us : List Value}
    (h : CsOk mg ns vs us) {b : Bool} (q : isAny sub c ns = some b) : PySem.W.kitAny K cv us = some b := by
  induction h with
  | nil => cases q; rfl
  | @cons n C ns vs us hn _ ih =>
    unfold isAny at q
    unfold PySem.W.kitAny
    cases z : sub c n with
    | none => rw [z] at q; cases q
    | some t =>
      rw [z] at q
      rw [hk c n cv _ t z hc hn]
      cases t with
      | true => exact q
      | false => exact ih q
structure ExC (K : PySem.W.Frag) (C : Addr) : Prop where
  cl : (PySem.W.clsIn K C).isSome = true
  ga : PySem.W.findIn K (.ref C) "__getattribute__" = some (some (.builtin "BaseException.__getattribute__"))
  gt : ∃ t, PySem.W.findIn K (.ref C) "__getattr__" = some t
  su : PySem.W.subIn K (.ref C) (.type "BaseException") = some true
  ha : PySem.W.findIn K (.ref C) "__class__" = some (some (.builtin "object.__class__"))
  hn : PySem.W.specialIn K (.builtin "object.__class__") "__get__" = some (some (.builtin "getset_descriptor.__get__"))
  ht : PySem.W.takesIn K (.builtin "object.__class__") = some true
  hm : PySem.W.mroIn K C (.type "object") = some true
def rIsX (K : PySem.W.Frag) (a : Addr) (cls : Value) (d : Option Addr) : List V → Hp → VK → Prop := fun xs H Q => ∃ (tp C : Addr) (cs : List V) (us : List Value) (b : Bool), xs = [.ref a, .ref tp] ∧ cls = .ref C ∧ ExC K C ∧ H tp = some (.tup cs) ∧ Paired ClsV cs us ∧
  PySem.W.kitAny K cls us = some b ∧ (d = none ∨ ∃ dd fs, d = some dd ∧ H dd = some (.xd fs)) ∧ Q (.bl b) H
theorem call_isX {a : Addr} {oe : Obj} {cls : Value} {d : Option Addr} {pn : List (Addr × Obj)} (hz : Zc cls d oe) (hf : ∃ vs, oe.data = .fields vs) : CallR (X.suite a ((a, oe) :: pn)) (.builtin "isinstance") (rIsX X.K a cls d) := by
  intro pins s σ H xs us Q I r h
  obtain ⟨tp, C, cs, ws, b, rfl, ec, T, hT, k, e, hd, q⟩ := h
  obtain ⟨u1, u2, rfl, r1, r2⟩ := vals2 r
  cases (show u1 = Value.ref a from r1)
  cases (show u2 = Value.ref tp from r2)
  obtain ⟨_, its, rv, o, h1, h2, n, h3⟩ := (show ObjOk X.prog X.w H s.heap tp (.tup cs) from I.hok tp _ hT)
  have e3 := ClsV.all k rv
  subst e3
  obtain ⟨oc, od, dt, sl⟩ := o
  simp only at h2 h3
  subst h2 h3
  obtain ⟨hget, _⟩ := I.pin (a, oe) (List.mem_append.mpr (.inl List.mem_cons_self))
  obtain ⟨vs, hv⟩ := hf
  subst ec
  obtain ⟨gt, hgt⟩ := T.gt
  have J : ∃ od, PySem.W.InstAt s.heap a oe C od := by
    rcases hd with hd | ⟨dd, fs, hd, hdd⟩
    · refine ⟨none, hget, hz.1, by unfold PySem.W.notCls; rw [hv] <;> rfl, ?_⟩
      rw [hz.2, hd]; trivial
    · have hx : ObjOk X.prog X.w H s.heap dd (.xd fs) := I.hok dd _ hdd
      obtain ⟨mA, hns, _⟩ := hx
      obtain ⟨odd, ho, _⟩ := lookIn_ns hns
      exact ⟨some odd, hget, hz.1, by unfold PySem.W.notCls; rw [hv] <;> rfl, by rw [hz.2, hd]; exact ho⟩
  obtain ⟨od, J⟩ := J
  exact PySem.W.kia_tup (PySem.W.kitx_exc T.cl T.ga hgt T.su T.ha T.hn T.ht T.hm) I.kIn J h1 e (fun z => nomatch z) fun tk => ⟨.bl b, H, I.tok tk, rfl, q⟩
/-- names of classes, from the left -/
inductive NsOk (X : Cx) : List Expr → List Str → List V → Prop
  | nil : NsOk X [] [] []
  | cons {n : Str} {p : Pos} {C : Addr} {es : List Expr} {ns : List Str} {vs : List V} (hm : X.mg n = some (.ref C)) (hg : Gl X n) (hd : (n == ("__debug__" : Str)) = false) (hs : starEach (.Name n p :: es) X.env = (false, eval (.Name n p) X.env) :: starEach es X.env) (r : NsOk X es ns vs) : NsOk X (.Name n p :: es) (n :: ns) (.ref C :: vs)
theorem NsOk.pa {es : List Expr} {ns : List Str} {vs : List V} (h : NsOk X es ns vs) : PA X es (fun _ H Q => Q vs H) := by
  induction h with
  | nil => exact pa_nil
  | cons hm hg hd hs _ ih => exact pa_imp (pa_cons (pe_glob hg hm (v := .ref _) rfl hd) ih hs) fun _ _ _ q => q
theorem NsOk.cs {es : List Expr} {ns : List Str} {vs : List V} (h : NsOk X es ns vs) : ∃ us, CsOk X.mg ns vs us := by
  induction h with
  | nil => exact ⟨_, .nil⟩
  | cons hm _ _ _ _ ih => obtain ⟨us, h⟩ := ih; exact ⟨_, .cons hm h⟩
theorem NsOk.su {es : List Expr} {ns : List Str} {vs : List V} {a : Addr} {pn : List (Addr × Obj)} (h : NsOk X es ns vs) : NsOk (X.suite a pn) es ns vs := by
  induction h with
  | nil => exact .nil
  | cons h1 h2 h3 h4 _ ih => exact .cons h1 h2 h3 h4 ih
theorem x_isE (j : Nat) {sub : Str → Str → Option Bool} {x : Str} {a : Addr} {oe : Obj} {cls : Value} {d : Option Addr} {pn : List (Addr × Obj)} {es : List Expr} {ns : List Str} {vs : List V} {p px pt : Pos} {c : Nat} (hz : Zc cls d oe) (hf : ∃ vs, oe.data = .fields vs) (hmg : X.mg = P.mg)
    (hk : ∀ a n ca cn b, sub a n = some b → P.mg a = some ca → P.mg n = some cn → PySem.W.kitOne X.K ca cn = some b ∧ ∃ C, ca = .ref C ∧ ExC X.K C) (hns : NsOk X es ns vs) (hne : ns ≠ []) (hvl : vs.length ≤ sizeLine) (hm : X.mg "isinstance" = none)
    (hN : X.N[j]? = some x := by rfl) (hv : Vis X.env.scope x := by first | exact Or.inl rfl | exact Or.inr (Or.inl rfl) | exact Or.inr (Or.inr rfl)) (hd : (x == ("__debug__" : Str)) = false := by decide) (hcd : (x == ("__classdict__" : Str)) = false := by decide) (hg : Gl X "isinstance" := by rfl)
    (he : starEach [.Name x px, .Tuple es c pt] X.env = (false, eval (.Name x px) X.env) :: starEach [.Tuple es c pt] X.env := by rfl) (he2 : starEach [.Tuple es c pt] X.env = (false, eval (.Tuple es c pt) X.env) :: starEach [] X.env := by rfl) (hpl : (backTo pos (starEach [.Tuple es c pt] X.env)).any (·.1) = false := by rfl) :
    XE (P.at a cls d) (X.suite a ((a, oe) :: pn)) W (.Call (.Name "isinstance" p) [.Name x px, .Tuple es c pt] [] pos) (mIsE sub j ns) := by
  have hp : PA (X.suite a ((a, oe) :: pn)) es (fun _ H Q => Q vs H) := hns.su.pa
  refine pe_imp (pe_callB (X := X.suite a ((a, oe) :: pn)) (call_isX hz hf) hg hm boot_isinstance (pa_cons (pe_var (X := X.suite a ((a, oe) :: pn)) (i := j) hN hv hd hcd) (pa_cons (pe_tup hp) pa_nil he2) he) (by decide) (by decide) he hpl) fun σ H Q ⟨F, e, k, h⟩ => ?_
  unfold mIsE at h
  cases q : e.sl[j]? with
  | none => rw [q] at h; exact h.elim
  | some s =>
    rw [q] at h
    cases s with
    | ex y =>
      obtain ⟨q1, q2, q3⟩ := k.ex j y q
      dsimp only at h
      obtain ⟨dd, hg2, h2⟩ := h.lft
      obtain ⟨b, hb, rfl⟩ := Option.map_eq_some_iff.mp hg2
      obtain ⟨us, hcs⟩ := hns.cs
      rw [hmg] at hcs
      have hka := isAny_ok (K := X.K) (fun a n ca cn b z1 z2 z3 => (hk a n ca cn b z1 z2 z3).1) q2 hcs hb
      obtain ⟨C, hC, hX⟩ : ∃ C, cls = .ref C ∧ ExC X.K C := by
        cases hcs with
        | nil => exact (hne rfl).elim
        | @cons n Cn ns vs us hn hr =>
          unfold isAny at hb
          cases z : sub y.cls n with
          | none => rw [z] at hb; cases hb
          | some t => exact (hk _ _ _ _ t z q2 hn).2
      refine ⟨_, q1, hvl, fun tp nt => ?_⟩
      obtain ⟨k2, s2⟩ := k.grow (Ex.new nt) (Ext.lay (o := .tup vs) k.ext.fh nt)
      refine ⟨tp, C, vs, us, b, rfl, hC, hX, upd_same, hcs.cls, hka, ?_, h2 _ _ k2 s2 _ (.bl b)⟩
      rcases q3 with ⟨q3, _⟩ | ⟨dx, fs, q3, q4, _⟩
      · exact .inl q3
      · exact .inr ⟨dx, fs, q3, Ex.new nt _ _ (k.ext.fh _ _ q4)⟩
    | _ => exact h.elim
end

/-! defs that are called where no text is being shown -/
structure FnG (Pg : Program) (w : World) (K : PySem.W.Frag) (mg : Str → Option Value) (base : Heap) (CX : CXT) (k : Nat) (f : Addr) (fd : FuncData) (ps : List Str) (sp : Sp) : Prop where
  len : ∀ vs H Q E, sp vs H Q E → vs.length = ps.length
  run : ∀ (A : Around) (outer : List PySem.Env) (s : Shared) (H : Hp) (args : Args) (us : List Value) (vs : List V) (Q : VK) (E : XK), Room k A → A.guards = some [] → Env0 Pg w K mg base A outer s H → BindsTo s fd args (ps.zip us) → Vals vs us →
    sp vs H Q E → codeAny (model Pg w) A (.call (.ref f) args) (CR CX outer Pg w H s Q E) s
theorem FnOk.g {Pg : Program} {w : World} {K : PySem.W.Frag} {mg : Str → Option Value} {base : Heap} {CX : CXT} {k : Nat} {f : Addr} {fd : FuncData} {ps : List Str} {sp : Sp} (h : FnOk Pg w K mg base CX k f fd ps sp) : FnG Pg w K mg base CX k f fd ps sp :=
  ⟨h.len, fun A outer s H args us vs Q E hr _ => h.run A outer s H args us vs Q E hr⟩
theorem fn_miG {Pg : Program} {w : World} {K : PySem.W.Frag} {mg : Str → Option Value} {base : Heap} {x qual : Str} {st : Stmt} {f : Addr} {fd : FuncData} {N ps : List Str} {k : Nat} (Fu : Fun K x qual st f fd) (S : FnScope N ps (defScope st)) (B : Amb) (m : M B.S Fl)
    (hb : ∀ (cdv : Value) (A : Around) (outer : List PySem.Env) (s : Shared) (H : Hp) (E : XK) (F0 : Hp), Room k (cxOf (L2.CX Pg w) Pg w K mg base N qual (defScope st) f cdv A outer s H E).A → (cxOf (L2.CX Pg w) Pg w K mg base N qual (defScope st) f cdv A outer s H E).A.guards = some [] →
      Takes (cxOf (L2.CX Pg w) Pg w K mg base N qual (defScope st) f cdv A outer s H E) (wE E) →
      PassesOwn (model Pg w) (cxOf (L2.CX Pg w) Pg w K mg base N qual (defScope st) f cdv A outer s H E).A (cxOf (L2.CX Pg w) Pg w K mg base N qual (defScope st) f cdv A outer s H E).env (cxOf (L2.CX Pg w) Pg w K mg base N qual (defScope st) f cdv A outer s H E).xe →
      XSs ⟨K, mg, B, F0, H, 0, .none, none⟩ (cxOf (L2.CX Pg w) Pg w K mg base N qual (defScope st) f cdv A outer s H E) (wE E) (defBody st) m) :
    FnG Pg w K mg base (L2.CX Pg w) (k + 1) f fd ps (spM mg B ps.length (fnOf N.length m)) := by
  obtain ⟨oc, od, kV, doc, pm, an, cdv, ct, osl, rfl, lk, hcd⟩ := Fu.ex
  refine ⟨fun vs H Q E h => h.1, fun A outer s H args us vs Q E hr hgu e0 hbd rv hsp => ?_⟩
  have hl : vs.length = ps.length := hsp.1
  have KX : K.In s.heap := e0.mod.kin.keeps fun b o z => (e0.bs b o z).1
  have lim : s.heap.NoLimit := e0.mod.nolimit.keeps fun b o z => (e0.bs b o z).1
  have kinds : ∀ y ∈ ps.zip us, (defScope st).names.lookup y.1 = some .local ∨ ((defScope st).names.lookup y.1 = some .cell ∧ ((cellsFrom (s.heap.objs.size + 1) (defScope st).names []).lookup y.1).isSome = true) := fun ⟨n, v⟩ hy => by
    rcases S.par n (List.of_mem_zip hy).1 with q | q
    · exact .inl q
    · exact .inr ⟨q, PySem.W.cellsFrom_some _ _ _ (.inl q)⟩
  refine codeAny_call_function hr.depth (KX _ _ lk) rfl S.co S.gen rfl (PySem.W.codeRec_of KX hcd) (hbd _ _ _ _ ?_)
  refine wpAny_newFunctionEnv_cells S.kind kinds fun env he s1 x => ?_
  subst he
  refine ⟨lim.keeps x.toInCall.keep, codeAny_func ?_⟩
  obtain ⟨_, F0, as, s0, hx, off, sto, ra, h⟩ := hsp
  have body := hb cdv A outer s H E F0 (hr.deeper _) hgu (takes_of rfl rfl rfl rfl) (passes_of rfl)
  have I : Inv (cxOf (L2.CX Pg w) Pg w K mg base N qual (defScope st) f cdv A outer s H E) [] (L2.start N vs) H s1 := inv_start S hr.hd e0 hl rv x
  have fin : ∀ {e : En B.S} {σ1 : St} {F1 H1 : Hp}, EOk ⟨K, mg, B, F0, H, 0, .none, none⟩ e σ1 F1 H1 → Pst B e.st F0 H F1 H1 := fun k => ⟨k.ext, k.fra, k.sto, k.off⟩
  have sat : tS ⟨K, mg, B, F0, H, 0, .none, none⟩ (wE E) m { nx := fun _ H' => Q .non H', rt := Q } (L2.start N vs) H := by
    refine ⟨F0, _, start_ok hx off sto ra, ?_⟩
    unfold fnOf at h
    cases q : m ⟨as.map Arg.slot ++ List.replicate (N.length - as.length) .un, s0⟩ with
    | stuck => rw [q] at h; exact h
    | err y e => rw [q] at h; exact fun c d σ1 F1 H1 k x r => h F1 H1 (fin k) c d r
    | ok fl e =>
      rw [q] at h
      cases fl with
      | nx => exact fun σ1 F1 H1 k x => h F1 H1 (fin k) _ .non
      | bk => exact h.elim
      | ct => exact h.elim
      | ret r =>
        cases r with
        | sh d => exact fun σ1 F1 H1 k x v rv => h F1 H1 (fin k) v rv
        | fr xs => exact fun σ1 F1 H1 k x p vs => h F1 H1 (fin k) p vs
  refine wpAny_mono (body.run [] s1 (L2.start N vs) H _ I sat) (fun fl s' hs => ?_) fun e s' hs => hs
  cases fl with
  | ret u => obtain ⟨v, σ', H', J, rv, q⟩ := hs; exact ⟨v, H', J.os, J.bare, J.base, J.hok, rv, q⟩
  | next => obtain ⟨σ', H', J, q⟩ := hs; exact ⟨V.non, H', J.os, J.bare, J.base, J.hok, rfl, q⟩
  | brk => obtain ⟨_, _, _, q⟩ := hs; exact q.elim
  | cont => obtain ⟨_, _, _, q⟩ := hs; exact q.elim
section
variable {P : Pm} {X : Cx} {W : WX} {α β : Type} {e e1 : En P.B.S} {σ : St} {F H F1 H1 : Hp} {pos : Pos} {D : Ends}
/-- repr -/
def gRepr : List Arg → Option Mi.D
  | [.d d] => if d.showable = true ∧ d.hasDict = false ∧ d.depth ≤ 60 ∧ d.shown.length ≤ sizeLine then some (.str d.shown) else none
  | _ => none
def rRepr (K : PySem.W.Frag) : List V → Hp → VK → Prop := fun vs H Q => ∃ v d, vs = [v] ∧ Dp K H v d ∧ d.showable = true ∧ d.hasDict = false ∧ d.depth ≤ 60 ∧ d.shown.length ≤ sizeLine ∧ Q (.str d.shown) H
theorem call_reprD {k : Nat} (hr : Room k X.A) (hgu : X.A.guards = some []) : CallR X (.builtin "repr") (rRepr X.K) := by
  intro pins s σ H xs us Q I r h
  obtain ⟨v, d, rfl, hd, h1, h2, h3, h4, q⟩ := h
  obtain ⟨u, rfl, ru⟩ := vals1 r
  obtain ⟨as, rd⟩ := Dp.reads I d v u hd ru
  have hu := hr.un
  have fin : ∀ h' t tk, (∀ b o, s.heap.get? b = some o → h'.get? b = some o) → EP X pins σ Q (.str d.shown t) { s with heap := h', toks := tk } := fun h' t tk k => ⟨V.str d.shown, H, I.kept k, ⟨t, rfl⟩, q⟩
  cases hd with
  | non =>
    cases ru
    exact PySem.P.repr_of_none (fin _ _ _ fun _ _ z => z)
  | bl b =>
    cases ru
    exact PySem.P.repr_of_bool (fin _ _ _ fun _ _ z => z)
  | int i =>
    obtain ⟨t, rfl⟩ := ru
    exact PySem.P.repr_of_int (of_decide_eq_true h1) (fin _ _ _ fun _ _ z => z)
  | str x =>
    obtain ⟨t, rfl⟩ := ru
    exact PySem.P.repr_of_str (fin _ _ _ fun _ _ z => z) h4
  | lst g1 g2 =>
    cases ru
    exact repr_of_reads' rd h1 (fun z => by rw [h2] at z; cases z) hgu (by omega) (fun _ _ z => z) (fun h' t tk k => fin h' t tk k) h4
  | tup g1 g2 =>
    cases ru
    exact repr_of_reads' rd h1 (fun z => by rw [h2] at z; cases z) hgu (by omega) (fun _ _ z => z) (fun h' t tk k => fin h' t tk k) h4
theorem p_repr (K : PySem.W.Frag) : PrN (rRepr K) gRepr := fun B as d vs F H Q h r x q => by
  unfold gRepr at h
  split at h
  · split at h
    · rename_i hl
      cases h
      cases r with
      | d r1 r2 => cases r2; exact ⟨_, _, rfl, (x.dp _ _ r1).dp, hl.1, hl.2.1, hl.2.2.1, hl.2.2.2, q _ F H (Ex.refl _) (Ext.refl x) (.str _)⟩
    · cases h
  · cases h
section
variable {k : Nat} {f : Addr} {fd : FuncData} {ps : List Str} {x : Str} {p : Pos} {a : Expr} {es : List Expr}
theorem run_G {pins : List (Addr × Obj)} {σ : St} {H : Hp} {s : Shared} {Q : VK} {sp : Sp} {E : St → XK} {us : List Value} {vs : List V} (Fk : FnG X.prog X.w X.K X.mg X.base (L2.CX X.prog X.w) k f fd ps sp) (hr : Room k X.A) (hgu : X.A.guards = some []) (hb : Binds X.K fd ps []) (hx : PassesAt (L2.CX X.prog X.w) X σ (E σ))
    (I : Inv X pins σ H s) (r : Vals vs us) (h : sp vs H Q (E σ)) : wpAny (model X.prog X.w) X.A (call (.ref f) us) (EP X pins σ Q) X.xe s := by
  have hl : us.length = ps.length := by rw [← r.length]; exact Fk.len _ _ _ _ h
  have bd : BindsTo s fd ⟨us, []⟩ (ps.zip us) := by
    have := hb s us I.kIn (by rw [List.append_nil]; exact hl)
    rw [List.append_nil] at this
    exact this
  refine wpAny_call (codeAny_mono (Fk.run X.A X.stack s H ⟨us, []⟩ us vs Q (E σ) hr hgu I.env0 bd r h) fun rr s' hq => ?_)
  cases rr with
  | error e => exact hx pins H s e s' I hq
  | ok fl =>
    cases fl with
    | ret u => exact I.after hq
    | next => exact hq.elim
    | brk => exact hq.elim
    | cont => exact hq.elim
theorem pe_callG {sp : Sp} {E : St → XK} {t : TA} (Fk : FnG X.prog X.w X.K X.mg X.base (L2.CX X.prog X.w) k f fd ps sp) (hr : Room k X.A) (hgu : X.A.guards = some []) (hg : Gl X x) (hm : X.mg x = some (.ref f)) (hk : PySem.W.keepIn X.K (.ref f) = true) (hb : Binds X.K fd ps []) (hx : ∀ σ, PassesAt (L2.CX X.prog X.w) X σ (E σ))
    (ha : PA X (a :: es) t) (hdb : (x == ("__debug__" : Str)) = false) (he : starEach (a :: es) X.env = (false, eval a X.env) :: starEach es X.env) (hpl : (backTo pos (starEach es X.env)).any (·.1) = false) :
    PE X (.Call (.Name x p) (a :: es) [] pos) (tCallS sp E t) := by
  refine ⟨fun pins s σ H Q I h => ?_⟩
  refine wpAny_Call_Name_kw (ld_glob I hg hm ?_ hdb)
  exact PySem.W.callWith_K (h₀ := X.base) I.ok.mod.kin hk (thn (ha.run pos pins s σ H _ I h) fun us s1 ⟨vs, H1, I1, r, q⟩ => ⟨I1.kIn, run_G Fk hr hgu hb (hx σ) I1 r q⟩) he hpl
theorem x_callG {n : Nat} {fn : List Arg → P.B.S → FO P.B.S} {g : M P.B.S (List Arg)} (Fk : FnG X.prog X.w X.K X.mg X.base (L2.CX X.prog X.w) k f fd ps (spM P.mg P.B ps.length fn)) (hr : Room k X.A) (hgu : X.A.guards = some []) (hm : X.mg x = some (.ref f)) (hk : PySem.W.keepIn X.K (.ref f) = true) (hb : Binds X.K fd ps []) (tk : Takes X W)
    (ha : XA P X W (a :: es) g) (hg : Gl X x := by rfl) (hdb : (x == ("__debug__" : Str)) = false := by decide) (he : starEach (a :: es) X.env = (false, eval a X.env) :: starEach es X.env := by rfl) (hpl : (backTo pos (starEach es X.env)).any (·.1) = false := by rfl) (hn : ps.length = n := by rfl) :
    XE P X W (.Call (.Name x p) (a :: es) [] pos) (mCall n fn g) :=
  pe_imp (pe_callG Fk hr hgu hg hm hk hb (fun σ => passAt tk σ) ha hdb he hpl) fun σ H Q ⟨F, e, k, h⟩ => tA_of k h fun as e1 F1 H1 vs k1 s1 r1 h1 => by
    subst hn
    by_cases hl : as.length = ps.length
    · rw [if_pos hl] at h1; exact im_call k1 r1 (r1.len.trans hl) h1
    · rw [if_neg hl] at h1; exact h1.elim
end
end
end Mi
set_option maxHeartbeats 4000000
namespace Mi
open PySem PySem.Spec PyProof.Rows L2

section
variable {P : Pm} {X : Cx} {W : WX} {α β : Type} {e e1 : En P.B.S} {σ : St} {F H F1 H1 : Hp} {pos : Pos} {D : Ends}
/-! v in x, x the list of a slot -/
def dInO : Mi.D → List Mi.D → Option Mi.D := fun a bs => dIn a (.list bs)
def dNotInO : Mi.D → List Mi.D → Option Mi.D := fun a bs => dNotIn a (.list bs)
def mInO {S : Type} (g : Mi.D → List Mi.D → Option Mi.D) (i : Nat) (f : M S Mi.D) : M S Mi.D := bnd f fun d e => match lstAt i e with
  | some xs => lft (g d xs) e
  | none => .stuck
/-- a test of a value by a list, which stands anywhere -/
def PrL (r : R2) (g : Mi.D → List Mi.D → Option Mi.D) : Prop := ∀ d xs d3 v p vs (F H : Hp) Q, g d xs = some d3 → Rp F v d → H p = some (.lst vs) → RpA F vs xs → Ex F H → (∀ v F1 H1, Ex H H1 → Ext F H F1 H1 → Rp F1 v d3 → Q v H1) → r v (.ref p) H Q
theorem dpl {K : PySem.W.Frag} {p : Addr} {vs : List V} {xs : List Mi.D} (h : H p = some (.lst vs)) (r : RpA F vs xs) (x : Ex F H) : Dp K H (.ref p) (.list xs) := .lst (.of h) ((x.dpa _ _ r).dpa)
theorem p_inO (K : PySem.W.Frag) : PrL (rInD K) dInO := fun d xs d3 v p vs F H Q h r hp ra x q => by
  unfold dInO dIn at h
  dsimp only at h
  split at h
  · rename_i hl
    cases h
    exact ⟨d, xs, (x.dp _ _ r).dp, dpl hp ra x, hl.1, hl.2, q _ F H (Ex.refl _) (Ext.refl x) (.bl _)⟩
  · cases h
theorem p_notInO (K : PySem.W.Frag) : PrL (rNotInD K) dNotInO := fun d xs d3 v p vs F H Q h r hp ra x q => by
  unfold dNotInO dNotIn at h
  dsimp only at h
  split at h
  · rename_i hl
    cases h
    exact ⟨d, xs, (x.dp _ _ r).dp, dpl hp ra x, hl.1, hl.2, q _ F H (Ex.refl _) (Ext.refl x) (.bl _)⟩
  · cases h
theorem im_inO {i : Nat} {r : R2} {g : Mi.D → List Mi.D → Option Mi.D} {f : M P.B.S Mi.D} (pr : PrL r g) {Q : VK} (h : tX P W (mInO g i f) σ H Q) : tOp r (tX P W f) (tVar i) σ H Q := by
  obtain ⟨F, e, k, h⟩ := h
  refine tX_of k h fun d e1 F1 H1 v k1 s1 r1 h1 => ?_
  cases z : lstAt i e1 with
  | none => rw [z] at h1; exact h1.elim
  | some xs =>
    rw [z] at h1
    obtain ⟨p, vs, q1, q2, q3⟩ := k1.lstAt z
    obtain ⟨d3, hg, h2⟩ := h1.lft
    exact ⟨_, q1, pr d xs d3 v p vs F1 H1 Q hg r1 q2 q3 k1.ext.fh fun v F' H' hx x rv => h2.grow k1 hx x v rv⟩
theorem x_inO (i : Nat) {op : CmpOp} {x : Str} {a : Expr} {p : Pos} {r : R2} {g : Mi.D → List Mi.D → Option Mi.D} {f : M P.B.S Mi.D} (ho : OpR X (compareOp op) r) (pr : PrL r g) (ha : XE P X W a f) (hN : X.N[i]? = some x := by rfl)
    (hv : Vis X.env.scope x := by first | exact Or.inl rfl | exact Or.inr (Or.inl rfl) | exact Or.inr (Or.inr rfl)) (hm : behindInMarks op (.Name x p) = false := by rfl) (hd : (x == ("__debug__" : Str)) = false := by decide) (hcd : (x == ("__classdict__" : Str)) = false := by decide) :
    XE P X W (.Compare a [op] [.Name x p] pos) (mInO g i f) := pe_imp (pe_cmpR ho ha (pe_var hN hv hd hcd) hm) fun _ _ _ h => im_inO pr h
theorem t_inO (i : Nat) {op : CmpOp} {x : Str} {a : Expr} {p : Pos} {r : R2} {g : Mi.D → List Mi.D → Option Mi.D} {f : M P.B.S Mi.D} (ho : OpR X (compareOp op) r) (pr : PrL r g) (ha : XE P X W a f) (hN : X.N[i]? = some x := by rfl)
    (hv : Vis X.env.scope x := by first | exact Or.inl rfl | exact Or.inr (Or.inl rfl) | exact Or.inr (Or.inr rfl)) (hm : behindInMarks op (.Name x p) = false := by rfl) (hd : (x == ("__debug__" : Str)) = false := by decide) (hcd : (x == ("__classdict__" : Str)) = false := by decide) :
    XT P X W (.Compare a [op] [.Name x p] pos) (asB (mInO g i f)) := pt_imp (pt_cmpR ho ha (pe_var hN hv hd hcd) hm) fun σ H Q h => im_tst (t := tOp r (tX P W f) (tVar i)) (fun _ _ _ z => im_inO pr z) σ H Q h
/-! xs * n, a new list -/
def mRep {S : Type} (f1 f2 : M S Mi.D) : M S (List Mi.D) := bnd f1 fun x => bnd f2 fun y => match x, y with
  | .list xs, .int k => if repOk xs k then rt (List.replicate k.toNat xs).flatten else stk
  | _, _ => stk
theorem f_rep {a b : Expr} {f1 f2 : M P.B.S Mi.D} (ha : XE P X W a f1) (hb : XE P X W b f2) : XF P X W (.BinOp a .Mult b pos) (mRep f1 f2) :=
  pe_imp (pe_op op_rep ha hb) fun σ H Q ⟨F, e, k, h⟩ => tX_of k h fun d1 e1 F1 H1 v1 k1 s1 r1 h1 => tX_of k1 h1 fun d2 e2 F2 H2 v2 k2 s2 r2 h2 => by
    have r1' := s2.ff.dp _ _ r1
    cases r2 with
    | int n =>
      cases r1' with
      | lst a1 b1 =>
        dsimp only at h2
        split at h2
        · rename_i hl
          refine ⟨_, _, _, rfl, rfl, k2.ext.fh _ _ a1, hl.1, hl.2.1, by rw [RpA.len b1]; exact hl.2.2, fun p np => ?_⟩
          exact h2.grow k2 (Ex.new np) (Ext.layO k2.ext.fh np) p _ (s1.non (s2.non np)) upd_same (k2.fresh np).1 (RpA.repl b1 _)
        · exact h2.elim
      | _ => exact h2.elim
    | _ => cases r1' <;> exact h2.elim
end

/-! ### the store of the laws: a list of cells and four numbers -/
structure Sto where
  m : Addr → Int × Int
  pos : Int
  tries : Int
  seed : Int
  steps : Int
def cellV (x : Int × Int) : List V := [.int x.1, .int x.2]
def stoV (c : Addr) (s : Sto) : List V := [.ref c, .int s.pos, .int s.tries, .int s.seed, .int s.steps]
structure StoAt (p c : Addr) (cs : List Addr) (s : Sto) (H : Hp) : Prop where
  hp : H p = some (.lst (stoV c s))
  hc : H c = some (.lst (cs.map V.ref))
  hs : ∀ a ∈ cs, H a = some (.lst (cellV (s.m a)))
  n1 : p ≠ c
  n2 : p ∉ cs
  n3 : c ∉ cs
  pz : 0 ≤ s.pos ∧ s.pos ≤ cs.length
  cl : cs.length ≤ 1000
def Bsto (p c : Addr) (cs : List Addr) : Amb where
  S := Sto
  At := StoAt p c cs
  O := p :: c :: cs
  p := p
  loc := fun s H G h z => ⟨h _ _ (by simp) z.hp, h _ _ (by simp) z.hc, fun a ha => h _ _ (by simp [ha]) (z.hs a ha), z.n1, z.n2, z.n3, z.pz, z.cl⟩
  dom := fun s H z a ha => by
    rcases List.mem_cons.mp ha with rfl | ha
    · exact ⟨_, z.hp⟩
    · rcases List.mem_cons.mp ha with rfl | ha
      · exact ⟨_, z.hc⟩
      · exact ⟨_, z.hs a ha⟩
def mixed (number step : Int) : Int :=
  let one := (number * 48271 + step * 69621 + 12345) % 2147483647
  let two := (one * one + step * 16807 + one / 65536 + 7) % 2147483629
  let three := (two * two + two / 8192 + one + step) % 2147483399
  three * 2147483629 + two
def takeL (n : Nat) (count : Int) : List Addr → Int → Sto → Int × Sto
  | [], _, s => (mixed s.seed s.steps % count, { s with pos := n })
  | a :: r, i, s => if (s.m a).1 = 1 ∧ 0 < (s.m a).2 then ((s.m a).2 % count, { s with pos := i, m := fun b => if b = a then ((s.m a).1, (s.m a).2 / count) else s.m b })
    else if (s.m a).1 = 0 ∧ s.tries < 4 then (mixed ((s.m a).2 + i * 7919) (s.tries + 1) % count, { s with pos := i, tries := s.tries + 1 })
    else takeL n count r (i + 1) { s with pos := i, tries := 0 }
def takeF (cs : List Addr) (count : Int) (s : Sto) : Int × Sto := if count < 2 then (0, { s with steps := s.steps + 1 }) else takeL cs.length count (cs.drop s.pos.toNat) s.pos { s with steps := s.steps + 1 }
def m_take (cs : List Addr) : List Arg → Sto → FO Sto := fun as s => match as with
  | [.tok, .d (.int count)] => if count.natAbs.log2 < 9000 then .val (.sh (.int (takeF cs count s).1)) (takeF cs count s).2 else .stuck
  | _ => .stuck
theorem IS.init {F H : Hp} {a C : Addr} (hx : Ex F H) (ha : H a = some (exo a C none)) (fa : F a = none) : IS F H a C none [] F H :=
  ⟨Ext.refl hx, fun _ _ _ h => h, ha, fa, fun _ e => (nomatch e), ⟨_, ha⟩, fun _ => rfl⟩
theorem RpA.n1 {F : Hp} {vs : List V} {x : D} (h : RpA F vs [x]) : ∃ v, vs = [v] ∧ Rp F v x := by
  cases h with
  | cons h1 h2 => cases h2; exact ⟨_, rfl, h1⟩
theorem stuck_ok {Pg : Program} {w : World} {K : PySem.W.Frag} {mg : Str → Option Value} {base : Heap} {CX : CXT} {k : Nat} {f : Addr} {fd : FuncData} {ps : List Str} {B : Amb} : FnOk Pg w K mg base CX k f fd ps (spM mg B ps.length fun _ _ => .stuck) :=
  ⟨fun vs H Q E h => h.1, fun A outer s H args us vs Q E hr he hb hv h => by
    obtain ⟨_, _, _, _, _, _, _, _, z⟩ := h
    exact z.elim⟩
def fuel : Nat := 1000000
theorem init1 {K : PySem.W.Frag} {mg : Str → Option Value} {fnp : List Arg → Unit → FO Unit} {W : St → XK} {C : Addr} {f1 : Str} {vs : List V} {H : Hp} {Q : VK} {E : XK} {N : List Str} (T : OexC K C) (n1 : PySem.W.findIn K (.ref C) f1 = some none) (hN : N.length = 2) (h : initSp fnp C [f1] vs H Q E) :
    tOst K f1 (tVar 0) (tCallS (spM mg B0 1 fnp) W (tCons (tVar 1) tNil)) { nx := fun _ H1 => Q .non H1, rt := Q } (L2.start N vs) H := by
  obtain ⟨a, vals, F, xs, rs, rfl, hl, ha, hx, fa, ra, rr, q⟩ := h
  match vals, hl with
  | [v1], _ =>
    cases ra with
    | cons r1 r2 =>
      cases r2
      cases rr with
      | cons g1 g2 =>
        cases g2
        exact init_step T n1 (IS.init hx ha fa) (by simp [L2.start]) (by simp [L2.start]) r1 g1 (by simp) fun dx w F1 H1 I x rw => q dx [w] F1 H1 I rfl (.cons rw .nil)
theorem init2 {K : PySem.W.Frag} {mg : Str → Option Value} {fnp : List Arg → Unit → FO Unit} {W W2 : St → XK} {C : Addr} {f1 f2 : Str} {vs : List V} {H : Hp} {Q : VK} {E : XK} {N : List Str} (T : OexC K C) (n1 : PySem.W.findIn K (.ref C) f1 = some none) (n2 : PySem.W.findIn K (.ref C) f2 = some none) (hN : N.length = 3) (h : initSp fnp C [f1, f2] vs H Q E) :
    tSeq (tOst K f1 (tVar 0) (tCallS (spM mg B0 1 fnp) W (tCons (tVar 1) tNil))) (tOst K f2 (tVar 0) (tCallS (spM mg B0 1 fnp) W2 (tCons (tVar 2) tNil))) { nx := fun _ H1 => Q .non H1, rt := Q } (L2.start N vs) H := by
  obtain ⟨a, vals, F, xs, rs, rfl, hl, ha, hx, fa, ra, rr, q⟩ := h
  match vals, hl with
  | [v1, v2], _ =>
    cases ra with
    | cons r1 r2 =>
      cases r2 with
      | cons r3 r4 =>
        cases r4
        cases rr with
        | cons g1 g2 =>
          cases g2 with
          | cons g3 g4 =>
            cases g4
            refine init_step T n1 (IS.init hx ha fa) (by simp [L2.start]) (by simp [L2.start]) r1 g1 (by simp) fun dx w F1 H1 I x rw => ?_
            exact init_step T n2 I (by simp [L2.start]) (by simp [L2.start]) (x.dp _ _ r3) g3 (by simp) fun dx w2 F2 H2 I2 x2 rw2 => q dx [w, w2] F2 H2 I2 rfl (.cons (x2.dp _ _ rw) (.cons rw2 .nil))
theorem init3 {K : PySem.W.Frag} {mg : Str → Option Value} {fnp : List Arg → Unit → FO Unit} {W W2 W3 : St → XK} {C : Addr} {f1 f2 f3 : Str} {vs : List V} {H : Hp} {Q : VK} {E : XK} {N : List Str} (T : OexC K C) (n1 : PySem.W.findIn K (.ref C) f1 = some none) (n2 : PySem.W.findIn K (.ref C) f2 = some none) (n3 : PySem.W.findIn K (.ref C) f3 = some none) (hN : N.length = 4) (h : initSp fnp C [f1, f2, f3] vs H Q E) :
    tSeq (tOst K f1 (tVar 0) (tCallS (spM mg B0 1 fnp) W (tCons (tVar 1) tNil))) (tSeq (tOst K f2 (tVar 0) (tCallS (spM mg B0 1 fnp) W2 (tCons (tVar 2) tNil))) (tOst K f3 (tVar 0) (tCallS (spM mg B0 1 fnp) W3 (tCons (tVar 3) tNil)))) { nx := fun _ H1 => Q .non H1, rt := Q } (L2.start N vs) H := by
  obtain ⟨a, vals, F, xs, rs, rfl, hl, ha, hx, fa, ra, rr, q⟩ := h
  match vals, hl with
  | [v1, v2, v3], _ =>
    cases ra with
    | cons r1 r2 =>
      cases r2 with
      | cons r3 r4 =>
        cases r4 with
        | cons r5 r6 =>
          cases r6
          cases rr with
          | cons g1 g2 =>
            cases g2 with
            | cons g3 g4 =>
              cases g4 with
              | cons g5 g6 =>
                cases g6
                refine init_step T n1 (IS.init hx ha fa) (by simp [L2.start]) (by simp [L2.start]) r1 g1 (by simp) fun dx w F1 H1 I x rw => ?_
                refine init_step T n2 I (by simp [L2.start]) (by simp [L2.start]) (x.dp _ _ r3) g3 (by simp) fun dx w2 F2 H2 I2 x2 rw2 => ?_
                exact init_step T n3 I2 (by simp [L2.start]) (by simp [L2.start]) (x2.dp _ _ (x.dp _ _ r5)) g5 (by simp) fun dx w3 F3 H3 I3 x3 rw3 => q dx [w, w2, w3] F3 H3 I3 rfl (.cons (x3.dp _ _ (x2.dp _ _ rw)) (.cons (x3.dp _ _ rw2) (.cons rw3 .nil)))
end Mi
set_option maxHeartbeats 4000000
namespace Mi
open PySem PySem.Spec PyProof.Rows L2
/-! ### a def whose promise is proved by a reading that is chosen behind its first statement -/
theorem pss_ex {ι : Type} {X : Cx} {l : List Stmt} {t : ι → TS} (h : ∀ i, PSs X l (t i)) : PSs X l (fun D σ H => ∃ i, t i D σ H) := ⟨fun pins s σ H D I ⟨i, q⟩ => (h i).run pins s σ H D I q⟩
theorem fnG_by {Pg : Program} {w : World} {K : PySem.W.Frag} {mg : Str → Option Value} {base : Heap} {x qual : Str} {st : Stmt} {f : Addr} {fd : FuncData} {N ps : List Str} {k : Nat} {sp : Sp} (Fu : Fun K x qual st f fd) (S : FnScope N ps (defScope st)) (len : ∀ vs H Q E, sp vs H Q E → vs.length = ps.length)
    (hb : ∀ (cdv : Value) (A : Around) (outer : List PySem.Env) (s : Shared) (H : Hp) (E : XK), Room k (cxOf (L2.CX Pg w) Pg w K mg base N qual (defScope st) f cdv A outer s H E).A → (cxOf (L2.CX Pg w) Pg w K mg base N qual (defScope st) f cdv A outer s H E).A.guards = some [] →
      ∀ vs Q, sp vs H Q E → ∃ t, PSs (cxOf (L2.CX Pg w) Pg w K mg base N qual (defScope st) f cdv A outer s H E) (defBody st) t ∧ t { nx := fun _ H' => Q .non H', rt := Q } (L2.start N vs) H) :
    FnG Pg w K mg base (L2.CX Pg w) (k + 1) f fd ps sp := by
  obtain ⟨oc, od, kV, doc, pm, an, cdv, ct, osl, rfl, lk, hcd⟩ := Fu.ex
  refine ⟨len, fun A outer s H args us vs Q E hr hgu e0 hbd rv hsp => ?_⟩
  have hl : vs.length = ps.length := len _ _ _ _ hsp
  have KX : K.In s.heap := e0.mod.kin.keeps fun b o z => (e0.bs b o z).1
  have lim : s.heap.NoLimit := e0.mod.nolimit.keeps fun b o z => (e0.bs b o z).1
  have kinds : ∀ y ∈ ps.zip us, (defScope st).names.lookup y.1 = some .local ∨ ((defScope st).names.lookup y.1 = some .cell ∧ ((cellsFrom (s.heap.objs.size + 1) (defScope st).names []).lookup y.1).isSome = true) := fun ⟨n, v⟩ hy => by
    rcases S.par n (List.of_mem_zip hy).1 with q | q
    · exact .inl q
    · exact .inr ⟨q, PySem.W.cellsFrom_some _ _ _ (.inl q)⟩
  refine codeAny_call_function hr.depth (KX _ _ lk) rfl S.co S.gen rfl (PySem.W.codeRec_of KX hcd) (hbd _ _ _ _ ?_)
  refine wpAny_newFunctionEnv_cells S.kind kinds fun env he s1 x => ?_
  subst he
  refine ⟨lim.keeps x.toInCall.keep, codeAny_func ?_⟩
  obtain ⟨t, body, sat⟩ := hb cdv A outer s H E (hr.deeper _) hgu vs Q hsp
  have I : Inv (cxOf (L2.CX Pg w) Pg w K mg base N qual (defScope st) f cdv A outer s H E) [] (L2.start N vs) H s1 := inv_start S hr.hd e0 hl rv x
  refine wpAny_mono (body.run [] s1 (L2.start N vs) H _ I sat) (fun fl s' hs => ?_) fun e s' hs => hs
  cases fl with
  | ret u => obtain ⟨v, σ', H', J, rv, q⟩ := hs; exact ⟨v, H', J.os, J.bare, J.base, J.hok, rv, q⟩
  | next => obtain ⟨σ', H', J, q⟩ := hs; exact ⟨V.non, H', J.os, J.bare, J.base, J.hok, rfl, q⟩
  | brk => obtain ⟨_, _, _, q⟩ := hs; exact q.elim
  | cont => obtain ⟨_, _, _, q⟩ := hs; exact q.elim
/-! ### the law called by the harness, with no text being shown -/
section
variable {Pg : Program} {w : World} {K : PySem.W.Frag} {mg mb : Str → Option Value} {s0 : Shared} {fa a : Addr} {us : List Value} {ns : List Int}
def LawEnd (s0 : Shared) (r : Except Value Flow) (s' : Shared) : Prop := r = .ok (.ret (.bool true)) ∧ OldK s0.heap s'.heap ∧ s'.os = s0.os ∧ AllBare s'.gens
/-- from a tracked heap that holds the script at most -/
theorem law_at {mh : Hp} (hk : K.In s0.heap) (n1 : s0.heap.Ns mainGlobals mg) (n2 : s0.heap.Ns builtinsNs mb) (nb : ∀ x : Str, x ≠ "__name__" → mb x = bootBuiltins x) (nl : s0.heap.NoLimit) (g0 : s0.gens = #[])
    (at0 : s0.heap.get? a = some { cls := .type "list", data := .seq us.toArray }) (ho : Only mh) (h1 : HOk Pg w mh s0.heap) (h2 : ∀ b, mh b ≠ none → b = a) (h3 : mh a ≠ none → K.lookup a = none)
    (run : ∀ base : Heap, K.In base → base.Ns mainGlobals mg → Env0 Pg w K mg base callerA [] s0 mh → codeAny (model Pg w) callerA (.call (.ref fa) ⟨[.ref a], []⟩) (CR (L2.CX Pg w) [] Pg w mh s0 (fun v _ => v = .bl true) fun _ _ _ => False) s0) :
    codeAny (model Pg w) callerA (.call (.ref fa) ⟨[.ref a], []⟩) (LawEnd s0) s0 := by
  have un : ∀ b, b ≠ a → mh b = none := fun b nb => Classical.byContradiction fun y => nb (h2 b y)
  have hid : ∀ {b : Addr} {o : Obj}, s0.heap.get? b = some o → mh b = none → (hidT s0.heap mh).get? b = some o := fun y z => hidT_get y z
  have dict : ∀ {b : Addr} {m : Str → Option Value}, s0.heap.Ns b m → (hidT s0.heap mh).Ns b m := fun {b m} ⟨o, es, ep, y, d, r⟩ => by
    refine ⟨o, es, ep, hid y (un b fun z => ?_), d, r⟩
    subst z
    rw [at0] at y
    cases y
    exact (nomatch (show Data.seq us.toArray _ = Data.dict es ep from d))
  have kb : K.In (hidT s0.heap mh) := fun b o y => by
    refine hid (hk b o y) ?_
    by_cases z : b = a
    · subst z
      exact Classical.byContradiction fun q => by rw [h3 q] at y; cases y
    · exact un b z
  obtain ⟨mc, c1, c2⟩ := nl
  refine codeAny_mono (run _ kb (dict n1) ⟨rfl, ⟨kb, dict n1, ⟨mb, dict n2, nb⟩, ⟨mc, dict c1, c2⟩⟩, fun b o y => of_hidT y, Nat.le_of_eq (hidT_size _ _), trivial, fun b y => (nomatch y), h1, .of_eq g0⟩) fun r s' q => ?_
  cases r with
  | error e => obtain ⟨_, _, _, _, _, _, _, _, _, _, _, _, z⟩ := q; exact z.elim
  | ok fl =>
    cases fl with
    | ret u =>
      obtain ⟨v, m2, q1, q2, q3, q4, q5, q6⟩ := q
      have q7 : v = .bl true := q6
      subst q7
      obtain rfl : u = Value.bool true := q5
      refine ⟨rfl, OldK.of_keep fun b o y => ?_, q1, q2⟩
      cases z : mh b with
      | none => exact q3.keep b o y z (fun y => nomatch y) (by simp)
      | some t =>
        obtain y1 | ⟨ob, xs, y1⟩ := ho b
        · exact absurd y1 (by rw [z]; simp)
        · have y2 := q3.frzs b ob _ y1
          have y3 := (h1 b _ y1).1
          rw [y] at y3
          cases y3
          exact (q4 b _ y2).1
    | next => exact q.elim
    | brk => exact q.elim
    | cont => exact q.elim
end
/-- THE END: the law's def keeps its promise wherever no text is being shown -/
theorem walk_g {l : PySem.W.OpenLaw} {n k : Nat} {q : Program} {loose : List Str} {XP : (Str → Option Value) → Heap → Prop} {YP : World → Heap → Prop} {d : DefRec} {K : Params → PySem.W.Frag} {sp : World → Sp} {x : Str} (m1 : l.most = some n) (m2 : n ≤ sizeLine) (m3 : d.params.defaults = [])
    (hr : Room k callerA) (hY : ∀ (w : World) (h : Heap), YP w h → (K w.params).In h)
    (F : ∀ (w : World) (mg : Str → Option Value) (fa : Addr) (h : Heap), (K w.params).In h → h.Ns mainGlobals mg → mg d.name = some (.ref fa) → ∃ fd : FuncData, (∀ (s : Shared) (u : Value), BindsTo s fd ⟨[u], []⟩ [(x, u)]) ∧
      ∀ base : Heap, (K w.params).In base → base.Ns mainGlobals mg → FnG l.prog w (K w.params) mg base (L2.CX l.prog w) k fa fd [x] (sp w))
    (hsp : ∀ (w : World) (H : Hp) (a : Addr) (ns : List Int), ns.length ≤ n → Only H → SqL (K w.params) H a (ns.map V.int) → sp w [.ref a] H (fun v _ => v = .bl true) fun _ _ _ => False) :
    PySem.W.WalkO q loose XP YP l.row.toRowW d [] (fun f vs => PySem.call f vs) := by
  refine Att.attach_call m1 m3 fun w t0 t1 mg mb fa o pm cd doc a us ns G Y ho hd hcd hmg hobj hints hlen hg => ?_
  have hk := hY w _ Y
  have hm : ns.length ≤ sizeLine := Nat.le_trans hlen m2
  have rv := vals_ints hints
  obtain ⟨fd, hb, hF⟩ := F w mg fa _ hk G.T.g hmg
  have go : ∀ mh : Hp, Only mh → SqL (K w.params) mh a (ns.map V.int) → ∀ base : Heap, (K w.params).In base → base.Ns mainGlobals mg → Env0 l.prog w (K w.params) mg base callerA [] t1 mh →
      codeAny (model l.prog w) callerA (.call (.ref fa) ⟨[.ref a], []⟩) (CR (L2.CX l.prog w) [] l.prog w mh t1 (fun v _ => v = .bl true) fun _ _ _ => False) t1 := fun mh y1 y2 base y3 y4 e0 =>
    (hF base y3 y4).run callerA [] t1 mh ⟨[.ref a], []⟩ [.ref a] [.ref a] _ _ hr rfl e0 (hb t1 (.ref a)) (.cons rfl .nil) (hsp w mh a ns hlen y1 y2)
  cases hl : (K w.params).lookup a with
  | some o =>
    have e := hk a o hl
    rw [hobj] at e
    cases e
    exact law_at (mh := fun _ => none) hk G.T.g G.T.b G.T.builtins G.T.nolimit hg hobj (fun _ => .inl rfl) (fun b u z => (nomatch (show (none : Option HO) = some u from z))) (fun b z => absurd rfl z) (fun z => absurd rfl z)
      (go _ (fun _ => .inl rfl) (.inr ⟨_, us.toArray, _, hl, rfl, rfl, rfl, by rw [List.size_toArray, hints.length]; exact hm, by simpa using rv⟩))
  | none =>
    have s1 : (fun b => if b = a then some (HO.frz { cls := .type "list", data := .seq us.toArray } (.lst (ns.map V.int))) else none : Hp) a = some (HO.frz { cls := .type "list", data := .seq us.toArray } (.lst (ns.map V.int))) := if_pos rfl
    have s2 : ∀ b, b ≠ a → (fun b => if b = a then some (HO.frz { cls := .type "list", data := .seq us.toArray } (.lst (ns.map V.int))) else none : Hp) b = none := fun b z => if_neg z
    generalize (fun b => if b = a then some (HO.frz { cls := .type "list", data := .seq us.toArray } (.lst (ns.map V.int))) else none : Hp) = mh at s1 s2
    have y1 : Only mh := fun b => by
      by_cases z : b = a
      · subst z; exact .inr ⟨_, _, s1⟩
      · exact .inl (s2 b z)
    refine law_at (mh := mh) hk G.T.g G.T.b G.T.builtins G.T.nolimit hg hobj y1 (fun b u z => ?_) (fun b z => Classical.byContradiction fun y => z (s2 b y)) (fun _ => hl) (go mh y1 (.inl (.inr ⟨_, s1⟩)))
    by_cases y : b = a
    · subst y
      rw [s1] at z
      cases z
      exact ⟨hobj, by rw [List.length_map]; exact hm, us, _, rv, hobj⟩
    · rw [s2 b y] at z; cases z
end Mi
set_option maxHeartbeats 4000000
namespace Mi
open PySem PySem.Spec PyProof.Rows L2
/-! ### the law's own promise, tables of classes -/
def spLaw (K : PySem.W.Frag) : Sp := fun vs H Q _ => ∃ (a : Addr) (ns : List Int), vs = [.ref a] ∧ SqL K H a (ns.map V.int) ∧ ns.length ≤ 1000 ∧ ∀ H', Q (.bl true) H'
theorem spLaw_len {K : PySem.W.Frag} (vs : List V) (H : Hp) (Q : VK) (E : XK) (h : spLaw K vs H Q E) : vs.length = (["script"] : List Str).length := by
  obtain ⟨a, ns, rfl, _⟩ := h
  rfl
theorem eok_law {K : PySem.W.Frag} {mg : Str → Option Value} {p c : Addr} {cs : List Addr} {s : Sto} {H : Hp} {xa : Addr} {xc : Value} {xd : Option Addr} {σ : St} {n : Nat} (h : StoAt p c cs s H) (hl : σ.length = n + 2) (h1 : σ[1]? = some (some (.ref p))) :
    EOk ⟨K, mg, Bsto p c cs, fun _ => none, H, xa, xc, xd⟩ ⟨.un :: .tok :: List.replicate n .un, s⟩ σ (fun _ => none) H := by
  have look : ∀ (i : Nat) (sl : Slot), (Slot.un :: Slot.tok :: List.replicate n Slot.un)[i]? = some sl → sl = .un ∨ (i = 1 ∧ sl = .tok) := fun i sl z => by
    match i, z with
    | 0, z => exact .inl (Option.some.inj z).symm
    | 1, z => exact .inr ⟨rfl, (Option.some.inj z).symm⟩
    | i + 2, z =>
      have y : (List.replicate n Slot.un)[i]? = some sl := z
      rw [List.getElem?_replicate] at y
      split at y
      · exact .inl (Option.some.inj y).symm
      · cases y
  refine ⟨Ext.refl (fun _ _ z => nomatch z), fun _ _ _ z => z, h, fun _ _ => rfl, by rw [hl]; simp, fun i d z => ?_, fun i z => ?_, fun i xs z => ?_, fun i j xs ys q z => ?_, fun i x z => ?_⟩
  · rcases look i _ z with y | ⟨_, y⟩ <;> cases y
  · rcases look i _ z with y | ⟨rfl, y⟩
    · cases y
    · exact h1
  · rcases look i _ z with y | ⟨_, y⟩ <;> cases y
  · rcases look i _ z with y | ⟨_, y⟩ <;> cases y
  · rcases look i _ z with y | ⟨_, y⟩ <;> cases y
theorem satS_ret {P : Pm} {W : WX} {F : Hp} {D : Ends} {o : Out P.B.S Fl} {d : Mi.D} {e : En P.B.S} (h : o = .ok (.ret (.sh d)) e) (q : ∀ H v F1, Rp F1 v d → D.rt v H) : SatS P W F D o := by
  subst h
  exact fun σ1 F1 H2 _ _ v rv => q _ _ _ rv
def subOf (t : List (Str × Str × Bool)) : Str → Str → Option Bool := fun a b => (t.find? fun x => x.1 == a && x.2.1 == b).map (·.2.2)
theorem subOf_mem {t : List (Str × Str × Bool)} {a b : Str} {v : Bool} (h : subOf t a b = some v) : (a, b, v) ∈ t := by
  unfold subOf at h
  obtain ⟨⟨x, y, z⟩, h1, h2⟩ := Option.map_eq_some_iff.mp h
  have m := List.mem_of_find?_eq_some h1
  have e := List.find?_some h1
  obtain ⟨e1, e2⟩ := Bool.and_eq_true_iff.mp e
  have e1 := eq_of_beq e1
  have e2 := eq_of_beq e2
  dsimp only at e1 e2 h2
  subst e1 e2 h2
  exact m
theorem kit_ref {K : PySem.W.Frag} {C1 C2 : Addr} {b : Bool} (h2 : PySem.W.isClsIn K C2 = true) (h3 : PySem.W.typeIn K (.ref C2) = some (.type "type")) (h4 : PySem.W.subIn K (.ref C1) (.ref C2) = some b) (h5 : C1 = C2 → b = true) : PySem.W.kitOne K (.ref C1) (.ref C2) = some b := by
  unfold PySem.W.kitOne
  split
  · rename_i h
    have e := eq_of_beq h
    cases e
    rw [h5 rfl]
  · show (if ((PySem.W.clsIn K C2).isSome && PySem.W.typeIn K (.ref C2) == some (.type "type")) = true then PySem.W.subIn K (.ref C1) (.ref C2) else none) = some b
    have e2 : ((PySem.W.clsIn K C2).isSome && PySem.W.typeIn K (.ref C2) == some (.type "type")) = true := by
      have h2' : (PySem.W.clsIn K C2).isSome = true := h2
      rw [h2', h3]; rfl
    rw [if_pos e2]
    exact h4
@[irreducible] def m__law_take (cs : List Addr) : List Arg → Sto → FO Sto := m_take cs
theorem initSp_len {fnp : List Arg → Unit → FO Unit} {C : Addr} {flds : List Str} {vs : List V} {H : Hp} {Q : VK} {E : XK} (h : initSp fnp C flds vs H Q E) : vs.length = flds.length + 1 := by
  obtain ⟨a, vals, F, xs, rs, rfl, hl, _⟩ := h
  rw [List.length_cons, hl]
/-! ### the store's defs, read by hand -/
def spMixed : Sp := fun vs H Q _ => ∃ n s : Int, vs = [.int n, .int s] ∧ Q (.int (mixed n s)) H
/-- what a def of the store leaves as it was -/
structure Fr (O : List Addr) (H H1 : Hp) : Prop where
  fr : ∀ a o, a ∉ O → H a = some o → H1 a = some o
  kp : ∀ a o, H a = some o → ∃ u, H1 a = some u
  bk : ∀ a, a ∉ O → H1 a = H a
theorem Fr.refl {O : List Addr} {H : Hp} : Fr O H H := ⟨fun _ _ _ h => h, fun _ o h => ⟨o, h⟩, fun _ _ => rfl⟩
theorem Fr.upd {O : List Addr} {H H1 : Hp} {a : Addr} {o : HO} (f : Fr O H H1) (h : a ∈ O) : Fr O H (upd H1 a o) := by
  refine ⟨fun b u nb hb => ?_, fun b u hb => ?_, fun b nb => ?_⟩
  · rw [upd_ne (fun z : b = a => nb (z ▸ h))]; exact f.fr b u nb hb
  · by_cases z : b = a
    · subst z; exact ⟨_, upd_same⟩
    · rw [upd_ne z]; exact f.kp b u hb
  · rw [upd_ne (fun z : b = a => nb (z ▸ h))]; exact f.bk b nb
theorem Fr.pst {B : Amb} {s1 : B.S} {F H H1 : Hp} (f : Fr B.O H H1) (hx : Ex F H) (off : ∀ a ∈ B.O, F a = none) (h : B.At s1 H1) : Pst B s1 F H F H1 := by
  refine ⟨⟨Ex.refl _, fun b o hb => ?_, fun b o hb => .inl ⟨_, hb⟩, f.kp⟩, f.fr, h, off⟩
  refine f.fr b o (fun z => ?_) (hx b o hb)
  rw [off b z] at hb; cases hb
theorem StoAt.st {p c : Addr} {cs : List Addr} {s s' : Sto} {H : Hp} (h : StoAt p c cs s H) (hm : s'.m = s.m) (hp : 0 ≤ s'.pos ∧ s'.pos ≤ cs.length) : StoAt p c cs s' (upd H p (.lst (stoV c s'))) := by
  refine ⟨upd_same, by rw [upd_ne (Ne.symm h.n1)]; exact h.hc, fun a ha => ?_, h.n1, h.n2, h.n3, hp, h.cl⟩
  rw [upd_ne (fun z : a = p => h.n2 (z ▸ ha)), hm]; exact h.hs a ha
theorem StoAt.cell {p c a : Addr} {cs : List Addr} {s : Sto} {H : Hp} {x : Int × Int} (h : StoAt p c cs s H) (ha : a ∈ cs) : StoAt p c cs { s with m := fun b => if b = a then x else s.m b } (upd H a (.lst (cellV x))) := by
  refine ⟨by rw [upd_ne (fun z : p = a => h.n2 (z ▸ ha))]; exact h.hp, by rw [upd_ne (fun z : c = a => h.n3 (z ▸ ha))]; exact h.hc, fun b hb => ?_, h.n1, h.n2, h.n3, h.pz, h.cl⟩
  by_cases z : b = a
  · subst z; rw [upd_same]; dsimp only; rw [if_pos rfl]
  · rw [upd_ne z]; dsimp only; rw [if_neg z]; exact h.hs b hb
theorem sq_and {tA tB : TT} {u rest : TS} {D : Ends} {σ : St} {H : Hp} (a b : Bool) (hA : ∀ Q : Bool → Hp → Prop, Q a H → tA σ H Q) (hB : ∀ Q : Bool → Hp → Prop, Q b H → tB σ H Q) (h1 : (a && b) = true → u { D with nx := rest D } σ H) (h2 : (a && b) = false → rest D σ H) : tSeq (tIfS (tAnd tA tB) u tNext) rest D σ H := by
  refine hA _ ?_
  cases a with
  | false => exact h2 rfl
  | true =>
    refine hB _ ?_
    cases b with
    | false => exact h2 rfl
    | true => exact h1 rfl
theorem idx_cell {cs : List Addr} {j : Nat} {a : Addr} {x : Int} (h : cs[j]? = some a) (e : x = (j : Int)) : atI (cs.map V.ref) x = some (.ref a) := by
  subst e
  exact atI_nat (by rw [List.getElem?_map, h]; rfl)
/-- a new store, whatever its cells hold -/
def spStore (K : PySem.W.Frag) : Sp := fun vs H Q _ => ∃ (a : Addr) (ns : List Int), vs = [.ref a] ∧ SqL K H a (ns.map V.int) ∧ ns.length ≤ 1000 ∧ ∀ p c cs s H1, StoAt p c cs s H1 → Q (.ref p) H1
theorem cut_int {ns : List Int} {lo hi : Option Int} {v : V} (h : v ∈ cutV (ns.map V.int) lo hi) : ∃ i, v = .int i := by
  unfold cutV at h
  have h1 := List.mem_of_mem_drop (List.mem_of_mem_take h)
  obtain ⟨i, _, e⟩ := List.mem_map.mp h1
  exact ⟨i, e.symm⟩
theorem chain_lt {σ : St} {H : Hp} {a b c : Int} {ta tb tc : TE} {Q : Bool → Hp → Prop} (h1 : ∀ Q : VK, Q (.int a) H → ta σ H Q) (h2 : ∀ Q : VK, Q (.int b) H → tb σ H Q) (h3 : ∀ Q : VK, Q (.int c) H → tc σ H Q)
    (q : Q (decide (a < b) && decide (b < c)) H) : tTest (tChain (rI0 fun i j => .bl (decide (i < j))) (rI0 fun i j => .bl (decide (i < j))) ta tb tc) σ H Q := by
  refine h1 _ (h2 _ ⟨a, b, rfl, rfl, _, rfl, ?_⟩)
  by_cases h : a < b
  · rw [decide_eq_true h] at q ⊢
    exact h3 _ ⟨b, c, rfl, rfl, _, rfl, q⟩
  · rw [decide_eq_false h] at q ⊢
    exact ⟨_, rfl, q⟩
/-- the list of cells as the loop leaves it -/
structure CellsAt (c : Addr) (cs : List Addr) (H : Hp) : Prop where
  hc : H c = some (.lst (cs.map V.ref))
  hs : ∀ a ∈ cs, ∃ k v, H a = some (.lst (cellV (k, v)))
  nc : c ∉ cs
theorem CellsAt.add {c q : Addr} {cs : List Addr} {H : Hp} {k v : Int} (h : CellsAt c cs H) (nq : H q = none) : CellsAt c (cs ++ [q]) (upd (upd H q (.lst [.int k, .int v])) c (.lst ((cs ++ [q]).map V.ref))) := by
  have nqc : q ≠ c := fun z => by rw [z, h.hc] at nq; cases nq
  refine ⟨upd_same, fun a ha => ?_, fun z => ?_⟩
  · rcases List.mem_append.mp ha with ha | ha
    · obtain ⟨k', v', e⟩ := h.hs a ha
      have n1 : a ≠ c := fun z => h.nc (z ▸ ha)
      have n2 : a ≠ q := fun z => by rw [z, nq] at e; cases e
      exact ⟨k', v', by rw [upd_ne n1, upd_ne n2]; exact e⟩
    · have e : a = q := by simpa using ha
      subst e
      exact ⟨k, v, by rw [upd_ne nqc, upd_same]; rfl⟩
  · rcases List.mem_append.mp z with z | z
    · exact h.nc z
    · exact nqc ((by simpa using z : c = q).symm)
theorem sq_if {c : TT} {u v rest : TS} {D : Ends} {σ : St} {H : Hp} (b : Bool) (hc : ∀ Q : Bool → Hp → Prop, Q b H → c σ H Q) (h1 : b = true → u { D with nx := rest D } σ H) (h2 : b = false → v { D with nx := rest D } σ H) : tSeq (tIfS c u v) rest D σ H := by
  refine hc _ ?_
  cases b with
  | false => exact h2 rfl
  | true => exact h1 rfl
theorem atI_last1 {xs : List V} {v : V} : atI (xs ++ [v]) (-1) = some v := atI_last _ _
theorem pow60 : (0 : Int) < 10 ^ (60 : Int).toNat := by decide
end Mi
set_option maxHeartbeats 4000000
namespace Mi
open PySem PySem.Spec PyProof.Rows L2
/-! # what a mirror does, by rules that simp runs -/
section
variable {S α β : Type} {e e' : En S}
def wp (m : M S α) (e : En S) (Q : α → En S → Prop) (X : Er → En S → Prop) : Prop := match m e with
  | .ok a e1 => Q a e1
  | .err x e1 => X x e1
  | .stuck => False
variable {Q : α → En S → Prop} {X : Er → En S → Prop}
def wpK (m : M S α) (Q : α → En S → Prop) (X : Er → En S → Prop) (e : En S) : Prop := wp m e Q X
@[simp] theorem wpK_e (m : M S α) : wpK m Q X e = wp m e Q X := (rfl)
theorem wp_bnd (f : M S β) (k : β → M S α) : wp (bnd f k) e Q X = wp f e (fun a e1 => wp (k a) e1 Q X) X := by
  unfold wp bnd
  cases f e <;> rfl
@[simp] theorem wp_rt (a : α) : wp (rt a) e Q X = Q a e := (rfl)
@[simp] theorem wp_stk : wp (stk : M S α) e Q X = False := (rfl)
/-- an answer that may lack -/
def wO (o : Option α) (K : α → Prop) : Prop := match o with
  | some a => K a
  | none => False
@[simp] theorem wO_some (a : α) (K : α → Prop) : wO (some a) K = K a := (rfl)
@[simp] theorem wO_none (K : α → Prop) : wO none K = False := (rfl)
@[simp] theorem wO_ite {c : Prop} [Decidable c] (a : α) (K : α → Prop) : wO (if c then some a else none) K = (c ∧ K a) := by
  by_cases h : c <;> simp [h]
theorem wO_of {o : Option α} {K : α → Prop} {a : α} (h : o = some a) (k : K a) : wO o K := by rw [h]; exact k
def kO (Q : α → En S → Prop) (e : En S) (z : α) : Prop := Q z e
@[simp] theorem kO_e (z : α) : kO Q e z = Q z e := (rfl)
@[simp] theorem wp_lft (o : Option α) : wp (lft o) e Q X = wO o (kO Q e) := by
  unfold wp lft wO
  cases o <;> rfl
/-- a choice -/
def wIf (t : Bool) (e : En S) (A B : En S → Prop) : Prop := if t = true then A e else B e
@[simp] theorem wIf_t (A B : En S → Prop) : wIf true e A B = A e := (rfl)
@[simp] theorem wIf_f (A B : En S → Prop) : wIf false e A B = B e := (rfl)
theorem wIf_of {t : Bool} {A B : En S → Prop} (h1 : t = true → A e) (h2 : t = false → B e) : wIf t e A B := by
  cases t
  · exact h2 rfl
  · exact h1 rfl
theorem wIf_d {c : Prop} [Decidable c] {A B : En S → Prop} (h1 : c → A e) (h2 : ¬ c → B e) : wIf (decide c) e A B := wIf_of (fun h => h1 (of_decide_eq_true h)) fun h => h2 (of_decide_eq_false h)
theorem wIf_nd {c : Prop} [Decidable c] {A B : En S → Prop} (h1 : ¬ c → A e) (h2 : c → B e) : wIf (!decide c) e A B := wIf_of (fun h => h1 (by simpa using h)) fun h => h2 (by simpa using h)
def kC (v : α) (Q : α → En S → Prop) (e : En S) : Prop := Q v e
@[simp] theorem kC_e (v : α) : kC v Q e = Q v e := (rfl)
def kNot (Q : Bool → En S → Prop) (b : Bool) (e : En S) : Prop := Q (!b) e
@[simp] theorem kNot_e (Q : Bool → En S → Prop) (b : Bool) : kNot Q b e = Q (!b) e := (rfl)
def kIf (f g : M S α) (Q : α → En S → Prop) (X : Er → En S → Prop) (b : Bool) (e : En S) : Prop := wIf b e (wpK f Q X) (wpK g Q X)
@[simp] theorem kIf_e (f g : M S α) (b : Bool) : kIf f g Q X b e = wIf b e (wpK f Q X) (wpK g Q X) := (rfl)
/-! slots -/
def wV (o : Option Slot) (i : Nat) (e : En S) (Q : Mi.D → En S → Prop) : Prop := match o with
  | some (.sh d) => Q d e
  | some (.ob (.lst xs)) => Q (.list xs) { e with sl := e.sl.set i (.sh (.list xs)) }
  | _ => False
@[simp] theorem wV_sh (d : Mi.D) (i : Nat) (Q : Mi.D → En S → Prop) : wV (some (.sh d)) i e Q = Q d e := (rfl)
@[simp] theorem wV_ow (xs : List Mi.D) (i : Nat) (Q : Mi.D → En S → Prop) : wV (some (.ow xs)) i e Q = Q (.list xs) { e with sl := e.sl.set i (.sh (.list xs)) } := (rfl)
@[simp] theorem wp_mV {Q : Mi.D → En S → Prop} (i : Nat) : wp (mV i) e Q X = wV e.sl[i]? i e Q := by
  unfold wp mV wV
  cases e.sl[i]? with
  | none => rfl
  | some s =>
    cases s with
    | ob o => cases o <;> rfl
    | _ => rfl
def wL (o : Option Slot) (Q : List Mi.D → Prop) : Prop := match o with
  | some (.ob (.lst xs)) => Q xs
  | some (.sh (.list xs)) => Q xs
  | _ => False
@[simp] theorem wL_ow (xs : List Mi.D) (Q : List Mi.D → Prop) : wL (some (.ow xs)) Q = Q xs := (rfl)
@[simp] theorem wL_sh (xs : List Mi.D) (Q : List Mi.D → Prop) : wL (some (.sh (.list xs))) Q = Q xs := (rfl)
theorem lstAt_wL {i : Nat} {Q : List Mi.D → Prop} : (match lstAt i e with | some xs => Q xs | none => False) = wL e.sl[i]? Q := by
  unfold lstAt wL
  cases e.sl[i]? with
  | none => rfl
  | some s =>
    cases s with
    | sh d => cases d <;> rfl
    | ob o => cases o <;> rfl
    | _ => rfl
def wW (o : Option Slot) (Q : List Mi.D → Prop) : Prop := match o with
  | some (.ob (.lst xs)) => Q xs
  | _ => False
@[simp] theorem wW_ow (xs : List Mi.D) (Q : List Mi.D → Prop) : wW (some (.ow xs)) Q = Q xs := (rfl)
def wT (o : Option Slot) (e : En S) (Q : En S → Prop) : Prop := match o with
  | some .tok => Q e
  | _ => False
@[simp] theorem wT_tok (Q : En S → Prop) : wT (some .tok) e Q = Q e := (rfl)
/-! values -/
section
variable {Q : Mi.D → En S → Prop}
def k1 (g : Mi.D → Option Mi.D) (Q : Mi.D → En S → Prop) (x : Mi.D) (e : En S) : Prop := wO (g x) (kO Q e)
@[simp] theorem k1_e (g : Mi.D → Option Mi.D) (x : Mi.D) : k1 g Q x e = wO (g x) (kO Q e) := (rfl)
@[simp] theorem wp_m1 (g : Mi.D → Option Mi.D) (f : M S Mi.D) : wp (m1 g f) e Q X = wp f e (k1 g Q) X := by unfold m1; rw [wp_bnd]; simp only [wp_lft]; rfl
def k2b (g : Mi.D → Mi.D → Option Mi.D) (Q : Mi.D → En S → Prop) (x y : Mi.D) (e : En S) : Prop := wO (g x y) (kO Q e)
@[simp] theorem k2b_e (g : Mi.D → Mi.D → Option Mi.D) (x y : Mi.D) : k2b g Q x y e = wO (g x y) (kO Q e) := (rfl)
def k2 (g : Mi.D → Mi.D → Option Mi.D) (f : M S Mi.D) (Q : Mi.D → En S → Prop) (X : Er → En S → Prop) (x : Mi.D) (e : En S) : Prop := wp f e (k2b g Q x) X
@[simp] theorem k2_e (g : Mi.D → Mi.D → Option Mi.D) (f : M S Mi.D) (x : Mi.D) : k2 g f Q X x e = wp f e (k2b g Q x) X := (rfl)
@[simp] theorem wp_m2 (g : Mi.D → Mi.D → Option Mi.D) (f1 f2 : M S Mi.D) : wp (m2 g f1 f2) e Q X = wp f1 e (k2 g f2 Q X) X := by unfold m2; rw [wp_bnd]; simp only [wp_bnd, wp_lft]; rfl
def kFz (Q : Mi.D → En S → Prop) (xs : List Mi.D) (e : En S) : Prop := Q (.list xs) e
@[simp] theorem kFz_e (xs : List Mi.D) : kFz Q xs e = Q (.list xs) e := (rfl)
@[simp] theorem wp_mFz (f : M S (List Mi.D)) : wp (mFz f) e Q X = wp f e (kFz Q) X := by unfold mFz; rw [wp_bnd]; rfl
def kTup (Q : Mi.D → En S → Prop) (as : List Arg) (e : En S) : Prop := wO (((argD as).bind capL).map PyData.tuple) (kO Q e)
@[simp] theorem kTup_e (as : List Arg) : kTup Q as e = wO (((argD as).bind capL).map PyData.tuple) (kO Q e) := (rfl)
@[simp] theorem wp_mTup (g : M S (List Arg)) : wp (mTup g) e Q X = wp g e (kTup Q) X := by unfold mTup; rw [wp_bnd]; simp only [wp_lft]; rfl
def kA {β : Type} (g : List Arg → Option β) (Q : β → En S → Prop) (as : List Arg) (e : En S) : Prop := wO (g as) (kO Q e)
@[simp] theorem kA_e {β : Type} (g : List Arg → Option β) (Q : β → En S → Prop) (as : List Arg) : kA g Q as e = wO (g as) (kO Q e) := (rfl)
@[simp] theorem wp_mB (g : List Arg → Option Mi.D) (m : M S (List Arg)) : wp (mB g m) e Q X = wp m e (kA g Q) X := by unfold mB; rw [wp_bnd]; simp only [wp_lft]; rfl
def kAndV (g : M S Mi.D) (Q : Mi.D → En S → Prop) (X : Er → En S → Prop) (b : Bool) (e : En S) : Prop := wIf b e (wpK g Q X) (kC (.bool false) Q)
@[simp] theorem kAndV_e (g : M S Mi.D) (b : Bool) : kAndV g Q X b e = wIf b e (wpK g Q X) (kC (.bool false) Q) := (rfl)
@[simp] theorem wp_mAndV (f g : M S Mi.D) : wp (mAndV f g) e Q X = wp (asB f) e (kAndV g Q X) X := by
  unfold mAndV; rw [wp_bnd]; congr 1; funext b e1; cases b <;> rfl
def kOrV (g : M S Mi.D) (Q : Mi.D → En S → Prop) (X : Er → En S → Prop) (b : Bool) (e : En S) : Prop := wIf b e (kC (.bool true) Q) (wpK g Q X)
@[simp] theorem kOrV_e (g : M S Mi.D) (b : Bool) : kOrV g Q X b e = wIf b e (kC (.bool true) Q) (wpK g Q X) := (rfl)
@[simp] theorem wp_mOrV (f g : M S Mi.D) : wp (mOrV f g) e Q X = wp (asB f) e (kOrV g Q X) X := by
  unfold mOrV; rw [wp_bnd]; congr 1; funext b e1; cases b <;> rfl
def kNotV (Q : Mi.D → En S → Prop) (b : Bool) (e : En S) : Prop := Q (.bool (!b)) e
@[simp] theorem kNotV_e (b : Bool) : kNotV Q b e = Q (.bool (!b)) e := (rfl)
@[simp] theorem wp_mNotV (f : M S Mi.D) : wp (mNotV f) e Q X = wp (asB f) e (kNotV Q) X := by unfold mNotV; rw [wp_bnd]; rfl
@[simp] theorem wp_mIfE (f : M S Bool) (g h : M S Mi.D) : wp (mIfE f g h) e Q X = wp f e (kIf g h Q X) X := by
  unfold mIfE; rw [wp_bnd]; congr 1; funext b e1; cases b <;> rfl
def wB (d : Mi.D) (e : En S) (Q : Bool → En S → Prop) : Prop := match d with
  | .bool b => Q b e
  | _ => False
@[simp] theorem wB_b (b : Bool) (Q : Bool → En S → Prop) : wB (.bool b) e Q = Q b e := (rfl)
def kBz (Q : Bool → En S → Prop) (d : Mi.D) (e : En S) : Prop := wB d e Q
@[simp] theorem kBz_e (Q : Bool → En S → Prop) (d : Mi.D) : kBz Q d e = wB d e Q := (rfl)
def kCh2 (g' : Mi.D → Mi.D → Option Mi.D) (fc : M S Mi.D) (Q : Mi.D → En S → Prop) (X : Er → En S → Prop) (y : Mi.D) (b : Bool) (e : En S) : Prop := wIf b e (wpK fc (k2b g' Q y) X) (kC (.bool false) Q)
@[simp] theorem kCh2_e (g' : Mi.D → Mi.D → Option Mi.D) (fc : M S Mi.D) (y : Mi.D) (b : Bool) : kCh2 g' fc Q X y b e = wIf b e (wpK fc (k2b g' Q y) X) (kC (.bool false) Q) := (rfl)
def kCh1 (g g' : Mi.D → Mi.D → Option Mi.D) (fc : M S Mi.D) (Q : Mi.D → En S → Prop) (X : Er → En S → Prop) (x y : Mi.D) (e : En S) : Prop := wO (g x y) (kO (kBz (kCh2 g' fc Q X y)) e)
@[simp] theorem kCh1_e (g g' : Mi.D → Mi.D → Option Mi.D) (fc : M S Mi.D) (x y : Mi.D) : kCh1 g g' fc Q X x y e = wO (g x y) (kO (kBz (kCh2 g' fc Q X y)) e) := (rfl)
def kCh (g g' : Mi.D → Mi.D → Option Mi.D) (fb fc : M S Mi.D) (Q : Mi.D → En S → Prop) (X : Er → En S → Prop) (x : Mi.D) (e : En S) : Prop := wp fb e (kCh1 g g' fc Q X x) X
@[simp] theorem kCh_e (g g' : Mi.D → Mi.D → Option Mi.D) (fb fc : M S Mi.D) (x : Mi.D) : kCh g g' fb fc Q X x e = wp fb e (kCh1 g g' fc Q X x) X := (rfl)
@[simp] theorem wp_mChain (g g' : Mi.D → Mi.D → Option Mi.D) (fa fb fc : M S Mi.D) : wp (mChain g g' fa fb fc) e Q X = wp fa e (kCh g g' fb fc Q X) X := by
  unfold mChain; rw [wp_bnd]; congr 1; funext x e1; rw [wp_bnd, kCh_e]; congr 1; funext y e2; rw [wp_bnd, wp_lft, kCh1_e]
  cases g x y with
  | none => rfl
  | some z =>
    cases z with
    | bool b =>
      cases b with
      | false => rfl
      | true => simp only [wO_some, kO_e, kBz_e, wB_b, kCh2_e, wIf_t, wpK_e, wp_bnd, wp_lft]; rfl
    | _ => rfl
def kIx2 (k : Mi.D) (Q : Mi.D → En S → Prop) (e : En S) (xs : List Mi.D) : Prop := wO (dIx (.list xs) k) (kO Q e)
@[simp] theorem kIx2_e (k : Mi.D) (xs : List Mi.D) : kIx2 k Q e xs = wO (dIx (.list xs) k) (kO Q e) := (rfl)
def kIx (i : Nat) (Q : Mi.D → En S → Prop) (k : Mi.D) (e : En S) : Prop := wL e.sl[i]? (kIx2 k Q e)
@[simp] theorem kIx_e (i : Nat) (k : Mi.D) : kIx i Q k e = wL e.sl[i]? (kIx2 k Q e) := (rfl)
def kIx0 (f : M S Mi.D) (i : Nat) (Q : Mi.D → En S → Prop) (X : Er → En S → Prop) (e : En S) (xs : List Mi.D) : Prop := wp f e (kIx i Q) X
@[simp] theorem kIx0_e (f : M S Mi.D) (i : Nat) (xs : List Mi.D) : kIx0 f i Q X e xs = wp f e (kIx i Q) X := (rfl)
@[simp] theorem wp_mIxO (i : Nat) (f : M S Mi.D) : wp (mIxO i f) e Q X = wL e.sl[i]? (kIx0 f i Q X e) := by
  unfold mIxO withL
  rw [← lstAt_wL]
  unfold wp
  dsimp only
  cases lstAt i e with
  | none => rfl
  | some ys =>
    dsimp only
    rw [kIx0_e]
    unfold bnd wp
    cases f e with
    | ok k e1 =>
      dsimp only
      rw [kIx_e, ← lstAt_wL]
      cases lstAt i e1 with
      | none => rfl
      | some xs => cases k <;> first | rfl | (unfold lft kIx2 wO dIx; dsimp only; cases atI xs _ <;> rfl)
    | _ => rfl
def kIn2 (g : Mi.D → List Mi.D → Option Mi.D) (Q : Mi.D → En S → Prop) (d : Mi.D) (e : En S) (xs : List Mi.D) : Prop := wO (g d xs) (kO Q e)
@[simp] theorem kIn2_e (g : Mi.D → List Mi.D → Option Mi.D) (d : Mi.D) (xs : List Mi.D) : kIn2 g Q d e xs = wO (g d xs) (kO Q e) := (rfl)
def kIn (g : Mi.D → List Mi.D → Option Mi.D) (i : Nat) (Q : Mi.D → En S → Prop) (d : Mi.D) (e : En S) : Prop := wL e.sl[i]? (kIn2 g Q d e)
@[simp] theorem kIn_e (g : Mi.D → List Mi.D → Option Mi.D) (i : Nat) (d : Mi.D) : kIn g i Q d e = wL e.sl[i]? (kIn2 g Q d e) := (rfl)
@[simp] theorem wp_mInO (g : Mi.D → List Mi.D → Option Mi.D) (i : Nat) (f : M S Mi.D) : wp (mInO g i f) e Q X = wp f e (kIn g i Q) X := by
  unfold mInO
  rw [wp_bnd]
  congr 1
  funext d e1
  rw [kIn_e, ← lstAt_wL]
  unfold wp
  dsimp only
  cases lstAt i e1 with
  | none => rfl
  | some xs => unfold lft kIn2 wO; dsimp only; cases g d xs <;> rfl
end
def kLs (g : List Mi.D → Option α) (Q : α → En S → Prop) (e : En S) (xs : List Mi.D) : Prop := wO (g xs) (kO Q e)
@[simp] theorem kLs_e (g : List Mi.D → Option α) (xs : List Mi.D) : kLs g Q e xs = wO (g xs) (kO Q e) := (rfl)
@[simp] theorem wp_mO (i : Nat) (g : List Mi.D → Option α) : wp (mO i g) e Q X = wL e.sl[i]? (kLs g Q e) := by
  rw [← lstAt_wL]
  unfold wp mO
  cases lstAt i e with
  | none => rfl
  | some xs => unfold lft kLs wO; dsimp only; cases g xs <;> rfl
section
variable {Q : Bool → En S → Prop}
@[simp] theorem wp_asB (f : M S Mi.D) : wp (asB f) e Q X = wp f e (kBz Q) X := by
  unfold asB; rw [wp_bnd]; congr 1; funext d e1; cases d <;> rfl
def kAnd (g : M S Bool) (Q : Bool → En S → Prop) (X : Er → En S → Prop) (b : Bool) (e : En S) : Prop := wIf b e (wpK g Q X) (kC false Q)
@[simp] theorem kAnd_e (g : M S Bool) (b : Bool) : kAnd g Q X b e = wIf b e (wpK g Q X) (kC false Q) := (rfl)
@[simp] theorem wp_mAnd (f g : M S Bool) : wp (mAnd f g) e Q X = wp f e (kAnd g Q X) X := by
  unfold mAnd; rw [wp_bnd]; congr 1; funext b e1; cases b <;> rfl
def kOr (g : M S Bool) (Q : Bool → En S → Prop) (X : Er → En S → Prop) (b : Bool) (e : En S) : Prop := wIf b e (kC true Q) (wpK g Q X)
@[simp] theorem kOr_e (g : M S Bool) (b : Bool) : kOr g Q X b e = wIf b e (kC true Q) (wpK g Q X) := (rfl)
@[simp] theorem wp_mOr (f g : M S Bool) : wp (mOr f g) e Q X = wp f e (kOr g Q X) X := by
  unfold mOr; rw [wp_bnd]; congr 1; funext b e1; cases b <;> rfl
@[simp] theorem wp_mNot (f : M S Bool) : wp (mNot f) e Q X = wp f e (kNot Q) X := by unfold mNot; rw [wp_bnd]; rfl
@[simp] theorem wp_tYesM : wp (tYesM : M S Bool) e Q X = Q true e := (rfl)
end
section
variable {Q : List Arg → En S → Prop}
@[simp] theorem wp_mNil : wp (mNil : M S (List Arg)) e Q X = Q [] e := (rfl)
def kCns2 (Q : List Arg → En S → Prop) (a : Arg) (as : List Arg) (e : En S) : Prop := Q (a :: as) e
@[simp] theorem kCns2_e (a : Arg) (as : List Arg) : kCns2 Q a as e = Q (a :: as) e := (rfl)
def kCns (g : M S (List Arg)) (Q : List Arg → En S → Prop) (X : Er → En S → Prop) (d : Mi.D) (e : En S) : Prop := wp g e (kCns2 Q (.d d)) X
@[simp] theorem kCns_e (g : M S (List Arg)) (d : Mi.D) : kCns g Q X d e = wp g e (kCns2 Q (.d d)) X := (rfl)
@[simp] theorem wp_mCons (f : M S Mi.D) (g : M S (List Arg)) : wp (mCons f g) e Q X = wp f e (kCns g Q X) X := by unfold mCons; rw [wp_bnd]; simp only [wp_bnd]; rfl
@[simp] theorem wp_mTok (i : Nat) (g : M S (List Arg)) : wp (mTok i g) e Q X = wT e.sl[i]? e (wpK g (kCns2 Q .tok) X) := by
  unfold wp mTok wT
  cases e.sl[i]? with
  | none => rfl
  | some s =>
    cases s with
    | tok => dsimp only; unfold bnd wpK wp; cases g e <;> rfl
    | _ => rfl
end
section
variable {Q : List Mi.D → En S → Prop}
def gLstA (as : List Arg) : Option (List Mi.D) := (argD as).bind capL
@[simp] theorem gLstA_e (as : List Arg) : gLstA as = (argD as).bind capL := (rfl)
@[simp] theorem wp_mLst (g : M S (List Arg)) : wp (mLst g) e Q X = wp g e (kA gLstA Q) X := by unfold mLst; rw [wp_bnd]; simp only [wp_lft]; rfl
@[simp] theorem wp_mBF (g : List Arg → Option (List Mi.D)) (m : M S (List Arg)) : wp (mBF g m) e Q X = wp m e (kA g Q) X := by unfold mBF; rw [wp_bnd]; simp only [wp_lft]; rfl
def seqOf : Mi.D → Option (List Mi.D)
  | .list ds => some ds
  | .tuple ds => some ds
  | _ => none
@[simp] theorem seqOf_l (ds : List Mi.D) : seqOf (.list ds) = some ds := (rfl)
@[simp] theorem seqOf_t (ds : List Mi.D) : seqOf (.tuple ds) = some ds := (rfl)
def kD {β : Type} (g : Mi.D → Option β) (Q : β → En S → Prop) (d : Mi.D) (e : En S) : Prop := wO (g d) (kO Q e)
@[simp] theorem kD_e {β : Type} (g : Mi.D → Option β) (Q : β → En S → Prop) (d : Mi.D) : kD g Q d e = wO (g d) (kO Q e) := (rfl)
@[simp] theorem wp_mI (f : M S Mi.D) : wp (mI f) e Q X = wp f e (kD seqOf Q) X := by
  unfold mI; rw [wp_bnd]; congr 1; funext d e1; cases d <;> rfl
def rngOf1 : List Arg → Option (List Mi.D)
  | [.d (.int j)] => if small62 j then some (rngD 0 j.toNat) else none
  | _ => none
def rngOf2 : List Arg → Option (List Mi.D)
  | [.d (.int i), .d (.int j)] => if small62 i ∧ small62 j then some (rngD i (j - i).toNat) else none
  | _ => none
@[simp] theorem rngOf1_i (j : Int) : rngOf1 [.d (.int j)] = if small62 j then some (rngD 0 j.toNat) else none := (rfl)
@[simp] theorem rngOf2_i (i j : Int) : rngOf2 [.d (.int i), .d (.int j)] = if small62 i ∧ small62 j then some (rngD i (j - i).toNat) else none := (rfl)
@[simp] theorem wp_mR1 (g : M S (List Arg)) : wp (mR1 g) e Q X = wp g e (kA rngOf1 Q) X := by
  unfold mR1; rw [wp_bnd]; congr 1; funext as e1
  unfold kA rngOf1
  split
  · rename_i j
    show wp (if small62 j then _ else _) e1 Q X = wO (if small62 j then _ else _) _
    split <;> rfl
  · rename_i h
    first
    | rfl
    | (split
       · rename_i j; exact absurd rfl (h j)
       · rfl)
@[simp] theorem wp_mR2 (g : M S (List Arg)) : wp (mR2 g) e Q X = wp g e (kA rngOf2 Q) X := by
  unfold mR2; rw [wp_bnd]; congr 1; funext as e1
  unfold kA rngOf2
  split
  · rename_i i j
    show wp (if small62 i ∧ small62 j then _ else _) e1 Q X = wO (if small62 i ∧ small62 j then _ else _) _
    split <;> rfl
  · rename_i h
    first
    | rfl
    | (split
       · rename_i i j; exact absurd rfl (h i j)
       · rfl)
def lrOf : Mi.D → Option (List Mi.D)
  | .int n => if rgOk 0 n then some (rngD 0 n.toNat) else none
  | _ => none
@[simp] theorem lrOf_i (n : Int) : lrOf (.int n) = if rgOk 0 n then some (rngD 0 n.toNat) else none := (rfl)
@[simp] theorem wp_mLR1 (f : M S Mi.D) : wp (mLR1 f) e Q X = wp f e (kD lrOf Q) X := by
  unfold mLR1; rw [wp_bnd]; congr 1; funext d e1
  cases d with
  | int n => rw [kD_e, lrOf_i]; dsimp only; split <;> rfl
  | _ => rfl
def repOf : Mi.D → Mi.D → Option (List Mi.D)
  | .list xs, .int k => if repOk xs k then some (List.replicate k.toNat xs).flatten else none
  | _, _ => none
@[simp] theorem repOf_i (xs : List Mi.D) (k : Int) : repOf (.list xs) (.int k) = if repOk xs k then some (List.replicate k.toNat xs).flatten else none := (rfl)
def kRp2 (Q : List Mi.D → En S → Prop) (x y : Mi.D) (e : En S) : Prop := wO (repOf x y) (kO Q e)
@[simp] theorem kRp2_e (x y : Mi.D) : kRp2 Q x y e = wO (repOf x y) (kO Q e) := (rfl)
def kRp (g : M S Mi.D) (Q : List Mi.D → En S → Prop) (X : Er → En S → Prop) (x : Mi.D) (e : En S) : Prop := wp g e (kRp2 Q x) X
@[simp] theorem kRp_e (g : M S Mi.D) (x : Mi.D) : kRp g Q X x e = wp g e (kRp2 Q x) X := (rfl)
@[simp] theorem wp_mRep (f g : M S Mi.D) : wp (mRep f g) e Q X = wp f e (kRp g Q X) X := by
  unfold mRep; rw [wp_bnd]; congr 1; funext x e1; rw [wp_bnd, kRp_e]; congr 1; funext y e2
  cases x with
  | list xs =>
    cases y with
    | int k => rw [kRp2_e, repOf_i]; dsimp only; split <;> rfl
    | _ => rfl
  | _ => rfl
end
/-! statements -/
section
variable {Q : Fl → En S → Prop}
def seqQ (b : M S Fl) (Q : Fl → En S → Prop) (X : Er → En S → Prop) (fl : Fl) (e : En S) : Prop := match fl with
  | .nx => wp b e Q X
  | fl => Q fl e
@[simp] theorem seqQ_nx (b : M S Fl) : seqQ b Q X .nx e = wp b e Q X := (rfl)
@[simp] theorem seqQ_ret (b : M S Fl) (r : R) : seqQ b Q X (.ret r) e = Q (.ret r) e := (rfl)
@[simp] theorem seqQ_bk (b : M S Fl) : seqQ b Q X .bk e = Q .bk e := (rfl)
@[simp] theorem seqQ_ct (b : M S Fl) : seqQ b Q X .ct e = Q .ct e := (rfl)
@[simp] theorem wp_sq (a b : M S Fl) : wp (sq a b) e Q X = wp a e (seqQ b Q X) X := by
  unfold wp sq
  cases a e with
  | ok fl e1 => cases fl <;> rfl
  | _ => rfl
@[simp] theorem wp_nop : wp (nop : M S Fl) e Q X = Q .nx e := (rfl)
@[simp] theorem wp_mBrk : wp (mBrk : M S Fl) e Q X = Q .bk e := (rfl)
@[simp] theorem wp_mCt : wp (mCt : M S Fl) e Q X = Q .ct e := (rfl)
@[simp] theorem wp_mRetN : wp (mRetN : M S Fl) e Q X = Q (.ret (.sh .none)) e := (rfl)
def kRet (Q : Fl → En S → Prop) (d : Mi.D) (e : En S) : Prop := Q (.ret (.sh d)) e
@[simp] theorem kRet_e (d : Mi.D) : kRet Q d e = Q (.ret (.sh d)) e := (rfl)
@[simp] theorem wp_mRet (f : M S Mi.D) : wp (mRet f) e Q X = wp f e (kRet Q) X := by unfold mRet; rw [wp_bnd]; rfl
def kRetF (Q : Fl → En S → Prop) (d : List Mi.D) (e : En S) : Prop := Q (.ret (.fr d)) e
@[simp] theorem kRetF_e (d : List Mi.D) : kRetF Q d e = Q (.ret (.fr d)) e := (rfl)
@[simp] theorem wp_mRetF (f : M S (List Mi.D)) : wp (mRetF f) e Q X = wp f e (kRetF Q) X := by unfold mRetF; rw [wp_bnd]; rfl
def wR (o : Option Slot) (i : Nat) (e : En S) (Q : Fl → En S → Prop) : Prop := match o with
  | some (.sh d) => Q (.ret (.sh d)) e
  | some (.ob (.lst xs)) => Q (.ret (.fr xs)) { e with sl := e.sl.set i .un }
  | _ => False
@[simp] theorem wR_sh (d : Mi.D) (i : Nat) : wR (some (.sh d)) i e Q = Q (.ret (.sh d)) e := (rfl)
@[simp] theorem wR_ow (xs : List Mi.D) (i : Nat) : wR (some (.ow xs)) i e Q = Q (.ret (.fr xs)) { e with sl := e.sl.set i .un } := (rfl)
@[simp] theorem wp_mRetV (i : Nat) : wp (mRetV i) e Q X = wR e.sl[i]? i e Q := by
  unfold wp mRetV wR
  cases e.sl[i]? with
  | none => rfl
  | some s =>
    cases s with
    | ob o => cases o <;> rfl
    | _ => rfl
def kDrop (Q : Fl → En S → Prop) (d : Mi.D) (e : En S) : Prop := Q .nx e
@[simp] theorem kDrop_e (d : Mi.D) : kDrop Q d e = Q .nx e := (rfl)
@[simp] theorem wp_mDrop (f : M S Mi.D) : wp (mDrop f) e Q X = wp f e (kDrop Q) X := by unfold mDrop; rw [wp_bnd]; rfl
@[simp] theorem wp_mIf (c : M S Bool) (a b : M S Fl) : wp (mIf c a b) e Q X = wp c e (kIf a b Q X) X := by
  unfold mIf; rw [wp_bnd]; congr 1; funext t e1; cases t <;> rfl
def kSet (i : Nat) (Q : Fl → En S → Prop) (d : Mi.D) (e : En S) : Prop := Q .nx { e with sl := e.sl.set i (.sh d) }
@[simp] theorem kSet_e (i : Nat) (d : Mi.D) : kSet i Q d e = Q .nx { e with sl := e.sl.set i (.sh d) } := (rfl)
@[simp] theorem wp_mSet (i : Nat) (f : M S Mi.D) : wp (mSet i f) e Q X = wp f e (kSet i Q) X := by unfold mSet; rw [wp_bnd]; rfl
def kSetF (i : Nat) (Q : Fl → En S → Prop) (d : List Mi.D) (e : En S) : Prop := Q .nx { e with sl := e.sl.set i (.ow d) }
@[simp] theorem kSetF_e (i : Nat) (d : List Mi.D) : kSetF i Q d e = Q .nx { e with sl := e.sl.set i (.ow d) } := (rfl)
@[simp] theorem wp_mSetF (i : Nat) (f : M S (List Mi.D)) : wp (mSetF i f) e Q X = wp f e (kSetF i Q) X := by unfold mSetF; rw [wp_bnd]; rfl
def ixOf (n : Nat) : Mi.D → Option Nat
  | .int k => ixN n k
  | _ => none
@[simp] theorem ixOf_i (n : Nat) (k : Int) : ixOf n (.int k) = ixN n k := (rfl)
def kSx4 (i : Nat) (Q : Fl → En S → Prop) (d : Mi.D) (e : En S) (xs : List Mi.D) (j : Nat) : Prop := Q .nx { e with sl := e.sl.set i (.ow (xs.set j d)) }
@[simp] theorem kSx4_e (i : Nat) (d : Mi.D) (xs : List Mi.D) (j : Nat) : kSx4 i Q d e xs j = Q .nx { e with sl := e.sl.set i (.ow (xs.set j d)) } := (rfl)
def kSx3 (i : Nat) (Q : Fl → En S → Prop) (d k : Mi.D) (e : En S) (xs : List Mi.D) : Prop := wO (ixOf xs.length k) (kSx4 i Q d e xs)
@[simp] theorem kSx3_e (i : Nat) (d k : Mi.D) (xs : List Mi.D) : kSx3 i Q d k e xs = wO (ixOf xs.length k) (kSx4 i Q d e xs) := (rfl)
def kSx2 (i : Nat) (Q : Fl → En S → Prop) (d k : Mi.D) (e : En S) : Prop := wW e.sl[i]? (kSx3 i Q d k e)
@[simp] theorem kSx2_e (i : Nat) (d k : Mi.D) : kSx2 i Q d k e = wW e.sl[i]? (kSx3 i Q d k e) := (rfl)
def kSx1 (i : Nat) (fi : M S Mi.D) (Q : Fl → En S → Prop) (X : Er → En S → Prop) (d : Mi.D) (e : En S) (xs : List Mi.D) : Prop := wp fi e (kSx2 i Q d) X
@[simp] theorem kSx1_e (i : Nat) (fi : M S Mi.D) (d : Mi.D) (xs : List Mi.D) : kSx1 i fi Q X d e xs = wp fi e (kSx2 i Q d) X := (rfl)
def kSx (i : Nat) (fi : M S Mi.D) (Q : Fl → En S → Prop) (X : Er → En S → Prop) (d : Mi.D) (e : En S) : Prop := wW e.sl[i]? (kSx1 i fi Q X d e)
@[simp] theorem kSx_e (i : Nat) (fi : M S Mi.D) (d : Mi.D) : kSx i fi Q X d e = wW e.sl[i]? (kSx1 i fi Q X d e) := (rfl)
@[simp] theorem wp_mSetIx (i : Nat) (fe fi : M S Mi.D) : wp (mSetIx i fe fi) e Q X = wp fe e (kSx i fi Q X) X := by
  unfold mSetIx
  rw [wp_bnd]; congr 1; funext d e1
  rw [kSx_e]
  unfold withO owAt wW wp
  dsimp only
  cases e1.sl[i]? with
  | none => rfl
  | some s =>
    cases s with
    | ob o =>
     cases o with
     | lst ys =>
      dsimp only
      rw [kSx1_e]
      unfold bnd wp
      cases fi e1 with
      | ok k e2 =>
        dsimp only
        rw [kSx2_e]
        unfold wW
        cases e2.sl[i]? with
        | none => rfl
        | some s2 =>
          cases s2 with
          | ob o2 =>
            cases o2 with
            | lst xs =>
              cases k with
              | int n => dsimp only; rw [kSx3_e, ixOf_i]; unfold wO; cases ixN xs.length n <;> rfl
              | _ => rfl
            | _ => rfl
          | _ => rfl
      | _ => rfl
     | _ => rfl
    | _ => rfl
end
/-! methods, augmented stores, targets -/
def kMt4 (i : Nat) (Q : Mi.D → En S → Prop) (e : En S) (z : Mi.D × List Mi.D) : Prop := Q z.1 { e with sl := e.sl.set i (.ow z.2) }
@[simp] theorem kMt4_e {Q : Mi.D → En S → Prop} (i : Nat) (d : Mi.D) (xs : List Mi.D) : kMt4 i Q e (d, xs) = Q d { e with sl := e.sl.set i (.ow xs) } := (rfl)
def kMt3 (i : Nat) (g : List Mi.D → List Arg → Option (Mi.D × List Mi.D)) (Q : Mi.D → En S → Prop) (as : List Arg) (e : En S) (xs : List Mi.D) : Prop := wO (g xs as) (kMt4 i Q e)
@[simp] theorem kMt3_e {Q : Mi.D → En S → Prop} (i : Nat) (g : List Mi.D → List Arg → Option (Mi.D × List Mi.D)) (as : List Arg) (xs : List Mi.D) : kMt3 i g Q as e xs = wO (g xs as) (kMt4 i Q e) := (rfl)
def kMt2 (i : Nat) (g : List Mi.D → List Arg → Option (Mi.D × List Mi.D)) (Q : Mi.D → En S → Prop) (as : List Arg) (e : En S) : Prop := wW e.sl[i]? (kMt3 i g Q as e)
@[simp] theorem kMt2_e {Q : Mi.D → En S → Prop} (i : Nat) (g : List Mi.D → List Arg → Option (Mi.D × List Mi.D)) (as : List Arg) : kMt2 i g Q as e = wW e.sl[i]? (kMt3 i g Q as e) := (rfl)
def kMt1 (i : Nat) (g : List Mi.D → List Arg → Option (Mi.D × List Mi.D)) (m : M S (List Arg)) (Q : Mi.D → En S → Prop) (X : Er → En S → Prop) (e : En S) (xs : List Mi.D) : Prop := wp m e (kMt2 i g Q) X
@[simp] theorem kMt1_e {Q : Mi.D → En S → Prop} (i : Nat) (g : List Mi.D → List Arg → Option (Mi.D × List Mi.D)) (m : M S (List Arg)) (xs : List Mi.D) : kMt1 i g m Q X e xs = wp m e (kMt2 i g Q) X := (rfl)
@[simp] theorem wp_mMeth {Q : Mi.D → En S → Prop} (i : Nat) (g : List Mi.D → List Arg → Option (Mi.D × List Mi.D)) (m : M S (List Arg)) : wp (mMeth i g m) e Q X = wW e.sl[i]? (kMt1 i g m Q X e) := by
  unfold mMeth withO owAt wW wp
  dsimp only
  cases e.sl[i]? with
  | none => rfl
  | some s =>
    cases s with
    | ob o =>
     cases o with
     | lst ys =>
      dsimp only
      rw [kMt1_e]
      unfold bnd wp
      cases m e with
      | ok as e1 =>
        dsimp only
        rw [kMt2_e]
        unfold wW
        cases e1.sl[i]? with
        | none => rfl
        | some s2 =>
          cases s2 with
          | ob o2 =>
            cases o2 with
            | lst xs => dsimp only; rw [kMt3_e]; unfold wO; cases g xs as <;> rfl
            | _ => rfl
          | _ => rfl
      | _ => rfl
     | _ => rfl
    | _ => rfl
@[simp] theorem wp_mMeth0 {Q : Mi.D → En S → Prop} (i : Nat) (g : List Mi.D → List Arg → Option (Mi.D × List Mi.D)) : wp (mMeth0 i g) e Q X = wW e.sl[i]? (kMt1 i g mNil Q X e) := by
  unfold mMeth0; rw [wp_mMeth]
def wS (o : Option Slot) (Q : Mi.D → Prop) : Prop := match o with
  | some (.sh d) => Q d
  | _ => False
@[simp] theorem wS_sh (d : Mi.D) (Q : Mi.D → Prop) : wS (some (.sh d)) Q = Q d := (rfl)
def kAg2 (i : Nat) (Q : Fl → En S → Prop) (e : En S) (z : Mi.D) : Prop := Q .nx { e with sl := e.sl.set i (.sh z) }
@[simp] theorem kAg2_e {Q : Fl → En S → Prop} (i : Nat) (z : Mi.D) : kAg2 i Q e z = Q .nx { e with sl := e.sl.set i (.sh z) } := (rfl)
def kAg1 (i : Nat) (g : Mi.D → Mi.D → Option Mi.D) (Q : Fl → En S → Prop) (x y : Mi.D) (e : En S) : Prop := wO (g x y) (kAg2 i Q e)
@[simp] theorem kAg1_e {Q : Fl → En S → Prop} (i : Nat) (g : Mi.D → Mi.D → Option Mi.D) (x y : Mi.D) : kAg1 i g Q x y e = wO (g x y) (kAg2 i Q e) := (rfl)
def kAg (i : Nat) (g : Mi.D → Mi.D → Option Mi.D) (f : M S Mi.D) (Q : Fl → En S → Prop) (X : Er → En S → Prop) (e : En S) (x : Mi.D) : Prop := wp f e (kAg1 i g Q x) X
@[simp] theorem kAg_e {Q : Fl → En S → Prop} (i : Nat) (g : Mi.D → Mi.D → Option Mi.D) (f : M S Mi.D) (x : Mi.D) : kAg i g f Q X e x = wp f e (kAg1 i g Q x) X := (rfl)
@[simp] theorem wp_mAug {Q : Fl → En S → Prop} (i : Nat) (g : Mi.D → Mi.D → Option Mi.D) (f : M S Mi.D) : wp (mAug i g f) e Q X = wS e.sl[i]? (kAg i g f Q X e) := by
  unfold mAug wS wp
  dsimp only
  cases e.sl[i]? with
  | none => rfl
  | some s =>
    cases s with
    | sh x =>
      dsimp only
      rw [kAg_e]
      unfold bnd lft stV wp
      dsimp only
      cases f e with
      | ok y e1 => dsimp only; rw [kAg1_e]; unfold wO; cases g x y <;> rfl
      | _ => rfl
    | _ => rfl
/-- a target -/
def wG (m : M S Unit) (e : En S) (Q : En S → Prop) : Prop := match m e with
  | .ok _ e1 => Q e1
  | _ => False
@[simp] theorem wG_gN (i : Nat) (d : Mi.D) (Q : En S → Prop) : wG (gN i d) e Q = Q { e with sl := e.sl.set i (.sh d) } := (rfl)
@[simp] theorem wG_gT (g : List Mi.D → M S Unit) (ds : List Mi.D) (Q : En S → Prop) : wG (gT g (.tuple ds)) e Q = wG (g ds) e Q := (rfl)
@[simp] theorem wG_gE (Q : En S → Prop) : wG (gE []) e Q = Q e := (rfl)
def kG (m : M S Unit) (Q : En S → Prop) (e : En S) : Prop := wG m e Q
@[simp] theorem kG_e (m : M S Unit) (Q : En S → Prop) : kG m Q e = wG m e Q := (rfl)
@[simp] theorem wG_gC (g : Mi.D → M S Unit) (h : List Mi.D → M S Unit) (d : Mi.D) (r : List Mi.D) (Q : En S → Prop) : wG (gC g h (d :: r)) e Q = wG (g d) e (kG (h r) Q) := by
  unfold wG gC bnd
  dsimp only
  cases g d e <;> rfl
def kAs (g : Mi.D → M S Unit) (Q : Fl → En S → Prop) (d : Mi.D) (e : En S) : Prop := wG (g d) e (kC .nx Q)
@[simp] theorem kAs_e {Q : Fl → En S → Prop} (g : Mi.D → M S Unit) (d : Mi.D) : kAs g Q d e = wG (g d) e (kC .nx Q) := (rfl)
@[simp] theorem wp_mAsg {Q : Fl → En S → Prop} (f : M S Mi.D) (g : Mi.D → M S Unit) : wp (mAsg f g) e Q X = wp f e (kAs g Q) X := by
  unfold mAsg
  rw [wp_bnd]
  congr 1
  funext d e1
  rw [kAs_e]
  unfold wp wG
  dsimp only
  cases g d e1 <;> rfl
/-! loops -/
section
variable {Q : Fl → En S → Prop}
def loopQ (n : En S → Prop) (Q : Fl → En S → Prop) (fl : Fl) (e : En S) : Prop := match fl with
  | .nx => n e
  | .ct => n e
  | .bk => Q .nx e
  | .ret r => Q (.ret r) e
@[simp] theorem loopQ_nx (n : En S → Prop) : loopQ n Q .nx e = n e := (rfl)
@[simp] theorem loopQ_ct (n : En S → Prop) : loopQ n Q .ct e = n e := (rfl)
@[simp] theorem loopQ_bk (n : En S → Prop) : loopQ n Q .bk e = Q .nx e := (rfl)
@[simp] theorem loopQ_ret (n : En S → Prop) (r : R) : loopQ n Q (.ret r) e = Q (.ret r) e := (rfl)
def wLoop (g : Mi.D → M S Unit) (b : M S Fl) (ds : List Mi.D) (e : En S) (Q : Fl → En S → Prop) (X : Er → En S → Prop) : Prop := wp (loop g b ds) e Q X
def kFor (g : Mi.D → M S Unit) (b : M S Fl) (Q : Fl → En S → Prop) (X : Er → En S → Prop) (ds : List Mi.D) (e : En S) : Prop := wLoop g b ds e Q X
@[simp] theorem kFor_e (g : Mi.D → M S Unit) (b : M S Fl) (ds : List Mi.D) : kFor g b Q X ds e = wLoop g b ds e Q X := (rfl)
@[simp] theorem wp_mFor (f : M S (List Mi.D)) (g : Mi.D → M S Unit) (b : M S Fl) : wp (mFor f g b) e Q X = wp f e (kFor g b Q X) X := by unfold mFor; rw [wp_bnd]; rfl
theorem wLoop_nil (g : Mi.D → M S Unit) (b : M S Fl) : wLoop g b [] e Q X = Q .nx e := (rfl)
theorem wLoop_cons (g : Mi.D → M S Unit) (b : M S Fl) (d : Mi.D) (ds : List Mi.D) : wLoop g b (d :: ds) e Q X = wG (g d) e fun e1 => wp b e1 (loopQ (fun e2 => wLoop g b ds e2 Q X) Q) X := by
  unfold wLoop wG wp
  rw [loop]
  dsimp only
  cases g d e with
  | ok u e1 =>
    dsimp only
    cases b e1 with
    | ok fl e2 => cases fl <;> rfl
    | _ => rfl
  | _ => rfl
/-- a loop by an invariant of what is still to come -/
theorem wLoop_inv {g : Mi.D → M S Unit} {b : M S Fl} (I : List Mi.D → En S → Prop) {ds : List Mi.D} (h0 : I ds e) (hs : ∀ d ds e, I (d :: ds) e → wG (g d) e (wpK b (loopQ (I ds) Q) X)) (hd : ∀ e, I [] e → Q .nx e) : wLoop g b ds e Q X := by
  induction ds generalizing e with
  | nil => exact hd _ h0
  | cons d ds ih =>
    rw [wLoop_cons]
    have h := hs d ds e h0
    unfold wG at h ⊢
    cases q : g d e with
    | ok u e1 =>
      rw [q] at h
      dsimp only at h ⊢
      rw [wpK_e] at h
      unfold wp at h ⊢
      cases w : b e1 with
      | ok fl e2 =>
        rw [w] at h
        cases fl with
        | nx => exact ih h
        | ct => exact ih h
        | bk => exact h
        | ret r => exact h
      | err x e2 => rw [w] at h; exact h
      | stuck => rw [w] at h; exact h
    | err x e1 => rw [q] at h; exact h
    | stuck => rw [q] at h; exact h
/-- by an invariant of the number of turns -/
theorem wLoop_idx {g : Mi.D → M S Unit} {b : M S Fl} {ds : List Mi.D} (I : Nat → En S → Prop) (h0 : I 0 e) (hs : ∀ i d e, ds[i]? = some d → I i e → wG (g d) e (wpK b (loopQ (I (i + 1)) Q) X)) (hd : ∀ e, I ds.length e → Q .nx e) : wLoop g b ds e Q X := by
  refine wLoop_inv (fun r e => ∃ i, r = ds.drop i ∧ i ≤ ds.length ∧ I i e) ⟨0, rfl, Nat.zero_le _, h0⟩ (fun d r e ⟨i, h1, h2, h3⟩ => ?_) fun e ⟨i, h1, h2, h3⟩ => ?_
  · have hl : i < ds.length := by
      rcases Nat.lt_or_ge i ds.length with h | h
      · exact h
      · rw [List.drop_eq_nil_of_le h] at h1; cases h1
    rw [List.drop_eq_getElem_cons hl] at h1
    cases h1
    have h := hs i _ e (List.getElem?_eq_getElem hl) h3
    have up : ∀ {b : M S Fl} {e : En S}, wp b e (loopQ (I (i + 1)) Q) X → wp b e (loopQ (fun e2 => ∃ j, ds.drop (i + 1) = ds.drop j ∧ j ≤ ds.length ∧ I j e2) Q) X := fun {b e} z => by
      unfold wp at z ⊢
      cases q : b e with
      | ok fl e1 =>
        rw [q] at z
        cases fl with
        | nx => exact ⟨i + 1, rfl, hl, z⟩
        | ct => exact ⟨i + 1, rfl, hl, z⟩
        | bk => exact z
        | ret r => exact z
      | err x e1 => rw [q] at z; exact z
      | stuck => rw [q] at z; exact z
    unfold wG at h ⊢
    cases q : g ds[i] e with
    | ok u e1 => rw [q] at h; exact up h
    | err x e1 => rw [q] at h; exact h
    | stuck => rw [q] at h; exact h
  · have e2 : i = ds.length := by
      rcases Nat.lt_or_ge i ds.length with h | h
      · rw [List.drop_eq_getElem_cons h] at h1; cases h1
      · omega
    subst e2
    exact hd e h3
theorem rngD_len (lo : Int) (n : Nat) : (rngD lo n).length = n := by simp [rngD]
theorem rngD_get {lo : Int} {n i : Nat} {d : Mi.D} (h : (rngD lo n)[i]? = some d) : i < n ∧ d = .int (lo + i) := by
  unfold rngD at h
  rw [List.getElem?_map] at h
  obtain ⟨j, h1, h2⟩ := Option.map_eq_some_iff.mp h
  obtain ⟨h3, h4⟩ := List.getElem?_eq_some_iff.mp h1
  rw [List.getElem_range] at h4
  subst h4
  exact ⟨by simpa using h3, h2.symm⟩
/-- for x in range -/
theorem wLoop_rng {g : Mi.D → M S Unit} {b : M S Fl} {lo : Int} {n : Nat} (I : Nat → En S → Prop) (h0 : I 0 e) (hs : ∀ i e, i < n → I i e → wG (g (.int (lo + i))) e (wpK b (loopQ (I (i + 1)) Q) X)) (hd : ∀ e, I n e → Q .nx e) : wLoop g b (rngD lo n) e Q X := by
  refine wLoop_idx I h0 (fun i d e hd hi => ?_) fun e h => hd e (by rwa [rngD_len] at h)
  obtain ⟨h1, rfl⟩ := rngD_get hd
  exact hs i e h1 hi
/-- while -/
def kWh (b : M S Fl) (N : En S → Prop) (Q : Fl → En S → Prop) (X : Er → En S → Prop) (t : Bool) (e : En S) : Prop := wIf t e (wpK b (loopQ N Q) X) (kC .nx Q)
@[simp] theorem kWh_e (b : M S Fl) (N : En S → Prop) (t : Bool) : kWh b N Q X t e = wIf t e (wpK b (loopQ N Q) X) (kC .nx Q) := (rfl)
def wWhl (c : M S Bool) (b : M S Fl) (n : Nat) (e : En S) (Q : Fl → En S → Prop) (X : Er → En S → Prop) : Prop := wp (whl c b n) e Q X
@[simp] theorem wp_whl (c : M S Bool) (b : M S Fl) (n : Nat) : wp (whl c b n) e Q X = wWhl c b n e Q X := (rfl)
theorem wWhl_succ (c : M S Bool) (b : M S Fl) (n : Nat) : wWhl c b (n + 1) e Q X = wp c e (kWh b (fun e2 => wWhl c b n e2 Q X) Q X) X := by
  unfold wWhl
  rw [whl, wp_bnd]
  congr 1
  funext t e1
  cases t with
  | false => rfl
  | true =>
    show wp _ e1 Q X = wp b e1 (loopQ (fun e2 => wWhl c b n e2 Q X) Q) X
    unfold wp wWhl
    simp only [if_true]
    cases b e1 with
    | ok fl e2 => cases fl <;> rfl
    | _ => rfl
/-- by a measure: I m, each turn lets it fall -/
theorem wWhl_inv {c : M S Bool} {b : M S Fl} (I : Nat → En S → Prop) (hs : ∀ m e, I m e → wp c e (kWh b (fun e2 => ∃ k, k < m ∧ I k e2) Q X) X) {n m : Nat} (hn : m < n) (h0 : I m e) : wWhl c b n e Q X := by
  induction n generalizing m e with
  | zero => omega
  | succ n ih =>
    rw [wWhl_succ]
    have h := hs m e h0
    unfold wp at h ⊢
    cases q : c e with
    | ok t e1 =>
      rw [q] at h
      cases t with
      | false => exact h
      | true =>
        change wp b e1 _ X at h
        show wp b e1 _ X
        unfold wp at h ⊢
        cases w : b e1 with
        | ok fl e2 =>
          rw [w] at h
          cases fl with
          | nx => obtain ⟨k, h1, h2⟩ := h; exact ih (by omega) h2
          | ct => obtain ⟨k, h1, h2⟩ := h; exact ih (by omega) h2
          | bk => exact h
          | ret r => exact h
        | err x e2 => rw [w] at h; exact h
        | stuck => rw [w] at h; exact h
    | err x e1 => rw [q] at h; exact h
    | stuck => rw [q] at h; exact h
end
/-! comprehensions -/
theorem keepS_self (s : Slot) : keepS s = keepS s := (rfl)
/-- a comprehension whose element is a plain answer of the item, the state beside it free to move -/
theorem wp_mLc {Q : List Mi.D → En S → Prop} (l : List Nat) (m : M S (List Mi.D)) (g : Mi.D → M S Unit) (t : M S Bool) (f : M S Mi.D) : wp (mLc l m g t f) e Q X = wp m e (fun ds e0 => ds.length ≤ sizeLine ∧ wp (lcl l g t f ds) (wipeE l e0) (fun ys e1 => Q ys (resE l e0 e1)) fun _ _ => False) X := by
  unfold mLc
  rw [wp_bnd]
  congr 1
  funext ds e0
  unfold wp
  dsimp only
  by_cases h : ds.length ≤ sizeLine
  · rw [if_pos h]
    simp only [h, true_and]
    cases lcl l g t f ds (wipeE l e0) <;> rfl
  · rw [if_neg h]
    simp [h]
/-! defs -/
@[simp] theorem slot_d (x : Mi.D) : (Arg.d x).slot = .sh x := (rfl)
@[simp] theorem slot_t : Arg.tok.slot = .tok := (rfl)

/-- what a def's mirror answers -/
def Fn (fn : List Arg → S → FO S) (as : List Arg) (s : S) (P : R → S → Prop) (E : Er → S → Prop) : Prop := match fn as s with
  | .val r s1 => P r s1
  | .exc x s1 => E x s1
  | .stuck => False
def fnQ (P : R → S → Prop) (fl : Fl) (e : En S) : Prop := match fl with
  | .nx => P (.sh .none) e.st
  | .ret r => P r e.st
  | _ => False
@[simp] theorem fnQ_nx (P : R → S → Prop) : fnQ P .nx e = P (.sh .none) e.st := (rfl)
@[simp] theorem fnQ_ret (P : R → S → Prop) (r : R) : fnQ P (.ret r) e = P r e.st := (rfl)
theorem Fn_of {n : Nat} {m : M S Fl} {as : List Arg} {s : S} {P : R → S → Prop} {E : Er → S → Prop} (h : wp m ⟨as.map Arg.slot ++ List.replicate (n - as.length) .un, s⟩ (fnQ P) fun x e => E x e.st) : Fn (fnOf n m) as s P E := by
  unfold Fn fnOf
  unfold wp at h
  cases q : m ⟨as.map Arg.slot ++ List.replicate (n - as.length) .un, s⟩ with
  | ok fl e1 =>
    rw [q] at h
    cases fl with
    | nx => exact h
    | ret r => exact h
    | bk => exact h
    | ct => exact h
  | err x e1 => rw [q] at h; exact h
  | stuck => rw [q] at h; exact h
theorem Fn.imp {fn : List Arg → S → FO S} {as : List Arg} {s : S} {P P' : R → S → Prop} {E E' : Er → S → Prop} (h : Fn fn as s P E) (i : ∀ r s, P r s → P' r s) (j : ∀ x s, E x s → E' x s) : Fn fn as s P' E' := by
  unfold Fn at h ⊢
  cases q : fn as s with
  | val r s1 => rw [q] at h; exact i _ _ h
  | exc x s1 => rw [q] at h; exact j _ _ h
  | stuck => rw [q] at h; exact h
def wCall (n : Nat) (fn : List Arg → S → FO S) (as : List Arg) (e : En S) (Q : Mi.D → En S → Prop) (X : Er → En S → Prop) : Prop := as.length = n ∧ Fn fn as e.st (fun r s1 => Q r.d { e with st := s1 }) fun x s1 => X x { e with st := s1 }
def kCall (n : Nat) (fn : List Arg → S → FO S) (Q : Mi.D → En S → Prop) (X : Er → En S → Prop) (as : List Arg) (e : En S) : Prop := wCall n fn as e Q X
@[simp] theorem kCall_e {Q : Mi.D → En S → Prop} (n : Nat) (fn : List Arg → S → FO S) (as : List Arg) : kCall n fn Q X as e = wCall n fn as e Q X := (rfl)
@[simp] theorem wp_mCall {Q : Mi.D → En S → Prop} (n : Nat) (fn : List Arg → S → FO S) (g : M S (List Arg)) : wp (mCall n fn g) e Q X = wp g e (kCall n fn Q X) X := by
  unfold mCall kCall wCall Fn
  rw [wp_bnd]
  congr 1
  funext as e1
  unfold wp
  dsimp only
  by_cases h : as.length = n
  · rw [if_pos h]
    simp only [h, true_and]
    cases fn as e1.st <;> rfl
  · rw [if_neg h]
    simp [h]
theorem wCall_of {n : Nat} {fn : List Arg → S → FO S} {as : List Arg} {Q : Mi.D → En S → Prop} {P : R → S → Prop} {E : Er → S → Prop} (h : Fn fn as e.st P E) (k : ∀ r s1, P r s1 → Q r.d { e with st := s1 }) (kx : ∀ x s1, E x s1 → X x { e with st := s1 }) (hl : as.length = n := by rfl) : wCall n fn as e Q X := ⟨hl, h.imp k kx⟩
/-- .. that lets nothing out -/
theorem wCall_val {n : Nat} {fn : List Arg → S → FO S} {as : List Arg} {Q : Mi.D → En S → Prop} {P : R → S → Prop} (h : Fn fn as e.st P fun _ _ => False) (k : ∀ r s1, P r s1 → Q r.d { e with st := s1 }) (hl : as.length = n := by rfl) : wCall n fn as e Q X := wCall_of h k (fun _ _ z => z.elim) hl
theorem Fn_lift {fn : List Arg → Unit → FO Unit} {as : List Arg} {s : S} {P : R → S → Prop} {E : Er → S → Prop} (h : Fn fn as () (fun r _ => P r s) fun x _ => E x s) (ht : noTok as = true := by rfl) : Fn (lift fn) as s P E := by
  unfold Fn lift
  rw [if_pos ht]
  unfold Fn at h
  cases q : fn as () with
  | val r s1 => rw [q] at h; exact h
  | exc x s1 => rw [q] at h; exact h
  | stuck => rw [q] at h; exact h
end
end Mi
set_option maxHeartbeats 4000000
namespace Mi
open PySem PySem.Spec PyProof.Rows L2
section
variable {S α β : Type} {e e' : En S} {X : Er → En S → Prop}
/-! comprehensions whose elements each answer P, whatever the thing beside the frames does -/
def kEl (l : List Nat) (sw : List Slot) (P : Mi.D → Prop) (y : Mi.D) (e : En S) : Prop := P y ∧ (wipeE l e).sl = sw
@[simp] theorem kEl_e (l : List Nat) (sw : List Slot) (P : Mi.D → Prop) (y : Mi.D) : kEl l sw P y e = (P y ∧ (wipeE l e).sl = sw) := (rfl)
inductive RelL (P : Mi.D → Mi.D → Prop) : List Mi.D → List Mi.D → Prop
  | nil : RelL P [] []
  | cons {d y : Mi.D} {ds ys : List Mi.D} (h : P d y) (r : RelL P ds ys) : RelL P (d :: ds) (y :: ys)
theorem RelL.len {P : Mi.D → Mi.D → Prop} {ds ys : List Mi.D} (h : RelL P ds ys) : ys.length = ds.length := by
  induction h with
  | nil => rfl
  | cons _ _ ih => simp [ih]
theorem RelL.all {P : Mi.D → Mi.D → Prop} {ds ys : List Mi.D} (h : RelL P ds ys) : ∀ y ∈ ys, ∃ d ∈ ds, P d y := by
  induction h with
  | nil => intro y hy; cases hy
  | cons h r ih =>
    intro y hy
    rcases List.mem_cons.mp hy with rfl | hy
    · exact ⟨_, List.mem_cons_self, h⟩
    · obtain ⟨d, h1, h2⟩ := ih y hy; exact ⟨d, List.mem_cons_of_mem _ h1, h2⟩
theorem RelL.eq {f : Mi.D → Mi.D} {ds ys : List Mi.D} (h : RelL (fun d y => y = f d) ds ys) : ys = ds.map f := by
  induction h with
  | nil => rfl
  | cons h _ ih => rw [h, ih]; rfl
theorem wLcl {l : List Nat} {g : Mi.D → M S Unit} {f : M S Mi.D} {sw : List Slot} (P : Mi.D → Mi.D → Prop) : ∀ (ds : List Mi.D) (e : En S), e.sl = sw → (∀ d ∈ ds, ∀ s : S, wG (g d) ⟨sw, s⟩ (wpK f (kEl l sw (P d)) fun _ _ => False)) →
    wp (lcl l g tYesM f ds) e (fun ys e1 => RelL P ds ys ∧ e1.sl = sw) fun _ _ => False
  | [], e, he, _ => ⟨.nil, he⟩
  | d :: ds, e, he, h => by
    have h1 := h d List.mem_cons_self e.st
    have ee : e = ⟨sw, e.st⟩ := by cases e; cases he; rfl
    rw [← ee] at h1
    unfold wG at h1
    unfold wp
    rw [lcl]
    dsimp only
    cases q : g d e with
    | ok u e1 =>
      rw [q] at h1
      dsimp only at h1 ⊢
      rw [wpK_e] at h1
      unfold wp at h1
      unfold tYesM bnd rt
      dsimp only
      rw [if_pos rfl]
      cases w : f e1 with
      | ok y e3 =>
        rw [w] at h1
        obtain ⟨h2, h3⟩ := h1
        dsimp only
        have h4 := wLcl P ds (wipeE l e3) h3 fun d' hd s => h d' (List.mem_cons_of_mem _ hd) s
        unfold wp at h4
        unfold tYesM rt at h4
        cases z : lcl l g (fun e : En S => Out.ok true e) f ds (wipeE l e3) with
        | ok ys e4 => rw [z] at h4; exact ⟨.cons h2 h4.1, h4.2⟩
        | err x e4 => rw [z] at h4; exact h4
        | stuck => rw [z] at h4; exact h4
      | err x e3 => rw [w] at h1; exact h1.elim
      | stuck => rw [w] at h1; exact h1.elim
    | err x e1 => rw [q] at h1; exact h1.elim
    | stuck => rw [q] at h1; exact h1.elim
def wLcs (l : List Nat) (g : Mi.D → M S Unit) (t : M S Bool) (f : M S Mi.D) (ds : List Mi.D) (e : En S) (Q : List Mi.D → En S → Prop) : Prop := ds.length ≤ sizeLine ∧ wp (lcl l g t f ds) (wipeE l e) (fun ys e1 => Q ys (resE l e e1)) fun _ _ => False
def kLc (l : List Nat) (g : Mi.D → M S Unit) (t : M S Bool) (f : M S Mi.D) (Q : List Mi.D → En S → Prop) (ds : List Mi.D) (e : En S) : Prop := wLcs l g t f ds e Q
@[simp] theorem kLc_e {Q : List Mi.D → En S → Prop} (l : List Nat) (g : Mi.D → M S Unit) (t : M S Bool) (f : M S Mi.D) (ds : List Mi.D) : kLc l g t f Q ds e = wLcs l g t f ds e Q := (rfl)
@[simp] theorem wp_mLcK {Q : List Mi.D → En S → Prop} (l : List Nat) (m : M S (List Mi.D)) (g : Mi.D → M S Unit) (t : M S Bool) (f : M S Mi.D) : wp (mLc l m g t f) e Q X = wp m e (kLc l g t f Q) X := by
  rw [wp_mLc]; rfl
theorem wLcs_of {Q : List Mi.D → En S → Prop} {l : List Nat} {g : Mi.D → M S Unit} {f : M S Mi.D} {ds : List Mi.D} (P : Mi.D → Mi.D → Prop) (hl : ds.length ≤ sizeLine) (h : ∀ d ∈ ds, ∀ s : S, wG (g d) ⟨(wipeE l e).sl, s⟩ (wpK f (kEl l (wipeE l e).sl (P d)) fun _ _ => False))
    (k : ∀ ys s, RelL P ds ys → Q ys ⟨(resE l e ⟨(wipeE l e).sl, s⟩).sl, s⟩) : wLcs l g tYesM f ds e Q := by
  refine ⟨hl, ?_⟩
  have h1 := wLcl P ds (wipeE l e) rfl h
  unfold wp at h1 ⊢
  cases z : lcl l g tYesM f ds (wipeE l e) with
  | ok ys e4 =>
    rw [z] at h1
    have := k ys e4.st h1.1
    obtain ⟨sl4, s4⟩ := e4
    have h2 : sl4 = (wipeE l e).sl := h1.2
    subst h2
    exact this
  | err x e4 => rw [z] at h1; exact h1
  | stuck => rw [z] at h1; exact h1
/-! errors -/
def kEr (X : Er → En S → Prop) (x : Er) (e : En S) : Prop := X x e
@[simp] theorem kEr_e (x : Er) : kEr X x e = X x e := (rfl)
@[simp] theorem wp_mRaise {Q : Fl → En S → Prop} (m : M S Er) : wp (mRaise m) e Q X = wp m e (kEr X) X := by
  unfold mRaise; rw [wp_bnd]; rfl
def mkOf (n : Str) (flds : List Str) (fnp : List Arg → Unit → FO Unit) (as : List Arg) : Option Er := (argD as).bind fun xs => if xs.length = flds.length then (runAll fnp xs).map fun rs => Er.mk n (zipR flds (rs.map R.d) []) else none
@[simp] theorem wp_mMk {Q : Er → En S → Prop} (n : Str) (flds : List Str) (fnp : List Arg → Unit → FO Unit) (m : M S (List Arg)) : wp (mMk n flds fnp m) e Q X = wp m e (kA (mkOf n flds fnp) Q) X := by
  unfold mMk; rw [wp_bnd]; simp only [wp_lft]; rfl
theorem runAll1 {fnp : List Arg → Unit → FO Unit} {d : Mi.D} {P : R → Prop} (h : Fn fnp [.d d] () (fun r _ => P r) fun _ _ => False) : ∃ r, runAll fnp [d] = some [r] ∧ P r := by
  unfold Fn at h
  unfold runAll
  cases q : fnp [.d d] () with
  | val r u => rw [q] at h; exact ⟨r, rfl, h⟩
  | exc x u => rw [q] at h; exact h.elim
  | stuck => rw [q] at h; exact h.elim
def kHd (h : Hm S) (Q : Fl → En S → Prop) (fl : Fl) (e : En S) : Prop := noEx (h.Un e).sl = true ∧ Q fl (h.Un e)
@[simp] theorem kHd_e {Q : Fl → En S → Prop} (h : Hm S) (fl : Fl) : kHd h Q fl e = (noEx (h.Un e).sl = true ∧ Q fl (h.Un e)) := (rfl)
def wHs (sub : Str → Str → Option Bool) (l : List (Hm S)) (x : Er) (e : En S) (Q : Fl → En S → Prop) (X : Er → En S → Prop) : Prop := match hgo sub l x e with
  | .ok fl e1 => Q fl e1
  | .err y e1 => X y e1
  | .stuck => False
theorem wHs_hit {sub : Str → Str → Option Bool} {h : Hm S} {l : List (Hm S)} {x : Er} {Q : Fl → En S → Prop} (hs : sub x.cls h.c = some true) (k : wp h.m (h.In x e) (kHd h Q) fun _ _ => False) : wHs sub (h :: l) x e Q X := by
  unfold wHs hgo
  rw [hs]
  dsimp only
  unfold hend
  unfold wp at k
  cases q : h.m (h.In x e) with
  | ok fl e1 => rw [q] at k; obtain ⟨k1, k2⟩ := k; dsimp only; rw [if_pos k1]; exact k2
  | err y e1 => rw [q] at k; exact k.elim
  | stuck => rw [q] at k; exact k.elim
theorem wHs_miss {sub : Str → Str → Option Bool} {h : Hm S} {l : List (Hm S)} {x : Er} {Q : Fl → En S → Prop} (hs : sub x.cls h.c = some false) (k : wHs sub l x e Q X) : wHs sub (h :: l) x e Q X := by
  unfold wHs at k ⊢
  unfold hgo
  rw [hs]
  exact k
def kTr (sub : Str → Str → Option Bool) (l : List (Hm S)) (Q : Fl → En S → Prop) (X : Er → En S → Prop) (x : Er) (e : En S) : Prop := noEx e.sl = true ∧ wHs sub l x e Q X
@[simp] theorem kTr_e {Q : Fl → En S → Prop} (sub : Str → Str → Option Bool) (l : List (Hm S)) (x : Er) : kTr sub l Q X x e = (noEx e.sl = true ∧ wHs sub l x e Q X) := (rfl)
@[simp] theorem wp_mTry {Q : Fl → En S → Prop} (sub : Str → Str → Option Bool) (b : M S Fl) (l : List (Hm S)) : wp (mTry sub b l) e Q X = wp b e Q (kTr sub l Q X) := by
  unfold mTry wp
  dsimp only
  cases b e with
  | ok fl e1 => rfl
  | err x e1 =>
    dsimp only
    rw [kTr_e]
    by_cases h : noEx e1.sl = true
    · rw [if_pos h]; simp only [h, true_and]; unfold wHs; cases hgo sub l x e1 <;> rfl
    · rw [if_neg h]; simp [h]
  | stuck => rfl
def wX (o : Option Slot) (Q : Er → Prop) : Prop := match o with
  | some (.ex x) => Q x
  | _ => False
@[simp] theorem wX_e (x : Er) (Q : Er → Prop) : wX (some (.ex x)) Q = Q x := (rfl)
def kAt (n c : Str) (Q : Mi.D → En S → Prop) (e : En S) (x : Er) : Prop := x.cls = c ∧ wO (x.fs.lookup n) (kO Q e)
@[simp] theorem kAt_e {Q : Mi.D → En S → Prop} (n c : Str) (x : Er) : kAt n c Q e x = (x.cls = c ∧ wO (x.fs.lookup n) (kO Q e)) := (rfl)
@[simp] theorem wp_mAtt {Q : Mi.D → En S → Prop} (j : Nat) (n c : Str) : wp (mAtt j n c : M S Mi.D) e Q X = wX e.sl[j]? (kAt n c Q e) := by
  unfold mAtt wp wX
  dsimp only
  cases e.sl[j]? with
  | none => rfl
  | some s =>
    cases s with
    | ex x =>
      dsimp only
      rw [kAt_e]
      by_cases h : x.cls = c
      · rw [if_pos h]; simp only [h, true_and]; unfold wO; cases x.fs.lookup n <;> rfl
      · rw [if_neg h]; simp [h]
    | _ => rfl
def kIs (sub : Str → Str → Option Bool) (ns : List Str) (Q : Mi.D → En S → Prop) (e : En S) (x : Er) : Prop := wO ((isAny sub x.cls ns).map PyData.bool) (kO Q e)
@[simp] theorem kIs_e {Q : Mi.D → En S → Prop} (sub : Str → Str → Option Bool) (ns : List Str) (x : Er) : kIs sub ns Q e x = wO ((isAny sub x.cls ns).map PyData.bool) (kO Q e) := (rfl)
@[simp] theorem wp_mIsE {Q : Mi.D → En S → Prop} (sub : Str → Str → Option Bool) (j : Nat) (ns : List Str) : wp (mIsE sub j ns : M S Mi.D) e Q X = wX e.sl[j]? (kIs sub ns Q e) := by
  unfold mIsE wp wX
  dsimp only
  cases e.sl[j]? with
  | none => rfl
  | some s =>
    cases s with
    | ex x => dsimp only; rw [kIs_e]; unfold lft wO; cases (isAny sub x.cls ns).map PyData.bool <;> rfl
    | _ => rfl
end
/-- a call of a def that knows nothing of the thing beside the frames -/
theorem wCall_lift {S : Type} {e : En S} {X : Er → En S → Prop} {n : Nat} {fn : List Arg → Unit → FO Unit} {as : List Arg} {Q : Mi.D → En S → Prop} {P : R → Prop} (h : Fn fn as () (fun r _ => P r) fun _ _ => False) (k : ∀ r, P r → Q r.d e) (ht : noTok as = true := by rfl) (hl : as.length = n := by rfl) : wCall n (lift fn) as e Q X :=
  ⟨hl, (Fn_lift (s := e.st) (P := fun r s1 => P r ∧ s1 = e.st) (E := fun _ _ => False) (h.imp (fun r _ q => ⟨q, rfl⟩) fun _ _ z => z) ht).imp (fun r s1 q => by obtain ⟨q1, q2⟩ := q; subst q2; exact k r q1) fun _ _ z => z.elim⟩
/-! arithmetic of the mirrors -/
@[simp] theorem dAdd_i (a b : Int) : dAdd (.int a) (.int b) = some (.int (a + b)) := (rfl)
@[simp] theorem dAddI_i (a b : Int) : dAddI (.int a) (.int b) = some (.int (a + b)) := (rfl)
@[simp] theorem dAdd_l (a b : List Mi.D) : dAdd (.list a) (.list b) = if a.length + b.length ≤ sizeLine then some (.list (a ++ b)) else none := (rfl)
@[simp] theorem dSub_i (a b : Int) : dSub (.int a) (.int b) = some (.int (a - b)) := (rfl)
@[simp] theorem dMul_i (a b : Int) : dMul (.int a) (.int b) = if mulOk a b then some (.int (a * b)) else none := (rfl)
@[simp] theorem dMul_l (a : List Mi.D) (b : Int) : dMul (.list a) (.int b) = if repOk a b then some (.list (List.replicate b.toNat a).flatten) else none := (rfl)
@[simp] theorem dDiv_i (a b : Int) : dDiv (.int a) (.int b) = if divOk b then some (.int (a / b)) else none := (rfl)
@[simp] theorem dMod_i (a b : Int) : dMod (.int a) (.int b) = if 0 < b then some (.int (a % b)) else none := (rfl)
@[simp] theorem dPow_i (a b : Int) : dPow (.int a) (.int b) = if powOk a b then some (.int (a ^ b.toNat)) else none := (rfl)
@[simp] theorem dNeg_i (a : Int) : dNeg (.int a) = some (.int (-a)) := (rfl)
@[simp] theorem dLt_i (a b : Int) : dLt (.int a) (.int b) = some (.bool (decide (a < b))) := (rfl)
@[simp] theorem dLe_i (a b : Int) : dLe (.int a) (.int b) = some (.bool (decide (a ≤ b))) := (rfl)
@[simp] theorem dGt_i (a b : Int) : dGt (.int a) (.int b) = some (.bool (decide (b < a))) := (rfl)
@[simp] theorem dGe_i (a b : Int) : dGe (.int a) (.int b) = some (.bool (decide (b ≤ a))) := (rfl)
theorem eqv_i (a b : Int) : PyData.eqv (.int a) (.int b) = decide (a = b) := (rfl)
@[simp] theorem dEq_i (a b : Int) : dEq (.int a) (.int b) = some (.bool (decide (a = b))) := by
  unfold dEq
  rw [if_pos ⟨rfl, rfl⟩, eqv_i]
@[simp] theorem dNe_i (a b : Int) : dNe (.int a) (.int b) = some (.bool (!decide (a = b))) := by
  unfold dNe
  rw [if_pos ⟨rfl, rfl⟩, eqv_i]
@[simp] theorem gLen_l (xs : List Mi.D) : gLen [.d (.list xs)] = some (.int xs.length) := (rfl)
@[simp] theorem gLen_t (xs : List Mi.D) : gLen [.d (.tuple xs)] = some (.int xs.length) := (rfl)
@[simp] theorem gInt_i (i : Int) : gInt [.d (.int i)] = some (.int i) := (rfl)
@[simp] theorem gAbs_i (i : Int) : gAbs [.d (.int i)] = some (.int (if i < 0 then -i else i)) := (rfl)
@[simp] theorem gMin2_i (i j : Int) : gMin2 [.d (.int i), .d (.int j)] = some (.int (if j < i then j else i)) := (rfl)
@[simp] theorem gMax2_i (i j : Int) : gMax2 [.d (.int i), .d (.int j)] = some (.int (if j > i then j else i)) := (rfl)
@[simp] theorem gTup_l (xs : List Mi.D) : gTup [.d (.list xs)] = some (.tuple xs) := (rfl)
@[simp] theorem gLenO_e (xs : List Mi.D) : gLenO xs = some (.int xs.length) := (rfl)
@[simp] theorem gTupO_e (xs : List Mi.D) : gTupO xs = some (.tuple xs) := (rfl)
@[simp] theorem gStr_i (i : Int) : gStr [.d (.int i)] = if i.natAbs.log2 < 1920 then some (.str (toString i)) else none := (rfl)
@[simp] theorem gSum_l (xs : List Mi.D) : gSum [.d (.list xs)] = (toInts xs).map fun ns => .int ns.sum := (rfl)
@[simp] theorem gAppend_d (xs : List Mi.D) (d : Mi.D) : gAppend xs [.d d] = if xs.length < sizeLine then some (.none, xs ++ [d]) else none := (rfl)
@[simp] theorem argD_nil : argD [] = some [] := (rfl)
@[simp] theorem argD_cons (x : Mi.D) (as : List Arg) : argD (.d x :: as) = (argD as).map (x :: ·) := (rfl)
theorem capL_of {ds : List Mi.D} (h : ds.length ≤ sizeLine) : capL ds = some ds := by unfold capL; rw [if_pos h]
@[simp] theorem capL_e (ds : List Mi.D) : capL ds = if ds.length ≤ sizeLine then some ds else none := (rfl)
@[simp] theorem R_sh (d : Mi.D) : (R.sh d).d = d := (rfl)
@[simp] theorem R_fr (xs : List Mi.D) : (R.fr xs).d = .list xs := (rfl)
theorem ix_at {xs : List Mi.D} {i : Int} (h0 : 0 ≤ i) (h1 : i < xs.length) : ∃ d, xs[i.toNat]? = some d ∧ d ∈ xs ∧ dIx (.list xs) (.int i) = some d ∧ dIx (.tuple xs) (.int i) = some d := by
  have hl : i.toNat < xs.length := by omega
  have e : i = (i.toNat : Int) := by omega
  have q : xs[i.toNat]? = some xs[i.toNat] := List.getElem?_eq_getElem hl
  have a : atI xs i = some xs[i.toNat] := by
    have := atI_nat q
    rw [← e] at this
    exact this
  exact ⟨_, q, List.getElem_mem hl, a, a⟩
end Mi
set_option maxHeartbeats 4000000
namespace PySem
open Sem (wp)
theorem mi_enumerate_new {v : Value} {o : Obj} {H : Heap → Prop} (B : Begins v o H) :
    Meets (Builtin.«enumerate.__new__» ⟨[.type "enumerate", v], []⟩) (fun _ R s => H s.heap ∧
      R (.ok (.ret (.ref (s.heap.push o).objs.size))) { s with heap := (s.heap.push o).push { cls := .type "enumerate", data := .fields #[.none, .bool false, .ref s.heap.objs.size, rawInt 0, .none, .none] } }) :=
  .of_wp fun prog w A R s h => by
    obtain ⟨hp, g, d, tk, os⟩ := s; obtain ⟨h1, h⟩ := h
    have hsub := sub_enumerate
    have q1 : ∀ {A' : Around} {E : Value → Shared → Prop} {Q : Value → Shared → Prop}, Q (.ref hp.objs.size) ⟨hp.push o, g, d, tk, os⟩ → wpAny (model prog w) A' (pyIter v) Q E ⟨hp, g, d, tk, os⟩ :=
      fun q => B.iter prog w _ _ ⟨hp, g, d, tk, os⟩ _ h1 q
    wp_walk using q1
    refine wpAny_stack_any fun st => wpAny_pure ?_
    split
    · rename_i c _ _ _ _ _
      cases (c == Value.type "enumerate")
      · wp_walk using q1
        exact ⟨_, rfl, h⟩
      · wp_walk using q1
        exact ⟨_, rfl, h⟩
    · wp_walk using q1
      exact ⟨_, rfl, h⟩
theorem mi_call_enumerate {prog : Program} {w : World} {A : Around} {E : Value → Shared → Prop} {s : Shared} {v : Value} {o : Obj} {H : Heap → Prop} (B : Begins v o H) {Q : Value → Shared → Prop} (h1 : H s.heap)
    (h : ∀ h', IsEnum h' (s.heap.objs.size + 1) s.heap.objs.size 0 .none → h'.get? s.heap.objs.size = some o → h'.objs.size = s.heap.objs.size + 2 →
      (∀ b o, s.heap.get? b = some o → h'.get? b = some o) → Q (.ref (s.heap.objs.size + 1)) { s with heap := h' }) :
    wpAny (model prog w) A (call (.type "enumerate") [v]) Q E s := by
  refine callType_new F.called_enumerate (by decide) (F.typeCall_enumerate_1 _) (F.newCall_enumerate_1 _) (fun obj => F.args_object_init_2 obj _) F.entry_enumerate_new
    (mi_enumerate_new B) ⟨h1, ?_⟩
  have hz : (s.heap.push o).objs.size = s.heap.objs.size + 1 := Heap.size_push ..
  show _ ∧ _
  rw [hz]
  have he : IsEnum ((s.heap.push o).push { cls := .type "enumerate", data := .fields #[.none, .bool false, .ref s.heap.objs.size, rawInt 0, .none, .none] }) (s.heap.objs.size + 1) s.heap.objs.size 0 .none := by
    have := Heap.get?_push_size (s.heap.push o) (o := { cls := .type "enumerate", data := .fields #[.none, .bool false, .ref s.heap.objs.size, rawInt 0, .none, .none] }) rfl
    rw [hz] at this; exact this
  exact ⟨⟨_, he, rfl⟩, h _ he (Heap.get?_push_of_some _ (Heap.get?_push_size _ B.free)) (by rw [Heap.size_push, hz]) fun b o x => Heap.get?_push_of_some _ (Heap.get?_push_of_some _ x)⟩
end PySem
namespace Mi
open PySem PySem.Spec PyProof.Rows L2
/-- the tuple at a as it stands at each turn, each item in a new pair -/
def IteT (K : PySem.W.Frag) (a : Addr) : It :=
  ⟨fun i H => ∃ (xs : List V) (x : V), SqT K H a xs ∧ xs[i]? = some x, fun i H v H' => ∃ T x, v = .ref T ∧ H T = none ∧ H' = upd H T (.tup [.int (i : Nat), x]) ∧ ∀ xs, SqT K H a xs → xs[i]? = some x, fun i H => ∃ xs : List V, SqT K H a xs ∧ xs.length = i⟩
theorem turn_enumT {P : Program} {w : World} {K : PySem.W.Frag} {elts : List Expr} {kk : Nat} {tpos : Pos} (a e it : Addr) :
    Turn P w K (.Tuple elts kk tpos) (IteT K a) [e, it] e (fun i h => (∃ old, IsEnum h e it ((i : Nat) : Int) old) ∧ h.IsTupleIter it a i ∧ e ≠ it ∧ a ≠ it ∧ a ≠ e) where
  mem := by simp
  obj := fun i h st b hb => by
    obtain ⟨⟨old, he⟩, ⟨o, ho, hc, hd⟩, _⟩ := st
    have e' : b = e ∨ b = it := by simpa using hb
    rcases e' with z | z
    · rw [z]; exact ⟨_, he, fun v q => nomatch q⟩
    · rw [z]; exact ⟨o, ho, fun v q => by rw [hd] at q; cases q⟩
  keep := fun i h h' st k => let ⟨⟨old, he⟩, hi, hne⟩ := st; ⟨⟨old, k e (by simp) _ he⟩, hi.at fun o q => k it (by simp) o q, hne⟩
  item := by
    intro X hP hw hK hc i pins s σ H E I hf st hg
    subst hP hw hK
    obtain ⟨⟨old, he⟩, hit, hne, hai, hae⟩ := st
    obtain ⟨xs, x, hq, hx⟩ := hg
    obtain ⟨its, rv, p, hz⟩ := I.tuple hq
    obtain ⟨u, hu, ru⟩ := rv.get hx
    have hel : e < s.heap.objs.size := Heap.lt_size he
    have hil : it < s.heap.objs.size := by obtain ⟨_, q, _⟩ := hit; exact Heap.lt_size q
    have hxi : its[i]? = some u := hu
    have hi : i < its.toArray.size := by
      have := (List.getElem?_eq_some_iff.mp hxi).1
      simpa using this
    refine wpAny_pyNext_enum_itemD (Draws.tuple (prog := X.prog) (w := X.w) (A := X.A.in1) (I.ok.hd hc) it a hai its.toArray) he ⟨hit, p⟩ hi hne (by simp only [List.mem_cons, List.not_mem_nil, or_false]; rintro (z | z); exact hne z; exact hae z.symm) fun y h' tk hy ho st' hT hsz hk => ?_
    have hyu : y = u := by
      have : its[i]? = some y := by simpa using hy
      rw [hxi] at this
      exact (Option.some.inj this).symm
    subst hyu
    refine ⟨_, rfl, wpAny_letOwnedTupleGo_enum (s := { s with heap := h', toks := tk + 1 }) ho fun h'' he' sb => ?_⟩
    have hT2 : h''.get? s.heap.objs.size = some { cls := .type "tuple", data := .seq #[.int i tk, y] } := (sb.2 _ (Nat.ne_of_gt hel)).trans hT
    have new : ObjOk X.prog X.w (upd H s.heap.objs.size (.tup [.int (i : Nat), x])) h'' s.heap.objs.size (.tup [.int (i : Nat), x]) :=
      ⟨by show 2 ≤ sizeLine; decide, [.int i tk, y], .cons ⟨_, rfl⟩ (.cons ru .nil), ⟨_, hT2, rfl, _, rfl⟩⟩
    have I1 : Inv X pins σ (upd H s.heap.objs.size (.tup [.int (i : Nat), x])) { s with heap := h'', toks := tk + 1 } :=
      I.turnedNew (ch := [e, it]) (fun b ob hb q => (sb.2 b (fun z => hb (by simp [z]))).trans (hk b ob (fun z => hb (by simp [z])) (fun z => hb (by simp [z])) q)) hf (Nat.le_refl _) new
    refine ⟨.ref s.heap.objs.size, _, I1, rfl, ⟨_, x, rfl, I.hok.fresh (Nat.le_refl _), rfl, fun ys hy => by rw [I.tuple_inj hy hq]; exact hx⟩, ⟨⟨y, ?_⟩, st'.1.at fun o q => (sb.2 it (Ne.symm hne)).trans q, hne, hai, hae⟩, fun b hb => ?_⟩
    · have e1 : ((i + 1 : Nat) : Int) = (i : Int) + 1 := by omega
      rw [e1]; exact he'
    · have hb' : b < s.heap.objs.size := by
        have e' : b = e ∨ b = it := by simpa using hb
        rcases e' with z | z
        · rw [z]; exact hel
        · rw [z]; exact hil
      rw [upd_ne (Nat.ne_of_lt hb')]
      exact (hf b hb).1
  done := by
    intro X hP hw hK hc i pins s σ H E I hf st hg
    subst hP hw hK
    obtain ⟨⟨old, he⟩, hit, hne, hai, hae⟩ := st
    obtain ⟨xs, hq, hx⟩ := hg
    obtain ⟨its, rv, p, hz⟩ := I.tuple hq
    obtain ⟨f0, f1, f2, f3, f4, f5⟩ := hf it (by simp)
    have hl := rv.length
    have hn : i = its.toArray.size := by simp; omega
    exact wpAny_pyNext_enum_endD (Draws.tuple (prog := X.prog) (w := X.w) (A := X.A.in1) (I.ok.hd hc) it a hai its.toArray) he ⟨by rw [← hn]; exact hit, p⟩ fun h' eb => ⟨rfl, I.turned (t' := s.toks) (fun b o hb q => eb b o hb q) f0 f1 f3 f4 f5⟩
  self := fun A i s Q E st h => let ⟨⟨_, he⟩, _⟩ := st; wpAny_pyIter_enum he h
end Mi
namespace Mi
open PySem PySem.Spec PyProof.Rows L2
def iEnumT (K : PySem.W.Frag) (ta : TA) : TI := fun σ H R => ta σ H fun vs H1 => ∃ a xs, vs = [.ref a] ∧ SqT K H1 a xs ∧ R (IteT K a) H1
theorem pi_enumT {X : Cx} {e : Expr} {ta : TA} {p pos tpos : Pos} {elts : List Expr} {kk : Nat} (hg : Gl X "enumerate") (hm : X.mg "enumerate" = none) (ha : PA X [e] ta) (hs : starEach [e] X.env = [(false, eval e X.env)] := by rfl) :
    PI X (.Tuple elts kk tpos) (.Call (.Name "enumerate" p) [e] [] pos) (iEnumT X.K ta) := by
  refine ⟨fun pins s σ H R I h => ?_⟩
  refine Call_ (ld_blt I hg hm boot_enumerate (PyProof.Rows.callWith_type1 (thn (ha.run pos pins s σ H _ I h) fun us s1 ⟨vs, H1, I1, r1, q1⟩ => ?_) hs rfl))
  obtain ⟨a, xs, ex, hq, q⟩ := q1
  subst ex
  cases r1 with
  | cons r rr =>
    cases rr
    cases r
    obtain ⟨its, rv, p', hz⟩ := I1.tuple hq
    have ha1 : a < s1.heap.objs.size := by obtain ⟨o, ho, _⟩ := p'; exact Heap.lt_size ho
    refine mi_call_enumerate (begins_tuple a its.toArray) p' fun h' he hit hsz hk => wpAny_pyIter_enum he ?_
    have I2 : Inv X pins σ H1 { s1 with heap := h' } := I1.kept (t' := s1.toks) hk
    refine ⟨s1.heap.objs.size + 1, [s1.heap.objs.size + 1, s1.heap.objs.size], _, _, H1, rfl, I2, turn_enumT a (s1.heap.objs.size + 1) s1.heap.objs.size, ⟨⟨.none, he⟩, ⟨_, hit, rfl, rfl⟩, Nat.succ_ne_self _, Nat.ne_of_lt ha1, Nat.ne_of_lt (Nat.lt_succ_of_lt ha1)⟩, fun b hb => ?_, q⟩
    have e' : b = s1.heap.objs.size + 1 ∨ b = s1.heap.objs.size := by simpa using hb
    have hle : s1.heap.objs.size ≤ b := by
      rcases e' with z | z
      · rw [z]; exact Nat.le_add_right _ _
      · rw [z]; exact Nat.le_refl _
    exact I1.fpOk hle (I1.hok.fresh hle)
/-- (0, a), (1, b), .. -/
def enumF (k : Nat) : List Mi.D → List Mi.D
  | [] => []
  | d :: ds => .tuple [.int k, d] :: enumF (k + 1) ds
theorem enumF_get : ∀ (ds : List Mi.D) (k i : Nat) (d : Mi.D), (enumF k ds)[i]? = some d → ∃ x, ds[i]? = some x ∧ d = .tuple [.int ((k + i : Nat) : Int), x]
  | [], _, _, _, h => by simp [enumF] at h
  | x :: ds, k, 0, d, h => by
    simp [enumF] at h
    exact ⟨x, rfl, by simp [← h]⟩
  | x :: ds, k, i + 1, d, h => by
    simp only [enumF, List.getElem?_cons_succ] at h
    obtain ⟨y, h1, h2⟩ := enumF_get ds (k + 1) i d h
    exact ⟨y, by simpa using h1, by rw [h2]; congr 3; omega⟩
theorem enumF_len : ∀ (ds : List Mi.D) (k : Nat), (enumF k ds).length = ds.length
  | [], _ => rfl
  | x :: ds, k => by simp [enumF, enumF_len ds]
section
variable {P : Pm} {X : Cx} {W : WX} {F : Hp} {pos : Pos}
def mEnum {S : Type} (g : M S (List Arg)) : M S (List Mi.D) := bnd g fun as => match as with
  | [.d (.list ds)] => rt (enumF 0 ds)
  | [.d (.tuple ds)] => rt (enumF 0 ds)
  | _ => stk
theorem ite_ok {K : PySem.W.Frag} {a : Addr} {vs : List V} {ds : List Mi.D} (h : F a = some (.lst vs)) (r : RpA F vs ds) : ItOk (Ite K a) (enumF 0 ds) F := fun F2 H2 x y => by
  have hs : SqL K H2 a vs := .of (y _ _ (x _ _ h))
  refine ⟨⟨vs, hs, by rw [RpA.len r, enumF_len]; exact Nat.le_refl _⟩, fun i d hd => ?_⟩
  obtain ⟨d0, h1, rfl⟩ := enumF_get _ _ _ _ hd
  obtain ⟨v, hv, rv⟩ := r.get h1
  refine ⟨⟨vs, v, hs, hv⟩, fun z H3 q => ?_⟩
  obtain ⟨T, x1, rfl, hT, rfl, q⟩ := q
  have e := q vs hs
  rw [hv] at e
  cases e
  have z := Ext.lay (p := T) (o := .tup [.int (i : Nat), v]) y hT
  refine ⟨upd F2 T (.tup [.int (i : Nat), v]), Ex.new hT, z, .tup upd_same (.cons ?_ (.cons (z.ff.dp _ _ (x.dp _ _ rv)) .nil))⟩
  have : ((0 + i : Nat) : Int) = (i : Nat) := by omega
  rw [this]
  exact .int _
theorem iteT_ok {K : PySem.W.Frag} {a : Addr} {vs : List V} {ds : List Mi.D} (h : F a = some (.tup vs)) (r : RpA F vs ds) : ItOk (IteT K a) (enumF 0 ds) F := fun F2 H2 x y => by
  have hs : SqT K H2 a vs := .of (y _ _ (x _ _ h))
  refine ⟨⟨vs, hs, by rw [RpA.len r, enumF_len]⟩, fun i d hd => ?_⟩
  obtain ⟨d0, h1, rfl⟩ := enumF_get _ _ _ _ hd
  obtain ⟨v, hv, rv⟩ := r.get h1
  refine ⟨⟨vs, v, hs, hv⟩, fun z H3 q => ?_⟩
  obtain ⟨T, x1, rfl, hT, rfl, q⟩ := q
  have e := q vs hs
  rw [hv] at e
  cases e
  have z := Ext.lay (p := T) (o := .tup [.int (i : Nat), v]) y hT
  refine ⟨upd F2 T (.tup [.int (i : Nat), v]), Ex.new hT, z, .tup upd_same (.cons ?_ (.cons (z.ff.dp _ _ (x.dp _ _ rv)) .nil))⟩
  have : ((0 + i : Nat) : Int) = (i : Nat) := by omega
  rw [this]
  exact .int _
theorem i_enum {a : Expr} {g : M P.B.S (List Arg)} {p tpos : Pos} {elts : List Expr} {kk : Nat} (hm : X.mg "enumerate" = none) (ha : XA P X W [a] g) (hg : Gl X "enumerate" := by rfl) (hs : starEach [a] X.env = [(false, eval a X.env)] := by rfl) : XI P X W (.Tuple elts kk tpos) (.Call (.Name "enumerate" p) [a] [] pos) (mEnum g) := ⟨fun pins s σ H R I ⟨F, e, k, q⟩ => by
  unfold mEnum bnd at q
  cases y : g e with
  | stuck => rw [y] at q; exact q.elim
  | err x e1 => rw [y] at q; exact (pi_enum hg hm ha hs).run pins s σ H R I ⟨F, e, k, by rw [y]; exact q⟩
  | ok as e1 =>
    rw [y] at q
    dsimp only at q
    split at q
    · rename_i ds
      refine (pi_enum hg hm ha hs).run pins s σ H R I ⟨F, e, k, ?_⟩
      rw [y]
      intro F1 H1 k1 s1 vs rv
      cases rv with
      | d r1 r2 =>
        cases r2
        cases r1 with
        | lst g1 g2 => exact ⟨_, _, rfl, .of (k1.ext.fh _ _ g1), q F1 H1 k1 s1 _ (ite_ok g1 g2)⟩
    · rename_i ds
      refine (pi_enumT hg hm ha hs).run pins s σ H R I ⟨F, e, k, ?_⟩
      rw [y]
      intro F1 H1 k1 s1 vs rv
      cases rv with
      | d r1 r2 =>
        cases r2
        cases r1 with
        | tup g1 g2 => exact ⟨_, _, rfl, .of (k1.ext.fh _ _ g1), q F1 H1 k1 s1 _ (iteT_ok g1 g2)⟩
    · exact q.elim⟩
end
section
variable {S : Type} {e : En S} {X : Er → En S → Prop}
def enumOf : List Arg → Option (List Mi.D)
  | [.d (.list ds)] => some (enumF 0 ds)
  | [.d (.tuple ds)] => some (enumF 0 ds)
  | _ => none
@[simp] theorem enumOf_l (ds : List Mi.D) : enumOf [.d (.list ds)] = some (enumF 0 ds) := (rfl)
@[simp] theorem enumOf_t (ds : List Mi.D) : enumOf [.d (.tuple ds)] = some (enumF 0 ds) := (rfl)
@[simp] theorem wp_mEnum {Q : List Mi.D → En S → Prop} (g : M S (List Arg)) : wp (mEnum g) e Q X = wp g e (kA enumOf Q) X := by
  unfold mEnum; rw [wp_bnd]; congr 1; funext as e1
  unfold kA enumOf
  split
  · rfl
  · rfl
  · rename_i h1 h2
    first
    | rfl
    | (split
       · rename_i ds; exact absurd rfl (h1 ds)
       · rename_i ds; exact absurd rfl (h2 ds)
       · rfl)
end
end Mi
set_option maxHeartbeats 4000000
namespace Mi
open PySem PySem.Spec PyProof.Rows L2
section
variable {P : Pm} {X : Cx} {W : WX} {α β : Type} {e e1 : En P.B.S} {σ : St} {F H F1 H1 : Hp} {pos : Pos} {D : Ends}
/-! a call that borrows: its arguments are names, its answer is no object; lists of the frame stay apart -/
inductive BA where
  | v (i : Nat) | c (d : Mi.D)
def scal : Mi.D → Bool
  | .none => true
  | .bool _ => true
  | .int _ => true
  | .str _ => true
  | _ => false
def bArg {S : Type} (e : En S) : BA → Option Arg
  | .c d => if scal d = true then some (.d d) else none
  | .v i => match e.sl[i]? with
    | some (.sh d) => some (.d d)
    | some (.ob (.lst xs)) => some (.d (.list xs))
    | some .tok => some .tok
    | _ => none
def bArgs {S : Type} (e : En S) : List BA → Option (List Arg)
  | [] => some []
  | b :: l => match bArg e b, bArgs e l with
    | some a, some as => some (a :: as)
    | _, _ => none
def outB {S : Type} (o : FO S) (e : En S) : Out S Mi.D := match o with
  | .val (.sh d) s1 => if scal d = true then .ok d { e with st := s1 } else .stuck
  | _ => .stuck
def mCallB {S : Type} (n : Nat) (fn : List Arg → S → FO S) (l : List BA) : M S Mi.D := fun e => match bArgs e l with
  | some as => if as.length = n then outB (fn as e.st) e else .stuck
  | none => .stuck
def bVal (σ : St) : BA → V → Prop
  | .c (.int i), v => v = .int i
  | .c (.bool b), v => v = .bl b
  | .c (.str x), v => v = .str x
  | .c .none, v => v = .non
  | .c _, _ => False
  | .v i, v => σ[i]? = some (some v)
def tBr (l : List BA) : TA := fun σ H Q => ∃ vs, Paired (bVal σ) l vs ∧ Q vs H
theorem br_nil : PA X [] (tBr []) := pa_imp pa_nil fun σ H Q ⟨vs, h, q⟩ => by cases h; exact q
theorem br_var (i : Nat) {x : Str} {p : Pos} {es : List Expr} {l : List BA} (hr : PA X es (tBr l)) (hN : X.N[i]? = some x := by rfl) (hv : Vis X.env.scope x := by first | exact Or.inl rfl | exact Or.inr (Or.inl rfl) | exact Or.inr (Or.inr rfl))
    (hd : (x == ("__debug__" : Str)) = false := by decide) (hcd : (x == ("__classdict__" : Str)) = false := by decide) (hs : starEach (.Name x p :: es) X.env = (false, eval (.Name x p) X.env) :: starEach es X.env := by rfl) : PA X (.Name x p :: es) (tBr (.v i :: l)) :=
  pa_imp (pa_cons (pe_var hN hv hd hcd) hr hs) fun σ H Q ⟨vs, h, q⟩ => by
    cases h with
    | cons h1 h2 => exact ⟨_, h1, _, h2, q⟩
theorem br_int {i : Int} {j : Nat} {p : Pos} {es : List Expr} {l : List BA} (hr : PA X es (tBr l)) (hs : starEach (.Constant (.int i) j p :: es) X.env = (false, eval (.Constant (.int i) j p) X.env) :: starEach es X.env := by rfl) : PA X (.Constant (.int i) j p :: es) (tBr (.c (.int i) :: l)) :=
  pa_imp (pa_cons pe_int hr hs) fun σ H Q ⟨vs, h, q⟩ => by
    cases h with
    | cons h1 h2 => cases h1; exact ⟨_, h2, q⟩
theorem br_str {i : Str} {j : Nat} {p : Pos} {es : List Expr} {l : List BA} (hr : PA X es (tBr l)) (hs : starEach (.Constant (.str i) j p :: es) X.env = (false, eval (.Constant (.str i) j p) X.env) :: starEach es X.env := by rfl) : PA X (.Constant (.str i) j p :: es) (tBr (.c (.str i) :: l)) :=
  pa_imp (pa_cons pe_str hr hs) fun σ H Q ⟨vs, h, q⟩ => by
    cases h with
    | cons h1 h2 => cases h1; exact ⟨_, h2, q⟩
theorem br_bl {i : Bool} {j : Nat} {p : Pos} {es : List Expr} {l : List BA} (hr : PA X es (tBr l)) (hs : starEach (.Constant (.bool i) j p :: es) X.env = (false, eval (.Constant (.bool i) j p) X.env) :: starEach es X.env := by rfl) : PA X (.Constant (.bool i) j p :: es) (tBr (.c (.bool i) :: l)) :=
  pa_imp (pa_cons pe_bl hr hs) fun σ H Q ⟨vs, h, q⟩ => by
    cases h with
    | cons h1 h2 => cases h1; exact ⟨_, h2, q⟩
/-- the frozen part with the frame's own lists -/
noncomputable def lend (e : En P.B.S) (σ : St) (F H : Hp) : Hp := fun a => by
  classical exact if Ow e σ a then H a else F a
theorem lend_ff (k : EOk P e σ F H) : Ex F (lend e σ F H) := fun a o h => by
  unfold lend
  split
  · rename_i w
    rw [(k.ow_some w).2.1] at h; cases h
  · exact h
theorem lend_fh (k : EOk P e σ F H) : Ex (lend e σ F H) H := fun a o h => by
  unfold lend at h
  split at h
  · exact h
  · exact k.ext.fh a o h
theorem bArgs_ok (k : EOk P e σ F H) : ∀ {l : List BA} {as : List Arg}, bArgs e l = some as → ∃ vs, Paired (bVal σ) l vs ∧ ArgsOk P.B (lend e σ F H) vs as
  | [], as, h => by cases h; exact ⟨[], .nil, .nil⟩
  | b :: l, as, h => by
    unfold bArgs at h
    split at h
    · rename_i a as' h1 h2
      cases h
      obtain ⟨vs, p1, p2⟩ := bArgs_ok k h2
      cases b with
      | c d =>
        unfold bArg at h1
        dsimp only at h1
        split at h1
        · rename_i hs
          cases h1
          cases d with
          | none => exact ⟨.non :: vs, .cons rfl p1, .d .non p2⟩
          | bool b => exact ⟨.bl b :: vs, .cons rfl p1, .d (.bl b) p2⟩
          | int b => exact ⟨.int b :: vs, .cons rfl p1, .d (.int b) p2⟩
          | str b => exact ⟨.str b :: vs, .cons rfl p1, .d (.str b) p2⟩
          | list _ => cases hs
          | tuple _ => cases hs
          | dict _ => cases hs
        · cases h1
      | v i =>
        unfold bArg at h1
        dsimp only at h1
        split at h1
        · rename_i d q
          cases h1
          obtain ⟨v, g1, g2⟩ := k.sh i d q
          exact ⟨v :: vs, .cons g1 p1, .d ((lend_ff k).dp _ _ g2) p2⟩
        · rename_i xs q
          cases h1
          obtain ⟨p, ws, g1, g2, g3, g4, g5, g6⟩ := k.owL i xs q
          refine ⟨.ref p :: vs, .cons g1 p1, .d (.lst ?_ ((lend_ff k).dpa _ _ g6)) p2⟩
          unfold lend
          rw [if_pos ⟨i, _, q, g1⟩]
          exact g2
        · rename_i q
          cases h1
          exact ⟨_, .cons (k.tok i q) p1, .tok p2⟩
        · cases h1
    · cases h
theorem scal_rp {d : Mi.D} {v : V} {G : Hp} (hs : scal d = true) (h : Rp G v d) (F : Hp) : Rp F v d := by
  cases h with
  | non => exact .non
  | bl b => exact .bl b
  | int b => exact .int b
  | str b => exact .str b
  | lst a b => cases hs
  | tup a b => cases hs
theorem x_callB {p : Pos} {a : Expr} {es : List Expr} {x : Str} {f : Addr} {fd : FuncData} {ps : List Str} {kk : Nat} {n : Nat} {fn : List Arg → P.B.S → FO P.B.S} {l : List BA} (Fk : FnOk X.prog X.w X.K X.mg X.base (L2.CX X.prog X.w) kk f fd ps (spM P.mg P.B ps.length fn)) (hr : Room kk X.A) (hm : X.mg x = some (.ref f)) (hk : PySem.W.keepIn X.K (.ref f) = true) (hb : Binds X.K fd ps []) (tk : Takes X W)
    (ha : PA X (a :: es) (tBr l)) (hg : Gl X x := by rfl) (hdb : (x == ("__debug__" : Str)) = false := by decide) (he : starEach (a :: es) X.env = (false, eval a X.env) :: starEach es X.env := by rfl) (hpl : (backTo pos (starEach es X.env)).any (·.1) = false := by rfl) (hn : ps.length = n := by rfl) :
    XE P X W (.Call (.Name x p) (a :: es) [] pos) (mCallB n fn l) :=
  pe_imp (pe_callS Fk hr hg hm hk hb (fun σ => passAt tk σ) ha hdb he hpl) fun σ H Q ⟨F, e, k, h⟩ => by
    unfold mCallB at h
    cases q : bArgs e l with
    | none => rw [q] at h; exact h.elim
    | some as =>
      rw [q] at h
      dsimp only at h
      obtain ⟨vs, p1, p2⟩ := bArgs_ok k q
      subst hn
      by_cases hl : as.length = ps.length
      · rw [if_pos hl] at h
        refine ⟨vs, p1, p2.len.trans hl, lend e σ F H, as, e.st, lend_fh k, fun a z => ?_, k.sto, p2, ?_⟩
        · unfold lend
          split
          · rename_i w; exact absurd z (k.ow_some w).2.2.1
          · exact k.off a z
        · cases z : fn as e.st with
          | stuck => rw [z] at h; exact h.elim
          | exc x s1 => rw [z] at h; exact h.elim
          | val r s1 =>
            rw [z] at h
            cases r with
            | fr xs => exact h.elim
            | sh d =>
              unfold outB at h
              dsimp only at h
              split at h
              · rename_i hs
                intro F1 H1 ps1 v rv
                have pst : Pst P.B s1 F H F H1 := ⟨⟨Ex.refl _, ((lend_ff k).trans ps1.ext.ff).trans ps1.ext.fh, fun a o q => .inl ⟨_, q⟩, ps1.ext.kp⟩, ps1.fr, ps1.sto, k.off⟩
                obtain ⟨k1, s1'⟩ := k.called pst
                exact h F H1 k1 s1' v (scal_rp hs rv F)
              · exact h.elim
      · rw [if_neg hl] at h; exact h.elim
/-! slices -/
def mP0 {S : Type} : M S (Option Int) := rt none
def mP1 {S : Type} (f : M S Mi.D) : M S (Option Int) := bnd f fun d => match d with
  | .int i => rt (some i)
  | _ => stk
def tP (P : Pm) (W : WX) (m : M P.B.S (Option Int)) : TO := fun σ H Q => ∃ F e, EOk P e σ F H ∧ Sat P W e σ F H (m e) fun o _ _ H1 => Q o H1
abbrev XP (P : Pm) (X : Cx) (W : WX) (lo : Option Expr) (m : M P.B.S (Option Int)) : Prop := PO X lo (tP P W m)
theorem po_imp {lo : Option Expr} {t u : TO} (h : PO X lo t) (i : ∀ σ H Q, u σ H Q → t σ H Q) : PO X lo u := ⟨fun pins s σ H Q I q => h.run pins s σ H Q I (i σ H Q q)⟩
theorem sp_0 : XP P X W none mP0 := po_imp po_none fun σ H Q ⟨F, e, k, h⟩ => h.rt k
theorem sp_1 {a : Expr} {f : M P.B.S Mi.D} (h : XE P X W a f) : XP P X W (some a) (mP1 f) := po_imp (po_some h) fun σ H Q ⟨F, e, k, h⟩ => tX_of k h fun d e1 F1 H1 v k1 s1 r1 h1 => by
  cases d with
  | int i => cases r1; exact ⟨i, rfl, h1.rt k1⟩
  | _ => exact h1.elim
def cutD {α : Type} (xs : List α) (lo hi : Option Int) : List α := (xs.drop (HT.sIx xs.length 0 lo)).take (HT.sIx xs.length xs.length hi - HT.sIx xs.length 0 lo)
theorem cut_rp {vs : List V} {ds : List Mi.D} (r : RpA F vs ds) (lo hi : Option Int) : RpA F (cutV vs lo hi) (cutD ds lo hi) := by
  unfold cutV cutD
  rw [RpA.len r]
  exact RpA.take _ (RpA.drop _ r)
theorem cut_whole {ds : List Mi.D} {lo hi : Option Int} (h : HT.sIx ds.length 0 lo = 0 ∧ HT.sIx ds.length ds.length hi = ds.length) : cutD ds lo hi = ds := by
  unfold cutD
  rw [h.1, h.2]
  simp
def mSl {S : Type} (f : M S Mi.D) (lo hi : M S (Option Int)) : M S Mi.D := bnd f fun d => bnd lo fun l => bnd hi fun u => match d with
  | .list ds => rt (.list (cutD ds l u))
  | .tuple ds => rt (.tuple (cutD ds l u))
  | _ => stk
theorem tP_of {m : M P.B.S (Option Int)} {k : Option Int → M P.B.S β} {G : β → En P.B.S → Hp → Hp → Prop} {Q : Option Int → Hp → Prop} (ek : EOk P e σ F H) (h : Sat P W e σ F H (bnd m k e) G)
    (q : ∀ d e1 F1 H1, EOk P e1 σ F1 H1 → Step P e e1 σ F H F1 H1 → Sat P W e1 σ F1 H1 (k d e1) G → Q d H1) : tP P W m σ H Q :=
  ⟨F, e, ek, h.bnd.imp fun d e1 F1 H1 k1 s1 h1 => q d e1 F1 H1 k1 s1 h1⟩
theorem x_sl {a : Expr} {lo hi : Option Expr} {p2 : Pos} {f : M P.B.S Mi.D} {l u : M P.B.S (Option Int)} (ha : XE P X W a f) (hl : XP P X W lo l) (hu : XP P X W hi u) : XE P X W (.Subscript a (.Slice lo hi none p2) pos) (mSl f l u) :=
  pe_imp (pe_slice (sl_list.or sl_tupA) ha hl hu) fun σ H Q ⟨F, e, k, h⟩ => tX_of k h fun d e1 F1 H1 v k1 s1 r1 h1 => tP_of k1 h1 fun lo e2 F2 H2 k2 s2 h2 => tP_of k2 h2 fun hi e3 F3 H3 k3 s3 h3 => by
    have r3 := s3.ff.dp _ _ (s2.ff.dp _ _ r1)
    cases d with
    | list ds =>
      cases r3 with
      | @lst _ ws _ g1 g2 =>
        refine .inl ⟨_, _, rfl, .of (k3.ext.fh _ _ g1), fun p np => ?_⟩
        have z := Ext.lay (o := .lst (cutV ws lo hi)) k3.ext.fh np
        exact Sat.grow k3 h3 (Ex.new np) z _ (.lst upd_same (z.ff.dpa _ _ (cut_rp g2 lo hi)))
    | tuple ds =>
      cases r3 with
      | @tup _ ws _ g1 g2 =>
        refine .inr ⟨_, _, rfl, .of (k3.ext.fh _ _ g1), fun w => ?_, fun _ p np => ?_⟩
        · rw [RpA.len g2] at w
          refine Sat.grow k3 h3 (Ex.refl _) (Ext.refl k3.ext.fh) _ ?_
          rw [cut_whole w]
          exact .tup g1 g2
        · have z := Ext.lay (o := .tup (cutV ws lo hi)) k3.ext.fh np
          exact Sat.grow k3 h3 (Ex.new np) z _ (.tup upd_same (z.ff.dpa _ _ (cut_rp g2 lo hi)))
    | _ => exact h3.elim
def mSlF {S : Type} (f : M S Mi.D) (lo hi : M S (Option Int)) : M S (List Mi.D) := bnd f fun d => bnd lo fun l => bnd hi fun u => match d with
  | .list ds => rt (cutD ds l u)
  | _ => stk
theorem f_sl {a : Expr} {lo hi : Option Expr} {p2 : Pos} {f : M P.B.S Mi.D} {l u : M P.B.S (Option Int)} (ha : XE P X W a f) (hl : XP P X W lo l) (hu : XP P X W hi u) : XF P X W (.Subscript a (.Slice lo hi none p2) pos) (mSlF f l u) :=
  pe_imp (pe_slice sl_list ha hl hu) fun σ H Q ⟨F, e, k, h⟩ => tX_of k h fun d e1 F1 H1 v k1 s1 r1 h1 => tP_of k1 h1 fun lo e2 F2 H2 k2 s2 h2 => tP_of k2 h2 fun hi e3 F3 H3 k3 s3 h3 => by
    have r3 := s3.ff.dp _ _ (s2.ff.dp _ _ r1)
    cases d with
    | list ds =>
      cases r3 with
      | lst g1 g2 =>
        refine ⟨_, _, rfl, .of (k3.ext.fh _ _ g1), fun p np => ?_⟩
        exact h3.grow k3 (Ex.new np) (Ext.layO k3.ext.fh np) p _ (s1.non (s2.non (s3.non np))) upd_same (k3.fresh np).1 (cut_rp g2 lo hi)
    | _ => exact h3.elim
/-- a slice of the list in slot i, which stays as it is -/
def mSlO {S : Type} (i : Nat) (lo hi : M S (Option Int)) : M S (List Mi.D) := withL i (bnd lo fun l => bnd hi fun u e => match lstAt i e with
  | some xs => .ok (cutD xs l u) e
  | none => .stuck)
theorem f_slO (i : Nat) {x : Str} {p p2 : Pos} {lo hi : Option Expr} {l u : M P.B.S (Option Int)} (hl : XP P X W lo l) (hu : XP P X W hi u) (hN : X.N[i]? = some x := by rfl) (hv : Vis X.env.scope x := by first | exact Or.inl rfl | exact Or.inr (Or.inl rfl) | exact Or.inr (Or.inr rfl))
    (hd : (x == ("__debug__" : Str)) = false := by decide) (hcd : (x == ("__classdict__" : Str)) = false := by decide) : XF P X W (.Subscript (.Name x p) (.Slice lo hi none p2) pos) (mSlO i l u) :=
  pe_imp (pe_slice sl_list (pe_var hN hv hd hcd) hl hu) fun σ H Q ⟨F, e, k, h⟩ => by
    obtain ⟨p, vs, xs, _, q1, q2, q3, h⟩ := withL_of k h
    refine ⟨_, q1, tP_of k h fun lo e1 F1 H1 k1 s1 h1 => tP_of k1 h1 fun hi e2 F2 H2 k2 s2 h2 => ?_⟩
    cases z : lstAt i e2 with
    | none => rw [z] at h2; exact h2.elim
    | some ys =>
      rw [z] at h2
      obtain ⟨p', ws, g1, g2, g3⟩ := k2.lstAt z
      rw [q1] at g1
      cases g1
      refine ⟨_, _, rfl, .of g2, fun r np => ?_⟩
      exact Sat.grow k2 h2 (Ex.new np) (Ext.layO k2.ext.fh np) r _ (s1.non (s2.non np)) upd_same (k2.fresh np).1 (cut_rp g3 lo hi)
end
/-! their rules -/
section
variable {S α β : Type} {e e' : En S} {X : Er → En S → Prop}
@[simp] theorem gInt_b (b : Bool) : gInt [.d (.bool b)] = some (.int (if b then 1 else 0)) := (rfl)
def wCB (n : Nat) (fn : List Arg → S → FO S) (as : List Arg) (e : En S) (Q : Mi.D → En S → Prop) : Prop := as.length = n ∧ Fn fn as e.st (fun r s1 => ∃ d, r = .sh d ∧ scal d = true ∧ Q d { e with st := s1 }) fun _ _ => False
def wBA (o : Option (List Arg)) (K : List Arg → Prop) : Prop := wO o K
@[simp] theorem wp_mCallB {Q : Mi.D → En S → Prop} (n : Nat) (fn : List Arg → S → FO S) (l : List BA) : wp (mCallB n fn l) e Q X = wO (bArgs e l) fun as => wCB n fn as e Q := by
  unfold mCallB wp
  dsimp only
  cases bArgs e l with
  | none => rfl
  | some as =>
    rw [wO_some]
    dsimp only
    unfold wCB Fn
    by_cases h : as.length = n
    · rw [if_pos h]
      simp only [h, true_and]
      cases q : fn as e.st with
      | val r s1 =>
        cases r with
        | sh d =>
          unfold outB
          dsimp only
          by_cases hs : scal d = true
          · rw [if_pos hs]; simp [hs]
          · rw [if_neg hs]; simp [hs]
        | fr xs => simp [outB]
      | exc x s1 => simp [outB]
      | stuck => simp [outB]
    · rw [if_neg h]; simp [h]
theorem wCB_of {n : Nat} {fn : List Arg → S → FO S} {as : List Arg} {Q : Mi.D → En S → Prop} {P : R → S → Prop} (h : Fn fn as e.st P fun _ _ => False) (k : ∀ r s1, P r s1 → ∃ d, r = .sh d ∧ scal d = true ∧ Q d { e with st := s1 }) (hl : as.length = n := by rfl) : wCB n fn as e Q :=
  ⟨hl, h.imp k fun _ _ z => z⟩
@[simp] theorem bArgs_nil : bArgs e [] = some [] := (rfl)
theorem bArgs_cons (b : BA) (l : List BA) : bArgs e (b :: l) = (match bArg e b, bArgs e l with
    | some a, some as => some (a :: as)
    | _, _ => none) := (rfl)
def slA : Option Slot → Option Arg
  | some (.sh d) => some (.d d)
  | some (.ob (.lst xs)) => some (.d (.list xs))
  | some .tok => some .tok
  | _ => none
@[simp] theorem slA_sh (d : Mi.D) : slA (some (.sh d)) = some (.d d) := (rfl)
@[simp] theorem slA_ow (xs : List Mi.D) : slA (some (.ow xs)) = some (.d (.list xs)) := (rfl)
@[simp] theorem slA_tok : slA (some .tok) = some .tok := (rfl)
def cons2 (a : Option Arg) (as : Option (List Arg)) : Option (List Arg) := match a, as with
  | some a, some as => some (a :: as)
  | _, _ => none
@[simp] theorem cons2_s (a : Arg) (as : List Arg) : cons2 (some a) (some as) = some (a :: as) := (rfl)
@[simp] theorem bArgs_v (i : Nat) (l : List BA) : bArgs e (.v i :: l) = cons2 (slA e.sl[i]?) (bArgs e l) := by
  rw [bArgs_cons]
  have : bArg e (.v i) = slA e.sl[i]? := by
    unfold bArg slA
    dsimp only
  rw [this]
  unfold cons2
  cases slA e.sl[i]? <;> cases bArgs e l <;> rfl
@[simp] theorem bArgs_i (i : Int) (l : List BA) : bArgs e (.c (.int i) :: l) = cons2 (some (.d (.int i))) (bArgs e l) := by
  rw [bArgs_cons]; show (match some (Arg.d (.int i)), bArgs e l with | some a, some as => _ | _, _ => _) = _; unfold cons2; cases bArgs e l <;> rfl
@[simp] theorem bArgs_s (i : Str) (l : List BA) : bArgs e (.c (.str i) :: l) = cons2 (some (.d (.str i))) (bArgs e l) := by
  rw [bArgs_cons]; show (match some (Arg.d (.str i)), bArgs e l with | some a, some as => _ | _, _ => _) = _; unfold cons2; cases bArgs e l <;> rfl
@[simp] theorem bArgs_b (i : Bool) (l : List BA) : bArgs e (.c (.bool i) :: l) = cons2 (some (.d (.bool i))) (bArgs e l) := by
  rw [bArgs_cons]; show (match some (Arg.d (.bool i)), bArgs e l with | some a, some as => _ | _, _ => _) = _; unfold cons2; cases bArgs e l <;> rfl
@[simp] theorem wp_mP0 {Q : Option Int → En S → Prop} : wp (mP0 : M S (Option Int)) e Q X = Q none e := (rfl)
def intOf : Mi.D → Option (Option Int)
  | .int i => some (some i)
  | _ => none
@[simp] theorem intOf_i (i : Int) : intOf (.int i) = some (some i) := (rfl)
@[simp] theorem wp_mP1 {Q : Option Int → En S → Prop} (f : M S Mi.D) : wp (mP1 f) e Q X = wp f e (kD intOf Q) X := by
  unfold mP1; rw [wp_bnd]; congr 1; funext d e1; cases d <;> rfl
def cutOf (l u : Option Int) : Mi.D → Option Mi.D
  | .list ds => some (.list (cutD ds l u))
  | .tuple ds => some (.tuple (cutD ds l u))
  | _ => none
@[simp] theorem cutOf_l (l u : Option Int) (ds : List Mi.D) : cutOf l u (.list ds) = some (.list (cutD ds l u)) := (rfl)
@[simp] theorem cutOf_t (l u : Option Int) (ds : List Mi.D) : cutOf l u (.tuple ds) = some (.tuple (cutD ds l u)) := (rfl)
def kSl3 (Q : Mi.D → En S → Prop) (d : Mi.D) (l u : Option Int) (e : En S) : Prop := wO (cutOf l u d) (kO Q e)
@[simp] theorem kSl3_e (Q : Mi.D → En S → Prop) (d : Mi.D) (l u : Option Int) : kSl3 Q d l u e = wO (cutOf l u d) (kO Q e) := (rfl)
def kSl2 (hi : M S (Option Int)) (Q : Mi.D → En S → Prop) (X : Er → En S → Prop) (d : Mi.D) (l : Option Int) (e : En S) : Prop := wp hi e (kSl3 Q d l) X
@[simp] theorem kSl2_e (hi : M S (Option Int)) (Q : Mi.D → En S → Prop) (d : Mi.D) (l : Option Int) : kSl2 hi Q X d l e = wp hi e (kSl3 Q d l) X := (rfl)
def kSl1 (lo hi : M S (Option Int)) (Q : Mi.D → En S → Prop) (X : Er → En S → Prop) (d : Mi.D) (e : En S) : Prop := wp lo e (kSl2 hi Q X d) X
@[simp] theorem kSl1_e (lo hi : M S (Option Int)) (Q : Mi.D → En S → Prop) (d : Mi.D) : kSl1 lo hi Q X d e = wp lo e (kSl2 hi Q X d) X := (rfl)
@[simp] theorem wp_mSl {Q : Mi.D → En S → Prop} (f : M S Mi.D) (lo hi : M S (Option Int)) : wp (mSl f lo hi) e Q X = wp f e (kSl1 lo hi Q X) X := by
  unfold mSl; rw [wp_bnd]; congr 1; funext d e1; rw [wp_bnd, kSl1_e]; congr 1; funext l e2; rw [wp_bnd, kSl2_e]; congr 1; funext u e3
  cases d <;> rfl
def cutOfL (l u : Option Int) : Mi.D → Option (List Mi.D)
  | .list ds => some (cutD ds l u)
  | _ => none
@[simp] theorem cutOfL_l (l u : Option Int) (ds : List Mi.D) : cutOfL l u (.list ds) = some (cutD ds l u) := (rfl)
def kSf3 (Q : List Mi.D → En S → Prop) (d : Mi.D) (l u : Option Int) (e : En S) : Prop := wO (cutOfL l u d) (kO Q e)
@[simp] theorem kSf3_e (Q : List Mi.D → En S → Prop) (d : Mi.D) (l u : Option Int) : kSf3 Q d l u e = wO (cutOfL l u d) (kO Q e) := (rfl)
def kSf2 (hi : M S (Option Int)) (Q : List Mi.D → En S → Prop) (X : Er → En S → Prop) (d : Mi.D) (l : Option Int) (e : En S) : Prop := wp hi e (kSf3 Q d l) X
@[simp] theorem kSf2_e (hi : M S (Option Int)) (Q : List Mi.D → En S → Prop) (d : Mi.D) (l : Option Int) : kSf2 hi Q X d l e = wp hi e (kSf3 Q d l) X := (rfl)
def kSf1 (lo hi : M S (Option Int)) (Q : List Mi.D → En S → Prop) (X : Er → En S → Prop) (d : Mi.D) (e : En S) : Prop := wp lo e (kSf2 hi Q X d) X
@[simp] theorem kSf1_e (lo hi : M S (Option Int)) (Q : List Mi.D → En S → Prop) (d : Mi.D) : kSf1 lo hi Q X d e = wp lo e (kSf2 hi Q X d) X := (rfl)
@[simp] theorem wp_mSlF {Q : List Mi.D → En S → Prop} (f : M S Mi.D) (lo hi : M S (Option Int)) : wp (mSlF f lo hi) e Q X = wp f e (kSf1 lo hi Q X) X := by
  unfold mSlF; rw [wp_bnd]; congr 1; funext d e1; rw [wp_bnd, kSf1_e]; congr 1; funext l e2; rw [wp_bnd, kSf2_e]; congr 1; funext u e3
  cases d <;> rfl
def kSo4 (l u : Option Int) (Q : List Mi.D → En S → Prop) (e : En S) (xs : List Mi.D) : Prop := Q (cutD xs l u) e
@[simp] theorem kSo4_e (l u : Option Int) (Q : List Mi.D → En S → Prop) (xs : List Mi.D) : kSo4 l u Q e xs = Q (cutD xs l u) e := (rfl)
def kSo3 (i : Nat) (Q : List Mi.D → En S → Prop) (l u : Option Int) (e : En S) : Prop := wL e.sl[i]? (kSo4 l u Q e)
@[simp] theorem kSo3_e (i : Nat) (Q : List Mi.D → En S → Prop) (l u : Option Int) : kSo3 i Q l u e = wL e.sl[i]? (kSo4 l u Q e) := (rfl)
def kSo2 (i : Nat) (hi : M S (Option Int)) (Q : List Mi.D → En S → Prop) (X : Er → En S → Prop) (l : Option Int) (e : En S) : Prop := wp hi e (kSo3 i Q l) X
@[simp] theorem kSo2_e (i : Nat) (hi : M S (Option Int)) (Q : List Mi.D → En S → Prop) (l : Option Int) : kSo2 i hi Q X l e = wp hi e (kSo3 i Q l) X := (rfl)
def kSo1 (i : Nat) (lo hi : M S (Option Int)) (Q : List Mi.D → En S → Prop) (X : Er → En S → Prop) (e : En S) (_ : List Mi.D) : Prop := wp lo e (kSo2 i hi Q X) X
@[simp] theorem kSo1_e (i : Nat) (lo hi : M S (Option Int)) (Q : List Mi.D → En S → Prop) (xs : List Mi.D) : kSo1 i lo hi Q X e xs = wp lo e (kSo2 i hi Q X) X := (rfl)
@[simp] theorem wp_mSlO {Q : List Mi.D → En S → Prop} (i : Nat) (lo hi : M S (Option Int)) : wp (mSlO i lo hi) e Q X = wL e.sl[i]? (kSo1 i lo hi Q X e) := by
  unfold mSlO withL
  rw [← lstAt_wL]
  unfold wp
  dsimp only
  cases lstAt i e with
  | none => rfl
  | some ys =>
    dsimp only
    rw [kSo1_e]
    show wp (bnd lo _) e Q X = _
    rw [wp_bnd]; congr 1; funext l e2; rw [wp_bnd, kSo2_e]; congr 1; funext u e3
    rw [kSo3_e, ← lstAt_wL]
    unfold wp
    dsimp only
    cases lstAt i e3 <;> rfl
/-! a call that hands back a new list -/
def wCallF (n : Nat) (fn : List Arg → S → FO S) (as : List Arg) (e : En S) (Q : List Mi.D → En S → Prop) (X : Er → En S → Prop) : Prop := as.length = n ∧ Fn fn as e.st (fun r s1 => ∃ xs, r = .fr xs ∧ Q xs { e with st := s1 }) fun x s1 => X x { e with st := s1 }
def kCallF (n : Nat) (fn : List Arg → S → FO S) (Q : List Mi.D → En S → Prop) (X : Er → En S → Prop) (as : List Arg) (e : En S) : Prop := wCallF n fn as e Q X
@[simp] theorem kCallF_e {Q : List Mi.D → En S → Prop} (n : Nat) (fn : List Arg → S → FO S) (as : List Arg) : kCallF n fn Q X as e = wCallF n fn as e Q X := (rfl)
@[simp] theorem wp_mCallF {Q : List Mi.D → En S → Prop} (n : Nat) (fn : List Arg → S → FO S) (g : M S (List Arg)) : wp (mCallF n fn g) e Q X = wp g e (kCallF n fn Q X) X := by
  unfold mCallF kCallF wCallF Fn
  rw [wp_bnd]
  congr 1
  funext as e1
  unfold wp
  dsimp only
  by_cases h : as.length = n
  · rw [if_pos h]
    simp only [h, true_and]
    cases q : fn as e1.st with
    | val r s1 => cases r <;> simp [outF]
    | exc x s1 => simp [outF]
    | stuck => simp [outF]
  · rw [if_neg h]; simp [h]
theorem wCallF_of {n : Nat} {fn : List Arg → S → FO S} {as : List Arg} {Q : List Mi.D → En S → Prop} {P : R → S → Prop} {E : Er → S → Prop} (h : Fn fn as e.st P E) (k : ∀ r s1, P r s1 → ∃ xs, r = .fr xs ∧ Q xs { e with st := s1 }) (kx : ∀ x s1, E x s1 → X x { e with st := s1 }) (hl : as.length = n := by rfl) : wCallF n fn as e Q X := ⟨hl, h.imp k kx⟩
theorem wCallF_val {n : Nat} {fn : List Arg → S → FO S} {as : List Arg} {Q : List Mi.D → En S → Prop} {P : R → S → Prop} (h : Fn fn as e.st P fun _ _ => False) (k : ∀ r s1, P r s1 → ∃ xs, r = .fr xs ∧ Q xs { e with st := s1 }) (hl : as.length = n := by rfl) : wCallF n fn as e Q X := wCallF_of h k (fun _ _ z => z.elim) hl
theorem Fn_liftE {fn : List Arg → Unit → FO Unit} {as : List Arg} {s : S} {P : R → Prop} (h : Fn fn as () (fun r _ => P r) fun _ _ => False) (ht : noTok as = true := by rfl) : Fn (lift fn) as s (fun r s1 => P r ∧ s1 = s) fun _ _ => False :=
  Fn_lift (h.imp (fun _ _ q => ⟨q, rfl⟩) fun _ _ z => z) ht
theorem wCallF_lift {n : Nat} {fn : List Arg → Unit → FO Unit} {as : List Arg} {Q : List Mi.D → En S → Prop} {P : R → Prop} (h : Fn fn as () (fun r _ => P r) fun _ _ => False) (k : ∀ r, P r → ∃ xs, r = .fr xs ∧ Q xs e) (ht : noTok as = true := by rfl) (hl : as.length = n := by rfl) : wCallF n (lift fn) as e Q X :=
  wCallF_val (Fn_liftE h ht) (fun r s1 ⟨q1, q2⟩ => by subst q2; exact k r q1) hl
theorem wCB_lift {n : Nat} {fn : List Arg → Unit → FO Unit} {as : List Arg} {Q : Mi.D → En S → Prop} {P : R → Prop} (h : Fn fn as () (fun r _ => P r) fun _ _ => False) (k : ∀ r, P r → ∃ d, r = .sh d ∧ scal d = true ∧ Q d e) (ht : noTok as = true := by rfl) (hl : as.length = n := by rfl) : wCB n (lift fn) as e Q :=
  wCB_of (Fn_liftE h ht) (fun r s1 ⟨q1, q2⟩ => by subst q2; exact k r q1) hl
end
end Mi
set_option maxHeartbeats 4000000
namespace Mi
open PySem PySem.Spec PyProof.Rows L2
/-! ### dicts of the frame's own -/
section
variable {κ : Type} [DecidableEq κ]
def valD (kvs : List (κ × Mi.D)) (k : κ) : Option Mi.D := (kvs.find? fun kv => decide (kv.1 = k)).map (·.2)
def putD (kvs : List (κ × Mi.D)) (k : κ) (v : Mi.D) : List (κ × Mi.D) :=
  if (kvs.any fun kv => decide (kv.1 = k)) = true then kvs.map (fun kv => if kv.1 = k then (kv.1, v) else kv) else kvs ++ [(k, v)]
theorem KvR.val {F : Hp} {vs : List (κ × V)} {ds : List (κ × Mi.D)} (h : KvR F vs ds) (k : κ) : match valD ds k with
    | none => valV vs k = none
    | some d => ∃ v, valV vs k = some v ∧ Rp F v d := by
  induction h with
  | nil => rfl
  | @cons p q vs ds h1 _ ih =>
    unfold valD valV
    by_cases e : q.1 = k
    · have e' : p.1 = k := h1.1.trans e
      simp [List.find?_cons, e, e']
      exact h1.2
    · have e' : ¬ p.1 = k := fun z => e (h1.1.symm.trans z)
      simp [List.find?_cons, e, e']
      simpa [valD, valV] using ih
theorem KvR.any {F : Hp} {vs : List (κ × V)} {ds : List (κ × Mi.D)} (h : KvR F vs ds) (k : κ) : (vs.any fun kv => decide (kv.1 = k)) = ds.any fun kv => decide (kv.1 = k) := by
  induction h with
  | nil => rfl
  | @cons p q vs ds h1 _ ih => simp only [List.any_cons, ih, h1.1]
theorem KvR.len {F : Hp} {vs : List (κ × V)} {ds : List (κ × Mi.D)} (h : KvR F vs ds) : vs.length = ds.length := Paired.length h
theorem KvR.app {F : Hp} {vs vs' : List (κ × V)} {ds ds' : List (κ × Mi.D)} (h : KvR F vs ds) (h' : KvR F vs' ds') : KvR F (vs ++ vs') (ds ++ ds') := by
  induction h with
  | nil => exact h'
  | cons h1 _ ih => exact .cons h1 ih
theorem KvR.mapK {F : Hp} {vs : List (κ × V)} {ds : List (κ × Mi.D)} (h : KvR F vs ds) {k : κ} {v : V} {d : Mi.D} (r : Rp F v d) : KvR F (vs.map fun kv => if kv.1 = k then (kv.1, v) else kv) (ds.map fun kv => if kv.1 = k then (kv.1, d) else kv) := by
  induction h with
  | nil => exact .nil
  | @cons p q vs ds h1 _ ih =>
    refine .cons ?_ ih
    by_cases e : q.1 = k
    · have e' : p.1 = k := h1.1.trans e
      simp only [e, e', if_true]
      exact ⟨trivial, r⟩
    · have e' : ¬ p.1 = k := fun z => e (h1.1.symm.trans z)
      simp only [e, e', if_false]
      exact h1
theorem KvR.put {F : Hp} {vs : List (κ × V)} {ds : List (κ × Mi.D)} (h : KvR F vs ds) {k : κ} {v : V} {d : Mi.D} (r : Rp F v d) : KvR F (putK vs k v) (putD ds k d) := by
  unfold putK putD
  rw [h.any k]
  split
  · exact h.mapK r
  · exact h.app (.cons ⟨rfl, r⟩ .nil)
end
def keyD : Mi.D → Option Key
  | .int i => some (.inl i)
  | .str x => some (.inr x)
  | _ => none
def keyDs : List Mi.D → Option (List Key)
  | [] => some []
  | d :: ds => match keyD d, keyDs ds with
    | some k, some ks => some (k :: ks)
    | _, _ => none
def keyT : Mi.D → Option (List Key)
  | .tuple ds => keyDs ds
  | _ => none
theorem keyD_ok {F : Hp} {v : V} {d : Mi.D} {k : Key} (h : keyD d = some k) (r : Rp F v d) : v = kV k := by
  cases r <;> cases h <;> rfl
theorem keyDs_ok {F : Hp} : ∀ {vs : List V} {ds : List Mi.D} {ks : List Key}, keyDs ds = some ks → RpA F vs ds → vs = ks.map kV
  | _, [], _, h, r => by cases r; cases h; rfl
  | _, d :: ds, _, h, r => by
    cases r with
    | cons r1 r2 =>
      unfold keyDs at h
      split at h
      · rename_i k ks h1 h2
        cases h
        rw [keyD_ok h1 r1, keyDs_ok h2 r2]
        rfl
      · cases h
def odGet : OD → Mi.D → Option (Option Mi.D)
  | .dk kvs, d => (keyD d).map (valD kvs)
  | .dt kvs, d => (keyT d).map (valD kvs)
  | _, _ => none
def odPut : OD → Mi.D → Mi.D → Option OD
  | .dk kvs, d, v => if kvs.length < sizeLine then (keyD d).map fun k => .dk (putD kvs k v) else none
  | .dt kvs, d, v => if kvs.length < sizeLine then (keyT d).map fun k => .dt (putD kvs k v) else none
  | _, _, _ => none
theorem odGet_ok {F H : Hp} {p : Addr} {u : HO} {o : OD} {d : Mi.D} {y : V} {r : Option Mi.D} (x : Ex F H) (hp : H p = some u) (ho : OdR F u o) (ry : Rp F y d) (h : odGet o d = some r) :
    match r with
    | none => DGet H p y none
    | some z => ∃ v, DGet H p y (some v) ∧ Rp F v z := by
  cases o with
  | dk kvs =>
    obtain ⟨vs, rfl, hk⟩ := ho.dk_inv
    unfold odGet at h
    obtain ⟨k, h1, h2⟩ := Option.map_eq_some_iff.mp h
    rw [keyD_ok h1 ry]
    have := hk.val k
    rw [h2] at this
    have g := DGet.k (k := k) hp
    cases r with
    | none => dsimp only at this ⊢; rw [this] at g; exact g
    | some z => obtain ⟨v, h3, h4⟩ := this; rw [h3] at g; exact ⟨v, g, h4⟩
  | dt kvs =>
    obtain ⟨vs, rfl, hk⟩ := ho.dt_inv
    unfold odGet at h
    obtain ⟨k, h1, h2⟩ := Option.map_eq_some_iff.mp h
    unfold keyT at h1
    split at h1
    · rename_i ds
      cases ry with
      | tup g1 g2 =>
        rw [keyDs_ok h1 g2] at g1
        have := hk.val k
        rw [h2] at this
        have g := DGet.t (k := k) hp (x _ _ g1)
        cases r with
        | none => dsimp only at this ⊢; rw [this] at g; exact g
        | some z => obtain ⟨v, h3, h4⟩ := this; rw [h3] at g; exact ⟨v, g, h4⟩
    · cases h1
  | lst _ => cases h
  | st _ => cases h
theorem odPut_ok {F H : Hp} {p : Addr} {u : HO} {o o2 : OD} {d z : Mi.D} {y v : V} (x : Ex F H) (hp : H p = some u) (ho : OdR F u o) (ry : Rp F y d) (rv : Rp F v z) (h : odPut o d z = some o2) :
    ∃ u2, DPut H p y v (upd H p u2) ∧ OdR F u2 o2 := by
  cases o with
  | dk kvs =>
    obtain ⟨vs, rfl, hk⟩ := ho.dk_inv
    change (if kvs.length < sizeLine then (keyD d).map (fun k => OD.dk (putD kvs k z)) else none) = some o2 at h
    split at h
    · rename_i hl
      obtain ⟨k, h1, rfl⟩ := Option.map_eq_some_iff.mp h
      rw [keyD_ok h1 ry]
      exact ⟨.dK (putK vs k v), DPut.k hp (by rw [hk.len]; exact hl), hk.put rv⟩
    · cases h
  | dt kvs =>
    obtain ⟨vs, rfl, hk⟩ := ho.dt_inv
    change (if kvs.length < sizeLine then (keyT d).map (fun k => OD.dt (putD kvs k z)) else none) = some o2 at h
    split at h
    · rename_i hl
      obtain ⟨k, h1, rfl⟩ := Option.map_eq_some_iff.mp h
      unfold keyT at h1
      split at h1
      · rename_i ds
        cases ry with
        | tup g1 g2 =>
          rw [keyDs_ok h1 g2] at g1
          exact ⟨.dT (putK vs k v), DPut.t hp (x _ _ g1) (by rw [hk.len]; exact hl), hk.put rv⟩
      · cases h1
    · cases h
  | lst _ => cases h
  | st _ => cases h
/-- the own object of a slot -/
def obAt {S : Type} (i : Nat) (e : En S) : Option OD := match e.sl[i]? with
  | some (.ob o) => some o
  | _ => none
theorem obAt_ok {S : Type} {i : Nat} {e : En S} {o : OD} (h : obAt i e = some o) : e.sl[i]? = some (.ob o) := by
  unfold obAt at h
  split at h
  · cases h; assumption
  · cases h
section
variable {P : Pm} {X : Cx} {W : WX} {α β : Type} {e e1 : En P.B.S} {σ : St} {F H F1 H1 : Hp} {pos : Pos} {D : Ends}
theorem EOk.obAt (k : EOk P e σ F H) {i : Nat} {o : OD} (h : Mi.obAt i e = some o) : ∃ p u, σ[i]? = some (some (.ref p)) ∧ H p = some u ∧ OdR F u o := by
  obtain ⟨p, u, q1, q2, _, _, _, q6⟩ := k.ow i o (obAt_ok h)
  exact ⟨p, u, q1, q2, q6⟩
/-! x = {} -/
def mNewD {S : Type} (i : Nat) (t : Bool) : M S Fl := fun e => .ok .nx { e with sl := e.sl.set i (.ob (if t then .dt [] else .dk [])) }
theorem s_newDK {i : Nat} {x : Str} {p p2 : Pos} (hN : X.N.Nodup) (hi : X.N[i]? = some x := by rfl) (hx : Loc X.env.scope x := by first | exact Or.inl rfl | exact Or.inr rfl)
    (hs : swapsWith (.Dict [] [] p2) (some (.Name x p)) pos.line X.env = pure false := by rfl) (hf : X.fn x = true ∨ X.env.scope.names.lookup x = some .local := by first | exact .inl rfl | exact .inr rfl) : XS P X W (.Assign [.Name x p] (.Dict [] [] p2) pos) (mNewD i false) :=
  ps_imp (ps_set hN hi hx pe_dnewK hs hf) fun D σ H ⟨F, e, k, h⟩ p np => by
    obtain ⟨k1, s1⟩ := k.grow (Ex.new np) (Ext.layO (o := .dK []) k.ext.fh np)
    obtain ⟨f1, f2, f3, f4⟩ := k.fresh np
    exact h _ F _ (k1.putOb (o := .dk []) upd_same f1 f2 f3 f4 .nil) (Ex.refl _)
theorem s_newDT {i : Nat} {x : Str} {p p2 : Pos} (hN : X.N.Nodup) (hi : X.N[i]? = some x := by rfl) (hx : Loc X.env.scope x := by first | exact Or.inl rfl | exact Or.inr rfl)
    (hs : swapsWith (.Dict [] [] p2) (some (.Name x p)) pos.line X.env = pure false := by rfl) (hf : X.fn x = true ∨ X.env.scope.names.lookup x = some .local := by first | exact .inl rfl | exact .inr rfl) : XS P X W (.Assign [.Name x p] (.Dict [] [] p2) pos) (mNewD i true) :=
  ps_imp (ps_set hN hi hx pe_dnewT hs hf) fun D σ H ⟨F, e, k, h⟩ p np => by
    obtain ⟨k1, s1⟩ := k.grow (Ex.new np) (Ext.layO (o := .dT []) k.ext.fh np)
    obtain ⟨f1, f2, f3, f4⟩ := k.fresh np
    exact h _ F _ (k1.putOb (o := .dt []) upd_same f1 f2 f3 f4 .nil) (Ex.refl _)
/-! k in d, k not in d -/
def mDIn {S : Type} (i : Nat) (f : M S Mi.D) : M S Mi.D := bnd f fun d e => match obAt i e with
  | some o => (match odGet o d with
    | some r => .ok (.bool r.isSome) e
    | none => .stuck)
  | none => .stuck
def mDNot {S : Type} (i : Nat) (f : M S Mi.D) : M S Mi.D := bnd f fun d e => match obAt i e with
  | some o => (match odGet o d with
    | some r => .ok (.bool (!r.isSome)) e
    | none => .stuck)
  | none => .stuck
theorem im_dIn {i : Nat} {f : M P.B.S Mi.D} {Q : VK} (h : tX P W (mDIn i f) σ H Q) : tDIn (tX P W f) (tVar i) σ H Q := by
  obtain ⟨F, e, k, h⟩ := h
  refine tX_of k h fun d e1 F1 H1 v k1 s1 r1 h1 => ?_
  cases z : Mi.obAt i e1 with
  | none => rw [z] at h1; exact h1.elim
  | some o =>
    rw [z] at h1
    dsimp only at h1
    cases g : odGet o d with
    | none => rw [g] at h1; exact h1.elim
    | some r =>
      rw [g] at h1
      obtain ⟨p, u, q1, q2, q3⟩ := k1.obAt z
      have := odGet_ok k1.ext.fh q2 q3 r1 g
      refine ⟨_, q1, p, ?_⟩
      cases r with
      | none => exact ⟨none, rfl, this, h1 F1 H1 k1 Step.refl _ (.bl _)⟩
      | some z => obtain ⟨v, g1, _⟩ := this; exact ⟨some v, rfl, g1, h1 F1 H1 k1 Step.refl _ (.bl _)⟩
theorem im_dNot {i : Nat} {f : M P.B.S Mi.D} {Q : VK} (h : tX P W (mDNot i f) σ H Q) : tDNotIn (tX P W f) (tVar i) σ H Q := by
  obtain ⟨F, e, k, h⟩ := h
  refine tX_of k h fun d e1 F1 H1 v k1 s1 r1 h1 => ?_
  cases z : Mi.obAt i e1 with
  | none => rw [z] at h1; exact h1.elim
  | some o =>
    rw [z] at h1
    dsimp only at h1
    cases g : odGet o d with
    | none => rw [g] at h1; exact h1.elim
    | some r =>
      rw [g] at h1
      obtain ⟨p, u, q1, q2, q3⟩ := k1.obAt z
      have := odGet_ok k1.ext.fh q2 q3 r1 g
      refine ⟨_, q1, p, ?_⟩
      cases r with
      | none => exact ⟨none, rfl, this, h1 F1 H1 k1 Step.refl _ (.bl _)⟩
      | some z => obtain ⟨v, g1, _⟩ := this; exact ⟨some v, rfl, g1, h1 F1 H1 k1 Step.refl _ (.bl _)⟩
theorem x_dIn (i : Nat) {x : Str} {a : Expr} {p : Pos} {f : M P.B.S Mi.D} (hu : X.A.units + 1 < cLine) (ha : XE P X W a f) (hN : X.N[i]? = some x := by rfl)
    (hv : Vis X.env.scope x := by first | exact Or.inl rfl | exact Or.inr (Or.inl rfl) | exact Or.inr (Or.inr rfl)) (hm : behindInMarks .In (.Name x p) = false := by rfl) (hd : (x == ("__debug__" : Str)) = false := by decide) (hcd : (x == ("__classdict__" : Str)) = false := by decide) :
    XE P X W (.Compare a [.In] [.Name x p] pos) (mDIn i f) := pe_imp (pe_cmp (pc_din hu ha (pe_var hN hv hd hcd)) hm) fun _ _ _ h => im_dIn h
theorem x_dNot (i : Nat) {x : Str} {a : Expr} {p : Pos} {f : M P.B.S Mi.D} (hu : X.A.units + 1 < cLine) (ha : XE P X W a f) (hN : X.N[i]? = some x := by rfl)
    (hv : Vis X.env.scope x := by first | exact Or.inl rfl | exact Or.inr (Or.inl rfl) | exact Or.inr (Or.inr rfl)) (hm : behindInMarks .NotIn (.Name x p) = false := by rfl) (hd : (x == ("__debug__" : Str)) = false := by decide) (hcd : (x == ("__classdict__" : Str)) = false := by decide) :
    XE P X W (.Compare a [.NotIn] [.Name x p] pos) (mDNot i f) := pe_imp (pe_cmp (pc_dnotin hu ha (pe_var hN hv hd hcd)) hm) fun _ _ _ h => im_dNot h
theorem t_dIn (i : Nat) {x : Str} {a : Expr} {p : Pos} {f : M P.B.S Mi.D} (hu : X.A.units + 1 < cLine) (ha : XE P X W a f) (hN : X.N[i]? = some x := by rfl)
    (hv : Vis X.env.scope x := by first | exact Or.inl rfl | exact Or.inr (Or.inl rfl) | exact Or.inr (Or.inr rfl)) (hm : behindInMarks .In (.Name x p) = false := by rfl) (hd : (x == ("__debug__" : Str)) = false := by decide) (hcd : (x == ("__classdict__" : Str)) = false := by decide) :
    XT P X W (.Compare a [.In] [.Name x p] pos) (asB (mDIn i f)) := pt_imp (pt_cmp (pc_din hu ha (pe_var hN hv hd hcd)) hm) fun σ H Q h => im_tst (t := tDIn (tX P W f) (tVar i)) (fun _ _ _ z => im_dIn z) σ H Q h
theorem t_dNot (i : Nat) {x : Str} {a : Expr} {p : Pos} {f : M P.B.S Mi.D} (hu : X.A.units + 1 < cLine) (ha : XE P X W a f) (hN : X.N[i]? = some x := by rfl)
    (hv : Vis X.env.scope x := by first | exact Or.inl rfl | exact Or.inr (Or.inl rfl) | exact Or.inr (Or.inr rfl)) (hm : behindInMarks .NotIn (.Name x p) = false := by rfl) (hd : (x == ("__debug__" : Str)) = false := by decide) (hcd : (x == ("__classdict__" : Str)) = false := by decide) :
    XT P X W (.Compare a [.NotIn] [.Name x p] pos) (asB (mDNot i f)) := pt_imp (pt_cmp (pc_dnotin hu ha (pe_var hN hv hd hcd)) hm) fun σ H Q h => im_tst (t := tDNotIn (tX P W f) (tVar i)) (fun _ _ _ z => im_dNot z) σ H Q h
/-! d[k] -/
def withOb {S α : Type} (i : Nat) (m : M S α) : M S α := fun e => match obAt i e with
  | some _ => m e
  | none => .stuck
theorem withOb_of {i : Nat} {m : M P.B.S α} {G : α → En P.B.S → Hp → Hp → Prop} (k : EOk P e σ F H) (h : Sat P W e σ F H (withOb i m e) G) : ∃ p, σ[i]? = some (some (.ref p)) ∧ Sat P W e σ F H (m e) G := by
  unfold withOb at h
  cases q : Mi.obAt i e with
  | none => rw [q] at h; exact h.elim
  | some o =>
    rw [q] at h
    obtain ⟨p, u, q1, _⟩ := k.obAt q
    exact ⟨p, q1, h⟩
theorem SatS.withOb_of {i : Nat} {m : M P.B.S Fl} (k : EOk P e σ F H) (h : SatS P W F D (withOb i m e)) : ∃ p, σ[i]? = some (some (.ref p)) ∧ SatS P W F D (m e) := by
  unfold withOb at h
  cases q : Mi.obAt i e with
  | none => rw [q] at h; exact h.elim
  | some o =>
    rw [q] at h
    obtain ⟨p, u, q1, _⟩ := k.obAt q
    exact ⟨p, q1, h⟩
def mDGet {S : Type} (i : Nat) (f : M S Mi.D) : M S Mi.D := withOb i (bnd f fun d e => match obAt i e with
  | some o => (match odGet o d with
    | some (some z) => .ok z e
    | _ => .stuck)
  | none => .stuck)
theorem x_dGet (i : Nat) {x : Str} {b : Expr} {f : M P.B.S Mi.D} {p : Pos} (hu : X.A.units + 1 < cLine) (hb : XE P X W b f) (hN : X.N[i]? = some x := by rfl) (hv : Vis X.env.scope x := by first | exact Or.inl rfl | exact Or.inr (Or.inl rfl) | exact Or.inr (Or.inr rfl)) (hs : NoSl b := by exact fun _ _ => rfl)
    (hd : (x == ("__debug__" : Str)) = false := by decide) (hcd : (x == ("__classdict__" : Str)) = false := by decide) : XE P X W (.Subscript (.Name x p) b pos) (mDGet i f) :=
  pe_imp (pe_dget hu (pe_var hN hv hd hcd) hb hs) fun σ H Q ⟨F, e, k, h⟩ => by
    obtain ⟨p, q1, h⟩ := withOb_of k h
    refine ⟨_, q1, tX_of k h fun d1 e1 F1 H1 v1 k1 s1 r1 h1 => ?_⟩
    cases z : Mi.obAt i e1 with
    | none => rw [z] at h1; exact h1.elim
    | some o =>
      rw [z] at h1
      dsimp only at h1
      obtain ⟨p', u, g1, g2, g3⟩ := k1.obAt z
      rw [q1] at g1
      cases g1
      cases g : odGet o d1 with
      | none => rw [g] at h1; exact h1.elim
      | some r =>
        rw [g] at h1
        have := odGet_ok k1.ext.fh g2 g3 r1 g
        cases r with
        | none => exact h1.elim
        | some z => obtain ⟨v, w1, w2⟩ := this; exact ⟨p, v, rfl, w1, h1 F1 H1 k1 Step.refl v w2⟩
/-! d[k] = v -/
def mDPut {S : Type} (i : Nat) (fe fi : M S Mi.D) : M S Fl := bnd fe fun v => withOb i (bnd fi fun k e => match obAt i e with
  | some o => (match odPut o k v with
    | some o2 => .ok .nx { e with sl := e.sl.set i (.ob o2) }
    | none => .stuck)
  | none => .stuck)
theorem s_dPut (i : Nat) {x : Str} {p spos : Pos} {ix a : Expr} {fe fi : M P.B.S Mi.D} (hu : X.A.units + 1 < cLine) (h : XE P X W a fe) (hi : XE P X W ix fi) (hN : X.N[i]? = some x := by rfl)
    (hy : Vis X.env.scope x := by first | exact Or.inl rfl | exact Or.inr (Or.inl rfl) | exact Or.inr (Or.inr rfl)) (hd : (x == ("__debug__" : Str)) = false := by decide) (hcd : (x == ("__classdict__" : Str)) = false := by decide)
    (hs : swapsWith a (some (.Subscript (.Name x p) ix spos)) pos.line X.env = pure false := by rfl) : XS P X W (.Assign [.Subscript (.Name x p) ix spos] a pos) (mDPut i fe fi) :=
  ps_imp (ps_dput hu (pe_var hN hy hd hcd) hi h hs) fun D σ H ⟨F, e, k, h⟩ => sX_of k h fun d e1 F1 H1 v k1 s1 r1 h1 => by
    obtain ⟨p, q1, h1⟩ := h1.withOb_of k1
    refine ⟨_, q1, sX_of k1 h1 fun d2 e2 F2 H2 v2 k2 s2 r2 h2 => ?_⟩
    cases z : Mi.obAt i e2 with
    | none => rw [z] at h2; exact h2.elim
    | some o =>
      rw [z] at h2
      dsimp only at h2
      obtain ⟨p', u, g1, g2, g3⟩ := k2.obAt z
      rw [q1] at g1
      cases g1
      cases g : odPut o d2 d with
      | none => rw [g] at h2; exact h2.elim
      | some o2 =>
        rw [g] at h2
        obtain ⟨u2, w1, w2⟩ := odPut_ok k2.ext.fh g2 g3 r2 (s2.ff.dp _ _ r1) g
        refine ⟨p, _, rfl, w1, ?_⟩
        obtain ⟨k3, s3⟩ := k2.mutOb (ys := o2) (zs := u2) (obAt_ok z) q1 w2
        exact h2 σ F2 _ k3 (Ex.refl _)
/-! the truth of a value -/
def truD : Mi.D → Option Bool
  | .none => some false
  | .bool b => some b
  | .int i => some (i != 0)
  | .str y => if y.length ≤ sizeLine then some ((y.length : Int) != 0) else none
  | .list xs => some (!xs.isEmpty)
  | .tuple xs => some (!xs.isEmpty)
  | .dict _ => none
def asTr {S : Type} (f : M S Mi.D) : M S Bool := bnd f fun d => lft (truD d)
theorem rpA_empty {vs : List V} {ds : List Mi.D} (r : RpA F vs ds) : vs.isEmpty = ds.isEmpty := by
  cases r <;> rfl
theorem t_tru {a : Expr} {f : M P.B.S Mi.D} (h : XE P X W a f) (he : ∀ whole, isTrue a X.env whole = (do let v ← whole; standAt a.pos; holding [v] (truthy v)) := by intro _; rfl) : XT P X W a (asTr f) :=
  pt_imp (pt_truth h he) fun σ H Q ⟨F, e, k, h⟩ => tX_of k h fun d e1 F1 H1 v k1 s1 r1 h1 => by
    obtain ⟨b, hb, h2⟩ := h1.lft
    refine ⟨b, ?_, h2 F1 H1 k1 Step.refl⟩
    cases r1 with
    | non => cases hb; rfl
    | bl c => cases hb; rfl
    | int i => cases hb; rfl
    | str x =>
      change (if x.length ≤ sizeLine then some ((x.length : Int) != 0) else none) = some b at hb
      split at hb
      · rename_i hl; cases hb; exact ⟨hl, rfl⟩
      · cases hb
    | lst g1 g2 => cases hb; exact .inl ⟨_, .of (k1.ext.fh _ _ g1), by rw [rpA_empty g2]⟩
    | tup g1 g2 => cases hb; exact .inr (.inl ⟨_, .of (k1.ext.fh _ _ g1), by rw [rpA_empty g2]⟩)
/-- .. of an own object -/
def odTru : OD → Option Bool
  | .lst xs => some (!xs.isEmpty)
  | .dk kvs => some (!kvs.isEmpty)
  | _ => none
def mTruO {S : Type} (i : Nat) : M S Bool := fun e => match obAt i e with
  | some o => lft (odTru o) e
  | none => .stuck
theorem t_truO (i : Nat) {x : Str} {p : Pos} (hN : X.N[i]? = some x := by rfl) (hv : Vis X.env.scope x := by first | exact Or.inl rfl | exact Or.inr (Or.inl rfl) | exact Or.inr (Or.inr rfl))
    (hd : (x == ("__debug__" : Str)) = false := by decide) (hcd : (x == ("__classdict__" : Str)) = false := by decide) (he : ∀ whole, isTrue (.Name x p) X.env whole = (do let v ← whole; standAt (Expr.pos (.Name x p)); holding [v] (truthy v)) := by intro _; rfl) : XT P X W (.Name x p) (mTruO i) :=
  pt_imp (pt_truth (pe_var hN hv hd hcd) he) fun σ H Q ⟨F, e, k, h⟩ => by
    unfold mTruO at h
    cases z : Mi.obAt i e with
    | none => rw [z] at h; exact h.elim
    | some o =>
      rw [z] at h
      obtain ⟨p, u, g1, g2, g3⟩ := k.obAt z
      obtain ⟨b, hb, h2⟩ := h.lft
      refine ⟨_, g1, b, ?_, h2 F H k Step.refl⟩
      cases o with
      | lst xs =>
        obtain ⟨vs, rfl, r⟩ := g3.lst_inv
        cases hb
        exact .inl ⟨_, .of g2, by rw [rpA_empty r]⟩
      | dk kvs =>
        obtain ⟨vs, rfl, r⟩ := g3.dk_inv
        cases hb
        refine .inr (.inr ⟨_, g2, ?_⟩)
        cases r <;> rfl
      | _ => cases hb
/-- len of an own dict -/
def mDLen {S : Type} (i : Nat) : M S Mi.D := fun e => match obAt i e with
  | some (.dk kvs) => .ok (.int kvs.length) e
  | _ => .stuck
end
/-! ### their rules -/
section
variable {S α β : Type} {e e' : En S} {X : Er → En S → Prop}
def wOb (o : Option Slot) (Q : OD → Prop) : Prop := match o with
  | some (.ob o) => Q o
  | _ => False
@[simp] theorem wOb_ob (o : OD) (Q : OD → Prop) : wOb (some (.ob o)) Q = Q o := (rfl)
theorem obAt_wOb {i : Nat} {Q : OD → Prop} : (match obAt i e with | some o => Q o | none => False) = wOb e.sl[i]? Q := by
  unfold obAt wOb
  cases e.sl[i]? with
  | none => rfl
  | some s => cases s <;> rfl
@[simp] theorem wp_mNewD {Q : Fl → En S → Prop} (i : Nat) (t : Bool) : wp (mNewD i t) e Q X = Q .nx { e with sl := e.sl.set i (.ob (if t then .dt [] else .dk [])) } := (rfl)
def kDIn2 (Q : Mi.D → En S → Prop) (d : Mi.D) (e : En S) (o : OD) : Prop := wO (odGet o d) fun r => Q (.bool r.isSome) e
@[simp] theorem kDIn2_e (Q : Mi.D → En S → Prop) (d : Mi.D) (o : OD) : kDIn2 Q d e o = wO (odGet o d) fun r => Q (.bool r.isSome) e := (rfl)
def kDIn (i : Nat) (Q : Mi.D → En S → Prop) (d : Mi.D) (e : En S) : Prop := wOb e.sl[i]? (kDIn2 Q d e)
@[simp] theorem kDIn_e (i : Nat) (Q : Mi.D → En S → Prop) (d : Mi.D) : kDIn i Q d e = wOb e.sl[i]? (kDIn2 Q d e) := (rfl)
@[simp] theorem wp_mDIn {Q : Mi.D → En S → Prop} (i : Nat) (f : M S Mi.D) : wp (mDIn i f) e Q X = wp f e (kDIn i Q) X := by
  unfold mDIn; rw [wp_bnd]; congr 1; funext d e1; rw [kDIn_e, ← obAt_wOb]; unfold wp
  dsimp only
  cases obAt i e1 with
  | none => rfl
  | some o => dsimp only; rw [kDIn2_e]; unfold wO; cases odGet o d <;> rfl
def kDNot2 (Q : Mi.D → En S → Prop) (d : Mi.D) (e : En S) (o : OD) : Prop := wO (odGet o d) fun r => Q (.bool (!r.isSome)) e
@[simp] theorem kDNot2_e (Q : Mi.D → En S → Prop) (d : Mi.D) (o : OD) : kDNot2 Q d e o = wO (odGet o d) fun r => Q (.bool (!r.isSome)) e := (rfl)
def kDNot (i : Nat) (Q : Mi.D → En S → Prop) (d : Mi.D) (e : En S) : Prop := wOb e.sl[i]? (kDNot2 Q d e)
@[simp] theorem kDNot_e (i : Nat) (Q : Mi.D → En S → Prop) (d : Mi.D) : kDNot i Q d e = wOb e.sl[i]? (kDNot2 Q d e) := (rfl)
@[simp] theorem wp_mDNot {Q : Mi.D → En S → Prop} (i : Nat) (f : M S Mi.D) : wp (mDNot i f) e Q X = wp f e (kDNot i Q) X := by
  unfold mDNot; rw [wp_bnd]; congr 1; funext d e1; rw [kDNot_e, ← obAt_wOb]; unfold wp
  dsimp only
  cases obAt i e1 with
  | none => rfl
  | some o => dsimp only; rw [kDNot2_e]; unfold wO; cases odGet o d <;> rfl
def kDGt4 (Q : Mi.D → En S → Prop) (e : En S) (r : Option Mi.D) : Prop := wO r (kO Q e)
@[simp] theorem kDGt4_e (Q : Mi.D → En S → Prop) (r : Option Mi.D) : kDGt4 Q e r = wO r (kO Q e) := (rfl)
def kDGt3 (Q : Mi.D → En S → Prop) (d : Mi.D) (e : En S) (o : OD) : Prop := wO (odGet o d) (kDGt4 Q e)
@[simp] theorem kDGt3_e (Q : Mi.D → En S → Prop) (d : Mi.D) (o : OD) : kDGt3 Q d e o = wO (odGet o d) (kDGt4 Q e) := (rfl)
def kDGt2 (i : Nat) (Q : Mi.D → En S → Prop) (d : Mi.D) (e : En S) : Prop := wOb e.sl[i]? (kDGt3 Q d e)
@[simp] theorem kDGt2_e (i : Nat) (Q : Mi.D → En S → Prop) (d : Mi.D) : kDGt2 i Q d e = wOb e.sl[i]? (kDGt3 Q d e) := (rfl)
def kDGt1 (i : Nat) (f : M S Mi.D) (Q : Mi.D → En S → Prop) (X : Er → En S → Prop) (e : En S) (_ : OD) : Prop := wp f e (kDGt2 i Q) X
@[simp] theorem kDGt1_e (i : Nat) (f : M S Mi.D) (Q : Mi.D → En S → Prop) (o : OD) : kDGt1 i f Q X e o = wp f e (kDGt2 i Q) X := (rfl)
@[simp] theorem wp_mDGet {Q : Mi.D → En S → Prop} (i : Nat) (f : M S Mi.D) : wp (mDGet i f) e Q X = wOb e.sl[i]? (kDGt1 i f Q X e) := by
  unfold mDGet withOb
  rw [← obAt_wOb]
  unfold wp
  dsimp only
  cases obAt i e with
  | none => rfl
  | some o =>
    dsimp only
    rw [kDGt1_e]
    show wp (bnd f _) e Q X = _
    rw [wp_bnd]; congr 1; funext d e2
    rw [kDGt2_e, ← obAt_wOb]
    unfold wp
    dsimp only
    cases obAt i e2 with
    | none => rfl
    | some o2 =>
      dsimp only
      rw [kDGt3_e]
      unfold wO
      cases odGet o2 d with
      | none => rfl
      | some r => dsimp only; rw [kDGt4_e]; cases r <;> rfl
def kDPt4 (i : Nat) (Q : Fl → En S → Prop) (e : En S) (o : OD) : Prop := Q .nx { e with sl := e.sl.set i (.ob o) }
@[simp] theorem kDPt4_e (i : Nat) (Q : Fl → En S → Prop) (o : OD) : kDPt4 i Q e o = Q .nx { e with sl := e.sl.set i (.ob o) } := (rfl)
def kDPt3 (i : Nat) (Q : Fl → En S → Prop) (v k : Mi.D) (e : En S) (o : OD) : Prop := wO (odPut o k v) (kDPt4 i Q e)
@[simp] theorem kDPt3_e (i : Nat) (Q : Fl → En S → Prop) (v k : Mi.D) (o : OD) : kDPt3 i Q v k e o = wO (odPut o k v) (kDPt4 i Q e) := (rfl)
def kDPt2 (i : Nat) (Q : Fl → En S → Prop) (v k : Mi.D) (e : En S) : Prop := wOb e.sl[i]? (kDPt3 i Q v k e)
@[simp] theorem kDPt2_e (i : Nat) (Q : Fl → En S → Prop) (v k : Mi.D) : kDPt2 i Q v k e = wOb e.sl[i]? (kDPt3 i Q v k e) := (rfl)
def kDPt1 (i : Nat) (fi : M S Mi.D) (Q : Fl → En S → Prop) (X : Er → En S → Prop) (v : Mi.D) (e : En S) (_ : OD) : Prop := wp fi e (kDPt2 i Q v) X
@[simp] theorem kDPt1_e (i : Nat) (fi : M S Mi.D) (Q : Fl → En S → Prop) (v : Mi.D) (o : OD) : kDPt1 i fi Q X v e o = wp fi e (kDPt2 i Q v) X := (rfl)
def kDPt (i : Nat) (fi : M S Mi.D) (Q : Fl → En S → Prop) (X : Er → En S → Prop) (v : Mi.D) (e : En S) : Prop := wOb e.sl[i]? (kDPt1 i fi Q X v e)
@[simp] theorem kDPt_e (i : Nat) (fi : M S Mi.D) (Q : Fl → En S → Prop) (v : Mi.D) : kDPt i fi Q X v e = wOb e.sl[i]? (kDPt1 i fi Q X v e) := (rfl)
@[simp] theorem wp_mDPut {Q : Fl → En S → Prop} (i : Nat) (fe fi : M S Mi.D) : wp (mDPut i fe fi) e Q X = wp fe e (kDPt i fi Q X) X := by
  unfold mDPut; rw [wp_bnd]; congr 1; funext v e1
  rw [kDPt_e, ← obAt_wOb]
  unfold withOb wp
  dsimp only
  cases obAt i e1 with
  | none => rfl
  | some o =>
    dsimp only
    rw [kDPt1_e]
    show wp (bnd fi _) e1 Q X = _
    rw [wp_bnd]; congr 1; funext d e2
    rw [kDPt2_e, ← obAt_wOb]
    unfold wp
    dsimp only
    cases obAt i e2 with
    | none => rfl
    | some o2 =>
      dsimp only
      rw [kDPt3_e]
      unfold wO
      cases odPut o2 d v <;> rfl
def kTru (Q : Bool → En S → Prop) (d : Mi.D) (e : En S) : Prop := wO (truD d) (kO Q e)
@[simp] theorem kTru_e (Q : Bool → En S → Prop) (d : Mi.D) : kTru Q d e = wO (truD d) (kO Q e) := (rfl)
@[simp] theorem wp_asTr {Q : Bool → En S → Prop} (f : M S Mi.D) : wp (asTr f) e Q X = wp f e (kTru Q) X := by
  unfold asTr; rw [wp_bnd]; simp only [wp_lft]; rfl
@[simp] theorem truD_b (b : Bool) : truD (.bool b) = some b := (rfl)
@[simp] theorem truD_i (i : Int) : truD (.int i) = some (i != 0) := (rfl)
@[simp] theorem truD_n : truD .none = some false := (rfl)
@[simp] theorem truD_l (xs : List Mi.D) : truD (.list xs) = some (!xs.isEmpty) := (rfl)
@[simp] theorem truD_t (xs : List Mi.D) : truD (.tuple xs) = some (!xs.isEmpty) := (rfl)
def kTrO (Q : Bool → En S → Prop) (e : En S) (o : OD) : Prop := wO (odTru o) (kO Q e)
@[simp] theorem kTrO_e (Q : Bool → En S → Prop) (o : OD) : kTrO Q e o = wO (odTru o) (kO Q e) := (rfl)
@[simp] theorem wp_mTruO {Q : Bool → En S → Prop} (i : Nat) : wp (mTruO i) e Q X = wOb e.sl[i]? (kTrO Q e) := by
  rw [← obAt_wOb]
  unfold wp mTruO
  cases obAt i e with
  | none => rfl
  | some o => dsimp only; rw [kTrO_e]; unfold lft wO; cases odTru o <;> rfl
@[simp] theorem odTru_l (xs : List Mi.D) : odTru (.lst xs) = some (!xs.isEmpty) := (rfl)
@[simp] theorem odTru_k (kvs : List (Key × Mi.D)) : odTru (.dk kvs) = some (!kvs.isEmpty) := (rfl)
@[simp] theorem odGet_i (kvs : List (Key × Mi.D)) (i : Int) : odGet (.dk kvs) (.int i) = some (valD kvs (.inl i)) := (rfl)
@[simp] theorem odGet_s (kvs : List (Key × Mi.D)) (i : Str) : odGet (.dk kvs) (.str i) = some (valD kvs (.inr i)) := (rfl)
@[simp] theorem odPut_i (kvs : List (Key × Mi.D)) (i : Int) (v : Mi.D) : odPut (.dk kvs) (.int i) v = if kvs.length < sizeLine then some (.dk (putD kvs (.inl i) v)) else none := (rfl)
end
end Mi
set_option maxHeartbeats 4000000
namespace Mi
open PySem PySem.Spec PyProof.Rows L2
def gInsert : List Mi.D → List Arg → Option (Mi.D × List Mi.D)
  | xs, [.d (.int i), .d d] => if xs.length < sizeLine ∧ 0 ≤ i ∧ i < 2 ^ 63 then some (.none, xs.take i.toNat ++ [d] ++ xs.drop i.toNat) else none
  | _, _ => none
def rInsert : V → List V → Hp → VK → Prop := fun x vs H Q => ∃ (l : Addr) (xs : List V) (i : Int) (y : V), x = .ref l ∧ vs = [.int i, y] ∧ H l = some (.lst xs) ∧ xs.length < sizeLine ∧ 0 ≤ i ∧ i < 2 ^ 63 ∧
    Q .non (upd H l (.lst (xs.take i.toNat ++ [y] ++ xs.drop i.toNat)))
theorem p_insert : PrM rInsert gInsert := fun B xs as d ys p vs ws F H Q h hp r ra x q => by
  unfold gInsert at h
  split at h
  · split at h
    · rename_i hl
      cases h
      cases ra with
      | d r1 r2 =>
        cases r2 with
        | d r3 r4 =>
          cases r4
          cases r1
          exact ⟨p, vs, _, _, rfl, rfl, hp, by rw [RpA.len r]; exact hl.1, hl.2.1, hl.2.2, q _ _ (RpA.app (RpA.app (RpA.take _ r) (RpA.one r3)) (RpA.drop _ r)) .non⟩
    · cases h
  · cases h
@[simp] theorem gInsert_e (xs : List Mi.D) (i : Int) (d : Mi.D) : gInsert xs [.d (.int i), .d d] = if xs.length < sizeLine ∧ 0 ≤ i ∧ i < 2 ^ 63 then some (.none, xs.take i.toNat ++ [d] ++ xs.drop i.toNat) else none := (rfl)
def gReverse : List Mi.D → List Arg → Option (Mi.D × List Mi.D)
  | xs, [] => some (.none, xs.reverse)
  | _, _ => none
theorem RpA.rev {F : Hp} {vs : List V} {ds : List Mi.D} (r : RpA F vs ds) : RpA F vs.reverse ds.reverse := by
  induction ds generalizing vs with
  | nil => cases r; exact .nil
  | cons d ds ih =>
    cases r with
    | cons r1 r2 => simp only [List.reverse_cons]; exact RpA.app (ih r2) (RpA.one r1)
theorem p_reverse : PrM rReverse gReverse := fun B xs as d ys p vs ws F H Q h hp r ra x q => by
  unfold gReverse at h
  split at h
  · cases h
    cases ra
    exact ⟨p, vs, rfl, rfl, hp, q _ _ (RpA.rev r) .non⟩
  · cases h
@[simp] theorem gReverse_e (xs : List Mi.D) : gReverse xs [] = some (.none, xs.reverse) := (rfl)
def gExtend : List Mi.D → List Arg → Option (Mi.D × List Mi.D)
  | xs, [.d (.list zs)] => if xs.length + zs.length ≤ sizeLine then some (.none, xs ++ zs) else none
  | _, _ => none
theorem p_extend : PrM rExtend gExtend := fun B xs as d ys p vs ws F H Q h hp r ra x q => by
  unfold gExtend at h
  split at h
  · split at h
    · rename_i hl
      cases h
      cases ra with
      | d r1 r2 =>
        cases r2
        cases r1 with
        | lst g1 g2 => exact ⟨p, _, vs, _, rfl, rfl, hp, x _ _ g1, by rw [RpA.len r, RpA.len g2]; exact hl, q _ _ (RpA.app r g2) .non⟩
    · cases h
  · cases h
@[simp] theorem gExtend_e (xs zs : List Mi.D) : gExtend xs [.d (.list zs)] = if xs.length + zs.length ≤ sizeLine then some (.none, xs ++ zs) else none := (rfl)
theorem FnG.imp {Pg : Program} {w : World} {K : PySem.W.Frag} {mg : Str → Option Value} {base : Heap} {CX : CXT} {k : Nat} {f : Addr} {fd : FuncData} {ps : List Str} {sp sp' : Sp} (h : FnG Pg w K mg base CX k f fd ps sp) (i : ∀ vs H Q E, sp' vs H Q E → sp vs H Q E) : FnG Pg w K mg base CX k f fd ps sp' :=
  ⟨fun vs H Q E z => h.len vs H Q E (i _ _ _ _ z), fun A outer s H args us vs Q E hr hg e0 hb rv z => h.run A outer s H args us vs Q E hr hg e0 hb rv (i _ _ _ _ z)⟩
theorem FnG.lift {Pg : Program} {w : World} {K : PySem.W.Frag} {mg : Str → Option Value} {base : Heap} {CX : CXT} {k : Nat} {f : Addr} {fd : FuncData} {ps : List Str} {n : Nat} {fn : List Arg → Unit → FO Unit} (h : FnG Pg w K mg base CX k f fd ps (spM mg B0 n fn)) (B : Amb) :
    FnG Pg w K mg base CX k f fd ps (spM mg B n (lift fn)) := by
  refine h.imp fun vs H Q E ⟨hl, F, as, s, hx, off, sto, r, q⟩ => ?_
  unfold Mi.lift at q
  by_cases ht : noTok as = true
  · rw [if_pos ht] at q
    have up : ∀ {F1 H1 : Hp}, Pst B0 () F H F1 H1 → Pst B s F H F1 H1 := fun {F1 H1} p => by
      refine ⟨p.ext, fun a o _ h => p.fr a o (fun z => nomatch z) h, B.loc _ _ _ (fun a o _ h => p.fr a o (fun z => nomatch z) h) sto, fun a ha => ?_⟩
      obtain ⟨o, ho⟩ := B.dom _ _ sto a ha
      cases z : F1 a with
      | none => rfl
      | some u =>
        rcases p.ext.nw a u z with ⟨y, g⟩ | g
        · rw [off a ha] at g; cases g
        · rw [ho] at g; cases g
    refine ⟨hl, F, as, (), hx, fun _ z => (nomatch z), trivial, r.b0 ht, ?_⟩
    cases y : fn as () with
    | stuck => rw [y] at q; exact q
    | exc x s1 => rw [y] at q; exact fun F1 H1 p => q F1 H1 (up p)
    | val r s1 =>
      rw [y] at q
      cases r with
      | sh d => exact fun F1 H1 p => q F1 H1 (up p)
      | fr xs => exact fun F1 H1 p => q F1 H1 (up p)
  · rw [if_neg ht] at q; exact q.elim
end Mi
set_option maxHeartbeats 4000000
namespace Mi
open PySem PySem.Spec PySem.Calls PyProof.Rows PyProof.V L2
/-! list(an iterator) -/
structure ItS (prog : Program) (w : World) (T : String) (it d : Addr) (n : Nat) (P : Nat → Value → Prop) (St : Nat → Heap → Prop) : Prop where
  type : ∀ s : Shared, St 0 s.heap → s.TypeIs (.ref it) T
  there : ∀ h : Heap, St 0 h → it < h.objs.size ∧ d < h.objs.size
  notList : (Value.type T == Value.type "list") = false
  notTuple : (Value.type T == Value.type "tuple") = false
  hint : ∀ (A : Around) (E : Value → Shared → Prop) (s : Shared) (Q : Bool → Shared → Prop), St 0 s.heap → (∀ b tk, Q b { s with toks := tk }) → wpAny (model prog w) A (Builtin.List.listLengthHint (.ref it)) Q E s
  walks : ∀ A : Around, A.handled = none → Walks prog w A it [it, d] [it] n P St
section
variable {prog : Program} {w : World} {A : Around} {E : Value → Shared → Prop} {s : Shared} {T : String} {it d : Addr} {n : Nat} {P : Nat → Value → Prop} {St : Nat → Heap → Prop}
theorem li_extend {R : Result → Shared → Prop} (K : ItS prog w T it d n P St) (hh : A.handled = none) (st : St 0 s.heap) (S : Addr) (hSr : S ≠ it) (hSd : S ≠ d) (res : Value) (c₀ : Nat) (hS : s.heap.get? S = some { cls := .type "list", data := .seq #[] c₀ })
    (hR : ∀ h' tk acc' c', (∀ b o, b ≠ S → b ≠ it → s.heap.get? b = some o → h'.get? b = some o) → h'.get? S = some { cls := .type "list", dict := none, data := .seq acc' c', slots := #[] } → ItemsOf P acc' n → R (.ok (.ret res)) { s with heap := h', toks := tk }) (hn : n ≤ sizeLine) :
    wpAny (model prog w) A.in1 (Builtin.List.listExtendWith (.ref S) (.ref it) res)
      (fun fin s' => match fin with | .done f => R (.ok f) s' | .again c' => c'.quiet = true ∧ codeAny (model prog w) A c' R s') (fun e s' => R (.error e) s') s := by
  have hSf : S ∉ [it, d] := by simp only [List.mem_cons, List.not_mem_nil, or_false, not_or]; exact ⟨hSr, hSd⟩
  have W := K.walks A.in1 hh
  have key : ∀ (h : Heap) (c₁ tk : Nat), St 0 h → (∀ b o, b ≠ S → s.heap.get? b = some o → h.get? b = some o) →
      h.get? S = some { cls := .type "list", data := .seq #[] c₁ } → codeAny (model prog w) A (.builtin "list.extend.loop" ⟨[.ref S, .ref it, res], []⟩) R { s with heap := h, toks := tk } := by
    intro h c₁ tk hst hk hS₁
    refine codeAny_extend_loopS W.toS hn S hSf res n 0 _ #[] c₁ rfl (Nat.zero_le _) hst hS₁ (ItemsOf.nil _) fun s' acc' c' hm hS' hacc => ?_
    rw [Moved.eq_with hm]
    refine hR s'.heap s'.toks acc' c' (fun b o hb hi e => hm.heap b o (fun hmem => ?_) (hk b o hb e)) hS' hacc
    rcases List.mem_cons.mp hmem with e' | hmem
    · exact hb e'
    · exact hi (List.mem_singleton.mp hmem)
  unfold Builtin.List.listExtendWith
  refine wpAny_bind (wpAny_typeOf (T := T) (K.type s st) ?_)
  have h1 : Builtin.List.listSameRef (.ref S) (.ref it) = false := by simp [Builtin.List.listSameRef, hSr]
  simp only [h1, K.notList, K.notTuple, Bool.or_false, Bool.false_eq_true, if_false]
  refine wpAny_bind (W.self 0 _ _ _ st ?_)
  refine wpAny_bind (wpAny_holding (K.hint _ _ _ _ st fun b tk => ?_))
  refine wpAny_ite_split (fun _ => ?_) (fun _ => wpAny_pure ⟨plainId_quiet PySem.F.plain_extend_loop _, key _ c₀ _ st (fun b o _ e => e) hS⟩)
  refine wpAny_bind (wpAny_rule ?_)
  refine wpAny_bind ?_
  show wpAny _ _ (updateSeq S (·.push .none) >>= fun _ => updateSeq S (·.pop)) _ _ _
  refine wpAny_bind (wpAny_updateSeq (s := { s with toks := tk }) hS rfl ?_)
  have hS₂ := Heap.get?_update_self (Obj.mapSeq (·.push Value.none)) hS rfl
  refine wpAny_updateSeq (hz := by seq_fits) hS₂ rfl ?_
  have hS₃ := Heap.get?_update_self (Obj.mapSeq (·.pop)) hS₂ rfl
  refine wpAny_pure ⟨plainId_quiet PySem.F.plain_extend_loop _, key _ _ _ ?_ (fun b o hb e => ?_) hS₃⟩
  · refine W.frame 0 _ _ st fun b hb o e => ?_
    have hbS : b ≠ S := fun h => hSf (h ▸ hb)
    exact (Heap.get?_update_other _ _ (Ne.symm hbS)).trans ((Heap.get?_update_other _ _ (Ne.symm hbS)).trans e)
  · exact (Heap.get?_update_other _ _ (Ne.symm hb)).trans ((Heap.get?_update_other _ _ (Ne.symm hb)).trans e)
theorem li_init {R : Result → Shared → Prop} (K : ItS prog w T it d n P St) (hh : A.handled = none) (st : St 0 s.heap) (S : Addr) (hSr : S ≠ it) (hSd : S ≠ d) (hS : s.heap.get? S = some { cls := .type "list", data := .seq #[] })
    (hR : ∀ h' tk acc' c', (∀ b o, b ≠ S → b ≠ it → s.heap.get? b = some o → h'.get? b = some o) → h'.get? S = some { cls := .type "list", dict := none, data := .seq acc' c', slots := #[] } → ItemsOf P acc' n → R (.ok (.ret .none)) { s with heap := h', toks := tk }) (hn : n ≤ sizeLine) :
    wpAny (model prog w) A.in1 (Builtin.«list.__init__» ⟨[.ref S, .ref it], []⟩)
      (fun fin s' => match fin with | .done f => R (.ok f) s' | .again c' => c'.quiet = true ∧ codeAny (model prog w) A c' R s') (fun e s' => R (.error e) s') s := by
  show wpAny _ _ (do let old ← Builtin.List.listItems (.ref S); Builtin.List.listUpdate (.ref S) (fun _ => #[]); letGo old.toList.reverse; Builtin.List.listExtendWith (.ref S) (.ref it) .none) _ _ s
  refine wpAny_bind ?_
  unfold Builtin.List.listItems
  refine wpAny_bind (wpAny_seqItems hS rfl (wpAny_pure ?_))
  show wpAny _ _ (updateSeq S (fun _ => #[]) >>= fun _ => letGo (#[] : Array Value).toList.reverse >>= fun _ => Builtin.List.listExtendWith (.ref S) (.ref it) .none) _ _ s
  refine wpAny_bind (wpAny_updateSeq hS rfl ?_)
  have hS₂ := Heap.get?_update_self (Obj.mapSeq (fun _ => (#[] : Array Value))) hS rfl
  have oth : ∀ b o, b ≠ S → s.heap.get? b = some o → (s.heap.update S (Obj.mapSeq (fun _ => (#[] : Array Value)))).get? b = some o :=
    fun b o hb e => (Heap.get?_update_other _ _ (Ne.symm hb)).trans e
  refine wpAny_bind (wpAny_letGo ?_)
  refine li_extend K hh ((K.walks A.in1 hh).frame 0 _ _ st fun b hb o e => oth b o (by rcases List.mem_cons.mp hb with rfl | hb; exact hSr.symm; exact (List.mem_singleton.mp hb) ▸ hSd.symm) e) S hSr hSd .none _ hS₂ (fun h' tk acc' c' hk hS' hacc => ?_) hn
  exact hR h' tk acc' c' (fun b o hb hi e => hk b o hb hi (oth b o hb e)) hS' hacc
theorem li_call {Q : Value → Shared → Prop} (K : ItS prog w T it d n P St) (hh : A.handled = none) (st : St 0 s.heap) (hn : n ≤ sizeLine)
    (hQ : ∀ h' tk acc' c', (∀ b o, b ≠ it → s.heap.get? b = some o → h'.get? b = some o) → h'.get? s.heap.objs.size = some { cls := .type "list", dict := none, data := .seq acc' c', slots := #[] } → ItemsOf P acc' n → Q (.ref s.heap.objs.size) { s with heap := h', toks := tk }) :
    wpAny (model prog w) A (call (.type "list") [.ref it]) Q E s := by
  refine callType_codes (Q₁ := fun obj s₁ => obj = .ref s.heap.objs.size ∧ s₁ = { s with heap := s.heap.push { cls := .type "list", data := .seq #[] } }) PySem.F.called_list (PySem.F.typeCall_list_1 _) PySem.F.entry_list_init
    (code_list_new _ ⟨rfl, rfl⟩) fun obj s₁ h₁ => ?_
  obtain ⟨rfl, rfl⟩ := h₁
  have hS : (s.heap.push { cls := .type "list", data := .seq #[] }).get? s.heap.objs.size = some { cls := .type "list", data := .seq #[] } := Heap.get?_push_size _ rfl
  have hlt := K.there _ st
  refine ⟨⟨_, hS, rfl⟩, PySem.F.args_list_init_2 _ _, li_init (A := A.in1) K hh ((K.walks A.in1 hh).frame 0 _ _ st fun b _ o e => Heap.get?_push_of_some _ e) _ (Nat.ne_of_gt hlt.1) (Nat.ne_of_gt hlt.2) hS (fun h' tk acc' c' hk hS' hacc => ?_) hn⟩
  exact ⟨rfl, hQ h' tk acc' c' (fun b o hi e => hk b o (Nat.ne_of_lt (Heap.lt_size e)) hi (Heap.get?_push_of_some _ e)) hS' hacc⟩
/-! of a list, backwards -/
theorem its_list {items : Array Value} (hne : d ≠ it) : ItS prog w "list_reverseiterator" it d items.size (fun i v => items[items.size - 1 - i]? = some v) (fun i h => i ≤ items.size ∧ h.IsRevIter it d ((items.size : Int) - 1 - (i : Int)) ∧ h.IsList d items) where
  type := fun s st => st.2.1.typeIs
  there := fun h st => by
    obtain ⟨o, e, _⟩ := st.2.1
    obtain ⟨o2, e2, _⟩ := st.2.2
    exact ⟨Heap.lt_size e, Heap.lt_size e2⟩
  notList := by decide
  notTuple := by decide
  hint := fun A E s Q st h => by
    have hT : s.TypeIs (.ref it) "list_reverseiterator" := st.2.1.typeIs
    unfold Builtin.List.listLengthHint
    refine wpAny_bind (wpAny_specialOf hT RT.nolen_lri ?_)
    show wpAny _ A (specialOf (Value.ref it) (Str.ofString "__length_hint__") >>= _) _ _ _
    refine wpAny_bind (wpAny_specialOf hT RT.hint_lri ?_)
    generalize hid : ("list_reverseiterator.__length_hint__" : String) = id0
    wp_delta
    rw [show splitId id0 = some ("list_reverseiterator", "__length_hint__") from by subst hid; decide +kernel]
    subst hid
    refine wpAny_bind (wpAny_isInstance (b := true) hT (by rw [isSubtype_type]; kernel_rfl) ?_)
    exact wpAny_pure (h false s.toks)
  walks := fun A hh => Walks.listRev hh it d hne items
end
/-! of a tuple, backwards -/
theorem nolen_rt : typeLookup (.type "reversed") "__len__" = pure none := by rw [typeLookup_type, builtinLookup_eq_fast]; kernel_rfl
theorem slot_rt_hint : PySem.Slot "reversed" "__length_hint__" "reversed.__length_hint__" :=
  .of (owner := "reversed") (n := "__length_hint__") (by rw [typeLookup_type, builtinLookup_eq_fast]; kernel_rfl) (by decide +kernel) (by decide +kernel) (by decide +kernel)
    (by first | exact .inl (by decide +kernel) | exact .inr (by decide +kernel)) (by rw [isSubtype_type]; kernel_rfl)
theorem entry_rt_hint : entryFor table "reversed.__length_hint__" = some Builtin.«reversed.__length_hint__» := entryFor_of_tree (by kernel_rfl)
theorem args_rt_hint (a : Value) : argsOk "reversed.__length_hint__" ⟨[a], []⟩ := by
  unfold argsOk; rw [signature?_of (id := "reversed.__length_hint__") (n := ['_', '_', 't', 'n', 'i', 'h', '_', 'h', 't', 'g', 'n', 'e', 'l', '_', '_']) (o := ['d', 'e', 's', 'r', 'e', 'v', 'e', 'r']) (by kernel_rfl) RT.owner_rt]; kernel_rfl
section
variable {prog : Program} {w : World} {A : Around} {E : Value → Shared → Prop} {s : Shared} {it d : Addr}
theorem hint_call {items : Array Value} {Q : Value → Shared → Prop} (hit : RT.IsRt s.heap it d ((items.size : Int) - 1)) (ht : IsTup s.heap d items) (hn : items.size ≤ sizeLine)
    (h : ∀ tk, Q (.int items.size tk) { s with toks := tk + 1 }) : wpAny (model prog w) A (call (.builtin "reversed.__length_hint__") [.ref it]) Q E s := by
  obtain ⟨o, ho, hc, hd⟩ := id hit
  have hl := line63
  refine wpAny_call_entry slot_rt_hint hit.typeIs entry_rt_hint ?_ (args_rt_hint _)
  unfold Builtin.«reversed.__length_hint__»
  refine wpAny_bind (wpAny_of_eq (a := Value.ref it) rfl ?_)
  try dsimp only
  refine wpAny_bind (wpAny_field ho hd (x := .ref d) rfl ?_)
  try dsimp only
  rw [if_neg (by simp)]
  refine wpAny_bind (len_tuple ht (by omega) ?_)
  refine wpAny_bind (wpAny_of_eq (a := some ((items.size : Nat) : Int)) rfl ?_)
  try dsimp only
  refine wpAny_bind (wpAny_field (s := { s with toks := s.toks + 1 + 1 }) ho hd (x := rawInt ((items.size : Int) - 1)) rfl ?_)
  show wpAny _ _ (if ((items.size : Int)) < ((items.size : Int) - 1) + 1 then _ else _) _ _ _
  rw [if_neg (by omega)]
  have e1 : ((items.size : Nat) : Int) - 1 + 1 = (items.size : Int) := by omega
  rw [e1]
  refine wpAny_bind (wpAny_mkInt ?_)
  exact wpAny_pure ⟨_, rfl, h _⟩
theorem walks_rt {items : Array Value} (hh : A.handled = none) (hne : d ≠ it) (hn : items.size ≤ sizeLine) :
    Walks prog w A it [it, d] [it] items.size (fun i v => items[items.size - 1 - i]? = some v) (fun i h => i ≤ items.size ∧ RT.IsRt h it d ((items.size : Int) - 1 - (i : Int)) ∧ IsTup h d items) where
  sub := fun b hb => by simp at hb; simp [hb]
  frame := fun _ _ _ x hk => ⟨x.1, x.2.1.at fun o e => hk it (by simp) o e, (let ⟨o, e, r⟩ := x.2.2; ⟨o, hk d (by simp) o e, r⟩)⟩
  item := fun i s Q E hi x hQ => by
    have e : (items.size : Int) - 1 - (i : Int) = ((items.size - 1 - i : Nat) : Int) := by omega
    have hit := x.2.1
    rw [e] at hit
    have hx : items[items.size - 1 - i]? = some (items[items.size - 1 - i]'(by omega)) := Array.getElem?_eq_getElem (by omega)
    refine RT.next_rt_item hit x.2.2 hx hn fun h' hit' hs' => ?_
    have e2 : ((items.size - 1 - i : Nat) : Int) - 1 = (items.size : Int) - 1 - ((i + 1 : Nat) : Int) := by omega
    rw [e2] at hit'
    exact hQ _ h' _ hx ⟨hi, hit', (let ⟨o, e, r⟩ := x.2.2; ⟨o, (hs'.2 d hne).trans e, r⟩)⟩ fun b o hb eo => hs'.extBut b o (fun h => hb (by simp [h])) eo
  done := fun s Q E x hQ => by
    have e : (items.size : Int) - 1 - (items.size : Int) = -1 := by omega
    have hit := x.2.1
    rw [e] at hit
    exact RT.next_rt_end hh hit fun h' he' => hQ h' s.toks fun b o hb eo => he' b o (fun h => hb (by simp [h])) eo
  self := fun _ _ _ _ x hQ => RT.iter_rt x.2.1 hQ
theorem asInt_int (i : Int) (t : Tok) : asInt? (.int i t) = pure (some i) := rfl
theorem its_tup {items : Array Value} (hne : d ≠ it) (hn : items.size ≤ sizeLine) : ItS prog w "reversed" it d items.size (fun i v => items[items.size - 1 - i]? = some v) (fun i h => i ≤ items.size ∧ RT.IsRt h it d ((items.size : Int) - 1 - (i : Int)) ∧ IsTup h d items) where
  type := fun s st => st.2.1.typeIs
  there := fun h st => by
    obtain ⟨o, e, _⟩ := st.2.1
    obtain ⟨o2, e2, _⟩ := st.2.2
    exact ⟨Heap.lt_size e, Heap.lt_size e2⟩
  notList := by decide
  notTuple := by decide
  hint := fun A E s Q st h => by
    have hT : s.TypeIs (.ref it) "reversed" := st.2.1.typeIs
    have hl := line63
    have hit := st.2.1
    rw [show ((items.size : Int) - 1 - ((0 : Nat) : Int)) = (items.size : Int) - 1 by omega] at hit
    unfold Builtin.List.listLengthHint
    refine wpAny_bind (wpAny_specialOf hT nolen_rt ?_)
    show wpAny _ A (specialOf (Value.ref it) (Str.ofString "__length_hint__") >>= _) _ _ _
    refine wpAny_bind (wpAny_specialOf hT slot_rt_hint.lookup ?_)
    generalize hid : ("reversed.__length_hint__" : String) = id0
    wp_delta
    rw [show splitId id0 = some ("reversed", "__length_hint__") from by subst hid; decide +kernel]
    subst hid
    refine wpAny_bind (wpAny_isInstance (b := true) hT (by rw [isSubtype_type]; kernel_rfl) ?_)
    refine wpAny_ite_split (fun hab => absurd hab (by decide)) (fun _ => ?_)
    try dsimp only
    refine wpAny_ite_split (fun hab => absurd hab (by decide +kernel)) (fun _ => ?_)
    refine wpAny_bind (wpAny_rule ?_)
    simp only [slot_rt_hint.bind]
    refine wpAny_bind (wpAny_pure ?_)
    try dsimp only
    refine wpAny_bind (wpAny_attempt (hint_call hit st.2.2 hn fun tk => ?_))
    try dsimp only
    simp only [asInt_int, pure_bind]
    have g1 : Builtin.List.listFitsIndex (items.size : Int) = true := by unfold Builtin.List.listFitsIndex; simp; omega
    have g2 : Builtin.List.listTooLong (items.size : Int).toNat = false := by rw [Int.toNat_natCast]; exact notLongL hn
    rw [g1, g2, if_neg (by decide), if_neg (by omega), if_neg (by decide)]
    exact wpAny_pure (h _ _)
  walks := fun A hh => walks_rt hh hne hn
end
section
variable {X : Cx}
/-- list(reversed(x)), x a list or a tuple: a new list -/
def tLRev (K : PySem.W.Frag) (te : TE) : TE := fun σ H Q => te σ H fun v H1 => ∃ (a : Addr) (xs : List V), v = .ref a ∧ (SqL K H1 a xs ∨ SqT K H1 a xs) ∧ ∀ q, H1 q = none → Q (.ref q) (upd H1 q (.lst xs.reverse))
theorem pe_lRev {e : Expr} {te : TE} {p p2 pos pos2 : Pos} (hc : X.calm = true) (hg : Gl X "list") (hm : X.mg "list" = none) (hg2 : Gl X "reversed") (hm2 : X.mg "reversed" = none) (he : PE X e te)
    (hs : starEach [e] X.env = (false, eval e X.env) :: starEach [] X.env := by rfl)
    (hs2 : starEach [.Call (.Name "reversed" p2) [e] [] pos2] X.env = (false, eval (.Call (.Name "reversed" p2) [e] [] pos2) X.env) :: starEach [] X.env := by rfl) :
    PE X (.Call (.Name "list" p) [.Call (.Name "reversed" p2) [e] [] pos2] [] pos) (tLRev X.K te) := by
  refine ⟨fun pins s σ H Q I h => ?_⟩
  refine Call_ (ld_blt I hg hm boot_list (PyProof.Rows.callWith_type1 (args_cons (Call_ (ld_blt I hg2 hm2 PyProof.Rows.boot_reversed (PyProof.Rows.callWith_type1 (args_cons (thn (he.run pins s σ H _ I h) fun u s1 ⟨v, H1, I1, r1, q1⟩ => args_nil ?_) hs) hs rfl))) hs2) hs2 rfl))
  obtain ⟨a, xs, ev, hq, q⟩ := q1
  subst ev
  obtain rfl : u = Value.ref a := r1
  have fin : ∀ (s0 : Shared) (its : List Value) (T : String) (St : Nat → Heap → Prop) (I2 : Inv X pins σ H1 s0) (it : Addr) (hib : s1.heap.objs.size = it) (K : ItS X.prog X.w T it a its.toArray.size (fun i v => its.toArray[its.toArray.size - 1 - i]? = some v) St)
      (st : St 0 s0.heap) (rv : Vals xs its) (hz : xs.length ≤ sizeLine), wpAny (model X.prog X.w) X.A (call (.type "list") [.ref it]) (EP X pins σ Q) X.xe s0 := by
    intro s0 its T St I2 it hib K st rv hz
    subst hib
    obtain ⟨f0, f1, f2, f3, f4, f5⟩ := I1.fpOk (H' := H1) (b := s1.heap.objs.size) (Nat.le_refl _) (I1.hok.fresh (Nat.le_refl _))
    have hn : its.toArray.size ≤ sizeLine := by rw [List.size_toArray, ← rv.length]; exact hz
    refine li_call K (I1.ok.hd hc) st hn fun h' tk acc c' hk hD hi => ?_
    have I3 : Inv X pins σ (upd H1 s0.heap.objs.size (.lst xs.reverse)) { s0 with heap := h', toks := tk } := by
      refine I2.turnedNew (t' := tk) (ch := [s1.heap.objs.size]) (fun b o hb e => hk b o (fun z => hb (by simp [z])) e) (fun b hb => ?_) (Nat.le_refl _) (show ObjOk X.prog X.w _ _ _ (.lst xs.reverse) from ⟨by rw [List.length_reverse]; exact hz, acc.toList, c', RT.vals_rev rv hi, by rw [Array.toArray_toList]; exact hD⟩)
      rw [List.mem_singleton.mp hb]
      exact ⟨f0, f1, f2, f3, f4, f5⟩
    exact ⟨.ref s0.heap.objs.size, _, I3, rfl, q _ (I2.hok.fresh (Nat.le_refl _))⟩
  rcases hq with hq | hq
  · obtain ⟨its, rv, p', hz⟩ := I1.list hq
    refine call_reversed_list p'.isList (args_nil ?_)
    have hl := p'.isList
    obtain ⟨ol, hol, _⟩ := id hl
    have hne : a ≠ s1.heap.objs.size := Nat.ne_of_lt (Heap.lt_size hol)
    refine fin _ its _ _ (I1.kept (t' := s1.toks) fun b o e => Heap.get?_push_of_some _ e) _ rfl (its_list hne) ⟨Nat.zero_le _, ?_, hl.push _⟩ rv hz
    exact ⟨_, Heap.get?_push_size _ rfl, rfl, by simp [revObj]⟩
  · obtain ⟨its, rv, p', hz⟩ := I1.tuple hq
    have hl := rv.length
    have hn := line63
    refine RT.call_reversed_tup p' (fun A E Q k => len_tuple p' (by simp only [List.size_toArray] <;> omega) k) (args_nil ?_)
    have hne : a ≠ s1.heap.objs.size := Nat.ne_of_lt p'.lt
    refine fin _ its _ _ (I1.kept (t' := s1.toks + 1 + 1) fun b o e => Heap.get?_push_of_some _ e) _ rfl (its_tup hne (by rw [List.size_toArray, ← rv.length]; exact hz)) ⟨Nat.zero_le _, ?_, p'.push _⟩ rv hz
    exact ⟨_, Heap.get?_push_size _ rfl, rfl, by simp [RT.rtObj]⟩
end
section
variable {P : Pm} {X : Cx} {W : WX} {α β : Type} {e e1 : En P.B.S} {σ : St} {F H F1 H1 : Hp} {pos : Pos} {D : Ends}
def revOf : Mi.D → Option (List Mi.D)
  | .list ds => some ds.reverse
  | .tuple ds => some ds.reverse
  | _ => none
def mLRev {S : Type} (f : M S Mi.D) : M S (List Mi.D) := bnd f fun d => lft (revOf d)
theorem f_lRev {a : Expr} {f : M P.B.S Mi.D} {p p2 pos2 : Pos} (hc : X.calm = true) (hm : X.mg "list" = none) (hm2 : X.mg "reversed" = none) (ha : XE P X W a f) (hg : Gl X "list" := by rfl) (hg2 : Gl X "reversed" := by rfl)
    (hs : starEach [a] X.env = (false, eval a X.env) :: starEach [] X.env := by rfl)
    (hs2 : starEach [.Call (.Name "reversed" p2) [a] [] pos2] X.env = (false, eval (.Call (.Name "reversed" p2) [a] [] pos2) X.env) :: starEach [] X.env := by rfl) :
    XF P X W (.Call (.Name "list" p) [.Call (.Name "reversed" p2) [a] [] pos2] [] pos) (mLRev f) :=
  pe_imp (pe_lRev hc hg hm hg2 hm2 ha hs hs2) fun σ H Q ⟨F, e, k, h⟩ => tX_of k h fun d e1 F1 H1 v k1 s1 r1 h1 => by
    obtain ⟨ds, hd, h2⟩ := h1.lft
    cases d with
    | list xs =>
      cases hd
      cases r1 with
      | lst g1 g2 => exact ⟨_, _, rfl, .inl (.of (k1.ext.fh _ _ g1)), fun q nq => h2.grow k1 (Ex.new nq) (Ext.layO k1.ext.fh nq) q _ (s1.non nq) upd_same (k1.fresh nq).1 (RpA.rev g2)⟩
    | tuple xs =>
      cases hd
      cases r1 with
      | tup g1 g2 => exact ⟨_, _, rfl, .inr (.of (k1.ext.fh _ _ g1)), fun q nq => h2.grow k1 (Ex.new nq) (Ext.layO k1.ext.fh nq) q _ (s1.non nq) upd_same (k1.fresh nq).1 (RpA.rev g2)⟩
    | _ => cases hd
/-! xs[::-1] -/
def revLOf : Mi.D → Option (List Mi.D)
  | .list ds => some ds.reverse
  | _ => none
def mRevF {S : Type} (f : M S Mi.D) : M S (List Mi.D) := bnd f fun d => lft (revLOf d)
theorem f_rev {a : Expr} {f : M P.B.S Mi.D} {k : Nat} {p1 p2 p3 : Pos} (ha : XE P X W a f) : XF P X W (.Subscript a (.Slice none none (some (.UnaryOp .USub (.Constant (.int 1) k p1) p2)) p3) pos) (mRevF f) :=
  pe_imp (pe_revL ha) fun σ H Q ⟨F, e, k, h⟩ => tX_of k h fun d e1 F1 H1 v k1 s1 r1 h1 => by
    obtain ⟨ds, hd, h2⟩ := h1.lft
    cases d with
    | list xs =>
      cases hd
      cases r1 with
      | lst g1 g2 => exact ⟨_, _, rfl, .of (k1.ext.fh _ _ g1), fun q nq => h2.grow k1 (Ex.new nq) (Ext.layO k1.ext.fh nq) q _ (s1.non nq) upd_same (k1.fresh nq).1 (RpA.rev g2)⟩
    | _ => cases hd
def gRevO (xs : List Mi.D) : Option (List Mi.D) := some xs.reverse
theorem f_revO (i : Nat) {x : Str} {p p1 p2 p3 : Pos} {k : Nat} (hN : X.N[i]? = some x := by rfl) (hv : Vis X.env.scope x := by first | exact Or.inl rfl | exact Or.inr (Or.inl rfl) | exact Or.inr (Or.inr rfl))
    (hd : (x == ("__debug__" : Str)) = false := by decide) (hcd : (x == ("__classdict__" : Str)) = false := by decide) : XF P X W (.Subscript (.Name x p) (.Slice none none (some (.UnaryOp .USub (.Constant (.int 1) k p1) p2)) p3) pos) (mO i gRevO) :=
  pe_imp (pe_revL (pe_var hN hv hd hcd)) fun σ H Q ⟨F, e, k, h⟩ => by
    unfold mO at h
    cases q : lstAt i e with
    | none => rw [q] at h; exact h.elim
    | some xs =>
      rw [q] at h
      obtain ⟨p, vs, q1, q2, q3⟩ := k.lstAt q
      obtain ⟨ys, hg, h2⟩ := h.lft
      cases hg
      exact ⟨_, q1, p, vs, rfl, .of q2, fun r np => h2.grow k (Ex.new np) (Ext.layO k.ext.fh np) r _ np upd_same (k.fresh np).1 (RpA.rev q3)⟩
/-! raise X(), X an own class without fields -/
theorem pmk_own0 {C : Addr} {bmB : List Value} {B newId initId : String} {x : Str} {p : Pos} (F : ExcBaseFacts B newId initId bmB) (q : PySem.W.excIn X.K C bmB newId = true) (gC : X.mg x = some (.ref C)) (kC : PySem.W.keepIn X.K (.ref C) = true) (r : Raises X (.ref C)) (hg : Gl X x)
    (hdb : (x == ("__debug__" : Str)) = false := by decide) : PMk X (.Call (.Name x p) [] [] pos) (fun _ H Q => Q (.ref C) none H) := by
  intro pins s σ H Q I h
  refine wpAny_Call_Name_kw (ld_glob I hg gC ?_ hdb)
  refine PySem.W.callWith_K0 I.kIn kC ?_
  show wpAny _ _ (call (.ref C) []) _ _ _
  obtain ⟨bm, N, nm, qn, bs, hdct, sn, sub, ab, col, dd, k0, k1, k2, k3, k5, mN, hC, hN, hni, T⟩ := exc_obj I.kIn q
  refine wpAny_call_exc_subT F T hC hN hni (fun h' e hm => ?_) (Nat.zero_le _)
  exact mk_of I hm r h (I.hok.gone hm.new)
def mMk0 {S : Type} (n : Str) : M S Er := rt ⟨n, []⟩
structure PlC (K : PySem.W.Frag) (C : Addr) : Prop where
  ec : PySem.W.excIn K C [.type "ValueError", .type "Exception", .type "BaseException", .type "object"] "ValueError.__new__" = true
  kC : PySem.W.keepIn K (.ref C) = true
  sb : PySem.W.subIn K (.ref C) (.type "BaseException") = some true
  ty : PySem.W.typeIn K (.ref C) = some (.type "type")
theorem r_make0 {x : Str} {C : Addr} {p : Pos} (T : PlC X.K C) (hm : X.mg x = some (.ref C)) (hmg : P.mg x = some (.ref C)) (hg : Gl X x := by rfl) (hdb : (x == ("__debug__" : Str)) = false := by decide) : XR P X W (.Call (.Name x p) [] [] pos) (mMk0 x) :=
  pmk_imp (pmk_own0 PySem.F.excBase_ValueError T.ec hm T.kC (raises_own T.sb T.ty) hg hdb) fun σ H Q ⟨F, e, k, h⟩ => (h.rt k) _ none ⟨hmg, .inl ⟨rfl, rfl⟩⟩
end
section
variable {S α β : Type} {e e' : En S} {X : Er → En S → Prop}
@[simp] theorem revOf_l (ds : List Mi.D) : revOf (.list ds) = some ds.reverse := (rfl)
@[simp] theorem revOf_t (ds : List Mi.D) : revOf (.tuple ds) = some ds.reverse := (rfl)
@[simp] theorem revLOf_l (ds : List Mi.D) : revLOf (.list ds) = some ds.reverse := (rfl)
@[simp] theorem gRevO_e (ds : List Mi.D) : gRevO ds = some ds.reverse := (rfl)
@[simp] theorem wp_mLRev {Q : List Mi.D → En S → Prop} (f : M S Mi.D) : wp (mLRev f) e Q X = wp f e (kD revOf Q) X := by
  unfold mLRev; rw [wp_bnd]; congr 1; funext d e1; rw [wp_lft]; rfl
@[simp] theorem wp_mRevF {Q : List Mi.D → En S → Prop} (f : M S Mi.D) : wp (mRevF f) e Q X = wp f e (kD revLOf Q) X := by
  unfold mRevF; rw [wp_bnd]; congr 1; funext d e1; rw [wp_lft]; rfl
@[simp] theorem wp_mMk0 {Q : Er → En S → Prop} (n : Str) : wp (mMk0 n : M S Er) e Q X = Q ⟨n, []⟩ e := (rfl)
end
end Mi
set_option maxHeartbeats 4000000
namespace Mi
open PySem PySem.Spec PyProof.Rows L2
/-! the text of the row: its defs by their places -/
def topS (i : Nat) : Stmt := PySem.Challenge.pw_earlypulses_k81_octets_are_ranks.main.body.getD i (.Pass ⟨0, 0, 0, 0⟩)
abbrev s_same_parts : Stmt := topS 1
abbrev s_is_whole : Stmt := topS 18
abbrev s_is_index : Stmt := topS 19
abbrev s_copied : Stmt := topS 20
abbrev s_check_state : Stmt := topS 21
abbrev s_is_book : Stmt := topS 22
abbrev s_words_of : Stmt := topS 23
abbrev s_book_words : Stmt := topS 24
abbrev s_is_below : Stmt := topS 30
abbrev s_check_book : Stmt := topS 31
abbrev s_check_base : Stmt := topS 32
abbrev s_check_octets : Stmt := topS 33
abbrev s_end_of : Stmt := topS 34
abbrev s_digits_of : Stmt := topS 35
abbrev s_octets_of : Stmt := topS 36
abbrev s_say_octets : Stmt := topS 37
abbrev s_walk : Stmt := topS 40
abbrev s_copy_of : Stmt := topS 43
abbrev s_is_from_to : Stmt := topS 44
abbrev s_tails : Stmt := topS 45
abbrev s_saying_at : Stmt := topS 46
abbrev s_saying_rank : Stmt := topS 47
abbrev s_book_made : Stmt := topS 49
abbrev s_part : Stmt := topS 50
abbrev s__law_mixed : Stmt := topS 52
abbrev s__law_store : Stmt := topS 53
abbrev s__law_take : Stmt := topS 54
abbrev s__law_number : Stmt := topS 55
abbrev s__law_size : Stmt := topS 56
abbrev s__law_unlike : Stmt := topS 57
abbrev s__law_power : Stmt := topS 58
abbrev s__law_kind : Stmt := topS 59
abbrev s__law_same : Stmt := topS 60
abbrev s__law_is_whole : Stmt := topS 61
abbrev s__law_mask_word : Stmt := topS 62
abbrev s__law_bent_list : Stmt := topS 63
abbrev s__law_book : Stmt := topS 64
abbrev s__law_octets : Stmt := topS 65
abbrev s__law_digits : Stmt := topS 66
abbrev s__law_value : Stmt := topS 67
abbrev s__law_read : Stmt := topS 68
abbrev s__law_asked_octets : Stmt := topS 69
abbrev s__law_asked_digits : Stmt := topS 70
abbrev s__law_is_spelled : Stmt := topS 71
abbrev s__law_is_ranked : Stmt := topS 72
abbrev s__law_bent_is_read : Stmt := topS 73
abbrev s__law_bounds_hold : Stmt := topS 74
abbrev s_law : Stmt := topS 75
def st_i_BadSize : Stmt := match topS 5 with
  | .ClassDef (body := b) .. => b.getD 0 (.Pass ⟨0, 0, 0, 0⟩)
  | s => s
def st_i_NoWord : Stmt := match topS 6 with
  | .ClassDef (body := b) .. => b.getD 0 (.Pass ⟨0, 0, 0, 0⟩)
  | s => s
def st_i_NotBook : Stmt := match topS 7 with
  | .ClassDef (body := b) .. => b.getD 0 (.Pass ⟨0, 0, 0, 0⟩)
  | s => s
def st_i_BadState : Stmt := match topS 8 with
  | .ClassDef (body := b) .. => b.getD 0 (.Pass ⟨0, 0, 0, 0⟩)
  | s => s
def st_i_BadNumber : Stmt := match topS 9 with
  | .ClassDef (body := b) .. => b.getD 0 (.Pass ⟨0, 0, 0, 0⟩)
  | s => s
def st_i_NoNumber : Stmt := match topS 10 with
  | .ClassDef (body := b) .. => b.getD 0 (.Pass ⟨0, 0, 0, 0⟩)
  | s => s
def st_i_FewWords : Stmt := match topS 11 with
  | .ClassDef (body := b) .. => b.getD 0 (.Pass ⟨0, 0, 0, 0⟩)
  | s => s
def st_i_BadOctet : Stmt := match topS 12 with
  | .ClassDef (body := b) .. => b.getD 0 (.Pass ⟨0, 0, 0, 0⟩)
  | s => s
def st_i_BadDigit : Stmt := match topS 13 with
  | .ClassDef (body := b) .. => b.getD 0 (.Pass ⟨0, 0, 0, 0⟩)
  | s => s
def st_i_Behind : Stmt := match topS 14 with
  | .ClassDef (body := b) .. => b.getD 0 (.Pass ⟨0, 0, 0, 0⟩)
  | s => s
def st_i_TooMany : Stmt := match topS 15 with
  | .ClassDef (body := b) .. => b.getD 0 (.Pass ⟨0, 0, 0, 0⟩)
  | s => s
def st_i_Double : Stmt := match topS 16 with
  | .ClassDef (body := b) .. => b.getD 0 (.Pass ⟨0, 0, 0, 0⟩)
  | s => s
/-! which class is whose -/
def subT : List (Str × Str × Bool) := [("BadDigit", "BadDigit", true), ("NoEnd", "BadDigit", false), ("NoEnd", "NoEnd", true), ("Behind", "BadDigit", false), ("Behind", "NoEnd", false), ("Behind", "Behind", true), ("NotOctets", "BadDigit", false), ("NotOctets", "NoEnd", false), ("NotOctets", "Behind", false), ("NotOctets", "NotOctets", true), ("TooMany", "BadDigit", false), ("TooMany", "NoEnd", false), ("TooMany", "Behind", false), ("TooMany", "NotOctets", false), ("TooMany", "TooMany", true), ("BadOctet", "TooMany", false), ("BadOctet", "BadOctet", true), ("FewWords", "TooMany", false), ("FewWords", "BadOctet", false), ("FewWords", "FewWords", true)]
def sub : Str → Str → Option Bool := subOf subT
/-! the mirrors -/
def b_same_parts (rec : List Arg → Unit → FO Unit) : M Unit Fl :=
  (sq (mIf (asB (m1 (dIs "list") (mV 0)))
  (mRetF (mLc [1] (mI (mV 0)) (gN 1) tYesM (mCall 1 rec (mCons (mV 1) mNil))))
  nop)
  (sq (mIf (asB (m1 (dIs "tuple") (mV 0)))
  (mRet (mB gTup (mCons (mFz (mLc [1] (mI (mV 0)) (gN 1) tYesM (mCall 1 rec (mCons (mV 1) mNil)))) mNil)))
  nop)
  (mRetV 0)))
def m_same_parts : Nat → List Arg → Unit → FO Unit
  | 0 => fun _ _ => .stuck
  | n + 1 => fnOf 2 (b_same_parts (m_same_parts n))
def b_is_whole : M Unit Fl :=
  (mRet (mAndV (m1 (dIs "int") (mV 0)) (mNotV (m1 (dIs "bool") (mV 0)))))
@[irreducible] def m_is_whole : List Arg → Unit → FO Unit := fnOf 1 b_is_whole
def b_is_index : M Unit Fl :=
  (mRet (mAndV (mCall 1 m_is_whole (mCons (mV 0) mNil)) (mChain dLe dLt (rt (.int 0)) (mV 0) (mV 1))))
@[irreducible] def m_is_index : List Arg → Unit → FO Unit := fnOf 2 b_is_index
def b_copied (rec : List Arg → Unit → FO Unit) : M Unit Fl :=
  (sq (mIf (asB (m1 (dIs "list") (mV 0)))
  (mRetF (mLc [1] (mI (mV 0)) (gN 1) tYesM (mCall 1 rec (mCons (mV 1) mNil))))
  nop)
  (sq (mIf (asB (m1 (dIs "tuple") (mV 0)))
  (mRet (mB gTup (mCons (mFz (mLc [1] (mI (mV 0)) (gN 1) tYesM (mCall 1 rec (mCons (mV 1) mNil)))) mNil)))
  nop)
  (mRetV 0)))
def m_copied : Nat → List Arg → Unit → FO Unit
  | 0 => fun _ _ => .stuck
  | n + 1 => fnOf 2 (b_copied (m_copied n))
def b_check_state : M Unit Fl :=
  (mIf (mNot (asB (mCall 2 m_is_index (mCons (mV 1) (mCons (mB gLen (mCons (m2 dIx (mV 0) (rt (.int 1))) mNil)) mNil)))))
  (mRaise (mMk "BadState" ["value"] (m_same_parts 30) (mCons (mCall 1 (m_copied 30) (mCons (mV 1) mNil)) mNil)))
  nop)
@[irreducible] def m_check_state : List Arg → Unit → FO Unit := fnOf 2 b_check_state
def b_is_book : M Unit Fl :=
  (mRet (m2 dEq (mB gLen (mCons (m2 dIx (mV 0) (rt (.int 1))) mNil)) (rt (.int 1))))
@[irreducible] def m_is_book : List Arg → Unit → FO Unit := fnOf 1 b_is_book
def b_words_of : M Unit Fl :=
  (sq (mDrop (mCall 2 m_check_state (mCons (mV 0) (mCons (mV 1) mNil))))
  (mRet (mB gTup (mCons (mFz (mLc [2, 3] (mI (m2 dIx (m2 dIx (mV 0) (rt (.int 1))) (mV 1))) (gT (gC (gN 2) (gC (gN 3) gE))) tYesM (mV 2))) mNil))))
@[irreducible] def m_words_of : List Arg → Unit → FO Unit := fnOf 4 b_words_of
def b_book_words : M Unit Fl :=
  (sq (mIf (asB (m2 dNe (mB gLen (mCons (m2 dIx (mV 0) (rt (.int 1))) mNil)) (rt (.int 1))))
  (mRaise (mMk "NotBook" ["states"] (m_same_parts 30) (mCons (mB gLen (mCons (m2 dIx (mV 0) (rt (.int 1))) mNil)) mNil)))
  nop)
  (mRet (mCall 2 m_words_of (mCons (mV 0) (mCons (rt (.int 0)) mNil)))))
@[irreducible] def m_book_words : List Arg → Unit → FO Unit := fnOf 1 b_book_words
def b_is_below : M Unit Fl :=
  (mRet (mAndV (m1 (dIs "int") (mV 0)) (mAndV (mNotV (m1 (dIs "bool") (mV 0))) (mChain dLe dLt (rt (.int 0)) (mV 0) (mV 1)))))
@[irreducible] def m_is_below : List Arg → Unit → FO Unit := fnOf 2 b_is_below
def b_check_book : M Unit Fl :=
  (mIf (mNot (asB (mCall 1 m_is_book (mCons (mV 0) mNil))))
  (mRaise (mMk "NotBook" ["states"] (m_same_parts 30) (mCons (mB gLen (mCons (m2 dIx (mV 0) (rt (.int 1))) mNil)) mNil)))
  nop)
@[irreducible] def m_check_book : List Arg → Unit → FO Unit := fnOf 1 b_check_book
def b_check_base : M Unit Fl :=
  (sq (mIf (mNot (asB (mCall 2 m_is_below (mCons (mV 0) (mCons (m2 dAdd (rt (.int 64)) (rt (.int 1))) mNil)))))
  (mRaise (mMk "BadSize" ["size"] (m_same_parts 30) (mCons (mV 0) mNil)))
  nop)
  (mIf (asB (m2 dLt (mV 0) (rt (.int 3))))
  (mRaise (mMk "FewWords" ["found"] (m_same_parts 30) (mCons (mV 0) mNil)))
  nop))
@[irreducible] def m_check_base : List Arg → Unit → FO Unit := fnOf 1 b_check_base
def b_check_octets : M Unit Fl :=
  (sq (mIf (asB (m2 dGt (mB gLen (mCons (mV 0) mNil)) (rt (.int 24))))
  (mRaise (mMk "TooMany" ["what", "most"] (m_same_parts 30) (mCons (rt (.str "octets")) (mCons (rt (.int 24)) mNil))))
  nop)
  (mFor (mEnum (mCons (mV 0) mNil)) (gT (gC (gN 1) (gC (gN 2) gE)))
  (mIf (mNot (asB (mCall 2 m_is_below (mCons (mV 2) (mCons (rt (.int 256)) mNil)))))
  (mRaise (mMk "BadOctet" ["place"] (m_same_parts 30) (mCons (mV 1) mNil)))
  nop)))
@[irreducible] def m_check_octets : List Arg → Unit → FO Unit := fnOf 3 b_check_octets
def b_end_of : M Unit Fl :=
  (sq (mIf (asB (m2 dGt (mB gLen (mCons (mV 1) mNil)) (rt (.int 600))))
  (mRaise (mMk "TooMany" ["what", "most"] (m_same_parts 30) (mCons (rt (.str "digits")) (mCons (rt (.int 600)) mNil))))
  nop)
  (sq (mFor (mEnum (mCons (mV 1) mNil)) (gT (gC (gN 2) (gC (gN 3) gE)))
  (mIf (mNot (asB (mCall 2 m_is_below (mCons (mV 3) (mCons (mV 0) mNil)))))
  (mRaise (mMk "BadDigit" ["place"] (m_same_parts 30) (mCons (mV 2) mNil)))
  nop))
  (sq (mFor (mEnum (mCons (mV 1) mNil)) (gT (gC (gN 2) (gC (gN 3) gE)))
  (mIf (asB (m2 dEq (mV 3) (m2 dSub (mV 0) (rt (.int 1)))))
  (sq (mIf (asB (m2 dLt (m2 dAdd (mV 2) (rt (.int 1))) (mB gLen (mCons (mV 1) mNil))))
  (mRaise (mMk "Behind" ["place"] (m_same_parts 30) (mCons (m2 dAdd (mV 2) (rt (.int 1))) mNil)))
  nop)
  (mRetV 2))
  nop))
  (mRaise (mMk0 "NoEnd")))))
@[irreducible] def m_end_of : List Arg → Unit → FO Unit := fnOf 4 b_end_of
def b_digits_of : M Unit Fl :=
  (sq (mDrop (mCall 1 m_check_base (mCons (mV 0) mNil)))
  (sq (mDrop (mCall 1 m_check_octets (mCons (mV 1) mNil)))
  (sq (mSet 2 (rt (.int 1)))
  (sq (mFor (mI (mV 1)) (gN 3)
  (mSet 2 (m2 dAdd (m2 dMul (mV 2) (rt (.int 256))) (mV 3))))
  (sq (mSetF 4 (mLst mNil))
  (sq (whl (asB (m2 dGt (mV 2) (rt (.int 0))))
  (sq (mDrop (mMeth 4 gAppend (mCons (m2 dMod (mV 2) (m2 dSub (mV 0) (rt (.int 1)))) mNil)))
  (mSet 2 (m2 dDiv (mV 2) (m2 dSub (mV 0) (rt (.int 1)))))) fuel)
  (sq (mDrop (mMeth 4 gAppend (mCons (m2 dSub (mV 0) (rt (.int 1))) mNil)))
  (mRet (mO 4 gTupO)))))))))
@[irreducible] def m_digits_of : List Arg → Unit → FO Unit := fnOf 5 b_digits_of
def b_octets_of : M Unit Fl :=
  (sq (mDrop (mCall 1 m_check_base (mCons (mV 0) mNil)))
  (sq (mSet 2 (mCall 2 m_end_of (mCons (mV 0) (mCons (mV 1) mNil))))
  (sq (mIf (mOr (asB (m2 dEq (mV 2) (rt (.int 0)))) (asB (m2 dEq (m2 dIx (mV 1) (m2 dSub (mV 2) (rt (.int 1)))) (rt (.int 0)))))
  (mRaise (mMk0 "NotOctets"))
  nop)
  (sq (mSet 3 (rt (.int 0)))
  (sq (mFor (mR1 (mCons (mV 2) mNil)) (gN 4)
  (mSet 3 (m2 dAdd (m2 dMul (mV 3) (m2 dSub (mV 0) (rt (.int 1)))) (m2 dIx (mV 1) (m2 dSub (m2 dSub (mV 2) (rt (.int 1))) (mV 4))))))
  (sq (mSetF 5 (mLst mNil))
  (sq (whl (asB (m2 dGe (mV 3) (rt (.int 256))))
  (sq (mDrop (mMeth 5 gAppend (mCons (m2 dMod (mV 3) (rt (.int 256))) mNil)))
  (mSet 3 (m2 dDiv (mV 3) (rt (.int 256))))) fuel)
  (sq (mIf (asB (m2 dNe (mV 3) (rt (.int 1))))
  (mRaise (mMk0 "NotOctets"))
  nop)
  (sq (mIf (asB (m2 dGt (mO 5 gLenO) (rt (.int 24))))
  (mRaise (mMk "TooMany" ["what", "most"] (m_same_parts 30) (mCons (rt (.str "octets")) (mCons (rt (.int 24)) mNil))))
  nop)
  (mRet (mB gTup (mCons (mFz (mO 5 gRevO)) mNil))))))))))))
@[irreducible] def m_octets_of : List Arg → Unit → FO Unit := fnOf 6 b_octets_of
def b_say_octets : M Unit Fl :=
  (sq (mDrop (mCall 1 m_check_book (mCons (mV 0) mNil)))
  (sq (mDrop (mCall 1 m_check_octets (mCons (mV 1) mNil)))
  (sq (mSet 2 (mB gLen (mCons (mCall 1 m_book_words (mCons (mV 0) mNil)) mNil)))
  (sq (mIf (asB (m2 dLt (mV 2) (rt (.int 3))))
  (mRaise (mMk "FewWords" ["found"] (m_same_parts 30) (mCons (mV 2) mNil)))
  nop)
  (mRet (mCall 2 m_digits_of (mCons (mV 2) (mCons (mV 1) mNil))))))))
@[irreducible] def m_say_octets : List Arg → Unit → FO Unit := fnOf 3 b_say_octets
def b_walk : M Unit Fl :=
  (sq (mIf (asB (m2 dGt (mB gLen (mCons (mV 1) mNil)) (rt (.int 600))))
  (mRaise (mMk "TooMany" ["what", "most"] (m_same_parts 30) (mCons (rt (.str "saying")) (mCons (rt (.int 600)) mNil))))
  nop)
  (sq (mSet 2 (m2 dIx (mV 0) (rt (.int 1))))
  (sq (mSet 3 (rt (.int 0)))
  (sq (mSetF 4 (mLst mNil))
  (sq (mFor (mEnum (mCons (mV 1) mNil)) (gT (gC (gN 5) (gC (gN 6) gE)))
  (sq (mIf (mNot (asB (mCall 2 m_is_index (mCons (mV 6) (mCons (mB gLen (mCons (m2 dIx (mV 2) (mV 3)) mNil)) mNil)))))
  (mRaise (mMk "BadNumber" ["place"] (m_same_parts 30) (mCons (mV 5) mNil)))
  nop)
  (sq (mAsg (m2 dIx (m2 dIx (mV 2) (mV 3)) (mV 6)) (gT (gC (gN 7) (gC (gN 8) gE))))
  (sq (mDrop (mMeth 4 gAppend (mCons (mTup (mCons (mV 3) (mCons (mV 7) mNil))) mNil)))
  (mSet 3 (mV 8))))))
  (mRet (mTup (mCons (mO 4 gTupO) (mCons (mV 3) mNil)))))))))
@[irreducible] def m_walk : List Arg → Unit → FO Unit := fnOf 9 b_walk
def b_copy_of (rec : List Arg → Unit → FO Unit) : M Unit Fl :=
  (sq (mIf (asB (m1 (dIs "list") (mV 0)))
  (mRetF (mLc [1] (mI (mV 0)) (gN 1) tYesM (mCall 1 rec (mCons (mV 1) mNil))))
  nop)
  (sq (mIf (asB (m1 (dIs "tuple") (mV 0)))
  (mRet (mB gTup (mCons (mFz (mLc [1] (mI (mV 0)) (gN 1) tYesM (mCall 1 rec (mCons (mV 1) mNil)))) mNil)))
  nop)
  (mRetV 0)))
def m_copy_of : Nat → List Arg → Unit → FO Unit
  | 0 => fun _ _ => .stuck
  | n + 1 => fnOf 2 (b_copy_of (m_copy_of n))
def b_is_from_to : M Unit Fl :=
  (mRet (mAndV (m1 (dIs "int") (mV 0)) (mAndV (mNotV (m1 (dIs "bool") (mV 0))) (mChain dLe dLe (mV 1) (mV 0) (mV 2)))))
@[irreducible] def m_is_from_to : List Arg → Unit → FO Unit := fnOf 3 b_is_from_to
def b_tails : M Unit Fl :=
  (sq (mIf (mNot (asB (mCall 3 m_is_from_to (mCons (mV 1) (mCons (rt (.int 0)) (mCons (rt (.int 60)) mNil))))))
  (mRaise (mMk "BadSize" ["size"] (m_same_parts 30) (mCons (mCall 1 (m_copy_of 30) (mCons (mV 1) mNil)) mNil)))
  nop)
  (sq (mSet 2 (m2 dIx (mV 0) (rt (.int 1))))
  (sq (mSetF 3 (mLst (mCons (m2 dMul (mFz (mLst (mCons (rt (.int 1)) mNil))) (mB gLen (mCons (mV 2) mNil))) mNil)))
  (sq (mFor (mR1 (mCons (mV 1) mNil)) (gN 4)
  (sq (mSet 5 (mIxO 3 (mV 4)))
  (mDrop (mMeth 3 gAppend (mCons (mFz (mLc [6] (mI (mV 2)) (gN 6) tYesM (mB gSum (mCons (mFz (mLc [7, 8] (mI (mV 6)) (gT (gC (gN 7) (gC (gN 8) gE))) tYesM (m2 dIx (mV 5) (mV 8)))) mNil)))) mNil)))))
  (mRetV 3)))))
@[irreducible] def m_tails : List Arg → Unit → FO Unit := fnOf 9 b_tails
def b_saying_at : M Unit Fl :=
  (sq (mSet 3 (mCall 2 m_tails (mCons (mV 0) (mCons (mV 1) mNil))))
  (sq (mIf (mNot (asB (mCall 3 m_is_from_to (mCons (mV 2) (mCons (rt (.int 0)) (mCons (m2 dSub (m2 dIx (m2 dIx (mV 3) (mV 1)) (rt (.int 0))) (rt (.int 1))) mNil))))))
  (mRaise (mMk "NoNumber" ["number"] (m_same_parts 30) (mCons (mCall 1 (m_copy_of 30) (mCons (mV 2) mNil)) mNil)))
  nop)
  (sq (mSetF 4 (mLst mNil))
  (sq (mSet 5 (rt (.int 0)))
  (sq (mSet 6 (mV 2))
  (sq (mFor (mR1 (mCons (mV 1) mNil)) (gN 7)
  (sq (mSet 8 (m2 dIx (mV 3) (m2 dSub (m2 dSub (mV 1) (rt (.int 1))) (mV 7))))
  (sq (mSet 9 (m2 dIx (m2 dIx (mV 0) (rt (.int 1))) (mV 5)))
  (sq (mSet 10 (rt (.int 0)))
  (sq (whl (asB (m2 dGe (mV 6) (m2 dIx (mV 8) (m2 dIx (m2 dIx (mV 9) (mV 10)) (rt (.int 1))))))
  (sq (mSet 6 (m2 dSub (mV 6) (m2 dIx (mV 8) (m2 dIx (m2 dIx (mV 9) (mV 10)) (rt (.int 1))))))
  (mSet 10 (m2 dAdd (mV 10) (rt (.int 1))))) fuel)
  (sq (mDrop (mMeth 4 gAppend (mCons (mV 10) mNil)))
  (mSet 5 (m2 dIx (m2 dIx (mV 9) (mV 10)) (rt (.int 1))))))))))
  (mRet (mO 4 gTupO))))))))
@[irreducible] def m_saying_at : List Arg → Unit → FO Unit := fnOf 11 b_saying_at
def b_saying_rank : M Unit Fl :=
  (sq (mSet 2 (m2 dIx (mCall 2 m_walk (mCons (mV 0) (mCons (mV 1) mNil))) (rt (.int 0))))
  (sq (mSet 3 (mB gLen (mCons (mV 1) mNil)))
  (sq (mSet 4 (mCall 2 m_tails (mCons (mV 0) (mCons (mV 3) mNil))))
  (sq (mSet 5 (rt (.int 0)))
  (sq (mFor (mR1 (mCons (mV 3) mNil)) (gN 6)
  (sq (mSet 7 (m2 dIx (mV 4) (m2 dSub (m2 dSub (mV 3) (rt (.int 1))) (mV 6))))
  (sq (mSet 8 (m2 dIx (m2 dIx (mV 0) (rt (.int 1))) (m2 dIx (m2 dIx (mV 2) (mV 6)) (rt (.int 0)))))
  (mSet 5 (m2 dAdd (mV 5) (mB gSum (mCons (mFz (mLc [9] (mR1 (mCons (m2 dIx (mV 1) (mV 6)) mNil)) (gN 9) tYesM (m2 dIx (mV 7) (m2 dIx (m2 dIx (mV 8) (mV 9)) (rt (.int 1)))))) mNil)))))))
  (mRetV 5))))))
@[irreducible] def m_saying_rank : List Arg → Unit → FO Unit := fnOf 10 b_saying_rank
def b_book_made : M Unit Fl :=
  (mRet (mTup (mCons (mV 0) (mCons (mTup (mCons (mB gTup (mCons (mFz (mLc [2] (mI (mV 1)) (gN 2) tYesM (mTup (mCons (mV 2) (mCons (rt (.int 0)) mNil))))) mNil)) mNil)) mNil))))
@[irreducible] def m_book_made : List Arg → Unit → FO Unit := fnOf 3 b_book_made
def b_part : M Unit Fl :=
  (sq (mDrop (mCall 1 m_check_book (mCons (mV 0) mNil)))
  (sq (mSet 2 (mCall 1 m_book_words (mCons (mV 0) mNil)))
  (sq (mNewD 3 false)
  (sq (mFor (mEnum (mCons (mV 1) mNil)) (gT (gC (gN 4) (gC (gN 5) gE)))
  (sq (mIf (mNot (asB (mCall 2 m_is_below (mCons (mV 5) (mCons (mB gLen (mCons (mV 2) mNil)) mNil)))))
  (mRaise (mMk "BadNumber" ["place"] (m_same_parts 30) (mCons (mV 4) mNil)))
  nop)
  (sq (mIf (asB (mDIn 3 (mV 5)))
  (mRaise (mMk "Double" ["at", "number"] (m_same_parts 30) (mCons (rt (.int 0)) (mCons (mDGet 3 (mV 5)) mNil))))
  nop)
  (mDPut 3 (mV 4) (mV 5)))))
  (sq (mIf (mNot (mTruO 3))
  (mRaise (mMk "NoWord" ["at"] (m_same_parts 30) (mCons (rt (.int 0)) mNil)))
  nop)
  (mRet (mCall 2 m_book_made (mCons (m2 dIx (mV 0) (rt (.int 0))) (mCons (mFz (mLc [5] (mI (mV 1)) (gN 5) tYesM (m2 dIx (mV 2) (mV 5)))) mNil)))))))))
@[irreducible] def m_part : List Arg → Unit → FO Unit := fnOf 6 b_part
def b__law_number (cs : List Addr) : M Sto Fl :=
  (sq (mIf (asB (m2 dLe (mV 2) (mV 1)))
  (mRetV 1)
  nop)
  (sq (mSet 3 (mCall 2 (m__law_take cs) (mTok 0 (mCons (rt (.int 6)) mNil))))
  (sq (mIf (asB (m2 dEq (mV 3) (rt (.int 0))))
  (mRetV 1)
  nop)
  (sq (mIf (asB (m2 dEq (mV 3) (rt (.int 1))))
  (mRetV 2)
  nop)
  (mRet (m2 dAdd (mV 1) (mCall 2 (m__law_take cs) (mTok 0 (mCons (m2 dAdd (m2 dSub (mV 2) (mV 1)) (rt (.int 1))) mNil)))))))))
@[irreducible] def m__law_number (cs : List Addr) : List Arg → Sto → FO Sto := fnOf 4 (b__law_number cs)
def b__law_size (cs : List Addr) : M Sto Fl :=
  (sq (mSet 4 (mCall 2 (m__law_take cs) (mTok 0 (mCons (rt (.int 24)) mNil))))
  (sq (mIf (asB (m2 dLt (mV 4) (rt (.int 4))))
  (mRetV 1)
  nop)
  (sq (mIf (asB (m2 dLt (mV 4) (rt (.int 6))))
  (mRetV 2)
  nop)
  (sq (mIf (asB (m2 dEq (mV 4) (rt (.int 6))))
  (mRetV 3)
  nop)
  (sq (mIf (asB (m2 dEq (mV 4) (rt (.int 7))))
  (mRet (m2 dAdd (mV 1) (mCall 2 (m__law_take cs) (mTok 0 (mCons (m2 dAdd (m2 dSub (mV 3) (mV 1)) (rt (.int 1))) mNil)))))
  nop)
  (mRet (m2 dAdd (mV 1) (mCall 2 (m__law_take cs) (mTok 0 (mCons (m2 dAdd (m2 dSub (mV 2) (mV 1)) (rt (.int 1))) mNil))))))))))
@[irreducible] def m__law_size (cs : List Addr) : List Arg → Sto → FO Sto := fnOf 5 (b__law_size cs)
def b__law_unlike (cs : List Addr) : M Sto Fl :=
  (sq (mSetF 3 (mLst mNil))
  (sq (mFor (mR1 (mCons (mB gMin2 (mCons (mV 2) (mCons (mV 1) mNil))) mNil)) (gN 4)
  (sq (mSet 5 (mCall 2 (m__law_take cs) (mTok 0 (mCons (mV 1) mNil))))
  (sq (mFor (mR1 (mCons (mO 3 gLenO) mNil)) (gN 6)
  (sq (mIf (asB (mInO dNotInO 3 (mV 5)))
  mBrk
  nop)
  (mSet 5 (m2 dMod (mB gInt (mCons (m2 dAdd (mV 5) (rt (.int 1))) mNil)) (mV 1)))))
  (mDrop (mMeth 3 gAppend (mCons (mV 5) mNil))))))
  (mRetV 3)))
@[irreducible] def m__law_unlike (cs : List Addr) : List Arg → Sto → FO Sto := fnOf 7 (b__law_unlike cs)
def b__law_power : M Unit Fl :=
  (sq (mSet 2 (rt (.int 1)))
  (sq (mFor (mR1 (mCons (mV 1) mNil)) (gN 3)
  (mSet 2 (m2 dMul (mV 2) (mV 0))))
  (mRetV 2)))
@[irreducible] def m__law_power : List Arg → Unit → FO Unit := fnOf 4 b__law_power
def b__law_kind : M Unit Fl :=
  (sq (mIf (asB (m1 dIsN (mV 0)))
  (mRet (rt (.int 0)))
  nop)
  (sq (mIf (asB (m1 (dIs "bool") (mV 0)))
  (mRet (rt (.int 1)))
  nop)
  (sq (mIf (asB (m1 (dIs "int") (mV 0)))
  (mRet (rt (.int 2)))
  nop)
  (sq (mIf (asB (m1 (dIs "str") (mV 0)))
  (mRet (rt (.int 3)))
  nop)
  (sq (mIf (asB (m1 (dIs "tuple") (mV 0)))
  (mRet (rt (.int 4)))
  nop)
  (sq (mIf (asB (m1 (dIs "list") (mV 0)))
  (mRet (rt (.int 5)))
  nop)
  (mRet (rt (.int 6)))))))))
@[irreducible] def m__law_kind : List Arg → Unit → FO Unit := fnOf 1 b__law_kind
def b__law_same : M Unit Fl :=
  (sq (mSetF 2 (mLst (mCons (mTup (mCons (mV 0) (mCons (mV 1) mNil))) mNil)))
  (sq (mFor (mR1 (mCons (rt (.int 200000)) mNil)) (gN 3)
  (sq (mIf (asB (m2 dEq (mO 2 gLenO) (rt (.int 0))))
  (mRet (rt (.bool true)))
  nop)
  (sq (mAsg (mMeth0 2 gPop) (gT (gC (gN 4) (gC (gN 5) gE))))
  (sq (mSet 6 (mCall 1 m__law_kind (mCons (mV 4) mNil)))
  (sq (mIf (mOr (asB (m2 dEq (mV 6) (rt (.int 6)))) (asB (m2 dNe (mV 6) (mCall 1 m__law_kind (mCons (mV 5) mNil)))))
  (mRet (rt (.bool false)))
  nop)
  (mIf (asB (m2 dLt (mV 6) (rt (.int 4))))
  (mIf (asB (m2 dNe (mV 4) (mV 5)))
  (mRet (rt (.bool false)))
  nop)
  (mIf (asB (m2 dNe (mB gLen (mCons (mV 4) mNil)) (mB gLen (mCons (mV 5) mNil))))
  (mRet (rt (.bool false)))
  (mFor (mR1 (mCons (mB gLen (mCons (mV 4) mNil)) mNil)) (gN 7)
  (mDrop (mMeth 2 gAppend (mCons (mTup (mCons (m2 dIx (mV 4) (mV 7)) (mCons (m2 dIx (mV 5) (mV 7)) mNil))) mNil)))))))))))
  (mRet (rt (.bool false)))))
@[irreducible] def m__law_same : List Arg → Unit → FO Unit := fnOf 8 b__law_same
def b__law_is_whole : M Unit Fl :=
  (mRet (mAndV (m1 (dIs "int") (mV 0)) (mNotV (m1 (dIs "bool") (mV 0)))))
@[irreducible] def m__law_is_whole : List Arg → Unit → FO Unit := fnOf 1 b__law_is_whole
def b__law_mask_word : M Unit Fl :=
  (sq (mSetF 2 (mLst mNil))
  (sq (mSet 3 (mV 0))
  (sq (mFor (mR1 (mCons (mV 1) mNil)) (gN 4)
  (sq (mIf (asB (m2 dEq (m2 dMod (mB gInt (mCons (mV 3) mNil)) (rt (.int 2))) (rt (.int 1))))
  (mDrop (mMeth 2 gAppend (mCons (mV 4) mNil)))
  nop)
  (mSet 3 (m2 dDiv (mV 3) (rt (.int 2))))))
  (mRet (mO 2 gTupO)))))
@[irreducible] def m__law_mask_word : List Arg → Unit → FO Unit := fnOf 5 b__law_mask_word
def b__law_bent_list (cs : List Addr) : M Sto Fl :=
  (sq (mSetF 4 (mBF gLst (mCons (mV 1) mNil)))
  (sq (mSet 5 (mCall 2 (m__law_take cs) (mTok 0 (mCons (m2 dAdd (mO 4 gLenO) (mB gInt (mCons (m2 dLt (mO 4 gLenO) (mV 3)) mNil))) mNil))))
  (sq (mIf (asB (m2 dEq (mV 5) (mO 4 gLenO)))
  (mDrop (mMeth 4 gAppend (mCons (mV 2) mNil)))
  (mSetIx 4 (mV 2) (mV 5)))
  (mRet (mTup (mCons (mV 4) (mCons (mV 5) mNil)))))))
@[irreducible] def m__law_bent_list (cs : List Addr) : List Arg → Sto → FO Sto := fnOf 6 (b__law_bent_list cs)
def b__law_book : M Unit Fl :=
  (mRet (mTup (mCons (mV 0) (mCons (mTup (mCons (mB gTup (mCons (mFz (mLc [2] (mI (mV 1)) (gN 2) tYesM (mTup (mCons (mV 2) (mCons (rt (.int 0)) mNil))))) mNil)) mNil)) mNil))))
@[irreducible] def m__law_book : List Arg → Unit → FO Unit := fnOf 3 b__law_book
def b__law_octets (cs : List Addr) : M Sto Fl :=
  (sq (mSet 1 (mCall 4 (m__law_size cs) (mTok 0 (mCons (rt (.int 0)) (mCons (rt (.int 3)) (mCons (rt (.int 24)) mNil))))))
  (sq (mSet 2 (mCall 3 (m__law_number cs) (mTok 0 (mCons (rt (.int 0)) (mCons (rt (.int 255)) mNil)))))
  (sq (mIf (asB (m2 dEq (mCall 2 (m__law_take cs) (mTok 0 (mCons (rt (.int 6)) mNil))) (rt (.int 0))))
  (mRet (m2 dMul (mFz (mLst (mCons (mV 2) mNil))) (mV 1)))
  nop)
  (mRetF (mLc [3] (mR1 (mCons (mV 1) mNil)) (gN 3) tYesM (mCall 3 (m__law_number cs) (mTok 0 (mCons (rt (.int 0)) (mCons (rt (.int 255)) mNil)))))))))
@[irreducible] def m__law_octets (cs : List Addr) : List Arg → Sto → FO Sto := fnOf 4 (b__law_octets cs)
def b__law_digits : M Unit Fl :=
  (sq (mSetF 2 (mLst mNil))
  (sq (mSet 3 (mV 0))
  (sq (mFor (mR1 (mCons (rt (.int 400)) mNil)) (gN 4)
  (sq (mIf (asB (m2 dEq (mV 3) (rt (.int 0))))
  mBrk
  nop)
  (sq (mDrop (mMeth 2 gAppend (mCons (m2 dMod (mB gInt (mCons (mV 3) mNil)) (mV 1)) mNil)))
  (mSet 3 (m2 dDiv (mV 3) (mV 1))))))
  (mRetV 2))))
@[irreducible] def m__law_digits : List Arg → Unit → FO Unit := fnOf 5 b__law_digits
def b__law_value : M Unit Fl :=
  (sq (mSet 1 (rt (.int 1)))
  (sq (mFor (mI (mV 0)) (gN 2)
  (mSet 1 (m2 dAdd (m2 dMul (mV 1) (rt (.int 256))) (mV 2))))
  (mRetV 1)))
@[irreducible] def m__law_value : List Arg → Unit → FO Unit := fnOf 3 b__law_value
def b__law_read : M Unit Fl :=
  (sq (mFor (mR1 (mCons (mB gLen (mCons (mV 1) mNil)) mNil)) (gN 2)
  (mIf (mOr (mNot (asB (mCall 1 m__law_is_whole (mCons (m2 dIx (mV 1) (mV 2)) mNil)))) (mOr (asB (m2 dLt (m2 dIx (mV 1) (mV 2)) (rt (.int 0)))) (asB (m2 dGe (m2 dIx (mV 1) (mV 2)) (mV 0)))))
  (mRet (mTup (mCons (rt (.str "baddigit")) (mCons (mV 2) mNil))))
  nop))
  (sq (mIf (asB (m2 dNotIn (m2 dSub (mV 0) (rt (.int 1))) (mV 1)))
  (mRet (mTup (mCons (rt (.str "noend")) mNil)))
  nop)
  (sq (mSet 3 (m2 dIx (mFz (mLc [2] (mR1 (mCons (mB gLen (mCons (mV 1) mNil)) mNil)) (gN 2) (asB (m2 dEq (m2 dIx (mV 1) (mV 2)) (m2 dSub (mV 0) (rt (.int 1))))) (mV 2))) (rt (.int 0))))
  (sq (mIf (asB (m2 dLt (m2 dAdd (mV 3) (rt (.int 1))) (mB gLen (mCons (mV 1) mNil))))
  (mRet (mTup (mCons (rt (.str "behind")) (mCons (m2 dAdd (mV 3) (rt (.int 1))) mNil))))
  nop)
  (sq (mIf (mOr (asB (m2 dEq (mV 3) (rt (.int 0)))) (asB (m2 dEq (m2 dIx (mV 1) (m2 dSub (mV 3) (rt (.int 1)))) (rt (.int 0)))))
  (mRet (mTup (mCons (rt (.str "notoctets")) mNil)))
  nop)
  (sq (mSet 4 (rt (.int 0)))
  (sq (mFor (mR1 (mCons (mV 3) mNil)) (gN 2)
  (mSet 4 (m2 dAdd (m2 dMul (mV 4) (m2 dSub (mV 0) (rt (.int 1)))) (m2 dIx (mV 1) (m2 dSub (m2 dSub (mV 3) (rt (.int 1))) (mV 2))))))
  (sq (mSet 5 (mCall 2 m__law_digits (mCons (mV 4) (mCons (rt (.int 256)) mNil))))
  (sq (mIf (asB (m2 dNe (m2 dIx (mV 5) (m1 dNeg (rt (.int 1)))) (rt (.int 1))))
  (mRet (mTup (mCons (rt (.str "notoctets")) mNil)))
  nop)
  (sq (mIf (asB (m2 dGt (mB gLen (mCons (mV 5) mNil)) (rt (.int 25))))
  (mRet (mTup (mCons (rt (.str "toomany")) (mCons (rt (.str "octets")) (mCons (rt (.int 24)) mNil)))))
  nop)
  (mRet (mTup (mCons (rt (.str "told")) (mCons (mB gTup (mCons (mSl (mFz (mLRev (mV 5))) (mP1 (rt (.int 1))) mP0) mNil)) mNil))))))))))))))
@[irreducible] def m__law_read : List Arg → Unit → FO Unit := fnOf 6 b__law_read
def b__law_asked_octets : M Unit Fl :=
  (mTry sub (mRet (mTup (mCons (rt (.str "told")) (mCons (mCall 2 m_octets_of (mCons (mV 0) (mCons (mV 1) mNil))) mNil))))
  [⟨"BadDigit", some 2, (mRet (mTup (mCons (rt (.str "baddigit")) (mCons (mAtt 2 "place" "BadDigit") mNil))))⟩,
  ⟨"NoEnd", some 2, (mRet (mTup (mCons (rt (.str "noend")) mNil)))⟩,
  ⟨"Behind", some 2, (mRet (mTup (mCons (rt (.str "behind")) (mCons (mAtt 2 "place" "Behind") mNil))))⟩,
  ⟨"NotOctets", some 2, (mRet (mTup (mCons (rt (.str "notoctets")) mNil)))⟩,
  ⟨"TooMany", some 2, (mRet (mTup (mCons (rt (.str "toomany")) (mCons (mAtt 2 "what" "TooMany") (mCons (mAtt 2 "most" "TooMany") mNil)))))⟩])
@[irreducible] def m__law_asked_octets : List Arg → Unit → FO Unit := fnOf 3 b__law_asked_octets
def b__law_asked_digits : M Unit Fl :=
  (mTry sub (sq (mIf (asB (m2 dEq (mV 0) (rt (.int 0))))
  (mRet (mTup (mCons (rt (.str "told")) (mCons (mCall 2 m_digits_of (mCons (mV 2) (mCons (mV 3) mNil))) mNil))))
  nop)
  (mRet (mTup (mCons (rt (.str "told")) (mCons (mCall 2 m_say_octets (mCons (mV 1) (mCons (mV 3) mNil))) mNil)))))
  [⟨"TooMany", some 4, (mRet (mTup (mCons (rt (.str "toomany")) (mCons (mAtt 4 "what" "TooMany") (mCons (mAtt 4 "most" "TooMany") mNil)))))⟩,
  ⟨"BadOctet", some 4, (mRet (mTup (mCons (rt (.str "badoctet")) (mCons (mAtt 4 "place" "BadOctet") mNil))))⟩,
  ⟨"FewWords", some 4, (mRet (mTup (mCons (rt (.str "fewwords")) (mCons (mAtt 4 "found" "FewWords") mNil))))⟩])
@[irreducible] def m__law_asked_digits : List Arg → Unit → FO Unit := fnOf 5 b__law_asked_digits
def b__law_is_spelled : M Unit Fl :=
  (sq (mSet 3 (mB gTup (mCons (m2 dAdd (mCall 2 m__law_digits (mCons (mCall 1 m__law_value (mCons (mV 2) mNil)) (mCons (m2 dSub (mV 1) (rt (.int 1))) mNil))) (mFz (mLst (mCons (m2 dSub (mV 1) (rt (.int 1))) mNil)))) mNil)))
  (sq (mFor (mI (mFz (mLst (mCons (mFz (mBF gLst (mCons (mV 2) mNil))) (mCons (mB gTup (mCons (mV 2) mNil)) mNil))))) (gN 4)
  (sq (mFor (mR1 (mCons (rt (.int 2)) mNil)) (gN 7)
  (mIf (mNot (asB (mCall 2 m__law_same (mCons (mCall 4 m__law_asked_digits (mCons (mV 7) (mCons (mV 0) (mCons (mV 1) (mCons (mV 4) mNil))))) (mCons (mTup (mCons (rt (.str "told")) (mCons (mV 3) mNil))) mNil)))))
  (mRet (rt (.bool false)))
  nop))
  (mIf (mNot (asB (mCall 2 m__law_same (mCons (mFz (mBF gLst (mCons (mV 4) mNil))) (mCons (mFz (mBF gLst (mCons (mV 2) mNil))) mNil)))))
  (mRet (rt (.bool false)))
  nop)))
  (sq (mFor (mI (mFz (mLst (mCons (mFz (mBF gLst (mCons (mV 3) mNil))) (mCons (mV 3) mNil))))) (gN 5)
  (sq (mIf (mNot (asB (mCall 2 m__law_same (mCons (mCall 2 m__law_asked_octets (mCons (mV 1) (mCons (mV 5) mNil))) (mCons (mTup (mCons (rt (.str "told")) (mCons (mB gTup (mCons (mV 2) mNil)) mNil))) mNil)))))
  (mRet (rt (.bool false)))
  nop)
  (mIf (mNot (asB (mCall 2 m__law_same (mCons (mFz (mBF gLst (mCons (mV 5) mNil))) (mCons (mFz (mBF gLst (mCons (mV 3) mNil))) mNil)))))
  (mRet (rt (.bool false)))
  nop)))
  (sq (mSet 6 (mB gTup (mCons (mFz (mLc [8] (mI (mV 3)) (gN 8) tYesM (mTup (mCons (rt (.int 0)) (mCons (m2 dIx (m2 dIx (m2 dIx (m2 dIx (mV 0) (rt (.int 1))) (rt (.int 0))) (mV 8)) (rt (.int 0))) mNil))))) mNil)))
  (mRet (mCall 2 m__law_same (mCons (mCall 2 m_walk (mCons (mV 0) (mCons (mFz (mBF gLst (mCons (mV 3) mNil))) mNil))) (mCons (mTup (mCons (mV 6) (mCons (rt (.int 0)) mNil))) mNil))))))))
@[irreducible] def m__law_is_spelled : List Arg → Unit → FO Unit := fnOf 9 b__law_is_spelled
def b__law_is_ranked : M Unit Fl :=
  (sq (mSet 3 (mFz (mBF gLst (mCons (mV 2) mNil))))
  (sq (mFor (mR1 (mCons (rt (.int 24)) mNil)) (gN 4)
  (sq (mIf (asB (m2 dLe (mB gLen (mCons (mCall 2 m__law_digits (mCons (mCall 1 m__law_value (mCons (mV 3) mNil)) (mCons (m2 dSub (mV 1) (rt (.int 1))) mNil))) mNil)) (rt (.int 60))))
  mBrk
  nop)
  (mSet 3 (mSl (mV 3) mP0 (mP1 (m1 dNeg (rt (.int 1))))))))
  (sq (mSet 5 (mCall 2 m_part (mCons (mV 0) (mCons (mFz (mLR1 (m2 dSub (mV 1) (rt (.int 1))))) mNil))))
  (sq (mIf (mNot (asB (mCall 2 m__law_same (mCons (mV 5) (mCons (mTup (mCons (m2 dIx (mV 0) (rt (.int 0))) (mCons (mTup (mCons (mSl (m2 dIx (m2 dIx (mV 0) (rt (.int 1))) (rt (.int 0))) mP0 (mP1 (m2 dSub (mV 1) (rt (.int 1))))) mNil)) mNil))) mNil)))))
  (mRet (rt (.bool false)))
  nop)
  (sq (mSet 6 (mCall 2 m_digits_of (mCons (mV 1) (mCons (mV 3) mNil))))
  (sq (mIf (mOr (mNot (asB (m1 (dIs "tuple") (mV 6)))) (asB (m2 dLt (mB gLen (mCons (mV 6) mNil)) (rt (.int 2)))))
  (mRet (rt (.bool false)))
  nop)
  (sq (mSet 7 (mB gTup (mCons (mFz (mLRev (mSl (mV 6) mP0 (mP1 (m1 dNeg (rt (.int 1))))))) mNil)))
  (sq (mSet 8 (mCall 1 m__law_value (mCons (mV 3) mNil)))
  (sq (mIf (mNot (asB (mCall 2 m__law_same (mCons (mCall 2 m_saying_rank (mCons (mV 5) (mCons (mV 7) mNil))) (mCons (mV 8) mNil)))))
  (mRet (rt (.bool false)))
  nop)
  (mRet (mCall 2 m__law_same (mCons (mCall 3 m_saying_at (mCons (mV 5) (mCons (mB gLen (mCons (mV 7) mNil)) (mCons (mV 8) mNil)))) (mCons (mV 7) mNil)))))))))))))
@[irreducible] def m__law_is_ranked : List Arg → Unit → FO Unit := fnOf 9 b__law_is_ranked
def b__law_bent_is_read (cs : List Addr) : M Sto Fl :=
  (sq (mSet 3 (m2 dAdd (mCall 2 (lift m__law_digits) (mCons (mCall 1 (lift m__law_value) (mCons (mV 2) mNil)) (mCons (m2 dSub (mV 1) (rt (.int 1))) mNil))) (mFz (mLst (mCons (m2 dSub (mV 1) (rt (.int 1))) mNil)))))
  (sq (mFor (mR1 (mCons (rt (.int 6)) mNil)) (gN 4)
  (sq (mSet 7 (mCall 2 (m__law_take cs) (mTok 0 (mCons (mB gLen (mCons (mV 3) mNil)) mNil))))
  (sq (mIf (asB (m2 dEq (mV 4) (rt (.int 0))))
  (mSet 7 (m2 dSub (mB gLen (mCons (mV 3) mNil)) (rt (.int 1))))
  nop)
  (sq (mIf (asB (m2 dEq (mV 4) (rt (.int 1))))
  (mSet 7 (m2 dSub (mB gLen (mCons (mV 3) mNil)) (rt (.int 2))))
  nop)
  (sq (mSetF 6 (mBF gLst (mCons (mV 3) mNil)))
  (sq (mSet 8 (mCall 2 (m__law_take cs) (mTok 0 (mCons (rt (.int 6)) mNil))))
  (sq (mSetIx 6 (m2 dAdd (mIxO 6 (mV 7)) (m2 dIx (mFz (mLst (mCons (rt (.int 1)) (mCons (rt (.int 1)) (mCons (rt (.int 1)) (mCons (m1 dNeg (rt (.int 1))) (mCons (m1 dNeg (rt (.int 1))) (mCons (rt (.int 0)) mNil)))))))) (mV 8))) (mV 7))
  (sq (mIf (asB (m2 dEq (mV 8) (rt (.int 5))))
  (mSetIx 6 (rt (.bool true)) (mV 7))
  nop)
  (mIf (mNot (asB (mCall 2 (lift m__law_same) (mCons (mCall 2 (lift m__law_asked_octets) (mCons (mV 1) (mCons (mFz (mO 6 gLstO)) mNil))) (mCons (mCall 2 (lift m__law_read) (mCons (mV 1) (mCons (mV 6) mNil))) mNil)))))
  (mRet (rt (.bool false)))
  nop)))))))))
  (sq (mSetF 5 (mLc [9] (mR1 (mCons (m2 dAdd (rt (.int 1)) (mCall 2 (m__law_take cs) (mTok 0 (mCons (rt (.int 3)) mNil)))) mNil)) (gN 9) tYesM (mCall 2 (m__law_take cs) (mTok 0 (mCons (mV 1) mNil)))))
  (sq (mFor (mI (mFz (mLst (mCons (mSl (mV 3) mP0 (mP1 (m1 dNeg (rt (.int 1))))) (mCons (m2 dAdd (mV 3) (mV 5)) (mCons (m2 dAdd (mSl (mV 3) mP0 (mP1 (m1 dNeg (rt (.int 1))))) (mFz (mLst (mCons (rt (.int 0)) (mCons (m2 dSub (mV 1) (rt (.int 1))) mNil))))) (mCons (mFz (mLst (mCons (m2 dSub (mV 1) (rt (.int 1))) mNil))) (mCons (mFz (mLst mNil)) (mCons (mFz (mLst (mCons (rt (.int 1)) (mCons (m2 dSub (mV 1) (rt (.int 1))) mNil)))) mNil))))))))) (gN 6)
  (mIf (mNot (asB (mCall 2 (lift m__law_same) (mCons (mCall 2 (lift m__law_asked_octets) (mCons (mV 1) (mCons (mFz (mO 6 gLstO)) mNil))) (mCons (mCall 2 (lift m__law_read) (mCons (mV 1) (mCons (mV 6) mNil))) mNil)))))
  (mRet (rt (.bool false)))
  nop))
  (mRet (rt (.bool true)))))))
@[irreducible] def m__law_bent_is_read (cs : List Addr) : List Arg → Sto → FO Sto := fnOf 10 (b__law_bent_is_read cs)
def b__law_bounds_hold (cs : List Addr) : M Sto Fl :=
  (sq (mSet 4 (mSl (m2 dAdd (mFz (mBF gLst (mCons (mV 3) mNil))) (m2 dMul (mFz (mLst (mCons (mCall 2 (m__law_take cs) (mTok 0 (mCons (rt (.int 256)) mNil))) mNil))) (rt (.int 25)))) mP0 (mP1 (rt (.int 25)))))
  (sq (mSet 5 (m2 dAdd (mCall 2 (lift m__law_digits) (mCons (mCall 1 (lift m__law_value) (mCons (mV 4) mNil)) (mCons (m2 dSub (mV 2) (rt (.int 1))) mNil))) (mFz (mLst (mCons (m2 dSub (mV 2) (rt (.int 1))) mNil)))))
  (sq (mSet 6 (mTup (mCons (rt (.str "toomany")) (mCons (rt (.str "octets")) (mCons (rt (.int 24)) mNil)))))
  (sq (mIf (mNot (asB (mCall 2 (lift m__law_same) (mCons (mCall 2 (lift m__law_asked_octets) (mCons (mV 2) (mCons (mV 5) mNil))) (mCons (mV 6) mNil)))))
  (mRet (rt (.bool false)))
  nop)
  (sq (mAsg (mCall 4 (m__law_bent_list cs) (mTok 0 (mCons (mV 3) (mCons (m2 dIx (mFz (mLst (mCons (rt (.int 256)) (mCons (m1 dNeg (rt (.int 1))) (mCons (rt (.bool true)) (mCons (rt .none) (mCons (m2 dPow (rt (.int 10)) (rt (.int 60))) mNil))))))) (mCall 2 (m__law_take cs) (mTok 0 (mCons (rt (.int 5)) mNil)))) (mCons (rt (.int 24)) mNil))))) (gT (gC (gN 7) (gC (gN 8) gE))))
  (sq (mFor (mR1 (mCons (rt (.int 2)) mNil)) (gN 9)
  (sq (mIf (mNot (asB (mCall 2 (lift m__law_same) (mCons (mCall 4 (lift m__law_asked_digits) (mCons (mV 9) (mCons (mV 1) (mCons (mV 2) (mCons (mFz (mBF gLst (mCons (mV 4) mNil))) mNil))))) (mCons (mV 6) mNil)))))
  (mRet (rt (.bool false)))
  nop)
  (mIf (mNot (asB (mCall 2 (lift m__law_same) (mCons (mCall 4 (lift m__law_asked_digits) (mCons (mV 9) (mCons (mV 1) (mCons (mV 2) (mCons (mFz (mBF gLst (mCons (mV 7) mNil))) mNil))))) (mCons (mTup (mCons (rt (.str "badoctet")) (mCons (mV 8) mNil))) mNil)))))
  (mRet (rt (.bool false)))
  nop)))
  (sq (mSet 10 (mTup (mCons (m2 dIx (mV 1) (rt (.int 0))) (mCons (mTup (mCons (mSl (m2 dIx (m2 dIx (mV 1) (rt (.int 1))) (rt (.int 0))) mP0 (mP1 (rt (.int 2)))) mNil)) mNil))))
  (sq (mIf (mNot (asB (mCall 2 (lift m__law_same) (mCons (mCall 4 (lift m__law_asked_digits) (mCons (rt (.int 1)) (mCons (mV 10) (mCons (mV 2) (mCons (mFz (mBF gLst (mCons (mV 3) mNil))) mNil))))) (mCons (mTup (mCons (rt (.str "fewwords")) (mCons (rt (.int 2)) mNil))) mNil)))))
  (mRet (rt (.bool false)))
  nop)
  (sq (mIf (mNot (asB (mCall 2 (lift m__law_same) (mCons (mCall 4 (lift m__law_asked_digits) (mCons (rt (.int 1)) (mCons (mV 10) (mCons (mV 2) (mCons (mFz (mBF gLst (mCons (mV 4) mNil))) mNil))))) (mCons (mV 6) mNil)))))
  (mRet (rt (.bool false)))
  nop)
  (sq (mIf (asB (m2 dGt (mCall 2 (m__law_take cs) (mTok 0 (mCons (rt (.int 8)) mNil))) (rt (.int 0))))
  (mRet (rt (.bool true)))
  nop)
  (sq (mIf (mNot (asB (mCall 2 (lift m__law_same) (mCons (mCall 2 (lift m__law_asked_octets) (mCons (mV 2) (mCons (m2 dMul (mFz (mLst (mCons (mV 2) mNil))) (rt (.int 601))) mNil))) (mCons (mTup (mCons (rt (.str "toomany")) (mCons (rt (.str "digits")) (mCons (rt (.int 600)) mNil)))) mNil)))))
  (mRet (rt (.bool false)))
  nop)
  (mRet (mCall 2 (lift m__law_same) (mCons (mCall 2 (lift m__law_asked_octets) (mCons (mV 2) (mCons (m2 dAdd (m2 dMul (mFz (mLst (mCons (rt (.int 1)) mNil))) (rt (.int 599))) (mFz (mLst (mCons (mV 2) mNil)))) mNil))) (mCons (mTup (mCons (rt (.str "baddigit")) (mCons (rt (.int 599)) mNil))) mNil)))))))))))))))
@[irreducible] def m__law_bounds_hold (cs : List Addr) : List Arg → Sto → FO Sto := fnOf 11 (b__law_bounds_hold cs)
def b_law (cs : List Addr) : M Sto Fl :=
  (sq (mSet 2 (m2 dAdd (rt (.int 3)) (mCall 2 (m__law_take cs) (mTok 1 (mCons (rt (.int 6)) mNil)))))
  (sq (mIf (asB (m2 dEq (mCall 2 (m__law_take cs) (mTok 1 (mCons (rt (.int 12)) mNil))) (rt (.int 0))))
  (mSet 2 (mB gMin2 (mCons (rt (.int 64)) (mCons (m2 dAdd (rt (.int 3)) (mCall 2 (m__law_take cs) (mTok 1 (mCons (rt (.int 124)) mNil)))) mNil))))
  nop)
  (sq (mSet 3 (rt (.int 3)))
  (sq (mFor (mR1 (mCons (rt (.int 4)) mNil)) (gN 4)
  (mIf (asB (m2 dLt (m2 dSub (mCall 2 (lift m__law_power) (mCons (rt (.int 2)) (mCons (mV 3) mNil))) (rt (.int 1))) (mV 2)))
  (mSet 3 (m2 dAdd (mV 3) (rt (.int 1))))
  nop))
  (sq (mSetF 5 (mLc [8] (mI (mCall 3 (m__law_unlike cs) (mTok 1 (mCons (m2 dSub (mCall 2 (lift m__law_power) (mCons (rt (.int 2)) (mCons (mV 3) mNil))) (rt (.int 1))) (mCons (mV 2) mNil))))) (gN 8) tYesM (mCall 2 (lift m__law_mask_word) (mCons (m2 dAdd (mV 8) (rt (.int 1))) (mCons (mV 3) mNil)))))
  (sq (mSet 6 (mCall 2 (lift m__law_book) (mCons (mV 3) (mCons (mV 5) mNil))))
  (sq (mSet 7 (mCall 1 (m__law_octets cs) (mTok 1 mNil)))
  (sq (mIf (mOr (mNot (asB (mCall 3 (lift m__law_is_spelled) (mCons (mV 6) (mCons (mV 2) (mCons (mV 7) mNil)))))) (mNot (asB (mCall 3 (lift m__law_is_ranked) (mCons (mV 6) (mCons (mV 2) (mCons (mV 7) mNil)))))))
  (mRet (rt (.bool false)))
  nop)
  (sq (mIf (mNot (asB (mCall 3 (m__law_bent_is_read cs) (mTok 1 (mCons (mV 2) (mCons (mV 7) mNil))))))
  (mRet (rt (.bool false)))
  nop)
  (mRet (mCall 4 (m__law_bounds_hold cs) (mTok 1 (mCons (mV 6) (mCons (mV 2) (mCons (mV 7) mNil)))))))))))))))
@[irreducible] def m_law (cs : List Addr) : List Arg → Sto → FO Sto := fnOf 9 (b_law cs)
end Mi
set_option maxHeartbeats 4000000
namespace Mi
open PySem PySem.Spec PyProof.Rows L2
theorem takeL_in {n : Nat} {k : Int} (h : 2 ≤ k) : ∀ (l : List Addr) (i : Int) (s : Sto), 0 ≤ (takeL n k l i s).1 ∧ (takeL n k l i s).1 < k
  | [], i, s => ⟨Int.emod_nonneg _ (by omega), Int.emod_lt_of_pos _ (by omega)⟩
  | a :: l, i, s => by
    unfold takeL
    split
    · exact ⟨Int.emod_nonneg _ (by omega), Int.emod_lt_of_pos _ (by omega)⟩
    · split
      · exact ⟨Int.emod_nonneg _ (by omega), Int.emod_lt_of_pos _ (by omega)⟩
      · exact takeL_in h l _ _
theorem takeF_in {cs : List Addr} {k : Int} {s : Sto} (h : 0 < k) : 0 ≤ (takeF cs k s).1 ∧ (takeF cs k s).1 < k := by
  unfold takeF
  split
  · exact ⟨Int.le_refl _, h⟩
  · exact takeL_in (by omega) _ _ _
/-- a number of lo..hi-1 -/
def RI (lo hi : Int) (r : R) : Prop := ∃ k : Int, r = .sh (.int k) ∧ lo ≤ k ∧ k < hi
theorem take_sp (cs : List Addr) (k : Int) (s : Sto) (h0 : 0 < k) (h1 : k < 2 ^ 64) : Fn (m__law_take cs) [.tok, .d (.int k)] s (fun r _ => RI 0 k r) fun _ _ => False := by
  have hl : k.natAbs.log2 < 9000 := by
    have : k.natAbs < 2 ^ 64 := by omega
    have := (Nat.log2_lt (by omega)).mpr this
    omega
  unfold Fn m__law_take m_take
  dsimp only
  rw [if_pos hl]
  exact ⟨_, rfl, takeF_in h0⟩
/-- from any draw -/
theorem wTake {cs : List Addr} {e : En Sto} {k : Int} {Q : Mi.D → En Sto → Prop} {X : Er → En Sto → Prop} (h0 : 0 < k) (h1 : k < 2 ^ 64) (q : ∀ (j : Int) s1, 0 ≤ j → j < k → Q (.int j) { e with st := s1 }) : wCall 2 (m__law_take cs) [.tok, .d (.int k)] e Q X := by
  refine wCall_val (take_sp cs k e.st h0 h1) fun r s1 ⟨j, h, h2, h3⟩ => ?_
  subst h
  exact q j s1 h2 h3
theorem mulOk_small {a b : Int} (h0 : -(2 ^ 64) < b) (h1 : b < 2 ^ 64) : mulOk a b := .inl (.inr ⟨h0, h1⟩)
theorem mulOk_l {a b : Int} (h0 : -(2 ^ 64) < a) (h1 : a < 2 ^ 64) : mulOk a b := .inl (.inl ⟨h0, h1⟩)
theorem small_of {i : Int} (h0 : 0 ≤ i) (h1 : i ≤ 1000000) : small62 i := ⟨by omega, by omega⟩
/-- a great number -/
def GI (r : R) : Prop := ∃ k : Int, r = .sh (.int k) ∧ k.natAbs < 10 ^ 120
/-- numbers of lo..hi-1 -/
def LI (lo hi : Int) (ds : List Mi.D) : Prop := ∀ d ∈ ds, ∃ k : Int, d = .int k ∧ lo ≤ k ∧ k < hi
theorem LI.rng (n : Nat) : LI 0 n (rngD 0 n) := fun d hd => by
  obtain ⟨i, hi⟩ := List.getElem?_of_mem hd
  obtain ⟨h1, rfl⟩ := rngD_get hi
  exact ⟨_, rfl, by omega, by omega⟩
theorem LI.app {lo hi : Int} {xs ys : List Mi.D} (h : LI lo hi xs) (g : LI lo hi ys) : LI lo hi (xs ++ ys) := fun d hd => (List.mem_append.mp hd).elim (h d) (g d)
theorem LI.erase {lo hi : Int} {xs : List Mi.D} {i : Nat} (h : LI lo hi xs) : LI lo hi (xs.eraseIdx i) := fun d hd => h d (List.mem_of_mem_eraseIdx hd)
theorem popAt_ok {xs : List Mi.D} {i : Int} (h0 : 0 ≤ i) (h1 : i < xs.length) (h2 : xs.length ≤ 1000000) : ∃ d, d ∈ xs ∧ gPopAt xs [.d (.int i)] = some (d, xs.eraseIdx i.toNat) := by
  have hl : i.toNat < xs.length := by omega
  refine ⟨xs[i.toNat], List.getElem_mem hl, ?_⟩
  unfold gPopAt
  dsimp only
  rw [if_pos ⟨by omega, by omega⟩]
  have e : seqIndex? i xs.length = some i.toNat := by
    unfold seqIndex?
    simp only [Int.not_lt.mpr h0, if_false, h0, h1, decide_true, Bool.and_self, if_true]
  rw [e]
  dsimp only
  rw [List.getElem?_eq_getElem hl]
def OrdR (n : Nat) (r : R) : Prop := ∃ ds, r.d = .list ds ∧ ds.length = n ∧ LI 0 n ds
theorem sizeLine_big {n : Nat} (h : n ≤ 1000000) : n < sizeLine := by
  have := sizeLine_eq
  omega
theorem sizeLine_le {n : Nat} (h : n ≤ 1000000) : n ≤ sizeLine := Nat.le_of_lt (sizeLine_big h)
theorem canLay_all {lo hi : Int} : ∀ {ds : List Mi.D}, LI lo hi ds → PyData.canLayAll0 ds = true ∧ PyData.depthAll ds = 0
  | [], _ => ⟨rfl, rfl⟩
  | d :: ds, h => by
    obtain ⟨k, rfl, _, _⟩ := h d List.mem_cons_self
    obtain ⟨h1, h2⟩ := canLay_all (ds := ds) fun d hd => h d (List.mem_cons_of_mem _ hd)
    refine ⟨?_, ?_⟩
    · show (PyData.canLay0 (.int k) && PyData.canLayAll0 ds) = true
      rw [h1]; rfl
    · show max (PyData.depth (.int k)) (PyData.depthAll ds) = 0
      rw [h2]; rfl
theorem shaped_LI {lo hi : Int} {ds : List Mi.D} (h : LI lo hi ds) : SeqAt.shaped (.list ds) = true := by
  obtain ⟨h1, h2⟩ := canLay_all h
  unfold SeqAt.shaped
  show (PyData.canLayAll0 ds && decide (PyData.depthAll ds + 1 ≤ 64)) = true
  rw [h1, h2]
  rfl
theorem notIn_LI {lo hi k : Int} {ds : List Mi.D} (h : LI lo hi ds) : ∃ b, dNotInO (.int k) ds = some (.bool b) := by
  unfold dNotInO dNotIn
  dsimp only
  rw [if_pos ⟨rfl, shaped_LI h⟩]
  exact ⟨_, rfl⟩
theorem pow_le {a b : Nat} (h : a ≤ b) : (2 : Int) ^ a ≤ 2 ^ b := by
  have h0 : (2 : Nat) ^ a ≤ 2 ^ b := Nat.pow_le_pow_right (by decide) h
  exact_mod_cast h0
theorem pow_pos' (a : Nat) : (0 : Int) < 2 ^ a := by
  have h0 : 0 < (2 : Nat) ^ a := Nat.pos_of_ne_zero (by simp)
  exact_mod_cast h0
def BI : Int := 2 ^ 64
theorem LI.set {lo hi k : Int} {xs : List Mi.D} {i : Nat} (h : LI lo hi xs) (k0 : lo ≤ k) (k1 : k < hi) : LI lo hi (xs.set i (.int k)) := fun d hd => by
  rcases List.mem_or_eq_of_mem_set hd with h1 | h1
  · exact h d h1
  · exact ⟨k, h1, k0, k1⟩
theorem LI.mono {lo hi lo' hi' : Int} {xs : List Mi.D} (h : LI lo hi xs) (h1 : lo' ≤ lo) (h2 : hi ≤ hi') : LI lo' hi' xs := fun d hd => by
  obtain ⟨k, e, k0, k1⟩ := h d hd
  exact ⟨k, e, by omega, by omega⟩
theorem LI.at {lo hi i : Int} {xs : List Mi.D} (h : LI lo hi xs) (h0 : 0 ≤ i) (h1 : i < xs.length) : ∃ k : Int, dIx (.list xs) (.int i) = some (.int k) ∧ lo ≤ k ∧ k < hi := by
  obtain ⟨d, _, q2, q3, _⟩ := ix_at h0 h1
  obtain ⟨k, rfl, k0, k1⟩ := h d q2
  exact ⟨k, q3, k0, k1⟩
theorem LI.rep {lo hi k : Int} {n : Nat} (h0 : lo ≤ k) (h1 : k < hi) : LI lo hi (List.replicate n (.int k)) := fun d hd => ⟨k, (List.mem_replicate.mp hd).2, h0, h1⟩
theorem ixN_at {n : Nat} {i : Int} (h0 : 0 ≤ i) (h1 : i < n) : ixN n i = some i.toNat := by
  unfold ixN
  rw [if_pos h0, if_pos h1]
theorem ixN_m1 {n : Nat} (h : 0 < n) : ixN n (-1) = some (n - 1) := by
  unfold ixN
  rw [if_neg (by decide), if_pos (by omega)]
  congr 1
  omega
theorem rep_flat (n : Nat) (d : Mi.D) : (List.replicate n [d]).flatten = List.replicate n d := by
  induction n with
  | zero => rfl
  | succ n ih => rw [List.replicate_succ, List.flatten_cons, ih]; rfl
theorem repOk_of {xs : List Mi.D} {k : Int} (h0 : 0 ≤ k) (h1 : k ≤ 1000) (h2 : xs.length ≤ 1000) : repOk xs k := by
  refine ⟨by omega, by omega, sizeLine_le ?_⟩
  have : xs.length * k.toNat ≤ 1000 * 1000 := Nat.mul_le_mul h2 (by omega)
  omega
def getK : Mi.D → Int
  | .tuple [_, .int k] => k
  | _ => 0
def psOf : Mi.D → List Mi.D
  | .tuple ps => ps
  | _ => []
def sumK (row : List Int) (x : Mi.D) : Int := ((psOf x).map fun p => row.getD (getK p).toNat 0).sum
def stepR (st : List Mi.D) (row : List Int) : List Int := st.map (sumK row)
def rowR (st : List Mi.D) : Nat → List Int
  | 0 => List.replicate st.length 1
  | i + 1 => stepR st (rowR st i)
theorem rowR_len (st : List Mi.D) : ∀ i, (rowR st i).length = st.length
  | 0 => by simp [rowR]
  | i + 1 => by simp [rowR, stepR]
def rowD (st : List Mi.D) (i : Nat) : Mi.D := .list ((rowR st i).map .int)
def rowsD (st : List Mi.D) (n : Nat) : List Mi.D := (List.range n).map (rowD st)
theorem rowsD_len (st : List Mi.D) (n : Nat) : (rowsD st n).length = n := by simp [rowsD]
theorem rowsD_succ (st : List Mi.D) (n : Nat) : rowsD st (n + 1) = rowsD st n ++ [rowD st n] := by
  unfold rowsD
  rw [List.range_succ, List.map_append]
  rfl
theorem rowsD_at (st : List Mi.D) {n i : Nat} (h : i < n) : (rowsD st n)[i]? = some (rowD st i) := by
  unfold rowsD
  rw [List.getElem?_map, List.getElem?_range h]
  rfl
theorem toInts_ints (l : List Int) : toInts (l.map .int) = some l := by
  induction l with
  | nil => rfl
  | cons a l ih => rw [List.map_cons, toInts, ih]; rfl
theorem row_at {row : List Int} {k : Int} (h0 : 0 ≤ k) (h1 : k < row.length) : dIx (.list (row.map .int)) (.int k) = some (.int (row.getD k.toNat 0)) := by
  obtain ⟨d, q1, _, q3, _⟩ := ix_at (xs := row.map .int) h0 (by rw [List.length_map]; exact h1)
  rw [q3]
  rw [List.getElem?_map] at q1
  obtain ⟨z, z1, z2⟩ := Option.map_eq_some_iff.mp q1
  rw [List.getD_eq_getElem?_getD, z1]
  exact congrArg some z2.symm
theorem dIs_of {T : String} {d : Mi.D} {b : Bool} (h : kitB (tyN d) T = some b) : dIs T d = some (.bool b) := by unfold dIs; rw [h]; rfl
theorem is_int_i (k : Int) : dIs "int" (.int k) = some (.bool true) := dIs_of (by show kitB "int" "int" = _; decide +kernel)
theorem is_bool_i (k : Int) : dIs "bool" (.int k) = some (.bool false) := dIs_of (by show kitB "int" "bool" = _; decide +kernel)
/-- a state's row: pairs (word, next) with next among c states -/
def RowOk (c : Int) (d : Mi.D) : Prop := ∃ ps, d = .tuple ps ∧ 1 ≤ ps.length ∧ ps.length ≤ 64 ∧ ∀ p ∈ ps, ∃ (w : Mi.D) (k : Int), p = .tuple [w, .int k] ∧ 0 ≤ k ∧ k < c
def PlanOk (d : Mi.D) : Prop := ∃ (n : Mi.D) (st : List Mi.D), d = .tuple [n, .tuple st] ∧ 1 ≤ st.length ∧ st.length ≤ 12 ∧ ∀ x ∈ st, RowOk st.length x
def topR (st : List Mi.D) (w : Nat) : Int := (rowR st w).getD 0 0
theorem rows_ix (st : List Mi.D) {w : Int} {m : Nat} (w0 : 0 ≤ w) (w1 : w < m) : dIx (.list (rowsD st m)) (.int w) = some (rowD st w.toNat) := by
  obtain ⟨n, rfl⟩ : ∃ n : Nat, w = n := ⟨w.toNat, by omega⟩
  exact atI_nat (rowsD_at st (by omega))
theorem row_top (st : List Mi.D) (w : Nat) (c : 1 ≤ st.length) : dIx (rowD st w) (.int 0) = some (.int (topR st w)) := by
  have := row_at (row := rowR st w) (k := 0) (by omega) (by rw [rowR_len]; omega)
  exact this
/-- plain data of depth n at most -/
def Pl : Nat → Mi.D → Prop
  | n, .list xs => match n with
    | 0 => False
    | n + 1 => xs.length ≤ 1000 ∧ ∀ x ∈ xs, Pl n x
  | n, .tuple xs => match n with
    | 0 => False
    | n + 1 => xs.length ≤ 1000 ∧ ∀ x ∈ xs, Pl n x
  | _, .dict _ => False
  | _, .str x => PySem.PyData.strOk x = true
  | _, _ => True
theorem isl (d : Mi.D) (h : ∀ xs, d ≠ .list xs) (hd : ∀ ks, d ≠ .dict ks) : dIs "list" d = some (.bool false) := by
  cases d with
  | list xs => exact absurd rfl (h xs)
  | dict ks => exact absurd rfl (hd ks)
  | none => exact dIs_of (by show kitB "NoneType" "list" = _; decide +kernel)
  | bool _ => exact dIs_of (by show kitB "bool" "list" = _; decide +kernel)
  | int _ => exact dIs_of (by show kitB "int" "list" = _; decide +kernel)
  | str _ => exact dIs_of (by show kitB "str" "list" = _; decide +kernel)
  | tuple _ => exact dIs_of (by show kitB "tuple" "list" = _; decide +kernel)
theorem isl_l (xs : List Mi.D) : dIs "list" (.list xs) = some (.bool true) := dIs_of (by show kitB "list" "list" = _; decide +kernel)
theorem ist_t (xs : List Mi.D) : dIs "tuple" (.tuple xs) = some (.bool true) := dIs_of (by show kitB "tuple" "tuple" = _; decide +kernel)
theorem ist_n (d : Mi.D) (h : ∀ xs, d ≠ .tuple xs) (hd : ∀ ks, d ≠ .dict ks) : dIs "tuple" d = some (.bool false) := by
  cases d with
  | tuple xs => exact absurd rfl (h xs)
  | dict ks => exact absurd rfl (hd ks)
  | none => exact dIs_of (by show kitB "NoneType" "tuple" = _; decide +kernel)
  | bool _ => exact dIs_of (by show kitB "bool" "tuple" = _; decide +kernel)
  | int _ => exact dIs_of (by show kitB "int" "tuple" = _; decide +kernel)
  | str _ => exact dIs_of (by show kitB "str" "tuple" = _; decide +kernel)
  | list _ => exact dIs_of (by show kitB "list" "tuple" = _; decide +kernel)
theorem RelL.same {ds ys : List Mi.D} (h : RelL (fun d y => y = d) ds ys) : ys = ds := by
  induction h with
  | nil => rfl
  | cons h _ ih => rw [h, ih]
def kindOf : Mi.D → Int
  | .none => 0
  | .bool _ => 1
  | .int _ => 2
  | .str _ => 3
  | .tuple _ => 4
  | .list _ => 5
  | .dict _ => 6
theorem isN_n : dIsN .none = some (.bool true) := rfl
theorem isN_of {d : Mi.D} (h : d ≠ .none) : dIsN d = some (.bool false) := by cases d <;> first | rfl | exact absurd rfl h
theorem isTy (d : Mi.D) (T : String) (b : Bool) (h : kitB (tyN d) T = some b) : dIs T d = some (.bool b) := dIs_of h
mutual
def sz : PyData → Nat
  | .list xs => 1 + szs xs
  | .tuple xs => 1 + szs xs
  | .dict _ => 1
  | .none => 1
  | .bool _ => 1
  | .int _ => 1
  | .str _ => 1
def szs : List PyData → Nat
  | [] => 0
  | x :: xs => sz x + szs xs
end
theorem sz_pos (d : Mi.D) : 1 ≤ sz d := by cases d <;> simp [sz]
theorem szs_app (xs ys : List Mi.D) : szs (xs ++ ys) = szs xs + szs ys := by
  induction xs with
  | nil => simp [szs]
  | cons x xs ih => simp [szs, ih]; omega
theorem Pl_str {n : Nat} {x : Str} (h : Pl n (.str x)) : PySem.PyData.strOk x = true := by cases n <;> exact h
/-- a scalar equals itself -/
theorem dNe_same {n : Nat} {d : Mi.D} (h : Pl n d) (hk : kindOf d < 4) : dNe d d = some (.bool false) := by
  unfold dNe
  cases d with
  | none => rfl
  | bool b => cases b <;> rfl
  | int k =>
    have := dNe_i k k
    unfold dNe at this
    rw [this]
    simp
  | str x =>
    have hs : SeqAt.shaped (.str x) = true := by
      unfold SeqAt.shaped
      show (PySem.PyData.strOk x && decide (PyData.depth (.str x) ≤ 64)) = true
      rw [Pl_str h]; rfl
    rw [if_pos ⟨hs, hs⟩]
    show some (PyData.bool (!(x == x))) = _
    simp
  | tuple _ => simp [kindOf] at hk
  | list _ => simp [kindOf] at hk
  | dict _ => simp [kindOf] at hk
def pr (x : Mi.D) : Mi.D := .tuple [x, x]
theorem szs_len : ∀ (xs : List Mi.D), xs.length ≤ szs xs
  | [] => Nat.le_refl _
  | x :: xs => by
    have := szs_len xs
    have := sz_pos x
    simp only [szs, List.length_cons]
    omega
def reprOk (d : Mi.D) : Bool := d.showable && !d.hasDict && decide (d.depth ≤ 60) && decide (d.shown.length ≤ 1000) && PySem.PyData.strOk d.shown
def notNum : Mi.D → Bool
  | .int _ => false
  | .dict _ => false
  | _ => true
def plB : Nat → Mi.D → Bool
  | 0, .list _ => false
  | 0, .tuple _ => false
  | n + 1, .list xs => decide (xs.length ≤ 1000) && xs.all (plB n)
  | n + 1, .tuple xs => decide (xs.length ≤ 1000) && xs.all (plB n)
  | _, .dict _ => false
  | _, .str x => PySem.PyData.strOk x
  | _, _ => true
theorem plB_of : ∀ (n : Nat) (d : Mi.D), plB n d = true → Pl n d
  | 0, d, h => by
    cases d <;> first | trivial | exact h | (exact absurd h (by simp [plB]))
  | n + 1, d, h => by
    cases d with
    | list xs =>
      simp [plB] at h
      exact ⟨h.1, fun x hx => plB_of n x (h.2 x hx)⟩
    | tuple xs =>
      simp [plB] at h
      exact ⟨h.1, fun x hx => plB_of n x (h.2 x hx)⟩
    | _ => first | trivial | exact h | (exact absurd h (by simp [plB]))
def fineB (d : Mi.D) : Bool := reprOk d && notNum d && plB 29 d && decide (sz d ≤ 20)
/-- the menu of values that are no number of words -/
def Menu (k : Int) : List Mi.D := [.bool true, .bool false, .none, .str "", .str (PySem.Str.ofString k.repr), .list [], .tuple [], .list [.int k], .tuple [.int k], .str "a", .list [.list [.int k]], .tuple [.bool true, .none]]
/-- a value that stands for no number of 0..60 -/
def OutV (d : Mi.D) : Prop := (∃ k : Int, d = .int k ∧ (k < 0 ∨ 60 < k) ∧ k.natAbs < 10 ^ 120) ∨ ∃ k : Int, 0 ≤ k ∧ k < 5 ∧ d ∈ Menu k
theorem fine_menu : (List.range 5).all (fun k => (Menu k).all fineB) = true := by decide +kernel
def Usual (u : Int) : List Mi.D := [.bool true, .bool false, .none, .str (PySem.Str.ofString u.repr), .list [.int u], .tuple [.int u]]
theorem fine_usual : (List.range 61).all (fun k => (Usual k).all fineB) = true := by decide +kernel
theorem strOk_of (s : String) : PySem.PyData.strOk (PySem.Str.ofString s) = true := by
  rw [PySem.Str.ofString_eq_toList]
  unfold PySem.PyData.strOk
  simp only [Array.all_eq_true, List.getElem_toArray, decide_eq_true_eq, List.getElem_map]
  intro i hi
  have := (s.toList[i]'(by simpa using hi)).valid
  generalize s.toList[i]'(by simpa using hi) = c at *
  have e : c.toNat = c.val.toNat := rfl
  rw [e]
  rcases this with h | h
  · omega
  · omega
theorem shaped_str {x : Str} (h : PySem.PyData.strOk x = true) : SeqAt.shaped (.str x) = true := by
  unfold SeqAt.shaped
  show (PySem.PyData.strOk x && decide (PyData.depth (.str x) ≤ 64)) = true
  rw [h]; rfl
theorem dNe_str {x : Str} (h : PySem.PyData.strOk x = true) : dNe (.str x) (.str x) = some (.bool false) := by
  unfold dNe
  rw [if_pos ⟨shaped_str h, shaped_str h⟩]
  show some (PyData.bool (!(x == x))) = _
  simp
theorem isT (d : Mi.D) (T : String) (b : Bool) (h : kitB (tyN d) T = some b) : dIs T d = some (.bool b) := dIs_of h
@[simp] theorem is_int_none  : dIs "int" .none = some (.bool false) := dIs_of (by show kitB "NoneType" "int" = _; decide +kernel)
@[simp] theorem is_int_bool (v : Bool) : dIs "int" (.bool v) = some (.bool true) := dIs_of (by show kitB "bool" "int" = _; decide +kernel)
@[simp] theorem is_int_int (v : Int) : dIs "int" (.int v) = some (.bool true) := dIs_of (by show kitB "int" "int" = _; decide +kernel)
@[simp] theorem is_int_str (v : Str) : dIs "int" (.str v) = some (.bool false) := dIs_of (by show kitB "str" "int" = _; decide +kernel)
@[simp] theorem is_int_list (v : List Mi.D) : dIs "int" (.list v) = some (.bool false) := dIs_of (by show kitB "list" "int" = _; decide +kernel)
@[simp] theorem is_int_tuple (v : List Mi.D) : dIs "int" (.tuple v) = some (.bool false) := dIs_of (by show kitB "tuple" "int" = _; decide +kernel)
@[simp] theorem is_bool_none  : dIs "bool" .none = some (.bool false) := dIs_of (by show kitB "NoneType" "bool" = _; decide +kernel)
@[simp] theorem is_bool_bool (v : Bool) : dIs "bool" (.bool v) = some (.bool true) := dIs_of (by show kitB "bool" "bool" = _; decide +kernel)
@[simp] theorem is_bool_int (v : Int) : dIs "bool" (.int v) = some (.bool false) := dIs_of (by show kitB "int" "bool" = _; decide +kernel)
@[simp] theorem is_bool_str (v : Str) : dIs "bool" (.str v) = some (.bool false) := dIs_of (by show kitB "str" "bool" = _; decide +kernel)
@[simp] theorem is_bool_list (v : List Mi.D) : dIs "bool" (.list v) = some (.bool false) := dIs_of (by show kitB "list" "bool" = _; decide +kernel)
@[simp] theorem is_bool_tuple (v : List Mi.D) : dIs "bool" (.tuple v) = some (.bool false) := dIs_of (by show kitB "tuple" "bool" = _; decide +kernel)
@[simp] theorem is_str_none  : dIs "str" .none = some (.bool false) := dIs_of (by show kitB "NoneType" "str" = _; decide +kernel)
@[simp] theorem is_str_bool (v : Bool) : dIs "str" (.bool v) = some (.bool false) := dIs_of (by show kitB "bool" "str" = _; decide +kernel)
@[simp] theorem is_str_int (v : Int) : dIs "str" (.int v) = some (.bool false) := dIs_of (by show kitB "int" "str" = _; decide +kernel)
@[simp] theorem is_str_str (v : Str) : dIs "str" (.str v) = some (.bool true) := dIs_of (by show kitB "str" "str" = _; decide +kernel)
@[simp] theorem is_str_list (v : List Mi.D) : dIs "str" (.list v) = some (.bool false) := dIs_of (by show kitB "list" "str" = _; decide +kernel)
@[simp] theorem is_str_tuple (v : List Mi.D) : dIs "str" (.tuple v) = some (.bool false) := dIs_of (by show kitB "tuple" "str" = _; decide +kernel)
@[simp] theorem is_list_none  : dIs "list" .none = some (.bool false) := dIs_of (by show kitB "NoneType" "list" = _; decide +kernel)
@[simp] theorem is_list_bool (v : Bool) : dIs "list" (.bool v) = some (.bool false) := dIs_of (by show kitB "bool" "list" = _; decide +kernel)
@[simp] theorem is_list_int (v : Int) : dIs "list" (.int v) = some (.bool false) := dIs_of (by show kitB "int" "list" = _; decide +kernel)
@[simp] theorem is_list_str (v : Str) : dIs "list" (.str v) = some (.bool false) := dIs_of (by show kitB "str" "list" = _; decide +kernel)
@[simp] theorem is_list_list (v : List Mi.D) : dIs "list" (.list v) = some (.bool true) := dIs_of (by show kitB "list" "list" = _; decide +kernel)
@[simp] theorem is_list_tuple (v : List Mi.D) : dIs "list" (.tuple v) = some (.bool false) := dIs_of (by show kitB "tuple" "list" = _; decide +kernel)
@[simp] theorem is_tuple_none  : dIs "tuple" .none = some (.bool false) := dIs_of (by show kitB "NoneType" "tuple" = _; decide +kernel)
@[simp] theorem is_tuple_bool (v : Bool) : dIs "tuple" (.bool v) = some (.bool false) := dIs_of (by show kitB "bool" "tuple" = _; decide +kernel)
@[simp] theorem is_tuple_int (v : Int) : dIs "tuple" (.int v) = some (.bool false) := dIs_of (by show kitB "int" "tuple" = _; decide +kernel)
@[simp] theorem is_tuple_str (v : Str) : dIs "tuple" (.str v) = some (.bool false) := dIs_of (by show kitB "str" "tuple" = _; decide +kernel)
@[simp] theorem is_tuple_list (v : List Mi.D) : dIs "tuple" (.list v) = some (.bool false) := dIs_of (by show kitB "list" "tuple" = _; decide +kernel)
@[simp] theorem is_tuple_tuple (v : List Mi.D) : dIs "tuple" (.tuple v) = some (.bool true) := dIs_of (by show kitB "tuple" "tuple" = _; decide +kernel)
@[simp] theorem isN_none  : dIsN .none = some (.bool true) := (rfl)
@[simp] theorem notN_none  : dNotN .none = some (.bool false) := (rfl)
@[simp] theorem isN_bool (v : Bool) : dIsN (.bool v) = some (.bool false) := (rfl)
@[simp] theorem notN_bool (v : Bool) : dNotN (.bool v) = some (.bool true) := (rfl)
@[simp] theorem isN_int (v : Int) : dIsN (.int v) = some (.bool false) := (rfl)
@[simp] theorem notN_int (v : Int) : dNotN (.int v) = some (.bool true) := (rfl)
@[simp] theorem isN_str (v : Str) : dIsN (.str v) = some (.bool false) := (rfl)
@[simp] theorem notN_str (v : Str) : dNotN (.str v) = some (.bool true) := (rfl)
@[simp] theorem isN_list (v : List Mi.D) : dIsN (.list v) = some (.bool false) := (rfl)
@[simp] theorem notN_list (v : List Mi.D) : dNotN (.list v) = some (.bool true) := (rfl)
@[simp] theorem isN_tuple (v : List Mi.D) : dIsN (.tuple v) = some (.bool false) := (rfl)
@[simp] theorem notN_tuple (v : List Mi.D) : dNotN (.tuple v) = some (.bool true) := (rfl)
@[simp] theorem gPop_app (xs : List Mi.D) (d : Mi.D) : gPop (xs ++ [d]) [] = some (d, xs) := by unfold gPop; simp
/-- a slot that holds a list, apart or frozen -/
def Lst (x : Slot) (xs : List Mi.D) : Prop := x = .ow xs ∨ x = .sh (.list xs)
theorem Lst.o (xs : List Mi.D) : Lst (.ow xs) xs := .inl rfl
theorem Lst.s (xs : List Mi.D) : Lst (.sh (.list xs)) xs := .inr rfl
theorem wV_lst {S : Type} {x : Slot} {xs : List Mi.D} (h : Lst x xs) (i : Nat) (e : En S) (Q : Mi.D → En S → Prop) (hi : e.sl[i]? = some x) : wV (some x) i e Q = Q (.list xs) { e with sl := e.sl.set i (.sh (.list xs)) } := by
  rcases h with rfl | rfl
  · rfl
  · rw [wV_sh]
    obtain ⟨sl, s⟩ := e
    obtain ⟨h1, h2⟩ := List.getElem?_eq_some_iff.mp hi
    congr 2
    dsimp only at h1 h2 ⊢
    rw [← h2, List.set_getElem_self]
theorem wL_lst {x : Slot} {xs : List Mi.D} (h : Lst x xs) (Q : List Mi.D → Prop) : wL (some x) Q = Q xs := by
  rcases h with rfl | rfl <;> rfl
end Mi
set_option maxHeartbeats 4000000
namespace Mi
open PySem PySem.Spec PyProof.Rows L2
def isIntD : Mi.D → Bool
  | .int _ => true
  | _ => false
def inR (d : Mi.D) (lo hi : Int) : Bool := match d with
  | .int k => decide (lo ≤ k ∧ k ≤ hi)
  | _ => false
def idxOf (d : Mi.D) (n : Int) : Bool := match d with
  | .int k => decide (0 ≤ k ∧ k < n)
  | _ => false
def noDict : Mi.D → Prop
  | .dict _ => False
  | _ => True
theorem and_dec {a b : Prop} [Decidable a] [Decidable b] (h : a) : decide b = decide (a ∧ b) := by simp [h]
end Mi
set_option maxHeartbeats 4000000
namespace Mi
open PySem PySem.Spec PyProof.Rows L2
theorem is_whole_sp (d : Mi.D) (h : noDict d) : Fn m_is_whole [.d d] () (fun r _ => r = .sh (.bool (isIntD d))) fun _ _ => False := by
  unfold m_is_whole
  with_reducible refine Fn_of ?_
  unfold b_is_whole
  cases d with
  | dict _ => exact h.elim
  | _ => simp [isIntD]
end Mi
set_option maxHeartbeats 4000000
namespace Mi
open PySem PySem.Spec PyProof.Rows L2
theorem is_index_sp (d : Mi.D) (n : Int) (h : noDict d) : Fn m_is_index [.d d, .d (.int n)] () (fun r _ => r = .sh (.bool (idxOf d n))) fun _ _ => False := by
  unfold m_is_index
  with_reducible refine Fn_of ?_
  unfold b_is_index
  simp
  refine wCall_val (is_whole_sp d h) fun r s1 e => ?_
  subst e
  cases d with
  | int k =>
    simp [isIntD, idxOf]
    refine wIf_d (c := 0 ≤ k) (fun c => ?_) (fun c => ?_)
    · simp [c]
    · simp [c]
  | _ => simp [isIntD, idxOf]
end Mi
set_option maxHeartbeats 4000000
namespace Mi
open PySem PySem.Spec PyProof.Rows L2
/-! plans as plain tables: rows, sayings, their ranks -/
def rowL (st : List Mi.D) (s : Nat) : List Mi.D := psOf (st.getD s .none)
def gk (st : List Mi.D) (s a : Nat) : Nat := (getK ((rowL st s).getD a .none)).toNat
def rv (st : List Mi.D) (i s : Nat) : Int := (rowR st i).getD s 0
def bef (st : List Mi.D) (i s : Nat) : Nat → Int
  | 0 => 0
  | a + 1 => bef st i s a + rv st i (gk st s a)
theorem bef_succ (st : List Mi.D) (i s a : Nat) : bef st i s (a + 1) = bef st i s a + rv st i (gk st s a) := rfl
def rankF (st : List Mi.D) : Nat → List Nat → Int
  | _, [] => 0
  | s, a :: r => bef st r.length s a + rankF st (gk st s a) r
def okS (st : List Mi.D) : Nat → List Nat → Prop
  | _, [] => True
  | s, a :: r => a < (rowL st s).length ∧ okS st (gk st s a) r
def endS (st : List Mi.D) : Nat → List Nat → Nat
  | s, [] => s
  | s, a :: r => endS st (gk st s a) r
def StOk (st : List Mi.D) : Prop := 1 ≤ st.length ∧ st.length ≤ 12 ∧ ∀ x ∈ st, RowOk st.length x
theorem StOk.row {st : List Mi.D} (h : StOk st) {s : Nat} (hs : s < st.length) : ∃ ps, st[s]? = some (.tuple ps) ∧ rowL st s = ps ∧ 1 ≤ ps.length ∧ ps.length ≤ 64 ∧ ∀ p ∈ ps, ∃ (w : Mi.D) (k : Int), p = .tuple [w, .int k] ∧ 0 ≤ k ∧ k < st.length := by
  obtain ⟨ps, h1, h2, h3, h4⟩ := h.2.2 _ (List.getElem_mem hs)
  have e : st[s]? = some (.tuple ps) := by rw [List.getElem?_eq_getElem hs, h1]
  refine ⟨ps, e, ?_, h2, h3, h4⟩
  unfold rowL
  rw [List.getD_eq_getElem?_getD, e]
  rfl
theorem StOk.pair {st : List Mi.D} (h : StOk st) {s a : Nat} (hs : s < st.length) (ha : a < (rowL st s).length) : ∃ w, (rowL st s)[a]? = some (.tuple [w, .int (gk st s a)]) ∧ gk st s a < st.length := by
  obtain ⟨ps, e1, e2, _, _, h4⟩ := h.row hs
  obtain ⟨w, k, e3, k0, k1⟩ := h4 (rowL st s)[a] (by rw [← e2]; exact List.getElem_mem ha)
  have e : (rowL st s)[a]? = some (.tuple [w, .int k]) := by rw [List.getElem?_eq_getElem ha, e3]
  have g : gk st s a = k.toNat := by
    unfold gk
    rw [List.getD_eq_getElem?_getD, e]
    rfl
  refine ⟨w, ?_, by omega⟩
  rw [e, g]
  have : ((k.toNat : Nat) : Int) = k := by omega
  rw [this]
theorem StOk.gk_lt {st : List Mi.D} (h : StOk st) {s a : Nat} (hs : s < st.length) (ha : a < (rowL st s).length) : gk st s a < st.length := by
  obtain ⟨_, _, q⟩ := h.pair hs ha
  exact q
theorem rv_zero {st : List Mi.D} {s : Nat} (hs : s < st.length) : rv st 0 s = 1 := by
  unfold rv rowR
  rw [List.getD_eq_getElem?_getD, List.getElem?_replicate]
  simp [hs]
theorem bef_sum {st : List Mi.D} (i s : Nat) : ∀ a, a ≤ (rowL st s).length → bef st i s a = (((rowL st s).take a).map fun p => (rowR st i).getD (getK p).toNat 0).sum
  | 0, _ => rfl
  | a + 1, h => by
    have hl : a < (rowL st s).length := by omega
    rw [List.take_succ_eq_append_getElem hl, List.map_append, List.sum_append, ← bef_sum i s a (by omega), bef_succ]
    congr 1
    unfold rv gk
    rw [List.getD_eq_getElem?_getD (l := rowL st s), List.getElem?_eq_getElem hl]
    simp
theorem rv_succ {st : List Mi.D} {s : Nat} (i : Nat) (hs : s < st.length) : rv st (i + 1) s = bef st i s (rowL st s).length := by
  rw [bef_sum i s _ (Nat.le_refl _), List.take_length]
  unfold rv
  show (stepR st (rowR st i)).getD s 0 = _
  unfold stepR
  rw [List.getD_eq_getElem?_getD, List.getElem?_map, List.getElem?_eq_getElem hs]
  show sumK (rowR st i) st[s] = _
  unfold sumK rowL
  rw [List.getD_eq_getElem?_getD, List.getElem?_eq_getElem hs]
  rfl
theorem rv_pos {st : List Mi.D} (h : StOk st) : ∀ (i s : Nat), s < st.length → 1 ≤ rv st i s ∧ rv st i s ≤ 64 ^ i
  | 0, s, hs => by rw [rv_zero hs]; exact ⟨Int.le_refl _, by decide⟩
  | i + 1, s, hs => by
    rw [rv_succ i hs]
    obtain ⟨ps, _, e2, h2, h3, _⟩ := h.row hs
    have main : ∀ a, a ≤ (rowL st s).length → (a : Int) ≤ bef st i s a ∧ bef st i s a ≤ a * 64 ^ i := fun a => by
      induction a with
      | zero => intro _; exact ⟨Int.le_refl _, by simp [bef]⟩
      | succ a ih =>
        intro ha
        obtain ⟨i1, i2⟩ := ih (by omega)
        obtain ⟨r1, r2⟩ := rv_pos h i (gk st s a) (h.gk_lt hs (by omega))
        rw [bef_succ]
        have e : ((a + 1 : Nat) : Int) * 64 ^ i = a * 64 ^ i + 64 ^ i := by rw [Int.natCast_add, Int.add_mul]; simp
        rw [e]
        constructor <;> omega
    obtain ⟨m1, m2⟩ := main (rowL st s).length (Nat.le_refl _)
    rw [e2] at m1 m2 ⊢
    refine ⟨by omega, ?_⟩
    have e : (64 : Int) ^ (i + 1) = 64 * 64 ^ i := by rw [Int.pow_succ]; exact Int.mul_comm _ _
    rw [e]
    have p0 : (0 : Int) ≤ 64 ^ i := Int.le_of_lt (Int.pow_pos (by decide))
    have : (ps.length : Int) * 64 ^ i ≤ 64 * 64 ^ i := Int.mul_le_mul_of_nonneg_right (by omega) p0
    omega
theorem bef_nonneg {st : List Mi.D} (h : StOk st) {i s a : Nat} (hs : s < st.length) (ha : a ≤ (rowL st s).length) : 0 ≤ bef st i s a := by
  induction a with
  | zero => exact Int.le_refl _
  | succ a ih =>
    have := rv_pos h i _ (h.gk_lt hs (show a < _ by omega))
    have := ih (by omega)
    rw [bef_succ]
    omega
theorem bef_mono {st : List Mi.D} (h : StOk st) {i s : Nat} (hs : s < st.length) : ∀ {a b : Nat}, a ≤ b → b ≤ (rowL st s).length → bef st i s a ≤ bef st i s b := fun {a b} hab => by
  induction b with
  | zero => intro _; have : a = 0 := by omega
            subst this; exact Int.le_refl _
  | succ b ih =>
    intro hb
    rcases Nat.lt_or_ge a (b + 1) with h1 | h1
    · have := ih (by omega) (by omega)
      have := rv_pos h i _ (h.gk_lt hs (show b < _ by omega))
      rw [bef_succ]
      omega
    · have : a = b + 1 := by omega
      subst this; exact Int.le_refl _
theorem rank_in {st : List Mi.D} (h : StOk st) : ∀ (l : List Nat) (s : Nat), s < st.length → okS st s l → 0 ≤ rankF st s l ∧ rankF st s l < rv st l.length s
  | [], s, hs, _ => by
    rw [show ([] : List Nat).length = 0 from rfl, rv_zero hs]
    exact ⟨Int.le_refl _, by simp [rankF]⟩
  | a :: r, s, hs, ⟨ha, ho⟩ => by
    obtain ⟨r1, r2⟩ := rank_in h r (gk st s a) (h.gk_lt hs ha) ho
    have b0 := bef_nonneg h (i := r.length) hs (Nat.le_of_lt ha)
    have b1 : bef st r.length s (a + 1) ≤ _ := bef_mono h (i := r.length) hs (show a + 1 ≤ (rowL st s).length from ha) (Nat.le_refl _)
    rw [List.length_cons, rv_succ _ hs]
    show 0 ≤ bef st r.length s a + rankF st (gk st s a) r ∧ bef st r.length s a + rankF st (gk st s a) r < _
    rw [bef_succ] at b1
    omega
theorem endS_lt {st : List Mi.D} (h : StOk st) : ∀ (l : List Nat) (s : Nat), s < st.length → okS st s l → endS st s l < st.length
  | [], s, hs, _ => hs
  | a :: r, s, hs, ⟨ha, ho⟩ => endS_lt h r _ (h.gk_lt hs ha) ho
theorem endS_app {st : List Mi.D} : ∀ (l m : List Nat) (s : Nat), endS st s (l ++ m) = endS st (endS st s l) m
  | [], _, _ => rfl
  | a :: r, m, s => by rw [List.cons_append]; exact endS_app r m _
theorem okS_app {st : List Mi.D} : ∀ (l m : List Nat) (s : Nat), okS st s (l ++ m) ↔ okS st s l ∧ okS st (endS st s l) m
  | [], m, s => by simp [okS, endS]
  | a :: r, m, s => by
    rw [List.cons_append]
    show (_ ∧ okS st _ (r ++ m)) ↔ (_ ∧ okS st _ r) ∧ _
    rw [okS_app r m]
    exact and_assoc.symm
theorem rank_app {st : List Mi.D} : ∀ (l m : List Nat) (s : Nat), rankF st s (l ++ m) = rankF st s (l ++ m) - rankF st (endS st s l) m + rankF st (endS st s l) m := fun _ _ _ => by omega
/-- a saying as data -/
def intsD (l : List Nat) : List Mi.D := l.map fun a => .int (a : Nat)
theorem intsD_len (l : List Nat) : (intsD l).length = l.length := by simp [intsD]
theorem intsD_at {l : List Nat} {i : Nat} (h : i < l.length) : (intsD l)[i]? = some (.int (l[i] : Nat)) := by
  unfold intsD
  rw [List.getElem?_map, List.getElem?_eq_getElem h]
  rfl
theorem intsD_app (l m : List Nat) : intsD (l ++ m) = intsD l ++ intsD m := by simp [intsD]
def preF (st : List Mi.D) (m : Nat) : Nat → List Nat → Int
  | _, [] => 0
  | s, a :: t => bef st (t.length + m) s a + preF st m (gk st s a) t
theorem rank_pre {st : List Mi.D} : ∀ (l r : List Nat) (s : Nat), rankF st s (l ++ r) = preF st r.length s l + rankF st (endS st s l) r
  | [], r, s => by simp [preF, endS]
  | a :: t, r, s => by
    show bef st (t ++ r).length s a + rankF st (gk st s a) (t ++ r) = bef st (t.length + r.length) s a + preF st r.length (gk st s a) t + _
    rw [rank_pre t r, List.length_append, Int.add_assoc]
    rfl
theorem pre_snoc {st : List Mi.D} (m : Nat) (a : Nat) : ∀ (l : List Nat) (s : Nat), preF st m s (l ++ [a]) = preF st (m + 1) s l + bef st m (endS st s l) a
  | [], s => by simp [preF, endS]
  | b :: t, s => by
    show bef st ((t ++ [a]).length + m) s b + preF st m (gk st s b) (t ++ [a]) = bef st (t.length + (m + 1)) s b + preF st (m + 1) (gk st s b) t + bef st m (endS st (gk st s b) t) a
    rw [pre_snoc m a t, List.length_append, Int.add_assoc]
    congr 2
    simp
    omega
theorem rank_pre0 {st : List Mi.D} (l : List Nat) (s : Nat) : rankF st s l = preF st 0 s l := by
  have := rank_pre (st := st) l [] s
  simpa [rankF] using this
theorem bef_range {st : List Mi.D} (m s : Nat) : ∀ a, ((List.range a).map fun j => rv st m (gk st s j)).sum = bef st m s a
  | 0 => rfl
  | a + 1 => by
    rw [List.range_succ, List.map_append, List.sum_append, bef_range m s a, bef_succ]
    simp
theorem rv_top (st : List Mi.D) (w : Nat) : topR st w = rv st w 0 := rfl
end Mi
set_option maxHeartbeats 4000000
namespace Mi
open PySem PySem.Spec PyProof.Rows L2
/-! a list or a tuple, alike -/
structure SeqD (q : Mi.D) (xs : List Mi.D) : Prop where
  len : gLen [.d q] = some (.int xs.length)
  enu : enumOf [.d q] = some (enumF 0 xs)
  ix : ∀ i : Int, dIx q (.int i) = atI xs i
  seq : seqOf q = some xs
  nd : ∀ ks, q ≠ .dict ks
theorem SeqD.l (xs : List Mi.D) : SeqD (.list xs) xs := ⟨rfl, rfl, fun _ => rfl, rfl, fun _ h => nomatch h⟩
theorem SeqD.t (xs : List Mi.D) : SeqD (.tuple xs) xs := ⟨rfl, rfl, fun _ => rfl, rfl, fun _ h => nomatch h⟩
theorem atI_n {xs : List Mi.D} {i : Nat} (h : i < xs.length) : atI xs (i : Int) = some xs[i] := atI_nat (List.getElem?_eq_getElem h)
theorem atI_of {xs : List Mi.D} {i : Nat} {d : Mi.D} (h : xs[i]? = some d) : atI xs (i : Int) = some d := atI_nat h
@[simp] theorem dIx_l (xs : List Mi.D) (i : Int) : dIx (.list xs) (.int i) = atI xs i := (rfl)
@[simp] theorem dIx_t (xs : List Mi.D) (i : Int) : dIx (.tuple xs) (.int i) = atI xs i := (rfl)
@[simp] theorem atI_0 (x : Mi.D) (xs : List Mi.D) : atI (x :: xs) 0 = some x := atI_nat (j := 0) rfl
@[simp] theorem atI_1 (x y : Mi.D) (xs : List Mi.D) : atI (x :: y :: xs) 1 = some y := atI_nat (j := 1) rfl
@[simp] theorem atI_2 (x y z : Mi.D) (xs : List Mi.D) : atI (x :: y :: z :: xs) 2 = some z := atI_nat (j := 2) rfl
@[simp] theorem atI_3 (x y z t : Mi.D) (xs : List Mi.D) : atI (x :: y :: z :: t :: xs) 3 = some t := atI_nat (j := 3) rfl
theorem loop_cut {S : Type} {g : Mi.D → M S Unit} {b : M S Fl} {ds : List Mi.D} {e : En S} {Q : Fl → En S → Prop} {X : Er → En S → Prop} (n : Nat) (I : Nat → En S → Prop) (h0 : I 0 e) (hs : ∀ i d e, ds[i]? = some d → i < n → I i e → wG (g d) e (wpK b (loopQ (I (i + 1)) Q) X)) (hn : ∀ d e, ds[n]? = some d → I n e → wG (g d) e (wpK b (loopQ (fun _ => False) Q) X)) (hd : ∀ i e, i = ds.length → i ≤ n → I i e → Q .nx e) : wLoop g b ds e Q X := by
  refine wLoop_idx (fun i e => i ≤ n ∧ I i e) ⟨Nat.zero_le _, h0⟩ (fun i d e h1 ⟨h2, h3⟩ => ?_) fun e ⟨h1, h2⟩ => hd _ _ rfl h1 h2
  have up : ∀ {J K : En S → Prop}, (∀ e, J e → K e) → ∀ {e}, wG (g d) e (wpK b (loopQ J Q) X) → wG (g d) e (wpK b (loopQ K Q) X) := fun {J K} hJ {e} h => by
    unfold wG at h ⊢
    cases q : g d e with
    | ok u e1 =>
      rw [q] at h
      dsimp only at h ⊢
      rw [wpK_e] at h ⊢
      unfold wp at h ⊢
      cases w : b e1 with
      | ok fl e2 =>
        rw [w] at h
        cases fl with
        | nx => exact hJ _ h
        | ct => exact hJ _ h
        | bk => exact h
        | ret r => exact h
      | err x e2 => rw [w] at h; exact h
      | stuck => rw [w] at h; exact h
    | err x e1 => rw [q] at h; exact h
    | stuck => rw [q] at h; exact h
  rcases Nat.lt_or_ge i n with h | h
  · exact up (fun e he => ⟨h, he⟩) (hs i d e h1 h h3)
  · have : i = n := Nat.le_antisymm h2 h
    subst this
    exact up (fun e he => he.elim) (hn d e h1 h3)
end Mi
set_option maxHeartbeats 4000000
namespace Mi
open PySem PySem.Spec PyProof.Rows L2
theorem parts_sp : ∀ (n : Nat) (d : Mi.D), Pl n d → Fn (m_same_parts (n + 1)) [.d d] () (fun r _ => r.d = d) fun _ _ => False := by
  intro n
  induction n with
  | zero =>
    intro d h
    show Fn (fnOf 2 (b_same_parts (m_same_parts 0))) _ _ _ _
    with_reducible refine Fn_of ?_
    unfold b_same_parts
    cases d with
    | list xs => exact h.elim
    | tuple xs => exact h.elim
    | dict _ => exact h.elim
    | _ => simp [isl, ist_n]
  | succ n ih =>
    intro d h
    show Fn (fnOf 2 (b_same_parts (m_same_parts (n + 1)))) _ _ _ _
    with_reducible refine Fn_of ?_
    unfold b_same_parts
    cases d with
    | list xs =>
      simp [isl_l]
      refine wLcs_of (fun d y => y = d) (sizeLine_le (by have := h.1; omega)) (fun x hx s2 => ?_) fun ys s2 hr => ?_
      · simp [wipeE]
        refine wCall_val (ih x (h.2 x hx)) fun r s1 e => ?_
        simp [wipeE, e]
      · simp [hr.same]
    | tuple xs =>
      simp [isl, ist_t]
      refine wLcs_of (fun d y => y = d) (sizeLine_le (by have := h.1; omega)) (fun x hx s2 => ?_) fun ys s2 hr => ?_
      · simp [wipeE]
        refine wCall_val (ih x (h.2 x hx)) fun r s1 e => ?_
        simp [wipeE, e]
      · simp [hr.same]
    | dict _ => exact h.elim
    | _ => simp [isl, ist_n]
end Mi
set_option maxHeartbeats 4000000
namespace Mi
open PySem PySem.Spec PyProof.Rows L2
theorem mk1 {c f : Str} {d : Mi.D} (h : Pl 29 d) : mkOf c [f] (m_same_parts 30) [.d d] = some ⟨c, [(f, d)]⟩ := by
  obtain ⟨r, h1, h2⟩ := runAll1 (parts_sp 29 d h)
  unfold mkOf
  simp [h1, h2, zipR]
theorem runAll_two {f : List Arg → Unit → FO Unit} {d d2 : Mi.D} {r r' : R} (h : runAll f [d] = some [r]) (h' : runAll f [d2] = some [r']) : runAll f [d, d2] = some [r, r'] := by
  have e : ∀ xs, runAll f (d :: xs) = match f [.d d] () with
    | .val r _ => (runAll f xs).map (r :: ·)
    | _ => none := fun _ => rfl
  rw [e] at h
  rw [e, h']
  cases q : f [.d d] () with
  | val a u =>
    rw [q] at h
    have : a = r := by simpa [runAll] using h
    subst this
    rfl
  | exc x u => rw [q] at h; cases h
  | stuck => rw [q] at h; cases h
theorem mk2 {c f g : Str} {d d2 : Mi.D} (h : Pl 29 d) (h' : Pl 29 d2) : mkOf c [f, g] (m_same_parts 30) [.d d, .d d2] = some ⟨c, [(g, d2), (f, d)]⟩ := by
  obtain ⟨r, h1, h2⟩ := runAll1 (parts_sp 29 d h)
  obtain ⟨r', h1', h2'⟩ := runAll1 (parts_sp 29 d2 h')
  have e : runAll (m_same_parts 30) [d, d2] = some [r, r'] := runAll_two h1 h1'
  unfold mkOf
  simp [e, h2, h2', zipR]
end Mi
set_option maxHeartbeats 4000000
namespace Mi
open PySem PySem.Spec PyProof.Rows L2
/-! a part of a book -/
def bookD (n : Mi.D) (ws : List Mi.D) : Mi.D := .tuple [n, .tuple [.tuple (ws.map fun w => .tuple [w, .int 0])]]
inductive Res where
  | bad (p : Nat) | dbl (q : Nat) | nil | ok (ks : List Nat)
def natOf (n : Nat) : Mi.D → Option Nat
  | .int k => if 0 ≤ k ∧ k < n then some k.toNat else none
  | _ => none
def scan (n : Nat) : List Nat → List Mi.D → Res
  | done, [] => if done = [] then .nil else .ok done
  | done, x :: r => match natOf n x with
    | none => .bad done.length
    | some k => if k ∈ done then .dbl (done.idxOf k) else scan n (done ++ [k]) r
theorem scan_nil (n : Nat) (done : List Nat) : scan n done [] = if done = [] then .nil else .ok done := rfl
theorem scan_cons (n : Nat) (done : List Nat) (x : Mi.D) (r : List Mi.D) : scan n done (x :: r) = match natOf n x with
    | none => .bad done.length
    | some k => if k ∈ done then .dbl (done.idxOf k) else scan n (done ++ [k]) r := rfl
theorem natOf_some {n k : Nat} {x : Mi.D} (h : natOf n x = some k) : x = .int (k : Nat) ∧ k < n := by
  cases x with
  | int j =>
    change (if 0 ≤ j ∧ j < n then some j.toNat else none) = some k at h
    split at h
    · cases h
      refine ⟨?_, by omega⟩
      have : ((j.toNat : Nat) : Int) = j := by omega
      rw [this]
    · cases h
  | _ => cases h
theorem natOf_none {n : Nat} {x : Mi.D} (h : natOf n x = none) : idxOf x n = false := by
  cases x with
  | int j =>
    change (if 0 ≤ j ∧ j < n then some j.toNat else none) = none at h
    split at h
    · cases h
    · simp [idxOf]; omega
  | _ => rfl
def kvF (i : Nat) : List Nat → List (Key × Mi.D)
  | [] => []
  | k :: r => (.inl (k : Nat), .int (i : Nat)) :: kvF (i + 1) r
theorem kvF_len : ∀ (l : List Nat) (i : Nat), (kvF i l).length = l.length
  | [], _ => rfl
  | k :: r, i => by simp [kvF, kvF_len r]
theorem kvF_app (k : Nat) : ∀ (l : List Nat) (i : Nat), kvF i (l ++ [k]) = kvF i l ++ [(.inl (k : Nat), .int (i + l.length : Nat))]
  | [], i => rfl
  | a :: r, i => by
    rw [List.cons_append]
    simp only [kvF, List.cons_append, kvF_app k r, List.length_cons]
    congr 5
    omega
theorem kvF_val (c : Nat) : ∀ (l : List Nat) (i : Nat), valD (kvF i l) (.inl (c : Nat)) = if c ∈ l then some (.int (i + l.idxOf c : Nat)) else none
  | [], i => rfl
  | a :: r, i => by
    unfold valD kvF
    by_cases h : a = c
    · subst h
      simp [List.find?_cons, List.idxOf_cons]
    · have h1 : ¬ ((Sum.inl (a : Int) : Key) = Sum.inl (c : Int)) := by
        intro z
        have : (a : Int) = c := by injection z
        omega
      have h2 : ¬ c = a := fun z => h z.symm
      have ih := kvF_val c r (i + 1)
      unfold valD at ih
      simp only [List.find?_cons, h1, decide_false, ih, List.mem_cons, h2, false_or, List.idxOf_cons, beq_iff_eq, h, cond_false]
      have h3 : (a == c) = false := by simp [h]
      simp only [h3, cond_false]
      split
      · congr 3; omega
      · rfl
theorem kvF_put {l : List Nat} {c : Nat} (h : c ∉ l) (d : Mi.D) : putD (kvF 0 l) (.inl (c : Nat)) d = kvF 0 l ++ [(.inl (c : Nat), d)] := by
  unfold putD
  have : ((kvF 0 l).any fun kv => decide (kv.1 = (.inl (c : Int) : Key))) = false := by
    have main : ∀ (l : List Nat) (i : Nat), c ∉ l → ((kvF i l).any fun kv => decide (kv.1 = (.inl (c : Int) : Key))) = false := fun l => by
      induction l with
      | nil => intro _ _; rfl
      | cons a r ih =>
        intro i hc
        simp only [kvF, List.any_cons, Bool.or_eq_false_iff, decide_eq_false_iff_not]
        refine ⟨fun z => ?_, ih _ fun q => hc (List.mem_cons_of_mem _ q)⟩
        have : (a : Int) = c := by injection z
        exact hc (by rw [show c = a by omega]; exact List.mem_cons_self)
    exact main l 0 h
  rw [if_neg (by rw [this]; exact Bool.false_ne_true)]
def pick (ws : List Mi.D) (ks : List Nat) : List Mi.D := ks.map fun k => ws.getD k .none
/-- a plan of several states -/
theorem part_not (n : Mi.D) (sts : List Mi.D) (q : Mi.D) (h : sts.length ≠ 1) : Fn m_part [.d (.tuple [n, .tuple sts]), .d q] () (fun _ _ => False) fun x _ => x = ⟨"NotBook", [("states", .int sts.length)]⟩ := by
  have hne : ¬ ((sts.length : Int) = 1) := by omega
  have hb : Fn m_is_book [.d (.tuple [n, .tuple sts])] () (fun r _ => r = .sh (.bool false)) fun _ _ => False := by
    unfold m_is_book
    with_reducible refine Fn_of ?_
    unfold b_is_book
    simp [hne]
  have hc : Fn m_check_book [.d (.tuple [n, .tuple sts])] () (fun _ _ => False) fun x _ => x = ⟨"NotBook", [("states", .int sts.length)]⟩ := by
    unfold m_check_book
    with_reducible refine Fn_of ?_
    unfold b_check_book
    simp
    refine wCall_val hb fun r s1 e => ?_
    subst e
    simp [mk1 (d := .int (sts.length : Nat)) trivial]
  unfold m_part
  with_reducible refine Fn_of ?_
  unfold b_part
  simp
  exact wCall_of hc (fun _ _ z => z.elim) fun x s1 e => e
theorem book_words_sp (n : Mi.D) (ws : List Mi.D) (h : ws.length ≤ 1000) : Fn m_book_words [.d (bookD n ws)] () (fun r _ => r = .sh (.tuple ws)) fun _ _ => False := by
  have hs : Fn m_check_state [.d (bookD n ws), .d (.int 0)] () (fun r _ => True) fun _ _ => False := by
    unfold m_check_state
    with_reducible refine Fn_of ?_
    unfold b_check_state bookD
    simp
    refine wCall_val (is_index_sp (.int 0) 1 trivial) fun r s1 e => ?_
    subst e
    simp [idxOf]
  have hw : Fn m_words_of [.d (bookD n ws), .d (.int 0)] () (fun r _ => r = .sh (.tuple ws)) fun _ _ => False := by
    unfold m_words_of
    with_reducible refine Fn_of ?_
    unfold b_words_of
    simp
    refine wCall_val hs fun r s1 e => ?_
    simp [bookD]
    refine wLcs_of (fun d y => y = (match d with | .tuple [w, _] => w | _ => .none)) (sizeLine_le (by rw [List.length_map]; omega)) (fun d hd s3 => ?_) fun ys s3 hr => ?_
    · obtain ⟨w, _, rfl⟩ := List.mem_map.mp hd
      simp [wipeE]
    · have := hr.eq
      rw [List.map_map] at this
      have e : ys = ws := by rw [this]; simp [Function.comp_def]
      subst e
      simp
  unfold m_book_words
  with_reducible refine Fn_of ?_
  unfold b_book_words
  simp [bookD]
  refine wCall_val hw fun r s1 e => ?_
  subst e
  simp
theorem is_below_sp (d : Mi.D) (n : Int) (h : noDict d) : Fn m_is_below [.d d, .d (.int n)] () (fun r _ => r = .sh (.bool (idxOf d n))) fun _ _ => False := by
  unfold m_is_below
  with_reducible refine Fn_of ?_
  unfold b_is_below
  cases d with
  | int k =>
    simp [idxOf]
    refine wIf_d (c := 0 ≤ k) (fun c => ?_) (fun c => ?_)
    · simp [c]
    · simp [c]
  | dict _ => exact h.elim
  | _ => simp [idxOf]
theorem book_made_sp (n : Mi.D) (ws : List Mi.D) (h : ws.length ≤ 1000) : Fn m_book_made [.d n, .d (.list ws)] () (fun r _ => r = .sh (bookD n ws)) fun _ _ => False := by
  unfold m_book_made
  with_reducible refine Fn_of ?_
  unfold b_book_made
  simp
  refine wLcs_of (fun d y => y = .tuple [d, .int 0]) (sizeLine_le (by omega)) (fun d hd s3 => ?_) fun ys s3 hr => ?_
  · simp [wipeE]
    exact sizeLine_le (by decide)
  · have := hr.eq
    subst this
    simp [bookD]
    exact ⟨sizeLine_le (by decide), sizeLine_le (by decide)⟩
def erOf : Res → Option Er
  | .bad p => some ⟨"BadNumber", [("place", .int (p : Nat))]⟩
  | .dbl q => some ⟨"Double", [("number", .int (q : Nat)), ("at", .int 0)]⟩
  | .nil => some ⟨"NoWord", [("at", .int 0)]⟩
  | .ok _ => none
def IPt (n : Mi.D) (ws : List Mi.D) (q : Mi.D) (xs : List Mi.D) (i : Nat) (e : En Unit) : Prop := ∃ (l : List Nat) (x4 x5 : Slot), e = ⟨[.sh (bookD n ws), .sh q, .sh (.tuple ws), .ob (.dk (kvF 0 l)), x4, x5], ()⟩ ∧ l.length = i ∧ xs.take i = intsD l ∧ (∀ a ∈ l, a < ws.length) ∧ scan ws.length [] xs = scan ws.length l (xs.drop i)
theorem part_sp (n : Mi.D) (ws : List Mi.D) (hw : ws.length ≤ 1000) (q : Mi.D) (xs : List Mi.D) (hq : SeqD q xs) (hx : ∀ x ∈ xs, noDict x) (hl : xs.length ≤ 1000) :
    Fn m_part [.d (bookD n ws), .d q] () (fun r _ => ∃ ks, scan ws.length [] xs = .ok ks ∧ r.d = bookD n (pick ws ks)) fun x _ => erOf (scan ws.length [] xs) = some x := by
  have hb : Fn m_is_book [.d (bookD n ws)] () (fun r _ => r = .sh (.bool true)) fun _ _ => False := by
    unfold m_is_book
    with_reducible refine Fn_of ?_
    unfold b_is_book
    simp [bookD]
  have hc : Fn m_check_book [.d (bookD n ws)] () (fun _ _ => True) fun x _ => False := by
    unfold m_check_book
    with_reducible refine Fn_of ?_
    unfold b_check_book
    simp
    refine wCall_val hb fun r s1 e => ?_
    subst e
    simp
  unfold m_part
  with_reducible refine Fn_of ?_
  unfold b_part
  simp
  refine wCall_val hc fun r s1 _ => ?_
  simp
  refine wCall_val (book_words_sp n ws hw) fun r s2 e => ?_
  subst e
  simp [hq.enu]
  refine wLoop_idx (IPt n ws q xs) ⟨[], _, _, rfl, rfl, rfl, (fun _ h => nomatch h), rfl⟩ ?_ ?_
  · rintro i d e hd ⟨l, x4, x5, rfl, hi, ht, ha, hsc⟩
    obtain ⟨x, h1, rfl⟩ := enumF_get _ _ _ _ hd
    have hil := (List.getElem?_eq_some_iff.mp h1).1
    have hxe : xs[i] = x := (List.getElem?_eq_some_iff.mp h1).2
    rw [List.drop_eq_getElem_cons hil, hxe] at hsc
    have hnd := hx x (by rw [← hxe]; exact List.getElem_mem hil)
    simp
    refine wCall_val (is_below_sp x ws.length hnd) fun r s3 e => ?_
    subst e
    rw [scan_cons] at hsc
    cases hn : natOf ws.length x with
    | none =>
      rw [hn] at hsc
      simp [natOf_none hn, mk1 (d := .int (i : Nat)) trivial]
      rw [hsc, ← hi]
      rfl
    | some k =>
      rw [hn] at hsc
      obtain ⟨rfl, hk⟩ := natOf_some hn
      have hidx : idxOf (.int (k : Nat)) (ws.length : Nat) = true := by simp [idxOf]; omega
      simp [hidx, kvF_val]
      dsimp only at hsc
      by_cases hm : k ∈ l
      · rw [if_pos hm] at hsc
        simp [hm, kvF_val, mk2 (d := .int 0) (d2 := .int (l.idxOf k : Nat)) trivial trivial]
        rw [hsc]
        rfl
      · rw [if_neg hm] at hsc
        simp [hm, kvF_put hm]
        have e1 : kvF 0 l ++ [(Sum.inl (k : Int), PyData.int (i : Nat))] = kvF 0 (l ++ [k]) := by
          rw [kvF_app, hi]
          simp
        rw [e1]
        refine ⟨by rw [kvF_len]; exact sizeLine_big (by omega), l ++ [k], _, _, rfl, by simp [hi], ?_, fun a h => ?_, hsc⟩
        · rw [List.take_succ_eq_append_getElem hil, ht, intsD_app, hxe]
          rfl
        · rcases List.mem_append.mp h with h | h
          · exact ha a h
          · simp at h; subst h; exact hk
  · rintro e ⟨l, x4, x5, rfl, hi, ht, ha, hsc⟩
    rw [enumF_len] at hi ht hsc
    rw [List.take_length] at ht
    rw [List.drop_length] at hsc
    rw [scan_nil] at hsc
    simp
    by_cases h0 : l = []
    · subst h0
      rw [if_pos rfl] at hsc
      simp [kvF, mk1 (d := .int 0) trivial]
      rw [hsc]
      rfl
    · rw [if_neg h0] at hsc
      have hemp : (kvF 0 l).isEmpty = false := by
        cases l with
        | nil => exact absurd rfl h0
        | cons a r => rfl
      simp [hemp, bookD, hq.seq]
      refine wLcs_of (fun d y => y = (match d with | .int k => ws.getD k.toNat .none | _ => .none)) (sizeLine_le (by omega)) (fun d hd s3 => ?_) fun ys s3 hr => ?_
      · rw [ht] at hd
        unfold intsD at hd
        obtain ⟨a, h1, rfl⟩ := List.mem_map.mp hd
        have h2 := ha a h1
        simp [wipeE, atI_n h2]
        rw [List.getElem?_eq_getElem h2]
        rfl
      · have hy := hr.eq
        rw [ht] at hy
        have e : ys = pick ws l := by rw [hy]; unfold intsD pick; simp [Function.comp_def]
        subst e
        simp [resE, wipeE, keepS]
        refine wCall_val (book_made_sp n (pick ws l) (by unfold pick; rw [List.length_map]; omega)) fun r s4 e => ?_
        subst e
        simp
        exact ⟨l, hsc, rfl⟩
end Mi
set_option maxHeartbeats 4000000
namespace Mi
open PySem PySem.Spec PyProof.Rows L2
/-! digits, lowest first -/
inductive Dig (r : Nat) : Nat → List Nat → Prop
  | nil : Dig r 0 []
  | cons {v : Nat} {ds : List Nat} : 0 < v → Dig r (v / r) ds → Dig r v (v % r :: ds)
theorem Dig.uniq {r v : Nat} {ds es : List Nat} (h : Dig r v ds) (g : Dig r v es) : ds = es := by
  induction h generalizing es with
  | nil => cases g with
    | nil => rfl
    | cons p _ => exact absurd p (by omega)
  | cons p _ ih => cases g with
    | nil => exact absurd p (by omega)
    | cons _ q => rw [ih q]
def digF (r : Nat) : Nat → Nat → List Nat
  | 0, _ => []
  | f + 1, v => if v = 0 then [] else v % r :: digF r f (v / r)
theorem dig_F {r : Nat} (hr : 2 ≤ r) : ∀ (f v : Nat), v ≤ f → Dig r v (digF r f v)
  | 0, v, h => by have : v = 0 := by omega
                  subst this; exact .nil
  | f + 1, v, h => by
    unfold digF
    by_cases h0 : v = 0
    · subst h0; exact .nil
    · rw [if_neg h0]
      refine .cons (by omega) (dig_F hr f _ ?_)
      have : v / r < v := Nat.div_lt_self (by omega) (by omega)
      omega
def digs (r v : Nat) : List Nat := digF r v v
theorem dig_s {r : Nat} (hr : 2 ≤ r) (v : Nat) : Dig r v (digs r v) := dig_F hr v v (Nat.le_refl _)
theorem Dig.lt {r v : Nat} {ds : List Nat} (h : Dig r v ds) (hr : 0 < r) : ∀ d ∈ ds, d < r := by
  induction h with
  | nil => intro _ h; nomatch h
  | cons p _ ih =>
    intro d hd
    rcases List.mem_cons.mp hd with rfl | hd
    · exact Nat.mod_lt _ hr
    · exact ih d hd
def valN (r : Nat) : List Nat → Nat
  | [] => 0
  | d :: ds => d + r * valN r ds
theorem Dig.val {r v : Nat} {ds : List Nat} (h : Dig r v ds) : valN r ds = v := by
  induction h with
  | nil => rfl
  | cons p _ ih => rw [valN, ih]; exact Nat.mod_add_div _ _
theorem Dig.len {r v : Nat} {ds : List Nat} (h : Dig r v ds) (hr : 2 ≤ r) : ∀ k, v < 2 ^ k → ds.length ≤ k := by
  induction h with
  | nil => intro k _; exact Nat.zero_le _
  | @cons v ds p _ ih =>
    intro k hk
    cases k with
    | zero => simp at hk; omega
    | succ k =>
      rw [List.length_cons]
      refine Nat.succ_le_succ (ih k ?_)
      have h1 : v / r ≤ v / 2 := Nat.div_le_div_left hr (by decide)
      rw [Nat.pow_succ] at hk
      omega
theorem Dig.last {r v : Nat} {ds : List Nat} (h : Dig r v ds) (hr : 2 ≤ r) : 0 < v → ∃ es x, ds = es ++ [x] ∧ x ≠ 0 := by
  induction h with
  | nil => intro h; omega
  | @cons v ds p g ih =>
    intro _
    by_cases hq : v / r = 0
    · rw [hq] at g
      cases g with
      | nil =>
        refine ⟨[], v % r, rfl, ?_⟩
        have := Nat.div_add_mod v r
        rw [hq] at this
        omega
      | cons q _ => omega
    · obtain ⟨es, x, rfl, hx⟩ := ih (Nat.pos_of_ne_zero hq)
      exact ⟨v % r :: es, x, rfl, hx⟩
theorem valN_pos {r : Nat} (hr : 0 < r) : ∀ (es : List Nat) {x : Nat}, x ≠ 0 → 0 < valN r (es ++ [x])
  | [], x, h => by simp [valN]; omega
  | d :: es, x, h => by
    have := valN_pos hr es h
    show 0 < d + r * valN r (es ++ [x])
    have := Nat.mul_pos hr this
    omega
theorem dig_of {r : Nat} (hr : 2 ≤ r) : ∀ (es : List Nat) {x : Nat}, x ≠ 0 → (∀ d ∈ es ++ [x], d < r) → Dig r (valN r (es ++ [x])) (es ++ [x])
  | [], x, h, hl => by
    have hx : x < r := hl x (by simp)
    have e : valN r [x] = x := by simp [valN]
    rw [List.nil_append, e]
    have := Dig.cons (r := r) (v := x) (ds := []) (by omega) (by rw [Nat.div_eq_of_lt hx]; exact .nil)
    rwa [Nat.mod_eq_of_lt hx] at this
  | d :: es, x, h, hl => by
    have hd : d < r := hl d (by simp)
    have ih := dig_of hr es h fun a ha => hl a (by simp only [List.cons_append, List.mem_cons]; exact .inr ha)
    have p := valN_pos (r := r) (by omega) es h
    have p2 := Nat.mul_pos (show 0 < r by omega) p
    have e1 : (d + r * valN r (es ++ [x])) / r = valN r (es ++ [x]) := by
      rw [Nat.add_mul_div_left _ _ (by omega), Nat.div_eq_of_lt hd, Nat.zero_add]
    have e2 : (d + r * valN r (es ++ [x])) % r = d := by
      rw [Nat.add_mul_mod_self_left, Nat.mod_eq_of_lt hd]
    have := Dig.cons (r := r) (v := d + r * valN r (es ++ [x])) (ds := es ++ [x]) (by omega) (by rw [e1]; exact ih)
    rw [e2] at this
    exact this
/-- the value of octets -/
def octV (os : List Nat) : Nat := os.foldl (fun v o => v * 256 + o) 1
theorem octV_snoc (os : List Nat) (o : Nat) : octV (os ++ [o]) = octV os * 256 + o := by simp [octV, List.foldl_append]
theorem octV_take {os : List Nat} {i : Nat} (h : i < os.length) : octV (os.take (i + 1)) = octV (os.take i) * 256 + os[i] := by
  rw [List.take_succ_eq_append_getElem h, octV_snoc]
theorem octV_pos (os : List Nat) : 0 < octV os := by
  have : ∀ (k : Nat) (os : List Nat), os.length = k → 0 < octV os := fun k => by
    induction k with
    | zero => intro os h; rw [List.eq_nil_of_length_eq_zero h]; decide
    | succ k ih =>
      intro os h
      have hne : os ≠ [] := by rintro rfl; simp at h
      rw [← List.dropLast_concat_getLast hne, octV_snoc]
      have := ih os.dropLast (by simp [h])
      omega
  exact this _ os rfl
theorem octV_lt : ∀ (k : Nat) (os : List Nat), os.length = k → (∀ o ∈ os, o < 256) → octV os < 2 ^ (8 * k + 1)
  | 0, os, h, _ => by rw [List.eq_nil_of_length_eq_zero h]; decide
  | k + 1, os, h, hl => by
    have hne : os ≠ [] := by rintro rfl; simp at h
    have e := List.dropLast_concat_getLast hne
    rw [← e] at hl ⊢
    rw [octV_snoc]
    have h1 := octV_lt k os.dropLast (by simp [h]) fun o ho => hl o (by simp [ho])
    have h2 := hl (os.getLast hne) (by simp)
    have e2 : 2 ^ (8 * (k + 1) + 1) = 2 ^ (8 * k + 1) * 256 := by rw [show 8 * (k + 1) + 1 = (8 * k + 1) + 8 by omega, Nat.pow_add]
    rw [e2]
    omega
theorem octV_dig : ∀ (k : Nat) (os : List Nat), os.length = k → (∀ o ∈ os, o < 256) → Dig 256 (octV os) (os.reverse ++ [1])
  | 0, os, h, _ => by
    rw [List.eq_nil_of_length_eq_zero h]
    exact dig_of (r := 256) (by decide) [] (x := 1) (by decide) (by simp)
  | k + 1, os, h, hl => by
    have hne : os ≠ [] := by rintro rfl; simp at h
    have e := List.dropLast_concat_getLast hne
    rw [← e] at hl ⊢
    generalize os.getLast hne = o at *
    have hd : os.dropLast.length = k := by simp [h]
    generalize os.dropLast = ps at *
    rw [octV_snoc]
    have h1 := octV_dig k ps hd fun o ho => hl o (by simp [ho])
    have h2 := hl o (by simp)
    have e1 : (octV ps * 256 + o) / 256 = octV ps := by omega
    have e2 : (octV ps * 256 + o) % 256 = o := by omega
    have h3 := octV_pos ps
    have := Dig.cons (r := 256) (v := octV ps * 256 + o) (ds := ps.reverse ++ [1]) (by omega) (by rw [e1]; exact h1)
    rw [e2] at this
    rw [List.reverse_append]
    exact this
theorem valN_lt {r : Nat} : ∀ (ds : List Nat), (∀ d ∈ ds, d < r) → valN r ds < r ^ ds.length
  | [], _ => by simp [valN]
  | d :: ds, h => by
    have h1 := h d (by simp)
    have h2 := valN_lt ds fun a ha => h a (by simp [ha])
    rw [valN, List.length_cons, Nat.pow_succ]
    have h3 : r * (valN r ds + 1) ≤ r * r ^ ds.length := Nat.mul_le_mul_left _ h2
    rw [Nat.mul_add] at h3
    rw [Nat.mul_comm (r ^ ds.length) r]
    omega
end Mi
set_option maxHeartbeats 4000000
namespace Mi
open PySem PySem.Spec PyProof.Rows L2
/-! the list of digits up to the mark -/
theorem splitD (b : Nat) : ∀ xs : List Mi.D, (∃ (l : List Nat) (bad : Mi.D) (post : List Mi.D), xs = intsD l ++ bad :: post ∧ (∀ a ∈ l, a < b) ∧ natOf b bad = none) ∨ ∃ l : List Nat, xs = intsD l ∧ ∀ a ∈ l, a < b
  | [] => .inr ⟨[], rfl, fun _ h => nomatch h⟩
  | x :: r => by
    cases hn : natOf b x with
    | none => exact .inl ⟨[], x, r, rfl, (fun _ h => nomatch h), hn⟩
    | some k =>
      obtain ⟨rfl, hk⟩ := natOf_some hn
      rcases splitD b r with ⟨l, bad, post, rfl, h1, h2⟩ | ⟨l, rfl, h1⟩
      · exact .inl ⟨k :: l, bad, post, rfl, fun a ha => by rcases List.mem_cons.mp ha with rfl | ha; exact hk; exact h1 a ha, h2⟩
      · exact .inr ⟨k :: l, rfl, fun a ha => by rcases List.mem_cons.mp ha with rfl | ha; exact hk; exact h1 a ha⟩
theorem idx_in {a b : Nat} (h : a < b) : idxOf (.int (a : Nat)) (b : Nat) = true := by simp [idxOf]; omega
def IEn (b : Nat) (q : Mi.D) (i : Nat) (e : En Unit) : Prop := ∃ (x2 x3 : Slot), e = ⟨[.sh (.int (b : Nat)), .sh q, x2, x3], ()⟩
theorem end_long (b : Nat) (q : Mi.D) (xs : List Mi.D) (hq : SeqD q xs) (hl : 600 < xs.length) : Fn m_end_of [.d (.int (b : Nat)), .d q] () (fun _ _ => False) fun x _ => x = ⟨"TooMany", [("most", .int 600), ("what", .str "digits")]⟩ := by
  unfold m_end_of
  with_reducible refine Fn_of ?_
  unfold b_end_of
  have hlt : (600 : Int) < (xs.length : Nat) := by omega
  simp [hq.len, hlt, mk2 (d := .str "digits") (d2 := .int 600) (strOk_of _) trivial]
theorem end_bad (b : Nat) (q : Mi.D) (l : List Nat) (bad : Mi.D) (post : List Mi.D) (hq : SeqD q (intsD l ++ bad :: post)) (h1 : ∀ a ∈ l, a < b) (h2 : natOf b bad = none) (h3 : noDict bad) (hl : l.length + post.length < 600) :
    Fn m_end_of [.d (.int (b : Nat)), .d q] () (fun _ _ => False) fun x _ => x = ⟨"BadDigit", [("place", .int (l.length : Nat))]⟩ := by
  unfold m_end_of
  with_reducible refine Fn_of ?_
  unfold b_end_of
  have hle : ¬ (600 : Int) < ((intsD l ++ bad :: post).length : Nat) := by simp [intsD_len]; omega
  simp [hq.len, hle, hq.enu, -List.length_append]
  refine loop_cut l.length (IEn b q) ⟨_, _, rfl⟩ ?_ ?_ ?_
  · rintro i d e hd hi ⟨x2, x3, rfl⟩
    obtain ⟨x, g1, rfl⟩ := enumF_get _ _ _ _ hd
    rw [List.getElem?_append_left (by rw [intsD_len]; exact hi), intsD_at hi] at g1
    cases g1
    simp
    refine wCall_val (is_below_sp _ b trivial) fun r s3 e => ?_
    subst e
    have := idx_in (h1 l[i] (List.getElem_mem hi))
    simp [this]
    exact ⟨_, _, rfl⟩
  · rintro d e hd ⟨x2, x3, rfl⟩
    obtain ⟨x, g1, rfl⟩ := enumF_get _ _ _ _ hd
    rw [List.getElem?_append_right (by rw [intsD_len]; exact Nat.le_refl _), intsD_len, Nat.sub_self] at g1
    cases g1
    simp
    refine wCall_val (is_below_sp _ b h3) fun r s3 e => ?_
    subst e
    simp [natOf_none h2, mk1 (d := .int (l.length : Nat)) trivial]
  · rintro i e hi hn ⟨x2, x3, rfl⟩
    rw [enumF_len, List.length_append, intsD_len, List.length_cons] at hi
    omega
theorem end_ints {P : R → Unit → Prop} {X : Er → Unit → Prop} (b : Nat) (q : Mi.D) (l : List Nat) (hq : SeqD q (intsD l)) (h1 : ∀ a ∈ l, a < b) (hl : l.length ≤ 600)
    (n : Nat) (hn : ∀ i (hi : i < l.length), i < n → l[i] ≠ b - 1) (hb : 1 ≤ b) (h2 : ∀ (hn : n < l.length), l[n] = b - 1 ∧ (n + 1 < l.length → X ⟨"Behind", [("place", .int (n + 1 : Nat))]⟩ ()) ∧ (n + 1 = l.length → P (.sh (.int (n : Nat))) ())) (h3 : n = l.length → X ⟨"NoEnd", []⟩ ()) (hnl : n ≤ l.length) :
    Fn m_end_of [.d (.int (b : Nat)), .d q] () P X := by
  unfold m_end_of
  with_reducible refine Fn_of ?_
  unfold b_end_of
  have hle : ¬ (600 : Int) < ((intsD l).length : Nat) := by simp [intsD_len]; omega
  simp [hq.len, hle, hq.enu]
  refine wLoop_idx (IEn b q) ⟨_, _, rfl⟩ ?_ ?_
  · rintro i d e hd ⟨x2, x3, rfl⟩
    obtain ⟨x, g1, rfl⟩ := enumF_get _ _ _ _ hd
    have hi : i < l.length := by have := (List.getElem?_eq_some_iff.mp g1).1; rwa [intsD_len] at this
    rw [intsD_at hi] at g1
    cases g1
    simp
    refine wCall_val (is_below_sp _ b trivial) fun r s3 e => ?_
    subst e
    have := idx_in (h1 l[i] (List.getElem_mem hi))
    simp [this]
    exact ⟨_, _, rfl⟩
  · rintro e ⟨x2, x3, rfl⟩
    simp [hq.enu]
    refine loop_cut n (IEn b q) ⟨_, _, rfl⟩ ?_ ?_ ?_
    · rintro i d e hd hi ⟨x2, x3, rfl⟩
      obtain ⟨x, g1, rfl⟩ := enumF_get _ _ _ _ hd
      have hi2 : i < l.length := by omega
      rw [intsD_at hi2] at g1
      cases g1
      have g2 := hn i hi2 hi
      have g3 : ¬ ((l[i] : Int) = (b : Int) - 1) := by omega
      simp [g3]
      exact ⟨_, _, rfl⟩
    · rintro d e hd ⟨x2, x3, rfl⟩
      obtain ⟨x, g1, rfl⟩ := enumF_get _ _ _ _ hd
      have hi : n < l.length := by have := (List.getElem?_eq_some_iff.mp g1).1; rwa [intsD_len] at this
      obtain ⟨k1, k2, k3⟩ := h2 hi
      rw [intsD_at hi] at g1
      cases g1
      have g3 : ((l[n] : Int) = (b : Int) - 1) := by omega
      simp [g3, hq.len, intsD_len]
      refine wIf_d (fun c => ?_) (fun c => ?_)
      · simp [mk1 (d := .int ((n : Int) + 1)) trivial]
        have k4 := k2 (by omega)
        simpa using k4
      · simp
        exact k3 (by omega)
    · rintro i e hi hn2 ⟨x2, x3, rfl⟩
      rw [enumF_len, intsD_len] at hi
      simp
      exact h3 (by omega)
end Mi
set_option maxHeartbeats 4000000
namespace Mi
open PySem PySem.Spec PyProof.Rows L2
theorem check_base_sp (b : Nat) (h0 : 3 ≤ b) (h1 : b ≤ 64) : Fn m_check_base [.d (.int (b : Nat))] () (fun _ _ => True) fun _ _ => False := by
  unfold m_check_base
  with_reducible refine Fn_of ?_
  unfold b_check_base
  simp
  refine wCall_val (is_below_sp (.int (b : Nat)) 65 trivial) fun r s1 e => ?_
  subst e
  have h2 : idxOf (.int (b : Nat)) 65 = true := by simp [idxOf]; omega
  have h3 : ¬ ((b : Int) < 3) := by omega
  simp [h2, h3]
theorem oct_long (q : Mi.D) (xs : List Mi.D) (hq : SeqD q xs) (hl : 24 < xs.length) : Fn m_check_octets [.d q] () (fun _ _ => False) fun x _ => x = ⟨"TooMany", [("most", .int 24), ("what", .str "octets")]⟩ := by
  unfold m_check_octets
  with_reducible refine Fn_of ?_
  unfold b_check_octets
  have hlt : (24 : Int) < (xs.length : Nat) := by omega
  simp [hq.len, hlt, mk2 (d := .str "octets") (d2 := .int 24) (strOk_of _) trivial]
def IOc (q : Mi.D) (i : Nat) (e : En Unit) : Prop := ∃ (x2 x3 : Slot), e = ⟨[.sh q, x2, x3], ()⟩
theorem idx_oct {a : Nat} (h : a < 256) : idxOf (.int (a : Nat)) 256 = true := by simp [idxOf]; omega
theorem natOf_none256 {x : Mi.D} (h : natOf 256 x = none) : idxOf x 256 = false := natOf_none (n := 256) h
theorem oct_bad (q : Mi.D) (l : List Nat) (bad : Mi.D) (post : List Mi.D) (hq : SeqD q (intsD l ++ bad :: post)) (h1 : ∀ a ∈ l, a < 256) (h2 : natOf 256 bad = none) (h3 : noDict bad) (hl : l.length + post.length < 24) :
    Fn m_check_octets [.d q] () (fun _ _ => False) fun x _ => x = ⟨"BadOctet", [("place", .int (l.length : Nat))]⟩ := by
  unfold m_check_octets
  with_reducible refine Fn_of ?_
  unfold b_check_octets
  have hle : ¬ (24 : Int) < ((intsD l ++ bad :: post).length : Nat) := by simp [intsD_len]; omega
  simp [hq.len, hle, hq.enu, -List.length_append]
  refine loop_cut l.length (IOc q) ⟨_, _, rfl⟩ ?_ ?_ ?_
  · rintro i d e hd hi ⟨x2, x3, rfl⟩
    obtain ⟨x, g1, rfl⟩ := enumF_get _ _ _ _ hd
    rw [List.getElem?_append_left (by rw [intsD_len]; exact hi), intsD_at hi] at g1
    cases g1
    simp
    refine wCall_val (is_below_sp _ 256 trivial) fun r s3 e => ?_
    subst e
    simp [idx_oct (h1 l[i] (List.getElem_mem hi))]
    exact ⟨_, _, rfl⟩
  · rintro d e hd ⟨x2, x3, rfl⟩
    obtain ⟨x, g1, rfl⟩ := enumF_get _ _ _ _ hd
    rw [List.getElem?_append_right (by rw [intsD_len]; exact Nat.le_refl _), intsD_len, Nat.sub_self] at g1
    cases g1
    simp
    refine wCall_val (is_below_sp _ 256 h3) fun r s3 e => ?_
    subst e
    simp [natOf_none256 h2, mk1 (d := .int (l.length : Nat)) trivial]
  · rintro i e hi hn ⟨x2, x3, rfl⟩
    rw [enumF_len, List.length_append, intsD_len, List.length_cons] at hi
    omega
theorem oct_ok (q : Mi.D) (os : List Nat) (hq : SeqD q (intsD os)) (h1 : ∀ a ∈ os, a < 256) (hl : os.length ≤ 24) : Fn m_check_octets [.d q] () (fun _ _ => True) fun _ _ => False := by
  unfold m_check_octets
  with_reducible refine Fn_of ?_
  unfold b_check_octets
  have hle : ¬ (24 : Int) < ((intsD os).length : Nat) := by simp [intsD_len]; omega
  simp [hq.len, hle, hq.enu]
  refine wLoop_idx (IOc q) ⟨_, _, rfl⟩ ?_ ?_
  · rintro i d e hd ⟨x2, x3, rfl⟩
    obtain ⟨x, g1, rfl⟩ := enumF_get _ _ _ _ hd
    have hi : i < os.length := by have := (List.getElem?_eq_some_iff.mp g1).1; rwa [intsD_len] at this
    rw [intsD_at hi] at g1
    cases g1
    simp
    refine wCall_val (is_below_sp _ 256 trivial) fun r s3 e => ?_
    subst e
    simp [idx_oct (h1 os[i] (List.getElem_mem hi))]
    exact ⟨_, _, rfl⟩
  · rintro e ⟨x2, x3, rfl⟩
    simp
def IVa (b : Nat) (q : Mi.D) (os : List Nat) (i : Nat) (e : En Unit) : Prop := ∃ (x3 : Slot), e = ⟨[.sh (.int (b : Nat)), .sh q, .sh (.int (octV (os.take i) : Nat)), x3, .un], ()⟩
def IDg (b : Nat) (q : Mi.D) (os : List Nat) (m : Nat) (e : En Unit) : Prop := ∃ (v : Nat) (done : List Nat) (x3 : Slot), e = ⟨[.sh (.int (b : Nat)), .sh q, .sh (.int (v : Nat)), x3, .ow (intsD done)], ()⟩ ∧ v < 2 ^ m ∧ done.length + m ≤ 400 ∧ ∀ ds, Dig (b - 1) v ds → Dig (b - 1) (octV os) (done ++ ds)
def dgs (b : Nat) (os : List Nat) : List Nat := digs (b - 1) (octV os)
theorem half {v m r : Nat} (h : v < 2 ^ (m + 1)) (hr : 2 ≤ r) : v / r < 2 ^ m := by
  have h1 : v / r ≤ v / 2 := Nat.div_le_div_left hr (by decide)
  rw [Nat.pow_succ] at h
  omega
theorem divOk_small {b : Int} (h0 : 0 < b) (h1 : b < 2 ^ 60) : divOk b := by
  refine ⟨h0, ?_⟩
  have : b.natAbs < 2 ^ 60 := by omega
  have := (Nat.log2_lt (by omega)).mpr this
  omega
theorem digits_of_ok (b : Nat) (q : Mi.D) (os : List Nat) (h0 : 3 ≤ b) (h1 : b ≤ 64) (hq : SeqD q (intsD os)) (ho : ∀ a ∈ os, a < 256) (hl : os.length ≤ 24) :
    Fn m_digits_of [.d (.int (b : Nat)), .d q] () (fun r _ => r = .sh (.tuple (intsD (dgs b os ++ [b - 1])))) fun _ _ => False := by
  unfold m_digits_of
  with_reducible refine Fn_of ?_
  unfold b_digits_of
  simp
  refine wCall_val (check_base_sp b h0 h1) fun r s1 _ => ?_
  simp
  refine wCall_val (oct_ok q os hq ho hl) fun r s1 _ => ?_
  simp [hq.seq]
  have hb1 : ((b : Nat) : Int) - 1 = ((b - 1 : Nat) : Int) := by omega
  refine wLoop_idx (IVa b q os) ⟨_, rfl⟩ ?_ ?_
  · rintro i d e hd ⟨x3, rfl⟩
    have hi : i < os.length := by have := (List.getElem?_eq_some_iff.mp hd).1; rwa [intsD_len] at this
    rw [intsD_at hi] at hd
    cases hd
    simp
    refine ⟨mulOk_small (by decide) (by decide), ?_⟩
    unfold IVa
    rw [octV_take hi]
    refine ⟨.sh (.int (os[i] : Nat)), ?_⟩
    simp
  · rintro e ⟨x3, rfl⟩
    rw [intsD_len, List.take_length]
    simp
    have hv := octV_lt _ os rfl ho
    refine wWhl_inv (IDg b q os) ?_ (m := 8 * os.length + 1) (by unfold fuel; omega) ⟨_, [], _, rfl, hv, by simp; omega, fun ds h => h⟩
    rintro m e ⟨v, done, x3, rfl, hm, hdn, hr⟩
    simp
    refine wIf_d (fun c => ?_) (fun c => ?_)
    · obtain ⟨k, rfl⟩ : ∃ k, m = k + 1 := ⟨m - 1, by
        have : m ≠ 0 := by rintro rfl; simp at hm; omega
        omega⟩
      simp [hb1]
      have e1 : ((v : Nat) : Int) % ((b - 1 : Nat) : Int) = ((v % (b - 1) : Nat) : Int) := (Int.natCast_emod _ _).symm
      have e2 : ((v : Nat) : Int) / ((b - 1 : Nat) : Int) = ((v / (b - 1) : Nat) : Int) := (Int.natCast_ediv _ _).symm
      have e3 : intsD done ++ [.int ((v % (b - 1) : Nat) : Int)] = intsD (done ++ [v % (b - 1)]) := by rw [intsD_app]; rfl
      rw [e1, e2, e3]
      refine ⟨by omega, by rw [intsD_len]; exact sizeLine_big (by omega), divOk_small (by omega) (by omega), k, by omega, v / (b - 1), done ++ [v % (b - 1)], _, rfl, half hm (by omega), by simp; omega, fun ds h => ?_⟩
      rw [List.append_assoc]
      exact hr _ (.cons (by omega) h)
    · simp [hb1]
      have hv0 : v = 0 := by omega
      subst hv0
      have := (hr [] .nil).uniq (dig_s (by omega) _)
      rw [List.append_nil] at this
      subst this
      refine ⟨by rw [intsD_len]; exact sizeLine_big (by omega), ?_⟩
      rw [intsD_app]
      rfl
theorem digits_of_ex {X : Er} (b : Nat) (q : Mi.D) (h0 : 3 ≤ b) (h1 : b ≤ 64) (h : Fn m_check_octets [.d q] () (fun _ _ => False) fun x _ => x = X) : Fn m_digits_of [.d (.int (b : Nat)), .d q] () (fun _ _ => False) fun x _ => x = X := by
  unfold m_digits_of
  with_reducible refine Fn_of ?_
  unfold b_digits_of
  simp
  refine wCall_val (check_base_sp b h0 h1) fun r s1 _ => ?_
  simp
  exact wCall_of h (fun _ _ z => z.elim) fun x s1 e => e
theorem check_book_sp (n : Mi.D) (ws : List Mi.D) : Fn m_check_book [.d (bookD n ws)] () (fun _ _ => True) fun x _ => False := by
  have hb : Fn m_is_book [.d (bookD n ws)] () (fun r _ => r = .sh (.bool true)) fun _ _ => False := by
    unfold m_is_book
    with_reducible refine Fn_of ?_
    unfold b_is_book
    simp [bookD]
  unfold m_check_book
  with_reducible refine Fn_of ?_
  unfold b_check_book
  simp
  refine wCall_val hb fun r s1 e => ?_
  subst e
  simp
theorem say_ex {X : Er} (n : Mi.D) (ws : List Mi.D) (q : Mi.D) (h : Fn m_check_octets [.d q] () (fun _ _ => False) fun x _ => x = X) : Fn m_say_octets [.d (bookD n ws), .d q] () (fun _ _ => False) fun x _ => x = X := by
  unfold m_say_octets
  with_reducible refine Fn_of ?_
  unfold b_say_octets
  simp
  refine wCall_val (check_book_sp n ws) fun r s1 _ => ?_
  simp
  exact wCall_of h (fun _ _ z => z.elim) fun x s1 e => e
theorem say_few (n : Mi.D) (ws : List Mi.D) (q : Mi.D) (os : List Nat) (hw : ws.length < 3) (hq : SeqD q (intsD os)) (ho : ∀ a ∈ os, a < 256) (hl : os.length ≤ 24) :
    Fn m_say_octets [.d (bookD n ws), .d q] () (fun _ _ => False) fun x _ => x = ⟨"FewWords", [("found", .int (ws.length : Nat))]⟩ := by
  unfold m_say_octets
  with_reducible refine Fn_of ?_
  unfold b_say_octets
  simp
  refine wCall_val (check_book_sp n ws) fun r s1 _ => ?_
  simp
  refine wCall_val (oct_ok q os hq ho hl) fun r s1 _ => ?_
  simp
  refine wCall_val (book_words_sp n ws (by omega)) fun r s1 e => ?_
  subst e
  have : ((ws.length : Nat) : Int) < 3 := by omega
  simp [this, mk1 (d := .int (ws.length : Nat)) trivial]
theorem say_ok (n : Mi.D) (ws : List Mi.D) (q : Mi.D) (os : List Nat) (h0 : 3 ≤ ws.length) (h1 : ws.length ≤ 64) (hq : SeqD q (intsD os)) (ho : ∀ a ∈ os, a < 256) (hl : os.length ≤ 24) :
    Fn m_say_octets [.d (bookD n ws), .d q] () (fun r _ => r = .sh (.tuple (intsD (dgs ws.length os ++ [ws.length - 1])))) fun _ _ => False := by
  unfold m_say_octets
  with_reducible refine Fn_of ?_
  unfold b_say_octets
  simp
  refine wCall_val (check_book_sp n ws) fun r s1 _ => ?_
  simp
  refine wCall_val (oct_ok q os hq ho hl) fun r s1 _ => ?_
  simp
  refine wCall_val (book_words_sp n ws (by omega)) fun r s1 e => ?_
  subst e
  have : ¬ ((ws.length : Nat) : Int) < 3 := by omega
  simp [this]
  refine wCall_val (digits_of_ok ws.length q os h0 h1 hq ho hl) fun r s1 e => ?_
  subst e
  simp
end Mi
set_option maxHeartbeats 4000000
namespace Mi
open PySem PySem.Spec PyProof.Rows L2
/-! octets_of, from what the list of digits is -/
inductive Read where
  | bad (p : Nat) | noend | behind (p : Nat) | not | many | told (os : List Nat)
/-- the digits before the mark -/
def readL (b : Nat) (l : List Nat) : Read :=
  if l = [] then .not else if l.getLast?.getD 0 = 0 then .not else
    let row := digs 256 (valN (b - 1) l)
    if row.getLast?.getD 0 ≠ 1 then .not else if 25 < row.length then .many else .told (row.dropLast.reverse)
theorem octets_ex {X : Er} (b : Nat) (q : Mi.D) (h0 : 3 ≤ b) (h1 : b ≤ 64) (h : Fn m_end_of [.d (.int (b : Nat)), .d q] () (fun _ _ => False) fun x _ => x = X) : Fn m_octets_of [.d (.int (b : Nat)), .d q] () (fun _ _ => False) fun x _ => x = X := by
  unfold m_octets_of
  with_reducible refine Fn_of ?_
  unfold b_octets_of
  simp
  refine wCall_val (check_base_sp b h0 h1) fun r s1 _ => ?_
  simp
  exact wCall_of h (fun _ _ z => z.elim) fun x s1 e => e
def erRead : Read → Option Er
  | .bad p => some ⟨"BadDigit", [("place", .int (p : Nat))]⟩
  | .noend => some ⟨"NoEnd", []⟩
  | .behind p => some ⟨"Behind", [("place", .int (p : Nat))]⟩
  | .not => some ⟨"NotOctets", []⟩
  | .many => some ⟨"TooMany", [("most", .int 24), ("what", .str "octets")]⟩
  | .told _ => none
def IOv (b : Nat) (q : Mi.D) (l : List Nat) (i : Nat) (e : En Unit) : Prop := ∃ (x4 : Slot), e = ⟨[.sh (.int (b : Nat)), .sh q, .sh (.int (l.length : Nat)), .sh (.int (valN (b - 1) (l.drop (l.length - i)) : Nat)), x4, .un], ()⟩
def IOo (b : Nat) (q : Mi.D) (l : List Nat) (m : Nat) (e : En Unit) : Prop := ∃ (v : Nat) (done : List Nat) (x4 : Slot), e = ⟨[.sh (.int (b : Nat)), .sh q, .sh (.int (l.length : Nat)), .sh (.int (v : Nat)), x4, .ow (intsD done)], ()⟩ ∧ v < 2 ^ m ∧ 0 < v ∧ done.length + m ≤ 4000 ∧ ∀ ds, Dig 256 v ds → Dig 256 (valN (b - 1) l) (done ++ ds)
theorem valN_snoc {r : Nat} {l : List Nat} {i : Nat} (h : i < l.length) : valN r (l.drop i) = l[i] + r * valN r (l.drop (i + 1)) := by
  rw [List.drop_eq_getElem_cons h, valN]
theorem pow_le_two {r k : Nat} (h : r ≤ 2 ^ 6) : r ^ k ≤ 2 ^ (6 * k) := by
  rw [Nat.pow_mul]
  exact Nat.pow_le_pow_left h k
theorem octets_ok (b : Nat) (q : Mi.D) (l : List Nat) (h0 : 3 ≤ b) (h1 : b ≤ 64) (hq : SeqD q (intsD (l ++ [b - 1]))) (hl : ∀ a ∈ l, a < b - 1) (hn : l.length ≤ 599) :
    Fn m_octets_of [.d (.int (b : Nat)), .d q] () (fun r _ => ∃ os, readL b l = .told os ∧ r = .sh (.tuple (intsD os))) fun x _ => erRead (readL b l) = some x := by
  unfold m_octets_of
  with_reducible refine Fn_of ?_
  unfold b_octets_of
  simp
  refine wCall_val (check_base_sp b h0 h1) fun r s1 _ => ?_
  simp
  have hend : Fn m_end_of [.d (.int (b : Nat)), .d q] () (fun r _ => r = .sh (.int (l.length : Nat))) fun _ _ => False := by
    refine end_ints b q (l ++ [b - 1]) hq (fun a ha => ?_) (by simp; omega) l.length (fun i hi hi2 => ?_) (by omega) (fun hn2 => ⟨by simp, fun z => by simp at z, fun _ => rfl⟩) (fun z => by simp at z) (by simp)
    · rcases List.mem_append.mp ha with ha | ha
      · have := hl a ha; omega
      · simp at ha; omega
    · rw [List.getElem_append_left hi2]
      have := hl l[i] (List.getElem_mem hi2)
      omega
  refine wCall_val hend fun r s1 e => ?_
  subst e
  simp
  have eix : ∀ i, i < l.length → dIx q (.int (i : Nat)) = some (.int (l[i]?.getD 0 : Nat)) := fun i hi => by
    rw [hq.ix]
    refine atI_of ?_
    rw [intsD_at (by simp; omega), List.getElem_append_left hi, List.getElem?_eq_getElem hi]
    rfl
  have hb1 : ((b : Nat) : Int) - 1 = ((b - 1 : Nat) : Int) := by omega
  refine wIf_d (fun c => ?_) (fun c => ?_)
  · have : l = [] := by simpa using c
    subst this
    simp [readL, erRead]
  · have hne : l ≠ [] := by rintro rfl; simp at c
    have hp : 0 < l.length := List.length_pos_iff.mpr hne
    have e1 : ((l.length : Nat) : Int) - 1 = ((l.length - 1 : Nat) : Int) := by omega
    have hlast : l.getLast?.getD 0 = l[l.length - 1]?.getD 0 := by
      rw [List.getLast?_eq_getElem?]
    simp [e1, eix (l.length - 1) (by omega)]
    refine wIf_d (fun c2 => ?_) (fun c2 => ?_)
    · have : readL b l = .not := by unfold readL; rw [if_neg hne, hlast, if_pos c2]
      simp [this, erRead]
    · obtain ⟨es, x, hes⟩ : ∃ es x, l = es ++ [x] := ⟨l.dropLast, l.getLast hne, (List.dropLast_concat_getLast hne).symm⟩
      have hx : x ≠ 0 := by
        have : l[l.length - 1]?.getD 0 = x := by rw [hes]; simp
        rw [← this]; exact c2
      have hrd : readL b l = (let row := digs 256 (valN (b - 1) l)
        if row.getLast?.getD 0 ≠ 1 then .not else if 25 < row.length then .many else .told (row.dropLast.reverse)) := by
        unfold readL; rw [if_neg hne, hlast, if_neg c2]
      have hv0 : 0 < valN (b - 1) l := by rw [hes]; exact valN_pos (by omega) es hx
      have hv1 : valN (b - 1) l < 2 ^ (6 * l.length) := Nat.lt_of_lt_of_le (valN_lt l hl) (pow_le_two (by omega))
      simp
      refine ⟨small_of (by omega) (by omega), ?_⟩
      refine wLoop_rng (IOv b q l) ⟨_, by simp [valN]; rfl⟩ ?_ ?_
      · rintro i e hi ⟨x4, rfl⟩
        have e2 : ((l.length : Nat) : Int) - 1 - (i : Nat) = ((l.length - 1 - i : Nat) : Int) := by omega
        simp [hb1, e2, eix (l.length - 1 - i) (by omega)]
        refine ⟨mulOk_small (by omega) (by omega), ?_⟩
        unfold IOv
        have g := valN_snoc (r := b - 1) (l := l) (i := l.length - 1 - i) (by omega)
        rw [show l.length - 1 - i + 1 = l.length - i by omega] at g
        rw [show l.length - (i + 1) = l.length - 1 - i by omega, g, List.getElem?_eq_getElem (by omega), Int.natCast_add, Int.natCast_mul, Int.mul_comm, Int.add_comm]
        exact ⟨_, rfl⟩
      · rintro e ⟨x4, rfl⟩
        simp
        refine wWhl_inv (IOo b q l) ?_ (m := 6 * l.length) (by unfold fuel; omega) ⟨_, [], _, rfl, hv1, hv0, by simp; omega, fun ds h => h⟩
        rintro m e ⟨v, done, x4, rfl, hm, hv, hdn, hr⟩
        simp
        refine wIf_d (fun c3 => ?_) (fun c3 => ?_)
        · obtain ⟨k, rfl⟩ : ∃ k, m = k + 1 := ⟨m - 1, by
            have : m ≠ 0 := by rintro rfl; simp at hm; omega
            omega⟩
          simp
          have e3 : intsD done ++ [.int ((v : Int) % 256)] = intsD (done ++ [v % 256]) := by rw [intsD_app]; rfl
          have e4 : ((v : Nat) : Int) / 256 = ((v / 256 : Nat) : Int) := (Int.natCast_ediv _ _).symm
          rw [e3, e4]
          refine ⟨by rw [intsD_len]; exact sizeLine_big (by omega), divOk_small (by decide) (by decide), k, by omega, v / 256, done ++ [v % 256], _, rfl, half hm (by decide), by omega, by simp; omega, fun ds h => ?_⟩
          rw [List.append_assoc]
          exact hr _ (.cons (by omega) h)
        · have hd1 : Dig 256 v [v] := by
            have := Dig.cons (r := 256) (v := v) (ds := []) hv (by rw [Nat.div_eq_of_lt (by omega)]; exact .nil)
            rwa [Nat.mod_eq_of_lt (by omega)] at this
          have hrow := (dig_s (by decide) _).uniq (hr _ hd1)
          rw [hrow] at hrd
          simp at hrd
          simp
          by_cases c4 : v = 1
          · subst c4
            simp [intsD_len]
            refine wIf_d (fun c5 => ?_) (fun c5 => ?_)
            · rw [if_pos rfl, if_pos (by omega)] at hrd
              simp [hrd, erRead, mk2 (d := .str "octets") (d2 := .int 24) (strOk_of _) trivial]
            · rw [if_pos rfl, if_neg (by omega)] at hrd
              simp [hrd]
              unfold intsD
              rw [List.map_reverse]
          · rw [if_neg c4] at hrd
            have c6 : ¬ ((v : Int) = 1) := by omega
            simp [c6, c4, hrd, erRead]
end Mi
set_option maxHeartbeats 4000000
namespace Mi
open PySem PySem.Spec PyProof.Rows L2
theorem nodup_le : ∀ (l m : List Nat), l.Nodup → (∀ a ∈ l, a ∈ m) → l.length ≤ m.length
  | [], _, _, _ => Nat.zero_le _
  | a :: r, m, hn, h => by
    obtain ⟨h1, h2⟩ := List.nodup_cons.mp hn
    have ha := h a List.mem_cons_self
    have := nodup_le r (m.erase a) h2 fun b hb => by
      have hne : b ≠ a := fun z => h1 (z ▸ hb)
      exact (List.mem_erase_of_ne hne).mpr (h b (List.mem_cons_of_mem _ hb))
    rw [List.length_erase_of_mem ha] at this
    have hp : 0 < m.length := List.length_pos_of_mem ha
    simp only [List.length_cons]
    omega
theorem mod_inj {a h i j : Nat} (hi : i < h) (hj : j < h) (e : (a + i) % h = (a + j) % h) : i = j := by
  have h1 := Nat.div_add_mod (a + i) h
  have h2 := Nat.div_add_mod (a + j) h
  rw [e] at h1
  rcases Nat.lt_trichotomy ((a + i) / h) ((a + j) / h) with q | q | q
  · have := Nat.mul_le_mul_left h (show (a + i) / h + 1 ≤ (a + j) / h from q)
    rw [Nat.mul_add] at this
    omega
  · rw [q] at h1; omega
  · have := Nat.mul_le_mul_left h (show (a + j) / h + 1 ≤ (a + i) / h from q)
    rw [Nat.mul_add] at this
    omega
/-- all that is met lies in l, so the next one does not -/
theorem pigeon {l : List Nat} {a h : Nat} (hl : l.length < h) (hm : ∀ i, i < l.length → (a + i) % h ∈ l) : (a + l.length) % h ∉ l := fun hx => by
  suffices hh : ((List.range (l.length + 1)).map fun i => (a + i) % h).length ≤ l.length by
    simp at hh
    omega
  refine nodup_le _ l ?_ ?_
  · rw [List.nodup_iff_pairwise_ne, List.pairwise_map]
    refine List.Pairwise.imp_of_mem ?_ (List.nodup_iff_pairwise_ne.mp List.nodup_range)
    intro x y hx' hy' hne e
    exact hne (mod_inj (by have := List.mem_range.mp hx'; omega) (by have := List.mem_range.mp hy'; omega) e)
  · intro b hb
    obtain ⟨i, hi, rfl⟩ := List.mem_map.mp hb
    have hi2 := List.mem_range.mp hi
    rcases Nat.lt_or_ge i l.length with h1 | h1
    · exact hm i h1
    · have : i = l.length := by omega
      subst this
      exact hx
end Mi
set_option maxHeartbeats 4000000
namespace Mi
open PySem PySem.Spec PyProof.Rows L2
theorem shaped_intsD (l : List Nat) : SeqAt.shaped (.list (intsD l)) = true := shaped_LI (lo := 0) (hi := (l.foldl max 0 : Nat) + 1) (fun d hd => by
  unfold intsD at hd
  obtain ⟨a, ha, rfl⟩ := List.mem_map.mp hd
  refine ⟨_, rfl, by omega, ?_⟩
  have : ∀ (l : List Nat) (b : Nat), b ≤ l.foldl max b ∧ ∀ x ∈ l, x ≤ l.foldl max b := fun l => by
    induction l with
    | nil => intro b; exact ⟨Nat.le_refl _, fun _ h => nomatch h⟩
    | cons y r ih =>
      intro b
      obtain ⟨i1, i2⟩ := ih (max b y)
      refine ⟨by simp only [List.foldl_cons]; omega, fun x hx => ?_⟩
      simp only [List.foldl_cons]
      rcases List.mem_cons.mp hx with rfl | hx
      · omega
      · exact i2 x hx
  have := (this l 0).2 a ha
  omega)
theorem any_intsD (l : List Nat) (c : Nat) : ((intsD l).any fun z => PyData.eqv z (.int (c : Nat))) = decide (c ∈ l) := by
  induction l with
  | nil => rfl
  | cons a r ih =>
    show (PyData.eqv (.int (a : Nat)) (.int (c : Nat)) || (intsD r).any _) = _
    rw [ih, eqv_i]
    by_cases h : a = c
    · subst h; simp
    · have : ¬ ((a : Int) = (c : Int)) := by omega
      have h2 : ¬ c = a := fun z => h z.symm
      simp [this, h2]
theorem notIn_intsD (l : List Nat) (c : Nat) : dNotInO (.int (c : Nat)) (intsD l) = some (.bool (!decide (c ∈ l))) := by
  unfold dNotInO dNotIn
  dsimp only
  rw [if_pos ⟨rfl, shaped_intsD l⟩, any_intsD]
def IUn (h k : Int) (i : Nat) (e : En Sto) : Prop := ∃ (l : List Nat) (x4 x5 x6 : Slot) (s : Sto), e = ⟨[.tok, .sh (.int h), .sh (.int k), .ow (intsD l), x4, x5, x6], s⟩ ∧ l.length = i ∧ l.Nodup ∧ ∀ a ∈ l, (a : Int) < h
def IUn2 (h k : Int) (l : List Nat) (i c : Nat) (s : Sto) (j : Nat) (e : En Sto) : Prop := ∃ (x6 : Slot) (b : Nat), e = ⟨[.tok, .sh (.int h), .sh (.int k), .ow (intsD l), .sh (.int (i : Nat)), .sh (.int (b : Nat)), x6], s⟩ ∧ b = (c + j) % h.toNat ∧ ∀ t, t < j → (c + t) % h.toNat ∈ l
theorem unlike_sp (cs : List Addr) (s : Sto) (h k : Int) (h0 : 1 ≤ h) (h1 : h ≤ 1000) (k0 : 0 ≤ k) : Fn (m__law_unlike cs) [.tok, .d (.int h), .d (.int k)] s (fun r _ => ∃ l : List Nat, r = .fr (intsD l) ∧ l.length = min k.toNat h.toNat ∧ l.Nodup ∧ ∀ a ∈ l, (a : Int) < h) fun _ _ => False := by
  unfold m__law_unlike
  with_reducible refine Fn_of ?_
  unfold b__law_unlike
  simp
  obtain ⟨m, hm⟩ : ∃ m : Int, m = if h < k then h else k := ⟨_, rfl⟩
  rw [← hm]
  have m0 : 0 ≤ m := by rw [hm]; split <;> omega
  have m1 : m.toNat = min k.toNat h.toNat := by rw [hm]; split <;> omega
  refine ⟨small_of m0 (by omega), ?_⟩
  refine wLoop_rng (IUn h k) ⟨[], _, _, _, _, rfl, rfl, List.nodup_nil, fun _ z => nomatch z⟩ ?_ ?_
  · rintro i e hi ⟨l, x4, x5, x6, s2, rfl, hl, hn, hb⟩
    have fin : ∀ (x4 x6 : Slot) (c : Nat) (s3 : Sto), c ∉ l → (c : Int) < h → (intsD l).length < sizeLine ∧ IUn h k (i + 1) ⟨[.tok, .sh (.int h), .sh (.int k), .ow (intsD l ++ [.int (c : Nat)]), x4, .sh (.int (c : Nat)), x6], s3⟩ := fun x4 x6 c s3 c1 c2 => by
      refine ⟨by rw [intsD_len]; exact sizeLine_big (by omega), l ++ [c], _, _, _, _, by rw [intsD_app]; rfl, by simp [hl], ?_, fun a ha => ?_⟩
      · rw [List.nodup_append]
        exact ⟨hn, List.nodup_cons.mpr ⟨List.not_mem_nil, List.nodup_nil⟩, fun a ha b hb2 => by simp at hb2; subst hb2; exact fun z => c1 (z ▸ ha)⟩
      · rcases List.mem_append.mp ha with h | h
        · exact hb a h
        · simp at h; subst h; exact c2
    simp
    refine wTake (by omega) (by omega) fun a s3 a0 a1 => ?_
    obtain ⟨c, rfl⟩ : ∃ c : Nat, a = c := ⟨a.toNat, by omega⟩
    simp [intsD_len]
    refine ⟨small_of (by omega) (by omega), ?_⟩
    refine wLoop_rng (IUn2 h k l i c s3) ⟨_, c, rfl, by rw [Nat.add_zero, Nat.mod_eq_of_lt (by omega)], fun t ht => by omega⟩ ?_ ?_
    · rintro j e hj ⟨x6, b, rfl, hb2, ht⟩
      simp [notIn_intsD]
      refine wIf_of (fun q => ?_) (fun q => ?_)
      · have q2 : b ∉ l := by simpa using q
        simp
        exact fin _ _ b s3 q2 (by have := Nat.mod_lt (c + j) (show 0 < h.toNat by omega); omega)
      · have q2 : b ∈ l := by simpa using q
        simp
        have e1 : ((b : Int) + 1) % h = (((b + 1) % h.toNat : Nat) : Int) := by
          rw [Int.natCast_emod]
          congr 1
          omega
        rw [e1]
        refine ⟨by omega, _, (b + 1) % h.toNat, rfl, ?_, fun t h3 => ?_⟩
        · rw [hb2, Nat.mod_add_mod]; rfl
        · rcases Nat.lt_or_ge t j with h4 | h4
          · exact ht t h4
          · have : t = j := by omega
            subst this
            rw [← hb2]; exact q2
    · rintro e ⟨x6, b, rfl, hb2, ht⟩
      have hL : l.length < h.toNat := by
        have : i < m.toNat := hi
        omega
      have q2 : b ∉ l := by rw [hb2]; exact pigeon hL ht
      simp
      exact fin _ _ b s3 q2 (by have := Nat.mod_lt (c + l.length) (show 0 < h.toNat by omega); omega)
  · rintro e ⟨l, x4, x5, x6, s2, rfl, hl, hn, hb⟩
    simp
    exact ⟨l, rfl, by omega, hn, hb⟩
end Mi
set_option maxHeartbeats 4000000
namespace Mi
open PySem PySem.Spec PyProof.Rows L2
def readD : Read → Mi.D
  | .bad p => .tuple [.str "baddigit", .int (p : Nat)]
  | .noend => .tuple [.str "noend"]
  | .behind p => .tuple [.str "behind", .int (p : Nat)]
  | .not => .tuple [.str "notoctets"]
  | .many => .tuple [.str "toomany", .str "octets", .int 24]
  | .told os => .tuple [.str "told", .tuple (intsD os)]
/-- what a list of digits says -/
inductive Rd (b : Nat) : List Mi.D → Read → Prop
  | bad (l : List Nat) (bad : Mi.D) (post : List Mi.D) : (∀ a ∈ l, a < b) → natOf b bad = none → noDict bad → Rd b (intsD l ++ bad :: post) (.bad l.length)
  | noend (l : List Nat) : (∀ a ∈ l, a < b) → b - 1 ∉ l → Rd b (intsD l) .noend
  | behind (l l2 : List Nat) : (∀ a ∈ l, a < b - 1) → (∀ a ∈ l2, a < b) → l2 ≠ [] → Rd b (intsD (l ++ (b - 1) :: l2)) (.behind (l.length + 1))
  | ends (l : List Nat) : (∀ a ∈ l, a < b - 1) → Rd b (intsD (l ++ [b - 1])) (readL b l)
theorem rd_ex (b : Nat) (xs : List Mi.D) (hx : ∀ x ∈ xs, noDict x) : ∃ rd, Rd b xs rd := by
  rcases splitD b xs with ⟨l, bad, post, rfl, h1, h2⟩ | ⟨l, rfl, h1⟩
  · exact ⟨_, .bad l bad post h1 h2 (hx bad (by simp))⟩
  · by_cases hm : b - 1 ∈ l
    · obtain ⟨l1, l2, rfl, h2⟩ := List.eq_append_cons_of_mem hm
      have h3 : ∀ a ∈ l1, a < b - 1 := fun a ha => by
        have g1 := h1 a (by simp [ha])
        have g2 : a ≠ b - 1 := fun z => h2 (z ▸ ha)
        omega
      by_cases h4 : l2 = []
      · subst h4; exact ⟨_, .ends l1 h3⟩
      · exact ⟨_, .behind l1 l2 h3 (fun a ha => h1 a (by simp [ha])) h4⟩
    · exact ⟨_, .noend l h1 hm⟩
def Hs81 : List (Hm Unit) := [⟨"BadDigit", some 2, (mRet (mTup (mCons (rt (.str "baddigit")) (mCons (mAtt 2 "place" "BadDigit") mNil))))⟩,
  ⟨"NoEnd", some 2, (mRet (mTup (mCons (rt (.str "noend")) mNil)))⟩,
  ⟨"Behind", some 2, (mRet (mTup (mCons (rt (.str "behind")) (mCons (mAtt 2 "place" "Behind") mNil))))⟩,
  ⟨"NotOctets", some 2, (mRet (mTup (mCons (rt (.str "notoctets")) mNil)))⟩,
  ⟨"TooMany", some 2, (mRet (mTup (mCons (rt (.str "toomany")) (mCons (mAtt 2 "what" "TooMany") (mCons (mAtt 2 "most" "TooMany") mNil)))))⟩]
theorem hs_bad {a b v : Mi.D} : kTr sub Hs81 (fnQ fun r _ => r = .sh (.tuple [.str "baddigit", v])) (fun x e => False) ⟨"BadDigit", [("place", v)]⟩ ⟨[.sh a, .sh b, .un], ()⟩ := by
  rw [kTr_e]
  refine ⟨by rfl, ?_⟩
  refine wHs_hit (show sub "BadDigit" "BadDigit" = some true by decide +kernel) ?_
  simp [Hm.In, Hm.Un]
  exact ⟨sizeLine_le (by decide), by rfl⟩
theorem hs_noend {a b : Mi.D} : kTr sub Hs81 (fnQ fun r _ => r = .sh (.tuple [.str "noend"])) (fun x e => False) ⟨"NoEnd", []⟩ ⟨[.sh a, .sh b, .un], ()⟩ := by
  rw [kTr_e]
  refine ⟨by rfl, ?_⟩
  refine wHs_miss (show sub "NoEnd" "BadDigit" = some false by decide +kernel) ?_
  refine wHs_hit (show sub "NoEnd" "NoEnd" = some true by decide +kernel) ?_
  simp [Hm.In, Hm.Un]
  exact ⟨sizeLine_le (by decide), by rfl⟩
theorem hs_behind {a b v : Mi.D} : kTr sub Hs81 (fnQ fun r _ => r = .sh (.tuple [.str "behind", v])) (fun x e => False) ⟨"Behind", [("place", v)]⟩ ⟨[.sh a, .sh b, .un], ()⟩ := by
  rw [kTr_e]
  refine ⟨by rfl, ?_⟩
  refine wHs_miss (show sub "Behind" "BadDigit" = some false by decide +kernel) ?_
  refine wHs_miss (show sub "Behind" "NoEnd" = some false by decide +kernel) ?_
  refine wHs_hit (show sub "Behind" "Behind" = some true by decide +kernel) ?_
  simp [Hm.In, Hm.Un]
  exact ⟨sizeLine_le (by decide), by rfl⟩
theorem hs_not {a b : Mi.D} : kTr sub Hs81 (fnQ fun r _ => r = .sh (.tuple [.str "notoctets"])) (fun x e => False) ⟨"NotOctets", []⟩ ⟨[.sh a, .sh b, .un], ()⟩ := by
  rw [kTr_e]
  refine ⟨by rfl, ?_⟩
  refine wHs_miss (show sub "NotOctets" "BadDigit" = some false by decide +kernel) ?_
  refine wHs_miss (show sub "NotOctets" "NoEnd" = some false by decide +kernel) ?_
  refine wHs_miss (show sub "NotOctets" "Behind" = some false by decide +kernel) ?_
  refine wHs_hit (show sub "NotOctets" "NotOctets" = some true by decide +kernel) ?_
  simp [Hm.In, Hm.Un]
  exact ⟨sizeLine_le (by decide), by rfl⟩
theorem hs_many {a b : Mi.D} {w : Mi.D} {k : Int} : kTr sub Hs81 (fnQ fun r _ => r = .sh (.tuple [.str "toomany", w, .int k])) (fun x e => False) ⟨"TooMany", [("most", .int k), ("what", w)]⟩ ⟨[.sh a, .sh b, .un], ()⟩ := by
  rw [kTr_e]
  refine ⟨by rfl, ?_⟩
  refine wHs_miss (show sub "TooMany" "BadDigit" = some false by decide +kernel) ?_
  refine wHs_miss (show sub "TooMany" "NoEnd" = some false by decide +kernel) ?_
  refine wHs_miss (show sub "TooMany" "Behind" = some false by decide +kernel) ?_
  refine wHs_miss (show sub "TooMany" "NotOctets" = some false by decide +kernel) ?_
  refine wHs_hit (show sub "TooMany" "TooMany" = some true by decide +kernel) ?_
  have h2 : List.lookup (PySem.Str.ofString "what") [(PySem.Str.ofString "most", PyData.int k), (PySem.Str.ofString "what", w)] = some w := by rfl
  simp [Hm.In, Hm.Un, h2]
  exact ⟨sizeLine_le (by decide), by rfl⟩
theorem asked_gen {p k : Mi.D} {P : R → Prop} {G : Mi.D → Prop} {E : Er → Prop} (h : Fn m_octets_of [.d p, .d k] () (fun r _ => G r.d) fun x _ => E x) (hg : ∀ d, G d → P (.sh (.tuple [.str "told", d])))
    (hx : ∀ x, E x → kTr sub Hs81 (fnQ fun r _ => P r) (fun x e => False) x ⟨[.sh p, .sh k, .un], ()⟩) : Fn m__law_asked_octets [.d p, .d k] () (fun r _ => P r) fun _ _ => False := by
  unfold m__law_asked_octets
  with_reducible refine Fn_of ?_
  unfold b__law_asked_octets
  simp
  refine wCall_of h (fun r s1 e => ?_) fun x s1 e => ?_
  · simp
    exact ⟨sizeLine_le (by decide), hg _ e⟩
  · have := hx x e
    rw [kTr_e] at this
    exact this
theorem asked_ex {X : Er} {d : Mi.D} {b : Nat} {q : Mi.D} (h0 : 3 ≤ b) (h1 : b ≤ 64) (h : Fn m_end_of [.d (.int (b : Nat)), .d q] () (fun _ _ => False) fun x _ => x = X)
    (hx : kTr sub Hs81 (fnQ fun r _ => r = .sh d) (fun x e => False) X ⟨[.sh (.int (b : Nat)), .sh q, .un], ()⟩) : Fn m__law_asked_octets [.d (.int (b : Nat)), .d q] () (fun r _ => r = .sh d) fun _ _ => False :=
  asked_gen (P := fun r => r = .sh d) (G := fun _ => False) (E := fun x => x = X) (octets_ex b q h0 h1 h) (fun _ z => z.elim) fun x e => by rw [e]; exact hx
theorem asked_long (b : Nat) (q : Mi.D) (xs : List Mi.D) (h0 : 3 ≤ b) (h1 : b ≤ 64) (hq : SeqD q xs) (hl : 600 < xs.length) : Fn m__law_asked_octets [.d (.int (b : Nat)), .d q] () (fun r _ => r = .sh (.tuple [.str "toomany", .str "digits", .int 600])) fun _ _ => False :=
  asked_ex h0 h1 (end_long b q xs hq hl) hs_many
theorem asked_rd (b : Nat) (q : Mi.D) (xs : List Mi.D) (h0 : 3 ≤ b) (h1 : b ≤ 64) (hq : SeqD q xs) (hl : xs.length ≤ 600) {rd : Read} (h : Rd b xs rd) : Fn m__law_asked_octets [.d (.int (b : Nat)), .d q] () (fun r _ => r = .sh (readD rd)) fun _ _ => False := by
  cases h with
  | bad l bad post g1 g2 g3 =>
    have hl2 : l.length + post.length < 600 := by simp [intsD_len] at hl; omega
    exact asked_ex h0 h1 (end_bad b q l bad post hq g1 g2 g3 hl2) hs_bad
  | noend l g1 g2 =>
    rw [intsD_len] at hl
    exact asked_ex h0 h1 (end_ints b q l hq g1 hl l.length (fun i hi _ z => g2 (z ▸ List.getElem_mem hi)) (by omega) (fun z => absurd z (Nat.lt_irrefl _)) (fun _ => rfl) (Nat.le_refl _)) hs_noend
  | behind l l2 g1 g2 g3 =>
    rw [intsD_len] at hl
    have hp : 0 < l2.length := List.length_pos_iff.mpr g3
    refine asked_ex h0 h1 (end_ints b q (l ++ (b - 1) :: l2) hq (fun a ha => ?_) hl l.length (fun i hi hi2 => ?_) (by omega) (fun z => ⟨by simp, fun _ => rfl, fun z => ?_⟩) (fun z => ?_) (by simp)) hs_behind
    · rcases List.mem_append.mp ha with ha | ha
      · have := g1 a ha; omega
      · rcases List.mem_cons.mp ha with rfl | ha
        · omega
        · exact g2 a ha
    · rw [List.getElem_append_left hi2]
      have := g1 l[i] (List.getElem_mem hi2)
      omega
    · rw [List.length_append, List.length_cons] at z; omega
    · simp at z
  | ends l g1 =>
    rw [intsD_len, List.length_append] at hl
    refine asked_gen (P := fun r => r = .sh (readD (readL b l))) (G := fun d => ∃ os, readL b l = .told os ∧ d = .tuple (intsD os)) (E := fun x => erRead (readL b l) = some x)
      ((octets_ok b q l h0 h1 hq g1 (by simp at hl; omega)).imp (fun r _ ⟨os, e1, e2⟩ => ⟨os, e1, by rw [e2]; rfl⟩) fun _ _ z => z) (fun d ⟨os, e1, e2⟩ => by rw [e1, e2]; rfl) fun x e => ?_
    cases h : readL b l with
    | bad p => rw [h] at e; cases e; exact hs_bad
    | noend => rw [h] at e; cases e; exact hs_noend
    | behind p => rw [h] at e; cases e; exact hs_behind
    | not => rw [h] at e; cases e; exact hs_not
    | many => rw [h] at e; cases e; exact hs_many
    | told os => rw [h] at e; cases e
end Mi
set_option maxHeartbeats 4000000
namespace Mi
open PySem PySem.Spec PyProof.Rows L2
section
variable {S α β : Type} {e e' : En S} {X : Er → En S → Prop}
/-! comprehensions with a test -/
def kFil (l : List Nat) (sw : List Slot) (f : M S Mi.D) (P : Mi.D → Prop) (c : Bool) (b : Bool) (e : En S) : Prop := b = c ∧ (c = true → wp f e (kEl l sw P) fun _ _ => False) ∧ (c = false → (wipeE l e).sl = sw)
@[simp] theorem kFil_e (l : List Nat) (sw : List Slot) (f : M S Mi.D) (P : Mi.D → Prop) (c : Bool) (b : Bool) : kFil l sw f P c b e = (b = c ∧ (c = true → wp f e (kEl l sw P) fun _ _ => False) ∧ (c = false → (wipeE l e).sl = sw)) := (rfl)
theorem wLclF {l : List Nat} {g : Mi.D → M S Unit} {t : M S Bool} {f : M S Mi.D} {sw : List Slot} (c : Mi.D → Bool) (P : Mi.D → Mi.D → Prop) : ∀ (ds : List Mi.D) (e : En S), e.sl = sw → (∀ d ∈ ds, ∀ s : S, wG (g d) ⟨sw, s⟩ fun e1 => wp t e1 (kFil l sw f (P d) (c d)) fun _ _ => False) →
    wp (lcl l g t f ds) e (fun ys e1 => RelL P (ds.filter c) ys ∧ e1.sl = sw) fun _ _ => False
  | [], e, he, _ => ⟨.nil, he⟩
  | d :: ds, e, he, h => by
    have h1 := h d List.mem_cons_self e.st
    have ee : e = ⟨sw, e.st⟩ := by cases e; cases he; rfl
    rw [← ee] at h1
    unfold wG at h1
    unfold wp
    rw [lcl]
    dsimp only
    cases q : g d e with
    | ok u e1 =>
      rw [q] at h1
      dsimp only at h1 ⊢
      unfold wp at h1
      unfold bnd
      dsimp only
      cases w0 : t e1 with
      | ok b e2 =>
        rw [w0] at h1
        dsimp only at h1 ⊢
        obtain ⟨rfl, h2, h3⟩ := h1
        cases hc : c d with
        | true =>
          rw [if_pos rfl, List.filter_cons_of_pos hc]
          have h4 := h2 hc
          unfold wp at h4
          cases w : f e2 with
          | ok y e3 =>
            rw [w] at h4
            obtain ⟨h5, h6⟩ := h4
            dsimp only
            have h7 := wLclF c P ds (wipeE l e3) h6 fun d' hd s => h d' (List.mem_cons_of_mem _ hd) s
            unfold wp at h7
            cases z : lcl l g t f ds (wipeE l e3) with
            | ok ys e4 => rw [z] at h7; exact ⟨.cons h5 h7.1, h7.2⟩
            | err x e4 => rw [z] at h7; exact h7
            | stuck => rw [z] at h7; exact h7
          | err x e3 => rw [w] at h4; exact h4.elim
          | stuck => rw [w] at h4; exact h4.elim
        | false =>
          rw [if_neg (by decide), List.filter_cons_of_neg (by rw [hc]; decide)]
          have h7 := wLclF c P ds (wipeE l e2) (h3 hc) fun d' hd s => h d' (List.mem_cons_of_mem _ hd) s
          unfold wp at h7
          exact h7
      | err x e2 => rw [w0] at h1; exact h1.elim
      | stuck => rw [w0] at h1; exact h1.elim
    | err x e1 => rw [q] at h1; exact h1.elim
    | stuck => rw [q] at h1; exact h1.elim
theorem wLcs_fil {Q : List Mi.D → En S → Prop} {l : List Nat} {g : Mi.D → M S Unit} {t : M S Bool} {f : M S Mi.D} {ds : List Mi.D} (c : Mi.D → Bool) (P : Mi.D → Mi.D → Prop) (hl : ds.length ≤ sizeLine) (h : ∀ d ∈ ds, ∀ s : S, wG (g d) ⟨(wipeE l e).sl, s⟩ fun e1 => wp t e1 (kFil l (wipeE l e).sl f (P d) (c d)) fun _ _ => False)
    (k : ∀ ys s, RelL P (ds.filter c) ys → Q ys ⟨(resE l e ⟨(wipeE l e).sl, s⟩).sl, s⟩) : wLcs l g t f ds e Q := by
  refine ⟨hl, ?_⟩
  have h1 := wLclF c P ds (wipeE l e) rfl h
  unfold wp at h1 ⊢
  cases z : lcl l g t f ds (wipeE l e) with
  | ok ys e4 =>
    rw [z] at h1
    have := k ys e4.st h1.1
    obtain ⟨sl4, s4⟩ := e4
    have h2 : sl4 = (wipeE l e).sl := h1.2
    subst h2
    exact this
  | err x e4 => rw [z] at h1; exact h1
  | stuck => rw [z] at h1; exact h1
end
end Mi
set_option maxHeartbeats 4000000
namespace Mi
open PySem PySem.Spec PyProof.Rows L2
def ILd (v r : Nat) (i : Nat) (e : En Unit) : Prop := ∃ (w : Nat) (done : List Nat) (x4 : Slot), e = ⟨[.sh (.int (v : Nat)), .sh (.int (r : Nat)), .ow (intsD done), .sh (.int (w : Nat)), x4], ()⟩ ∧ done.length = i ∧ w * 2 ^ i ≤ v ∧ ∀ ds, Dig r w ds → Dig r v (done ++ ds)
theorem law_digits_sp (v r : Nat) (h0 : 2 ≤ r) (h1 : r ≤ 256) (hv : v < 2 ^ 390) : Fn m__law_digits [.d (.int (v : Nat)), .d (.int (r : Nat))] () (fun x _ => x.d = .list (intsD (digs r v))) fun _ _ => False := by
  unfold m__law_digits
  with_reducible refine Fn_of ?_
  unfold b__law_digits
  simp
  refine ⟨small_of (by decide) (by decide), ?_⟩
  generalize hN : (400 : Nat) = N
  refine wLoop_rng (ILd v r) ⟨v, [], _, rfl, rfl, by simp, fun ds h => h⟩ ?_ ?_
  · rintro i e hi ⟨w, done, x4, rfl, hd, hw, hr⟩
    simp
    refine wIf_d (fun c => ?_) (fun c => ?_)
    · subst c
      have := (hr [] .nil).uniq (dig_s (by omega) _)
      rw [List.append_nil] at this
      subst this
      simp
    · simp
      have e1 : ((w : Nat) : Int) % (r : Nat) = ((w % r : Nat) : Int) := (Int.natCast_emod _ _).symm
      have e2 : ((w : Nat) : Int) / (r : Nat) = ((w / r : Nat) : Int) := (Int.natCast_ediv _ _).symm
      have e3 : intsD done ++ [.int ((w % r : Nat) : Int)] = intsD (done ++ [w % r]) := by rw [intsD_app]; rfl
      rw [e1, e2, e3]
      refine ⟨by omega, by rw [intsD_len]; exact sizeLine_big (by omega), divOk_small (by omega) (by omega), w / r, done ++ [w % r], _, rfl, by simp [hd], ?_, fun ds h => ?_⟩
      · have h2 : w / r ≤ w / 2 := Nat.div_le_div_left h0 (by decide)
        have h3 : (w / r) * 2 ≤ w := by omega
        rw [Nat.pow_succ]
        have h4 := Nat.mul_le_mul_right (2 ^ i) h3
        have h5 : (w / r) * (2 ^ i * 2) = (w / r) * 2 * 2 ^ i := by rw [Nat.mul_comm (2 ^ i) 2, Nat.mul_assoc]
        omega
      · rw [List.append_assoc]
        exact hr _ (.cons (by omega) h)
  · rintro e ⟨w, done, x4, rfl, hd, hw, hr⟩
    have hw0 : w = 0 := by
      rcases Nat.eq_zero_or_pos w with h | h
      · exact h
      · have h2 : 2 ^ 390 ≤ 2 ^ N := Nat.pow_le_pow_right (by decide) (by omega)
        have h3 : 1 * 2 ^ N ≤ w * 2 ^ N := Nat.mul_le_mul_right _ h
        omega
    subst hw0
    have := (hr [] .nil).uniq (dig_s (by omega) _)
    rw [List.append_nil] at this
    subst this
    simp
def ILv (q : Mi.D) (os : List Nat) (i : Nat) (e : En Unit) : Prop := ∃ (x2 : Slot), e = ⟨[.sh q, .sh (.int (octV (os.take i) : Nat)), x2], ()⟩
theorem law_value_sp (q : Mi.D) (os : List Nat) (hq : SeqD q (intsD os)) : Fn m__law_value [.d q] () (fun r _ => r = .sh (.int (octV os : Nat))) fun _ _ => False := by
  unfold m__law_value
  with_reducible refine Fn_of ?_
  unfold b__law_value
  simp [hq.seq]
  refine wLoop_idx (ILv q os) ⟨_, rfl⟩ ?_ ?_
  · rintro i d e hd ⟨x2, rfl⟩
    have hi : i < os.length := by have := (List.getElem?_eq_some_iff.mp hd).1; rwa [intsD_len] at this
    rw [intsD_at hi] at hd
    cases hd
    simp
    refine ⟨mulOk_small (by decide) (by decide), ?_⟩
    unfold ILv
    rw [octV_take hi]
    exact ⟨.sh (.int (os[i] : Nat)), by simp⟩
  · rintro e ⟨x2, rfl⟩
    rw [intsD_len, List.take_length]
    simp
end Mi
set_option maxHeartbeats 4000000
namespace Mi
open PySem PySem.Spec PyProof.Rows L2
theorem lwhole_sp (d : Mi.D) (h : noDict d) : Fn m__law_is_whole [.d d] () (fun r _ => r = .sh (.bool (isIntD d))) fun _ _ => False := by
  unfold m__law_is_whole
  with_reducible refine Fn_of ?_
  unfold b__law_is_whole
  cases d with
  | dict _ => exact h.elim
  | _ => simp [isIntD]
end Mi
set_option maxHeartbeats 4000000
namespace Mi
open PySem PySem.Spec PyProof.Rows L2
theorem bad_test {b : Nat} {bad : Mi.D} (h : natOf b bad = none) (h2 : noDict bad) : (∃ k : Int, bad = .int k ∧ (k < 0 ∨ (b : Int) ≤ k)) ∨ isIntD bad = false := by
  cases bad with
  | int k =>
    refine .inl ⟨k, rfl, ?_⟩
    change (if 0 ≤ k ∧ k < (b : Nat) then some k.toNat else none) = none at h
    split at h
    · cases h
    · omega
  | dict _ => exact h2.elim
  | _ => exact .inr rfl
def IR (b : Nat) (xs : List Mi.D) (i : Nat) (e : En Unit) : Prop := ∃ (x2 : Slot), e = ⟨[.sh (.int (b : Nat)), .sh (.list xs), x2, .un, .un, .un], ()⟩
theorem read_bad (b : Nat) (l : List Nat) (bad : Mi.D) (post : List Mi.D) (h1 : ∀ a ∈ l, a < b) (h2 : natOf b bad = none) (h3 : noDict bad) (hl : l.length + post.length < 1000) :
    Fn m__law_read [.d (.int (b : Nat)), .d (.list (intsD l ++ bad :: post))] () (fun r _ => r = .sh (.tuple [.str "baddigit", .int (l.length : Nat)])) fun _ _ => False := by
  unfold m__law_read
  with_reducible refine Fn_of ?_
  unfold b__law_read
  generalize hxs : intsD l ++ bad :: post = xs
  have hlen : xs.length = l.length + post.length + 1 := by rw [← hxs]; simp [intsD_len]; omega
  simp
  refine ⟨small_of (by omega) (by omega), ?_⟩
  refine loop_cut l.length (IR b xs) ⟨_, rfl⟩ ?_ ?_ ?_
  · rintro i d e hd hi ⟨x2, rfl⟩
    obtain ⟨g0, rfl⟩ := rngD_get hd
    have g : atI xs (i : Int) = some (.int (l[i] : Nat)) := by
      refine atI_of ?_
      rw [← hxs, List.getElem?_append_left (by rw [intsD_len]; exact hi), intsD_at hi]
    have g2 : ¬ ((b : Int) ≤ (l[i] : Nat)) := by have := h1 l[i] (List.getElem_mem hi); omega
    simp [g]
    refine wCall_val (lwhole_sp _ trivial) fun r s3 e => ?_
    subst e
    have g3 : ¬ (((l[i] : Nat) : Int) < 0) := by omega
    simp [isIntD, g, g2, g3]
    exact ⟨_, rfl⟩
  · rintro d e hd ⟨x2, rfl⟩
    obtain ⟨g0, rfl⟩ := rngD_get hd
    have g : atI xs (l.length : Int) = some bad := by
      refine atI_of ?_
      rw [← hxs, List.getElem?_append_right (by rw [intsD_len]; exact Nat.le_refl _), intsD_len, Nat.sub_self]
      rfl
    simp [g]
    refine wCall_val (lwhole_sp _ h3) fun r s3 e => ?_
    subst e
    rcases bad_test h2 h3 with ⟨k, rfl, hk⟩ | hf
    · simp [isIntD, g]
      refine wIf_d (fun c => ?_) (fun c => ?_)
      · simp
        exact sizeLine_le (by decide)
      · have : (b : Int) ≤ k := by omega
        simp [this, g]
        exact sizeLine_le (by decide)
    · simp [hf]
      exact sizeLine_le (by decide)
  · rintro i e hi hn ⟨x2, rfl⟩
    rw [rngD_len] at hi
    omega
theorem dNotIn_ints (l : List Nat) (c : Nat) : dNotIn (.int (c : Nat)) (.list (intsD l)) = some (.bool (!decide (c ∈ l))) := notIn_intsD l c
theorem fil_first {N n : Nat} (c : Mi.D → Bool) (hn : n < N) (h0 : ∀ i, i < n → c (.int (i : Nat)) = false) (h1 : c (.int (n : Nat)) = true) : ∃ r, (rngD 0 N).filter c = .int (n : Nat) :: r := by
  obtain ⟨k, rfl⟩ : ∃ k, N = n + (k + 1) := ⟨N - n - 1, by omega⟩
  unfold rngD
  rw [List.range_add, List.map_append, List.filter_append]
  have e1 : ((List.range n).map fun (i : Nat) => PyData.int (0 + (i : Int))).filter c = [] := by
    rw [List.filter_eq_nil_iff]
    intro a ha
    obtain ⟨i, hi, rfl⟩ := List.mem_map.mp ha
    rw [Int.zero_add, h0 i (List.mem_range.mp hi)]
    decide
  rw [e1, List.range_succ_eq_map, List.nil_append, List.map_cons, List.map_cons, List.filter_cons_of_pos (by simpa using h1)]
  exact ⟨_, by rw [Int.zero_add]; rfl⟩
theorem cut_tail {α : Type} (x : α) (xs : List α) : cutD (x :: xs) (some 1) none = xs := by
  unfold cutD
  rw [show (1 : Int) = ((1 : Nat) : Int) from rfl, HT.sIx_nat, HT.sIx_none]
  simp
theorem last_of {os : List Nat} {x : Nat} : atI (intsD (os ++ [x])) (-1) = some (.int (x : Nat)) := by
  rw [intsD_app]
  exact atI_last _ _
def IRv (b : Nat) (l : List Nat) (n : Nat) (i : Nat) (e : En Unit) : Prop := ∃ (x2 : Slot), e = ⟨[.sh (.int (b : Nat)), .sh (.list (intsD l)), x2, .sh (.int (n : Nat)), .sh (.int (valN (b - 1) ((l.take n).drop (n - i)) : Nat)), .un], ()⟩
def isC (c : Int) (l : List Nat) : Mi.D → Bool
  | .int i => decide (((l[i.toNat]?).getD 0 : Nat) = c)
  | _ => false
/-- behind the first loop -/
theorem read_ints {P : R → Unit → Prop} (b : Nat) (l : List Nat) (h1 : ∀ a ∈ l, a < b) (hb : 2 ≤ b) (hb2 : b ≤ 64) (hl : l.length < 1000)
    (hno : b - 1 ∉ l → P (.sh (.tuple [.str "noend"])) ()) (n : Nat) (hn : ∀ i (hi : i < l.length), i < n → l[i] ≠ b - 1) (h2 : ∀ (hn : n < l.length), l[n] = b - 1) (hm : b - 1 ∈ l → n < l.length)
    (hbe : n + 1 < l.length → P (.sh (.tuple [.str "behind", .int ((n : Nat) + 1)])) ())
    (hz : n + 1 = l.length → (n = 0 ∨ l[n - 1]?.getD 0 = 0) → P (.sh (.tuple [.str "notoctets"])) ())
    (hv : n + 1 = l.length → valN (b - 1) (l.take n) < 2 ^ 390)
    (hrow : n + 1 = l.length → 0 < n → l[n - 1]?.getD 0 ≠ 0 → ∀ row, row = digs 256 (valN (b - 1) (l.take n)) → P (.sh (if row.getLast?.getD 0 ≠ 1 then .tuple [.str "notoctets"] else if 25 < row.length then .tuple [.str "toomany", .str "octets", .int 24] else .tuple [.str "told", .tuple (intsD row.dropLast.reverse)])) ()) :
    Fn m__law_read [.d (.int (b : Nat)), .d (.list (intsD l))] () P fun _ _ => False := by
  unfold m__law_read
  with_reducible refine Fn_of ?_
  unfold b__law_read
  have hb1 : ((b : Nat) : Int) - 1 = ((b - 1 : Nat) : Int) := by omega
  have gx : ∀ i, i < l.length → atI (intsD l) ((i : Nat) : Int) = some (.int (l[i]?.getD 0 : Nat)) := fun i hi => by
    refine atI_of ?_
    rw [intsD_at hi, List.getElem?_eq_getElem hi]
    rfl
  simp [intsD_len]
  refine ⟨small_of (by omega) (by omega), ?_⟩
  refine wLoop_rng (IR b (intsD l)) ⟨_, rfl⟩ ?_ ?_
  · rintro i e hi ⟨x2, rfl⟩
    have g := gx i hi
    have g2 : ¬ ((b : Int) ≤ (l[i]?.getD 0 : Nat)) := by
      rw [List.getElem?_eq_getElem hi]
      have := h1 l[i] (List.getElem_mem hi)
      show ¬ ((b : Int) ≤ (l[i] : Nat))
      omega
    simp [g]
    refine wCall_val (lwhole_sp _ trivial) fun r s3 e => ?_
    subst e
    have g3 : ¬ (((l[i]?.getD 0 : Nat) : Int) < 0) := by omega
    simp [isIntD, g, g2, g3]
    exact ⟨_, rfl⟩
  · rintro e ⟨x2, rfl⟩
    simp [hb1, dNotIn_ints]
    refine wIf_nd (fun c => ?_) (fun c => ?_)
    · simp
      exact ⟨sizeLine_le (by decide), hno (by simpa using c)⟩
    · have hm2 : b - 1 ∈ l := by simpa using c
      have hnl := hm hm2
      simp [intsD_len]
      refine ⟨small_of (by omega) (by omega), ?_⟩
      refine wLcs_fil (isC ((b - 1 : Nat) : Int) l) (fun d y => y = d) (sizeLine_le (by rw [rngD_len]; omega)) (fun d hd s3 => ?_) fun ys s3 hr => ?_
      · obtain ⟨i, hi⟩ := List.getElem?_of_mem hd
        obtain ⟨g0, rfl⟩ := rngD_get hi
        simp [wipeE, gx i g0, hb1, isC]
      · have hy := hr.same
        obtain ⟨r, hf⟩ := fil_first (isC ((b - 1 : Nat) : Int) l) hnl (fun i hi => by
          have := hn i (by omega) hi
          simp [isC, List.getElem?_eq_getElem (show i < l.length by omega)]
          omega) (by
          have := h2 hnl
          simp [isC, List.getElem?_eq_getElem hnl]
          omega)
        rw [hf] at hy
        subst hy
        simp [resE, wipeE, intsD_len]
        generalize keepS x2 = y2
        refine wIf_d (fun c2 => ?_) (fun c2 => ?_)
        · simp
          exact ⟨sizeLine_le (by decide), hbe (by omega)⟩
        · have hl1 : n + 1 = l.length := by omega
          simp
          refine wIf_d (fun c3 => ?_) (fun c3 => ?_)
          · simp
            exact ⟨sizeLine_le (by decide), hz hl1 (.inl (by omega))⟩
          · have e1 : ((n : Nat) : Int) - 1 = ((n - 1 : Nat) : Int) := by omega
            simp [e1, gx (n - 1) (by omega)]
            refine wIf_d (fun c4 => ?_) (fun c4 => ?_)
            · simp
              exact ⟨sizeLine_le (by decide), hz hl1 (.inr c4)⟩
            · simp
              refine ⟨small_of (by omega) (by omega), ?_⟩
              refine wLoop_rng (IRv b l n) ⟨_, by simp [List.drop_eq_nil_of_le, valN]; rfl⟩ ?_ ?_
              · rintro i e hi ⟨x2, rfl⟩
                have e2 : ((n : Nat) : Int) - 1 - (i : Nat) = ((n - 1 - i : Nat) : Int) := by omega
                simp [hb1, e2, gx (n - 1 - i) (by omega)]
                refine ⟨mulOk_small (by omega) (by omega), ?_⟩
                unfold IRv
                have hlt : (l.take n).length = n := by rw [List.length_take]; omega
                have g := valN_snoc (r := b - 1) (l := l.take n) (i := n - 1 - i) (by omega)
                rw [show n - 1 - i + 1 = n - i by omega] at g
                rw [show n - (i + 1) = n - 1 - i by omega, g, List.getElem_take, List.getElem?_eq_getElem (by omega), Int.natCast_add, Int.natCast_mul, Int.mul_comm, Int.add_comm]
                exact ⟨_, rfl⟩
              · rintro e ⟨x2, rfl⟩
                have hr := hrow hl1 (by omega) c4
                have hv2 := hv hl1
                have hpos : 0 < valN (b - 1) (l.take n) := by
                  have e5 := List.take_succ_eq_append_getElem (show n - 1 < l.length by omega)
                  rw [show n - 1 + 1 = n by omega] at e5
                  rw [e5]
                  refine valN_pos (by omega) _ ?_
                  rw [List.getElem?_eq_getElem (by omega)] at c4
                  exact c4
                rw [Nat.sub_self, List.drop_zero]
                generalize valN (b - 1) (l.take n) = v at *
                simp
                refine wCall_val (law_digits_sp v 256 (by decide) (by decide) hv2) fun r s4 e => ?_
                obtain ⟨os, x, hrw, hx⟩ := (dig_s (r := 256) (by decide) v).last (by decide) hpos
                have hr2 := hr _ hrw.symm
                rw [hrw] at e
                simp at hr2
                simp [e, last_of, intsD_len]
                by_cases c5 : x = 1
                · subst c5
                  simp
                  refine wIf_d (fun c6 => ?_) (fun c6 => ?_)
                  · rw [if_pos rfl, if_pos (by rw [intsD_len, List.length_append] at c6; simp at c6; omega)] at hr2
                    simp
                    exact ⟨sizeLine_le (by decide), hr2⟩
                  · rw [if_pos rfl, if_neg (by rw [intsD_len, List.length_append] at c6; simp at c6; omega)] at hr2
                    have e6 : (intsD (os ++ [1])).reverse = .int ((1 : Nat) : Int) :: intsD os.reverse := by
                      rw [intsD_app, List.reverse_append]
                      unfold intsD
                      simp
                    simp [e6, cut_tail]
                    exact ⟨sizeLine_le (by decide), hr2⟩
                · have c7 : ¬ ((x : Int) = 1) := by omega
                  rw [if_neg c5] at hr2
                  simp [c7, c5]
                  exact ⟨sizeLine_le (by decide), hr2⟩
theorem read_rd (b : Nat) (xs : List Mi.D) (h0 : 3 ≤ b) (h1 : b ≤ 64) (hl : xs.length ≤ 900) (hx : (b - 1) ^ xs.length < 2 ^ 390) {rd : Read} (h : Rd b xs rd) : Fn m__law_read [.d (.int (b : Nat)), .d (.list xs)] () (fun r _ => r = .sh (readD rd)) fun _ _ => False := by
  cases h with
  | bad l bad post g1 g2 g3 =>
    exact read_bad b l bad post g1 g2 g3 (by simp [intsD_len] at hl; omega)
  | noend l g1 g2 =>
    rw [intsD_len] at hl
    exact read_ints (P := fun r _ => r = .sh (readD .noend)) b l g1 (by omega) h1 (by omega) (fun _ => rfl) l.length (fun i hi _ z => g2 (z ▸ List.getElem_mem hi)) (fun z => absurd z (Nat.lt_irrefl _)) (fun z => absurd z g2) (fun z => by omega) (fun z => by omega) (fun z => by omega) (fun z => by omega)
  | behind l l2 g1 g2 g3 =>
    rw [intsD_len] at hl
    have hp : 0 < l2.length := List.length_pos_iff.mpr g3
    have hlen : (l ++ (b - 1) :: l2).length = l.length + l2.length + 1 := by simp; omega
    refine read_ints (P := fun r _ => r = .sh (readD (.behind (l.length + 1)))) b (l ++ (b - 1) :: l2) (fun a ha => ?_) (by omega) h1 (by omega) (fun z => absurd (by simp) z) l.length (fun i hi hi2 => ?_) (fun z => by simp) (fun z => by omega) (fun z => by simp [readD]) (fun z => by omega) (fun z => by omega) (fun z => by omega)
    · rcases List.mem_append.mp ha with ha | ha
      · have := g1 a ha; omega
      · rcases List.mem_cons.mp ha with rfl | ha
        · omega
        · exact g2 a ha
    · rw [List.getElem_append_left hi2]
      have := g1 l[i] (List.getElem_mem hi2)
      omega
  | ends l g1 =>
    rw [intsD_len] at hl hx
    have hlen : (l ++ [b - 1]).length = l.length + 1 := by simp
    have htk : (l ++ [b - 1]).take l.length = l := by simp
    have hval : valN (b - 1) l < 2 ^ 390 := by
      refine Nat.lt_of_lt_of_le (valN_lt l g1) (Nat.le_of_lt (Nat.lt_of_le_of_lt (Nat.pow_le_pow_right (by omega) ?_) hx))
      omega
    have hlast : l.length ≠ 0 → l.getLast?.getD 0 = (l ++ [b - 1])[l.length - 1]?.getD 0 := fun z => by
      rw [List.getLast?_eq_getElem?, List.getElem?_append_left (by omega)]
    refine read_ints (P := fun r _ => r = .sh (readD (readL b l))) b (l ++ [b - 1]) (fun a ha => ?_) (by omega) h1 (by omega) (fun z => absurd (by simp) z) l.length (fun i hi hi2 => ?_) (fun z => by simp) (fun z => by omega) (fun z => by omega) (fun z hz => ?_) (fun z => by rw [htk]; exact hval) (fun z hp hz row hrow => ?_)
    · rcases List.mem_append.mp ha with ha | ha
      · have := g1 a ha; omega
      · simp at ha; omega
    · rw [List.getElem_append_left hi2]
      have := g1 l[i] (List.getElem_mem hi2)
      omega
    · have : readL b l = .not := by
        unfold readL
        by_cases hn : l = []
        · rw [if_pos hn]
        · have hn2 : l.length ≠ 0 := fun z => hn (List.eq_nil_of_length_eq_zero z)
          rw [if_neg hn, if_pos (by rw [hlast hn2]; exact hz.resolve_left hn2)]
      rw [this]
      rfl
    · rw [htk] at hrow
      have hn : l ≠ [] := by rintro rfl; simp at hp
      have : readL b l = if row.getLast?.getD 0 ≠ 1 then .not else if 25 < row.length then .many else .told (row.dropLast.reverse) := by
        unfold readL
        rw [if_neg hn, if_neg (by rw [hlast (by omega)]; exact hz), hrow]
      rw [this]
      split
      · rfl
      · split <;> rfl
end Mi
set_option maxHeartbeats 4000000
namespace Mi
open PySem PySem.Spec PyProof.Rows L2
/-- a word: a tuple of wires below 64 -/
def WordOk (d : Mi.D) : Prop := ∃ ds, d = .tuple ds ∧ ds.length ≤ 40 ∧ LI 0 64 ds
theorem mask_word2 (mask k : Int) (h0 : 0 ≤ k) (h1 : k ≤ 40) : Fn m__law_mask_word [.d (.int mask), .d (.int k)] () (fun r _ => ∃ d, r = .sh d ∧ WordOk d) fun _ _ => False := by
  unfold m__law_mask_word
  with_reducible refine Fn_of ?_
  unfold b__law_mask_word
  simp
  refine ⟨small_of (by omega) (by omega), ?_⟩
  refine wLoop_rng (fun i e => ∃ (ws : List Mi.D) (j : Int) (x : Slot), e = ⟨[.sh (.int mask), .sh (.int k), .ow ws, .sh (.int j), x], ()⟩ ∧ ws.length ≤ i ∧ LI 0 64 ws) ⟨_, _, _, rfl, Nat.le_refl _, fun _ h => nomatch h⟩ ?_ ?_
  · rintro i e hi ⟨ws, j, x, rfl, h, hw⟩
    simp
    refine wIf_d (fun c => ?_) (fun c => ?_)
    · simp
      exact ⟨sizeLine_big (by omega), ⟨by decide, by decide⟩, h, hw.app fun z hz => ⟨i, by simpa using hz, by omega, by omega⟩⟩
    · simp
      exact ⟨⟨by decide, by decide⟩, by omega, hw⟩
  · rintro e ⟨ws, j, x, rfl, h, hw⟩
    simp
    exact ⟨ws, rfl, by omega, hw⟩
theorem WordOk.pl {d : Mi.D} (h : WordOk d) : Pl 1 d := by
  obtain ⟨ds, rfl, h1, h2⟩ := h
  refine ⟨by omega, fun x hx => ?_⟩
  obtain ⟨k, rfl, _, _⟩ := h2 x hx
  trivial
theorem LI.szs {lo hi : Int} : ∀ {ds : List Mi.D}, LI lo hi ds → Mi.szs ds = ds.length
  | [], _ => rfl
  | d :: ds, h => by
    obtain ⟨k, rfl, _, _⟩ := h d List.mem_cons_self
    have := LI.szs (ds := ds) fun z hz => h z (List.mem_cons_of_mem _ hz)
    simp [Mi.szs, sz, this]
    omega
theorem WordOk.sz {d : Mi.D} (h : WordOk d) : Mi.sz d ≤ 41 := by
  obtain ⟨ds, rfl, h1, h2⟩ := h
  simp [Mi.sz, h2.szs]
  omega
end Mi
set_option maxHeartbeats 4000000
namespace Mi
open PySem PySem.Spec PyProof.Rows L2
def Hs82 : List (Hm Unit) := [⟨"TooMany", some 4, (mRet (mTup (mCons (rt (.str "toomany")) (mCons (mAtt 4 "what" "TooMany") (mCons (mAtt 4 "most" "TooMany") mNil)))))⟩,
  ⟨"BadOctet", some 4, (mRet (mTup (mCons (rt (.str "badoctet")) (mCons (mAtt 4 "place" "BadOctet") mNil))))⟩,
  ⟨"FewWords", some 4, (mRet (mTup (mCons (rt (.str "fewwords")) (mCons (mAtt 4 "found" "FewWords") mNil))))⟩]
theorem hd_many {a b c d : Mi.D} {w : Mi.D} {k : Int} : kTr sub Hs82 (fnQ fun r _ => r = .sh (.tuple [.str "toomany", w, .int k])) (fun x e => False) ⟨"TooMany", [("most", .int k), ("what", w)]⟩ ⟨[.sh a, .sh b, .sh c, .sh d, .un], ()⟩ := by
  rw [kTr_e]
  refine ⟨by rfl, ?_⟩
  refine wHs_hit (show sub "TooMany" "TooMany" = some true by decide +kernel) ?_
  have h2 : List.lookup (PySem.Str.ofString "what") [(PySem.Str.ofString "most", PyData.int k), (PySem.Str.ofString "what", w)] = some w := by rfl
  simp [Hm.In, Hm.Un, h2]
  exact ⟨sizeLine_le (by decide), by rfl⟩
theorem hd_bad {a b c d : Mi.D} {v : Mi.D} : kTr sub Hs82 (fnQ fun r _ => r = .sh (.tuple [.str "badoctet", v])) (fun x e => False) ⟨"BadOctet", [("place", v)]⟩ ⟨[.sh a, .sh b, .sh c, .sh d, .un], ()⟩ := by
  rw [kTr_e]
  refine ⟨by rfl, ?_⟩
  refine wHs_miss (show sub "BadOctet" "TooMany" = some false by decide +kernel) ?_
  refine wHs_hit (show sub "BadOctet" "BadOctet" = some true by decide +kernel) ?_
  simp [Hm.In, Hm.Un]
  exact ⟨sizeLine_le (by decide), by rfl⟩
theorem hd_few {a b c d : Mi.D} {v : Mi.D} : kTr sub Hs82 (fnQ fun r _ => r = .sh (.tuple [.str "fewwords", v])) (fun x e => False) ⟨"FewWords", [("found", v)]⟩ ⟨[.sh a, .sh b, .sh c, .sh d, .un], ()⟩ := by
  rw [kTr_e]
  refine ⟨by rfl, ?_⟩
  refine wHs_miss (show sub "FewWords" "TooMany" = some false by decide +kernel) ?_
  refine wHs_miss (show sub "FewWords" "BadOctet" = some false by decide +kernel) ?_
  refine wHs_hit (show sub "FewWords" "FewWords" = some true by decide +kernel) ?_
  simp [Hm.In, Hm.Un]
  exact ⟨sizeLine_le (by decide), by rfl⟩
theorem askd0 {p b q d : Mi.D} {G : Mi.D → Prop} {E : Er → Prop} (h : Fn m_digits_of [.d b, .d q] () (fun r _ => G r.d) fun x _ => E x) (hg : ∀ v, G v → d = .tuple [.str "told", v])
    (hx : ∀ x, E x → kTr sub Hs82 (fnQ fun r _ => r = .sh d) (fun x e => False) x ⟨[.sh (.int 0), .sh p, .sh b, .sh q, .un], ()⟩) : Fn m__law_asked_digits [.d (.int 0), .d p, .d b, .d q] () (fun r _ => r = .sh d) fun _ _ => False := by
  unfold m__law_asked_digits
  with_reducible refine Fn_of ?_
  unfold b__law_asked_digits
  simp
  refine wCall_of h (fun r s1 e => ?_) fun x s1 e => ?_
  · simp
    exact ⟨sizeLine_le (by decide), (hg _ e).symm⟩
  · have := hx x e
    rw [kTr_e] at this
    exact this
theorem askd1 {p b q d : Mi.D} {G : Mi.D → Prop} {E : Er → Prop} (h : Fn m_say_octets [.d p, .d q] () (fun r _ => G r.d) fun x _ => E x) (hg : ∀ v, G v → d = .tuple [.str "told", v])
    (hx : ∀ x, E x → kTr sub Hs82 (fnQ fun r _ => r = .sh d) (fun x e => False) x ⟨[.sh (.int 1), .sh p, .sh b, .sh q, .un], ()⟩) : Fn m__law_asked_digits [.d (.int 1), .d p, .d b, .d q] () (fun r _ => r = .sh d) fun _ _ => False := by
  unfold m__law_asked_digits
  with_reducible refine Fn_of ?_
  unfold b__law_asked_digits
  simp
  refine wCall_of h (fun r s1 e => ?_) fun x s1 e => ?_
  · simp
    exact ⟨sizeLine_le (by decide), (hg _ e).symm⟩
  · have := hx x e
    rw [kTr_e] at this
    exact this
def dueO (b : Nat) (os : List Nat) : Mi.D := .tuple (intsD (dgs b os ++ [b - 1]))
theorem askd_ok (k : Int) (hk : k = 0 ∨ k = 1) (n : Mi.D) (ws : List Mi.D) (q : Mi.D) (os : List Nat) (h0 : 3 ≤ ws.length) (h1 : ws.length ≤ 64) (hq : SeqD q (intsD os)) (ho : ∀ a ∈ os, a < 256) (hl : os.length ≤ 24) :
    Fn m__law_asked_digits [.d (.int k), .d (bookD n ws), .d (.int (ws.length : Nat)), .d q] () (fun r _ => r = .sh (.tuple [.str "told", dueO ws.length os])) fun _ _ => False := by
  rcases hk with rfl | rfl
  · exact askd0 (G := fun v => v = dueO ws.length os) (E := fun _ => False) ((digits_of_ok ws.length q os h0 h1 hq ho hl).imp (fun r _ e => by rw [e]; rfl) fun _ _ z => z) (fun v e => by rw [e]) fun _ z => z.elim
  · exact askd1 (G := fun v => v = dueO ws.length os) (E := fun _ => False) ((say_ok n ws q os h0 h1 hq ho hl).imp (fun r _ e => by rw [e]; rfl) fun _ _ z => z) (fun v e => by rw [e]) fun _ z => z.elim
theorem askd_long (k : Int) (hk : k = 0 ∨ k = 1) (n : Mi.D) (ws : List Mi.D) (b : Nat) (h0 : 3 ≤ b) (h1 : b ≤ 64) (q : Mi.D) (xs : List Mi.D) (hq : SeqD q xs) (hl : 24 < xs.length) :
    Fn m__law_asked_digits [.d (.int k), .d (bookD n ws), .d (.int (b : Nat)), .d q] () (fun r _ => r = .sh (.tuple [.str "toomany", .str "octets", .int 24])) fun _ _ => False := by
  rcases hk with rfl | rfl
  · exact askd0 (G := fun _ => False) (E := fun x => x = _) (digits_of_ex b q h0 h1 (oct_long q xs hq hl)) (fun _ z => z.elim) fun x e => by rw [e]; exact hd_many
  · exact askd1 (G := fun _ => False) (E := fun x => x = _) (say_ex n ws q (oct_long q xs hq hl)) (fun _ z => z.elim) fun x e => by rw [e]; exact hd_many
theorem askd_bad (k : Int) (hk : k = 0 ∨ k = 1) (n : Mi.D) (ws : List Mi.D) (b : Nat) (h0 : 3 ≤ b) (h1 : b ≤ 64) (q : Mi.D) (l : List Nat) (bad : Mi.D) (post : List Mi.D) (hq : SeqD q (intsD l ++ bad :: post)) (g1 : ∀ a ∈ l, a < 256) (g2 : natOf 256 bad = none) (g3 : noDict bad) (hl : l.length + post.length < 24) :
    Fn m__law_asked_digits [.d (.int k), .d (bookD n ws), .d (.int (b : Nat)), .d q] () (fun r _ => r = .sh (.tuple [.str "badoctet", .int (l.length : Nat)])) fun _ _ => False := by
  rcases hk with rfl | rfl
  · exact askd0 (G := fun _ => False) (E := fun x => x = _) (digits_of_ex b q h0 h1 (oct_bad q l bad post hq g1 g2 g3 hl)) (fun _ z => z.elim) fun x e => by rw [e]; exact hd_bad
  · exact askd1 (G := fun _ => False) (E := fun x => x = _) (say_ex n ws q (oct_bad q l bad post hq g1 g2 g3 hl)) (fun _ z => z.elim) fun x e => by rw [e]; exact hd_bad
theorem askd_few (n : Mi.D) (ws : List Mi.D) (b q : Mi.D) (os : List Nat) (hw : ws.length < 3) (hq : SeqD q (intsD os)) (ho : ∀ a ∈ os, a < 256) (hl : os.length ≤ 24) :
    Fn m__law_asked_digits [.d (.int 1), .d (bookD n ws), .d b, .d q] () (fun r _ => r = .sh (.tuple [.str "fewwords", .int (ws.length : Nat)])) fun _ _ => False :=
  askd1 (G := fun _ => False) (E := fun x => x = _) (say_few n ws q os hw hq ho hl) (fun _ z => z.elim) fun x e => by rw [e]; exact hd_few
/-! the digits of octets, read back -/
theorem dgs_dig {b : Nat} (h : 3 ≤ b) (os : List Nat) : Dig (b - 1) (octV os) (dgs b os) := dig_s (by omega) _
theorem dgs_lt {b : Nat} (h : 3 ≤ b) (os : List Nat) : ∀ a ∈ dgs b os, a < b - 1 := (dgs_dig h os).lt (by omega)
theorem dgs_len {b : Nat} (h : 3 ≤ b) {os : List Nat} (ho : ∀ a ∈ os, a < 256) : (dgs b os).length ≤ 8 * os.length + 1 := (dgs_dig h os).len (by omega) _ (octV_lt _ os rfl ho)
theorem dgs_last {b : Nat} (h : 3 ≤ b) (os : List Nat) : ∃ es x, dgs b os = es ++ [x] ∧ x ≠ 0 := (dgs_dig h os).last (by omega) (octV_pos os)
theorem read_dgs {b : Nat} (h : 3 ≤ b) {os : List Nat} (ho : ∀ a ∈ os, a < 256) : readL b (dgs b os) = if os.length ≤ 24 then .told os else .many := by
  obtain ⟨es, x, e, hx⟩ := dgs_last h os
  have hv := (dgs_dig h os).val
  have hrow : digs 256 (octV os) = os.reverse ++ [1] := (dig_s (by decide) _).uniq (octV_dig _ os rfl ho)
  unfold readL
  rw [hv, hrow, e]
  simp [hx]
  by_cases c : os.length ≤ 24
  · rw [if_neg (by omega), if_pos c]
  · rw [if_pos (by omega), if_neg c]
theorem intsD_pl {l : List Nat} : ∀ x ∈ intsD l, Pl 0 x := fun x hx => by
  unfold intsD at hx
  obtain ⟨a, _, rfl⟩ := List.mem_map.mp hx
  trivial
theorem intsD_szs : ∀ (l : List Nat), szs (intsD l) = l.length
  | [] => rfl
  | a :: r => by
    show szs (PyData.int (a : Nat) :: intsD r) = _
    simp [szs, sz, intsD_szs r]
    omega
end Mi
set_option maxHeartbeats 4000000
namespace Mi
open PySem PySem.Spec PyProof.Rows L2
def wordA (st : List Mi.D) (s a : Nat) : Mi.D := match (rowL st s).getD a .none with
  | .tuple [w, _] => w
  | _ => .none
def stepsD (st : List Mi.D) : Nat → List Nat → List Mi.D
  | _, [] => []
  | s, a :: r => .tuple [.int s, wordA st s a] :: stepsD st (gk st s a) r
theorem stepsD_len {st : List Mi.D} : ∀ (l : List Nat) (s : Nat), (stepsD st s l).length = l.length
  | [], _ => rfl
  | a :: r, s => by simp [stepsD, stepsD_len r]
theorem stepsD_app {st : List Mi.D} : ∀ (l m : List Nat) (s : Nat), stepsD st s (l ++ m) = stepsD st s l ++ stepsD st (endS st s l) m
  | [], _, _ => rfl
  | a :: r, m, s => by simp [stepsD, endS, stepsD_app r m]
theorem stepsD_at {st : List Mi.D} : ∀ (l : List Nat) (s i : Nat), i < l.length → ∃ w, (stepsD st s l)[i]? = some (.tuple [.int (endS st s (l.take i) : Nat), w])
  | [], _, _, h => by simp at h
  | a :: r, s, 0, _ => ⟨wordA st s a, rfl⟩
  | a :: r, s, i + 1, h => by
    obtain ⟨w, hw⟩ := stepsD_at r (gk st s a) i (by simpa using h)
    exact ⟨w, hw⟩
theorem pairA {st : List Mi.D} (h : StOk st) {s a : Nat} (hs : s < st.length) (ha : a < (rowL st s).length) : (rowL st s)[a]? = some (.tuple [wordA st s a, .int (gk st s a : Nat)]) := by
  obtain ⟨w, h1, _⟩ := h.pair hs ha
  have : wordA st s a = w := by
    unfold wordA
    rw [List.getD_eq_getElem?_getD, h1]
    rfl
  rw [this, h1]
theorem rowA {st : List Mi.D} (h : StOk st) {s : Nat} (hs : s < st.length) : st[s]? = some (.tuple (rowL st s)) := by
  obtain ⟨ps, h1, h2, _⟩ := h.row hs
  rw [h1, h2]
theorem okS_take {st : List Mi.D} {l : List Nat} {s : Nat} (h : okS st s l) {i : Nat} (hi : i < l.length) : okS st s (l.take i) ∧ l[i] < (rowL st (endS st s (l.take i))).length ∧ endS st s (l.take (i + 1)) = gk st (endS st s (l.take i)) l[i] := by
  have e := List.take_append_drop i l
  rw [← e, okS_app] at h
  obtain ⟨h1, h2⟩ := h
  rw [List.drop_eq_getElem_cons hi] at h2
  refine ⟨h1, h2.1, ?_⟩
  rw [List.take_succ_eq_append_getElem hi, endS_app]
  rfl
def tailBad (st : List Mi.D) (l : List Nat) (tl : List Mi.D) : Prop := tl = [] ∨ ∃ bad post, tl = bad :: post ∧ noDict bad ∧ idxOf bad (rowL st (endS st 0 l)).length = false
def IWalk (n : Mi.D) (st : List Mi.D) (q : Mi.D) (l : List Nat) (i : Nat) (e : En Unit) : Prop := ∃ (x5 x6 x7 x8 : Slot), e = ⟨[.sh (.tuple [n, .tuple st]), .sh q, .sh (.tuple st), .sh (.int (endS st 0 (l.take i) : Nat)), .ow (stepsD st 0 (l.take i)), x5, x6, x7, x8], ()⟩
theorem walk_sp (n : Mi.D) (st : List Mi.D) (hs : StOk st) (q : Mi.D) (l : List Nat) (tl : List Mi.D) (hq : SeqD q (intsD l ++ tl)) (ho : okS st 0 l) (hl : l.length + tl.length ≤ 600) (ht : tailBad st l tl) :
    Fn m_walk [.d (.tuple [n, .tuple st]), .d q] () (fun r _ => tl = [] ∧ r = .sh (.tuple [.tuple (stepsD st 0 l), .int (endS st 0 l : Nat)])) (fun x _ => tl ≠ [] ∧ x = ⟨"BadNumber", [("place", .int l.length)]⟩) := by
  unfold m_walk
  with_reducible refine Fn_of ?_
  unfold b_walk
  have hle : ¬ (600 : Int) < ((intsD l ++ tl).length : Nat) := by simp [intsD_len]; omega
  simp only [List.map_cons, List.map_nil, slot_d, List.length_cons, List.length_nil, List.cons_append, List.nil_append, List.replicate, wp_sq, wp_mIf, wp_asB, wp_m2, wp_mB, wp_mCons, wp_mV, List.getElem?_cons_succ, List.getElem?_cons_zero, wV_sh, kCns_e, wp_mNil, kCns2_e, kA_e, hq.len, wO_some, kO_e, k2_e, wp_rt, k2b_e, dGt_i, hle, decide_false, kBz_e, wB_b, kIf_e, wIf_f, wpK_e, wp_nop, seqQ_nx]
  simp [hq.enu]
  refine loop_cut l.length (IWalk n st q l) ⟨_, _, _, _, rfl⟩ ?_ ?_ ?_
  · rintro i d e hd hi ⟨x5, x6, x7, x8, rfl⟩
    obtain ⟨x, h1, rfl⟩ := enumF_get _ _ _ _ hd
    rw [List.getElem?_append_left (by rw [intsD_len]; exact hi), intsD_at hi] at h1
    cases h1
    obtain ⟨o1, o2, o3⟩ := okS_take ho hi
    have hlt := endS_lt hs _ 0 (by have := hs.1; omega) o1
    simp [atI_of (rowA hs hlt)]
    refine wCall_val (is_index_sp _ _ trivial) fun r s1 e => ?_
    subst e
    have : idxOf (.int (l[i] : Nat)) ((rowL st (endS st 0 (l.take i))).length : Nat) = true := by
      simp [idxOf]; omega
    simp [this, atI_of (rowA hs hlt), atI_of (pairA hs hlt o2)]
    refine ⟨sizeLine_le (by decide), by rw [stepsD_len, List.length_take]; exact sizeLine_big (by omega), ?_⟩
    unfold IWalk
    rw [o3, List.take_succ_eq_append_getElem hi, stepsD_app]
    exact ⟨_, _, _, _, rfl⟩
  · rintro d e hd ⟨x5, x6, x7, x8, rfl⟩
    obtain ⟨x, h1, rfl⟩ := enumF_get _ _ _ _ hd
    rcases ht with rfl | ⟨bad, post, rfl, b1, b2⟩
    · have := (List.getElem?_eq_some_iff.mp h1).1
      simp [intsD_len] at this
    · rw [List.getElem?_append_right (by rw [intsD_len]; exact Nat.le_refl _), intsD_len, Nat.sub_self] at h1
      cases h1
      rw [List.take_length] 
      have hlt := endS_lt hs _ 0 (by have := hs.1; omega) ho
      simp [atI_of (rowA hs hlt)]
      refine wCall_val (is_index_sp _ _ b1) fun r s1 e => ?_
      subst e
      simp [b2, mk1 (d := .int (l.length : Nat)) trivial]
  · rintro i e hi hn ⟨x5, x6, x7, x8, rfl⟩
    rw [enumF_len, List.length_append, intsD_len] at hi
    have h0 : tl = [] := List.eq_nil_of_length_eq_zero (by omega)
    subst h0
    have : i = l.length := by simpa using hi
    subst this
    rw [List.take_length]
    simp
    exact sizeLine_le (by decide)
end Mi
set_option maxHeartbeats 4000000
namespace Mi
open PySem PySem.Spec PyProof.Rows L2
/-! a book as a plan of one state -/
def stB (ws : List Mi.D) : List Mi.D := [.tuple (ws.map fun w => .tuple [w, .int 0])]
theorem stB_row (ws : List Mi.D) : rowL (stB ws) 0 = ws.map fun w => .tuple [w, .int 0] := rfl
theorem stB_ok {ws : List Mi.D} (h0 : 1 ≤ ws.length) (h1 : ws.length ≤ 64) : StOk (stB ws) := by
  refine ⟨by simp [stB], by simp [stB], fun x hx => ?_⟩
  have e : x = .tuple (ws.map fun w => .tuple [w, .int 0]) := by simpa [stB] using hx
  subst e
  refine ⟨_, rfl, by simpa using h0, by simpa using h1, fun p hp => ?_⟩
  obtain ⟨w, _, rfl⟩ := List.mem_map.mp hp
  exact ⟨w, 0, rfl, by decide, by simp [stB]⟩
theorem stB_gk {ws : List Mi.D} {a : Nat} (h : a < ws.length) : gk (stB ws) 0 a = 0 := by
  unfold gk
  rw [stB_row, List.getD_eq_getElem?_getD, List.getElem?_map, List.getElem?_eq_getElem h]
  rfl
theorem stB_word {ws : List Mi.D} {a : Nat} (h : a < ws.length) : wordA (stB ws) 0 a = ws.getD a .none := by
  unfold wordA
  rw [stB_row, List.getD_eq_getElem?_getD, List.getElem?_map, List.getElem?_eq_getElem h, List.getD_eq_getElem?_getD, List.getElem?_eq_getElem h]
  rfl
theorem stB_okS {ws : List Mi.D} : ∀ (l : List Nat), (∀ a ∈ l, a < ws.length) → okS (stB ws) 0 l
  | [], _ => trivial
  | a :: r, h => by
    have ha := h a (by simp)
    refine ⟨by rw [stB_row]; simpa using ha, ?_⟩
    rw [stB_gk ha]
    exact stB_okS r fun c hc => h c (by simp [hc])
theorem stB_endS {ws : List Mi.D} : ∀ (l : List Nat), (∀ a ∈ l, a < ws.length) → endS (stB ws) 0 l = 0
  | [], _ => rfl
  | a :: r, h => by
    have ha := h a (by simp)
    rw [endS, stB_gk ha]
    exact stB_endS r fun c hc => h c (by simp [hc])
def stepB (ws : List Mi.D) (a : Nat) : Mi.D := .tuple [.int 0, ws.getD a .none]
theorem stB_steps {ws : List Mi.D} : ∀ (l : List Nat), (∀ a ∈ l, a < ws.length) → stepsD (stB ws) 0 l = l.map (stepB ws)
  | [], _ => rfl
  | a :: r, h => by
    have ha := h a (by simp)
    rw [stepsD, stB_gk ha, stB_word ha, stB_steps r fun c hc => h c (by simp [hc])]
    rfl
theorem stB_okS_lt {ws : List Mi.D} : ∀ (l : List Nat), okS (stB ws) 0 l → ∀ a ∈ l, a < ws.length
  | [], _ => fun _ h => nomatch h
  | a :: r, ⟨h1, h2⟩ => by
    have ha : a < ws.length := by rw [stB_row] at h1; simpa using h1
    rw [stB_gk ha] at h2
    intro c hc
    rcases List.mem_cons.mp hc with rfl | hc
    · exact ha
    · exact stB_okS_lt r h2 c hc
/-! ranks in a book are values -/
theorem stB_rv {ws : List Mi.D} : ∀ i, rv (stB ws) i 0 = ((ws.length ^ i : Nat) : Int)
  | 0 => by rw [rv_zero (by simp [stB])]; simp
  | i + 1 => by
    have hb : ∀ a, a ≤ ws.length → bef (stB ws) i 0 a = ((a * ws.length ^ i : Nat) : Int) := fun a => by
      induction a with
      | zero => intro _; simp [bef]
      | succ a ih =>
        intro ha
        rw [bef_succ, ih (by omega), stB_gk (by omega), stB_rv i, Nat.add_mul]
        simp
    rw [rv_succ i (by simp [stB]), stB_row, List.length_map, hb _ (Nat.le_refl _), Nat.pow_succ, Nat.mul_comm]
theorem stB_bef {ws : List Mi.D} (i a : Nat) (ha : a ≤ ws.length) : bef (stB ws) i 0 a = ((a * ws.length ^ i : Nat) : Int) := by
  induction a with
  | zero => simp [bef]
  | succ a ih =>
    rw [bef_succ, ih (by omega), stB_gk (by omega), stB_rv i, Nat.add_mul]
    simp
theorem valN_app (r : Nat) : ∀ (l m : List Nat), valN r (l ++ m) = valN r l + r ^ l.length * valN r m
  | [], m => by simp [valN]
  | a :: t, m => by
    show a + r * valN r (t ++ m) = a + r * valN r t + r ^ (t.length + 1) * valN r m
    rw [valN_app r t m, Nat.mul_add, Nat.pow_succ, ← Nat.mul_assoc, Nat.mul_comm r (r ^ t.length)]
    omega
theorem stB_rank {ws : List Mi.D} : ∀ (l : List Nat), (∀ a ∈ l, a < ws.length) → rankF (stB ws) 0 l = ((valN ws.length l.reverse : Nat) : Int)
  | [], _ => rfl
  | a :: r, h => by
    have ha := h a (by simp)
    rw [rankF, stB_gk ha, stB_rank r fun c hc => h c (by simp [hc]), stB_bef _ _ (by omega), List.reverse_cons, valN_app, List.length_reverse]
    simp [valN]
    rw [Int.add_comm, Int.mul_comm]
/-- of one length, digits are told by their value -/
theorem valN_inj {r : Nat} : ∀ (l m : List Nat), l.length = m.length → (∀ a ∈ l, a < r) → (∀ a ∈ m, a < r) → valN r l = valN r m → l = m
  | [], m, h, _, _, _ => (List.eq_nil_of_length_eq_zero (by simpa using h.symm)).symm
  | a :: t, [], h, _, _, _ => by simp at h
  | a :: t, c :: u, h, h1, h2, hv => by
    have ha := h1 a (by simp)
    have hc := h2 c (by simp)
    rw [valN, valN] at hv
    have e1 : a = c := by
      have g1 : (a + r * valN r t) % r = a := by rw [Nat.add_mul_mod_self_left, Nat.mod_eq_of_lt ha]
      have g2 : (c + r * valN r u) % r = c := by rw [Nat.add_mul_mod_self_left, Nat.mod_eq_of_lt hc]
      rw [← g1, hv, g2]
    subst e1
    have e2 : valN r t = valN r u := Nat.eq_of_mul_eq_mul_left (by omega) (Nat.add_left_cancel hv)
    rw [valN_inj t u (by simpa using h) (fun x hx => h1 x (by simp [hx])) (fun x hx => h2 x (by simp [hx])) e2]
end Mi
set_option maxHeartbeats 4000000
namespace Mi
open PySem PySem.Spec PyProof.Rows L2
theorem kind_sp (d : Mi.D) (hd : ∀ ks, d ≠ .dict ks) : Fn m__law_kind [.d d] () (fun r _ => r = .sh (.int (kindOf d))) fun _ _ => False := by
  unfold m__law_kind
  with_reducible refine Fn_of ?_
  unfold b__law_kind
  cases d with
  | none => simp [isN_n, kindOf]
  | bool v => simp [isN_of, isTy (.bool v) "bool" true (by show kitB "bool" "bool" = _; decide +kernel), kindOf]
  | int v => simp [isN_of, isTy (.int v) "bool" false (by show kitB "int" "bool" = _; decide +kernel), isTy (.int v) "int" true (by show kitB "int" "int" = _; decide +kernel), kindOf]
  | str v => simp [isN_of, isTy (.str v) "bool" false (by show kitB "str" "bool" = _; decide +kernel), isTy (.str v) "int" false (by show kitB "str" "int" = _; decide +kernel), isTy (.str v) "str" true (by show kitB "str" "str" = _; decide +kernel), kindOf]
  | tuple v => simp [isN_of, isTy (.tuple v) "bool" false (by show kitB "tuple" "bool" = _; decide +kernel), isTy (.tuple v) "int" false (by show kitB "tuple" "int" = _; decide +kernel), isTy (.tuple v) "str" false (by show kitB "tuple" "str" = _; decide +kernel), ist_t, kindOf]
  | list v => simp [isN_of, isTy (.list v) "bool" false (by show kitB "list" "bool" = _; decide +kernel), isTy (.list v) "int" false (by show kitB "list" "int" = _; decide +kernel), isTy (.list v) "str" false (by show kitB "list" "str" = _; decide +kernel), isTy (.list v) "tuple" false (by show kitB "list" "tuple" = _; decide +kernel), isl_l, kindOf]
  | dict ks => exact absurd rfl (hd ks)
end Mi
set_option maxHeartbeats 4000000
namespace Mi
open PySem PySem.Spec PyProof.Rows L2
def ISm (x : Mi.D) (i : Nat) (e : En Unit) : Prop := ∃ (xs : List Mi.D) (x3 x4 x5 x6 x7 : Slot), e = ⟨[.sh x, .sh x, .ow (xs.map pr), x3, x4, x5, x6, x7], ()⟩ ∧ szs xs + i ≤ 190000 ∧ ∀ y ∈ xs, ∃ n, Pl n y
theorem same_sp (x : Mi.D) (h : ∃ n, Pl n x) (hz : sz x ≤ 190000) : Fn m__law_same [.d x, .d x] () (fun r _ => r = .sh (.bool true)) fun _ _ => False := by
  unfold m__law_same
  with_reducible refine Fn_of ?_
  unfold b__law_same
  simp
  refine ⟨sizeLine_le (by decide), sizeLine_le (by decide), small_of (by decide) (by decide), ?_⟩
  generalize hN : (200000 : Nat) = N
  refine wLoop_rng (ISm x) ⟨[x], _, _, _, _, _, rfl, by simp [szs]; exact hz, fun y hy => by simp at hy; subst hy; exact h⟩ ?_ ?_
  · rintro i e hi ⟨xs, x3, x4, x5, x6, x7, rfl, hm, hp⟩
    simp
    refine wIf_d (fun c => ?_) (fun c => ?_)
    · simp
    · have hne : xs ≠ [] := by rintro rfl; simp at c
      obtain ⟨ys, y, rfl⟩ : ∃ ys y, xs = ys ++ [y] := ⟨xs.dropLast, xs.getLast hne, (List.dropLast_concat_getLast hne).symm⟩
      obtain ⟨n, hy⟩ := hp y (by simp)
      have hys : ∀ z ∈ ys, ∃ n, Pl n z := fun z hz => hp z (by simp [hz])
      have hsz : szs ys + sz y + i ≤ 190000 := by rw [szs_app] at hm; simpa [szs] using hm
      have hd : ∀ ks, y ≠ .dict ks := by rintro ks rfl; cases n <;> exact hy
      have hk6 : kindOf y ≠ 6 := by
        cases y with
        | dict ks => exact absurd rfl (hd ks)
        | _ => simp [kindOf]
      have hpop : gPop (ys.map pr ++ [.tuple [y, y]]) [] = some (.tuple [y, y], ys.map pr) := by
        unfold gPop
        simp
      simp [hpop, pr]
      refine wCall_val (kind_sp y hd) fun r s1 e => ?_
      subst e
      simp [hk6]
      refine wCall_val (kind_sp y hd) fun r s1 e => ?_
      subst e
      simp
      refine wIf_d (fun c4 => ?_) (fun c4 => ?_)
      · have q := dNe_same hy c4
        simp [q]
        have := sz_pos y
        exact ⟨ys, _, _, _, _, _, rfl, by omega, hys⟩
      · suffices kk : ∃ ds : List Mi.D, sz y = 1 + szs ds ∧ (∀ z ∈ ds, ∃ n, Pl n z) ∧ gLen [.d y] = some (.int ds.length) ∧ (∀ i : Int, dIx y (.int i) = atI ds i) by
          obtain ⟨ds, e1, e2, e3, e4⟩ := kk
          have l1 := szs_len ds
          have l2 := szs_len ys
          simp [e3]
          refine ⟨small_of (by omega) (by omega), ?_⟩
          refine wLoop_rng (fun j e => ∃ (x7 : Slot), e = ⟨[.sh x, .sh x, .ow (ys.map pr ++ (ds.map pr).take j), .sh (.int (i : Nat)), .sh y, .sh y, .sh (.int (kindOf y)), x7], ()⟩) ⟨x7, by simp⟩ ?_ ?_
          · rintro j e hj ⟨x7, rfl⟩
            have hj2 : j < ds.length := by omega
            have g : atI ds (j : Int) = some ds[j] := atI_nat (List.getElem?_eq_getElem hj2)
            simp [e4, g]
            refine ⟨sizeLine_le (by decide), sizeLine_big (by omega), ?_⟩
            rw [List.take_succ_eq_append_getElem (by simpa using hj2)]
            simp [pr]
          · rintro e ⟨x7, rfl⟩
            have tk : (ds.map pr).take ds.length = ds.map pr := by rw [List.take_of_length_le]; simp
            rw [tk]
            rw [loopQ_nx]
            refine ⟨ys ++ ds, _, _, _, _, _, by rw [List.map_append], by rw [szs_app]; omega, fun z hz => ?_⟩
            rcases List.mem_append.mp hz with hz | hz
            · exact hys z hz
            · exact e2 z hz
        cases y with
        | list ds =>
          refine ⟨ds, by simp [sz], by cases n with
            | zero => exact hy.elim
            | succ n => exact fun z hz => ⟨n, hy.2 z hz⟩, rfl, fun _ => rfl⟩
        | tuple ds =>
          refine ⟨ds, by simp [sz], by cases n with
            | zero => exact hy.elim
            | succ n => exact fun z hz => ⟨n, hy.2 z hz⟩, rfl, fun _ => rfl⟩
        | dict ks => exact absurd rfl (hd ks)
        | _ => simp [kindOf] at c4
  · rintro e ⟨xs, x3, x4, x5, x6, x7, rfl, hm, hp⟩
    omega
end Mi
set_option maxHeartbeats 4000000
namespace Mi
open PySem PySem.Spec PyProof.Rows L2
theorem pl_told {d : Mi.D} {n : Nat} (h : Pl n d) : Pl (n + 1) (.tuple [.str "told", d]) := ⟨by simp, fun x hx => by
  simp at hx
  rcases hx with rfl | rfl
  · have := strOk_of "told"
    cases n <;> exact this
  · exact h⟩
theorem pl_ints {l : List Nat} (h : l.length ≤ 1000) : Pl 1 (.tuple (intsD l)) := ⟨by rw [intsD_len]; exact h, fun x hx => intsD_pl x hx⟩
theorem pl_intsL {l : List Nat} (h : l.length ≤ 1000) : Pl 1 (.list (intsD l)) := ⟨by rw [intsD_len]; exact h, fun x hx => intsD_pl x hx⟩
theorem same_t {l : List Nat} (h : l.length ≤ 1000) : Fn m__law_same [.d (.tuple [.str "told", .tuple (intsD l)]), .d (.tuple [.str "told", .tuple (intsD l)])] () (fun r _ => r = .sh (.bool true)) fun _ _ => False :=
  same_sp _ ⟨2, pl_told (pl_ints h)⟩ (by simp [sz, szs, intsD_szs]; omega)
theorem same_l {l : List Nat} (h : l.length ≤ 1000) : Fn m__law_same [.d (.list (intsD l)), .d (.list (intsD l))] () (fun r _ => r = .sh (.bool true)) fun _ _ => False :=
  same_sp _ ⟨1, pl_intsL h⟩ (by simp [sz, intsD_szs]; omega)
theorem steps_pl {ws : List Mi.D} {l : List Nat} (hw : ∀ w ∈ ws, WordOk w) (hl : ∀ a ∈ l, a < ws.length) (hn : l.length ≤ 1000) : Pl 4 (.tuple [.tuple (l.map (stepB ws)), .int 0]) ∧ sz (.tuple [.tuple (l.map (stepB ws)), .int 0]) ≤ 43 * l.length + 3 := by
  have wd : ∀ a ∈ l, WordOk (ws.getD a .none) := fun a ha => by
    rw [List.getD_eq_getElem?_getD, List.getElem?_eq_getElem (hl a ha)]
    exact hw _ (List.getElem_mem _)
  constructor
  · refine ⟨by simp, fun x hx => ?_⟩
    simp at hx
    rcases hx with rfl | rfl
    · refine ⟨by rw [List.length_map]; exact hn, fun y hy => ?_⟩
      obtain ⟨a, ha, rfl⟩ := List.mem_map.mp hy
      refine ⟨by simp, fun z hz => ?_⟩
      simp at hz
      rcases hz with rfl | rfl
      · trivial
      · have := (wd a ha).pl
        rw [List.getD_eq_getElem?_getD] at this
        exact this
    · trivial
  · have main : szs (l.map (stepB ws)) ≤ 43 * l.length := by
      clear hn
      induction l with
      | nil => simp [szs]
      | cons a r ih =>
        have h1 := ih (fun c hc => hl c (by simp [hc])) (fun c hc => wd c (by simp [hc]))
        have h2 := (wd a (by simp)).sz
        rw [List.map_cons, szs, stepB, sz, szs, szs, szs, List.length_cons]
        simp only [sz]
        omega
    simp only [sz, szs]
    omega
@[simp] theorem gLst_l (xs : List Mi.D) : gLst [.d (.list xs)] = some xs := (rfl)
@[simp] theorem gLst_t (xs : List Mi.D) : gLst [.d (.tuple xs)] = some xs := (rfl)
theorem two_of {x y d : Mi.D} {i : Nat} (h : [x, y][i]? = some d) : d = x ∨ d = y := by
  cases i with
  | zero => simp at h; exact .inl h.symm
  | succ i => cases i with
    | zero => simp at h; exact .inr h.symm
    | succ i => simp at h
def ISp1 (n : Mi.D) (ws : List Mi.D) (os : List Nat) (i : Nat) (e : En Unit) : Prop := ∃ (x4 x7 : Slot), e = ⟨[.sh (bookD n ws), .sh (.int (ws.length : Nat)), .sh (.list (intsD os)), .sh (dueO ws.length os), x4, .un, .un, x7, .un], ()⟩
def ISp2 (n : Mi.D) (ws : List Mi.D) (os : List Nat) (q : Mi.D) (i : Nat) (e : En Unit) : Prop := ∃ (x7 : Slot), e = ⟨[.sh (bookD n ws), .sh (.int (ws.length : Nat)), .sh (.list (intsD os)), .sh (dueO ws.length os), .sh q, .un, .un, x7, .un], ()⟩
def ISp3 (n : Mi.D) (ws : List Mi.D) (os : List Nat) (i : Nat) (e : En Unit) : Prop := ∃ (x4 x5 x7 : Slot), e = ⟨[.sh (bookD n ws), .sh (.int (ws.length : Nat)), .sh (.list (intsD os)), .sh (dueO ws.length os), x4, x5, .un, x7, .un], ()⟩
theorem askO_ok (b : Nat) (q : Mi.D) (os : List Nat) (h0 : 3 ≤ b) (h1 : b ≤ 64) (hq : SeqD q (intsD (dgs b os ++ [b - 1]))) (ho : ∀ a ∈ os, a < 256) (hl : os.length ≤ 24) : Fn m__law_asked_octets [.d (.int (b : Nat)), .d q] () (fun r _ => r = .sh (.tuple [.str "told", .tuple (intsD os)])) fun _ _ => False := by
  have hd := dgs_len h0 ho
  have := asked_rd b q _ h0 h1 hq (by rw [intsD_len]; simp; omega) (.ends (dgs b os) (dgs_lt h0 os))
  rw [read_dgs h0 ho, if_pos hl] at this
  exact this
theorem walk_book (n : Mi.D) (ws : List Mi.D) (h0 : 1 ≤ ws.length) (h1 : ws.length ≤ 64) (q : Mi.D) (l : List Nat) (hq : SeqD q (intsD l)) (hl : ∀ a ∈ l, a < ws.length) (hn : l.length ≤ 600) :
    Fn m_walk [.d (bookD n ws), .d q] () (fun r _ => r = .sh (.tuple [.tuple (l.map (stepB ws)), .int 0])) fun _ _ => False := by
  have := walk_sp n (stB ws) (stB_ok h0 h1) q l [] (by rw [List.append_nil]; exact hq) (stB_okS l hl) (by simpa using hn) (.inl rfl)
  rw [stB_steps l hl, stB_endS l hl] at this
  exact this.imp (fun r _ h => h.2) fun x _ h => h.1 rfl
theorem spelled_sp (n : Mi.D) (ws : List Mi.D) (os : List Nat) (h0 : 3 ≤ ws.length) (h1 : ws.length ≤ 64) (hw : ∀ w ∈ ws, WordOk w) (ho : ∀ a ∈ os, a < 256) (hl : os.length ≤ 24) :
    Fn m__law_is_spelled [.d (bookD n ws), .d (.int (ws.length : Nat)), .d (.list (intsD os))] () (fun r _ => r = .sh (.bool true)) fun _ _ => False := by
  unfold m__law_is_spelled
  with_reducible refine Fn_of ?_
  unfold b__law_is_spelled
  have hb1 : ((ws.length : Nat) : Int) - 1 = ((ws.length - 1 : Nat) : Int) := by omega
  have hdl := dgs_len h0 ho
  have hov := octV_lt _ os rfl ho
  have hdue : intsD (dgs ws.length os) ++ [.int ((ws.length - 1 : Nat) : Int)] = intsD (dgs ws.length os ++ [ws.length - 1]) := by rw [intsD_app]; rfl
  simp
  refine wCall_val (law_value_sp _ os (SeqD.l _)) fun r s1 e => ?_
  subst e
  simp [hb1]
  refine wCall_val (law_digits_sp (octV os) (ws.length - 1) (by omega) (by omega) (Nat.lt_of_lt_of_le hov (Nat.pow_le_pow_right (by decide) (by omega)))) fun r s1 e => ?_
  rw [e]
  have e2 : digs (ws.length - 1) (octV os) = dgs ws.length os := rfl
  rw [e2]
  simp [hb1, hdue, -intsD_app]
  refine ⟨sizeLine_le (by decide), by rw [intsD_len]; exact sizeLine_le (by omega), sizeLine_le (by decide), ?_⟩
  generalize hB : bookD n ws = B
  refine wLoop_idx (fun i e => ∃ (x4 x7 : Slot), e = ⟨[.sh B, .sh (.int (ws.length : Nat)), .sh (.list (intsD os)), .sh (dueO ws.length os), x4, .un, .un, x7, .un], ()⟩) ⟨_, _, rfl⟩ ?_ ?_
  · rintro i d e hd ⟨x4, x7, rfl⟩
    have hd2 := two_of hd
    have hq : SeqD d (intsD os) := by
      rcases hd2 with rfl | rfl
      · exact SeqD.l _
      · exact SeqD.t _
    have hg : gLst [.d d] = some (intsD os) := by rcases hd2 with rfl | rfl <;> rfl
    simp
    refine ⟨small_of (by decide) (by decide), ?_⟩
    refine wLoop_rng (fun i e => ∃ (x7 : Slot), e = ⟨[.sh B, .sh (.int (ws.length : Nat)), .sh (.list (intsD os)), .sh (dueO ws.length os), .sh d, .un, .un, x7, .un], ()⟩) ⟨_, rfl⟩ ?_ ?_
    · rintro k e hk ⟨x7, rfl⟩
      have hk2 : (k : Int) = 0 ∨ (k : Int) = 1 := by omega
      simp
      subst hB
      refine wCall_val (askd_ok k hk2 n ws d os h0 h1 hq ho hl) fun r s1 e => ?_
      subst e
      simp
      refine ⟨sizeLine_le (by decide), ?_⟩
      refine wCall_val (same_t (l := dgs ws.length os ++ [ws.length - 1]) (by simp; omega)) fun r s1 e => ?_
      subst e
      simp
    · rintro e ⟨x7, rfl⟩
      simp [hg]
      refine wCall_val (same_l (l := os) (by omega)) fun r s1 e => ?_
      subst e
      simp
  · rintro e ⟨x4, x7, rfl⟩
    have hlen : (dgs ws.length os ++ [ws.length - 1]).length ≤ 194 := by simp; omega
    have hall : ∀ a ∈ dgs ws.length os ++ [ws.length - 1], a < ws.length := fun a ha => by
      rcases List.mem_append.mp ha with ha | ha
      · have := dgs_lt h0 os a ha; omega
      · simp at ha; omega
    have hok := fun q hq => askO_ok ws.length q os h0 h1 hq ho hl
    have hsl := same_l (l := dgs ws.length os ++ [ws.length - 1]) (by omega)
    have hst := same_t (l := os) (by omega)
    unfold dueO
    generalize dgs ws.length os ++ [ws.length - 1] = due at *
    simp
    refine ⟨sizeLine_le (by decide), ?_⟩
    refine wLoop_idx (fun i e => ∃ (x4 x5 x7 : Slot), e = ⟨[.sh B, .sh (.int (ws.length : Nat)), .sh (.list (intsD os)), .sh (.tuple (intsD due)), x4, x5, .un, x7, .un], ()⟩) ⟨_, _, _, rfl⟩ ?_ ?_
    · rintro i d e hd ⟨x4, x5, x7, rfl⟩
      have hd2 := two_of hd
      have hq : SeqD d (intsD due) := by
        rcases hd2 with rfl | rfl
        · exact SeqD.l _
        · exact SeqD.t _
      have hg : gLst [.d d] = some (intsD due) := by rcases hd2 with rfl | rfl <;> rfl
      simp
      refine wCall_val (hok d hq) fun r s1 e => ?_
      subst e
      simp
      refine ⟨sizeLine_le (by decide), ?_⟩
      refine wCall_val hst fun r s1 e => ?_
      subst e
      simp [hg]
      refine wCall_val hsl fun r s1 e => ?_
      subst e
      simp
    · rintro e ⟨x4, x5, x7, rfl⟩
      simp
      refine wLcs_of (fun d y => y = (match d with | .int k => stepB ws k.toNat | _ => .none)) (sizeLine_le (by rw [intsD_len]; omega)) (fun d hd s3 => ?_) fun ys s3 hr => ?_
      · unfold intsD at hd
        obtain ⟨a, ha, rfl⟩ := List.mem_map.mp hd
        have h2 := hall a ha
        have g : atI (ws.map fun w => PyData.tuple [w, .int 0]) (a : Int) = some (.tuple [ws[a], .int 0]) := by
          refine atI_of ?_
          rw [List.getElem?_map, List.getElem?_eq_getElem h2]
          rfl
        subst hB
        simp [wipeE, bookD, g, stepB]
        refine ⟨sizeLine_le (by decide), ?_⟩
        rw [List.getElem?_eq_getElem h2]
        rfl
      · have hy := hr.eq
        have e : ys = due.map (stepB ws) := by rw [hy]; unfold intsD; simp [Function.comp_def]
        subst e
        simp [resE, wipeE]
        subst hB
        refine wCall_val (walk_book n ws (by omega) h1 _ due (SeqD.l _) hall (by omega)) fun r s1 e => ?_
        subst e
        simp
        refine ⟨sizeLine_le (by decide), ?_⟩
        obtain ⟨p1, p2⟩ := steps_pl hw hall (by omega)
        refine wCall_val (same_sp _ ⟨4, p1⟩ (by omega)) fun r s1 e => ?_
        subst e
        simp
end Mi
set_option maxHeartbeats 4000000
namespace Mi
open PySem PySem.Spec PyProof.Rows L2
theorem from_to_i (k : Int) : Fn m_is_from_to [.d (.int k), .d (.int 0), .d (.int 60)] () (fun r _ => r = .sh (.bool (decide (0 ≤ k ∧ k ≤ 60)))) fun _ _ => False := by
  unfold m_is_from_to
  with_reducible refine Fn_of ?_
  unfold b_is_from_to
  simp [is_int_i, is_bool_i]
  refine wIf_d (fun c => ?_) (fun c => ?_)
  · simp [c]
  · simp [c]
end Mi
set_option maxHeartbeats 4000000
namespace Mi
open PySem PySem.Spec PyProof.Rows L2
theorem tails_sp (n : Mi.D) (st : List Mi.D) (w : Int) (w0 : 0 ≤ w) (w1 : w ≤ 60) (c1 : st.length ≤ 12) (hs : ∀ x ∈ st, RowOk st.length x) : Fn m_tails [.d (.tuple [n, .tuple st]), .d (.int w)] () (fun r _ => r.d = .list (rowsD st (w.toNat + 1))) fun _ _ => False := by
  unfold m_tails
  with_reducible refine Fn_of ?_
  unfold b_tails
  have g1 : dIx (.tuple [n, .tuple st]) (.int 1) = some (.tuple st) := rfl
  simp
  refine wCall_val (from_to_i w) fun r s1 h => ?_
  subst h
  simp [w0, w1, g1]
  refine ⟨sizeLine_le (by decide), repOk_of (by omega) (by omega) (by decide), sizeLine_le (by decide), small_of (by omega) (by omega), ?_⟩
  refine wLoop_rng (fun i e => ∃ (x4 x5 x6 : Slot), e = ⟨[.sh (.tuple [n, .tuple st]), .sh (.int w), .sh (.tuple st), .ow (rowsD st (i + 1)), x4, x5, x6, .un, .un], ()⟩) ⟨.un, .un, .un, ?_⟩ ?_ ?_
  · simp [rowsD, rowD, rowR]
  · rintro i e hi ⟨x4, x5, x6, rfl⟩
    have hm : dIx (.list (rowsD st (i + 1))) (.int i) = some (rowD st i) := by
      show atI _ _ = _
      exact atI_nat (rowsD_at st (by omega))
    simp [hm, g1]
    refine wLcs_of (fun x y => y = .int (sumK (rowR st i) x)) (sizeLine_le (by omega)) (fun x hx s2 => ?_) fun ys s2 hr => ?_
    · obtain ⟨ps, rfl, p0, p1, hp⟩ := hs x hx
      simp [wipeE]
      refine wLcs_of (fun p y => y = .int ((rowR st i).getD (getK p).toNat 0)) (sizeLine_le (by omega)) (fun p hpp s3 => ?_) fun zs s3 hr => ?_
      · obtain ⟨v, k, rfl, k0, k1⟩ := hp p hpp
        have g3 := row_at (row := rowR st i) k0 (by rw [rowR_len]; omega)
        simp [wipeE, rowD, g3, getK]
      · have hz := hr.eq
        subst hz
        have e : ps.map (fun p => PyData.int ((rowR st i).getD (getK p).toNat 0)) = (ps.map fun p => (rowR st i).getD (getK p).toNat 0).map PyData.int := by rw [List.map_map]; rfl
        have e2 := toInts_map (ps.map fun p => (rowR st i).getD (getK p).toNat 0)
        rw [← e] at e2
        simp only [kFz_e, kCns_e, wp_mNil, kCns2_e, kA_e, gSum_l, e2]
        simp [resE, wipeE, keepS, sumK, psOf]
    · have hz := hr.eq
      subst hz
      simp [resE, wipeE, keepS]
      refine ⟨by rw [rowsD_len]; exact sizeLine_big (by omega), ?_⟩
      rw [rowsD_succ st (i + 1)]
      congr 2
      simp [rowD, rowR, stepR]
  · rintro e ⟨x4, x5, x6, rfl⟩
    simp
end Mi
set_option maxHeartbeats 4000000
namespace Mi
open PySem PySem.Spec PyProof.Rows L2
theorem from_to_g (d : Mi.D) (lo hi : Int) (h : noDict d) : Fn m_is_from_to [.d d, .d (.int lo), .d (.int hi)] () (fun r _ => r = .sh (.bool (inR d lo hi))) fun _ _ => False := by
  unfold m_is_from_to
  with_reducible refine Fn_of ?_
  unfold b_is_from_to
  cases d with
  | int k =>
    simp [inR]
    refine wIf_d (c := lo ≤ k) (fun c => ?_) (fun c => ?_)
    · simp [c]
    · simp [c]
  | dict _ => exact h.elim
  | _ => simp [inR]
end Mi
set_option maxHeartbeats 4000000
namespace Mi
open PySem PySem.Spec PyProof.Rows L2
theorem copy_sp : ∀ (n : Nat) (d : Mi.D), Pl n d → Fn (m_copy_of (n + 1)) [.d d] () (fun r _ => r.d = d) fun _ _ => False := by
  intro n
  induction n with
  | zero =>
    intro d h
    show Fn (fnOf 2 (b_copy_of (m_copy_of 0))) _ _ _ _
    with_reducible refine Fn_of ?_
    unfold b_copy_of
    cases d with
    | list xs => exact h.elim
    | tuple xs => exact h.elim
    | dict _ => exact h.elim
    | _ => simp [isl, ist_n]
  | succ n ih =>
    intro d h
    show Fn (fnOf 2 (b_copy_of (m_copy_of (n + 1)))) _ _ _ _
    with_reducible refine Fn_of ?_
    unfold b_copy_of
    cases d with
    | list xs =>
      simp [isl_l]
      refine wLcs_of (fun d y => y = d) (sizeLine_le (by have := h.1; omega)) (fun x hx s2 => ?_) fun ys s2 hr => ?_
      · simp [wipeE]
        refine wCall_val (ih x (h.2 x hx)) fun r s1 e => ?_
        simp [wipeE, e]
      · simp [hr.same]
    | tuple xs =>
      simp [isl, ist_t]
      refine wLcs_of (fun d y => y = d) (sizeLine_le (by have := h.1; omega)) (fun x hx s2 => ?_) fun ys s2 hr => ?_
      · simp [wipeE]
        refine wCall_val (ih x (h.2 x hx)) fun r s1 e => ?_
        simp [wipeE, e]
      · simp [hr.same]
    | dict _ => exact h.elim
    | _ => simp [isl, ist_n]
end Mi
set_option maxHeartbeats 4000000
namespace Mi
open PySem PySem.Spec PyProof.Rows L2
theorem tails_bad (p : Mi.D) {d : Mi.D} (h : noDict d) (hr : inR d 0 60 = false) (hp : Pl 29 d) : Fn m_tails [.d p, .d d] () (fun _ _ => False) (fun x _ => x = ⟨"BadSize", [("size", d)]⟩) := by
  unfold m_tails
  with_reducible refine Fn_of ?_
  unfold b_tails
  simp
  refine wCall_val (from_to_g d 0 60 h) fun r s1 e => ?_
  subst e
  simp [hr]
  refine wCall_val (copy_sp 29 d hp) fun r s1 e => ?_
  simp only [e, kCns_e, wp_mNil, kCns2_e, kA_e, mk1 hp, wO_some, kO_e, kEr_e]
end Mi
set_option maxHeartbeats 4000000
namespace Mi
open PySem PySem.Spec PyProof.Rows L2
def IAt (n : Mi.D) (st : List Mi.D) (w k : Int) (i : Nat) (e : En Unit) : Prop := ∃ (l : List Nat) (left : Int) (x7 x8 x9 x10 : Slot), e = ⟨[.sh (.tuple [n, .tuple st]), .sh (.int w), .sh (.int k), .sh (.list (rowsD st (w.toNat + 1))), .ow (intsD l), .sh (.int (endS st 0 l : Nat)), .sh (.int left), x7, x8, x9, x10], ()⟩ ∧
  l.length = i ∧ okS st 0 l ∧ 0 ≤ left ∧ left < rv st (w.toNat - i) (endS st 0 l) ∧ preF st (w.toNat - i) 0 l + left = k
def IAw (n : Mi.D) (st : List Mi.D) (w k left : Int) (l : List Nat) (x7 : Slot) (m : Nat) (s : Nat) (c' : Nat) (e : En Unit) : Prop := ∃ c : Nat, e = ⟨[.sh (.tuple [n, .tuple st]), .sh (.int w), .sh (.int k), .sh (.list (rowsD st (w.toNat + 1))), .ow (intsD l), .sh (.int (s : Nat)), .sh (.int (left - bef st m s c)), x7, .sh (rowD st m), .sh (.tuple (rowL st s)), .sh (.int (c : Nat))], ()⟩ ∧
  c < (rowL st s).length ∧ c' = (rowL st s).length - c ∧ bef st m s c ≤ left
theorem rowD_at {st : List Mi.D} (m : Nat) {s : Nat} (h : s < st.length) : dIx (rowD st m) (.int (s : Nat)) = some (.int (rv st m s)) := by
  have := row_at (row := rowR st m) (k := (s : Int)) (by omega) (by rw [rowR_len]; omega)
  unfold rowD rv
  rw [this]
  congr 2
theorem rowD_atI {st : List Mi.D} (m : Nat) {s : Nat} (h : s < st.length) : atI ((rowR st m).map PyData.int) (s : Int) = some (.int (rv st m s)) := rowD_at m h
theorem rows_at {st : List Mi.D} {m i : Nat} (h : i < m) : atI (rowsD st m) (i : Int) = some (rowD st i) := atI_nat (rowsD_at st h)
theorem saying_at_ok (n : Mi.D) (st : List Mi.D) (hs : StOk st) (w k : Int) (w0 : 0 ≤ w) (w1 : w ≤ 60) (k0 : 0 ≤ k) (k1 : k < rv st w.toNat 0) :
    Fn m_saying_at [.d (.tuple [n, .tuple st]), .d (.int w), .d (.int k)] () (fun r _ => ∃ l, r = .sh (.tuple (intsD l)) ∧ okS st 0 l ∧ l.length = w.toNat ∧ rankF st 0 l = k) fun _ _ => False := by
  unfold m_saying_at
  with_reducible refine Fn_of ?_
  unfold b_saying_at
  simp
  refine wCall_val (tails_sp n st w w0 w1 hs.2.1 hs.2.2) fun r s1 h => ?_
  rw [h]
  have hst : 0 < st.length := by have := hs.1; omega
  have hw : atI (rowsD st (w.toNat + 1)) w = some (rowD st w.toNat) := by
    have := rows_at (st := st) (m := w.toNat + 1) (i := w.toNat) (by omega)
    rwa [show ((w.toNat : Nat) : Int) = w by omega] at this
  have hw0 := rowD_at (st := st) w.toNat hst
  rw [show ((0 : Nat) : Int) = 0 from rfl] at hw0
  simp [hw, hw0]
  refine wCall_val (from_to_g (.int k) 0 (rv st w.toNat 0 - 1) trivial) fun r s1 h => ?_
  subst h
  have : inR (.int k) 0 (rv st w.toNat 0 - 1) = true := by simp [inR]; omega
  simp [this]
  refine ⟨small_of w0 (by omega), ?_⟩
  refine wLoop_rng (IAt n st w k) ⟨[], k, _, _, _, _, rfl, rfl, trivial, k0, by simpa [endS] using k1, by simp [preF]⟩ ?_ ?_
  · rintro i e hi ⟨l, left, x7, x8, x9, x10, rfl, hl, ho, l0, l1, hp⟩
    have hlt := endS_lt hs l 0 hst ho
    have hm : w - 1 - (i : Int) = ((w.toNat - 1 - i : Nat) : Int) := by omega
    have hr1 := rows_at (st := st) (m := w.toNat + 1) (i := w.toNat - 1 - i) (by omega)
    rw [← hm] at hr1
    simp [hr1, atI_of (rowA hs hlt)]
    have hmm : w.toNat - i = (w.toNat - 1 - i) + 1 := by omega
    rw [hmm, rv_succ _ hlt] at l1
    refine wWhl_inv (IAw n st w k left l (.sh (.int i)) (w.toNat - 1 - i) (endS st 0 l)) ?_ (m := (rowL st (endS st 0 l)).length) ?_ ?_
    · rintro m e ⟨c, rfl, c1, c2, c3⟩
      simp [atI_of (pairA hs hlt c1), rowD_at _ (hs.gk_lt hlt c1)]
      refine wIf_d (fun hc => ?_) (fun hc => ?_)
      · simp [atI_of (pairA hs hlt c1), rowD_at _ (hs.gk_lt hlt c1)]
        have hb : bef st (w.toNat - 1 - i) (endS st 0 l) (c + 1) ≤ left := by rw [bef_succ]; omega
        have hc1 : c + 1 < (rowL st (endS st 0 l)).length := by
          rcases Nat.lt_or_ge (c + 1) (rowL st (endS st 0 l)).length with h | h
          · exact h
          · have : c + 1 = (rowL st (endS st 0 l)).length := by omega
            rw [this] at hb; omega
        refine ⟨_, ?_, c + 1, ?_, hc1, rfl, hb⟩
        · omega
        · rw [bef_succ, Int.sub_sub]
          rfl
      · simp [atI_of (pairA hs hlt c1)]
        refine ⟨by rw [intsD_len]; exact sizeLine_big (by omega), ?_⟩
        have e1 : intsD l ++ [PyData.int (c : Nat)] = intsD (l ++ [c]) := by rw [intsD_app]; rfl
        have e2 : gk st (endS st 0 l) c = endS st 0 (l ++ [c]) := by rw [endS_app]; rfl
        rw [e1, e2]
        refine ⟨l ++ [c], left - bef st (w.toNat - 1 - i) (endS st 0 l) c, _, _, _, _, rfl, by simp [hl], ?_, by omega, ?_, ?_⟩
        · rw [okS_app]
          exact ⟨ho, c1, trivial⟩
        · rw [endS_app]
          show _ < rv st _ (gk st (endS st 0 l) c)
          rw [show w.toNat - (i + 1) = w.toNat - 1 - i by omega]
          omega
        · rw [pre_snoc, show w.toNat - (i + 1) + 1 = w.toNat - i by omega, show w.toNat - (i + 1) = w.toNat - 1 - i by omega]
          omega
    · obtain ⟨ps, _, e2, _, e4, _⟩ := hs.row hlt
      rw [e2]
      unfold fuel
      omega
    · obtain ⟨ps, _, e2, e3, e4, _⟩ := hs.row hlt
      exact ⟨0, by simp [bef], by rw [e2]; omega, by omega, l0⟩
  · rintro e ⟨l, left, x7, x8, x9, x10, rfl, hl, ho, l0, l1, hp⟩
    simp
    refine ⟨l, rfl, ho, hl, ?_⟩
    rw [Nat.sub_self] at l1 hp
    rw [rv_zero (endS_lt hs l 0 hst ho)] at l1
    rw [rank_pre0]
    omega
end Mi
set_option maxHeartbeats 4000000
namespace Mi
open PySem PySem.Spec PyProof.Rows L2
theorem walk_long (p : Mi.D) (q : Mi.D) (xs : List Mi.D) (hq : SeqD q xs) (hl : 600 < xs.length) : Fn m_walk [.d p, .d q] () (fun _ _ => False) (fun x _ => x = ⟨"TooMany", [("most", .int 600), ("what", .str "saying")]⟩) := by
  unfold m_walk
  with_reducible refine Fn_of ?_
  unfold b_walk
  have hle : (600 : Int) < (xs.length : Nat) := by omega
  simp [hq.len, hle, mk2 (d := .str "saying") (d2 := .int 600) (show PySem.PyData.strOk _ = true by decide +kernel) trivial]
end Mi
set_option maxHeartbeats 4000000
namespace Mi
open PySem PySem.Spec PyProof.Rows L2
def IRk (n : Mi.D) (st : List Mi.D) (q : Mi.D) (l : List Nat) (i : Nat) (e : En Unit) : Prop := ∃ (x6 x7 x8 : Slot) (r : Int), e = ⟨[.sh (.tuple [n, .tuple st]), .sh q, .sh (.tuple (stepsD st 0 l)), .sh (.int (l.length : Nat)), .sh (.list (rowsD st (l.length + 1))), .sh (.int r), x6, x7, x8, .un], ()⟩ ∧ r = preF st (l.length - i) 0 (l.take i)
theorem saying_rank_ok (n : Mi.D) (st : List Mi.D) (hs : StOk st) (q : Mi.D) (l : List Nat) (hq : SeqD q (intsD l)) (ho : okS st 0 l) (hl : l.length ≤ 60) :
    Fn m_saying_rank [.d (.tuple [n, .tuple st]), .d q] () (fun r _ => r = .sh (.int (rankF st 0 l))) fun _ _ => False := by
  have hst : 0 < st.length := by have := hs.1; omega
  unfold m_saying_rank
  with_reducible refine Fn_of ?_
  unfold b_saying_rank
  simp
  refine wCall_of (walk_sp n st hs q l [] (by simpa using hq) ho (by simp; omega) (.inl rfl)) (fun r s1 e => ?_) (fun _ _ e => absurd rfl e.1)
  rw [e.2]
  simp [hq.len, intsD_len]
  refine wCall_val (tails_sp n st (l.length : Nat) (by omega) (by omega) hs.2.1 hs.2.2) fun r s1 h => ?_
  rw [h]
  simp
  refine ⟨small_of (by omega) (by omega), ?_⟩
  refine wLoop_rng (IRk n st q l) ⟨_, _, _, _, rfl, by simp [preF]⟩ ?_ ?_
  · rintro i e hi ⟨x6, x7, x8, r, rfl, hr0⟩
    have hi2 : i < l.length := by omega
    obtain ⟨o1, o2, o3⟩ := okS_take ho hi2
    have hlt := endS_lt hs _ 0 hst o1
    have hm : (l.length : Int) - 1 - (i : Int) = ((l.length - 1 - i : Nat) : Int) := by omega
    have hr1 := rows_at (st := st) (m := l.length + 1) (i := l.length - 1 - i) (by omega)
    rw [← hm] at hr1
    obtain ⟨w, hw⟩ := stepsD_at (st := st) l 0 i hi2
    simp [hr1, atI_of hw, atI_of (rowA hs hlt), hq.ix, atI_of (intsD_at hi2)]
    have hrow : (rowL st (endS st 0 (l.take i))).length ≤ 64 := by
      obtain ⟨ps, _, e2, _, e4, _⟩ := hs.row hlt
      rw [e2]; exact e4
    refine ⟨small_of (by omega) (by omega), ?_⟩
    refine wLcs_of (fun d y => y = (match d with | .int j => .int (rv st (l.length - 1 - i) (gk st (endS st 0 (l.take i)) j.toNat)) | _ => .none)) (sizeLine_le (by rw [rngD_len]; omega)) (fun d hd s3 => ?_) fun ys s3 hr => ?_
    · obtain ⟨j, hj⟩ := List.getElem?_of_mem hd
      obtain ⟨j1, rfl⟩ := rngD_get hj
      have j2 : j < (rowL st (endS st 0 (l.take i))).length := by omega
      simp [wipeE, atI_of (pairA hs hlt j2), rowD_at _ (hs.gk_lt hlt j2)]
    · have hy := hr.eq
      have e1 : ys = ((List.range l[i]).map fun j => rv st (l.length - 1 - i) (gk st (endS st 0 (l.take i)) j)).map PyData.int := by
        rw [hy]
        simp [rngD]
      have e2 := toInts_map ((List.range l[i]).map fun j => rv st (l.length - 1 - i) (gk st (endS st 0 (l.take i)) j))
      rw [← e1] at e2
      simp only [kFz_e, kCns_e, wp_mNil, kCns2_e, kA_e, gSum_l, e2]
      simp [resE, wipeE, keepS]
      refine ⟨_, _, _, _, rfl, ?_⟩
      rw [bef_range, List.take_succ_eq_append_getElem hi2, pre_snoc, show l.length - (i + 1) + 1 = l.length - i by omega, show l.length - (i + 1) = l.length - 1 - i by omega, hr0]
  · rintro e ⟨x6, x7, x8, r, rfl, hr⟩
    simp
    rw [hr, rank_pre0]
    simp
theorem saying_rank_size (n : Mi.D) (st : List Mi.D) (hs : StOk st) (q : Mi.D) (l : List Nat) (hq : SeqD q (intsD l)) (ho : okS st 0 l) (hl : 60 < l.length) (h2 : l.length ≤ 600) :
    Fn m_saying_rank [.d (.tuple [n, .tuple st]), .d q] () (fun _ _ => False) fun x _ => x = ⟨"BadSize", [("size", .int l.length)]⟩ := by
  unfold m_saying_rank
  with_reducible refine Fn_of ?_
  unfold b_saying_rank
  simp
  refine wCall_of (walk_sp n st hs q l [] (by simpa using hq) ho (by simp; omega) (.inl rfl)) (fun r s1 e => ?_) (fun _ _ e => absurd rfl e.1)
  rw [e.2]
  simp [hq.len, intsD_len]
  exact wCall_of (tails_bad (.tuple [n, .tuple st]) (d := .int l.length) trivial (by simp [inR]; omega) trivial) (fun _ _ z => z.elim) fun x s1 e => e
theorem saying_rank_bad (n : Mi.D) (st : List Mi.D) (hs : StOk st) (q : Mi.D) (l : List Nat) (bad : Mi.D) (post : List Mi.D) (hq : SeqD q (intsD l ++ bad :: post)) (ho : okS st 0 l) (hl : l.length + (bad :: post).length ≤ 600) (b1 : noDict bad) (b2 : idxOf bad (rowL st (endS st 0 l)).length = false) :
    Fn m_saying_rank [.d (.tuple [n, .tuple st]), .d q] () (fun _ _ => False) fun x _ => x = ⟨"BadNumber", [("place", .int l.length)]⟩ := by
  unfold m_saying_rank
  with_reducible refine Fn_of ?_
  unfold b_saying_rank
  simp
  exact wCall_of (walk_sp n st hs q l (bad :: post) hq ho hl (.inr ⟨bad, post, rfl, b1, b2⟩)) (fun r s1 e => nomatch e.1) (fun _ _ e => e.2)
theorem saying_rank_long (p q : Mi.D) (xs : List Mi.D) (hq : SeqD q xs) (hl : 600 < xs.length) :
    Fn m_saying_rank [.d p, .d q] () (fun _ _ => False) fun x _ => x = ⟨"TooMany", [("most", .int 600), ("what", .str "saying")]⟩ := by
  unfold m_saying_rank
  with_reducible refine Fn_of ?_
  unfold b_saying_rank
  simp
  exact wCall_of (walk_long p q xs hq hl) (fun _ _ z => z.elim) fun x s1 e => e
end Mi
set_option maxHeartbeats 4000000
namespace Mi
open PySem PySem.Spec PyProof.Rows L2
theorem wLoop_post {S : Type} {g : Mi.D → M S Unit} {b : M S Fl} {ds : List Mi.D} {e : En S} {Q : Fl → En S → Prop} {X : Er → En S → Prop} (P : En S → Prop) (h : wLoop g b ds e (fun fl e => fl = .nx ∧ P e) X) (k : ∀ e, P e → Q .nx e) : wLoop g b ds e Q X := by
  unfold wLoop wp at h ⊢
  cases q : loop g b ds e with
  | ok fl e1 =>
    rw [q] at h
    obtain ⟨rfl, h2⟩ := h
    exact k _ h2
  | err x e1 => rw [q] at h; exact h
  | stuck => rw [q] at h; exact h
theorem cut_to2 {α : Type} {xs : List α} {k : Nat} (h : k ≤ xs.length) : cutD xs none (some (k : Int)) = xs.take k := by
  unfold cutD
  rw [HT.sIx_nat, HT.sIx_none, Nat.min_eq_left h]
  simp
theorem cut_m1 {α : Type} (xs : List α) : cutD xs none (some (-1)) = xs.take (xs.length - 1) := by
  unfold cutD
  rw [HT.sIx_none]
  have : HT.sIx xs.length xs.length (some (-1)) = xs.length - 1 := by
    unfold HT.sIx
    simp
    omega
  rw [this]
  simp
theorem rng_ints (m : Nat) : rngD 0 m = intsD (List.range m) := by
  unfold rngD intsD
  simp
theorem scan_ok (n : Nat) : ∀ (l done : List Nat), (∀ a ∈ l, a < n) → (done ++ l).Nodup → done ++ l ≠ [] → scan n done (intsD l) = .ok (done ++ l)
  | [], done, _, _, h => by
    rw [List.append_nil] at h ⊢
    show scan n done [] = _
    rw [scan_nil, if_neg h]
  | a :: r, done, h1, h2, h3 => by
    show scan n done (.int (a : Nat) :: intsD r) = _
    rw [scan_cons]
    have ha := h1 a (by simp)
    have hn : natOf n (.int (a : Nat)) = some a := by
      show (if 0 ≤ (a : Int) ∧ (a : Int) < n then some (a : Int).toNat else none) = some a
      rw [if_pos ⟨by omega, by omega⟩]
      simp
    rw [hn]
    have hm : a ∉ done := fun z => by
      have := (List.nodup_append.mp h2).2.2 a z a (by simp)
      exact this rfl
    dsimp only
    rw [if_neg hm, scan_ok n r (done ++ [a]) (fun c hc => h1 c (by simp [hc])) (by rwa [List.append_assoc]) (by simp), List.append_assoc]
    rfl
theorem pick_range {ws : List Mi.D} {m : Nat} (h : m ≤ ws.length) : pick ws (List.range m) = ws.take m := by
  unfold pick
  apply List.ext_getElem?
  intro i
  rw [List.getElem?_map]
  by_cases hi : i < m
  · rw [List.getElem?_range hi, List.getElem?_take_of_lt hi]
    show some (ws.getD i .none) = _
    rw [List.getD_eq_getElem?_getD, List.getElem?_eq_getElem (by omega)]
    rfl
  · rw [List.getElem?_eq_none (by simp; omega), List.getElem?_eq_none (by simp; omega)]
    rfl
theorem book_pl81 {k : Int} {ws : List Mi.D} (hw : ∀ w ∈ ws, WordOk w) (hl : ws.length ≤ 64) : Pl 5 (bookD (.int k) ws) ∧ sz (bookD (.int k) ws) ≤ 10000 := by
  constructor
  · refine ⟨by simp, fun x hx => ?_⟩
    simp at hx
    rcases hx with rfl | rfl
    · trivial
    · refine ⟨by simp, fun x hx => ?_⟩
      simp at hx
      subst hx
      refine ⟨by simp; omega, fun y hy => ?_⟩
      obtain ⟨w, hwm, rfl⟩ := List.mem_map.mp hy
      refine ⟨by simp, fun z hz => ?_⟩
      simp at hz
      rcases hz with rfl | rfl
      · exact (hw z hwm).pl
      · trivial
  · have main : szs (ws.map fun w => PyData.tuple [w, .int 0]) ≤ 43 * ws.length := by
      clear hl
      induction ws with
      | nil => simp [szs]
      | cons a r ih =>
        have h1 := ih (fun c hc => hw c (by simp [hc]))
        have h2 := (hw a (by simp)).sz
        rw [List.map_cons, szs, sz, szs, szs, szs, List.length_cons]
        simp only [sz]
        omega
    unfold bookD
    simp only [sz, szs]
    omega
theorem ranked_sp (k : Int) (ws : List Mi.D) (os : List Nat) (h0 : 3 ≤ ws.length) (h1 : ws.length ≤ 64) (hw : ∀ w ∈ ws, WordOk w) (ho : ∀ a ∈ os, a < 256) (hl : os.length ≤ 24) :
    Fn m__law_is_ranked [.d (bookD (.int k) ws), .d (.int (ws.length : Nat)), .d (.list (intsD os))] () (fun r _ => r = .sh (.bool true)) fun _ _ => False := by
  unfold m__law_is_ranked
  with_reducible refine Fn_of ?_
  unfold b__law_is_ranked
  have hb1 : ((ws.length : Nat) : Int) - 1 = ((ws.length - 1 : Nat) : Int) := by omega
  generalize hB : bookD (.int k) ws = B
  simp
  refine ⟨small_of (by decide) (by decide), ?_⟩
  refine wLoop_post (fun e => ∃ (j : Nat) (x4 : Slot), e = ⟨[.sh B, .sh (.int (ws.length : Nat)), .sh (.list (intsD os)), .sh (.list (intsD (os.take j))), x4, .un, .un, .un, .un], ()⟩ ∧ (dgs ws.length (os.take j)).length ≤ 60) ?_ ?_
  · refine wLoop_rng (fun i e => ∃ (x4 : Slot), e = ⟨[.sh B, .sh (.int (ws.length : Nat)), .sh (.list (intsD os)), .sh (.list (intsD (os.take (os.length - i)))), x4, .un, .un, .un, .un], ()⟩) ⟨_, by simp; rfl⟩ ?_ ?_
    · rintro i e hi ⟨x4, rfl⟩
      have hov := octV_lt _ (os.take (os.length - i)) rfl fun a ha => ho a (List.mem_of_mem_take ha)
      have hlt : (os.take (os.length - i)).length ≤ 24 := by rw [List.length_take]; omega
      simp
      refine wCall_val (law_value_sp _ (os.take (os.length - i)) (SeqD.l _)) fun r s1 e => ?_
      subst e
      simp [hb1]
      refine wCall_val (law_digits_sp (octV (os.take (os.length - i))) (ws.length - 1) (by omega) (by omega) (Nat.lt_of_lt_of_le hov (Nat.pow_le_pow_right (by decide) (by omega)))) fun r s1 e => ?_
      rw [e]
      simp [intsD_len]
      refine wIf_d (fun c => ?_) (fun c => ?_)
      · simp
        exact ⟨_, rfl, by unfold dgs; omega⟩
      · simp [cut_m1, intsD_len]
        unfold intsD
        rw [← List.map_take, List.take_take]
        congr 2
        omega
    · rintro e ⟨x4, rfl⟩
      refine ⟨rfl, os.length - 24, x4, rfl, ?_⟩
      rw [show os.length - 24 = 0 by omega, List.take_zero]
      have := dgs_len h0 (os := []) (fun _ h => nomatch h)
      simp at this
      omega
  · rintro e ⟨j, x4, rfl, hd⟩
    have ho2 : ∀ a ∈ os.take j, a < 256 := fun a ha => ho a (List.mem_of_mem_take ha)
    have hl2 : (os.take j).length ≤ 24 := by rw [List.length_take]; omega
    generalize os.take j = ks at *
    simp [rng_ints]
    refine ⟨by unfold rgOk RgOk; omega, ?_⟩
    have hsc : scan ws.length [] (intsD (List.range (ws.length - 1))) = .ok (List.range (ws.length - 1)) :=
      scan_ok ws.length (List.range (ws.length - 1)) [] (fun a ha => by have := List.mem_range.mp ha; omega) (by rw [List.nil_append]; exact List.nodup_range) (by simp; omega)
    have hpart : Fn m_part [.d B, .d (.list (intsD (List.range (ws.length - 1))))] () (fun r _ => r.d = bookD (.int k) (ws.take (ws.length - 1))) fun _ _ => False := by
      subst hB
      refine (part_sp (.int k) ws (by omega) _ (intsD (List.range (ws.length - 1))) (SeqD.l _) (fun x hx => ?_) (by rw [intsD_len, List.length_range]; omega)).imp (fun r _ ⟨ks, e1, e2⟩ => ?_) fun x _ e => ?_
      · unfold intsD at hx
        obtain ⟨a, _, rfl⟩ := List.mem_map.mp hx
        trivial
      · rw [hsc] at e1
        cases e1
        rw [e2, pick_range (by omega)]
      · rw [hsc] at e
        cases e
    refine wCall_val hpart fun r s1 e => ?_
    rw [e]
    have hlw : (ws.take (ws.length - 1)).length = ws.length - 1 := by rw [List.length_take]; omega
    have hw2 : ∀ w ∈ ws.take (ws.length - 1), WordOk w := fun w h => hw w (List.mem_of_mem_take h)
    have hcut : cutD (ws.map fun w => PyData.tuple [w, .int 0]) none (some ((ws.length : Int) - 1)) = (ws.take (ws.length - 1)).map fun w => PyData.tuple [w, .int 0] := by
      rw [hb1, cut_to2 (by rw [List.length_map]; omega), List.map_take]
    have hB2 : B = .tuple [.int k, .tuple [.tuple (ws.map fun w => PyData.tuple [w, .int 0])]] := hB.symm
    have hsame := same_sp (bookD (.int k) (ws.take (ws.length - 1))) ⟨5, (book_pl81 hw2 (by omega)).1⟩ (Nat.le_trans (book_pl81 (k := k) hw2 (by omega)).2 (by decide))
    have hB3 : PyData.tuple [.int k, .tuple [.tuple ((ws.map fun w => PyData.tuple [w, .int 0]).take (ws.length - 1))]] = bookD (.int k) (ws.take (ws.length - 1)) := by
      unfold bookD
      rw [List.map_take]
    simp [hB2, hcut]
    rw [hB3]
    refine ⟨sizeLine_le (by decide), sizeLine_le (by decide), ?_⟩
    refine wCall_val hsame fun r s1 e => ?_
    subst e
    simp
    have hd1 := dgs_lt h0 ks
    obtain ⟨es, x, he, hx⟩ := dgs_last h0 ks
    have hd2 : 1 ≤ (dgs ws.length ks).length := by rw [he]; simp
    have hval := (dgs_dig h0 ks).val
    have hcut2 : cutD (intsD (dgs ws.length ks ++ [ws.length - 1])) none (some (-1)) = intsD (dgs ws.length ks) := by
      rw [cut_m1, intsD_len, intsD_app, List.take_append_of_le_length (by rw [intsD_len]; simp), List.take_of_length_le (by rw [intsD_len]; simp)]
    have hrev : (intsD (dgs ws.length ks)).reverse = intsD (dgs ws.length ks).reverse := by unfold intsD; rw [List.map_reverse]
    refine wCall_val (digits_of_ok ws.length _ ks h0 h1 (SeqD.l _) ho2 hl2) fun r s1 e => ?_
    subst e
    generalize dgs ws.length ks = ds at *
    have hn2 : ¬ ((ds.length : Int) + 1 < 2) := by omega
    simp [intsD_len, hn2, hcut2, hrev]
    refine wCall_val (law_value_sp _ ks (SeqD.l _)) fun r s1 e => ?_
    subst e
    have hlr : ∀ a ∈ ds.reverse, a < (ws.take (ws.length - 1)).length := fun a ha => by rw [hlw]; exact hd1 a (by simpa using ha)
    have hso : okS (stB (ws.take (ws.length - 1))) 0 ds.reverse := stB_okS _ hlr
    have hst := stB_ok (ws := ws.take (ws.length - 1)) (by omega) (by omega)
    have hrk : rankF (stB (ws.take (ws.length - 1))) 0 ds.reverse = ((octV ks : Nat) : Int) := by
      rw [stB_rank _ hlr, List.reverse_reverse, hlw, hval]
    have hsr : Fn m_saying_rank [.d (bookD (.int k) (ws.take (ws.length - 1))), .d (.tuple (intsD ds.reverse))] () (fun r _ => r = .sh (.int (octV ks : Nat))) fun _ _ => False := by
      have := saying_rank_ok (.int k) (stB (ws.take (ws.length - 1))) hst (.tuple (intsD ds.reverse)) ds.reverse (SeqD.t _) hso (by simpa using hd)
      rw [hrk] at this
      exact this
    have hsat : Fn m_saying_at [.d (bookD (.int k) (ws.take (ws.length - 1))), .d (.int (ds.length : Nat)), .d (.int (octV ks : Nat))] () (fun r _ => r = .sh (.tuple (intsD ds.reverse))) fun _ _ => False := by
      have hlt : octV ks < (ws.length - 1) ^ ds.length := by rw [← hval]; exact valN_lt ds hd1
      refine (saying_at_ok (.int k) (stB (ws.take (ws.length - 1))) hst (ds.length : Nat) (octV ks : Nat) (by omega) (by omega) (by omega) (by rw [stB_rv, hlw, Int.toNat_natCast]; exact_mod_cast hlt)).imp (fun r _ ⟨l, e1, e2, e3, e4⟩ => ?_) fun _ _ z => z
      have hl3 := stB_okS_lt l e2
      rw [stB_rank l hl3] at e4
      have e5 : l.reverse = ds := by
        refine valN_inj (r := (ws.take (ws.length - 1)).length) l.reverse ds (by rw [List.length_reverse, e3, Int.toNat_natCast]) (fun a ha => hl3 a (by simpa using ha)) (fun a ha => hlr a (by simpa using ha)) ?_
        have e6 : valN (ws.take (ws.length - 1)).length ds = octV ks := by rw [hlw, hval]
        rw [e6]
        exact_mod_cast e4
      rw [e1, ← e5, List.reverse_reverse]
    simp
    refine wCall_val hsr fun r s1 e => ?_
    subst e
    simp
    refine wCall_val (same_sp (.int (octV ks : Nat)) ⟨0, trivial⟩ (by simp [sz])) fun r s1 e => ?_
    subst e
    simp [intsD_len]
    refine wCall_val hsat fun r s1 e => ?_
    subst e
    simp
    refine wCall_val (same_sp (.tuple (intsD ds.reverse)) ⟨1, pl_ints (by simp; omega)⟩ (by simp [sz, intsD_szs]; omega)) fun r s1 e => ?_
    subst e
    simp
end Mi
set_option maxHeartbeats 4000000
namespace Mi
open PySem PySem.Spec PyProof.Rows L2
theorem Dig.pow {r v : Nat} {ds : List Nat} (h : Dig r v ds) (hr : 2 ≤ r) : ds ≠ [] → r ^ (ds.length - 1) ≤ v := by
  induction h with
  | nil => intro h; exact absurd rfl h
  | @cons v ds p g ih =>
    intro _
    by_cases hd : ds = []
    · subst hd; simp; omega
    · have h1 := ih hd
      have hp : 0 < ds.length := List.length_pos_iff.mpr hd
      have h2 : r * r ^ (ds.length - 1) ≤ r * (v / r) := Nat.mul_le_mul_left _ h1
      have h3 : r * (v / r) ≤ v := Nat.mul_div_le v r
      have e : r ^ ((v % r :: ds).length - 1) = r * r ^ (ds.length - 1) := by
        rw [List.length_cons, Nat.mul_comm, ← Nat.pow_succ]
        congr 1
        omega
      omega
theorem dgs_pow {b : Nat} (h : 3 ≤ b) (h2 : b ≤ 64) {os : List Nat} (ho : ∀ a ∈ os, a < 256) (hl : os.length ≤ 25) {m : Nat} (hm : m ≤ (dgs b os).length + 6) : (b - 1) ^ m < 2 ^ 390 := by
  obtain ⟨es, x, e, _⟩ := dgs_last h os
  have h3 := (dgs_dig h os).pow (by omega) (by rw [e]; simp)
  have h4 := octV_lt _ os rfl ho
  have h5 : (2 : Nat) ^ (8 * os.length + 1) ≤ 2 ^ 201 := Nat.pow_le_pow_right (by decide) (by omega)
  have hp : 1 ≤ (dgs b os).length := by rw [e]; simp
  have h6 : (b - 1) ^ m ≤ (b - 1) ^ ((dgs b os).length - 1 + 7) := Nat.pow_le_pow_right (by omega) (by omega)
  rw [Nat.pow_add] at h6
  have h7 : (b - 1) ^ 7 ≤ 2 ^ (6 * 7) := pow_le_two (by omega)
  have h8 : (b - 1) ^ ((dgs b os).length - 1) * (b - 1) ^ 7 ≤ 2 ^ 201 * 2 ^ (6 * 7) := Nat.mul_le_mul (by omega) h7
  have h9 : (2 : Nat) ^ 201 * 2 ^ (6 * 7) < 2 ^ 390 := by rw [← Nat.pow_add]; exact Nat.pow_lt_pow_right (by decide) (by decide)
  omega
theorem told_len {b : Nat} {l os : List Nat} (h : readL b l = .told os) : os.length ≤ 24 := by
  unfold readL at h
  split at h
  · cases h
  · split at h
    · cases h
    · dsimp only at h
      split at h
      · cases h
      · split at h
        · cases h
        · cases h
          simp
          omega
theorem readD_pl {b : Nat} {xs : List Mi.D} {rd : Read} (h : Rd b xs rd) : Pl 2 (readD rd) ∧ sz (readD rd) ≤ 40 := by
  have t : ∀ (s : String) (n : Nat), Pl n (.str s) := fun s n => by have := strOk_of s; cases n <;> exact this
  have p1 : ∀ (s : String) (k : Int), Pl 2 (.tuple [.str s, .int k]) := fun s k => ⟨by simp, fun x hx => by
    simp at hx
    rcases hx with rfl | rfl
    · exact t _ _
    · trivial⟩
  have p0 : ∀ (s : String), Pl 2 (.tuple [.str s]) := fun s => ⟨by simp, fun x hx => by
    simp at hx
    subst hx
    exact t _ _⟩
  have main : ∀ rd, (∀ os, rd = .told os → os.length ≤ 24) → Pl 2 (readD rd) ∧ sz (readD rd) ≤ 40 := fun rd hr => by
    cases rd with
    | bad p => exact ⟨p1 _ _, by simp [readD, sz, szs]⟩
    | noend => exact ⟨p0 _, by simp [readD, sz, szs]⟩
    | behind p => exact ⟨p1 _ _, by simp [readD, sz, szs]⟩
    | not => exact ⟨p0 _, by simp [readD, sz, szs]⟩
    | many =>
      refine ⟨⟨by simp, fun x hx => ?_⟩, by simp [readD, sz, szs]⟩
      simp at hx
      rcases hx with rfl | rfl | rfl
      · exact t _ _
      · exact t _ _
      · trivial
    | told os =>
      have := hr os rfl
      exact ⟨pl_told (pl_ints (by omega)), by simp [readD, sz, szs, intsD_szs]; omega⟩
  refine main rd fun os e => ?_
  cases h with
  | bad => cases e
  | noend => cases e
  | behind => cases e
  | ends l _ => exact told_len e
theorem both_sp {b : Nat} {xs : List Mi.D} (h0 : 3 ≤ b) (h1 : b ≤ 64) (hx : ∀ x ∈ xs, noDict x) (hl : xs.length ≤ 600) (hp : (b - 1) ^ xs.length < 2 ^ 390) : ∃ d, Fn m__law_asked_octets [.d (.int (b : Nat)), .d (.list xs)] () (fun r _ => r = .sh d) (fun _ _ => False) ∧
    Fn m__law_read [.d (.int (b : Nat)), .d (.list xs)] () (fun r _ => r = .sh d) (fun _ _ => False) ∧ Fn m__law_same [.d d, .d d] () (fun r _ => r = .sh (.bool true)) fun _ _ => False := by
  obtain ⟨rd, hr⟩ := rd_ex b xs hx
  obtain ⟨p1, p2⟩ := readD_pl hr
  exact ⟨readD rd, asked_rd b _ xs h0 h1 (SeqD.l _) hl hr, read_rd b xs h0 h1 (by omega) hp hr, same_sp _ ⟨2, p1⟩ (by omega)⟩
theorem intsD_nd {l : List Nat} : ∀ x ∈ intsD l, noDict x := fun x hx => by
  unfold intsD at hx
  obtain ⟨a, _, rfl⟩ := List.mem_map.mp hx
  trivial
theorem set_nd {xs : List Mi.D} {i : Nat} {d : Mi.D} (h : ∀ x ∈ xs, noDict x) (hd : noDict d) : ∀ x ∈ xs.set i d, noDict x := fun x hx => by
  rcases List.mem_or_eq_of_mem_set hx with h1 | h1
  · exact h x h1
  · rw [h1]; exact hd
@[simp] theorem gLstO_e (xs : List Mi.D) : gLstO xs = some xs := (rfl)
def IBt (b : Nat) (os D : List Nat) (i : Nat) (e : En Sto) : Prop := ∃ (x4 x6 x7 x8 : Slot) (s : Sto), e = ⟨[.tok, .sh (.int (b : Nat)), .sh (.list (intsD os)), .sh (.list (intsD D)), x4, .un, x6, x7, x8, .un], s⟩
theorem six_of {j : Int} (h0 : 0 ≤ j) (h1 : j < 6) : ∃ c : Int, atI [PyData.int 1, .int 1, .int 1, .int (-1), .int (-1), .int 0] j = some (.int c) := by
  obtain ⟨n, rfl⟩ : ∃ n : Nat, j = n := ⟨j.toNat, by omega⟩
  have hn : n < 6 := by omega
  rcases n with _ | _ | _ | _ | _ | _ | n
  · exact ⟨1, rfl⟩
  · exact ⟨1, rfl⟩
  · exact ⟨1, rfl⟩
  · exact ⟨-1, rfl⟩
  · exact ⟨-1, rfl⟩
  · exact ⟨0, rfl⟩
  · omega
theorem bent_sp (cs : List Addr) (s : Sto) (b : Nat) (os : List Nat) (h0 : 3 ≤ b) (h1 : b ≤ 64) (ho : ∀ a ∈ os, a < 256) (hl : os.length ≤ 24) :
    Fn (m__law_bent_is_read cs) [.tok, .d (.int (b : Nat)), .d (.list (intsD os))] s (fun r _ => r = .sh (.bool true)) fun _ _ => False := by
  unfold m__law_bent_is_read
  with_reducible refine Fn_of ?_
  unfold b__law_bent_is_read
  have hb1 : ((b : Nat) : Int) - 1 = ((b - 1 : Nat) : Int) := by omega
  have hdl := dgs_len h0 ho
  have hov := octV_lt _ os rfl ho
  have hdue : intsD (dgs b os) ++ [.int ((b - 1 : Nat) : Int)] = intsD (dgs b os ++ [b - 1]) := by rw [intsD_app]; rfl
  obtain ⟨es, x, he, hx⟩ := dgs_last h0 os
  have hd2 : 1 ≤ (dgs b os).length := by rw [he]; simp
  have hpw := fun m hm => dgs_pow h0 h1 ho (show os.length ≤ 25 by omega) (m := m) hm
  simp
  refine wCall_lift (law_value_sp _ os (SeqD.l _)) fun r e => ?_
  subst e
  simp [hb1]
  refine wCall_lift (law_digits_sp (octV os) (b - 1) (by omega) (by omega) (Nat.lt_of_lt_of_le hov (Nat.pow_le_pow_right (by decide) (by omega)))) fun r e => ?_
  rw [e, show digs (b - 1) (octV os) = dgs b os from rfl]
  simp [hb1, hdue]
  refine ⟨sizeLine_le (by decide), by rw [intsD_len]; exact sizeLine_le (by omega), small_of (by decide) (by decide), ?_⟩
  generalize hD : dgs b os ++ [b - 1] = D
  have hDl : D.length = (dgs b os).length + 1 := by rw [← hD]; simp
  have hsm : ∀ (xs : List Mi.D), (∀ x ∈ xs, noDict x) → xs.length ≤ (dgs b os).length + 6 → ∃ d, Fn m__law_asked_octets [.d (.int (b : Nat)), .d (.list xs)] () (fun r _ => r = .sh d) (fun _ _ => False) ∧
      Fn m__law_read [.d (.int (b : Nat)), .d (.list xs)] () (fun r _ => r = .sh d) (fun _ _ => False) ∧ Fn m__law_same [.d d, .d d] () (fun r _ => r = .sh (.bool true)) fun _ _ => False := fun xs g1 g2 =>
    both_sp h0 h1 g1 (by omega) (hpw _ g2)
  have rest : ∀ (Q : Fl → En Sto → Prop) (i : Nat) (x4 x6 x8 : Slot) (a : Int) (s : Sto), 0 ≤ a → a < D.length → wp (sq (mSetF 6 (mBF gLst (mCons (mV 3) mNil)))
      (sq (mSet 8 (mCall 2 (m__law_take cs) (mTok 0 (mCons (rt (.int 6)) mNil))))
      (sq (mSetIx 6 (m2 dAdd (mIxO 6 (mV 7)) (m2 dIx (mFz (mLst (mCons (rt (.int 1)) (mCons (rt (.int 1)) (mCons (rt (.int 1)) (mCons (m1 dNeg (rt (.int 1))) (mCons (m1 dNeg (rt (.int 1))) (mCons (rt (.int 0)) mNil)))))))) (mV 8))) (mV 7))
      (sq (mIf (asB (m2 dEq (mV 8) (rt (.int 5))))
      (mSetIx 6 (rt (.bool true)) (mV 7))
      nop)
      (mIf (mNot (asB (mCall 2 (lift m__law_same) (mCons (mCall 2 (lift m__law_asked_octets) (mCons (mV 1) (mCons (mFz (mO 6 gLstO)) mNil))) (mCons (mCall 2 (lift m__law_read) (mCons (mV 1) (mCons (mV 6) mNil))) mNil)))))
      (mRet (rt (.bool false)))
      nop))))) ⟨[.tok, .sh (.int (b : Nat)), .sh (.list (intsD os)), .sh (.list (intsD D)), x4, .un, x6, .sh (.int a), x8, .un], s⟩ (loopQ (IBt b os D (i + 1)) Q) fun _ _ => False := fun Q i x4 x6 x8 a s a0 a1 => by
    obtain ⟨n, rfl⟩ : ∃ n : Nat, a = n := ⟨a.toNat, by omega⟩
    have hn : n < D.length := by omega
    simp
    refine wTake (by decide) (by decide) fun j s2 j0 j1 => ?_
    obtain ⟨c, hc⟩ := six_of j0 j1
    have hg : atI (intsD D) (n : Int) = some (.int (D[n] : Nat)) := atI_of (intsD_at hn)
    have hix : ixN D.length (n : Int) = some n := by
      have := ixN_at (n := D.length) (i := (n : Int)) (by omega) (by omega)
      simpa using this
    simp [hg, hc, hix, intsD_len]
    refine ⟨sizeLine_le (by decide), ?_⟩
    have n1 : ∀ x ∈ (intsD D).set n (.int ((D[n] : Nat) + c)), noDict x := set_nd intsD_nd trivial
    refine wIf_d (fun c5 => ?_) (fun c5 => ?_)
    · have n2 : ∀ x ∈ (intsD D).set n (.bool true), noDict x := set_nd intsD_nd trivial
      simp [hix, intsD_len]
      obtain ⟨d, d1, d2, d3⟩ := hsm _ n2 (by simp [intsD_len]; omega)
      refine wCall_lift d1 fun r e => ?_
      subst e
      simp
      refine wCall_lift d2 fun r e => ?_
      subst e
      simp
      refine wCall_lift d3 fun r e => ?_
      subst e
      simp
      exact ⟨_, _, _, _, _, rfl⟩
    · simp
      obtain ⟨d, d1, d2, d3⟩ := hsm _ n1 (by simp [intsD_len]; omega)
      refine wCall_lift d1 fun r e => ?_
      subst e
      simp
      refine wCall_lift d2 fun r e => ?_
      subst e
      simp
      refine wCall_lift d3 fun r e => ?_
      subst e
      simp
      exact ⟨_, _, _, _, _, rfl⟩
  refine wLoop_rng (IBt b os D) ⟨_, _, _, _, _, rfl⟩ ?_ ?_
  · rintro i e hi ⟨x4, x6, x7, x8, s, rfl⟩
    simp [intsD_len]
    refine wTake (by omega) (by omega) fun a s1 a0 a1 => ?_
    simp
    simp at rest
    refine wIf_d (fun c => ?_) (fun c => ?_)
    · simp [c, intsD_len]
      with_reducible exact rest _ _ _ .un _ _ _ (by omega) (by omega)
    · simp
      refine wIf_d (fun c2 => ?_) (fun c2 => ?_)
      · simp [intsD_len]
        with_reducible exact rest _ _ _ .un _ _ _ (by omega) (by omega)
      · simp
        with_reducible exact rest _ _ _ .un _ _ _ (by omega) (by omega)
  · rintro e ⟨x4, x6, x7, x8, s, rfl⟩
    simp
    refine wTake (by decide) (by decide) fun j s1 j0 j1 => ?_
    simp
    refine ⟨small_of (by omega) (by omega), ?_⟩
    refine wLcs_of (fun _ y => ∃ k : Int, y = .int k) (sizeLine_le (by rw [rngD_len]; omega)) (fun d hd s3 => ?_) fun ys s3 hr => ?_
    · obtain ⟨i, hi⟩ := List.getElem?_of_mem hd
      obtain ⟨g0, rfl⟩ := rngD_get hi
      simp [wipeE]
      refine wTake (by omega) (by omega) fun k s4 k0 k1 => ?_
      simp [wipeE]
    · have hyl := hr.len
      rw [rngD_len] at hyl
      have hyn : ∀ y ∈ ys, noDict y := fun y hy => by
        obtain ⟨_, _, k, rfl⟩ := hr.all y hy
        trivial
      simp [resE, wipeE, keepS, intsD_len, cut_m1, hb1]
      refine ⟨sizeLine_le (by omega), sizeLine_le (by decide), sizeLine_le (by omega), sizeLine_le (by decide), sizeLine_le (by decide), sizeLine_le (by decide), ?_⟩
      have tk : (intsD D).take (D.length - 1) = intsD (D.take (D.length - 1)) := by unfold intsD; rw [List.map_take]
      have all : ∀ d ∈ [PyData.list (List.take (D.length - 1) (intsD D)), PyData.list (intsD D ++ ys), PyData.list (List.take (D.length - 1) (intsD D) ++ [PyData.int 0, PyData.int ((b - 1 : Nat) : Int)]), PyData.list [PyData.int ((b - 1 : Nat) : Int)], PyData.list [], PyData.list [PyData.int 1, PyData.int ((b - 1 : Nat) : Int)]],
          ∃ xs, d = .list xs ∧ (∀ x ∈ xs, noDict x) ∧ xs.length ≤ (dgs b os).length + 6 := fun d hd => by
        rw [tk] at hd
        simp only [List.mem_cons, List.not_mem_nil, or_false] at hd
        rcases hd with rfl | rfl | rfl | rfl | rfl | rfl
        · exact ⟨_, rfl, intsD_nd, by rw [intsD_len, List.length_take]; omega⟩
        · exact ⟨_, rfl, fun x hx => (List.mem_append.mp hx).elim (intsD_nd x) (hyn x), by rw [List.length_append, intsD_len]; omega⟩
        · refine ⟨_, rfl, fun x hx => (List.mem_append.mp hx).elim (intsD_nd x) fun hx => ?_, by rw [List.length_append, intsD_len, List.length_take]; simp; omega⟩
          simp at hx
          rcases hx with rfl | rfl <;> trivial
        · refine ⟨_, rfl, fun x hx => ?_, by simp⟩
          simp at hx
          subst hx
          trivial
        · exact ⟨_, rfl, fun x hx => (nomatch hx), by simp⟩
        · refine ⟨_, rfl, fun x hx => ?_, by simp⟩
          simp at hx
          rcases hx with rfl | rfl <;> trivial
      refine wLoop_idx (fun i e => ∃ (x6 : Slot) (s : Sto), e = ⟨[.tok, .sh (.int (b : Nat)), .sh (.list (intsD os)), .sh (.list (intsD D)), x4, .sh (.list ys), x6, x7, x8, .un], s⟩) ⟨_, _, rfl⟩ ?_ ?_
      · rintro i d e hd ⟨x6, s, rfl⟩
        obtain ⟨xs, rfl, g1, g2⟩ := all d (List.mem_of_getElem? hd)
        obtain ⟨d, d1, d2, d3⟩ := hsm xs g1 g2
        simp
        refine wCall_lift d1 fun r e => ?_
        subst e
        simp
        refine wCall_lift d2 fun r e => ?_
        subst e
        simp
        refine wCall_lift d3 fun r e => ?_
        subst e
        simp
      · rintro e ⟨x6, s, rfl⟩
        simp
end Mi
set_option maxHeartbeats 4000000
namespace Mi
open PySem PySem.Spec PyProof.Rows L2
/-- the value that is put in -/
def BadOc (d : Mi.D) : Prop := natOf 256 d = none ∧ noDict d
theorem bent_list_sp (cs : List Addr) (s : Sto) (os : List Nat) (v : Mi.D) (hl : os.length ≤ 24) : Fn (m__law_bent_list cs) [.tok, .d (.list (intsD os)), .d v, .d (.int 24)] s (fun r _ => ∃ (p : Nat) (post : List Nat), p ≤ os.length ∧ r = .sh (.tuple [.list (intsD (os.take p) ++ v :: intsD post), .int (p : Nat)]) ∧ p + post.length < 24) fun _ _ => False := by
  unfold m__law_bent_list
  with_reducible refine Fn_of ?_
  unfold b__law_bent_list
  simp [intsD_len]
  obtain ⟨t, ht⟩ : ∃ t : Int, t = (if (os.length : Int) < 24 then 1 else 0) := ⟨_, rfl⟩
  rw [← ht]
  have ht2 : (os.length < 24 ∧ t = 1) ∨ (24 ≤ os.length ∧ t = 0) := by rw [ht]; split <;> omega
  refine wTake (by omega) (by omega) fun j s1 j0 j1 => ?_
  obtain ⟨p, rfl⟩ : ∃ p : Nat, j = p := ⟨j.toNat, by omega⟩
  simp [intsD_len]
  refine wIf_d (fun c => ?_) (fun c => ?_)
  · have hp : p = os.length := by omega
    subst hp
    simp [intsD_len]
    refine ⟨sizeLine_big (by omega), sizeLine_le (by decide), os.length, Nat.le_refl _, [], ?_, by simp; omega⟩
    simp [intsD]
  · have hp : p < os.length := by omega
    have hix : ixN os.length (p : Int) = some p := by
      have := ixN_at (n := os.length) (i := (p : Int)) (by omega) (by omega)
      simpa using this
    simp [intsD_len, hix]
    refine ⟨sizeLine_le (by decide), p, by omega, os.drop (p + 1), ?_, by simp; omega⟩
    rw [List.set_eq_take_append_cons_drop, if_pos (by rw [intsD_len]; exact hp)]
    unfold intsD
    rw [List.map_take, List.map_drop]
    simp
theorem five_of {j : Int} (h0 : 0 ≤ j) (h1 : j < 5) (z : Int) (hz : 256 ≤ z) : ∃ v : Mi.D, atI [PyData.int 256, .int (-1), .bool true, .none, .int z] j = some v ∧ BadOc v := by
  obtain ⟨n, rfl⟩ : ∃ n : Nat, j = n := ⟨j.toNat, by omega⟩
  have hn : n < 5 := by omega
  rcases n with _ | _ | _ | _ | _ | n
  · exact ⟨.int 256, rfl, rfl, trivial⟩
  · exact ⟨.int (-1), rfl, rfl, trivial⟩
  · exact ⟨.bool true, rfl, rfl, trivial⟩
  · exact ⟨.none, rfl, rfl, trivial⟩
  · refine ⟨.int z, rfl, ?_, trivial⟩
    show (if 0 ≤ z ∧ z < (256 : Nat) then some z.toNat else none) = none
    rw [if_neg (by omega)]
  · omega
theorem bounds_sp (cs : List Addr) (s : Sto) (k : Int) (ws : List Mi.D) (os : List Nat) (h0 : 3 ≤ ws.length) (h1 : ws.length ≤ 64) (ho : ∀ a ∈ os, a < 256) (hl : os.length ≤ 24) :
    Fn (m__law_bounds_hold cs) [.tok, .d (bookD (.int k) ws), .d (.int (ws.length : Nat)), .d (.list (intsD os))] s (fun r _ => r = .sh (.bool true)) fun _ _ => False := by
  unfold m__law_bounds_hold
  with_reducible refine Fn_of ?_
  unfold b__law_bounds_hold
  generalize hB : bookD (.int k) ws = B
  have hb1 : ((ws.length : Nat) : Int) - 1 = ((ws.length - 1 : Nat) : Int) := by omega
  simp
  refine wTake (by decide) (by decide) fun a s1 a0 a1 => ?_
  simp
  obtain ⟨an, rfl⟩ : ∃ an : Nat, a = an := ⟨a.toNat, by omega⟩
  have hL : ∀ l25 : List Mi.D, l25 = intsD (List.replicate 25 an) → cutD (intsD os ++ l25) none (some 25) = intsD ((os ++ List.replicate 25 an).take 25) := fun l25 e => by
    subst e
    rw [← intsD_app, show (25 : Int) = ((25 : Nat) : Int) from rfl, cut_to2 (by rw [intsD_len]; simp)]
    unfold intsD
    rw [List.map_take]
  refine ⟨sizeLine_le (by decide), repOk_of (by decide) (by decide) (by simp), by rw [intsD_len]; exact sizeLine_le (by omega), ?_⟩
  rw [hL]
  rotate_left
  · rfl
  have hlo : ∀ c ∈ (os ++ List.replicate 25 an).take 25, c < 256 := fun c hc => by
    rcases List.mem_append.mp (List.mem_of_mem_take hc) with h | h
    · exact ho c h
    · rw [(List.mem_replicate.mp h).2]; omega
  have hll : ((os ++ List.replicate 25 an).take 25).length = 25 := by simp
  generalize (os ++ List.replicate 25 an).take 25 = lo at *
  refine wCall_lift (law_value_sp _ lo (SeqD.l _)) fun r e => ?_
  subst e
  simp [hb1]
  have hov := octV_lt _ lo rfl hlo
  refine wCall_lift (law_digits_sp (octV lo) (ws.length - 1) (by omega) (by omega) (Nat.lt_of_lt_of_le hov (Nat.pow_le_pow_right (by decide) (by omega)))) fun r e => ?_
  have hdl := dgs_len h0 hlo
  have hdue : intsD (dgs ws.length lo) ++ [.int ((ws.length - 1 : Nat) : Int)] = intsD (dgs ws.length lo ++ [ws.length - 1]) := by rw [intsD_app]; rfl
  rw [e, show digs (ws.length - 1) (octV lo) = dgs ws.length lo from rfl]
  simp [hb1, hdue]
  have hao : Fn m__law_asked_octets [.d (.int (ws.length : Nat)), .d (.list (intsD (dgs ws.length lo ++ [ws.length - 1])))] () (fun r _ => r = .sh (.tuple [.str "toomany", .str "octets", .int 24])) fun _ _ => False := by
    have := asked_rd ws.length (.list (intsD (dgs ws.length lo ++ [ws.length - 1]))) _ h0 h1 (SeqD.l _) (by rw [intsD_len]; simp; omega) (.ends (dgs ws.length lo) (dgs_lt h0 lo))
    rw [read_dgs h0 hlo, if_neg (by omega)] at this
    exact this
  refine ⟨sizeLine_le (by decide), by rw [intsD_len]; exact sizeLine_le (by omega), sizeLine_le (by decide), ?_⟩
  refine wCall_lift hao fun r e => ?_
  subst e
  have hmany : ∀ (w : String) (n : Int), Fn m__law_same [.d (.tuple [.str "toomany", .str w, .int n]), .d (.tuple [.str "toomany", .str w, .int n])] () (fun r _ => r = .sh (.bool true)) fun _ _ => False := fun w n =>
    same_sp _ ⟨1, by simp, fun x hx => by
      simp at hx
      rcases hx with rfl | rfl | rfl
      · exact strOk_of _
      · exact strOk_of _
      · trivial⟩ (by simp [sz, szs])
  have hone : ∀ (w : String) (n : Int), Fn m__law_same [.d (.tuple [.str w, .int n]), .d (.tuple [.str w, .int n])] () (fun r _ => r = .sh (.bool true)) fun _ _ => False := fun w n =>
    same_sp _ ⟨1, by simp, fun x hx => by
      simp at hx
      rcases hx with rfl | rfl
      · exact strOk_of _
      · trivial⟩ (by simp [sz, szs])
  simp
  refine wCall_lift (hmany _ _) fun r e => ?_
  subst e
  simp
  refine ⟨by unfold powOk CPow; decide, sizeLine_le (by decide), ?_⟩
  refine wTake (by decide) (by decide) fun j s2 j0 j1 => ?_
  simp
  obtain ⟨v, hv, hbad1, hbad2⟩ := five_of j0 j1 1000000000000000000000000000000000000000000000000000000000000 (by decide)
  simp [hv]
  refine wCall_val (bent_list_sp cs s2 os v hl) fun r s3 ⟨p, post, hp, e, hpp⟩ => ?_
  subst e
  have hlt : (os.take p).length = p := by rw [List.length_take]; omega
  have hto : ∀ a ∈ os.take p, a < 256 := fun a ha => ho a (List.mem_of_mem_take ha)
  have hbado := fun kk hk => askd_bad kk hk (.int k) ws ws.length h0 h1 (.list (intsD (os.take p) ++ v :: intsD post)) (os.take p) v (intsD post) (SeqD.l _) hto hbad1 hbad2 (by rw [hlt, intsD_len]; omega)
  rw [hlt] at hbado
  simp
  refine ⟨small_of (by decide) (by decide), ?_⟩
  generalize intsD (os.take p) ++ v :: intsD post = bent at *
  generalize dgs ws.length lo ++ [ws.length - 1] = D5 at *
  refine wLoop_rng (fun i e => ∃ (x9 : Slot) (s : Sto), e = ⟨[.tok, .sh B, .sh (.int (ws.length : Nat)), .sh (.list (intsD os)), .sh (.list (intsD lo)), .sh (.list (intsD D5)), .sh (.tuple [.str "toomany", .str "octets", .int 24]), .sh (.list bent), .sh (.int (p : Nat)), x9, .un], s⟩) ⟨_, _, rfl⟩ ?_ ?_
  · rintro i e hi ⟨x9, s, rfl⟩
    have hk2 : (i : Int) = 0 ∨ (i : Int) = 1 := by omega
    simp
    subst hB
    refine wCall_lift (askd_long i hk2 (.int k) ws ws.length h0 h1 (.list (intsD lo)) (intsD lo) (SeqD.l _) (by rw [intsD_len]; omega)) fun r e => ?_
    subst e
    simp
    refine wCall_lift (hmany _ _) fun r e => ?_
    subst e
    simp
    refine wCall_lift (hbado i hk2) fun r e => ?_
    subst e
    simp
    refine ⟨sizeLine_le (by decide), ?_⟩
    refine wCall_lift (hone _ _) fun r e => ?_
    subst e
    simp
  · rintro e ⟨x9, s, rfl⟩
    have hcut : cutD (ws.map fun w => PyData.tuple [w, .int 0]) none (some 2) = (ws.take 2).map fun w => PyData.tuple [w, .int 0] := by
      rw [show (2 : Int) = ((2 : Nat) : Int) from rfl, cut_to2 (by rw [List.length_map]; omega), List.map_take]
    have hB3 : PyData.tuple [.int k, .tuple [.tuple ((ws.map fun w => PyData.tuple [w, .int 0]).take 2)]] = bookD (.int k) (ws.take 2) := by
      unfold bookD
      rw [List.map_take]
    have hB2 : B = .tuple [.int k, .tuple [.tuple (ws.map fun w => PyData.tuple [w, .int 0])]] := hB.symm
    have hl2 : (ws.take 2).length = 2 := by rw [List.length_take]; omega
    have hfew := askd_few (.int k) (ws.take 2) (.int (ws.length : Nat)) (.list (intsD os)) os (by omega) (SeqD.l _) ho hl
    rw [hl2] at hfew
    have hlong2 := askd_long 1 (.inr rfl) (.int k) (ws.take 2) ws.length h0 h1 (.list (intsD lo)) (intsD lo) (SeqD.l _) (by rw [intsD_len]; omega)
    simp [hB2, hcut]
    rw [hB3]
    refine ⟨sizeLine_le (by decide), sizeLine_le (by decide), ?_⟩
    refine wCall_lift hfew fun r e => ?_
    subst e
    simp
    refine ⟨sizeLine_le (by decide), ?_⟩
    refine wCall_lift (hone _ _) fun r e => ?_
    subst e
    simp
    refine wCall_lift hlong2 fun r e => ?_
    subst e
    simp
    refine wCall_lift (hmany _ _) fun r e => ?_
    subst e
    simp
    refine wTake (by decide) (by decide) fun t s5 t0 t1 => ?_
    simp
    refine wIf_d (fun c => ?_) (fun c => ?_)
    · simp
    · have g1 : Fn m__law_asked_octets [.d (.int (ws.length : Nat)), .d (.list (List.replicate 601 (.int (ws.length : Nat))))] () (fun r _ => r = .sh (.tuple [.str "toomany", .str "digits", .int 600])) fun _ _ => False :=
        asked_long ws.length _ _ h0 h1 (SeqD.l _) (by rw [List.length_replicate]; decide)
      have g2 : Fn m__law_asked_octets [.d (.int (ws.length : Nat)), .d (.list (List.replicate 599 (.int 1) ++ [.int (ws.length : Nat)]))] () (fun r _ => r = .sh (.tuple [.str "baddigit", .int 599])) fun _ _ => False := by
        have e1 : List.replicate 599 (PyData.int 1) = intsD (List.replicate 599 1) := by
          unfold intsD
          rw [List.map_replicate]
          rfl
        have hn : natOf ws.length (.int (ws.length : Nat)) = none := by
          show (if 0 ≤ ((ws.length : Nat) : Int) ∧ ((ws.length : Nat) : Int) < (ws.length : Nat) then some _ else none) = none
          rw [if_neg (by omega)]
        have := asked_rd ws.length (.list (intsD (List.replicate 599 1) ++ [.int (ws.length : Nat)])) _ h0 h1 (SeqD.l _) (by rw [List.length_append, intsD_len, List.length_replicate]; simp) (.bad (List.replicate 599 1) (.int (ws.length : Nat)) [] (fun a ha => by rw [(List.mem_replicate.mp ha).2]; omega) hn trivial)
        rw [e1]
        rw [List.length_replicate] at this
        exact this
      simp [-List.reduceReplicate]
      refine ⟨sizeLine_le (by decide), repOk_of (by decide) (by decide) (by simp), ?_⟩
      refine wCall_lift g1 fun r e => ?_
      subst e
      simp [-List.reduceReplicate]
      refine ⟨sizeLine_le (by decide), ?_⟩
      refine wCall_lift (hmany _ _) fun r e => ?_
      subst e
      simp [-List.reduceReplicate]
      refine ⟨sizeLine_le (by decide), repOk_of (by decide) (by decide) (by simp), sizeLine_le (by decide), sizeLine_le (by decide), ?_⟩
      refine wCall_lift g2 fun r e => ?_
      subst e
      simp
      refine ⟨sizeLine_le (by decide), ?_⟩
      refine wCall_lift (hone _ _) fun r e => ?_
      subst e
      simp
end Mi
set_option maxHeartbeats 4000000
namespace Mi
open PySem PySem.Spec PyProof.Rows L2
theorem number_sp (cs : List Addr) (lo hi : Int) (s : Sto) (h : lo ≤ hi) (h1 : hi - lo < 2 ^ 60) : Fn (m__law_number cs) [.tok, .d (.int lo), .d (.int hi)] s (fun r _ => RI lo (hi + 1) r) fun _ _ => False := by
  unfold m__law_number
  with_reducible refine Fn_of ?_
  unfold b__law_number
  simp
  refine wIf_d (fun c => ?_) (fun c => ?_)
  · simp
    exact ⟨lo, rfl, by omega, by omega⟩
  · simp
    with_reducible refine wTake (by decide) (by decide) fun j s1 j0 j1 => ?_
    simp
    refine wIf_d (fun c1 => ?_) (fun c1 => ?_)
    · simp
      exact ⟨lo, rfl, by omega, by omega⟩
    · simp
      refine wIf_d (fun c2 => ?_) (fun c2 => ?_)
      · simp
        exact ⟨hi, rfl, by omega, by omega⟩
      · simp
        with_reducible refine wTake (by omega) (by omega) fun j s1 j0 j1 => ?_
        simp
        exact ⟨_, rfl, by omega, by omega⟩
end Mi
set_option maxHeartbeats 4000000
namespace Mi
open PySem PySem.Spec PyProof.Rows L2
theorem size_sp (cs : List Addr) (lo us hi : Int) (s : Sto) (h : lo ≤ us) (h2 : us ≤ hi) (h1 : hi - lo < 2 ^ 60) : Fn (m__law_size cs) [.tok, .d (.int lo), .d (.int us), .d (.int hi)] s (fun r _ => RI lo (hi + 1) r) fun _ _ => False := by
  unfold m__law_size
  with_reducible refine Fn_of ?_
  unfold b__law_size
  simp
  with_reducible refine wTake (by decide) (by decide) fun j s1 j0 j1 => ?_
  simp
  refine wIf_d (fun c => ?_) (fun c => ?_)
  · simp
    exact ⟨lo, rfl, by omega, by omega⟩
  simp
  refine wIf_d (fun c => ?_) (fun c => ?_)
  · simp
    exact ⟨us, rfl, by omega, by omega⟩
  simp
  refine wIf_d (fun c => ?_) (fun c => ?_)
  · simp
    exact ⟨hi, rfl, by omega, by omega⟩
  simp
  refine wIf_d (fun c => ?_) (fun c => ?_)
  · simp
    with_reducible refine wTake (by omega) (by omega) fun j s1 j0 j1 => ?_
    simp
    exact ⟨_, rfl, by omega, by omega⟩
  simp
  with_reducible refine wTake (by omega) (by omega) fun j s1 j0 j1 => ?_
  simp
  exact ⟨_, rfl, by omega, by omega⟩
end Mi
set_option maxHeartbeats 4000000
namespace Mi
open PySem PySem.Spec PyProof.Rows L2
theorem power_sp (k : Int) (h0 : 0 ≤ k) (h1 : k ≤ 60) : Fn m__law_power [.d (.int 2), .d (.int k)] () (fun r _ => r = .sh (.int (2 ^ k.toNat))) fun _ _ => False := by
  unfold m__law_power
  with_reducible refine Fn_of ?_
  unfold b__law_power
  simp
  refine ⟨small_of (by omega) (by omega), ?_⟩
  refine wLoop_rng (fun i e => ∃ (x : Slot), e = ⟨[.sh (.int 2), .sh (.int k), .sh (.int (2 ^ i)), x], ()⟩) ⟨_, rfl⟩ ?_ ?_
  · rintro i e hi ⟨x, rfl⟩
    simp
    exact ⟨mulOk_small (by decide) (by decide), by rw [Int.pow_succ]⟩
  · rintro e ⟨x, rfl⟩
    simp
end Mi
set_option maxHeartbeats 4000000
namespace Mi
open PySem PySem.Spec PyProof.Rows L2
theorem octets_sp (cs : List Addr) (s : Sto) : Fn (m__law_octets cs) [.tok] s (fun r _ => ∃ os : List Nat, r.d = .list (intsD os) ∧ (∀ a ∈ os, a < 256) ∧ os.length ≤ 24) fun _ _ => False := by
  unfold m__law_octets
  with_reducible refine Fn_of ?_
  unfold b__law_octets
  simp
  refine wCall_val (size_sp cs 0 3 24 s (by decide) (by decide) (by decide)) fun r s1 ⟨k, e, k0, k1⟩ => ?_
  subst e
  obtain ⟨m, rfl⟩ : ∃ m : Nat, k = m := ⟨k.toNat, by omega⟩
  simp
  refine wCall_val (number_sp cs 0 255 s1 (by decide) (by decide)) fun r s2 ⟨o, e, o0, o1⟩ => ?_
  subst e
  obtain ⟨c, rfl⟩ : ∃ c : Nat, o = c := ⟨o.toNat, by omega⟩
  simp
  refine wTake (by decide) (by decide) fun t s3 t0 t1 => ?_
  simp
  refine wIf_d (fun h => ?_) (fun h => ?_)
  · simp
    refine ⟨sizeLine_le (by decide), repOk_of (by omega) (by omega) (by simp), List.replicate m c, ?_, fun a ha => by rw [(List.mem_replicate.mp ha).2]; omega, by simp; omega⟩
    unfold intsD
    rw [List.map_replicate]
  · simp
    refine ⟨small_of (by omega) (by omega), ?_⟩
    refine wLcs_of (fun _ y => ∃ a : Nat, y = .int (a : Nat) ∧ a < 256) (sizeLine_le (by rw [rngD_len]; omega)) (fun d hd s4 => ?_) fun ys s4 hr => ?_
    · simp [wipeE]
      refine wCall_val (number_sp cs 0 255 s4 (by decide) (by decide)) fun r s5 ⟨o, e, o0, o1⟩ => ?_
      subst e
      simp [wipeE]
      exact ⟨o.toNat, by omega, by omega⟩
    · have hl := hr.len
      rw [rngD_len] at hl
      have main : ∀ {ds ys : List Mi.D}, RelL (fun _ y => ∃ a : Nat, y = .int (a : Nat) ∧ a < 256) ds ys → ∃ os : List Nat, ys = intsD os ∧ ∀ a ∈ os, a < 256 := fun h => by
        induction h with
        | nil => exact ⟨[], rfl, fun _ h => nomatch h⟩
        | cons h _ ih =>
          obtain ⟨a, rfl, ha⟩ := h
          obtain ⟨os, rfl, ho⟩ := ih
          exact ⟨a :: os, rfl, fun c hc => by rcases List.mem_cons.mp hc with rfl | hc; exact ha; exact ho c hc⟩
      obtain ⟨os, rfl, ho⟩ := main hr
      rw [intsD_len] at hl
      simp
      exact ⟨os, rfl, ho, by omega⟩
theorem book_sp (n : Mi.D) (ws : List Mi.D) (h : ws.length ≤ 1000) : Fn m__law_book [.d n, .d (.list ws)] () (fun r _ => r = .sh (bookD n ws)) fun _ _ => False := by
  unfold m__law_book
  with_reducible refine Fn_of ?_
  unfold b__law_book
  simp
  refine wLcs_of (fun d y => y = .tuple [d, .int 0]) (sizeLine_le (by omega)) (fun d hd s3 => ?_) fun ys s3 hr => ?_
  · simp [wipeE]
    exact sizeLine_le (by decide)
  · have := hr.eq
    subst this
    simp [bookD]
    exact ⟨sizeLine_le (by decide), sizeLine_le (by decide)⟩
def ILw (b : Nat) (i : Nat) (e : En Sto) : Prop := ∃ (n : Nat) (x4 : Slot) (s : Sto), e = ⟨[.un, .tok, .sh (.int (b : Nat)), .sh (.int (n : Nat)), x4, .un, .un, .un, .un], s⟩ ∧ 3 ≤ n ∧ n ≤ 3 + i ∧ ((b : Int) ≤ 2 ^ n - 1 ∨ n = 3 + i)
theorem law_pure (cs : List Addr) (s : Sto) : ∃ e, b_law cs ⟨.un :: .tok :: List.replicate 7 .un, s⟩ = .ok (.ret (.sh (.bool true))) e := by
  suffices h : wp (b_law cs) ⟨.un :: .tok :: List.replicate 7 .un, s⟩ (fun fl _ => fl = .ret (.sh (.bool true))) (fun _ _ => False) by
    unfold wp at h
    cases q : b_law cs ⟨.un :: .tok :: List.replicate 7 .un, s⟩ with
    | ok fl e => rw [q] at h; subst h; exact ⟨e, rfl⟩
    | err x e => rw [q] at h; exact h.elim
    | stuck => rw [q] at h; exact h.elim
  have rest : ∀ (b : Nat) (s : Sto), 3 ≤ b → b ≤ 64 → wp (sq (mSet 3 (rt (.int 3)))
      (sq (mFor (mR1 (mCons (rt (.int 4)) mNil)) (gN 4)
      (mIf (asB (m2 dLt (m2 dSub (mCall 2 (lift m__law_power) (mCons (rt (.int 2)) (mCons (mV 3) mNil))) (rt (.int 1))) (mV 2)))
      (mSet 3 (m2 dAdd (mV 3) (rt (.int 1))))
      nop))
      (sq (mSetF 5 (mLc [8] (mI (mCall 3 (m__law_unlike cs) (mTok 1 (mCons (m2 dSub (mCall 2 (lift m__law_power) (mCons (rt (.int 2)) (mCons (mV 3) mNil))) (rt (.int 1))) (mCons (mV 2) mNil))))) (gN 8) tYesM (mCall 2 (lift m__law_mask_word) (mCons (m2 dAdd (mV 8) (rt (.int 1))) (mCons (mV 3) mNil)))))
      (sq (mSet 6 (mCall 2 (lift m__law_book) (mCons (mV 3) (mCons (mV 5) mNil))))
      (sq (mSet 7 (mCall 1 (m__law_octets cs) (mTok 1 mNil)))
      (sq (mIf (mOr (mNot (asB (mCall 3 (lift m__law_is_spelled) (mCons (mV 6) (mCons (mV 2) (mCons (mV 7) mNil)))))) (mNot (asB (mCall 3 (lift m__law_is_ranked) (mCons (mV 6) (mCons (mV 2) (mCons (mV 7) mNil)))))))
      (mRet (rt (.bool false)))
      nop)
      (sq (mIf (mNot (asB (mCall 3 (m__law_bent_is_read cs) (mTok 1 (mCons (mV 2) (mCons (mV 7) mNil))))))
      (mRet (rt (.bool false)))
      nop)
      (mRet (mCall 4 (m__law_bounds_hold cs) (mTok 1 (mCons (mV 6) (mCons (mV 2) (mCons (mV 7) mNil)))))))))))))
      ⟨[.un, .tok, .sh (.int (b : Nat)), .un, .un, .un, .un, .un, .un], s⟩ (fun fl _ => fl = .ret (.sh (.bool true))) (fun _ _ => False) := fun b s b0 b1 => by
    simp
    refine ⟨small_of (by decide) (by decide), ?_⟩
    refine wLoop_rng (ILw b) ⟨3, _, _, rfl, by omega, by omega, .inr rfl⟩ ?_ ?_
    · rintro i e hi ⟨n, x4, s, rfl, n0, n1, n2⟩
      simp
      refine wCall_lift (power_sp (n : Nat) (by omega) (by omega)) fun r e => ?_
      subst e
      simp
      refine wIf_d (fun c => ?_) (fun c => ?_)
      · simp
        refine ⟨n + 1, _, _, rfl, by omega, by omega, .inr ?_⟩
        rcases n2 with h | h
        · omega
        · omega
      · simp
        exact ⟨n, _, _, rfl, n0, by omega, .inl (by omega)⟩
    · rintro e ⟨n, x4, s, rfl, n0, n1, n2⟩
      have hb : (b : Int) ≤ 2 ^ n - 1 := by
        rcases n2 with h | h
        · exact h
        · have : n = 7 := by omega
          subst this
          have e : (2 : Int) ^ 7 = 128 := by decide
          omega
      have hp := pow_le (a := n) (b := 7) (by omega)
      have hp7 : (2 : Int) ^ 7 = 128 := by decide
      simp
      refine wCall_lift (power_sp (n : Nat) (by omega) (by omega)) fun r e => ?_
      subst e
      simp
      generalize (2 : Int) ^ n = pw at *
      refine wCall_val (unlike_sp cs s (pw - 1) (b : Nat) (by omega) (by omega) (by omega)) fun r s1 ⟨l, e, hl, hnd, hlt⟩ => ?_
      subst e
      have hlb : l.length = b := by rw [hl]; omega
      simp
      refine wLcs_of (fun _ w => WordOk w) (sizeLine_le (by rw [intsD_len]; omega)) (fun d hd s2 => ?_) fun ws s2 hr => ?_
      · unfold intsD at hd
        obtain ⟨a, _, rfl⟩ := List.mem_map.mp hd
        simp [wipeE]
        refine wCall_lift (mask_word2 ((a : Nat) + 1) (n : Nat) (by omega) (by omega)) fun r ⟨w, h, hw⟩ => ?_
        subst h
        simp [wipeE]
        exact hw
      · have hwl : ws.length = b := by have := hr.len; rw [intsD_len] at this; omega
        have hww : ∀ w ∈ ws, WordOk w := fun w hw => by obtain ⟨d, _, h⟩ := hr.all w hw; exact h
        subst hwl
        simp [resE, wipeE, keepS]
        refine wCall_lift (book_sp (.int (n : Nat)) ws (by omega)) fun r e => ?_
        subst e
        simp
        refine wCall_val (octets_sp cs s2) fun r s3 ⟨os, e, ho, hol⟩ => ?_
        rw [e]
        simp
        refine wCall_lift (spelled_sp (.int (n : Nat)) ws os b0 b1 hww ho hol) fun r e => ?_
        subst e
        simp
        refine wCall_lift (ranked_sp (n : Nat) ws os b0 b1 hww ho hol) fun r e => ?_
        subst e
        simp
        refine wCall_val (bent_sp cs s3 ws.length os b0 b1 ho hol) fun r s4 e => ?_
        subst e
        simp
        refine wCall_val (bounds_sp cs s4 (n : Nat) ws os b0 b1 ho hol) fun r s5 e => ?_
        subst e
        simp
  unfold b_law
  simp
  refine wTake (by decide) (by decide) fun a s1 a0 a1 => ?_
  simp
  refine wTake (by decide) (by decide) fun c s2 c0 c1 => ?_
  have r2 : ∀ (b : Int) (s : Sto), 3 ≤ b → b ≤ 64 → _ := fun b s h0 h1 => by
    have := rest b.toNat s (by omega) (by omega)
    rw [show ((b.toNat : Nat) : Int) = b by omega] at this
    exact this
  simp
  refine wIf_d (fun h => ?_) (fun h => ?_)
  · simp
    refine wTake (by decide) (by decide) fun d s3 d0 d1 => ?_
    simp
    have q := r2 (if 3 + d < 64 then 3 + d else 64) s3 (by split <;> omega) (by split <;> omega)
    simp at q
    with_reducible exact q
  · have q := r2 (3 + a) s2 (by omega) (by omega)
    simp at q
    simp
    with_reducible exact q
end Mi
set_option maxHeartbeats 4000000
namespace Mi
open PySem PySem.Spec PyProof.Rows L2
theorem sc_same_parts : FnScope ["value", "part"] ["value"] (defScope s_same_parts) := ⟨rfl, rfl, rfl, by decide +kernel, rfl, by decide +kernel, by decide +kernel⟩
theorem sc_is_whole : FnScope ["value"] ["value"] (defScope s_is_whole) := ⟨rfl, rfl, rfl, by decide +kernel, rfl, by decide +kernel, by decide +kernel⟩
theorem sc_is_index : FnScope ["value", "many"] ["value", "many"] (defScope s_is_index) := ⟨rfl, rfl, rfl, by decide +kernel, rfl, by decide +kernel, by decide +kernel⟩
theorem sc_copied : FnScope ["value", "part"] ["value"] (defScope s_copied) := ⟨rfl, rfl, rfl, by decide +kernel, rfl, by decide +kernel, by decide +kernel⟩
theorem sc_check_state : FnScope ["plan", "state"] ["plan", "state"] (defScope s_check_state) := ⟨rfl, rfl, rfl, by decide +kernel, rfl, by decide +kernel, by decide +kernel⟩
theorem sc_is_book : FnScope ["plan"] ["plan"] (defScope s_is_book) := ⟨rfl, rfl, rfl, by decide +kernel, rfl, by decide +kernel, by decide +kernel⟩
theorem sc_words_of : FnScope ["plan", "state", "word", "spare"] ["plan", "state"] (defScope s_words_of) := ⟨rfl, rfl, rfl, by decide +kernel, rfl, by decide +kernel, by decide +kernel⟩
theorem sc_book_words : FnScope ["book"] ["book"] (defScope s_book_words) := ⟨rfl, rfl, rfl, by decide +kernel, rfl, by decide +kernel, by decide +kernel⟩
theorem sc_is_below : FnScope ["value", "end"] ["value", "end"] (defScope s_is_below) := ⟨rfl, rfl, rfl, by decide +kernel, rfl, by decide +kernel, by decide +kernel⟩
theorem sc_check_book : FnScope ["book"] ["book"] (defScope s_check_book) := ⟨rfl, rfl, rfl, by decide +kernel, rfl, by decide +kernel, by decide +kernel⟩
theorem sc_check_base : FnScope ["base"] ["base"] (defScope s_check_base) := ⟨rfl, rfl, rfl, by decide +kernel, rfl, by decide +kernel, by decide +kernel⟩
theorem sc_check_octets : FnScope ["octets", "place", "octet"] ["octets"] (defScope s_check_octets) := ⟨rfl, rfl, rfl, by decide +kernel, rfl, by decide +kernel, by decide +kernel⟩
theorem sc_end_of : FnScope ["base", "digits", "place", "digit"] ["base", "digits"] (defScope s_end_of) := ⟨rfl, rfl, rfl, by decide +kernel, rfl, by decide +kernel, by decide +kernel⟩
theorem sc_digits_of : FnScope ["base", "octets", "value", "octet", "digits"] ["base", "octets"] (defScope s_digits_of) := ⟨rfl, rfl, rfl, by decide +kernel, rfl, by decide +kernel, by decide +kernel⟩
theorem sc_octets_of : FnScope ["base", "digits", "end", "value", "place", "octets"] ["base", "digits"] (defScope s_octets_of) := ⟨rfl, rfl, rfl, by decide +kernel, rfl, by decide +kernel, by decide +kernel⟩
theorem sc_say_octets : FnScope ["book", "octets", "many"] ["book", "octets"] (defScope s_say_octets) := ⟨rfl, rfl, rfl, by decide +kernel, rfl, by decide +kernel, by decide +kernel⟩
theorem sc_walk : FnScope ["plan", "saying", "states", "at", "steps", "place", "number", "word", "goal"] ["plan", "saying"] (defScope s_walk) := ⟨rfl, rfl, rfl, by decide +kernel, rfl, by decide +kernel, by decide +kernel⟩
theorem sc_copy_of : FnScope ["value", "part"] ["value"] (defScope s_copy_of) := ⟨rfl, rfl, rfl, by decide +kernel, rfl, by decide +kernel, by decide +kernel⟩
theorem sc_is_from_to : FnScope ["value", "least", "most"] ["value", "least", "most"] (defScope s_is_from_to) := ⟨rfl, rfl, rfl, by decide +kernel, rfl, by decide +kernel, by decide +kernel⟩
theorem sc_tails : FnScope ["plan", "words", "states", "rows", "length", "shorter", "pairs", "spare", "goal"] ["plan", "words"] (defScope s_tails) := ⟨rfl, rfl, rfl, by decide +kernel, rfl, by decide +kernel, by decide +kernel⟩
theorem sc_saying_at : FnScope ["plan", "words", "number", "rows", "saying", "state", "left", "place", "shorter", "pairs", "choice"] ["plan", "words", "number"] (defScope s_saying_at) := ⟨rfl, rfl, rfl, by decide +kernel, rfl, by decide +kernel, by decide +kernel⟩
theorem sc_saying_rank : FnScope ["plan", "saying", "steps", "words", "rows", "rank", "place", "shorter", "pairs", "earlier"] ["plan", "saying"] (defScope s_saying_rank) := ⟨rfl, rfl, rfl, by decide +kernel, rfl, by decide +kernel, by decide +kernel⟩
theorem sc_book_made : FnScope ["n", "words", "word"] ["n", "words"] (defScope s_book_made) := ⟨rfl, rfl, rfl, by decide +kernel, rfl, by decide +kernel, by decide +kernel⟩
theorem sc_part : FnScope ["book", "numbers", "words", "places", "place", "number"] ["book", "numbers"] (defScope s_part) := ⟨rfl, rfl, rfl, by decide +kernel, rfl, by decide +kernel, by decide +kernel⟩
theorem sc__law_mixed : FnScope ["number", "step", "one", "two", "three"] ["number", "step"] (defScope s__law_mixed) := ⟨rfl, rfl, rfl, by decide +kernel, rfl, by decide +kernel, by decide +kernel⟩
theorem sc__law_store : FnScope ["script", "cells", "seed", "cell"] ["script"] (defScope s__law_store) := ⟨rfl, rfl, rfl, by decide +kernel, rfl, by decide +kernel, by decide +kernel⟩
theorem sc__law_take : FnScope ["store", "count", "cells", "at", "cell", "found"] ["store", "count"] (defScope s__law_take) := ⟨rfl, rfl, rfl, by decide +kernel, rfl, by decide +kernel, by decide +kernel⟩
theorem sc__law_number : FnScope ["store", "least", "high", "share"] ["store", "least", "high"] (defScope s__law_number) := ⟨rfl, rfl, rfl, by decide +kernel, rfl, by decide +kernel, by decide +kernel⟩
theorem sc__law_size : FnScope ["store", "least", "usual", "high", "share"] ["store", "least", "usual", "high"] (defScope s__law_size) := ⟨rfl, rfl, rfl, by decide +kernel, rfl, by decide +kernel, by decide +kernel⟩
theorem sc__law_unlike : FnScope ["store", "high", "count", "found", "step", "number", "move"] ["store", "high", "count"] (defScope s__law_unlike) := ⟨rfl, rfl, rfl, by decide +kernel, rfl, by decide +kernel, by decide +kernel⟩
theorem sc__law_power : FnScope ["base", "count", "number", "step"] ["base", "count"] (defScope s__law_power) := ⟨rfl, rfl, rfl, by decide +kernel, rfl, by decide +kernel, by decide +kernel⟩
theorem sc__law_kind : FnScope ["value"] ["value"] (defScope s__law_kind) := ⟨rfl, rfl, rfl, by decide +kernel, rfl, by decide +kernel, by decide +kernel⟩
theorem sc__law_same : FnScope ["left", "right", "pairs", "step", "one", "two", "kind", "at"] ["left", "right"] (defScope s__law_same) := ⟨rfl, rfl, rfl, by decide +kernel, rfl, by decide +kernel, by decide +kernel⟩
theorem sc__law_is_whole : FnScope ["value"] ["value"] (defScope s__law_is_whole) := ⟨rfl, rfl, rfl, by decide +kernel, rfl, by decide +kernel, by decide +kernel⟩
theorem sc__law_mask_word : FnScope ["mask", "n", "wires", "rest", "wire"] ["mask", "n"] (defScope s__law_mask_word) := ⟨rfl, rfl, rfl, by decide +kernel, rfl, by decide +kernel, by decide +kernel⟩
theorem sc__law_bent_list : FnScope ["store", "rows", "value", "cap", "found", "place"] ["store", "rows", "value", "cap"] (defScope s__law_bent_list) := ⟨rfl, rfl, rfl, by decide +kernel, rfl, by decide +kernel, by decide +kernel⟩
theorem sc__law_book : FnScope ["n", "words", "word"] ["n", "words"] (defScope s__law_book) := ⟨rfl, rfl, rfl, by decide +kernel, rfl, by decide +kernel, by decide +kernel⟩
theorem sc__law_octets : FnScope ["store", "size", "octet", "step"] ["store"] (defScope s__law_octets) := ⟨rfl, rfl, rfl, by decide +kernel, rfl, by decide +kernel, by decide +kernel⟩
theorem sc__law_digits : FnScope ["value", "radix", "found", "rest", "step"] ["value", "radix"] (defScope s__law_digits) := ⟨rfl, rfl, rfl, by decide +kernel, rfl, by decide +kernel, by decide +kernel⟩
theorem sc__law_value : FnScope ["octets", "value", "octet"] ["octets"] (defScope s__law_value) := ⟨rfl, rfl, rfl, by decide +kernel, rfl, by decide +kernel, by decide +kernel⟩
theorem sc__law_read : FnScope ["base", "digits", "at", "end", "value", "row"] ["base", "digits"] (defScope s__law_read) := ⟨rfl, rfl, rfl, by decide +kernel, rfl, by decide +kernel, by decide +kernel⟩
theorem sc__law_asked_octets : FnScope ["base", "digits", "e"] ["base", "digits"] (defScope s__law_asked_octets) := ⟨rfl, rfl, rfl, by decide +kernel, rfl, by decide +kernel, by decide +kernel⟩
theorem sc__law_asked_digits : FnScope ["kind", "book", "base", "octets", "e"] ["kind", "book", "base", "octets"] (defScope s__law_asked_digits) := ⟨rfl, rfl, rfl, by decide +kernel, rfl, by decide +kernel, by decide +kernel⟩
theorem sc__law_is_spelled : FnScope ["book", "base", "octets", "due", "rows", "digits", "steps", "kind", "digit"] ["book", "base", "octets"] (defScope s__law_is_spelled) := ⟨rfl, rfl, rfl, by decide +kernel, rfl, by decide +kernel, by decide +kernel⟩
theorem sc__law_is_ranked : FnScope ["book", "base", "octets", "kept", "step", "lesser", "digits", "saying", "value"] ["book", "base", "octets"] (defScope s__law_is_ranked) := ⟨rfl, rfl, rfl, by decide +kernel, rfl, by decide +kernel, by decide +kernel⟩
theorem sc__law_bent_is_read : FnScope ["store", "base", "octets", "digits", "turns", "more", "rows", "at", "change", "step"] ["store", "base", "octets"] (defScope s__law_bent_is_read) := ⟨rfl, rfl, rfl, by decide +kernel, rfl, by decide +kernel, by decide +kernel⟩
theorem sc__law_bounds_hold : FnScope ["store", "book", "base", "octets", "long", "digits", "due", "bent", "place", "kind", "pair"] ["store", "book", "base", "octets"] (defScope s__law_bounds_hold) := ⟨rfl, rfl, rfl, by decide +kernel, rfl, by decide +kernel, by decide +kernel⟩
theorem sc_law : FnScope ["script", "store", "base", "n", "step", "words", "book", "octets", "number"] ["script"] (defScope s_law) := ⟨rfl, rfl, rfl, by decide +kernel, rfl, by decide +kernel, by decide +kernel⟩
theorem sc_i_BadSize : FnScope ["self", "size"] ["self", "size"] (defScope st_i_BadSize) := ⟨rfl, rfl, rfl, by decide +kernel, rfl, by decide +kernel, by decide +kernel⟩
theorem sc_i_NoWord : FnScope ["self", "at"] ["self", "at"] (defScope st_i_NoWord) := ⟨rfl, rfl, rfl, by decide +kernel, rfl, by decide +kernel, by decide +kernel⟩
theorem sc_i_NotBook : FnScope ["self", "states"] ["self", "states"] (defScope st_i_NotBook) := ⟨rfl, rfl, rfl, by decide +kernel, rfl, by decide +kernel, by decide +kernel⟩
theorem sc_i_BadState : FnScope ["self", "value"] ["self", "value"] (defScope st_i_BadState) := ⟨rfl, rfl, rfl, by decide +kernel, rfl, by decide +kernel, by decide +kernel⟩
theorem sc_i_BadNumber : FnScope ["self", "place"] ["self", "place"] (defScope st_i_BadNumber) := ⟨rfl, rfl, rfl, by decide +kernel, rfl, by decide +kernel, by decide +kernel⟩
theorem sc_i_NoNumber : FnScope ["self", "number"] ["self", "number"] (defScope st_i_NoNumber) := ⟨rfl, rfl, rfl, by decide +kernel, rfl, by decide +kernel, by decide +kernel⟩
theorem sc_i_FewWords : FnScope ["self", "found"] ["self", "found"] (defScope st_i_FewWords) := ⟨rfl, rfl, rfl, by decide +kernel, rfl, by decide +kernel, by decide +kernel⟩
theorem sc_i_BadOctet : FnScope ["self", "place"] ["self", "place"] (defScope st_i_BadOctet) := ⟨rfl, rfl, rfl, by decide +kernel, rfl, by decide +kernel, by decide +kernel⟩
theorem sc_i_BadDigit : FnScope ["self", "place"] ["self", "place"] (defScope st_i_BadDigit) := ⟨rfl, rfl, rfl, by decide +kernel, rfl, by decide +kernel, by decide +kernel⟩
theorem sc_i_Behind : FnScope ["self", "place"] ["self", "place"] (defScope st_i_Behind) := ⟨rfl, rfl, rfl, by decide +kernel, rfl, by decide +kernel, by decide +kernel⟩
theorem sc_i_TooMany : FnScope ["self", "what", "most"] ["self", "what", "most"] (defScope st_i_TooMany) := ⟨rfl, rfl, rfl, by decide +kernel, rfl, by decide +kernel, by decide +kernel⟩
theorem sc_i_Double : FnScope ["self", "at", "number"] ["self", "at", "number"] (defScope st_i_Double) := ⟨rfl, rfl, rfl, by decide +kernel, rfl, by decide +kernel, by decide +kernel⟩
/-! what the top has written -/
structure Tx (K : PySem.W.Frag) (mg : Str → Option Value) where
  a_same_parts : Addr
  d_same_parts : FuncData
  fu_same_parts : Fun K "same_parts" "same_parts" s_same_parts a_same_parts d_same_parts
  g_same_parts : mg "same_parts" = some (.ref a_same_parts)
  b_same_parts : Binds K d_same_parts ["value"] []
  a_is_whole : Addr
  d_is_whole : FuncData
  fu_is_whole : Fun K "is_whole" "is_whole" s_is_whole a_is_whole d_is_whole
  g_is_whole : mg "is_whole" = some (.ref a_is_whole)
  b_is_whole : Binds K d_is_whole ["value"] []
  a_is_index : Addr
  d_is_index : FuncData
  fu_is_index : Fun K "is_index" "is_index" s_is_index a_is_index d_is_index
  g_is_index : mg "is_index" = some (.ref a_is_index)
  b_is_index : Binds K d_is_index ["value", "many"] []
  a_copied : Addr
  d_copied : FuncData
  fu_copied : Fun K "copied" "copied" s_copied a_copied d_copied
  g_copied : mg "copied" = some (.ref a_copied)
  b_copied : Binds K d_copied ["value"] []
  a_check_state : Addr
  d_check_state : FuncData
  fu_check_state : Fun K "check_state" "check_state" s_check_state a_check_state d_check_state
  g_check_state : mg "check_state" = some (.ref a_check_state)
  b_check_state : Binds K d_check_state ["plan", "state"] []
  a_is_book : Addr
  d_is_book : FuncData
  fu_is_book : Fun K "is_book" "is_book" s_is_book a_is_book d_is_book
  g_is_book : mg "is_book" = some (.ref a_is_book)
  b_is_book : Binds K d_is_book ["plan"] []
  a_words_of : Addr
  d_words_of : FuncData
  fu_words_of : Fun K "words_of" "words_of" s_words_of a_words_of d_words_of
  g_words_of : mg "words_of" = some (.ref a_words_of)
  b_words_of : Binds K d_words_of ["plan", "state"] []
  a_book_words : Addr
  d_book_words : FuncData
  fu_book_words : Fun K "book_words" "book_words" s_book_words a_book_words d_book_words
  g_book_words : mg "book_words" = some (.ref a_book_words)
  b_book_words : Binds K d_book_words ["book"] []
  a_is_below : Addr
  d_is_below : FuncData
  fu_is_below : Fun K "is_below" "is_below" s_is_below a_is_below d_is_below
  g_is_below : mg "is_below" = some (.ref a_is_below)
  b_is_below : Binds K d_is_below ["value", "end"] []
  a_check_book : Addr
  d_check_book : FuncData
  fu_check_book : Fun K "check_book" "check_book" s_check_book a_check_book d_check_book
  g_check_book : mg "check_book" = some (.ref a_check_book)
  b_check_book : Binds K d_check_book ["book"] []
  a_check_base : Addr
  d_check_base : FuncData
  fu_check_base : Fun K "check_base" "check_base" s_check_base a_check_base d_check_base
  g_check_base : mg "check_base" = some (.ref a_check_base)
  b_check_base : Binds K d_check_base ["base"] []
  a_check_octets : Addr
  d_check_octets : FuncData
  fu_check_octets : Fun K "check_octets" "check_octets" s_check_octets a_check_octets d_check_octets
  g_check_octets : mg "check_octets" = some (.ref a_check_octets)
  b_check_octets : Binds K d_check_octets ["octets"] []
  a_end_of : Addr
  d_end_of : FuncData
  fu_end_of : Fun K "end_of" "end_of" s_end_of a_end_of d_end_of
  g_end_of : mg "end_of" = some (.ref a_end_of)
  b_end_of : Binds K d_end_of ["base", "digits"] []
  a_digits_of : Addr
  d_digits_of : FuncData
  fu_digits_of : Fun K "digits_of" "digits_of" s_digits_of a_digits_of d_digits_of
  g_digits_of : mg "digits_of" = some (.ref a_digits_of)
  b_digits_of : Binds K d_digits_of ["base", "octets"] []
  a_octets_of : Addr
  d_octets_of : FuncData
  fu_octets_of : Fun K "octets_of" "octets_of" s_octets_of a_octets_of d_octets_of
  g_octets_of : mg "octets_of" = some (.ref a_octets_of)
  b_octets_of : Binds K d_octets_of ["base", "digits"] []
  a_say_octets : Addr
  d_say_octets : FuncData
  fu_say_octets : Fun K "say_octets" "say_octets" s_say_octets a_say_octets d_say_octets
  g_say_octets : mg "say_octets" = some (.ref a_say_octets)
  b_say_octets : Binds K d_say_octets ["book", "octets"] []
  a_walk : Addr
  d_walk : FuncData
  fu_walk : Fun K "walk" "walk" s_walk a_walk d_walk
  g_walk : mg "walk" = some (.ref a_walk)
  b_walk : Binds K d_walk ["plan", "saying"] []
  a_copy_of : Addr
  d_copy_of : FuncData
  fu_copy_of : Fun K "copy_of" "copy_of" s_copy_of a_copy_of d_copy_of
  g_copy_of : mg "copy_of" = some (.ref a_copy_of)
  b_copy_of : Binds K d_copy_of ["value"] []
  a_is_from_to : Addr
  d_is_from_to : FuncData
  fu_is_from_to : Fun K "is_from_to" "is_from_to" s_is_from_to a_is_from_to d_is_from_to
  g_is_from_to : mg "is_from_to" = some (.ref a_is_from_to)
  b_is_from_to : Binds K d_is_from_to ["value", "least", "most"] []
  a_tails : Addr
  d_tails : FuncData
  fu_tails : Fun K "tails" "tails" s_tails a_tails d_tails
  g_tails : mg "tails" = some (.ref a_tails)
  b_tails : Binds K d_tails ["plan", "words"] []
  a_saying_at : Addr
  d_saying_at : FuncData
  fu_saying_at : Fun K "saying_at" "saying_at" s_saying_at a_saying_at d_saying_at
  g_saying_at : mg "saying_at" = some (.ref a_saying_at)
  b_saying_at : Binds K d_saying_at ["plan", "words", "number"] []
  a_saying_rank : Addr
  d_saying_rank : FuncData
  fu_saying_rank : Fun K "saying_rank" "saying_rank" s_saying_rank a_saying_rank d_saying_rank
  g_saying_rank : mg "saying_rank" = some (.ref a_saying_rank)
  b_saying_rank : Binds K d_saying_rank ["plan", "saying"] []
  a_book_made : Addr
  d_book_made : FuncData
  fu_book_made : Fun K "book_made" "book_made" s_book_made a_book_made d_book_made
  g_book_made : mg "book_made" = some (.ref a_book_made)
  b_book_made : Binds K d_book_made ["n", "words"] []
  a_part : Addr
  d_part : FuncData
  fu_part : Fun K "part" "part" s_part a_part d_part
  g_part : mg "part" = some (.ref a_part)
  b_part : Binds K d_part ["book", "numbers"] []
  a__law_mixed : Addr
  d__law_mixed : FuncData
  fu__law_mixed : Fun K "_law_mixed" "_law_mixed" s__law_mixed a__law_mixed d__law_mixed
  g__law_mixed : mg "_law_mixed" = some (.ref a__law_mixed)
  b__law_mixed : Binds K d__law_mixed ["number", "step"] []
  a__law_store : Addr
  d__law_store : FuncData
  fu__law_store : Fun K "_law_store" "_law_store" s__law_store a__law_store d__law_store
  g__law_store : mg "_law_store" = some (.ref a__law_store)
  b__law_store : Binds K d__law_store ["script"] []
  a__law_take : Addr
  d__law_take : FuncData
  fu__law_take : Fun K "_law_take" "_law_take" s__law_take a__law_take d__law_take
  g__law_take : mg "_law_take" = some (.ref a__law_take)
  b__law_take : Binds K d__law_take ["store", "count"] []
  a__law_number : Addr
  d__law_number : FuncData
  fu__law_number : Fun K "_law_number" "_law_number" s__law_number a__law_number d__law_number
  g__law_number : mg "_law_number" = some (.ref a__law_number)
  b__law_number : Binds K d__law_number ["store", "least", "high"] []
  a__law_size : Addr
  d__law_size : FuncData
  fu__law_size : Fun K "_law_size" "_law_size" s__law_size a__law_size d__law_size
  g__law_size : mg "_law_size" = some (.ref a__law_size)
  b__law_size : Binds K d__law_size ["store", "least", "usual", "high"] []
  a__law_unlike : Addr
  d__law_unlike : FuncData
  fu__law_unlike : Fun K "_law_unlike" "_law_unlike" s__law_unlike a__law_unlike d__law_unlike
  g__law_unlike : mg "_law_unlike" = some (.ref a__law_unlike)
  b__law_unlike : Binds K d__law_unlike ["store", "high", "count"] []
  a__law_power : Addr
  d__law_power : FuncData
  fu__law_power : Fun K "_law_power" "_law_power" s__law_power a__law_power d__law_power
  g__law_power : mg "_law_power" = some (.ref a__law_power)
  b__law_power : Binds K d__law_power ["base", "count"] []
  a__law_kind : Addr
  d__law_kind : FuncData
  fu__law_kind : Fun K "_law_kind" "_law_kind" s__law_kind a__law_kind d__law_kind
  g__law_kind : mg "_law_kind" = some (.ref a__law_kind)
  b__law_kind : Binds K d__law_kind ["value"] []
  a__law_same : Addr
  d__law_same : FuncData
  fu__law_same : Fun K "_law_same" "_law_same" s__law_same a__law_same d__law_same
  g__law_same : mg "_law_same" = some (.ref a__law_same)
  b__law_same : Binds K d__law_same ["left", "right"] []
  a__law_is_whole : Addr
  d__law_is_whole : FuncData
  fu__law_is_whole : Fun K "_law_is_whole" "_law_is_whole" s__law_is_whole a__law_is_whole d__law_is_whole
  g__law_is_whole : mg "_law_is_whole" = some (.ref a__law_is_whole)
  b__law_is_whole : Binds K d__law_is_whole ["value"] []
  a__law_mask_word : Addr
  d__law_mask_word : FuncData
  fu__law_mask_word : Fun K "_law_mask_word" "_law_mask_word" s__law_mask_word a__law_mask_word d__law_mask_word
  g__law_mask_word : mg "_law_mask_word" = some (.ref a__law_mask_word)
  b__law_mask_word : Binds K d__law_mask_word ["mask", "n"] []
  a__law_bent_list : Addr
  d__law_bent_list : FuncData
  fu__law_bent_list : Fun K "_law_bent_list" "_law_bent_list" s__law_bent_list a__law_bent_list d__law_bent_list
  g__law_bent_list : mg "_law_bent_list" = some (.ref a__law_bent_list)
  b__law_bent_list : Binds K d__law_bent_list ["store", "rows", "value", "cap"] []
  a__law_book : Addr
  d__law_book : FuncData
  fu__law_book : Fun K "_law_book" "_law_book" s__law_book a__law_book d__law_book
  g__law_book : mg "_law_book" = some (.ref a__law_book)
  b__law_book : Binds K d__law_book ["n", "words"] []
  a__law_octets : Addr
  d__law_octets : FuncData
  fu__law_octets : Fun K "_law_octets" "_law_octets" s__law_octets a__law_octets d__law_octets
  g__law_octets : mg "_law_octets" = some (.ref a__law_octets)
  b__law_octets : Binds K d__law_octets ["store"] []
  a__law_digits : Addr
  d__law_digits : FuncData
  fu__law_digits : Fun K "_law_digits" "_law_digits" s__law_digits a__law_digits d__law_digits
  g__law_digits : mg "_law_digits" = some (.ref a__law_digits)
  b__law_digits : Binds K d__law_digits ["value", "radix"] []
  a__law_value : Addr
  d__law_value : FuncData
  fu__law_value : Fun K "_law_value" "_law_value" s__law_value a__law_value d__law_value
  g__law_value : mg "_law_value" = some (.ref a__law_value)
  b__law_value : Binds K d__law_value ["octets"] []
  a__law_read : Addr
  d__law_read : FuncData
  fu__law_read : Fun K "_law_read" "_law_read" s__law_read a__law_read d__law_read
  g__law_read : mg "_law_read" = some (.ref a__law_read)
  b__law_read : Binds K d__law_read ["base", "digits"] []
  a__law_asked_octets : Addr
  d__law_asked_octets : FuncData
  fu__law_asked_octets : Fun K "_law_asked_octets" "_law_asked_octets" s__law_asked_octets a__law_asked_octets d__law_asked_octets
  g__law_asked_octets : mg "_law_asked_octets" = some (.ref a__law_asked_octets)
  b__law_asked_octets : Binds K d__law_asked_octets ["base", "digits"] []
  a__law_asked_digits : Addr
  d__law_asked_digits : FuncData
  fu__law_asked_digits : Fun K "_law_asked_digits" "_law_asked_digits" s__law_asked_digits a__law_asked_digits d__law_asked_digits
  g__law_asked_digits : mg "_law_asked_digits" = some (.ref a__law_asked_digits)
  b__law_asked_digits : Binds K d__law_asked_digits ["kind", "book", "base", "octets"] []
  a__law_is_spelled : Addr
  d__law_is_spelled : FuncData
  fu__law_is_spelled : Fun K "_law_is_spelled" "_law_is_spelled" s__law_is_spelled a__law_is_spelled d__law_is_spelled
  g__law_is_spelled : mg "_law_is_spelled" = some (.ref a__law_is_spelled)
  b__law_is_spelled : Binds K d__law_is_spelled ["book", "base", "octets"] []
  a__law_is_ranked : Addr
  d__law_is_ranked : FuncData
  fu__law_is_ranked : Fun K "_law_is_ranked" "_law_is_ranked" s__law_is_ranked a__law_is_ranked d__law_is_ranked
  g__law_is_ranked : mg "_law_is_ranked" = some (.ref a__law_is_ranked)
  b__law_is_ranked : Binds K d__law_is_ranked ["book", "base", "octets"] []
  a__law_bent_is_read : Addr
  d__law_bent_is_read : FuncData
  fu__law_bent_is_read : Fun K "_law_bent_is_read" "_law_bent_is_read" s__law_bent_is_read a__law_bent_is_read d__law_bent_is_read
  g__law_bent_is_read : mg "_law_bent_is_read" = some (.ref a__law_bent_is_read)
  b__law_bent_is_read : Binds K d__law_bent_is_read ["store", "base", "octets"] []
  a__law_bounds_hold : Addr
  d__law_bounds_hold : FuncData
  fu__law_bounds_hold : Fun K "_law_bounds_hold" "_law_bounds_hold" s__law_bounds_hold a__law_bounds_hold d__law_bounds_hold
  g__law_bounds_hold : mg "_law_bounds_hold" = some (.ref a__law_bounds_hold)
  b__law_bounds_hold : Binds K d__law_bounds_hold ["store", "book", "base", "octets"] []
  a_law : Addr
  d_law : FuncData
  fu_law : Fun K "law" "law" s_law a_law d_law
  g_law : mg "law" = some (.ref a_law)
  b_law : Binds K d_law ["script"] []
  z_abs : mg "abs" = none
  z_bool : mg "bool" = none
  z_enumerate : mg "enumerate" = none
  z_int : mg "int" = none
  z_isinstance : mg "isinstance" = none
  z_len : mg "len" = none
  z_list : mg "list" = none
  z_min : mg "min" = none
  z_range : mg "range" = none
  z_reversed : mg "reversed" = none
  z_str : mg "str" = none
  z_sum : mg "sum" = none
  z_tuple : mg "tuple" = none
  t_MOST_OCTETS : Tok
  k_MOST_OCTETS : mg "MOST_OCTETS" = some (.int 24 t_MOST_OCTETS)
  t_MOST_DIGITS : Tok
  k_MOST_DIGITS : mg "MOST_DIGITS" = some (.int 600 t_MOST_DIGITS)
  t_MOST_BASE : Tok
  k_MOST_BASE : mg "MOST_BASE" = some (.int 64 t_MOST_BASE)
  t_LEAST_BASE : Tok
  k_LEAST_BASE : mg "LEAST_BASE" = some (.int 3 t_LEAST_BASE)
  t_MOST_SAID : Tok
  k_MOST_SAID : mg "MOST_SAID" = some (.int 600 t_MOST_SAID)
  t_LONGEST : Tok
  k_LONGEST : mg "LONGEST" = some (.int 60 t_LONGEST)
  C_PulseError : Addr
  g_PulseError : mg "PulseError" = some (.ref C_PulseError)
  C_NoEnd : Addr
  g_NoEnd : mg "NoEnd" = some (.ref C_NoEnd)
  pl_NoEnd : PlC K C_NoEnd
  xf_NoEnd : XfC K C_NoEnd
  xm_NoEnd : ∀ n cls b, sub n "NoEnd" = some b → mg n = some cls → PySem.W.exmOne K cls (.ref C_NoEnd) = some b
  C_NotOctets : Addr
  g_NotOctets : mg "NotOctets" = some (.ref C_NotOctets)
  pl_NotOctets : PlC K C_NotOctets
  xf_NotOctets : XfC K C_NotOctets
  xm_NotOctets : ∀ n cls b, sub n "NotOctets" = some b → mg n = some cls → PySem.W.exmOne K cls (.ref C_NotOctets) = some b
  C_BadSize : Addr
  g_BadSize : mg "BadSize" = some (.ref C_BadSize)
  oc_BadSize : OexC K C_BadSize
  i_BadSize : Addr
  di_BadSize : FuncData
  ic_BadSize : PySem.W.findIn K (.ref C_BadSize) "__init__" = some (some (.ref i_BadSize))
  ti_BadSize : PySem.W.typeIn K (.ref i_BadSize) = some (.type "function")
  fi_BadSize : Fun K "__init__" "BadSize.__init__" st_i_BadSize i_BadSize di_BadSize
  bi_BadSize : Binds K di_BadSize ["self", "size"] []
  nf_BadSize_size : PySem.W.findIn K (.ref C_BadSize) "size" = some none
  C_NoWord : Addr
  g_NoWord : mg "NoWord" = some (.ref C_NoWord)
  oc_NoWord : OexC K C_NoWord
  i_NoWord : Addr
  di_NoWord : FuncData
  ic_NoWord : PySem.W.findIn K (.ref C_NoWord) "__init__" = some (some (.ref i_NoWord))
  ti_NoWord : PySem.W.typeIn K (.ref i_NoWord) = some (.type "function")
  fi_NoWord : Fun K "__init__" "NoWord.__init__" st_i_NoWord i_NoWord di_NoWord
  bi_NoWord : Binds K di_NoWord ["self", "at"] []
  nf_NoWord_at : PySem.W.findIn K (.ref C_NoWord) "at" = some none
  C_NotBook : Addr
  g_NotBook : mg "NotBook" = some (.ref C_NotBook)
  oc_NotBook : OexC K C_NotBook
  i_NotBook : Addr
  di_NotBook : FuncData
  ic_NotBook : PySem.W.findIn K (.ref C_NotBook) "__init__" = some (some (.ref i_NotBook))
  ti_NotBook : PySem.W.typeIn K (.ref i_NotBook) = some (.type "function")
  fi_NotBook : Fun K "__init__" "NotBook.__init__" st_i_NotBook i_NotBook di_NotBook
  bi_NotBook : Binds K di_NotBook ["self", "states"] []
  nf_NotBook_states : PySem.W.findIn K (.ref C_NotBook) "states" = some none
  C_BadState : Addr
  g_BadState : mg "BadState" = some (.ref C_BadState)
  oc_BadState : OexC K C_BadState
  i_BadState : Addr
  di_BadState : FuncData
  ic_BadState : PySem.W.findIn K (.ref C_BadState) "__init__" = some (some (.ref i_BadState))
  ti_BadState : PySem.W.typeIn K (.ref i_BadState) = some (.type "function")
  fi_BadState : Fun K "__init__" "BadState.__init__" st_i_BadState i_BadState di_BadState
  bi_BadState : Binds K di_BadState ["self", "value"] []
  nf_BadState_value : PySem.W.findIn K (.ref C_BadState) "value" = some none
  C_BadNumber : Addr
  g_BadNumber : mg "BadNumber" = some (.ref C_BadNumber)
  oc_BadNumber : OexC K C_BadNumber
  i_BadNumber : Addr
  di_BadNumber : FuncData
  ic_BadNumber : PySem.W.findIn K (.ref C_BadNumber) "__init__" = some (some (.ref i_BadNumber))
  ti_BadNumber : PySem.W.typeIn K (.ref i_BadNumber) = some (.type "function")
  fi_BadNumber : Fun K "__init__" "BadNumber.__init__" st_i_BadNumber i_BadNumber di_BadNumber
  bi_BadNumber : Binds K di_BadNumber ["self", "place"] []
  nf_BadNumber_place : PySem.W.findIn K (.ref C_BadNumber) "place" = some none
  C_NoNumber : Addr
  g_NoNumber : mg "NoNumber" = some (.ref C_NoNumber)
  oc_NoNumber : OexC K C_NoNumber
  i_NoNumber : Addr
  di_NoNumber : FuncData
  ic_NoNumber : PySem.W.findIn K (.ref C_NoNumber) "__init__" = some (some (.ref i_NoNumber))
  ti_NoNumber : PySem.W.typeIn K (.ref i_NoNumber) = some (.type "function")
  fi_NoNumber : Fun K "__init__" "NoNumber.__init__" st_i_NoNumber i_NoNumber di_NoNumber
  bi_NoNumber : Binds K di_NoNumber ["self", "number"] []
  nf_NoNumber_number : PySem.W.findIn K (.ref C_NoNumber) "number" = some none
  C_FewWords : Addr
  g_FewWords : mg "FewWords" = some (.ref C_FewWords)
  oc_FewWords : OexC K C_FewWords
  i_FewWords : Addr
  di_FewWords : FuncData
  ic_FewWords : PySem.W.findIn K (.ref C_FewWords) "__init__" = some (some (.ref i_FewWords))
  ti_FewWords : PySem.W.typeIn K (.ref i_FewWords) = some (.type "function")
  fi_FewWords : Fun K "__init__" "FewWords.__init__" st_i_FewWords i_FewWords di_FewWords
  bi_FewWords : Binds K di_FewWords ["self", "found"] []
  nf_FewWords_found : PySem.W.findIn K (.ref C_FewWords) "found" = some none
  xf_FewWords : XfC K C_FewWords
  xm_FewWords : ∀ n cls b, sub n "FewWords" = some b → mg n = some cls → PySem.W.exmOne K cls (.ref C_FewWords) = some b
  C_BadOctet : Addr
  g_BadOctet : mg "BadOctet" = some (.ref C_BadOctet)
  oc_BadOctet : OexC K C_BadOctet
  i_BadOctet : Addr
  di_BadOctet : FuncData
  ic_BadOctet : PySem.W.findIn K (.ref C_BadOctet) "__init__" = some (some (.ref i_BadOctet))
  ti_BadOctet : PySem.W.typeIn K (.ref i_BadOctet) = some (.type "function")
  fi_BadOctet : Fun K "__init__" "BadOctet.__init__" st_i_BadOctet i_BadOctet di_BadOctet
  bi_BadOctet : Binds K di_BadOctet ["self", "place"] []
  nf_BadOctet_place : PySem.W.findIn K (.ref C_BadOctet) "place" = some none
  xf_BadOctet : XfC K C_BadOctet
  xm_BadOctet : ∀ n cls b, sub n "BadOctet" = some b → mg n = some cls → PySem.W.exmOne K cls (.ref C_BadOctet) = some b
  C_BadDigit : Addr
  g_BadDigit : mg "BadDigit" = some (.ref C_BadDigit)
  oc_BadDigit : OexC K C_BadDigit
  i_BadDigit : Addr
  di_BadDigit : FuncData
  ic_BadDigit : PySem.W.findIn K (.ref C_BadDigit) "__init__" = some (some (.ref i_BadDigit))
  ti_BadDigit : PySem.W.typeIn K (.ref i_BadDigit) = some (.type "function")
  fi_BadDigit : Fun K "__init__" "BadDigit.__init__" st_i_BadDigit i_BadDigit di_BadDigit
  bi_BadDigit : Binds K di_BadDigit ["self", "place"] []
  nf_BadDigit_place : PySem.W.findIn K (.ref C_BadDigit) "place" = some none
  xf_BadDigit : XfC K C_BadDigit
  xm_BadDigit : ∀ n cls b, sub n "BadDigit" = some b → mg n = some cls → PySem.W.exmOne K cls (.ref C_BadDigit) = some b
  C_Behind : Addr
  g_Behind : mg "Behind" = some (.ref C_Behind)
  oc_Behind : OexC K C_Behind
  i_Behind : Addr
  di_Behind : FuncData
  ic_Behind : PySem.W.findIn K (.ref C_Behind) "__init__" = some (some (.ref i_Behind))
  ti_Behind : PySem.W.typeIn K (.ref i_Behind) = some (.type "function")
  fi_Behind : Fun K "__init__" "Behind.__init__" st_i_Behind i_Behind di_Behind
  bi_Behind : Binds K di_Behind ["self", "place"] []
  nf_Behind_place : PySem.W.findIn K (.ref C_Behind) "place" = some none
  xf_Behind : XfC K C_Behind
  xm_Behind : ∀ n cls b, sub n "Behind" = some b → mg n = some cls → PySem.W.exmOne K cls (.ref C_Behind) = some b
  C_TooMany : Addr
  g_TooMany : mg "TooMany" = some (.ref C_TooMany)
  oc_TooMany : OexC K C_TooMany
  i_TooMany : Addr
  di_TooMany : FuncData
  ic_TooMany : PySem.W.findIn K (.ref C_TooMany) "__init__" = some (some (.ref i_TooMany))
  ti_TooMany : PySem.W.typeIn K (.ref i_TooMany) = some (.type "function")
  fi_TooMany : Fun K "__init__" "TooMany.__init__" st_i_TooMany i_TooMany di_TooMany
  bi_TooMany : Binds K di_TooMany ["self", "what", "most"] []
  nf_TooMany_what : PySem.W.findIn K (.ref C_TooMany) "what" = some none
  nf_TooMany_most : PySem.W.findIn K (.ref C_TooMany) "most" = some none
  xf_TooMany : XfC K C_TooMany
  xm_TooMany : ∀ n cls b, sub n "TooMany" = some b → mg n = some cls → PySem.W.exmOne K cls (.ref C_TooMany) = some b
  C_Double : Addr
  g_Double : mg "Double" = some (.ref C_Double)
  oc_Double : OexC K C_Double
  i_Double : Addr
  di_Double : FuncData
  ic_Double : PySem.W.findIn K (.ref C_Double) "__init__" = some (some (.ref i_Double))
  ti_Double : PySem.W.typeIn K (.ref i_Double) = some (.type "function")
  fi_Double : Fun K "__init__" "Double.__init__" st_i_Double i_Double di_Double
  bi_Double : Binds K di_Double ["self", "at", "number"] []
  nf_Double_at : PySem.W.findIn K (.ref C_Double) "at" = some none
  nf_Double_number : PySem.W.findIn K (.ref C_Double) "number" = some none
  ki : ∀ a n ca cn b, sub a n = some b → mg a = some ca → mg n = some cn → PySem.W.kitOne K ca cn = some b ∧ ∃ C, ca = .ref C ∧ ExC K C
/-! each def keeps its promise -/
section
variable {Pg : Program} {w : World} {K : PySem.W.Frag} {mg : Str → Option Value} {base : Heap}
theorem ok_same_parts (T : Tx K mg) : ∀ n : Nat, FnOk Pg w K mg base (L2.CX Pg w) (0 + n) T.a_same_parts T.d_same_parts ["value"] (spM mg B0 1 (m_same_parts n))
  | 0 => stuck_ok
  | n + 1 => by
    have ih := ok_same_parts T n
    exact fn_mi T.fu_same_parts sc_same_parts B0 (b_same_parts (m_same_parts n)) (fun cdv A outer s H E F0 hr tk po =>
  (ss_cons (s_if (t_val (x_isD T.z_isinstance (x_var 0) T.z_list boot_list))
  (ss_one (s_retF (f_lc [("part", 1)] (by rfl) sc_same_parts.nd (i_seq (x_var 0)) (blkOk_by (by kernel_rfl)) (fun _ _ _ _ _ => (g_name sc_same_parts.nd)) (fun _ _ _ _ _ => ts_nil) (fun _ _ _ _ _ => (x_call ih (by exact hr) T.g_same_parts T.fu_same_parts.kp T.b_same_parts takes0 (a_cons (x_var 1) a_nil))) (go_name 1))))
  ss_nil)
  (ss_cons (s_if (t_val (x_isD T.z_isinstance (x_var 0) T.z_tuple boot_tuple))
  (ss_one (s_ret (x_cT call_tuple_of (p_tup _) T.z_tuple boot_tuple (a_cons (x_fz (f_lc [("part", 1)] (by rfl) sc_same_parts.nd (i_seq (x_var 0)) (blkOk_by (by kernel_rfl)) (fun _ _ _ _ _ => (g_name sc_same_parts.nd)) (fun _ _ _ _ _ => ts_nil) (fun _ _ _ _ _ => (x_call ih (by exact hr) T.g_same_parts T.fu_same_parts.kp T.b_same_parts takes0 (a_cons (x_var 1) a_nil))) (go_name 1))) a_nil))))
  ss_nil)
  (ss_one (s_retV 0)))))
theorem ok_is_whole (T : Tx K mg) : FnOk Pg w K mg base (L2.CX Pg w) 1 T.a_is_whole T.d_is_whole ["value"] (spM mg B0 1 (m_is_whole)) := by
  unfold m_is_whole
  exact fn_mi T.fu_is_whole sc_is_whole B0 b_is_whole (fun cdv A outer s H E F0 hr tk po =>
  (ss_one (s_ret (x_and (x_isD T.z_isinstance (x_var 0) T.z_int boot_int) (x_one (x_not (x_isD T.z_isinstance (x_var 0) T.z_bool boot_bool)))))))
theorem ok_is_index (T : Tx K mg) : FnOk Pg w K mg base (L2.CX Pg w) 2 T.a_is_index T.d_is_index ["value", "many"] (spM mg B0 2 (m_is_index)) := by
  unfold m_is_index
  exact fn_mi T.fu_is_index sc_is_index B0 b_is_index (fun cdv A outer s H E F0 hr tk po =>
  (ss_one (s_ret (x_and (x_call (ok_is_whole T) (by exact hr.mono (by omega)) T.g_is_whole T.fu_is_whole.kp T.b_is_whole tk (a_cons (x_var 0) a_nil)) (x_one (x_chain o_le o_lt p_le p_lt x_int (x_var 0) (x_var 1)))))))
theorem ok_copied (T : Tx K mg) : ∀ n : Nat, FnOk Pg w K mg base (L2.CX Pg w) (0 + n) T.a_copied T.d_copied ["value"] (spM mg B0 1 (m_copied n))
  | 0 => stuck_ok
  | n + 1 => by
    have ih := ok_copied T n
    exact fn_mi T.fu_copied sc_copied B0 (b_copied (m_copied n)) (fun cdv A outer s H E F0 hr tk po =>
  (ss_cons (s_if (t_val (x_isD T.z_isinstance (x_var 0) T.z_list boot_list))
  (ss_one (s_retF (f_lc [("part", 1)] (by rfl) sc_copied.nd (i_seq (x_var 0)) (blkOk_by (by kernel_rfl)) (fun _ _ _ _ _ => (g_name sc_copied.nd)) (fun _ _ _ _ _ => ts_nil) (fun _ _ _ _ _ => (x_call ih (by exact hr) T.g_copied T.fu_copied.kp T.b_copied takes0 (a_cons (x_var 1) a_nil))) (go_name 1))))
  ss_nil)
  (ss_cons (s_if (t_val (x_isD T.z_isinstance (x_var 0) T.z_tuple boot_tuple))
  (ss_one (s_ret (x_cT call_tuple_of (p_tup _) T.z_tuple boot_tuple (a_cons (x_fz (f_lc [("part", 1)] (by rfl) sc_copied.nd (i_seq (x_var 0)) (blkOk_by (by kernel_rfl)) (fun _ _ _ _ _ => (g_name sc_copied.nd)) (fun _ _ _ _ _ => ts_nil) (fun _ _ _ _ _ => (x_call ih (by exact hr) T.g_copied T.fu_copied.kp T.b_copied takes0 (a_cons (x_var 1) a_nil))) (go_name 1))) a_nil))))
  ss_nil)
  (ss_one (s_retV 0)))))
theorem ok_init_BadDigit (T : Tx K mg) : FnOk Pg w K mg base (L2.CX Pg w) 31 T.i_BadDigit T.di_BadDigit ["self", "place"] (initSp (m_same_parts 30) T.C_BadDigit ["place"]) := by
  refine T.fi_BadDigit.okX sc_i_BadDigit (fun vs H Q E h => initSp_len h) (fun cdv A outer s H vs Q E hr h => ⟨_, (pss_one (ps_ost (pv 0) (pe_callS (ok_same_parts T 30) (hr.mono (by omega)) (by rfl) T.g_same_parts T.fu_same_parts.kp T.b_same_parts (fun σ => passAt (W := wE E) (takes_of rfl rfl rfl rfl) σ) (pa_cons (pv 1) pa_nil)))), ?_⟩)
  exact init1 T.oc_BadDigit T.nf_BadDigit_place rfl h
theorem ok_init_Behind (T : Tx K mg) : FnOk Pg w K mg base (L2.CX Pg w) 31 T.i_Behind T.di_Behind ["self", "place"] (initSp (m_same_parts 30) T.C_Behind ["place"]) := by
  refine T.fi_Behind.okX sc_i_Behind (fun vs H Q E h => initSp_len h) (fun cdv A outer s H vs Q E hr h => ⟨_, (pss_one (ps_ost (pv 0) (pe_callS (ok_same_parts T 30) (hr.mono (by omega)) (by rfl) T.g_same_parts T.fu_same_parts.kp T.b_same_parts (fun σ => passAt (W := wE E) (takes_of rfl rfl rfl rfl) σ) (pa_cons (pv 1) pa_nil)))), ?_⟩)
  exact init1 T.oc_Behind T.nf_Behind_place rfl h
theorem ok_init_TooMany (T : Tx K mg) : FnOk Pg w K mg base (L2.CX Pg w) 31 T.i_TooMany T.di_TooMany ["self", "what", "most"] (initSp (m_same_parts 30) T.C_TooMany ["what", "most"]) := by
  refine T.fi_TooMany.okX sc_i_TooMany (fun vs H Q E h => initSp_len h) (fun cdv A outer s H vs Q E hr h => ⟨_, (pss_cons (ps_ost (pv 0) (pe_callS (ok_same_parts T 30) (hr.mono (by omega)) (by rfl) T.g_same_parts T.fu_same_parts.kp T.b_same_parts (fun σ => passAt (W := wE E) (takes_of rfl rfl rfl rfl) σ) (pa_cons (pv 1) pa_nil)))
    (pss_one (ps_ost (pv 0) (pe_callS (ok_same_parts T 30) (hr.mono (by omega)) (by rfl) T.g_same_parts T.fu_same_parts.kp T.b_same_parts (fun σ => passAt (W := wE E) (takes_of rfl rfl rfl rfl) σ) (pa_cons (pv 2) pa_nil))))), ?_⟩)
  exact init2 T.oc_TooMany T.nf_TooMany_what T.nf_TooMany_most rfl h
theorem ok_init_BadOctet (T : Tx K mg) : FnOk Pg w K mg base (L2.CX Pg w) 31 T.i_BadOctet T.di_BadOctet ["self", "place"] (initSp (m_same_parts 30) T.C_BadOctet ["place"]) := by
  refine T.fi_BadOctet.okX sc_i_BadOctet (fun vs H Q E h => initSp_len h) (fun cdv A outer s H vs Q E hr h => ⟨_, (pss_one (ps_ost (pv 0) (pe_callS (ok_same_parts T 30) (hr.mono (by omega)) (by rfl) T.g_same_parts T.fu_same_parts.kp T.b_same_parts (fun σ => passAt (W := wE E) (takes_of rfl rfl rfl rfl) σ) (pa_cons (pv 1) pa_nil)))), ?_⟩)
  exact init1 T.oc_BadOctet T.nf_BadOctet_place rfl h
theorem ok_init_FewWords (T : Tx K mg) : FnOk Pg w K mg base (L2.CX Pg w) 31 T.i_FewWords T.di_FewWords ["self", "found"] (initSp (m_same_parts 30) T.C_FewWords ["found"]) := by
  refine T.fi_FewWords.okX sc_i_FewWords (fun vs H Q E h => initSp_len h) (fun cdv A outer s H vs Q E hr h => ⟨_, (pss_one (ps_ost (pv 0) (pe_callS (ok_same_parts T 30) (hr.mono (by omega)) (by rfl) T.g_same_parts T.fu_same_parts.kp T.b_same_parts (fun σ => passAt (W := wE E) (takes_of rfl rfl rfl rfl) σ) (pa_cons (pv 1) pa_nil)))), ?_⟩)
  exact init1 T.oc_FewWords T.nf_FewWords_found rfl h
theorem ok_init_NotBook (T : Tx K mg) : FnOk Pg w K mg base (L2.CX Pg w) 31 T.i_NotBook T.di_NotBook ["self", "states"] (initSp (m_same_parts 30) T.C_NotBook ["states"]) := by
  refine T.fi_NotBook.okX sc_i_NotBook (fun vs H Q E h => initSp_len h) (fun cdv A outer s H vs Q E hr h => ⟨_, (pss_one (ps_ost (pv 0) (pe_callS (ok_same_parts T 30) (hr.mono (by omega)) (by rfl) T.g_same_parts T.fu_same_parts.kp T.b_same_parts (fun σ => passAt (W := wE E) (takes_of rfl rfl rfl rfl) σ) (pa_cons (pv 1) pa_nil)))), ?_⟩)
  exact init1 T.oc_NotBook T.nf_NotBook_states rfl h
theorem ok_init_BadSize (T : Tx K mg) : FnOk Pg w K mg base (L2.CX Pg w) 31 T.i_BadSize T.di_BadSize ["self", "size"] (initSp (m_same_parts 30) T.C_BadSize ["size"]) := by
  refine T.fi_BadSize.okX sc_i_BadSize (fun vs H Q E h => initSp_len h) (fun cdv A outer s H vs Q E hr h => ⟨_, (pss_one (ps_ost (pv 0) (pe_callS (ok_same_parts T 30) (hr.mono (by omega)) (by rfl) T.g_same_parts T.fu_same_parts.kp T.b_same_parts (fun σ => passAt (W := wE E) (takes_of rfl rfl rfl rfl) σ) (pa_cons (pv 1) pa_nil)))), ?_⟩)
  exact init1 T.oc_BadSize T.nf_BadSize_size rfl h
theorem ok_init_NoNumber (T : Tx K mg) : FnOk Pg w K mg base (L2.CX Pg w) 31 T.i_NoNumber T.di_NoNumber ["self", "number"] (initSp (m_same_parts 30) T.C_NoNumber ["number"]) := by
  refine T.fi_NoNumber.okX sc_i_NoNumber (fun vs H Q E h => initSp_len h) (fun cdv A outer s H vs Q E hr h => ⟨_, (pss_one (ps_ost (pv 0) (pe_callS (ok_same_parts T 30) (hr.mono (by omega)) (by rfl) T.g_same_parts T.fu_same_parts.kp T.b_same_parts (fun σ => passAt (W := wE E) (takes_of rfl rfl rfl rfl) σ) (pa_cons (pv 1) pa_nil)))), ?_⟩)
  exact init1 T.oc_NoNumber T.nf_NoNumber_number rfl h
theorem ok_init_BadNumber (T : Tx K mg) : FnOk Pg w K mg base (L2.CX Pg w) 31 T.i_BadNumber T.di_BadNumber ["self", "place"] (initSp (m_same_parts 30) T.C_BadNumber ["place"]) := by
  refine T.fi_BadNumber.okX sc_i_BadNumber (fun vs H Q E h => initSp_len h) (fun cdv A outer s H vs Q E hr h => ⟨_, (pss_one (ps_ost (pv 0) (pe_callS (ok_same_parts T 30) (hr.mono (by omega)) (by rfl) T.g_same_parts T.fu_same_parts.kp T.b_same_parts (fun σ => passAt (W := wE E) (takes_of rfl rfl rfl rfl) σ) (pa_cons (pv 1) pa_nil)))), ?_⟩)
  exact init1 T.oc_BadNumber T.nf_BadNumber_place rfl h
theorem ok_init_BadState (T : Tx K mg) : FnOk Pg w K mg base (L2.CX Pg w) 31 T.i_BadState T.di_BadState ["self", "value"] (initSp (m_same_parts 30) T.C_BadState ["value"]) := by
  refine T.fi_BadState.okX sc_i_BadState (fun vs H Q E h => initSp_len h) (fun cdv A outer s H vs Q E hr h => ⟨_, (pss_one (ps_ost (pv 0) (pe_callS (ok_same_parts T 30) (hr.mono (by omega)) (by rfl) T.g_same_parts T.fu_same_parts.kp T.b_same_parts (fun σ => passAt (W := wE E) (takes_of rfl rfl rfl rfl) σ) (pa_cons (pv 1) pa_nil)))), ?_⟩)
  exact init1 T.oc_BadState T.nf_BadState_value rfl h
theorem ok_init_NoWord (T : Tx K mg) : FnOk Pg w K mg base (L2.CX Pg w) 31 T.i_NoWord T.di_NoWord ["self", "at"] (initSp (m_same_parts 30) T.C_NoWord ["at"]) := by
  refine T.fi_NoWord.okX sc_i_NoWord (fun vs H Q E h => initSp_len h) (fun cdv A outer s H vs Q E hr h => ⟨_, (pss_one (ps_ost (pv 0) (pe_callS (ok_same_parts T 30) (hr.mono (by omega)) (by rfl) T.g_same_parts T.fu_same_parts.kp T.b_same_parts (fun σ => passAt (W := wE E) (takes_of rfl rfl rfl rfl) σ) (pa_cons (pv 1) pa_nil)))), ?_⟩)
  exact init1 T.oc_NoWord T.nf_NoWord_at rfl h
theorem ok_init_Double (T : Tx K mg) : FnOk Pg w K mg base (L2.CX Pg w) 31 T.i_Double T.di_Double ["self", "at", "number"] (initSp (m_same_parts 30) T.C_Double ["at", "number"]) := by
  refine T.fi_Double.okX sc_i_Double (fun vs H Q E h => initSp_len h) (fun cdv A outer s H vs Q E hr h => ⟨_, (pss_cons (ps_ost (pv 0) (pe_callS (ok_same_parts T 30) (hr.mono (by omega)) (by rfl) T.g_same_parts T.fu_same_parts.kp T.b_same_parts (fun σ => passAt (W := wE E) (takes_of rfl rfl rfl rfl) σ) (pa_cons (pv 1) pa_nil)))
    (pss_one (ps_ost (pv 0) (pe_callS (ok_same_parts T 30) (hr.mono (by omega)) (by rfl) T.g_same_parts T.fu_same_parts.kp T.b_same_parts (fun σ => passAt (W := wE E) (takes_of rfl rfl rfl rfl) σ) (pa_cons (pv 2) pa_nil))))), ?_⟩)
  exact init2 T.oc_Double T.nf_Double_at T.nf_Double_number rfl h
theorem ok_check_state (T : Tx K mg) : FnOk Pg w K mg base (L2.CX Pg w) 33 T.a_check_state T.d_check_state ["plan", "state"] (spM mg B0 2 (m_check_state)) := by
  unfold m_check_state
  exact fn_mi T.fu_check_state sc_check_state B0 b_check_state (fun cdv A outer s H E F0 hr tk po =>
  (ss_one (s_if (t_not (t_val (x_call (ok_is_index T) (by exact hr.mono (by omega)) T.g_is_index T.fu_is_index.kp T.b_is_index tk (a_cons (x_var 1) (a_cons (x_cB call_len_seq (p_len _) T.z_len PySem.boot_len (a_cons (x_ix (x_var 0) x_int) a_nil)) a_nil)))))
  (ss_one (s_raise (by rfl) tk (r_make T.oc_BadState T.ic_BadState T.ti_BadState (ok_init_BadState T) (by exact hr.mono (by omega)) T.bi_BadState T.g_BadState T.g_BadState (by decide) (a_cons (x_call (ok_copied T 30) (by exact hr.mono (by omega)) T.g_copied T.fu_copied.kp T.b_copied tk (a_cons (x_var 1) a_nil)) a_nil))))
  ss_nil)))
theorem ok_is_book (T : Tx K mg) : FnOk Pg w K mg base (L2.CX Pg w) 1 T.a_is_book T.d_is_book ["plan"] (spM mg B0 1 (m_is_book)) := by
  unfold m_is_book
  exact fn_mi T.fu_is_book sc_is_book B0 b_is_book (fun cdv A outer s H E F0 hr tk po =>
  (ss_one (s_ret (x_cmp (o_eq hr) (p_eq _) (x_cB call_len_seq (p_len _) T.z_len PySem.boot_len (a_cons (x_ix (x_var 0) x_int) a_nil)) x_int (nomark _)))))
theorem ok_words_of (T : Tx K mg) : FnOk Pg w K mg base (L2.CX Pg w) 34 T.a_words_of T.d_words_of ["plan", "state"] (spM mg B0 2 (m_words_of)) := by
  unfold m_words_of
  exact fn_mi T.fu_words_of sc_words_of B0 b_words_of (fun cdv A outer s H E F0 hr tk po =>
  (ss_cons (s_expr (x_call (ok_check_state T) (by exact hr.mono (by omega)) T.g_check_state T.fu_check_state.kp T.b_check_state tk (a_cons (x_var 0) (a_cons (x_var 1) a_nil))))
  (ss_one (s_ret (x_cT call_tuple_of (p_tup _) T.z_tuple boot_tuple (a_cons (x_fz (f_lc [("word", 2), ("spare", 3)] (by rfl) sc_words_of.nd (i_seq (x_ix (x_ix (x_var 0) x_int) (x_var 1))) (blkOk_by (by kernel_rfl)) (fun _ _ _ _ _ => (g_tup (by rfl) (gs_cons (g_name sc_words_of.nd) (gs_cons (g_name sc_words_of.nd) gs_nil)) (gC_len (gC_len gE_len)))) (fun _ _ _ _ _ => ts_nil) (fun _ _ _ _ _ => (x_var 2)) (go_tup (go_cons (go_name 2) (go_cons (go_name 3) go_nil))))) a_nil))))))
theorem ok_book_words (T : Tx K mg) : FnOk Pg w K mg base (L2.CX Pg w) 35 T.a_book_words T.d_book_words ["book"] (spM mg B0 1 (m_book_words)) := by
  unfold m_book_words
  exact fn_mi T.fu_book_words sc_book_words B0 b_book_words (fun cdv A outer s H E F0 hr tk po =>
  (ss_cons (s_if (t_cmp (o_ne hr) (p_ne _) (x_cB call_len_seq (p_len _) T.z_len PySem.boot_len (a_cons (x_ix (x_var 0) x_int) a_nil)) x_int (nomark _))
  (ss_one (s_raise (by rfl) tk (r_make T.oc_NotBook T.ic_NotBook T.ti_NotBook (ok_init_NotBook T) (by exact hr.mono (by omega)) T.bi_NotBook T.g_NotBook T.g_NotBook (by decide) (a_cons (x_cB call_len_seq (p_len _) T.z_len PySem.boot_len (a_cons (x_ix (x_var 0) x_int) a_nil)) a_nil))))
  ss_nil)
  (ss_one (s_ret (x_call (ok_words_of T) (by exact hr.mono (by omega)) T.g_words_of T.fu_words_of.kp T.b_words_of tk (a_cons (x_var 0) (a_cons x_int a_nil)))))))
theorem ok_is_below (T : Tx K mg) : FnOk Pg w K mg base (L2.CX Pg w) 1 T.a_is_below T.d_is_below ["value", "end"] (spM mg B0 2 (m_is_below)) := by
  unfold m_is_below
  exact fn_mi T.fu_is_below sc_is_below B0 b_is_below (fun cdv A outer s H E F0 hr tk po =>
  (ss_one (s_ret (x_and (x_isD T.z_isinstance (x_var 0) T.z_int boot_int) (x_and (x_not (x_isD T.z_isinstance (x_var 0) T.z_bool boot_bool)) (x_one (x_chain o_le o_lt p_le p_lt x_int (x_var 0) (x_var 1))))))))
theorem ok_check_book (T : Tx K mg) : FnOk Pg w K mg base (L2.CX Pg w) 33 T.a_check_book T.d_check_book ["book"] (spM mg B0 1 (m_check_book)) := by
  unfold m_check_book
  exact fn_mi T.fu_check_book sc_check_book B0 b_check_book (fun cdv A outer s H E F0 hr tk po =>
  (ss_one (s_if (t_not (t_val (x_call (ok_is_book T) (by exact hr.mono (by omega)) T.g_is_book T.fu_is_book.kp T.b_is_book tk (a_cons (x_var 0) a_nil))))
  (ss_one (s_raise (by rfl) tk (r_make T.oc_NotBook T.ic_NotBook T.ti_NotBook (ok_init_NotBook T) (by exact hr.mono (by omega)) T.bi_NotBook T.g_NotBook T.g_NotBook (by decide) (a_cons (x_cB call_len_seq (p_len _) T.z_len PySem.boot_len (a_cons (x_ix (x_var 0) x_int) a_nil)) a_nil))))
  ss_nil)))
theorem ok_check_base (T : Tx K mg) : FnOk Pg w K mg base (L2.CX Pg w) 33 T.a_check_base T.d_check_base ["base"] (spM mg B0 1 (m_check_base)) := by
  unfold m_check_base
  exact fn_mi T.fu_check_base sc_check_base B0 b_check_base (fun cdv A outer s H E F0 hr tk po =>
  (ss_cons (s_if (t_not (t_val (x_call (ok_is_below T) (by exact hr.mono (by omega)) T.g_is_below T.fu_is_below.kp T.b_is_below tk (a_cons (x_var 0) (a_cons (x_op o_add (p_add _) (x_gint T.k_MOST_BASE) x_int) a_nil)))))
  (ss_one (s_raise (by rfl) tk (r_make T.oc_BadSize T.ic_BadSize T.ti_BadSize (ok_init_BadSize T) (by exact hr.mono (by omega)) T.bi_BadSize T.g_BadSize T.g_BadSize (by decide) (a_cons (x_var 0) a_nil))))
  ss_nil)
  (ss_one (s_if (t_cmp o_lt p_lt (x_var 0) (x_gint T.k_LEAST_BASE) (nomark _))
  (ss_one (s_raise (by rfl) tk (r_make T.oc_FewWords T.ic_FewWords T.ti_FewWords (ok_init_FewWords T) (by exact hr.mono (by omega)) T.bi_FewWords T.g_FewWords T.g_FewWords (by decide) (a_cons (x_var 0) a_nil))))
  ss_nil))))
theorem ok_check_octets (T : Tx K mg) : FnOk Pg w K mg base (L2.CX Pg w) 33 T.a_check_octets T.d_check_octets ["octets"] (spM mg B0 1 (m_check_octets)) := by
  unfold m_check_octets
  exact fn_mi T.fu_check_octets sc_check_octets B0 b_check_octets (fun cdv A outer s H E F0 hr tk po =>
  (ss_cons (s_if (t_cmp o_gt p_gt (x_cB call_len_seq (p_len _) T.z_len PySem.boot_len (a_cons (x_var 0) a_nil)) (x_gint T.k_MOST_OCTETS) (nomark _))
  (ss_one (s_raise (by rfl) tk (r_make T.oc_TooMany T.ic_TooMany T.ti_TooMany (ok_init_TooMany T) (by exact hr.mono (by omega)) T.bi_TooMany T.g_TooMany T.g_TooMany (by decide) (a_cons x_str (a_cons (x_gint T.k_MOST_OCTETS) a_nil)))))
  ss_nil)
  (ss_one (s_for po (by rfl) (i_enum T.z_enumerate (a_cons (x_var 0) a_nil)) (g_tup (by rfl) (gs_cons (g_name sc_check_octets.nd) (gs_cons (g_name sc_check_octets.nd) gs_nil)) (gC_len (gC_len gE_len)))
  (ss_one (s_if (t_not (t_val (x_call (ok_is_below T) (by exact hr.mono (by omega)) T.g_is_below T.fu_is_below.kp T.b_is_below tk (a_cons (x_var 2) (a_cons x_int a_nil)))))
  (ss_one (s_raise (by rfl) tk (r_make T.oc_BadOctet T.ic_BadOctet T.ti_BadOctet (ok_init_BadOctet T) (by exact hr.mono (by omega)) T.bi_BadOctet T.g_BadOctet T.g_BadOctet (by decide) (a_cons (x_var 1) a_nil))))
  ss_nil))))))
theorem ok_end_of (T : Tx K mg) : FnOk Pg w K mg base (L2.CX Pg w) 33 T.a_end_of T.d_end_of ["base", "digits"] (spM mg B0 2 (m_end_of)) := by
  unfold m_end_of
  exact fn_mi T.fu_end_of sc_end_of B0 b_end_of (fun cdv A outer s H E F0 hr tk po =>
  (ss_cons (s_if (t_cmp o_gt p_gt (x_cB call_len_seq (p_len _) T.z_len PySem.boot_len (a_cons (x_var 1) a_nil)) (x_gint T.k_MOST_DIGITS) (nomark _))
  (ss_one (s_raise (by rfl) tk (r_make T.oc_TooMany T.ic_TooMany T.ti_TooMany (ok_init_TooMany T) (by exact hr.mono (by omega)) T.bi_TooMany T.g_TooMany T.g_TooMany (by decide) (a_cons x_str (a_cons (x_gint T.k_MOST_DIGITS) a_nil)))))
  ss_nil)
  (ss_cons (s_for po (by rfl) (i_enum T.z_enumerate (a_cons (x_var 1) a_nil)) (g_tup (by rfl) (gs_cons (g_name sc_end_of.nd) (gs_cons (g_name sc_end_of.nd) gs_nil)) (gC_len (gC_len gE_len)))
  (ss_one (s_if (t_not (t_val (x_call (ok_is_below T) (by exact hr.mono (by omega)) T.g_is_below T.fu_is_below.kp T.b_is_below tk (a_cons (x_var 3) (a_cons (x_var 0) a_nil)))))
  (ss_one (s_raise (by rfl) tk (r_make T.oc_BadDigit T.ic_BadDigit T.ti_BadDigit (ok_init_BadDigit T) (by exact hr.mono (by omega)) T.bi_BadDigit T.g_BadDigit T.g_BadDigit (by decide) (a_cons (x_var 2) a_nil))))
  ss_nil)))
  (ss_cons (s_for po (by rfl) (i_enum T.z_enumerate (a_cons (x_var 1) a_nil)) (g_tup (by rfl) (gs_cons (g_name sc_end_of.nd) (gs_cons (g_name sc_end_of.nd) gs_nil)) (gC_len (gC_len gE_len)))
  (ss_one (s_if (t_cmp (o_eq hr) (p_eq _) (x_var 3) (x_op o_sub p_sub (x_var 0) x_int) (nomark _))
  (ss_cons (s_if (t_cmp o_lt p_lt (x_op o_add (p_add _) (x_var 2) x_int) (x_cB call_len_seq (p_len _) T.z_len PySem.boot_len (a_cons (x_var 1) a_nil)) (nomark _))
  (ss_one (s_raise (by rfl) tk (r_make T.oc_Behind T.ic_Behind T.ti_Behind (ok_init_Behind T) (by exact hr.mono (by omega)) T.bi_Behind T.g_Behind T.g_Behind (by decide) (a_cons (x_op o_add (p_add _) (x_var 2) x_int) a_nil))))
  ss_nil)
  (ss_one (s_retV 2)))
  ss_nil)))
  (ss_one (s_raise (by rfl) tk (r_make0 T.pl_NoEnd T.g_NoEnd T.g_NoEnd)))))))
theorem ok_digits_of (T : Tx K mg) : FnOk Pg w K mg base (L2.CX Pg w) 34 T.a_digits_of T.d_digits_of ["base", "octets"] (spM mg B0 2 (m_digits_of)) := by
  unfold m_digits_of
  exact fn_mi T.fu_digits_of sc_digits_of B0 b_digits_of (fun cdv A outer s H E F0 hr tk po =>
  (ss_cons (s_expr (x_call (ok_check_base T) (by exact hr.mono (by omega)) T.g_check_base T.fu_check_base.kp T.b_check_base tk (a_cons (x_var 0) a_nil)))
  (ss_cons (s_expr (x_call (ok_check_octets T) (by exact hr.mono (by omega)) T.g_check_octets T.fu_check_octets.kp T.b_check_octets tk (a_cons (x_var 1) a_nil)))
  (ss_cons (s_set sc_digits_of.nd x_int)
  (ss_cons (s_for po (by rfl) (i_seq (x_var 1)) (g_name sc_digits_of.nd)
  (ss_one (s_set sc_digits_of.nd (x_op o_add (p_add _) (x_op o_mul p_mul (x_var 2) x_int) (x_var 3)))))
  (ss_cons (s_setF sc_digits_of.nd (f_lst a_nil))
  (ss_cons (s_while fuel po (t_cmp o_gt p_gt (x_var 2) x_int (nomark _))
  (ss_cons (s_expr (x_meth 4 PySem.F.slot_list_append PySem.F.type_list_append mt_append p_append (a_cons (x_op o_mod p_mod (x_var 2) (x_op o_sub p_sub (x_var 0) x_int)) a_nil)))
  (ss_one (s_set sc_digits_of.nd (x_op o_div p_div (x_var 2) (x_op o_sub p_sub (x_var 0) x_int))))))
  (ss_cons (s_expr (x_meth 4 PySem.F.slot_list_append PySem.F.type_list_append mt_append p_append (a_cons (x_op o_sub p_sub (x_var 0) x_int) a_nil)))
  (ss_one (s_ret (x_oT 4 call_tuple_of (p_tupO _) T.z_tuple boot_tuple)))))))))))
theorem ok_octets_of (T : Tx K mg) : FnOk Pg w K mg base (L2.CX Pg w) 34 T.a_octets_of T.d_octets_of ["base", "digits"] (spM mg B0 2 (m_octets_of)) := by
  unfold m_octets_of
  exact fn_mi T.fu_octets_of sc_octets_of B0 b_octets_of (fun cdv A outer s H E F0 hr tk po =>
  (ss_cons (s_expr (x_call (ok_check_base T) (by exact hr.mono (by omega)) T.g_check_base T.fu_check_base.kp T.b_check_base tk (a_cons (x_var 0) a_nil)))
  (ss_cons (s_set sc_octets_of.nd (x_call (ok_end_of T) (by exact hr.mono (by omega)) T.g_end_of T.fu_end_of.kp T.b_end_of tk (a_cons (x_var 0) (a_cons (x_var 1) a_nil))))
  (ss_cons (s_if (t_pw (t_or (t_cmp (o_eq hr) (p_eq _) (x_var 2) x_int (nomark _)) (t_or1 (t_cmp (o_eq hr) (p_eq _) (x_ix (x_var 1) (x_op o_sub p_sub (x_var 2) x_int)) x_int (nomark _)))))
  (ss_one (s_raise (by rfl) tk (r_make0 T.pl_NotOctets T.g_NotOctets T.g_NotOctets)))
  ss_nil)
  (ss_cons (s_set sc_octets_of.nd x_int)
  (ss_cons (s_for po (by rfl) (i_range1 T.z_range (a_cons (x_var 2) a_nil)) (g_name sc_octets_of.nd)
  (ss_one (s_set sc_octets_of.nd (x_op o_add (p_add _) (x_op o_mul p_mul (x_var 3) (x_op o_sub p_sub (x_var 0) x_int)) (x_ix (x_var 1) (x_op o_sub p_sub (x_op o_sub p_sub (x_var 2) x_int) (x_var 4)))))))
  (ss_cons (s_setF sc_octets_of.nd (f_lst a_nil))
  (ss_cons (s_while fuel po (t_cmp o_ge p_ge (x_var 3) x_int (nomark _))
  (ss_cons (s_expr (x_meth 5 PySem.F.slot_list_append PySem.F.type_list_append mt_append p_append (a_cons (x_op o_mod p_mod (x_var 3) x_int) a_nil)))
  (ss_one (s_set sc_octets_of.nd (x_op o_div p_div (x_var 3) x_int)))))
  (ss_cons (s_if (t_cmp (o_ne hr) (p_ne _) (x_var 3) x_int (nomark _))
  (ss_one (s_raise (by rfl) tk (r_make0 T.pl_NotOctets T.g_NotOctets T.g_NotOctets)))
  ss_nil)
  (ss_cons (s_if (t_cmp o_gt p_gt (x_oB 5 call_len_seq (p_lenO _) T.z_len PySem.boot_len) (x_gint T.k_MOST_OCTETS) (nomark _))
  (ss_one (s_raise (by rfl) tk (r_make T.oc_TooMany T.ic_TooMany T.ti_TooMany (ok_init_TooMany T) (by exact hr.mono (by omega)) T.bi_TooMany T.g_TooMany T.g_TooMany (by decide) (a_cons x_str (a_cons (x_gint T.k_MOST_OCTETS) a_nil)))))
  ss_nil)
  (ss_one (s_ret (x_cT call_tuple_of (p_tup _) T.z_tuple boot_tuple (a_cons (x_fz (f_revO 5)) a_nil))))))))))))))
theorem ok_say_octets (T : Tx K mg) : FnOk Pg w K mg base (L2.CX Pg w) 36 T.a_say_octets T.d_say_octets ["book", "octets"] (spM mg B0 2 (m_say_octets)) := by
  unfold m_say_octets
  exact fn_mi T.fu_say_octets sc_say_octets B0 b_say_octets (fun cdv A outer s H E F0 hr tk po =>
  (ss_cons (s_expr (x_call (ok_check_book T) (by exact hr.mono (by omega)) T.g_check_book T.fu_check_book.kp T.b_check_book tk (a_cons (x_var 0) a_nil)))
  (ss_cons (s_expr (x_call (ok_check_octets T) (by exact hr.mono (by omega)) T.g_check_octets T.fu_check_octets.kp T.b_check_octets tk (a_cons (x_var 1) a_nil)))
  (ss_cons (s_set sc_say_octets.nd (x_cB call_len_seq (p_len _) T.z_len PySem.boot_len (a_cons (x_call (ok_book_words T) (by exact hr.mono (by omega)) T.g_book_words T.fu_book_words.kp T.b_book_words tk (a_cons (x_var 0) a_nil)) a_nil)))
  (ss_cons (s_if (t_cmp o_lt p_lt (x_var 2) (x_gint T.k_LEAST_BASE) (nomark _))
  (ss_one (s_raise (by rfl) tk (r_make T.oc_FewWords T.ic_FewWords T.ti_FewWords (ok_init_FewWords T) (by exact hr.mono (by omega)) T.bi_FewWords T.g_FewWords T.g_FewWords (by decide) (a_cons (x_var 2) a_nil))))
  ss_nil)
  (ss_one (s_ret (x_call (ok_digits_of T) (by exact hr.mono (by omega)) T.g_digits_of T.fu_digits_of.kp T.b_digits_of tk (a_cons (x_var 2) (a_cons (x_var 1) a_nil))))))))))
theorem ok_walk (T : Tx K mg) : FnOk Pg w K mg base (L2.CX Pg w) 33 T.a_walk T.d_walk ["plan", "saying"] (spM mg B0 2 (m_walk)) := by
  unfold m_walk
  exact fn_mi T.fu_walk sc_walk B0 b_walk (fun cdv A outer s H E F0 hr tk po =>
  (ss_cons (s_if (t_cmp o_gt p_gt (x_cB call_len_seq (p_len _) T.z_len PySem.boot_len (a_cons (x_var 1) a_nil)) (x_gint T.k_MOST_SAID) (nomark _))
  (ss_one (s_raise (by rfl) tk (r_make T.oc_TooMany T.ic_TooMany T.ti_TooMany (ok_init_TooMany T) (by exact hr.mono (by omega)) T.bi_TooMany T.g_TooMany T.g_TooMany (by decide) (a_cons x_str (a_cons (x_gint T.k_MOST_SAID) a_nil)))))
  ss_nil)
  (ss_cons (s_set sc_walk.nd (x_ix (x_var 0) x_int))
  (ss_cons (s_set sc_walk.nd x_int)
  (ss_cons (s_setF sc_walk.nd (f_lst a_nil))
  (ss_cons (s_for po (by rfl) (i_enum T.z_enumerate (a_cons (x_var 1) a_nil)) (g_tup (by rfl) (gs_cons (g_name sc_walk.nd) (gs_cons (g_name sc_walk.nd) gs_nil)) (gC_len (gC_len gE_len)))
  (ss_cons (s_if (t_not (t_val (x_call (ok_is_index T) (by exact hr.mono (by omega)) T.g_is_index T.fu_is_index.kp T.b_is_index tk (a_cons (x_var 6) (a_cons (x_cB call_len_seq (p_len _) T.z_len PySem.boot_len (a_cons (x_ix (x_var 2) (x_var 3)) a_nil)) a_nil)))))
  (ss_one (s_raise (by rfl) tk (r_make T.oc_BadNumber T.ic_BadNumber T.ti_BadNumber (ok_init_BadNumber T) (by exact hr.mono (by omega)) T.bi_BadNumber T.g_BadNumber T.g_BadNumber (by decide) (a_cons (x_var 5) a_nil))))
  ss_nil)
  (ss_cons (s_asg (x_ix (x_ix (x_var 2) (x_var 3)) (x_var 6)) (g_tup (by rfl) (gs_cons (g_name sc_walk.nd) (gs_cons (g_name sc_walk.nd) gs_nil)) (gC_len (gC_len gE_len))))
  (ss_cons (s_expr (x_meth 4 PySem.F.slot_list_append PySem.F.type_list_append mt_append p_append (a_cons (x_tup (a_cons (x_var 3) (a_cons (x_var 7) a_nil))) a_nil)))
  (ss_one (s_set sc_walk.nd (x_var 8)))))))
  (ss_one (s_ret (x_tup (a_cons (x_oT 4 call_tuple_of (p_tupO _) T.z_tuple boot_tuple) (a_cons (x_var 3) a_nil)))))))))))
theorem ok_copy_of (T : Tx K mg) : ∀ n : Nat, FnOk Pg w K mg base (L2.CX Pg w) (0 + n) T.a_copy_of T.d_copy_of ["value"] (spM mg B0 1 (m_copy_of n))
  | 0 => stuck_ok
  | n + 1 => by
    have ih := ok_copy_of T n
    exact fn_mi T.fu_copy_of sc_copy_of B0 (b_copy_of (m_copy_of n)) (fun cdv A outer s H E F0 hr tk po =>
  (ss_cons (s_if (t_val (x_isD T.z_isinstance (x_var 0) T.z_list boot_list))
  (ss_one (s_retF (f_lc [("part", 1)] (by rfl) sc_copy_of.nd (i_seq (x_var 0)) (blkOk_by (by kernel_rfl)) (fun _ _ _ _ _ => (g_name sc_copy_of.nd)) (fun _ _ _ _ _ => ts_nil) (fun _ _ _ _ _ => (x_call ih (by exact hr) T.g_copy_of T.fu_copy_of.kp T.b_copy_of takes0 (a_cons (x_var 1) a_nil))) (go_name 1))))
  ss_nil)
  (ss_cons (s_if (t_val (x_isD T.z_isinstance (x_var 0) T.z_tuple boot_tuple))
  (ss_one (s_ret (x_cT call_tuple_of (p_tup _) T.z_tuple boot_tuple (a_cons (x_fz (f_lc [("part", 1)] (by rfl) sc_copy_of.nd (i_seq (x_var 0)) (blkOk_by (by kernel_rfl)) (fun _ _ _ _ _ => (g_name sc_copy_of.nd)) (fun _ _ _ _ _ => ts_nil) (fun _ _ _ _ _ => (x_call ih (by exact hr) T.g_copy_of T.fu_copy_of.kp T.b_copy_of takes0 (a_cons (x_var 1) a_nil))) (go_name 1))) a_nil))))
  ss_nil)
  (ss_one (s_retV 0)))))
theorem ok_is_from_to (T : Tx K mg) : FnOk Pg w K mg base (L2.CX Pg w) 1 T.a_is_from_to T.d_is_from_to ["value", "least", "most"] (spM mg B0 3 (m_is_from_to)) := by
  unfold m_is_from_to
  exact fn_mi T.fu_is_from_to sc_is_from_to B0 b_is_from_to (fun cdv A outer s H E F0 hr tk po =>
  (ss_one (s_ret (x_and (x_isD T.z_isinstance (x_var 0) T.z_int boot_int) (x_and (x_not (x_isD T.z_isinstance (x_var 0) T.z_bool boot_bool)) (x_one (x_chain o_le o_le p_le p_le (x_var 1) (x_var 0) (x_var 2))))))))
theorem ok_tails (T : Tx K mg) : FnOk Pg w K mg base (L2.CX Pg w) 33 T.a_tails T.d_tails ["plan", "words"] (spM mg B0 2 (m_tails)) := by
  unfold m_tails
  exact fn_mi T.fu_tails sc_tails B0 b_tails (fun cdv A outer s H E F0 hr tk po =>
  (ss_cons (s_if (t_not (t_val (x_call (ok_is_from_to T) (by exact hr.mono (by omega)) T.g_is_from_to T.fu_is_from_to.kp T.b_is_from_to tk (a_cons (x_var 1) (a_cons x_int (a_cons (x_gint T.k_LONGEST) a_nil))))))
  (ss_one (s_raise (by rfl) tk (r_make T.oc_BadSize T.ic_BadSize T.ti_BadSize (ok_init_BadSize T) (by exact hr.mono (by omega)) T.bi_BadSize T.g_BadSize T.g_BadSize (by decide) (a_cons (x_call (ok_copy_of T 30) (by exact hr.mono (by omega)) T.g_copy_of T.fu_copy_of.kp T.b_copy_of tk (a_cons (x_var 1) a_nil)) a_nil))))
  ss_nil)
  (ss_cons (s_set sc_tails.nd (x_ix (x_var 0) x_int))
  (ss_cons (s_setF sc_tails.nd (f_lst (a_cons (x_op o_mul p_mul (x_fz (f_lst (a_cons x_int a_nil))) (x_cB call_len_seq (p_len _) T.z_len PySem.boot_len (a_cons (x_var 2) a_nil))) a_nil)))
  (ss_cons (s_for po (by rfl) (i_range1 T.z_range (a_cons (x_var 1) a_nil)) (g_name sc_tails.nd)
  (ss_cons (s_set sc_tails.nd (x_ixO 3 (x_var 4)))
  (ss_one (s_expr (x_meth 3 PySem.F.slot_list_append PySem.F.type_list_append mt_append p_append (a_cons (x_fz (f_lc [("pairs", 6)] (by rfl) sc_tails.nd (i_seq (x_var 2)) (blkOk_by (by kernel_rfl)) (fun _ _ _ _ _ => (g_name sc_tails.nd)) (fun _ _ _ _ _ => ts_nil) (fun _ _ _ _ _ => (x_cB (cr_sum (by rfl)) (p_sum _) T.z_sum boot_sum (a_cons (x_fz (f_lc [("spare", 7), ("goal", 8)] (by rfl) sc_tails.nd (i_seq (x_var 6)) (blkOk_by (by kernel_rfl)) (fun _ _ _ _ _ => (g_tup (by rfl) (gs_cons (g_name sc_tails.nd) (gs_cons (g_name sc_tails.nd) gs_nil)) (gC_len (gC_len gE_len)))) (fun _ _ _ _ _ => ts_nil) (fun _ _ _ _ _ => (x_ix (x_var 5) (x_var 8))) (go_tup (go_cons (go_name 7) (go_cons (go_name 8) go_nil))))) a_nil))) (go_name 6))) a_nil))))))
  (ss_one (s_retV 3)))))))
theorem ok_saying_at (T : Tx K mg) : FnOk Pg w K mg base (L2.CX Pg w) 34 T.a_saying_at T.d_saying_at ["plan", "words", "number"] (spM mg B0 3 (m_saying_at)) := by
  unfold m_saying_at
  exact fn_mi T.fu_saying_at sc_saying_at B0 b_saying_at (fun cdv A outer s H E F0 hr tk po =>
  (ss_cons (s_set sc_saying_at.nd (x_call (ok_tails T) (by exact hr.mono (by omega)) T.g_tails T.fu_tails.kp T.b_tails tk (a_cons (x_var 0) (a_cons (x_var 1) a_nil))))
  (ss_cons (s_if (t_not (t_val (x_call (ok_is_from_to T) (by exact hr.mono (by omega)) T.g_is_from_to T.fu_is_from_to.kp T.b_is_from_to tk (a_cons (x_var 2) (a_cons x_int (a_cons (x_op o_sub p_sub (x_ix (x_ix (x_var 3) (x_var 1)) x_int) x_int) a_nil))))))
  (ss_one (s_raise (by rfl) tk (r_make T.oc_NoNumber T.ic_NoNumber T.ti_NoNumber (ok_init_NoNumber T) (by exact hr.mono (by omega)) T.bi_NoNumber T.g_NoNumber T.g_NoNumber (by decide) (a_cons (x_call (ok_copy_of T 30) (by exact hr.mono (by omega)) T.g_copy_of T.fu_copy_of.kp T.b_copy_of tk (a_cons (x_var 2) a_nil)) a_nil))))
  ss_nil)
  (ss_cons (s_setF sc_saying_at.nd (f_lst a_nil))
  (ss_cons (s_set sc_saying_at.nd x_int)
  (ss_cons (s_set sc_saying_at.nd (x_var 2))
  (ss_cons (s_for po (by rfl) (i_range1 T.z_range (a_cons (x_var 1) a_nil)) (g_name sc_saying_at.nd)
  (ss_cons (s_set sc_saying_at.nd (x_ix (x_var 3) (x_op o_sub p_sub (x_op o_sub p_sub (x_var 1) x_int) (x_var 7))))
  (ss_cons (s_set sc_saying_at.nd (x_ix (x_ix (x_var 0) x_int) (x_var 5)))
  (ss_cons (s_set sc_saying_at.nd x_int)
  (ss_cons (s_while fuel po (t_cmp o_ge p_ge (x_var 6) (x_ix (x_var 8) (x_ix (x_ix (x_var 9) (x_var 10)) x_int)) (nomark _))
  (ss_cons (s_set sc_saying_at.nd (x_op o_sub p_sub (x_var 6) (x_ix (x_var 8) (x_ix (x_ix (x_var 9) (x_var 10)) x_int))))
  (ss_one (s_set sc_saying_at.nd (x_op o_add (p_add _) (x_var 10) x_int)))))
  (ss_cons (s_expr (x_meth 4 PySem.F.slot_list_append PySem.F.type_list_append mt_append p_append (a_cons (x_var 10) a_nil)))
  (ss_one (s_set sc_saying_at.nd (x_ix (x_ix (x_var 9) (x_var 10)) x_int)))))))))
  (ss_one (s_ret (x_oT 4 call_tuple_of (p_tupO _) T.z_tuple boot_tuple))))))))))
theorem ok_saying_rank (T : Tx K mg) : FnOk Pg w K mg base (L2.CX Pg w) 34 T.a_saying_rank T.d_saying_rank ["plan", "saying"] (spM mg B0 2 (m_saying_rank)) := by
  unfold m_saying_rank
  exact fn_mi T.fu_saying_rank sc_saying_rank B0 b_saying_rank (fun cdv A outer s H E F0 hr tk po =>
  (ss_cons (s_set sc_saying_rank.nd (x_ix (x_call (ok_walk T) (by exact hr.mono (by omega)) T.g_walk T.fu_walk.kp T.b_walk tk (a_cons (x_var 0) (a_cons (x_var 1) a_nil))) x_int))
  (ss_cons (s_set sc_saying_rank.nd (x_cB call_len_seq (p_len _) T.z_len PySem.boot_len (a_cons (x_var 1) a_nil)))
  (ss_cons (s_set sc_saying_rank.nd (x_call (ok_tails T) (by exact hr.mono (by omega)) T.g_tails T.fu_tails.kp T.b_tails tk (a_cons (x_var 0) (a_cons (x_var 3) a_nil))))
  (ss_cons (s_set sc_saying_rank.nd x_int)
  (ss_cons (s_for po (by rfl) (i_range1 T.z_range (a_cons (x_var 3) a_nil)) (g_name sc_saying_rank.nd)
  (ss_cons (s_set sc_saying_rank.nd (x_ix (x_var 4) (x_op o_sub p_sub (x_op o_sub p_sub (x_var 3) x_int) (x_var 6))))
  (ss_cons (s_set sc_saying_rank.nd (x_ix (x_ix (x_var 0) x_int) (x_ix (x_ix (x_var 2) (x_var 6)) x_int)))
  (ss_one (s_set sc_saying_rank.nd (x_op o_add (p_add _) (x_var 5) (x_cB (cr_sum (by rfl)) (p_sum _) T.z_sum boot_sum (a_cons (x_fz (f_lc [("earlier", 9)] (by rfl) sc_saying_rank.nd (i_range1 T.z_range (a_cons (x_ix (x_var 1) (x_var 6)) a_nil)) (blkOk_by (by kernel_rfl)) (fun _ _ _ _ _ => (g_name sc_saying_rank.nd)) (fun _ _ _ _ _ => ts_nil) (fun _ _ _ _ _ => (x_ix (x_var 7) (x_ix (x_ix (x_var 8) (x_var 9)) x_int))) (go_name 9))) a_nil))))))))
  (ss_one (s_retV 5))))))))
theorem ok_book_made (T : Tx K mg) : FnOk Pg w K mg base (L2.CX Pg w) 1 T.a_book_made T.d_book_made ["n", "words"] (spM mg B0 2 (m_book_made)) := by
  unfold m_book_made
  exact fn_mi T.fu_book_made sc_book_made B0 b_book_made (fun cdv A outer s H E F0 hr tk po =>
  (ss_one (s_ret (x_tup (a_cons (x_var 0) (a_cons (x_tup (a_cons (x_cT call_tuple_of (p_tup _) T.z_tuple boot_tuple (a_cons (x_fz (f_lc [("word", 2)] (by rfl) sc_book_made.nd (i_seq (x_var 1)) (blkOk_by (by kernel_rfl)) (fun _ _ _ _ _ => (g_name sc_book_made.nd)) (fun _ _ _ _ _ => ts_nil) (fun _ _ _ _ _ => (x_tup (a_cons (x_var 2) (a_cons x_int a_nil)))) (go_name 2))) a_nil)) a_nil)) a_nil))))))
theorem ok_part (T : Tx K mg) : FnOk Pg w K mg base (L2.CX Pg w) 36 T.a_part T.d_part ["book", "numbers"] (spM mg B0 2 (m_part)) := by
  unfold m_part
  exact fn_mi T.fu_part sc_part B0 b_part (fun cdv A outer s H E F0 hr tk po =>
  (ss_cons (s_expr (x_call (ok_check_book T) (by exact hr.mono (by omega)) T.g_check_book T.fu_check_book.kp T.b_check_book tk (a_cons (x_var 0) a_nil)))
  (ss_cons (s_set sc_part.nd (x_call (ok_book_words T) (by exact hr.mono (by omega)) T.g_book_words T.fu_book_words.kp T.b_book_words tk (a_cons (x_var 0) a_nil)))
  (ss_cons (s_newDK sc_part.nd)
  (ss_cons (s_for po (by rfl) (i_enum T.z_enumerate (a_cons (x_var 1) a_nil)) (g_tup (by rfl) (gs_cons (g_name sc_part.nd) (gs_cons (g_name sc_part.nd) gs_nil)) (gC_len (gC_len gE_len)))
  (ss_cons (s_if (t_not (t_val (x_call (ok_is_below T) (by exact hr.mono (by omega)) T.g_is_below T.fu_is_below.kp T.b_is_below tk (a_cons (x_var 5) (a_cons (x_cB call_len_seq (p_len _) T.z_len PySem.boot_len (a_cons (x_var 2) a_nil)) a_nil)))))
  (ss_one (s_raise (by rfl) tk (r_make T.oc_BadNumber T.ic_BadNumber T.ti_BadNumber (ok_init_BadNumber T) (by exact hr.mono (by omega)) T.bi_BadNumber T.g_BadNumber T.g_BadNumber (by decide) (a_cons (x_var 4) a_nil))))
  ss_nil)
  (ss_cons (s_if (t_dIn 3 (hu_of hr) (x_var 5))
  (ss_one (s_raise (by rfl) tk (r_make T.oc_Double T.ic_Double T.ti_Double (ok_init_Double T) (by exact hr.mono (by omega)) T.bi_Double T.g_Double T.g_Double (by decide) (a_cons x_int (a_cons (x_dGet 3 (hu_of hr) (x_var 5)) a_nil)))))
  ss_nil)
  (ss_one (s_dPut 3 (hu_of hr) (x_var 4) (x_var 5))))))
  (ss_cons (s_if (t_not (t_truO 3))
  (ss_one (s_raise (by rfl) tk (r_make T.oc_NoWord T.ic_NoWord T.ti_NoWord (ok_init_NoWord T) (by exact hr.mono (by omega)) T.bi_NoWord T.g_NoWord T.g_NoWord (by decide) (a_cons x_int a_nil))))
  ss_nil)
  (ss_one (s_ret (x_call (ok_book_made T) (by exact hr.mono (by omega)) T.g_book_made T.fu_book_made.kp T.b_book_made tk (a_cons (x_ix (x_var 0) x_int) (a_cons (x_fz (f_lc [("number", 5)] (by rfl) sc_part.nd (i_seq (x_var 1)) (blkOk_by (by kernel_rfl)) (fun _ _ _ _ _ => (g_name sc_part.nd)) (fun _ _ _ _ _ => ts_nil) (fun _ _ _ _ _ => (x_ix (x_var 2) (x_var 5))) (go_name 5))) a_nil)))))))))))
theorem ok__law_mixed (T : Tx K mg) : FnOk Pg w K mg base (L2.CX Pg w) 1 T.a__law_mixed T.d__law_mixed ["number", "step"] spMixed := by
  refine T.fu__law_mixed.okX sc__law_mixed (fun vs H Q E h => ?_) (fun cdv A outer s H vs Q E hr h => ⟨_, pss_cons (ps_set (i := 2) sc__law_mixed.nd rfl (.inl rfl) (pe_op op_mod (pe_callTy call_int1 (by rfl) T.z_int boot_int (pa_cons (pe_op op_add (pe_op op_add (pe_op op_mul (pv 0) pe_int) (pe_op op_mul (pv 1) pe_int)) pe_int) pa_nil)) pe_int))
    (pss_cons (ps_set (i := 3) sc__law_mixed.nd rfl (.inl rfl) (pe_op op_mod (pe_callTy call_int1 (by rfl) T.z_int boot_int (pa_cons (pe_op op_add (pe_op op_add (pe_op op_add (pe_op op_mul (pv 2) (pv 2)) (pe_op op_mul (pv 1) pe_int)) (pe_op o_div (pv 2) pe_int)) pe_int) pa_nil)) pe_int))
    (pss_cons (ps_set (i := 4) sc__law_mixed.nd rfl (.inl rfl) (pe_op op_mod (pe_callTy call_int1 (by rfl) T.z_int boot_int (pa_cons (pe_op op_add (pe_op op_add (pe_op op_add (pe_op op_mul (pv 3) (pv 3)) (pe_op o_div (pv 3) pe_int)) (pv 2)) (pv 1)) pa_nil)) pe_int))
    (pss_one (ps_ret (pe_op op_add (pe_op op_mul (pv 4) pe_int) (pv 3)))))), ?_⟩)
  · obtain ⟨n, z, rfl, _⟩ := h
    rfl
  · obtain ⟨n, z, rfl, q⟩ := h
    refine ⟨_, rfl, n, 48271, rfl, rfl, .inr ⟨by decide, by decide⟩, _, rfl, z, 69621, rfl, rfl, .inr ⟨by decide, by decide⟩, _, _, rfl, rfl, _, 12345, rfl, rfl, .inl ⟨_, rfl, _, 2147483647, rfl, rfl, (show (0 : Int) < 2147483647 by decide), ?_⟩⟩
    obtain ⟨one, h1⟩ : ∃ one, (n * 48271 + z * 69621 + 12345) % 2147483647 = one := ⟨_, rfl⟩
    show gName 2 (V.int ((n * 48271 + z * 69621 + 12345) % 2147483647)) _ _ _
    rw [h1]
    have b1 := Int.emod_nonneg (n * 48271 + z * 69621 + 12345) (show (2147483647 : Int) ≠ 0 by decide)
    have c1 := Int.emod_lt_of_pos (n * 48271 + z * 69621 + 12345) (show (0 : Int) < 2147483647 by decide)
    rw [h1] at b1 c1
    refine ⟨_, rfl, _, rfl, one, one, rfl, rfl, .inl ⟨by omega, by omega⟩, _, rfl, z, 16807, rfl, rfl, .inr ⟨by decide, by decide⟩, _, _, rfl, rfl, _, rfl, one, 65536, rfl, rfl, ⟨by decide, by decide⟩, _, _, rfl, rfl, _, 7, rfl, rfl, .inl ⟨_, rfl, _, 2147483629, rfl, rfl, (show (0 : Int) < 2147483629 by decide), ?_⟩⟩
    obtain ⟨two, h2⟩ : ∃ two, (one * one + z * 16807 + one / 65536 + 7) % 2147483629 = two := ⟨_, rfl⟩
    show gName 3 (V.int ((one * one + z * 16807 + one / 65536 + 7) % 2147483629)) _ _ _
    rw [h2]
    have b2 := Int.emod_nonneg (one * one + z * 16807 + one / 65536 + 7) (show (2147483629 : Int) ≠ 0 by decide)
    have c2 := Int.emod_lt_of_pos (one * one + z * 16807 + one / 65536 + 7) (show (0 : Int) < 2147483629 by decide)
    rw [h2] at b2 c2
    refine ⟨_, rfl, _, rfl, two, two, rfl, rfl, .inl ⟨by omega, by omega⟩, _, rfl, two, 8192, rfl, rfl, ⟨by decide, by decide⟩, _, _, rfl, rfl, _, rfl, _, one, rfl, rfl, _, rfl, _, z, rfl, rfl, .inl ⟨_, rfl, _, 2147483399, rfl, rfl, (show (0 : Int) < 2147483399 by decide), ?_⟩⟩
    refine ⟨_, rfl, _, 2147483629, rfl, rfl, .inr ⟨by decide, by decide⟩, _, rfl, _, two, rfl, rfl, ?_⟩
    have e : mixed n z = (two * two + two / 8192 + one + z) % 2147483399 * 2147483629 + two := by unfold mixed; rw [h1]; dsimp only; rw [h2]
    show Q (V.int ((two * two + two / 8192 + one + z) % 2147483399 * 2147483629 + two)) H
    rw [← e]
    exact q

theorem ok__law_store (T : Tx K mg) : FnOk Pg w K mg base (L2.CX Pg w) 1 T.a__law_store T.d__law_store ["script"] (spStore K) := by
  have nd := sc__law_store.nd
  refine T.fu__law_store.okX sc__law_store (fun vs H Q E h => ?_) fun cdv A outer s H vs Q E hr h => ⟨_,
    pss_cons (ps_set (i := 1) nd rfl (.inl rfl) (pe_lst pa_nil))
    (pss_cons (ps_set (i := 2) nd rfl (.inl rfl) pe_int)
    (pss_cons (ps_for (passes_of rfl) rfl (pi_list (pe_slice sl_list (pv 0) po_none (po_some pe_int))) (pg_name (i := 3) nd rfl (.inl rfl))
      (pss_cons (ps_if (pt_chain op_lt op_lt (pe_un un_neg (pe_op op_pow pe_int pe_int)) (pv 3) (pe_op op_pow pe_int pe_int))
        (pss_one (ps_expr (pe_bm PySem.F.plainAttrs_list PySem.F.slot_list_append PySem.F.type_list_append mt_append (pv 1) (pa_cons (pe_lst (pa_cons pe_int (pa_cons (pe_op op_mod (pe_callTy call_int1 (by rfl) T.z_int boot_int (pa_cons (pv 3) pa_nil)) pe_int) pa_nil))) pa_nil))))
        (pss_one (ps_expr (pe_bm PySem.F.plainAttrs_list PySem.F.slot_list_append PySem.F.type_list_append mt_append (pv 1) (pa_cons (pe_lst (pa_cons pe_int (pa_cons (pe_op op_mod (pe_callTy call_int1 (by rfl) T.z_int boot_int (pa_cons (pe_callB call_abs (by rfl) T.z_abs boot_abs (pa_cons (pv 3) pa_nil)) pa_nil)) (pe_op op_pow pe_int pe_int)) pa_nil))) pa_nil)))))
      (pss_one (ps_set (i := 2) nd rfl (.inl rfl) (pe_op op_mod (pe_callTy call_int1 (by rfl) T.z_int boot_int (pa_cons (pe_op op_add (pe_op op_add (pe_op op_mul (pv 2) pe_int) (pe_ix ix_list (pe_ix ix_list (pv 1) (pe_un un_neg pe_int) (fun _ _ => rfl)) pe_int (fun _ _ => rfl))) pe_int) pa_nil)) pe_int)))))
    (pss_one (ps_ret (pe_lst (pa_cons (pv 1) (pa_cons pe_int (pa_cons pe_int (pa_cons (pv 2) (pa_cons pe_int pa_nil)))))))))), ?_⟩
  · obtain ⟨a, ns, rfl, _⟩ := h
    rfl
  · obtain ⟨a, ns, rfl, hS, hl, q⟩ := h
    -- cells = []
    refine ⟨Nat.zero_le _, fun c nc => ?_⟩
    -- script[:63]
    have s1 : Same H (upd H c (.lst [])) := fun b o e => by rw [upd_ne (fun z : b = c => by rw [z, nc] at e; cases e)]; exact e
    refine ⟨.ref a, rfl, 63, rfl, a, ns.map V.int, rfl, s1.seq hS, fun b nb => ?_⟩
    have nbc : c ≠ b := fun z => by rw [← z, upd_same] at nb; cases nb
    refine ⟨b, rfl, ⟨_, .of upd_same⟩, ?_⟩
    generalize hz : cutV (ns.map V.int) none (some 63) = zs
    have hzi : ∀ v ∈ zs, ∃ i, v = .int i := fun v hv => cut_int (by rw [hz]; exact hv)
    have hzl : zs.length ≤ 1000 := by
      rw [← hz]
      exact Nat.le_trans (cutV_length _ _ _) (by rw [List.length_map]; exact hl)
    refine for_list (xs := zs) (fun i σ H' => ∃ x3 cs sd, σ = [some (.ref a), some (.ref c), some (.int sd), x3] ∧ CellsAt c cs H' ∧ cs.length = i ∧ H' b = some (.lst zs)) ⟨none, [], 77, rfl, ⟨by rw [upd_ne nbc, upd_same] <;> rfl, fun _ z => (nomatch z), fun z => nomatch z⟩, rfl, upd_same⟩ (fun i σ H' _ ⟨_, _, _, _, _, _, e⟩ => .of e) ?_ ?_
    · rintro i y σ H2 hi ⟨x3, cs, sd, rfl, hC, hlen, hb⟩
      obtain ⟨z, rfl⟩ := hzi y (List.mem_of_getElem? hi)
      have hil : i < zs.length := (List.getElem?_eq_some_iff.mp hi).1
      refine sq_if (decide (-(10 : Int) ^ (18 : Int).toNat < z) && decide (z < (10 : Int) ^ (18 : Int).toNat)) (fun Q q => chain_lt (a := -(10 : Int) ^ (18 : Int).toNat) (b := z) (c := (10 : Int) ^ (18 : Int).toNat) (fun Q q => ⟨10, 18, rfl, rfl, ⟨by decide, by decide, by decide⟩, _, rfl, q⟩) (fun Q q => ⟨_, rfl, q⟩) (fun Q q => ⟨10, 18, rfl, rfl, ⟨by decide, by decide, by decide⟩, q⟩) q) (fun _ => ?_) (fun _ => ?_)
      · refine ⟨.ref c, rfl, .inl ⟨rfl, _, .inl (.inl hC.hc)⟩, _, rfl, .inl ⟨_, rfl, _, 2147483647, rfl, rfl, (show (0 : Int) < 2147483647 by decide), by show 2 ≤ sizeLine; decide, fun qa nq => ?_⟩⟩
        have nqb : b ≠ qa := fun y => by rw [y, nq] at hb; cases hb
        have nqc : c ≠ qa := fun y => by rw [← y, hC.hc] at nq; cases nq
        have C4 : CellsAt c (cs ++ [qa]) (upd (upd H2 qa (.lst [.int 0, .int (z % 2147483647)])) c (.lst (cs.map V.ref ++ [.ref qa]))) := by
          have y := hC.add (k := 0) (v := (z % 2147483647)) nq
          rw [List.map_append] at y
          exact y
        refine ⟨c, _, _, rfl, rfl, by rw [upd_ne nqc]; exact hC.hc, by rw [List.length_map, hlen]; exact Nat.lt_of_lt_of_le hil (Nat.le_trans hzl (by decide)), ?_⟩
        have h5 : SqL K (upd (upd H2 qa (.lst [.int 0, .int (z % 2147483647)])) c (.lst (cs.map V.ref ++ [.ref qa]))) qa (cellV (0, (z % 2147483647))) := .of (by rw [upd_ne (Ne.symm nqc), upd_same] <;> rfl)
        refine ⟨_, rfl, _, 48271, rfl, rfl, .inr ⟨by decide, by decide⟩, _, rfl, 1, rfl, c, _, -1, _, rfl, rfl, .of upd_same, atI_last1, qa, _, 1, _, rfl, rfl, h5, rfl, _, _, rfl, rfl, _, 13, rfl, rfl, .inl ⟨_, rfl, _, 2147483647, rfl, rfl, (show (0 : Int) < 2147483647 by decide), ?_⟩⟩
        exact ⟨_, cs ++ [qa], _, rfl, C4, by rw [List.length_append, hlen]; rfl, by rw [upd_ne (Ne.symm nbc), upd_ne nqb]; exact hb⟩
      · refine ⟨.ref c, rfl, .inl ⟨rfl, _, .inl (.inl hC.hc)⟩, _, rfl, _, rfl, .inl ⟨_, rfl, 10, 60, rfl, rfl, ⟨by decide, by decide, by decide⟩, _, _, rfl, rfl, pow60, by show 2 ≤ sizeLine; decide, fun qa nq => ?_⟩⟩
        have nqb : b ≠ qa := fun y => by rw [y, nq] at hb; cases hb
        have nqc : c ≠ qa := fun y => by rw [← y, hC.hc] at nq; cases nq
        have C4 : CellsAt c (cs ++ [qa]) (upd (upd H2 qa (.lst [.int 1, .int ((if z < 0 then -z else z) % 10 ^ (60 : Int).toNat)])) c (.lst (cs.map V.ref ++ [.ref qa]))) := by
          have y := hC.add (k := 1) (v := ((if z < 0 then -z else z) % 10 ^ (60 : Int).toNat)) nq
          rw [List.map_append] at y
          exact y
        refine ⟨c, _, _, rfl, rfl, by rw [upd_ne nqc]; exact hC.hc, by rw [List.length_map, hlen]; exact Nat.lt_of_lt_of_le hil (Nat.le_trans hzl (by decide)), ?_⟩
        have h5 : SqL K (upd (upd H2 qa (.lst [.int 1, .int ((if z < 0 then -z else z) % 10 ^ (60 : Int).toNat)])) c (.lst (cs.map V.ref ++ [.ref qa]))) qa (cellV (1, ((if z < 0 then -z else z) % 10 ^ (60 : Int).toNat))) := .of (by rw [upd_ne (Ne.symm nqc), upd_same] <;> rfl)
        refine ⟨_, rfl, _, 48271, rfl, rfl, .inr ⟨by decide, by decide⟩, _, rfl, 1, rfl, c, _, -1, _, rfl, rfl, .of upd_same, atI_last1, qa, _, 1, _, rfl, rfl, h5, rfl, _, _, rfl, rfl, _, 13, rfl, rfl, .inl ⟨_, rfl, _, 2147483647, rfl, rfl, (show (0 : Int) < 2147483647 by decide), ?_⟩⟩
        exact ⟨_, cs ++ [qa], _, rfl, C4, by rw [List.length_append, hlen]; rfl, by rw [upd_ne (Ne.symm nbc), upd_ne nqb]; exact hb⟩
    · rintro σ H2 ⟨x3, cs, sd, rfl, hC, hlen, hb⟩
      refine ⟨_, rfl, _, rfl, by show 5 ≤ sizeLine; decide, fun p np => ?_⟩
      have npc : c ≠ p := fun y => by rw [← y, hC.hc] at np; cases np
      have hnp : p ∉ cs := fun y => by
        obtain ⟨k, v, e⟩ := hC.hs p y
        rw [np] at e; cases e
      obtain ⟨m, hm⟩ : ∃ m : Addr → Int × Int, ∀ x ∈ cs, H2 x = some (.lst (cellV (m x))) := by
        classical
        refine ⟨fun x => if h : ∃ kv : Int × Int, H2 x = some (.lst (cellV kv)) then h.choose else (0, 0), fun x hx => ?_⟩
        have h : ∃ kv : Int × Int, H2 x = some (.lst (cellV kv)) := by
          obtain ⟨k, v, e⟩ := hC.hs x hx
          exact ⟨(k, v), e⟩
        dsimp only
        rw [dif_pos h]
        exact h.choose_spec
      refine q p c cs ⟨m, 0, 0, sd, 0⟩ _ ⟨upd_same, by rw [upd_ne npc]; exact hC.hc, fun x hx => ?_, Ne.symm npc, hnp, hC.nc, ⟨Int.le_refl _, Int.natCast_nonneg _⟩, by omega⟩
      rw [upd_ne (fun y : x = p => hnp (y ▸ hx))]
      exact hm x hx

theorem ok__law_take (T : Tx K mg) (p c : Addr) (cs : List Addr) : FnOk Pg w K mg base (L2.CX Pg w) 2 T.a__law_take T.d__law_take ["store", "count"] (spM mg (Bsto p c cs) 2 (m__law_take cs)) := by
  have G2 := ok__law_mixed (Pg := Pg) (w := w) (base := base) T
  have nd := sc__law_take.nd
  refine T.fu__law_take.okX sc__law_take (fun vs H Q E h => h.1) fun cdv A outer s H vs Q E hr h => ⟨_,
    pss_cons (ps_set (i := 2) nd rfl (.inl rfl) (pe_ix ix_list (pv 0) pe_int (fun _ _ => rfl)))
    (pss_cons (ps_asg (pe_op op_add (pe_ix ix_list (pv 0) pe_int (fun _ _ => rfl)) pe_int) (pg_sub (pv 0) pe_int set_list (fun _ => rfl)))
    (pss_cons (ps_if (pt_cmpR op_lt (pv 1) pe_int (nomark _)) (pss_one (ps_ret pe_int)) pss_nil)
    (pss_cons (ps_for (passes_of rfl) rfl (pi_range2 (by rfl) T.z_range (pa_cons (pe_ix ix_list (pv 0) pe_int (fun _ _ => rfl)) (pa_cons (pe_callB call_len_seq (by rfl) T.z_len PySem.boot_len (pa_cons (pv 2) pa_nil)) pa_nil)) (by rfl) (by rfl)) (pg_name (i := 3) nd rfl (.inl rfl))
      (pss_cons (ps_set (i := 4) nd rfl (.inl rfl) (pe_ix ix_list (pv 2) (pv 3) (fun _ _ => rfl)))
      (pss_cons (ps_asg (pv 3) (pg_sub (pv 0) pe_int set_list (fun _ => rfl)))
      (pss_cons (ps_if (pw_and (pt_cmpR op_eq (pe_ix ix_list (pv 4) pe_int (fun _ _ => rfl)) pe_int (nomark _)) (pw_and1 (pt_cmpR op_gt (pe_ix ix_list (pv 4) pe_int (fun _ _ => rfl)) pe_int (nomark _)))).pt
        (pss_cons (ps_set (i := 5) nd rfl (.inl rfl) (pe_op op_mod (pe_callTy call_int1 (by rfl) T.z_int boot_int (pa_cons (pe_ix ix_list (pv 4) pe_int (fun _ _ => rfl)) pa_nil)) (pv 1)))
        (pss_cons (ps_asg (pe_op o_div (pe_ix ix_list (pv 4) pe_int (fun _ _ => rfl)) (pv 1)) (pg_sub (pv 4) pe_int set_list (fun _ => rfl)))
        (pss_one (ps_ret (pv 5))))) pss_nil)
      (pss_cons (ps_if (pw_and (pt_cmpR op_eq (pe_ix ix_list (pv 4) pe_int (fun _ _ => rfl)) pe_int (nomark _)) (pw_and1 (pt_cmpR op_lt (pe_ix ix_list (pv 0) pe_int (fun _ _ => rfl)) pe_int (nomark _)))).pt
        (pss_cons (ps_asg (pe_op op_add (pe_ix ix_list (pv 0) pe_int (fun _ _ => rfl)) pe_int) (pg_sub (pv 0) pe_int set_list (fun _ => rfl)))
        (pss_one (ps_ret (pe_op op_mod (pe_callTy call_int1 (by rfl) T.z_int boot_int (pa_cons (pe_callS G2 hr (by rfl) T.g__law_mixed T.fu__law_mixed.kp T.b__law_mixed (fun σ => passAt (W := wE E) (takes_of rfl rfl rfl rfl) σ) (pa_cons (pe_op op_add (pe_ix ix_list (pv 4) pe_int (fun _ _ => rfl)) (pe_op op_mul (pv 3) pe_int)) (pa_cons (pe_ix ix_list (pv 0) pe_int (fun _ _ => rfl)) pa_nil))) pa_nil)) (pv 1))))) pss_nil)
      (pss_one (ps_asg pe_int (pg_sub (pv 0) pe_int set_list (fun _ => rfl)))))))))
    (pss_cons (ps_asg (pe_callB call_len_seq (by rfl) T.z_len PySem.boot_len (pa_cons (pv 2) pa_nil)) (pg_sub (pv 0) pe_int set_list (fun _ => rfl)))
    (pss_one (ps_ret (pe_op op_mod (pe_callTy call_int1 (by rfl) T.z_int boot_int (pa_cons (pe_callS G2 hr (by rfl) T.g__law_mixed T.fu__law_mixed.kp T.b__law_mixed (fun σ => passAt (W := wE E) (takes_of rfl rfl rfl rfl) σ) (pa_cons (pe_ix ix_list (pv 0) pe_int (fun _ _ => rfl)) (pa_cons (pe_ix ix_list (pv 0) pe_int (fun _ _ => rfl)) pa_nil))) pa_nil)) (pv 1)))))))), ?_⟩
  obtain ⟨_, F0, as, s0, hx, off, sto, ra, h⟩ := h
  unfold m__law_take m_take at h
  split at h
  · rename_i n
    split at h
    · rename_i hl
      cases ra with
      | tok r1 =>
        cases r1 with
        | d r2 r3 =>
          cases r3
          cases r2
          have off' : ∀ a ∈ p :: c :: cs, F0 a = none := off
          have sto : StoAt p c cs s0 H := sto
          -- cells = store[0]
          refine ⟨_, rfl, p, _, 0, _, rfl, rfl, .of sto.hp, rfl, ?_⟩
          -- store[4] = store[4] + 1
          refine ⟨_, rfl, p, _, 4, _, rfl, rfl, .of sto.hp, rfl, s0.steps, 1, rfl, rfl, ?_⟩
          refine ⟨_, rfl, p, _, 4, 4, rfl, rfl, sto.hp, rfl, ?_⟩
          have fin : ∀ r s1 H1, StoAt p c cs s1 H1 → Fr (p :: c :: cs) H H1 → takeF cs n s0 = (r, s1) → Q (.int r) H1 := fun r s1 H1 z1 z2 z3 => by
            rw [z3] at h
            exact h F0 H1 (Fr.pst (B := Bsto p c cs) z2 hx off z1) _ (.int r)
          have st1 : StoAt p c cs { s0 with steps := s0.steps + 1 } (upd H p (.lst (stoV c { s0 with steps := s0.steps + 1 }))) := sto.st rfl sto.pz
          have fr1 : Fr (p :: c :: cs) H (upd H p (.lst (stoV c { s0 with steps := s0.steps + 1 }))) := Fr.refl.upd List.mem_cons_self
          show tSeq _ _ _ _ (upd H p (.lst (stoV c { s0 with steps := s0.steps + 1 })))
          generalize upd H p (.lst (stoV c { s0 with steps := s0.steps + 1 })) = H1 at st1 fr1
          -- if count < 2
          refine ⟨_, rfl, n, 2, rfl, rfl, _, rfl, ite2 (fun e => ?_) (fun e => ?_)⟩
          · have e' : n < 2 := of_decide_eq_true e
            exact fin 0 _ H1 st1 fr1 (by unfold takeF; rw [if_pos e'])
          have e' : ¬ n < 2 := fun z => e (decide_eq_true z)
          -- the loop
          have hpos := sto.pz
          have hcl := sto.cl
          refine ⟨_, rfl, p, _, 1, _, rfl, rfl, .of st1.hp, rfl, _, rfl, c, _, rfl, .inl (.of st1.hc), s0.pos, ((cs.map V.ref).length : Nat), rfl, ⟨by omega, by omega, by rw [List.length_map]; omega, by rw [List.length_map]; omega⟩, ?_⟩
          refine for_range (lo := s0.pos) (n := (((cs.map V.ref).length : Nat) - s0.pos).toNat) (fun i σ H' => ∃ x3 x4 x5 s, σ = [some (.ref p), some (.int n), some (.ref c), x3, x4, x5] ∧ StoAt p c cs s H' ∧ Fr (p :: c :: cs) H H' ∧ takeL cs.length n (cs.drop (s0.pos.toNat + i)) (s0.pos + i) s = takeF cs n s0)
            ⟨none, none, none, _, rfl, st1, fr1, ?_⟩ ?_ ?_
          · unfold takeF
            rw [if_neg e']
            simp
          · rintro i σ H2 hi ⟨x3, x4, x5, s2, rfl, st2, fr2, q2⟩
            rw [List.length_map] at hi
            have hj : s0.pos.toNat + i < cs.length := by omega
            have hja : cs[s0.pos.toNat + i]? = some cs[s0.pos.toNat + i] := List.getElem?_eq_getElem hj
            generalize cs[s0.pos.toNat + i] = a at hja
            have ha : a ∈ cs := List.mem_of_getElem? hja
            have hc0 : s0.pos + (i : Int) = ((s0.pos.toNat + i : Nat) : Int) := by omega
            have hd : cs.drop (s0.pos.toNat + i) = a :: cs.drop (s0.pos.toNat + (i + 1)) := by
              obtain ⟨h1, h2⟩ := List.getElem?_eq_some_iff.mp hja
              rw [List.drop_eq_getElem_cons h1, h2]
              rfl
            rw [hd] at q2
            unfold takeL at q2
            have na : a ≠ p := fun z => sto.n2 (z ▸ ha)
            -- cell = cells[at]
            refine ⟨_, rfl, _, rfl, c, _, s0.pos + i, _, rfl, rfl, .of st2.hc, idx_cell hja hc0, ?_⟩
            -- store[1] = at
            refine ⟨_, rfl, _, rfl, p, _, 1, 1, rfl, rfl, st2.hp, rfl, ?_⟩
            have st3 : StoAt p c cs { s2 with pos := s0.pos + i } (upd H2 p (.lst ((stoV c s2).set 1 (.int (s0.pos + i))))) := st2.st (s' := { s2 with pos := s0.pos + i }) rfl ⟨by show 0 ≤ s0.pos + (i : Int); omega, by show s0.pos + (i : Int) ≤ _; omega⟩
            have fr3 : Fr (p :: c :: cs) H (upd H2 p (.lst ((stoV c s2).set 1 (.int (s0.pos + i))))) := fr2.upd List.mem_cons_self
            dsimp only
            generalize upd H2 p (.lst ((stoV c s2).set 1 (.int (s0.pos + i)))) = H3 at st3 fr3
            have hx3 := st3.hs a ha
            have hn0 : 0 < n := by omega
            refine sq_and (decide (V.int (s2.m a).1 = V.int 1)) (decide (0 < (s2.m a).2)) (fun Q q => ⟨_, rfl, a, _, 0, _, rfl, rfl, .of hx3, rfl, rfl, _, rfl, q⟩) (fun Q q => ⟨_, rfl, a, _, 1, _, rfl, rfl, .of hx3, rfl, _, _, rfl, rfl, _, rfl, q⟩) (fun b => ?_) (fun b => ?_)
            · obtain ⟨b1, b2⟩ := Bool.and_eq_true_iff.mp b
              have b1' : (s2.m a).1 = 1 := V.int.inj (of_decide_eq_true b1)
              have b2' := of_decide_eq_true b2
              rw [if_pos ⟨b1', b2'⟩] at q2
              refine ⟨_, rfl, a, _, 1, _, rfl, rfl, .of hx3, rfl, .inl ⟨_, rfl, _, rfl, _, n, rfl, rfl, hn0, ?_⟩⟩
              refine ⟨_, rfl, a, _, 1, _, rfl, rfl, .of hx3, rfl, _, rfl, _, n, rfl, rfl, ⟨hn0, hl⟩, _, rfl, a, _, 1, 1, rfl, rfl, hx3, rfl, ?_⟩
              refine ⟨_, rfl, ?_⟩
              exact fin _ _ _ (st3.cell (x := ((s2.m a).1, (s2.m a).2 / n)) ha) (fr3.upd (List.mem_cons_of_mem _ (List.mem_cons_of_mem _ ha))) q2.symm
            · have nb : ¬ ((s2.m a).1 = 1 ∧ 0 < (s2.m a).2) := fun z => by
                rw [decide_eq_true z.2, decide_eq_true (congrArg V.int z.1)] at b
                cases b
              rw [if_neg nb] at q2
              refine sq_and (decide (V.int (s2.m a).1 = V.int 0)) (decide (s2.tries < 4)) (fun Q q => ⟨_, rfl, a, _, 0, _, rfl, rfl, .of hx3, rfl, rfl, _, rfl, q⟩) (fun Q q => ⟨_, rfl, p, _, 2, _, rfl, rfl, .of st3.hp, rfl, _, _, rfl, rfl, _, rfl, q⟩) (fun b => ?_) (fun b => ?_)
              · obtain ⟨b1, b2⟩ := Bool.and_eq_true_iff.mp b
                have b1' : (s2.m a).1 = 0 := V.int.inj (of_decide_eq_true b1)
                have b2' := of_decide_eq_true b2
                rw [if_pos ⟨b1', b2'⟩] at q2
                refine ⟨_, rfl, p, _, 2, _, rfl, rfl, .of st3.hp, rfl, s2.tries, 1, rfl, rfl, _, rfl, p, _, 2, 2, rfl, rfl, st3.hp, rfl, ?_⟩
                have st4 : StoAt p c cs { s2 with pos := s0.pos + i, tries := s2.tries + 1 } (upd H3 p (.lst ((stoV c { s2 with pos := s0.pos + i }).set 2 (.int (s2.tries + 1))))) := st3.st (s' := { s2 with pos := s0.pos + i, tries := s2.tries + 1 }) rfl st3.pz
                have fr4 : Fr (p :: c :: cs) H (upd H3 p (.lst ((stoV c { s2 with pos := s0.pos + i }).set 2 (.int (s2.tries + 1))))) := fr3.upd List.mem_cons_self
                dsimp only
                generalize upd H3 p (.lst ((stoV c { s2 with pos := s0.pos + i }).set 2 (.int (s2.tries + 1)))) = H4 at st4 fr4
                have hx4 := st4.hs a ha
                refine ⟨_, rfl, a, _, 1, _, rfl, rfl, .of hx4, rfl, _, rfl, _, 7919, rfl, rfl, .inr ⟨by decide, by decide⟩, _, _, rfl, rfl, _, rfl, p, _, 2, _, rfl, rfl, .of st4.hp, rfl, _, _, rfl, .inl ⟨_, rfl, _, rfl, _, n, rfl, rfl, hn0, ?_⟩⟩
                exact fin _ _ _ st4 fr4 q2.symm
              · have nb : ¬ ((s2.m a).1 = 0 ∧ s2.tries < 4) := fun z => by
                  rw [decide_eq_true z.2, decide_eq_true (congrArg V.int z.1)] at b
                  cases b
                rw [if_neg nb] at q2
                refine ⟨_, rfl, p, _, 2, 2, rfl, rfl, st3.hp, rfl, ?_⟩
                refine ⟨_, _, _, { s2 with pos := s0.pos + i, tries := 0 }, rfl, st3.st (s' := { s2 with pos := s0.pos + i, tries := 0 }) rfl st3.pz, fr3.upd List.mem_cons_self, ?_⟩
                rw [show s0.pos + ((i + 1 : Nat) : Int) = s0.pos + i + 1 by omega]
                exact q2
          · rintro σ H2 ⟨x3, x4, x5, s2, rfl, st2, fr2, q2⟩
            rw [List.length_map] at q2
            have hd : cs.drop (s0.pos.toNat + (((cs.length : Nat) : Int) - s0.pos).toNat) = [] := List.drop_eq_nil_of_le (by omega)
            rw [hd] at q2
            unfold takeL at q2
            have hn0 : 0 < n := by omega
            have eL : (((cs.map V.ref).length : Nat) : Int) = (cs.length : Nat) := by rw [List.length_map]
            refine ⟨_, rfl, c, _, rfl, .inl (.of st2.hc), _, rfl, p, _, 1, 1, rfl, rfl, st2.hp, rfl, ?_⟩
            have st3 : StoAt p c cs { s2 with pos := ((cs.map V.ref).length : Nat) } (upd H2 p (.lst ((stoV c s2).set 1 (.int ((cs.map V.ref).length : Nat))))) := st2.st (s' := { s2 with pos := ((cs.map V.ref).length : Nat) }) rfl ⟨by show (0 : Int) ≤ ((cs.map V.ref).length : Nat); omega, by show (((cs.map V.ref).length : Nat) : Int) ≤ _; omega⟩
            have fr3 : Fr (p :: c :: cs) H (upd H2 p (.lst ((stoV c s2).set 1 (.int ((cs.map V.ref).length : Nat))))) := fr2.upd List.mem_cons_self
            dsimp only
            generalize upd H2 p (.lst ((stoV c s2).set 1 (.int ((cs.map V.ref).length : Nat)))) = H3 at st3 fr3
            refine ⟨_, rfl, p, _, 3, _, rfl, rfl, .of st3.hp, rfl, _, rfl, p, _, 4, _, rfl, rfl, .of st3.hp, rfl, _, _, rfl, .inl ⟨_, rfl, _, rfl, _, n, rfl, rfl, hn0, ?_⟩⟩
            exact fin _ _ _ st3 fr3 (by rw [← q2, eL])
    · exact h.elim
  · exact h.elim

theorem ok__law_number (T : Tx K mg) (p c : Addr) (cs : List Addr) : FnOk Pg w K mg base (L2.CX Pg w) 3 T.a__law_number T.d__law_number ["store", "least", "high"] (spM mg (Bsto p c cs) 3 (m__law_number cs)) := by
  unfold m__law_number
  exact fn_mi T.fu__law_number sc__law_number (Bsto p c cs) (b__law_number cs) (fun cdv A outer s H E F0 hr tk po =>
  (ss_cons (s_if (t_cmp o_le p_le (x_var 2) (x_var 1) (nomark _))
  (ss_one (s_retV 1))
  ss_nil)
  (ss_cons (s_set sc__law_number.nd (x_call (ok__law_take T _ _ _) (by exact hr.mono (by omega)) T.g__law_take T.fu__law_take.kp T.b__law_take tk (a_tok 0 (a_cons x_int a_nil))))
  (ss_cons (s_if (t_cmp (o_eq hr) (p_eq _) (x_var 3) x_int (nomark _))
  (ss_one (s_retV 1))
  ss_nil)
  (ss_cons (s_if (t_cmp (o_eq hr) (p_eq _) (x_var 3) x_int (nomark _))
  (ss_one (s_retV 2))
  ss_nil)
  (ss_one (s_ret (x_op o_add (p_add _) (x_var 1) (x_call (ok__law_take T _ _ _) (by exact hr.mono (by omega)) T.g__law_take T.fu__law_take.kp T.b__law_take tk (a_tok 0 (a_cons (x_op o_add (p_add _) (x_op o_sub p_sub (x_var 2) (x_var 1)) x_int) a_nil)))))))))))
theorem ok__law_size (T : Tx K mg) (p c : Addr) (cs : List Addr) : FnOk Pg w K mg base (L2.CX Pg w) 3 T.a__law_size T.d__law_size ["store", "least", "usual", "high"] (spM mg (Bsto p c cs) 4 (m__law_size cs)) := by
  unfold m__law_size
  exact fn_mi T.fu__law_size sc__law_size (Bsto p c cs) (b__law_size cs) (fun cdv A outer s H E F0 hr tk po =>
  (ss_cons (s_set sc__law_size.nd (x_call (ok__law_take T _ _ _) (by exact hr.mono (by omega)) T.g__law_take T.fu__law_take.kp T.b__law_take tk (a_tok 0 (a_cons x_int a_nil))))
  (ss_cons (s_if (t_cmp o_lt p_lt (x_var 4) x_int (nomark _))
  (ss_one (s_retV 1))
  ss_nil)
  (ss_cons (s_if (t_cmp o_lt p_lt (x_var 4) x_int (nomark _))
  (ss_one (s_retV 2))
  ss_nil)
  (ss_cons (s_if (t_cmp (o_eq hr) (p_eq _) (x_var 4) x_int (nomark _))
  (ss_one (s_retV 3))
  ss_nil)
  (ss_cons (s_if (t_cmp (o_eq hr) (p_eq _) (x_var 4) x_int (nomark _))
  (ss_one (s_ret (x_op o_add (p_add _) (x_var 1) (x_call (ok__law_take T _ _ _) (by exact hr.mono (by omega)) T.g__law_take T.fu__law_take.kp T.b__law_take tk (a_tok 0 (a_cons (x_op o_add (p_add _) (x_op o_sub p_sub (x_var 3) (x_var 1)) x_int) a_nil))))))
  ss_nil)
  (ss_one (s_ret (x_op o_add (p_add _) (x_var 1) (x_call (ok__law_take T _ _ _) (by exact hr.mono (by omega)) T.g__law_take T.fu__law_take.kp T.b__law_take tk (a_tok 0 (a_cons (x_op o_add (p_add _) (x_op o_sub p_sub (x_var 2) (x_var 1)) x_int) a_nil))))))))))))
theorem ok__law_unlike (T : Tx K mg) (p c : Addr) (cs : List Addr) : FnOk Pg w K mg base (L2.CX Pg w) 3 T.a__law_unlike T.d__law_unlike ["store", "high", "count"] (spM mg (Bsto p c cs) 3 (m__law_unlike cs)) := by
  unfold m__law_unlike
  exact fn_mi T.fu__law_unlike sc__law_unlike (Bsto p c cs) (b__law_unlike cs) (fun cdv A outer s H E F0 hr tk po =>
  (ss_cons (s_setF sc__law_unlike.nd (f_lst a_nil))
  (ss_cons (s_for po (by rfl) (i_range1 T.z_range (a_cons (x_cB (call_min2 (by rfl)) p_min2 T.z_min boot_min (a_cons (x_var 2) (a_cons (x_var 1) a_nil))) a_nil)) (g_name sc__law_unlike.nd)
  (ss_cons (s_set sc__law_unlike.nd (x_call (ok__law_take T _ _ _) (by exact hr.mono (by omega)) T.g__law_take T.fu__law_take.kp T.b__law_take tk (a_tok 0 (a_cons (x_var 1) a_nil))))
  (ss_cons (s_for po (by rfl) (i_range1 T.z_range (a_cons (x_oB 3 call_len_seq (p_lenO _) T.z_len PySem.boot_len) a_nil)) (g_name sc__law_unlike.nd)
  (ss_cons (s_if (t_inO 3 (o_notIn hr) (p_notInO _) (x_var 5))
  (ss_one s_brk)
  ss_nil)
  (ss_one (s_set sc__law_unlike.nd (x_op o_mod p_mod (x_cT call_int1 p_int T.z_int boot_int (a_cons (x_op o_add (p_add _) (x_var 5) x_int) a_nil)) (x_var 1))))))
  (ss_one (s_expr (x_meth 3 PySem.F.slot_list_append PySem.F.type_list_append mt_append p_append (a_cons (x_var 5) a_nil)))))))
  (ss_one (s_retV 3)))))
theorem ok__law_power (T : Tx K mg) : FnOk Pg w K mg base (L2.CX Pg w) 1 T.a__law_power T.d__law_power ["base", "count"] (spM mg B0 2 (m__law_power)) := by
  unfold m__law_power
  exact fn_mi T.fu__law_power sc__law_power B0 b__law_power (fun cdv A outer s H E F0 hr tk po =>
  (ss_cons (s_set sc__law_power.nd x_int)
  (ss_cons (s_for po (by rfl) (i_range1 T.z_range (a_cons (x_var 1) a_nil)) (g_name sc__law_power.nd)
  (ss_one (s_set sc__law_power.nd (x_op o_mul p_mul (x_var 2) (x_var 0)))))
  (ss_one (s_retV 2)))))
theorem ok__law_kind (T : Tx K mg) : FnOk Pg w K mg base (L2.CX Pg w) 1 T.a__law_kind T.d__law_kind ["value"] (spM mg B0 1 (m__law_kind)) := by
  unfold m__law_kind
  exact fn_mi T.fu__law_kind sc__law_kind B0 b__law_kind (fun cdv A outer s H E F0 hr tk po =>
  (ss_cons (s_if (t_isN (x_var 0))
  (ss_one (s_ret x_int))
  ss_nil)
  (ss_cons (s_if (t_val (x_isD T.z_isinstance (x_var 0) T.z_bool boot_bool))
  (ss_one (s_ret x_int))
  ss_nil)
  (ss_cons (s_if (t_val (x_isD T.z_isinstance (x_var 0) T.z_int boot_int))
  (ss_one (s_ret x_int))
  ss_nil)
  (ss_cons (s_if (t_val (x_isD T.z_isinstance (x_var 0) T.z_str boot_str))
  (ss_one (s_ret x_int))
  ss_nil)
  (ss_cons (s_if (t_val (x_isD T.z_isinstance (x_var 0) T.z_tuple boot_tuple))
  (ss_one (s_ret x_int))
  ss_nil)
  (ss_cons (s_if (t_val (x_isD T.z_isinstance (x_var 0) T.z_list boot_list))
  (ss_one (s_ret x_int))
  ss_nil)
  (ss_one (s_ret x_int)))))))))
theorem ok__law_same (T : Tx K mg) : FnOk Pg w K mg base (L2.CX Pg w) 2 T.a__law_same T.d__law_same ["left", "right"] (spM mg B0 2 (m__law_same)) := by
  unfold m__law_same
  exact fn_mi T.fu__law_same sc__law_same B0 b__law_same (fun cdv A outer s H E F0 hr tk po =>
  (ss_cons (s_setF sc__law_same.nd (f_lst (a_cons (x_tup (a_cons (x_var 0) (a_cons (x_var 1) a_nil))) a_nil)))
  (ss_cons (s_for po (by rfl) (i_range1 T.z_range (a_cons x_int a_nil)) (g_name sc__law_same.nd)
  (ss_cons (s_if (t_cmp (o_eq hr) (p_eq _) (x_oB 2 call_len_seq (p_lenO _) T.z_len PySem.boot_len) x_int (nomark _))
  (ss_one (s_ret x_bl))
  ss_nil)
  (ss_cons (s_asg (x_meth0 2 PySem.F.slot_list_pop PySem.F.type_list_pop mt_pop p_pop) (g_tup (by rfl) (gs_cons (g_name sc__law_same.nd) (gs_cons (g_name sc__law_same.nd) gs_nil)) (gC_len (gC_len gE_len))))
  (ss_cons (s_set sc__law_same.nd (x_call (ok__law_kind T) (by exact hr.mono (by omega)) T.g__law_kind T.fu__law_kind.kp T.b__law_kind tk (a_cons (x_var 4) a_nil)))
  (ss_cons (s_if (t_pw (t_or (t_cmp (o_eq hr) (p_eq _) (x_var 6) x_int (nomark _)) (t_or1 (t_cmp (o_ne hr) (p_ne _) (x_var 6) (x_call (ok__law_kind T) (by exact hr.mono (by omega)) T.g__law_kind T.fu__law_kind.kp T.b__law_kind tk (a_cons (x_var 5) a_nil)) (nomark _)))))
  (ss_one (s_ret x_bl))
  ss_nil)
  (ss_one (s_if (t_cmp o_lt p_lt (x_var 6) x_int (nomark _))
  (ss_one (s_if (t_cmp (o_ne hr) (p_ne _) (x_var 4) (x_var 5) (nomark _))
  (ss_one (s_ret x_bl))
  ss_nil))
  (ss_one (s_if (t_cmp (o_ne hr) (p_ne _) (x_cB call_len_seq (p_len _) T.z_len PySem.boot_len (a_cons (x_var 4) a_nil)) (x_cB call_len_seq (p_len _) T.z_len PySem.boot_len (a_cons (x_var 5) a_nil)) (nomark _))
  (ss_one (s_ret x_bl))
  (ss_one (s_for po (by rfl) (i_range1 T.z_range (a_cons (x_cB call_len_seq (p_len _) T.z_len PySem.boot_len (a_cons (x_var 4) a_nil)) a_nil)) (g_name sc__law_same.nd)
  (ss_one (s_expr (x_meth 2 PySem.F.slot_list_append PySem.F.type_list_append mt_append p_append (a_cons (x_tup (a_cons (x_ix (x_var 4) (x_var 7)) (a_cons (x_ix (x_var 5) (x_var 7)) a_nil))) a_nil)))))))))))))))
  (ss_one (s_ret x_bl)))))
theorem ok__law_is_whole (T : Tx K mg) : FnOk Pg w K mg base (L2.CX Pg w) 1 T.a__law_is_whole T.d__law_is_whole ["value"] (spM mg B0 1 (m__law_is_whole)) := by
  unfold m__law_is_whole
  exact fn_mi T.fu__law_is_whole sc__law_is_whole B0 b__law_is_whole (fun cdv A outer s H E F0 hr tk po =>
  (ss_one (s_ret (x_and (x_isD T.z_isinstance (x_var 0) T.z_int boot_int) (x_one (x_not (x_isD T.z_isinstance (x_var 0) T.z_bool boot_bool)))))))
theorem ok__law_mask_word (T : Tx K mg) : FnOk Pg w K mg base (L2.CX Pg w) 1 T.a__law_mask_word T.d__law_mask_word ["mask", "n"] (spM mg B0 2 (m__law_mask_word)) := by
  unfold m__law_mask_word
  exact fn_mi T.fu__law_mask_word sc__law_mask_word B0 b__law_mask_word (fun cdv A outer s H E F0 hr tk po =>
  (ss_cons (s_setF sc__law_mask_word.nd (f_lst a_nil))
  (ss_cons (s_set sc__law_mask_word.nd (x_var 0))
  (ss_cons (s_for po (by rfl) (i_range1 T.z_range (a_cons (x_var 1) a_nil)) (g_name sc__law_mask_word.nd)
  (ss_cons (s_if (t_cmp (o_eq hr) (p_eq _) (x_op o_mod p_mod (x_cT call_int1 p_int T.z_int boot_int (a_cons (x_var 3) a_nil)) x_int) x_int (nomark _))
  (ss_one (s_expr (x_meth 2 PySem.F.slot_list_append PySem.F.type_list_append mt_append p_append (a_cons (x_var 4) a_nil))))
  ss_nil)
  (ss_one (s_set sc__law_mask_word.nd (x_op o_div p_div (x_var 3) x_int)))))
  (ss_one (s_ret (x_oT 2 call_tuple_of (p_tupO _) T.z_tuple boot_tuple)))))))
theorem ok__law_bent_list (T : Tx K mg) (p c : Addr) (cs : List Addr) : FnOk Pg w K mg base (L2.CX Pg w) 3 T.a__law_bent_list T.d__law_bent_list ["store", "rows", "value", "cap"] (spM mg (Bsto p c cs) 4 (m__law_bent_list cs)) := by
  unfold m__law_bent_list
  exact fn_mi T.fu__law_bent_list sc__law_bent_list (Bsto p c cs) (b__law_bent_list cs) (fun cdv A outer s H E F0 hr tk po =>
  (ss_cons (s_setF sc__law_bent_list.nd (f_cT call_list_of (p_lst _) T.z_list boot_list (a_cons (x_var 1) a_nil)))
  (ss_cons (s_set sc__law_bent_list.nd (x_call (ok__law_take T _ _ _) (by exact hr.mono (by omega)) T.g__law_take T.fu__law_take.kp T.b__law_take tk (a_tok 0 (a_cons (x_op o_add (p_add _) (x_oB 4 call_len_seq (p_lenO _) T.z_len PySem.boot_len) (x_cT call_int1 p_int T.z_int boot_int (a_cons (x_cmp o_lt p_lt (x_oB 4 call_len_seq (p_lenO _) T.z_len PySem.boot_len) (x_var 3) (nomark _)) a_nil))) a_nil))))
  (ss_cons (s_if (t_cmp (o_eq hr) (p_eq _) (x_var 5) (x_oB 4 call_len_seq (p_lenO _) T.z_len PySem.boot_len) (nomark _))
  (ss_one (s_expr (x_meth 4 PySem.F.slot_list_append PySem.F.type_list_append mt_append p_append (a_cons (x_var 2) a_nil))))
  (ss_one (s_setIx 4 (x_var 2) (x_var 5))))
  (ss_one (s_ret (x_tup (a_cons (x_var 4) (a_cons (x_var 5) a_nil)))))))))
theorem ok__law_book (T : Tx K mg) : FnOk Pg w K mg base (L2.CX Pg w) 1 T.a__law_book T.d__law_book ["n", "words"] (spM mg B0 2 (m__law_book)) := by
  unfold m__law_book
  exact fn_mi T.fu__law_book sc__law_book B0 b__law_book (fun cdv A outer s H E F0 hr tk po =>
  (ss_one (s_ret (x_tup (a_cons (x_var 0) (a_cons (x_tup (a_cons (x_cT call_tuple_of (p_tup _) T.z_tuple boot_tuple (a_cons (x_fz (f_lc [("word", 2)] (by rfl) sc__law_book.nd (i_seq (x_var 1)) (blkOk_by (by kernel_rfl)) (fun _ _ _ _ _ => (g_name sc__law_book.nd)) (fun _ _ _ _ _ => ts_nil) (fun _ _ _ _ _ => (x_tup (a_cons (x_var 2) (a_cons x_int a_nil)))) (go_name 2))) a_nil)) a_nil)) a_nil))))))
theorem ok__law_octets (T : Tx K mg) (p c : Addr) (cs : List Addr) : FnOk Pg w K mg base (L2.CX Pg w) 4 T.a__law_octets T.d__law_octets ["store"] (spM mg (Bsto p c cs) 1 (m__law_octets cs)) := by
  unfold m__law_octets
  exact fn_mi T.fu__law_octets sc__law_octets (Bsto p c cs) (b__law_octets cs) (fun cdv A outer s H E F0 hr tk po =>
  (ss_cons (s_set sc__law_octets.nd (x_call (ok__law_size T _ _ _) (by exact hr.mono (by omega)) T.g__law_size T.fu__law_size.kp T.b__law_size tk (a_tok 0 (a_cons x_int (a_cons x_int (a_cons x_int a_nil))))))
  (ss_cons (s_set sc__law_octets.nd (x_call (ok__law_number T _ _ _) (by exact hr.mono (by omega)) T.g__law_number T.fu__law_number.kp T.b__law_number tk (a_tok 0 (a_cons x_int (a_cons x_int a_nil)))))
  (ss_cons (s_if (t_cmp (o_eq hr) (p_eq _) (x_call (ok__law_take T _ _ _) (by exact hr.mono (by omega)) T.g__law_take T.fu__law_take.kp T.b__law_take tk (a_tok 0 (a_cons x_int a_nil))) x_int (nomark _))
  (ss_one (s_ret (x_op o_mul p_mul (x_fz (f_lst (a_cons (x_var 2) a_nil))) (x_var 1))))
  ss_nil)
  (ss_one (s_retF (f_lc [("step", 3)] (by rfl) sc__law_octets.nd (i_range1 T.z_range (a_cons (x_var 1) a_nil)) (blkOk_by (by kernel_rfl)) (fun _ _ _ _ _ => (g_name sc__law_octets.nd)) (fun _ _ _ _ _ => ts_nil) (fun _ _ _ _ _ => (x_call (ok__law_number T _ _ _) (by exact hr.mono (by omega)) T.g__law_number T.fu__law_number.kp T.b__law_number takes0 (a_tok 0 (a_cons x_int (a_cons x_int a_nil))))) (go_name 3))))))))
theorem ok__law_digits (T : Tx K mg) : FnOk Pg w K mg base (L2.CX Pg w) 1 T.a__law_digits T.d__law_digits ["value", "radix"] (spM mg B0 2 (m__law_digits)) := by
  unfold m__law_digits
  exact fn_mi T.fu__law_digits sc__law_digits B0 b__law_digits (fun cdv A outer s H E F0 hr tk po =>
  (ss_cons (s_setF sc__law_digits.nd (f_lst a_nil))
  (ss_cons (s_set sc__law_digits.nd (x_var 0))
  (ss_cons (s_for po (by rfl) (i_range1 T.z_range (a_cons x_int a_nil)) (g_name sc__law_digits.nd)
  (ss_cons (s_if (t_cmp (o_eq hr) (p_eq _) (x_var 3) x_int (nomark _))
  (ss_one s_brk)
  ss_nil)
  (ss_cons (s_expr (x_meth 2 PySem.F.slot_list_append PySem.F.type_list_append mt_append p_append (a_cons (x_op o_mod p_mod (x_cT call_int1 p_int T.z_int boot_int (a_cons (x_var 3) a_nil)) (x_var 1)) a_nil)))
  (ss_one (s_set sc__law_digits.nd (x_op o_div p_div (x_var 3) (x_var 1)))))))
  (ss_one (s_retV 2))))))
theorem ok__law_value (T : Tx K mg) : FnOk Pg w K mg base (L2.CX Pg w) 1 T.a__law_value T.d__law_value ["octets"] (spM mg B0 1 (m__law_value)) := by
  unfold m__law_value
  exact fn_mi T.fu__law_value sc__law_value B0 b__law_value (fun cdv A outer s H E F0 hr tk po =>
  (ss_cons (s_set sc__law_value.nd x_int)
  (ss_cons (s_for po (by rfl) (i_seq (x_var 0)) (g_name sc__law_value.nd)
  (ss_one (s_set sc__law_value.nd (x_op o_add (p_add _) (x_op o_mul p_mul (x_var 1) x_int) (x_var 2)))))
  (ss_one (s_retV 1)))))
theorem ok__law_read (T : Tx K mg) : FnOk Pg w K mg base (L2.CX Pg w) 2 T.a__law_read T.d__law_read ["base", "digits"] (spM mg B0 2 (m__law_read)) := by
  unfold m__law_read
  exact fn_mi T.fu__law_read sc__law_read B0 b__law_read (fun cdv A outer s H E F0 hr tk po =>
  (ss_cons (s_for po (by rfl) (i_range1 T.z_range (a_cons (x_cB call_len_seq (p_len _) T.z_len PySem.boot_len (a_cons (x_var 1) a_nil)) a_nil)) (g_name sc__law_read.nd)
  (ss_one (s_if (t_pw (t_or (t_not (t_val (x_call (ok__law_is_whole T) (by exact hr.mono (by omega)) T.g__law_is_whole T.fu__law_is_whole.kp T.b__law_is_whole tk (a_cons (x_ix (x_var 1) (x_var 2)) a_nil)))) (t_or (t_cmp o_lt p_lt (x_ix (x_var 1) (x_var 2)) x_int (nomark _)) (t_or1 (t_cmp o_ge p_ge (x_ix (x_var 1) (x_var 2)) (x_var 0) (nomark _))))))
  (ss_one (s_ret (x_tup (a_cons x_str (a_cons (x_var 2) a_nil)))))
  ss_nil)))
  (ss_cons (s_if (t_cmp (o_notIn hr) (p_notIn _) (x_op o_sub p_sub (x_var 0) x_int) (x_var 1) rfl)
  (ss_one (s_ret (x_tup (a_cons x_str a_nil))))
  ss_nil)
  (ss_cons (s_set sc__law_read.nd (x_ix (x_fz (f_lc [("at", 2)] (by rfl) sc__law_read.nd (i_range1 T.z_range (a_cons (x_cB call_len_seq (p_len _) T.z_len PySem.boot_len (a_cons (x_var 1) a_nil)) a_nil)) (blkOk_by (by kernel_rfl)) (fun _ _ _ _ _ => (g_name sc__law_read.nd)) (fun _ _ _ _ _ => (ts_one (t_cmp (o_eq hr) (p_eq _) (x_ix (x_var 1) (x_var 2)) (x_op o_sub p_sub (x_var 0) x_int) (nomark _)))) (fun _ _ _ _ _ => (x_var 2)) (go_name 2))) x_int))
  (ss_cons (s_if (t_cmp o_lt p_lt (x_op o_add (p_add _) (x_var 3) x_int) (x_cB call_len_seq (p_len _) T.z_len PySem.boot_len (a_cons (x_var 1) a_nil)) (nomark _))
  (ss_one (s_ret (x_tup (a_cons x_str (a_cons (x_op o_add (p_add _) (x_var 3) x_int) a_nil)))))
  ss_nil)
  (ss_cons (s_if (t_pw (t_or (t_cmp (o_eq hr) (p_eq _) (x_var 3) x_int (nomark _)) (t_or1 (t_cmp (o_eq hr) (p_eq _) (x_ix (x_var 1) (x_op o_sub p_sub (x_var 3) x_int)) x_int (nomark _)))))
  (ss_one (s_ret (x_tup (a_cons x_str a_nil))))
  ss_nil)
  (ss_cons (s_set sc__law_read.nd x_int)
  (ss_cons (s_for po (by rfl) (i_range1 T.z_range (a_cons (x_var 3) a_nil)) (g_name sc__law_read.nd)
  (ss_one (s_set sc__law_read.nd (x_op o_add (p_add _) (x_op o_mul p_mul (x_var 4) (x_op o_sub p_sub (x_var 0) x_int)) (x_ix (x_var 1) (x_op o_sub p_sub (x_op o_sub p_sub (x_var 3) x_int) (x_var 2)))))))
  (ss_cons (s_set sc__law_read.nd (x_call (ok__law_digits T) (by exact hr.mono (by omega)) T.g__law_digits T.fu__law_digits.kp T.b__law_digits tk (a_cons (x_var 4) (a_cons x_int a_nil))))
  (ss_cons (s_if (t_cmp (o_ne hr) (p_ne _) (x_ix (x_var 5) (x_un o_neg p_neg x_int)) x_int (nomark _))
  (ss_one (s_ret (x_tup (a_cons x_str a_nil))))
  ss_nil)
  (ss_cons (s_if (t_cmp o_gt p_gt (x_cB call_len_seq (p_len _) T.z_len PySem.boot_len (a_cons (x_var 5) a_nil)) x_int (nomark _))
  (ss_one (s_ret (x_tup (a_cons x_str (a_cons x_str (a_cons x_int a_nil))))))
  ss_nil)
  (ss_one (s_ret (x_tup (a_cons x_str (a_cons (x_cT call_tuple_of (p_tup _) T.z_tuple boot_tuple (a_cons (x_sl (x_fz (f_lRev (by rfl) T.z_list T.z_reversed (x_var 5))) (sp_1 x_int) sp_0) a_nil)) a_nil))))))))))))))))
theorem ok__law_asked_octets (T : Tx K mg) : FnOk Pg w K mg base (L2.CX Pg w) 35 T.a__law_asked_octets T.d__law_asked_octets ["base", "digits"] (spM mg B0 2 (m__law_asked_octets)) := by
  unfold m__law_asked_octets
  exact fn_mi T.fu__law_asked_octets sc__law_asked_octets B0 b__law_asked_octets (fun cdv A outer s H E F0 hr tk po =>
  (ss_one (s_try sc__law_asked_octets.nd tk (fun W1 pn xe tk1 po1 => (ss_one (s_ret (x_tup (a_cons x_str (a_cons (x_call (ok_octets_of T) (by exact hr.mono (by omega)) T.g_octets_of T.fu_octets_of.kp T.b_octets_of tk1 (a_cons (x_var 0) (a_cons (x_var 1) a_nil))) a_nil))))))
  (.named ⟨rfl, by decide, .inl T.g_BadDigit⟩ (i := 2) rfl rfl (T.xm_BadDigit) (fun a oe cls dd pn hz hf => (ss_one (s_ret (x_tup (a_cons x_str (a_cons (x_att 2 T.xf_BadDigit T.nf_BadDigit_place hz hf T.g_BadDigit) a_nil)))))) (.named ⟨rfl, by decide, .inl T.g_NoEnd⟩ (i := 2) rfl rfl (T.xm_NoEnd) (fun a oe cls dd pn hz hf => (ss_one (s_ret (x_tup (a_cons x_str a_nil))))) (.named ⟨rfl, by decide, .inl T.g_Behind⟩ (i := 2) rfl rfl (T.xm_Behind) (fun a oe cls dd pn hz hf => (ss_one (s_ret (x_tup (a_cons x_str (a_cons (x_att 2 T.xf_Behind T.nf_Behind_place hz hf T.g_Behind) a_nil)))))) (.named ⟨rfl, by decide, .inl T.g_NotOctets⟩ (i := 2) rfl rfl (T.xm_NotOctets) (fun a oe cls dd pn hz hf => (ss_one (s_ret (x_tup (a_cons x_str a_nil))))) (.named ⟨rfl, by decide, .inl T.g_TooMany⟩ (i := 2) rfl rfl (T.xm_TooMany) (fun a oe cls dd pn hz hf => (ss_one (s_ret (x_tup (a_cons x_str (a_cons (x_att 2 T.xf_TooMany T.nf_TooMany_what hz hf T.g_TooMany) (a_cons (x_att 2 T.xf_TooMany T.nf_TooMany_most hz hf T.g_TooMany) a_nil))))))) .nil))))))))
theorem ok__law_asked_digits (T : Tx K mg) : FnOk Pg w K mg base (L2.CX Pg w) 37 T.a__law_asked_digits T.d__law_asked_digits ["kind", "book", "base", "octets"] (spM mg B0 4 (m__law_asked_digits)) := by
  unfold m__law_asked_digits
  exact fn_mi T.fu__law_asked_digits sc__law_asked_digits B0 b__law_asked_digits (fun cdv A outer s H E F0 hr tk po =>
  (ss_one (s_try sc__law_asked_digits.nd tk (fun W1 pn xe tk1 po1 => (ss_cons (s_if (t_cmp (o_eq hr) (p_eq _) (x_var 0) x_int (nomark _))
  (ss_one (s_ret (x_tup (a_cons x_str (a_cons (x_call (ok_digits_of T) (by exact hr.mono (by omega)) T.g_digits_of T.fu_digits_of.kp T.b_digits_of tk1 (a_cons (x_var 2) (a_cons (x_var 3) a_nil))) a_nil)))))
  ss_nil)
  (ss_one (s_ret (x_tup (a_cons x_str (a_cons (x_call (ok_say_octets T) (by exact hr.mono (by omega)) T.g_say_octets T.fu_say_octets.kp T.b_say_octets tk1 (a_cons (x_var 1) (a_cons (x_var 3) a_nil))) a_nil)))))))
  (.named ⟨rfl, by decide, .inl T.g_TooMany⟩ (i := 4) rfl rfl (T.xm_TooMany) (fun a oe cls dd pn hz hf => (ss_one (s_ret (x_tup (a_cons x_str (a_cons (x_att 4 T.xf_TooMany T.nf_TooMany_what hz hf T.g_TooMany) (a_cons (x_att 4 T.xf_TooMany T.nf_TooMany_most hz hf T.g_TooMany) a_nil))))))) (.named ⟨rfl, by decide, .inl T.g_BadOctet⟩ (i := 4) rfl rfl (T.xm_BadOctet) (fun a oe cls dd pn hz hf => (ss_one (s_ret (x_tup (a_cons x_str (a_cons (x_att 4 T.xf_BadOctet T.nf_BadOctet_place hz hf T.g_BadOctet) a_nil)))))) (.named ⟨rfl, by decide, .inl T.g_FewWords⟩ (i := 4) rfl rfl (T.xm_FewWords) (fun a oe cls dd pn hz hf => (ss_one (s_ret (x_tup (a_cons x_str (a_cons (x_att 4 T.xf_FewWords T.nf_FewWords_found hz hf T.g_FewWords) a_nil)))))) .nil))))))
theorem ok__law_is_spelled (T : Tx K mg) : FnOk Pg w K mg base (L2.CX Pg w) 38 T.a__law_is_spelled T.d__law_is_spelled ["book", "base", "octets"] (spM mg B0 3 (m__law_is_spelled)) := by
  unfold m__law_is_spelled
  exact fn_mi T.fu__law_is_spelled sc__law_is_spelled B0 b__law_is_spelled (fun cdv A outer s H E F0 hr tk po =>
  (ss_cons (s_set sc__law_is_spelled.nd (x_cT call_tuple_of (p_tup _) T.z_tuple boot_tuple (a_cons (x_op o_add (p_add _) (x_call (ok__law_digits T) (by exact hr.mono (by omega)) T.g__law_digits T.fu__law_digits.kp T.b__law_digits tk (a_cons (x_call (ok__law_value T) (by exact hr.mono (by omega)) T.g__law_value T.fu__law_value.kp T.b__law_value tk (a_cons (x_var 2) a_nil)) (a_cons (x_op o_sub p_sub (x_var 1) x_int) a_nil))) (x_fz (f_lst (a_cons (x_op o_sub p_sub (x_var 1) x_int) a_nil)))) a_nil)))
  (ss_cons (s_for po (by rfl) (i_seq (x_fz (f_lst (a_cons (x_fz (f_cT call_list_of (p_lst _) T.z_list boot_list (a_cons (x_var 2) a_nil))) (a_cons (x_cT call_tuple_of (p_tup _) T.z_tuple boot_tuple (a_cons (x_var 2) a_nil)) a_nil))))) (g_name sc__law_is_spelled.nd)
  (ss_cons (s_for po (by rfl) (i_range1 T.z_range (a_cons x_int a_nil)) (g_name sc__law_is_spelled.nd)
  (ss_one (s_if (t_not (t_val (x_call (ok__law_same T) (by exact hr.mono (by omega)) T.g__law_same T.fu__law_same.kp T.b__law_same tk (a_cons (x_call (ok__law_asked_digits T) (by exact hr.mono (by omega)) T.g__law_asked_digits T.fu__law_asked_digits.kp T.b__law_asked_digits tk (a_cons (x_var 7) (a_cons (x_var 0) (a_cons (x_var 1) (a_cons (x_var 4) a_nil))))) (a_cons (x_tup (a_cons x_str (a_cons (x_var 3) a_nil))) a_nil)))))
  (ss_one (s_ret x_bl))
  ss_nil)))
  (ss_one (s_if (t_not (t_val (x_call (ok__law_same T) (by exact hr.mono (by omega)) T.g__law_same T.fu__law_same.kp T.b__law_same tk (a_cons (x_fz (f_cT call_list_of (p_lst _) T.z_list boot_list (a_cons (x_var 4) a_nil))) (a_cons (x_fz (f_cT call_list_of (p_lst _) T.z_list boot_list (a_cons (x_var 2) a_nil))) a_nil)))))
  (ss_one (s_ret x_bl))
  ss_nil))))
  (ss_cons (s_for po (by rfl) (i_seq (x_fz (f_lst (a_cons (x_fz (f_cT call_list_of (p_lst _) T.z_list boot_list (a_cons (x_var 3) a_nil))) (a_cons (x_var 3) a_nil))))) (g_name sc__law_is_spelled.nd)
  (ss_cons (s_if (t_not (t_val (x_call (ok__law_same T) (by exact hr.mono (by omega)) T.g__law_same T.fu__law_same.kp T.b__law_same tk (a_cons (x_call (ok__law_asked_octets T) (by exact hr.mono (by omega)) T.g__law_asked_octets T.fu__law_asked_octets.kp T.b__law_asked_octets tk (a_cons (x_var 1) (a_cons (x_var 5) a_nil))) (a_cons (x_tup (a_cons x_str (a_cons (x_cT call_tuple_of (p_tup _) T.z_tuple boot_tuple (a_cons (x_var 2) a_nil)) a_nil))) a_nil)))))
  (ss_one (s_ret x_bl))
  ss_nil)
  (ss_one (s_if (t_not (t_val (x_call (ok__law_same T) (by exact hr.mono (by omega)) T.g__law_same T.fu__law_same.kp T.b__law_same tk (a_cons (x_fz (f_cT call_list_of (p_lst _) T.z_list boot_list (a_cons (x_var 5) a_nil))) (a_cons (x_fz (f_cT call_list_of (p_lst _) T.z_list boot_list (a_cons (x_var 3) a_nil))) a_nil)))))
  (ss_one (s_ret x_bl))
  ss_nil))))
  (ss_cons (s_set sc__law_is_spelled.nd (x_cT call_tuple_of (p_tup _) T.z_tuple boot_tuple (a_cons (x_fz (f_lc [("digit", 8)] (by rfl) sc__law_is_spelled.nd (i_seq (x_var 3)) (blkOk_by (by kernel_rfl)) (fun _ _ _ _ _ => (g_name sc__law_is_spelled.nd)) (fun _ _ _ _ _ => ts_nil) (fun _ _ _ _ _ => (x_tup (a_cons x_int (a_cons (x_ix (x_ix (x_ix (x_ix (x_var 0) x_int) x_int) (x_var 8)) x_int) a_nil)))) (go_name 8))) a_nil)))
  (ss_one (s_ret (x_call (ok__law_same T) (by exact hr.mono (by omega)) T.g__law_same T.fu__law_same.kp T.b__law_same tk (a_cons (x_call (ok_walk T) (by exact hr.mono (by omega)) T.g_walk T.fu_walk.kp T.b_walk tk (a_cons (x_var 0) (a_cons (x_fz (f_cT call_list_of (p_lst _) T.z_list boot_list (a_cons (x_var 3) a_nil))) a_nil))) (a_cons (x_tup (a_cons (x_var 6) (a_cons x_int a_nil))) a_nil))))))))))
theorem ok__law_is_ranked (T : Tx K mg) : FnOk Pg w K mg base (L2.CX Pg w) 37 T.a__law_is_ranked T.d__law_is_ranked ["book", "base", "octets"] (spM mg B0 3 (m__law_is_ranked)) := by
  unfold m__law_is_ranked
  exact fn_mi T.fu__law_is_ranked sc__law_is_ranked B0 b__law_is_ranked (fun cdv A outer s H E F0 hr tk po =>
  (ss_cons (s_set sc__law_is_ranked.nd (x_fz (f_cT call_list_of (p_lst _) T.z_list boot_list (a_cons (x_var 2) a_nil))))
  (ss_cons (s_for po (by rfl) (i_range1 T.z_range (a_cons x_int a_nil)) (g_name sc__law_is_ranked.nd)
  (ss_cons (s_if (t_cmp o_le p_le (x_cB call_len_seq (p_len _) T.z_len PySem.boot_len (a_cons (x_call (ok__law_digits T) (by exact hr.mono (by omega)) T.g__law_digits T.fu__law_digits.kp T.b__law_digits tk (a_cons (x_call (ok__law_value T) (by exact hr.mono (by omega)) T.g__law_value T.fu__law_value.kp T.b__law_value tk (a_cons (x_var 3) a_nil)) (a_cons (x_op o_sub p_sub (x_var 1) x_int) a_nil))) a_nil)) x_int (nomark _))
  (ss_one s_brk)
  ss_nil)
  (ss_one (s_set sc__law_is_ranked.nd (x_sl (x_var 3) sp_0 (sp_1 (x_un o_neg p_neg x_int)))))))
  (ss_cons (s_set sc__law_is_ranked.nd (x_call (ok_part T) (by exact hr.mono (by omega)) T.g_part T.fu_part.kp T.b_part tk (a_cons (x_var 0) (a_cons (x_fz (f_listR1 (by rfl) T.z_list T.z_range (x_op o_sub p_sub (x_var 1) x_int))) a_nil))))
  (ss_cons (s_if (t_not (t_val (x_call (ok__law_same T) (by exact hr.mono (by omega)) T.g__law_same T.fu__law_same.kp T.b__law_same tk (a_cons (x_var 5) (a_cons (x_tup (a_cons (x_ix (x_var 0) x_int) (a_cons (x_tup (a_cons (x_sl (x_ix (x_ix (x_var 0) x_int) x_int) sp_0 (sp_1 (x_op o_sub p_sub (x_var 1) x_int))) a_nil)) a_nil))) a_nil)))))
  (ss_one (s_ret x_bl))
  ss_nil)
  (ss_cons (s_set sc__law_is_ranked.nd (x_call (ok_digits_of T) (by exact hr.mono (by omega)) T.g_digits_of T.fu_digits_of.kp T.b_digits_of tk (a_cons (x_var 1) (a_cons (x_var 3) a_nil))))
  (ss_cons (s_if (t_pw (t_or (t_not (t_val (x_isD T.z_isinstance (x_var 6) T.z_tuple boot_tuple))) (t_or1 (t_cmp o_lt p_lt (x_cB call_len_seq (p_len _) T.z_len PySem.boot_len (a_cons (x_var 6) a_nil)) x_int (nomark _)))))
  (ss_one (s_ret x_bl))
  ss_nil)
  (ss_cons (s_set sc__law_is_ranked.nd (x_cT call_tuple_of (p_tup _) T.z_tuple boot_tuple (a_cons (x_fz (f_lRev (by rfl) T.z_list T.z_reversed (x_sl (x_var 6) sp_0 (sp_1 (x_un o_neg p_neg x_int))))) a_nil)))
  (ss_cons (s_set sc__law_is_ranked.nd (x_call (ok__law_value T) (by exact hr.mono (by omega)) T.g__law_value T.fu__law_value.kp T.b__law_value tk (a_cons (x_var 3) a_nil)))
  (ss_cons (s_if (t_not (t_val (x_call (ok__law_same T) (by exact hr.mono (by omega)) T.g__law_same T.fu__law_same.kp T.b__law_same tk (a_cons (x_call (ok_saying_rank T) (by exact hr.mono (by omega)) T.g_saying_rank T.fu_saying_rank.kp T.b_saying_rank tk (a_cons (x_var 5) (a_cons (x_var 7) a_nil))) (a_cons (x_var 8) a_nil)))))
  (ss_one (s_ret x_bl))
  ss_nil)
  (ss_one (s_ret (x_call (ok__law_same T) (by exact hr.mono (by omega)) T.g__law_same T.fu__law_same.kp T.b__law_same tk (a_cons (x_call (ok_saying_at T) (by exact hr.mono (by omega)) T.g_saying_at T.fu_saying_at.kp T.b_saying_at tk (a_cons (x_var 5) (a_cons (x_cB call_len_seq (p_len _) T.z_len PySem.boot_len (a_cons (x_var 7) a_nil)) (a_cons (x_var 8) a_nil)))) (a_cons (x_var 7) a_nil)))))))))))))))
theorem ok__law_bent_is_read (T : Tx K mg) (p c : Addr) (cs : List Addr) : FnOk Pg w K mg base (L2.CX Pg w) 36 T.a__law_bent_is_read T.d__law_bent_is_read ["store", "base", "octets"] (spM mg (Bsto p c cs) 3 (m__law_bent_is_read cs)) := by
  unfold m__law_bent_is_read
  exact fn_mi T.fu__law_bent_is_read sc__law_bent_is_read (Bsto p c cs) (b__law_bent_is_read cs) (fun cdv A outer s H E F0 hr tk po =>
  (ss_cons (s_set sc__law_bent_is_read.nd (x_op o_add (p_add _) (x_call (FnOk.lift (ok__law_digits T) _) (by exact hr.mono (by omega)) T.g__law_digits T.fu__law_digits.kp T.b__law_digits tk (a_cons (x_call (FnOk.lift (ok__law_value T) _) (by exact hr.mono (by omega)) T.g__law_value T.fu__law_value.kp T.b__law_value tk (a_cons (x_var 2) a_nil)) (a_cons (x_op o_sub p_sub (x_var 1) x_int) a_nil))) (x_fz (f_lst (a_cons (x_op o_sub p_sub (x_var 1) x_int) a_nil)))))
  (ss_cons (s_for po (by rfl) (i_range1 T.z_range (a_cons x_int a_nil)) (g_name sc__law_bent_is_read.nd)
  (ss_cons (s_set sc__law_bent_is_read.nd (x_call (ok__law_take T _ _ _) (by exact hr.mono (by omega)) T.g__law_take T.fu__law_take.kp T.b__law_take tk (a_tok 0 (a_cons (x_cB call_len_seq (p_len _) T.z_len PySem.boot_len (a_cons (x_var 3) a_nil)) a_nil))))
  (ss_cons (s_if (t_cmp (o_eq hr) (p_eq _) (x_var 4) x_int (nomark _))
  (ss_one (s_set sc__law_bent_is_read.nd (x_op o_sub p_sub (x_cB call_len_seq (p_len _) T.z_len PySem.boot_len (a_cons (x_var 3) a_nil)) x_int)))
  ss_nil)
  (ss_cons (s_if (t_cmp (o_eq hr) (p_eq _) (x_var 4) x_int (nomark _))
  (ss_one (s_set sc__law_bent_is_read.nd (x_op o_sub p_sub (x_cB call_len_seq (p_len _) T.z_len PySem.boot_len (a_cons (x_var 3) a_nil)) x_int)))
  ss_nil)
  (ss_cons (s_setF sc__law_bent_is_read.nd (f_cT call_list_of (p_lst _) T.z_list boot_list (a_cons (x_var 3) a_nil)))
  (ss_cons (s_set sc__law_bent_is_read.nd (x_call (ok__law_take T _ _ _) (by exact hr.mono (by omega)) T.g__law_take T.fu__law_take.kp T.b__law_take tk (a_tok 0 (a_cons x_int a_nil))))
  (ss_cons (s_setIx 6 (x_op o_add (p_add _) (x_ixO 6 (x_var 7)) (x_ix (x_fz (f_lst (a_cons x_int (a_cons x_int (a_cons x_int (a_cons (x_un o_neg p_neg x_int) (a_cons (x_un o_neg p_neg x_int) (a_cons x_int a_nil)))))))) (x_var 8))) (x_var 7))
  (ss_cons (s_if (t_cmp (o_eq hr) (p_eq _) (x_var 8) x_int (nomark _))
  (ss_one (s_setIx 6 x_bl (x_var 7)))
  ss_nil)
  (ss_one (s_if (t_not (t_val (x_call (FnOk.lift (ok__law_same T) _) (by exact hr.mono (by omega)) T.g__law_same T.fu__law_same.kp T.b__law_same tk (a_cons (x_call (FnOk.lift (ok__law_asked_octets T) _) (by exact hr.mono (by omega)) T.g__law_asked_octets T.fu__law_asked_octets.kp T.b__law_asked_octets tk (a_cons (x_var 1) (a_cons (x_fz (f_oT 6 call_list_of (p_lstO _) T.z_list boot_list)) a_nil))) (a_cons (x_call (FnOk.lift (ok__law_read T) _) (by exact hr.mono (by omega)) T.g__law_read T.fu__law_read.kp T.b__law_read tk (a_cons (x_var 1) (a_cons (x_var 6) a_nil))) a_nil)))))
  (ss_one (s_ret x_bl))
  ss_nil))))))))))
  (ss_cons (s_setLc [("step", 9)] (by rfl) sc__law_bent_is_read.nd (i_range1 T.z_range (a_cons (x_op o_add (p_add _) x_int (x_call (ok__law_take T _ _ _) (by exact hr.mono (by omega)) T.g__law_take T.fu__law_take.kp T.b__law_take tk (a_tok 0 (a_cons x_int a_nil)))) a_nil)) (blkOk_by (by kernel_rfl)) (fun _ _ _ _ _ => (g_name sc__law_bent_is_read.nd)) (fun _ _ _ _ _ => ts_nil) (fun _ _ _ _ _ => (x_call (ok__law_take T _ _ _) (by exact hr.mono (by omega)) T.g__law_take T.fu__law_take.kp T.b__law_take takes0 (a_tok 0 (a_cons (x_var 1) a_nil)))) (go_name 9) (sw_true rfl rfl rfl (by decide +kernel)))
  (ss_cons (s_for po (by rfl) (i_seq (x_fz (f_lst (a_cons (x_sl (x_var 3) sp_0 (sp_1 (x_un o_neg p_neg x_int))) (a_cons (x_op o_add (p_add _) (x_var 3) (x_var 5)) (a_cons (x_op o_add (p_add _) (x_sl (x_var 3) sp_0 (sp_1 (x_un o_neg p_neg x_int))) (x_fz (f_lst (a_cons x_int (a_cons (x_op o_sub p_sub (x_var 1) x_int) a_nil))))) (a_cons (x_fz (f_lst (a_cons (x_op o_sub p_sub (x_var 1) x_int) a_nil))) (a_cons (x_fz (f_lst a_nil)) (a_cons (x_fz (f_lst (a_cons x_int (a_cons (x_op o_sub p_sub (x_var 1) x_int) a_nil)))) a_nil))))))))) (g_name sc__law_bent_is_read.nd)
  (ss_one (s_if (t_not (t_val (x_call (FnOk.lift (ok__law_same T) _) (by exact hr.mono (by omega)) T.g__law_same T.fu__law_same.kp T.b__law_same tk (a_cons (x_call (FnOk.lift (ok__law_asked_octets T) _) (by exact hr.mono (by omega)) T.g__law_asked_octets T.fu__law_asked_octets.kp T.b__law_asked_octets tk (a_cons (x_var 1) (a_cons (x_fz (f_oT 6 call_list_of (p_lstO _) T.z_list boot_list)) a_nil))) (a_cons (x_call (FnOk.lift (ok__law_read T) _) (by exact hr.mono (by omega)) T.g__law_read T.fu__law_read.kp T.b__law_read tk (a_cons (x_var 1) (a_cons (x_var 6) a_nil))) a_nil)))))
  (ss_one (s_ret x_bl))
  ss_nil)))
  (ss_one (s_ret x_bl)))))))
theorem ok__law_bounds_hold (T : Tx K mg) (p c : Addr) (cs : List Addr) : FnOk Pg w K mg base (L2.CX Pg w) 38 T.a__law_bounds_hold T.d__law_bounds_hold ["store", "book", "base", "octets"] (spM mg (Bsto p c cs) 4 (m__law_bounds_hold cs)) := by
  unfold m__law_bounds_hold
  exact fn_mi T.fu__law_bounds_hold sc__law_bounds_hold (Bsto p c cs) (b__law_bounds_hold cs) (fun cdv A outer s H E F0 hr tk po =>
  (ss_cons (s_set sc__law_bounds_hold.nd (x_sl (x_op o_add (p_add _) (x_fz (f_cT call_list_of (p_lst _) T.z_list boot_list (a_cons (x_var 3) a_nil))) (x_op o_mul p_mul (x_fz (f_lst (a_cons (x_call (ok__law_take T _ _ _) (by exact hr.mono (by omega)) T.g__law_take T.fu__law_take.kp T.b__law_take tk (a_tok 0 (a_cons x_int a_nil))) a_nil))) x_int)) sp_0 (sp_1 x_int)))
  (ss_cons (s_set sc__law_bounds_hold.nd (x_op o_add (p_add _) (x_call (FnOk.lift (ok__law_digits T) _) (by exact hr.mono (by omega)) T.g__law_digits T.fu__law_digits.kp T.b__law_digits tk (a_cons (x_call (FnOk.lift (ok__law_value T) _) (by exact hr.mono (by omega)) T.g__law_value T.fu__law_value.kp T.b__law_value tk (a_cons (x_var 4) a_nil)) (a_cons (x_op o_sub p_sub (x_var 2) x_int) a_nil))) (x_fz (f_lst (a_cons (x_op o_sub p_sub (x_var 2) x_int) a_nil)))))
  (ss_cons (s_set sc__law_bounds_hold.nd (x_tup (a_cons x_str (a_cons x_str (a_cons x_int a_nil)))))
  (ss_cons (s_if (t_not (t_val (x_call (FnOk.lift (ok__law_same T) _) (by exact hr.mono (by omega)) T.g__law_same T.fu__law_same.kp T.b__law_same tk (a_cons (x_call (FnOk.lift (ok__law_asked_octets T) _) (by exact hr.mono (by omega)) T.g__law_asked_octets T.fu__law_asked_octets.kp T.b__law_asked_octets tk (a_cons (x_var 2) (a_cons (x_var 5) a_nil))) (a_cons (x_var 6) a_nil)))))
  (ss_one (s_ret x_bl))
  ss_nil)
  (ss_cons (s_asg (x_call (ok__law_bent_list T _ _ _) (by exact hr.mono (by omega)) T.g__law_bent_list T.fu__law_bent_list.kp T.b__law_bent_list tk (a_tok 0 (a_cons (x_var 3) (a_cons (x_ix (x_fz (f_lst (a_cons x_int (a_cons (x_un o_neg p_neg x_int) (a_cons x_bl (a_cons x_non (a_cons (x_op o_pow p_pow x_int x_int) a_nil))))))) (x_call (ok__law_take T _ _ _) (by exact hr.mono (by omega)) T.g__law_take T.fu__law_take.kp T.b__law_take tk (a_tok 0 (a_cons x_int a_nil)))) (a_cons x_int a_nil))))) (g_tup (by rfl) (gs_cons (g_name sc__law_bounds_hold.nd) (gs_cons (g_name sc__law_bounds_hold.nd) gs_nil)) (gC_len (gC_len gE_len))))
  (ss_cons (s_for po (by rfl) (i_range1 T.z_range (a_cons x_int a_nil)) (g_name sc__law_bounds_hold.nd)
  (ss_cons (s_if (t_not (t_val (x_call (FnOk.lift (ok__law_same T) _) (by exact hr.mono (by omega)) T.g__law_same T.fu__law_same.kp T.b__law_same tk (a_cons (x_call (FnOk.lift (ok__law_asked_digits T) _) (by exact hr.mono (by omega)) T.g__law_asked_digits T.fu__law_asked_digits.kp T.b__law_asked_digits tk (a_cons (x_var 9) (a_cons (x_var 1) (a_cons (x_var 2) (a_cons (x_fz (f_cT call_list_of (p_lst _) T.z_list boot_list (a_cons (x_var 4) a_nil))) a_nil))))) (a_cons (x_var 6) a_nil)))))
  (ss_one (s_ret x_bl))
  ss_nil)
  (ss_one (s_if (t_not (t_val (x_call (FnOk.lift (ok__law_same T) _) (by exact hr.mono (by omega)) T.g__law_same T.fu__law_same.kp T.b__law_same tk (a_cons (x_call (FnOk.lift (ok__law_asked_digits T) _) (by exact hr.mono (by omega)) T.g__law_asked_digits T.fu__law_asked_digits.kp T.b__law_asked_digits tk (a_cons (x_var 9) (a_cons (x_var 1) (a_cons (x_var 2) (a_cons (x_fz (f_cT call_list_of (p_lst _) T.z_list boot_list (a_cons (x_var 7) a_nil))) a_nil))))) (a_cons (x_tup (a_cons x_str (a_cons (x_var 8) a_nil))) a_nil)))))
  (ss_one (s_ret x_bl))
  ss_nil))))
  (ss_cons (s_set sc__law_bounds_hold.nd (x_tup (a_cons (x_ix (x_var 1) x_int) (a_cons (x_tup (a_cons (x_sl (x_ix (x_ix (x_var 1) x_int) x_int) sp_0 (sp_1 x_int)) a_nil)) a_nil))))
  (ss_cons (s_if (t_not (t_val (x_call (FnOk.lift (ok__law_same T) _) (by exact hr.mono (by omega)) T.g__law_same T.fu__law_same.kp T.b__law_same tk (a_cons (x_call (FnOk.lift (ok__law_asked_digits T) _) (by exact hr.mono (by omega)) T.g__law_asked_digits T.fu__law_asked_digits.kp T.b__law_asked_digits tk (a_cons x_int (a_cons (x_var 10) (a_cons (x_var 2) (a_cons (x_fz (f_cT call_list_of (p_lst _) T.z_list boot_list (a_cons (x_var 3) a_nil))) a_nil))))) (a_cons (x_tup (a_cons x_str (a_cons x_int a_nil))) a_nil)))))
  (ss_one (s_ret x_bl))
  ss_nil)
  (ss_cons (s_if (t_not (t_val (x_call (FnOk.lift (ok__law_same T) _) (by exact hr.mono (by omega)) T.g__law_same T.fu__law_same.kp T.b__law_same tk (a_cons (x_call (FnOk.lift (ok__law_asked_digits T) _) (by exact hr.mono (by omega)) T.g__law_asked_digits T.fu__law_asked_digits.kp T.b__law_asked_digits tk (a_cons x_int (a_cons (x_var 10) (a_cons (x_var 2) (a_cons (x_fz (f_cT call_list_of (p_lst _) T.z_list boot_list (a_cons (x_var 4) a_nil))) a_nil))))) (a_cons (x_var 6) a_nil)))))
  (ss_one (s_ret x_bl))
  ss_nil)
  (ss_cons (s_if (t_cmp o_gt p_gt (x_call (ok__law_take T _ _ _) (by exact hr.mono (by omega)) T.g__law_take T.fu__law_take.kp T.b__law_take tk (a_tok 0 (a_cons x_int a_nil))) x_int (nomark _))
  (ss_one (s_ret x_bl))
  ss_nil)
  (ss_cons (s_if (t_not (t_val (x_call (FnOk.lift (ok__law_same T) _) (by exact hr.mono (by omega)) T.g__law_same T.fu__law_same.kp T.b__law_same tk (a_cons (x_call (FnOk.lift (ok__law_asked_octets T) _) (by exact hr.mono (by omega)) T.g__law_asked_octets T.fu__law_asked_octets.kp T.b__law_asked_octets tk (a_cons (x_var 2) (a_cons (x_op o_mul p_mul (x_fz (f_lst (a_cons (x_var 2) a_nil))) x_int) a_nil))) (a_cons (x_tup (a_cons x_str (a_cons x_str (a_cons x_int a_nil)))) a_nil)))))
  (ss_one (s_ret x_bl))
  ss_nil)
  (ss_one (s_ret (x_call (FnOk.lift (ok__law_same T) _) (by exact hr.mono (by omega)) T.g__law_same T.fu__law_same.kp T.b__law_same tk (a_cons (x_call (FnOk.lift (ok__law_asked_octets T) _) (by exact hr.mono (by omega)) T.g__law_asked_octets T.fu__law_asked_octets.kp T.b__law_asked_octets tk (a_cons (x_var 2) (a_cons (x_op o_add (p_add _) (x_op o_mul p_mul (x_fz (f_lst (a_cons x_int a_nil))) x_int) (x_fz (f_lst (a_cons (x_var 2) a_nil)))) a_nil))) (a_cons (x_tup (a_cons x_str (a_cons x_int a_nil))) a_nil)))))))))))))))))
end
section
variable {Pg : Program} {w : World} {K : PySem.W.Frag} {mg : Str → Option Value} {base : Heap}
theorem x_law (T : Tx K mg) (p c : Addr) (cs : List Addr) (cdv : Value) (A : Around) (outer : List PySem.Env) (s : Shared) (H : Hp) (E : XK) (F0 H0 : Hp) (hr : Room 38 (cxOf (L2.CX Pg w) Pg w K mg base ["script", "store", "base", "n", "step", "words", "book", "octets", "number"] "law" (defScope s_law) T.a_law cdv A outer s H E).A) (hgu : (cxOf (L2.CX Pg w) Pg w K mg base ["script", "store", "base", "n", "step", "words", "book", "octets", "number"] "law" (defScope s_law) T.a_law cdv A outer s H E).A.guards = some [])
    (tk : Takes (cxOf (L2.CX Pg w) Pg w K mg base ["script", "store", "base", "n", "step", "words", "book", "octets", "number"] "law" (defScope s_law) T.a_law cdv A outer s H E) (wE E)) (po : PassesOwn (model Pg w) (cxOf (L2.CX Pg w) Pg w K mg base ["script", "store", "base", "n", "step", "words", "book", "octets", "number"] "law" (defScope s_law) T.a_law cdv A outer s H E).A (cxOf (L2.CX Pg w) Pg w K mg base ["script", "store", "base", "n", "step", "words", "book", "octets", "number"] "law" (defScope s_law) T.a_law cdv A outer s H E).env (cxOf (L2.CX Pg w) Pg w K mg base ["script", "store", "base", "n", "step", "words", "book", "octets", "number"] "law" (defScope s_law) T.a_law cdv A outer s H E).xe) :
    XSs ⟨K, mg, Bsto p c cs, F0, H0, 0, .none, none⟩ (cxOf (L2.CX Pg w) Pg w K mg base ["script", "store", "base", "n", "step", "words", "book", "octets", "number"] "law" (defScope s_law) T.a_law cdv A outer s H E) (wE E) ((defBody s_law).drop 1) (b_law cs) :=
  (ss_cons (s_set sc_law.nd (x_op o_add (p_add _) x_int (x_call (ok__law_take T _ _ _) (by exact hr.mono (by omega)) T.g__law_take T.fu__law_take.kp T.b__law_take tk (a_tok 1 (a_cons x_int a_nil)))))
  (ss_cons (s_if (t_cmp (o_eq hr) (p_eq _) (x_call (ok__law_take T _ _ _) (by exact hr.mono (by omega)) T.g__law_take T.fu__law_take.kp T.b__law_take tk (a_tok 1 (a_cons x_int a_nil))) x_int (nomark _))
  (ss_one (s_set sc_law.nd (x_cB (call_min2 (by rfl)) p_min2 T.z_min boot_min (a_cons x_int (a_cons (x_op o_add (p_add _) x_int (x_call (ok__law_take T _ _ _) (by exact hr.mono (by omega)) T.g__law_take T.fu__law_take.kp T.b__law_take tk (a_tok 1 (a_cons x_int a_nil)))) a_nil)))))
  ss_nil)
  (ss_cons (s_set sc_law.nd x_int)
  (ss_cons (s_for po (by rfl) (i_range1 T.z_range (a_cons x_int a_nil)) (g_name sc_law.nd)
  (ss_one (s_if (t_cmp o_lt p_lt (x_op o_sub p_sub (x_call (FnOk.lift (ok__law_power T) _) (by exact hr.mono (by omega)) T.g__law_power T.fu__law_power.kp T.b__law_power tk (a_cons x_int (a_cons (x_var 3) a_nil))) x_int) (x_var 2) (nomark _))
  (ss_one (s_set sc_law.nd (x_op o_add (p_add _) (x_var 3) x_int)))
  ss_nil)))
  (ss_cons (s_setLc [("number", 8)] (by rfl) sc_law.nd (i_seq (x_call (ok__law_unlike T _ _ _) (by exact hr.mono (by omega)) T.g__law_unlike T.fu__law_unlike.kp T.b__law_unlike tk (a_tok 1 (a_cons (x_op o_sub p_sub (x_call (FnOk.lift (ok__law_power T) _) (by exact hr.mono (by omega)) T.g__law_power T.fu__law_power.kp T.b__law_power tk (a_cons x_int (a_cons (x_var 3) a_nil))) x_int) (a_cons (x_var 2) a_nil))))) (blkOk_by (by kernel_rfl)) (fun _ _ _ _ _ => (g_name sc_law.nd)) (fun _ _ _ _ _ => ts_nil) (fun _ _ _ _ _ => (x_call (FnOk.lift (ok__law_mask_word T) _) (by exact hr.mono (by omega)) T.g__law_mask_word T.fu__law_mask_word.kp T.b__law_mask_word takes0 (a_cons (x_op o_add (p_add _) (x_var 8) x_int) (a_cons (x_var 3) a_nil)))) (go_name 8) (sw_true rfl rfl rfl (by decide +kernel)))
  (ss_cons (s_set sc_law.nd (x_call (FnOk.lift (ok__law_book T) _) (by exact hr.mono (by omega)) T.g__law_book T.fu__law_book.kp T.b__law_book tk (a_cons (x_var 3) (a_cons (x_var 5) a_nil))))
  (ss_cons (s_set sc_law.nd (x_call (ok__law_octets T _ _ _) (by exact hr.mono (by omega)) T.g__law_octets T.fu__law_octets.kp T.b__law_octets tk (a_tok 1 a_nil)))
  (ss_cons (s_if (t_pw (t_or (t_not (t_val (x_call (FnOk.lift (ok__law_is_spelled T) _) (by exact hr.mono (by omega)) T.g__law_is_spelled T.fu__law_is_spelled.kp T.b__law_is_spelled tk (a_cons (x_var 6) (a_cons (x_var 2) (a_cons (x_var 7) a_nil)))))) (t_or1 (t_not (t_val (x_call (FnOk.lift (ok__law_is_ranked T) _) (by exact hr.mono (by omega)) T.g__law_is_ranked T.fu__law_is_ranked.kp T.b__law_is_ranked tk (a_cons (x_var 6) (a_cons (x_var 2) (a_cons (x_var 7) a_nil)))))))))
  (ss_one (s_ret x_bl))
  ss_nil)
  (ss_cons (s_if (t_not (t_val (x_call (ok__law_bent_is_read T _ _ _) (by exact hr.mono (by omega)) T.g__law_bent_is_read T.fu__law_bent_is_read.kp T.b__law_bent_is_read tk (a_tok 1 (a_cons (x_var 2) (a_cons (x_var 7) a_nil))))))
  (ss_one (s_ret x_bl))
  ss_nil)
  (ss_one (s_ret (x_call (ok__law_bounds_hold T _ _ _) (by exact hr.mono (by omega)) T.g__law_bounds_hold T.fu__law_bounds_hold.kp T.b__law_bounds_hold tk (a_tok 1 (a_cons (x_var 6) (a_cons (x_var 2) (a_cons (x_var 7) a_nil))))))))))))))))
theorem ok_law (T : Tx K mg) (pure : ∀ cs s, ∃ e, b_law cs ⟨.un :: .tok :: List.replicate 7 .un, s⟩ = .ok (.ret (.sh (.bool true))) e) : FnG Pg w K mg base (L2.CX Pg w) 39 T.a_law T.d_law ["script"] (spLaw K) := by
  refine fnG_by T.fu_law sc_law spLaw_len (fun cdv A outer s H E hr hgu vs Q h => ?_)
  obtain ⟨a, ns, rfl, hS, hl, q⟩ := h
  refine ⟨_, pss_cons (ps_set (i := 1) sc_law.nd rfl (.inl rfl) (pe_callS (ok__law_store T) (hr.mono (by decide)) (by rfl) T.g__law_store T.fu__law_store.kp T.b__law_store (fun σ => passAt (W := wE E) (takes_of rfl rfl rfl rfl) σ) (pa_cons (pv 0) pa_nil)))
    (pss_ex (ι := Addr × Addr × List Addr × Hp) fun i => x_law T i.1 i.2.1 i.2.2.1 cdv A outer s H E (fun _ => none) i.2.2.2 hr hgu (takes_of rfl rfl rfl rfl) (passes_of rfl)), ?_⟩
  refine ⟨.ref a, rfl, a, ns, rfl, hS, hl, fun p c cs st H1 hst => ?_⟩
  obtain ⟨e, he⟩ := pure cs st
  refine ⟨(p, c, cs, H1), fun _ => none, ⟨.un :: .tok :: List.replicate 7 .un, st⟩, eok_law hst rfl rfl, ?_⟩
  exact satS_ret he fun H2 v F1 rv => by cases rv; exact q H2
end
/-! the end -/
theorem all_mk {l : PySem.W.OpenLaw} {w : World} {K : PySem.W.Frag} {h : Heap} {mg : Str → Option Value} {fa : Addr} (X : K.In h) (G : h.Ns mainGlobals mg) (hfa : mg "law" = some (.ref fa)) (pure : ∀ cs s, ∃ e, b_law cs ⟨.un :: .tok :: List.replicate 7 .un, s⟩ = .ok (.ret (.sh (.bool true))) e)
    {f_same_parts : Addr} {od_same_parts an_same_parts : Option Addr} {sl_same_parts : Array (Option Value)} {oc_same_parts kV_same_parts dc_same_parts pm_same_parts cd_same_parts ct_same_parts : Value}
    {f_is_whole : Addr} {od_is_whole an_is_whole : Option Addr} {sl_is_whole : Array (Option Value)} {oc_is_whole kV_is_whole dc_is_whole pm_is_whole cd_is_whole ct_is_whole : Value}
    {f_is_index : Addr} {od_is_index an_is_index : Option Addr} {sl_is_index : Array (Option Value)} {oc_is_index kV_is_index dc_is_index pm_is_index cd_is_index ct_is_index : Value}
    {f_copied : Addr} {od_copied an_copied : Option Addr} {sl_copied : Array (Option Value)} {oc_copied kV_copied dc_copied pm_copied cd_copied ct_copied : Value}
    {f_check_state : Addr} {od_check_state an_check_state : Option Addr} {sl_check_state : Array (Option Value)} {oc_check_state kV_check_state dc_check_state pm_check_state cd_check_state ct_check_state : Value}
    {f_is_book : Addr} {od_is_book an_is_book : Option Addr} {sl_is_book : Array (Option Value)} {oc_is_book kV_is_book dc_is_book pm_is_book cd_is_book ct_is_book : Value}
    {f_words_of : Addr} {od_words_of an_words_of : Option Addr} {sl_words_of : Array (Option Value)} {oc_words_of kV_words_of dc_words_of pm_words_of cd_words_of ct_words_of : Value}
    {f_book_words : Addr} {od_book_words an_book_words : Option Addr} {sl_book_words : Array (Option Value)} {oc_book_words kV_book_words dc_book_words pm_book_words cd_book_words ct_book_words : Value}
    {f_is_below : Addr} {od_is_below an_is_below : Option Addr} {sl_is_below : Array (Option Value)} {oc_is_below kV_is_below dc_is_below pm_is_below cd_is_below ct_is_below : Value}
    {f_check_book : Addr} {od_check_book an_check_book : Option Addr} {sl_check_book : Array (Option Value)} {oc_check_book kV_check_book dc_check_book pm_check_book cd_check_book ct_check_book : Value}
    {f_check_base : Addr} {od_check_base an_check_base : Option Addr} {sl_check_base : Array (Option Value)} {oc_check_base kV_check_base dc_check_base pm_check_base cd_check_base ct_check_base : Value}
    {f_check_octets : Addr} {od_check_octets an_check_octets : Option Addr} {sl_check_octets : Array (Option Value)} {oc_check_octets kV_check_octets dc_check_octets pm_check_octets cd_check_octets ct_check_octets : Value}
    {f_end_of : Addr} {od_end_of an_end_of : Option Addr} {sl_end_of : Array (Option Value)} {oc_end_of kV_end_of dc_end_of pm_end_of cd_end_of ct_end_of : Value}
    {f_digits_of : Addr} {od_digits_of an_digits_of : Option Addr} {sl_digits_of : Array (Option Value)} {oc_digits_of kV_digits_of dc_digits_of pm_digits_of cd_digits_of ct_digits_of : Value}
    {f_octets_of : Addr} {od_octets_of an_octets_of : Option Addr} {sl_octets_of : Array (Option Value)} {oc_octets_of kV_octets_of dc_octets_of pm_octets_of cd_octets_of ct_octets_of : Value}
    {f_say_octets : Addr} {od_say_octets an_say_octets : Option Addr} {sl_say_octets : Array (Option Value)} {oc_say_octets kV_say_octets dc_say_octets pm_say_octets cd_say_octets ct_say_octets : Value}
    {f_walk : Addr} {od_walk an_walk : Option Addr} {sl_walk : Array (Option Value)} {oc_walk kV_walk dc_walk pm_walk cd_walk ct_walk : Value}
    {f_copy_of : Addr} {od_copy_of an_copy_of : Option Addr} {sl_copy_of : Array (Option Value)} {oc_copy_of kV_copy_of dc_copy_of pm_copy_of cd_copy_of ct_copy_of : Value}
    {f_is_from_to : Addr} {od_is_from_to an_is_from_to : Option Addr} {sl_is_from_to : Array (Option Value)} {oc_is_from_to kV_is_from_to dc_is_from_to pm_is_from_to cd_is_from_to ct_is_from_to : Value}
    {f_tails : Addr} {od_tails an_tails : Option Addr} {sl_tails : Array (Option Value)} {oc_tails kV_tails dc_tails pm_tails cd_tails ct_tails : Value}
    {f_saying_at : Addr} {od_saying_at an_saying_at : Option Addr} {sl_saying_at : Array (Option Value)} {oc_saying_at kV_saying_at dc_saying_at pm_saying_at cd_saying_at ct_saying_at : Value}
    {f_saying_rank : Addr} {od_saying_rank an_saying_rank : Option Addr} {sl_saying_rank : Array (Option Value)} {oc_saying_rank kV_saying_rank dc_saying_rank pm_saying_rank cd_saying_rank ct_saying_rank : Value}
    {f_book_made : Addr} {od_book_made an_book_made : Option Addr} {sl_book_made : Array (Option Value)} {oc_book_made kV_book_made dc_book_made pm_book_made cd_book_made ct_book_made : Value}
    {f_part : Addr} {od_part an_part : Option Addr} {sl_part : Array (Option Value)} {oc_part kV_part dc_part pm_part cd_part ct_part : Value}
    {f__law_mixed : Addr} {od__law_mixed an__law_mixed : Option Addr} {sl__law_mixed : Array (Option Value)} {oc__law_mixed kV__law_mixed dc__law_mixed pm__law_mixed cd__law_mixed ct__law_mixed : Value}
    {f__law_store : Addr} {od__law_store an__law_store : Option Addr} {sl__law_store : Array (Option Value)} {oc__law_store kV__law_store dc__law_store pm__law_store cd__law_store ct__law_store : Value}
    {f__law_take : Addr} {od__law_take an__law_take : Option Addr} {sl__law_take : Array (Option Value)} {oc__law_take kV__law_take dc__law_take pm__law_take cd__law_take ct__law_take : Value}
    {f__law_number : Addr} {od__law_number an__law_number : Option Addr} {sl__law_number : Array (Option Value)} {oc__law_number kV__law_number dc__law_number pm__law_number cd__law_number ct__law_number : Value}
    {f__law_size : Addr} {od__law_size an__law_size : Option Addr} {sl__law_size : Array (Option Value)} {oc__law_size kV__law_size dc__law_size pm__law_size cd__law_size ct__law_size : Value}
    {f__law_unlike : Addr} {od__law_unlike an__law_unlike : Option Addr} {sl__law_unlike : Array (Option Value)} {oc__law_unlike kV__law_unlike dc__law_unlike pm__law_unlike cd__law_unlike ct__law_unlike : Value}
    {f__law_power : Addr} {od__law_power an__law_power : Option Addr} {sl__law_power : Array (Option Value)} {oc__law_power kV__law_power dc__law_power pm__law_power cd__law_power ct__law_power : Value}
    {f__law_kind : Addr} {od__law_kind an__law_kind : Option Addr} {sl__law_kind : Array (Option Value)} {oc__law_kind kV__law_kind dc__law_kind pm__law_kind cd__law_kind ct__law_kind : Value}
    {f__law_same : Addr} {od__law_same an__law_same : Option Addr} {sl__law_same : Array (Option Value)} {oc__law_same kV__law_same dc__law_same pm__law_same cd__law_same ct__law_same : Value}
    {f__law_is_whole : Addr} {od__law_is_whole an__law_is_whole : Option Addr} {sl__law_is_whole : Array (Option Value)} {oc__law_is_whole kV__law_is_whole dc__law_is_whole pm__law_is_whole cd__law_is_whole ct__law_is_whole : Value}
    {f__law_mask_word : Addr} {od__law_mask_word an__law_mask_word : Option Addr} {sl__law_mask_word : Array (Option Value)} {oc__law_mask_word kV__law_mask_word dc__law_mask_word pm__law_mask_word cd__law_mask_word ct__law_mask_word : Value}
    {f__law_bent_list : Addr} {od__law_bent_list an__law_bent_list : Option Addr} {sl__law_bent_list : Array (Option Value)} {oc__law_bent_list kV__law_bent_list dc__law_bent_list pm__law_bent_list cd__law_bent_list ct__law_bent_list : Value}
    {f__law_book : Addr} {od__law_book an__law_book : Option Addr} {sl__law_book : Array (Option Value)} {oc__law_book kV__law_book dc__law_book pm__law_book cd__law_book ct__law_book : Value}
    {f__law_octets : Addr} {od__law_octets an__law_octets : Option Addr} {sl__law_octets : Array (Option Value)} {oc__law_octets kV__law_octets dc__law_octets pm__law_octets cd__law_octets ct__law_octets : Value}
    {f__law_digits : Addr} {od__law_digits an__law_digits : Option Addr} {sl__law_digits : Array (Option Value)} {oc__law_digits kV__law_digits dc__law_digits pm__law_digits cd__law_digits ct__law_digits : Value}
    {f__law_value : Addr} {od__law_value an__law_value : Option Addr} {sl__law_value : Array (Option Value)} {oc__law_value kV__law_value dc__law_value pm__law_value cd__law_value ct__law_value : Value}
    {f__law_read : Addr} {od__law_read an__law_read : Option Addr} {sl__law_read : Array (Option Value)} {oc__law_read kV__law_read dc__law_read pm__law_read cd__law_read ct__law_read : Value}
    {f__law_asked_octets : Addr} {od__law_asked_octets an__law_asked_octets : Option Addr} {sl__law_asked_octets : Array (Option Value)} {oc__law_asked_octets kV__law_asked_octets dc__law_asked_octets pm__law_asked_octets cd__law_asked_octets ct__law_asked_octets : Value}
    {f__law_asked_digits : Addr} {od__law_asked_digits an__law_asked_digits : Option Addr} {sl__law_asked_digits : Array (Option Value)} {oc__law_asked_digits kV__law_asked_digits dc__law_asked_digits pm__law_asked_digits cd__law_asked_digits ct__law_asked_digits : Value}
    {f__law_is_spelled : Addr} {od__law_is_spelled an__law_is_spelled : Option Addr} {sl__law_is_spelled : Array (Option Value)} {oc__law_is_spelled kV__law_is_spelled dc__law_is_spelled pm__law_is_spelled cd__law_is_spelled ct__law_is_spelled : Value}
    {f__law_is_ranked : Addr} {od__law_is_ranked an__law_is_ranked : Option Addr} {sl__law_is_ranked : Array (Option Value)} {oc__law_is_ranked kV__law_is_ranked dc__law_is_ranked pm__law_is_ranked cd__law_is_ranked ct__law_is_ranked : Value}
    {f__law_bent_is_read : Addr} {od__law_bent_is_read an__law_bent_is_read : Option Addr} {sl__law_bent_is_read : Array (Option Value)} {oc__law_bent_is_read kV__law_bent_is_read dc__law_bent_is_read pm__law_bent_is_read cd__law_bent_is_read ct__law_bent_is_read : Value}
    {f__law_bounds_hold : Addr} {od__law_bounds_hold an__law_bounds_hold : Option Addr} {sl__law_bounds_hold : Array (Option Value)} {oc__law_bounds_hold kV__law_bounds_hold dc__law_bounds_hold pm__law_bounds_hold cd__law_bounds_hold ct__law_bounds_hold : Value}
    {f_law : Addr} {od_law an_law : Option Addr} {sl_law : Array (Option Value)} {oc_law kV_law dc_law pm_law cd_law ct_law : Value}
    {t_MOST_OCTETS : Tok}
    {t_MOST_DIGITS : Tok}
    {t_MOST_BASE : Tok}
    {t_LEAST_BASE : Tok}
    {t_MOST_SAID : Tok}
    {t_LONGEST : Tok}
    {C_PulseError : Addr}
    {C_NoEnd : Addr}
    {C_NotOctets : Addr}
    {C_BadSize : Addr}
    {nm_BadSize qn_BadSize : Str} {N_BadSize : Addr} {bs_BadSize bm_BadSize : List Value} {sn_BadSize : List Str} {sb_BadSize : List Value} {ab_BadSize : Bool} {col_BadSize : Option Bool} {dd_BadSize : Option Addr} {m0_BadSize m1_BadSize m2_BadSize m3_BadSize m5_BadSize : Option Value}
    {i_BadSize : Addr} {od_i_BadSize an_i_BadSize : Option Addr} {sl_i_BadSize : Array (Option Value)} {oc_i_BadSize kV_i_BadSize dc_i_BadSize pm_i_BadSize cd_i_BadSize ct_i_BadSize : Value}
    {C_NoWord : Addr}
    {nm_NoWord qn_NoWord : Str} {N_NoWord : Addr} {bs_NoWord bm_NoWord : List Value} {sn_NoWord : List Str} {sb_NoWord : List Value} {ab_NoWord : Bool} {col_NoWord : Option Bool} {dd_NoWord : Option Addr} {m0_NoWord m1_NoWord m2_NoWord m3_NoWord m5_NoWord : Option Value}
    {i_NoWord : Addr} {od_i_NoWord an_i_NoWord : Option Addr} {sl_i_NoWord : Array (Option Value)} {oc_i_NoWord kV_i_NoWord dc_i_NoWord pm_i_NoWord cd_i_NoWord ct_i_NoWord : Value}
    {C_NotBook : Addr}
    {nm_NotBook qn_NotBook : Str} {N_NotBook : Addr} {bs_NotBook bm_NotBook : List Value} {sn_NotBook : List Str} {sb_NotBook : List Value} {ab_NotBook : Bool} {col_NotBook : Option Bool} {dd_NotBook : Option Addr} {m0_NotBook m1_NotBook m2_NotBook m3_NotBook m5_NotBook : Option Value}
    {i_NotBook : Addr} {od_i_NotBook an_i_NotBook : Option Addr} {sl_i_NotBook : Array (Option Value)} {oc_i_NotBook kV_i_NotBook dc_i_NotBook pm_i_NotBook cd_i_NotBook ct_i_NotBook : Value}
    {C_BadState : Addr}
    {nm_BadState qn_BadState : Str} {N_BadState : Addr} {bs_BadState bm_BadState : List Value} {sn_BadState : List Str} {sb_BadState : List Value} {ab_BadState : Bool} {col_BadState : Option Bool} {dd_BadState : Option Addr} {m0_BadState m1_BadState m2_BadState m3_BadState m5_BadState : Option Value}
    {i_BadState : Addr} {od_i_BadState an_i_BadState : Option Addr} {sl_i_BadState : Array (Option Value)} {oc_i_BadState kV_i_BadState dc_i_BadState pm_i_BadState cd_i_BadState ct_i_BadState : Value}
    {C_BadNumber : Addr}
    {nm_BadNumber qn_BadNumber : Str} {N_BadNumber : Addr} {bs_BadNumber bm_BadNumber : List Value} {sn_BadNumber : List Str} {sb_BadNumber : List Value} {ab_BadNumber : Bool} {col_BadNumber : Option Bool} {dd_BadNumber : Option Addr} {m0_BadNumber m1_BadNumber m2_BadNumber m3_BadNumber m5_BadNumber : Option Value}
    {i_BadNumber : Addr} {od_i_BadNumber an_i_BadNumber : Option Addr} {sl_i_BadNumber : Array (Option Value)} {oc_i_BadNumber kV_i_BadNumber dc_i_BadNumber pm_i_BadNumber cd_i_BadNumber ct_i_BadNumber : Value}
    {C_NoNumber : Addr}
    {nm_NoNumber qn_NoNumber : Str} {N_NoNumber : Addr} {bs_NoNumber bm_NoNumber : List Value} {sn_NoNumber : List Str} {sb_NoNumber : List Value} {ab_NoNumber : Bool} {col_NoNumber : Option Bool} {dd_NoNumber : Option Addr} {m0_NoNumber m1_NoNumber m2_NoNumber m3_NoNumber m5_NoNumber : Option Value}
    {i_NoNumber : Addr} {od_i_NoNumber an_i_NoNumber : Option Addr} {sl_i_NoNumber : Array (Option Value)} {oc_i_NoNumber kV_i_NoNumber dc_i_NoNumber pm_i_NoNumber cd_i_NoNumber ct_i_NoNumber : Value}
    {C_FewWords : Addr}
    {nm_FewWords qn_FewWords : Str} {N_FewWords : Addr} {bs_FewWords bm_FewWords : List Value} {sn_FewWords : List Str} {sb_FewWords : List Value} {ab_FewWords : Bool} {col_FewWords : Option Bool} {dd_FewWords : Option Addr} {m0_FewWords m1_FewWords m2_FewWords m3_FewWords m5_FewWords : Option Value}
    {i_FewWords : Addr} {od_i_FewWords an_i_FewWords : Option Addr} {sl_i_FewWords : Array (Option Value)} {oc_i_FewWords kV_i_FewWords dc_i_FewWords pm_i_FewWords cd_i_FewWords ct_i_FewWords : Value}
    {C_BadOctet : Addr}
    {nm_BadOctet qn_BadOctet : Str} {N_BadOctet : Addr} {bs_BadOctet bm_BadOctet : List Value} {sn_BadOctet : List Str} {sb_BadOctet : List Value} {ab_BadOctet : Bool} {col_BadOctet : Option Bool} {dd_BadOctet : Option Addr} {m0_BadOctet m1_BadOctet m2_BadOctet m3_BadOctet m5_BadOctet : Option Value}
    {i_BadOctet : Addr} {od_i_BadOctet an_i_BadOctet : Option Addr} {sl_i_BadOctet : Array (Option Value)} {oc_i_BadOctet kV_i_BadOctet dc_i_BadOctet pm_i_BadOctet cd_i_BadOctet ct_i_BadOctet : Value}
    {C_BadDigit : Addr}
    {nm_BadDigit qn_BadDigit : Str} {N_BadDigit : Addr} {bs_BadDigit bm_BadDigit : List Value} {sn_BadDigit : List Str} {sb_BadDigit : List Value} {ab_BadDigit : Bool} {col_BadDigit : Option Bool} {dd_BadDigit : Option Addr} {m0_BadDigit m1_BadDigit m2_BadDigit m3_BadDigit m5_BadDigit : Option Value}
    {i_BadDigit : Addr} {od_i_BadDigit an_i_BadDigit : Option Addr} {sl_i_BadDigit : Array (Option Value)} {oc_i_BadDigit kV_i_BadDigit dc_i_BadDigit pm_i_BadDigit cd_i_BadDigit ct_i_BadDigit : Value}
    {C_Behind : Addr}
    {nm_Behind qn_Behind : Str} {N_Behind : Addr} {bs_Behind bm_Behind : List Value} {sn_Behind : List Str} {sb_Behind : List Value} {ab_Behind : Bool} {col_Behind : Option Bool} {dd_Behind : Option Addr} {m0_Behind m1_Behind m2_Behind m3_Behind m5_Behind : Option Value}
    {i_Behind : Addr} {od_i_Behind an_i_Behind : Option Addr} {sl_i_Behind : Array (Option Value)} {oc_i_Behind kV_i_Behind dc_i_Behind pm_i_Behind cd_i_Behind ct_i_Behind : Value}
    {C_TooMany : Addr}
    {nm_TooMany qn_TooMany : Str} {N_TooMany : Addr} {bs_TooMany bm_TooMany : List Value} {sn_TooMany : List Str} {sb_TooMany : List Value} {ab_TooMany : Bool} {col_TooMany : Option Bool} {dd_TooMany : Option Addr} {m0_TooMany m1_TooMany m2_TooMany m3_TooMany m5_TooMany : Option Value}
    {i_TooMany : Addr} {od_i_TooMany an_i_TooMany : Option Addr} {sl_i_TooMany : Array (Option Value)} {oc_i_TooMany kV_i_TooMany dc_i_TooMany pm_i_TooMany cd_i_TooMany ct_i_TooMany : Value}
    {C_Double : Addr}
    {nm_Double qn_Double : Str} {N_Double : Addr} {bs_Double bm_Double : List Value} {sn_Double : List Str} {sb_Double : List Value} {ab_Double : Bool} {col_Double : Option Bool} {dd_Double : Option Addr} {m0_Double m1_Double m2_Double m3_Double m5_Double : Option Value}
    {i_Double : Addr} {od_i_Double an_i_Double : Option Addr} {sl_i_Double : Array (Option Value)} {oc_i_Double kV_i_Double dc_i_Double pm_i_Double cd_i_Double ct_i_Double : Value}
    (a_same_parts : PySem.W.nsIn K mainGlobals "same_parts" = some (some (.ref f_same_parts)))
    (l_same_parts : K.lookup f_same_parts = some ⟨oc_same_parts, od_same_parts, .func (PySem.W.fnOf "same_parts" "same_parts" (defArgs s_same_parts) (defBody s_same_parts) (defScope s_same_parts) .none kV_same_parts dc_same_parts pm_same_parts an_same_parts cd_same_parts ct_same_parts), sl_same_parts⟩)
    (c_same_parts : PySem.W.codeIn K cd_same_parts "same_parts" = true)
    (k_same_parts : PySem.W.keepIn K (.ref f_same_parts) = true)
    (a_is_whole : PySem.W.nsIn K mainGlobals "is_whole" = some (some (.ref f_is_whole)))
    (l_is_whole : K.lookup f_is_whole = some ⟨oc_is_whole, od_is_whole, .func (PySem.W.fnOf "is_whole" "is_whole" (defArgs s_is_whole) (defBody s_is_whole) (defScope s_is_whole) .none kV_is_whole dc_is_whole pm_is_whole an_is_whole cd_is_whole ct_is_whole), sl_is_whole⟩)
    (c_is_whole : PySem.W.codeIn K cd_is_whole "is_whole" = true)
    (k_is_whole : PySem.W.keepIn K (.ref f_is_whole) = true)
    (a_is_index : PySem.W.nsIn K mainGlobals "is_index" = some (some (.ref f_is_index)))
    (l_is_index : K.lookup f_is_index = some ⟨oc_is_index, od_is_index, .func (PySem.W.fnOf "is_index" "is_index" (defArgs s_is_index) (defBody s_is_index) (defScope s_is_index) .none kV_is_index dc_is_index pm_is_index an_is_index cd_is_index ct_is_index), sl_is_index⟩)
    (c_is_index : PySem.W.codeIn K cd_is_index "is_index" = true)
    (k_is_index : PySem.W.keepIn K (.ref f_is_index) = true)
    (a_copied : PySem.W.nsIn K mainGlobals "copied" = some (some (.ref f_copied)))
    (l_copied : K.lookup f_copied = some ⟨oc_copied, od_copied, .func (PySem.W.fnOf "copied" "copied" (defArgs s_copied) (defBody s_copied) (defScope s_copied) .none kV_copied dc_copied pm_copied an_copied cd_copied ct_copied), sl_copied⟩)
    (c_copied : PySem.W.codeIn K cd_copied "copied" = true)
    (k_copied : PySem.W.keepIn K (.ref f_copied) = true)
    (a_check_state : PySem.W.nsIn K mainGlobals "check_state" = some (some (.ref f_check_state)))
    (l_check_state : K.lookup f_check_state = some ⟨oc_check_state, od_check_state, .func (PySem.W.fnOf "check_state" "check_state" (defArgs s_check_state) (defBody s_check_state) (defScope s_check_state) .none kV_check_state dc_check_state pm_check_state an_check_state cd_check_state ct_check_state), sl_check_state⟩)
    (c_check_state : PySem.W.codeIn K cd_check_state "check_state" = true)
    (k_check_state : PySem.W.keepIn K (.ref f_check_state) = true)
    (a_is_book : PySem.W.nsIn K mainGlobals "is_book" = some (some (.ref f_is_book)))
    (l_is_book : K.lookup f_is_book = some ⟨oc_is_book, od_is_book, .func (PySem.W.fnOf "is_book" "is_book" (defArgs s_is_book) (defBody s_is_book) (defScope s_is_book) .none kV_is_book dc_is_book pm_is_book an_is_book cd_is_book ct_is_book), sl_is_book⟩)
    (c_is_book : PySem.W.codeIn K cd_is_book "is_book" = true)
    (k_is_book : PySem.W.keepIn K (.ref f_is_book) = true)
    (a_words_of : PySem.W.nsIn K mainGlobals "words_of" = some (some (.ref f_words_of)))
    (l_words_of : K.lookup f_words_of = some ⟨oc_words_of, od_words_of, .func (PySem.W.fnOf "words_of" "words_of" (defArgs s_words_of) (defBody s_words_of) (defScope s_words_of) .none kV_words_of dc_words_of pm_words_of an_words_of cd_words_of ct_words_of), sl_words_of⟩)
    (c_words_of : PySem.W.codeIn K cd_words_of "words_of" = true)
    (k_words_of : PySem.W.keepIn K (.ref f_words_of) = true)
    (a_book_words : PySem.W.nsIn K mainGlobals "book_words" = some (some (.ref f_book_words)))
    (l_book_words : K.lookup f_book_words = some ⟨oc_book_words, od_book_words, .func (PySem.W.fnOf "book_words" "book_words" (defArgs s_book_words) (defBody s_book_words) (defScope s_book_words) .none kV_book_words dc_book_words pm_book_words an_book_words cd_book_words ct_book_words), sl_book_words⟩)
    (c_book_words : PySem.W.codeIn K cd_book_words "book_words" = true)
    (k_book_words : PySem.W.keepIn K (.ref f_book_words) = true)
    (a_is_below : PySem.W.nsIn K mainGlobals "is_below" = some (some (.ref f_is_below)))
    (l_is_below : K.lookup f_is_below = some ⟨oc_is_below, od_is_below, .func (PySem.W.fnOf "is_below" "is_below" (defArgs s_is_below) (defBody s_is_below) (defScope s_is_below) .none kV_is_below dc_is_below pm_is_below an_is_below cd_is_below ct_is_below), sl_is_below⟩)
    (c_is_below : PySem.W.codeIn K cd_is_below "is_below" = true)
    (k_is_below : PySem.W.keepIn K (.ref f_is_below) = true)
    (a_check_book : PySem.W.nsIn K mainGlobals "check_book" = some (some (.ref f_check_book)))
    (l_check_book : K.lookup f_check_book = some ⟨oc_check_book, od_check_book, .func (PySem.W.fnOf "check_book" "check_book" (defArgs s_check_book) (defBody s_check_book) (defScope s_check_book) .none kV_check_book dc_check_book pm_check_book an_check_book cd_check_book ct_check_book), sl_check_book⟩)
    (c_check_book : PySem.W.codeIn K cd_check_book "check_book" = true)
    (k_check_book : PySem.W.keepIn K (.ref f_check_book) = true)
    (a_check_base : PySem.W.nsIn K mainGlobals "check_base" = some (some (.ref f_check_base)))
    (l_check_base : K.lookup f_check_base = some ⟨oc_check_base, od_check_base, .func (PySem.W.fnOf "check_base" "check_base" (defArgs s_check_base) (defBody s_check_base) (defScope s_check_base) .none kV_check_base dc_check_base pm_check_base an_check_base cd_check_base ct_check_base), sl_check_base⟩)
    (c_check_base : PySem.W.codeIn K cd_check_base "check_base" = true)
    (k_check_base : PySem.W.keepIn K (.ref f_check_base) = true)
    (a_check_octets : PySem.W.nsIn K mainGlobals "check_octets" = some (some (.ref f_check_octets)))
    (l_check_octets : K.lookup f_check_octets = some ⟨oc_check_octets, od_check_octets, .func (PySem.W.fnOf "check_octets" "check_octets" (defArgs s_check_octets) (defBody s_check_octets) (defScope s_check_octets) .none kV_check_octets dc_check_octets pm_check_octets an_check_octets cd_check_octets ct_check_octets), sl_check_octets⟩)
    (c_check_octets : PySem.W.codeIn K cd_check_octets "check_octets" = true)
    (k_check_octets : PySem.W.keepIn K (.ref f_check_octets) = true)
    (a_end_of : PySem.W.nsIn K mainGlobals "end_of" = some (some (.ref f_end_of)))
    (l_end_of : K.lookup f_end_of = some ⟨oc_end_of, od_end_of, .func (PySem.W.fnOf "end_of" "end_of" (defArgs s_end_of) (defBody s_end_of) (defScope s_end_of) .none kV_end_of dc_end_of pm_end_of an_end_of cd_end_of ct_end_of), sl_end_of⟩)
    (c_end_of : PySem.W.codeIn K cd_end_of "end_of" = true)
    (k_end_of : PySem.W.keepIn K (.ref f_end_of) = true)
    (a_digits_of : PySem.W.nsIn K mainGlobals "digits_of" = some (some (.ref f_digits_of)))
    (l_digits_of : K.lookup f_digits_of = some ⟨oc_digits_of, od_digits_of, .func (PySem.W.fnOf "digits_of" "digits_of" (defArgs s_digits_of) (defBody s_digits_of) (defScope s_digits_of) .none kV_digits_of dc_digits_of pm_digits_of an_digits_of cd_digits_of ct_digits_of), sl_digits_of⟩)
    (c_digits_of : PySem.W.codeIn K cd_digits_of "digits_of" = true)
    (k_digits_of : PySem.W.keepIn K (.ref f_digits_of) = true)
    (a_octets_of : PySem.W.nsIn K mainGlobals "octets_of" = some (some (.ref f_octets_of)))
    (l_octets_of : K.lookup f_octets_of = some ⟨oc_octets_of, od_octets_of, .func (PySem.W.fnOf "octets_of" "octets_of" (defArgs s_octets_of) (defBody s_octets_of) (defScope s_octets_of) .none kV_octets_of dc_octets_of pm_octets_of an_octets_of cd_octets_of ct_octets_of), sl_octets_of⟩)
    (c_octets_of : PySem.W.codeIn K cd_octets_of "octets_of" = true)
    (k_octets_of : PySem.W.keepIn K (.ref f_octets_of) = true)
    (a_say_octets : PySem.W.nsIn K mainGlobals "say_octets" = some (some (.ref f_say_octets)))
    (l_say_octets : K.lookup f_say_octets = some ⟨oc_say_octets, od_say_octets, .func (PySem.W.fnOf "say_octets" "say_octets" (defArgs s_say_octets) (defBody s_say_octets) (defScope s_say_octets) .none kV_say_octets dc_say_octets pm_say_octets an_say_octets cd_say_octets ct_say_octets), sl_say_octets⟩)
    (c_say_octets : PySem.W.codeIn K cd_say_octets "say_octets" = true)
    (k_say_octets : PySem.W.keepIn K (.ref f_say_octets) = true)
    (a_walk : PySem.W.nsIn K mainGlobals "walk" = some (some (.ref f_walk)))
    (l_walk : K.lookup f_walk = some ⟨oc_walk, od_walk, .func (PySem.W.fnOf "walk" "walk" (defArgs s_walk) (defBody s_walk) (defScope s_walk) .none kV_walk dc_walk pm_walk an_walk cd_walk ct_walk), sl_walk⟩)
    (c_walk : PySem.W.codeIn K cd_walk "walk" = true)
    (k_walk : PySem.W.keepIn K (.ref f_walk) = true)
    (a_copy_of : PySem.W.nsIn K mainGlobals "copy_of" = some (some (.ref f_copy_of)))
    (l_copy_of : K.lookup f_copy_of = some ⟨oc_copy_of, od_copy_of, .func (PySem.W.fnOf "copy_of" "copy_of" (defArgs s_copy_of) (defBody s_copy_of) (defScope s_copy_of) .none kV_copy_of dc_copy_of pm_copy_of an_copy_of cd_copy_of ct_copy_of), sl_copy_of⟩)
    (c_copy_of : PySem.W.codeIn K cd_copy_of "copy_of" = true)
    (k_copy_of : PySem.W.keepIn K (.ref f_copy_of) = true)
    (a_is_from_to : PySem.W.nsIn K mainGlobals "is_from_to" = some (some (.ref f_is_from_to)))
    (l_is_from_to : K.lookup f_is_from_to = some ⟨oc_is_from_to, od_is_from_to, .func (PySem.W.fnOf "is_from_to" "is_from_to" (defArgs s_is_from_to) (defBody s_is_from_to) (defScope s_is_from_to) .none kV_is_from_to dc_is_from_to pm_is_from_to an_is_from_to cd_is_from_to ct_is_from_to), sl_is_from_to⟩)
    (c_is_from_to : PySem.W.codeIn K cd_is_from_to "is_from_to" = true)
    (k_is_from_to : PySem.W.keepIn K (.ref f_is_from_to) = true)
    (a_tails : PySem.W.nsIn K mainGlobals "tails" = some (some (.ref f_tails)))
    (l_tails : K.lookup f_tails = some ⟨oc_tails, od_tails, .func (PySem.W.fnOf "tails" "tails" (defArgs s_tails) (defBody s_tails) (defScope s_tails) .none kV_tails dc_tails pm_tails an_tails cd_tails ct_tails), sl_tails⟩)
    (c_tails : PySem.W.codeIn K cd_tails "tails" = true)
    (k_tails : PySem.W.keepIn K (.ref f_tails) = true)
    (a_saying_at : PySem.W.nsIn K mainGlobals "saying_at" = some (some (.ref f_saying_at)))
    (l_saying_at : K.lookup f_saying_at = some ⟨oc_saying_at, od_saying_at, .func (PySem.W.fnOf "saying_at" "saying_at" (defArgs s_saying_at) (defBody s_saying_at) (defScope s_saying_at) .none kV_saying_at dc_saying_at pm_saying_at an_saying_at cd_saying_at ct_saying_at), sl_saying_at⟩)
    (c_saying_at : PySem.W.codeIn K cd_saying_at "saying_at" = true)
    (k_saying_at : PySem.W.keepIn K (.ref f_saying_at) = true)
    (a_saying_rank : PySem.W.nsIn K mainGlobals "saying_rank" = some (some (.ref f_saying_rank)))
    (l_saying_rank : K.lookup f_saying_rank = some ⟨oc_saying_rank, od_saying_rank, .func (PySem.W.fnOf "saying_rank" "saying_rank" (defArgs s_saying_rank) (defBody s_saying_rank) (defScope s_saying_rank) .none kV_saying_rank dc_saying_rank pm_saying_rank an_saying_rank cd_saying_rank ct_saying_rank), sl_saying_rank⟩)
    (c_saying_rank : PySem.W.codeIn K cd_saying_rank "saying_rank" = true)
    (k_saying_rank : PySem.W.keepIn K (.ref f_saying_rank) = true)
    (a_book_made : PySem.W.nsIn K mainGlobals "book_made" = some (some (.ref f_book_made)))
    (l_book_made : K.lookup f_book_made = some ⟨oc_book_made, od_book_made, .func (PySem.W.fnOf "book_made" "book_made" (defArgs s_book_made) (defBody s_book_made) (defScope s_book_made) .none kV_book_made dc_book_made pm_book_made an_book_made cd_book_made ct_book_made), sl_book_made⟩)
    (c_book_made : PySem.W.codeIn K cd_book_made "book_made" = true)
    (k_book_made : PySem.W.keepIn K (.ref f_book_made) = true)
    (a_part : PySem.W.nsIn K mainGlobals "part" = some (some (.ref f_part)))
    (l_part : K.lookup f_part = some ⟨oc_part, od_part, .func (PySem.W.fnOf "part" "part" (defArgs s_part) (defBody s_part) (defScope s_part) .none kV_part dc_part pm_part an_part cd_part ct_part), sl_part⟩)
    (c_part : PySem.W.codeIn K cd_part "part" = true)
    (k_part : PySem.W.keepIn K (.ref f_part) = true)
    (a__law_mixed : PySem.W.nsIn K mainGlobals "_law_mixed" = some (some (.ref f__law_mixed)))
    (l__law_mixed : K.lookup f__law_mixed = some ⟨oc__law_mixed, od__law_mixed, .func (PySem.W.fnOf "_law_mixed" "_law_mixed" (defArgs s__law_mixed) (defBody s__law_mixed) (defScope s__law_mixed) .none kV__law_mixed dc__law_mixed pm__law_mixed an__law_mixed cd__law_mixed ct__law_mixed), sl__law_mixed⟩)
    (c__law_mixed : PySem.W.codeIn K cd__law_mixed "_law_mixed" = true)
    (k__law_mixed : PySem.W.keepIn K (.ref f__law_mixed) = true)
    (a__law_store : PySem.W.nsIn K mainGlobals "_law_store" = some (some (.ref f__law_store)))
    (l__law_store : K.lookup f__law_store = some ⟨oc__law_store, od__law_store, .func (PySem.W.fnOf "_law_store" "_law_store" (defArgs s__law_store) (defBody s__law_store) (defScope s__law_store) .none kV__law_store dc__law_store pm__law_store an__law_store cd__law_store ct__law_store), sl__law_store⟩)
    (c__law_store : PySem.W.codeIn K cd__law_store "_law_store" = true)
    (k__law_store : PySem.W.keepIn K (.ref f__law_store) = true)
    (a__law_take : PySem.W.nsIn K mainGlobals "_law_take" = some (some (.ref f__law_take)))
    (l__law_take : K.lookup f__law_take = some ⟨oc__law_take, od__law_take, .func (PySem.W.fnOf "_law_take" "_law_take" (defArgs s__law_take) (defBody s__law_take) (defScope s__law_take) .none kV__law_take dc__law_take pm__law_take an__law_take cd__law_take ct__law_take), sl__law_take⟩)
    (c__law_take : PySem.W.codeIn K cd__law_take "_law_take" = true)
    (k__law_take : PySem.W.keepIn K (.ref f__law_take) = true)
    (a__law_number : PySem.W.nsIn K mainGlobals "_law_number" = some (some (.ref f__law_number)))
    (l__law_number : K.lookup f__law_number = some ⟨oc__law_number, od__law_number, .func (PySem.W.fnOf "_law_number" "_law_number" (defArgs s__law_number) (defBody s__law_number) (defScope s__law_number) .none kV__law_number dc__law_number pm__law_number an__law_number cd__law_number ct__law_number), sl__law_number⟩)
    (c__law_number : PySem.W.codeIn K cd__law_number "_law_number" = true)
    (k__law_number : PySem.W.keepIn K (.ref f__law_number) = true)
    (a__law_size : PySem.W.nsIn K mainGlobals "_law_size" = some (some (.ref f__law_size)))
    (l__law_size : K.lookup f__law_size = some ⟨oc__law_size, od__law_size, .func (PySem.W.fnOf "_law_size" "_law_size" (defArgs s__law_size) (defBody s__law_size) (defScope s__law_size) .none kV__law_size dc__law_size pm__law_size an__law_size cd__law_size ct__law_size), sl__law_size⟩)
    (c__law_size : PySem.W.codeIn K cd__law_size "_law_size" = true)
    (k__law_size : PySem.W.keepIn K (.ref f__law_size) = true)
    (a__law_unlike : PySem.W.nsIn K mainGlobals "_law_unlike" = some (some (.ref f__law_unlike)))
    (l__law_unlike : K.lookup f__law_unlike = some ⟨oc__law_unlike, od__law_unlike, .func (PySem.W.fnOf "_law_unlike" "_law_unlike" (defArgs s__law_unlike) (defBody s__law_unlike) (defScope s__law_unlike) .none kV__law_unlike dc__law_unlike pm__law_unlike an__law_unlike cd__law_unlike ct__law_unlike), sl__law_unlike⟩)
    (c__law_unlike : PySem.W.codeIn K cd__law_unlike "_law_unlike" = true)
    (k__law_unlike : PySem.W.keepIn K (.ref f__law_unlike) = true)
    (a__law_power : PySem.W.nsIn K mainGlobals "_law_power" = some (some (.ref f__law_power)))
    (l__law_power : K.lookup f__law_power = some ⟨oc__law_power, od__law_power, .func (PySem.W.fnOf "_law_power" "_law_power" (defArgs s__law_power) (defBody s__law_power) (defScope s__law_power) .none kV__law_power dc__law_power pm__law_power an__law_power cd__law_power ct__law_power), sl__law_power⟩)
    (c__law_power : PySem.W.codeIn K cd__law_power "_law_power" = true)
    (k__law_power : PySem.W.keepIn K (.ref f__law_power) = true)
    (a__law_kind : PySem.W.nsIn K mainGlobals "_law_kind" = some (some (.ref f__law_kind)))
    (l__law_kind : K.lookup f__law_kind = some ⟨oc__law_kind, od__law_kind, .func (PySem.W.fnOf "_law_kind" "_law_kind" (defArgs s__law_kind) (defBody s__law_kind) (defScope s__law_kind) .none kV__law_kind dc__law_kind pm__law_kind an__law_kind cd__law_kind ct__law_kind), sl__law_kind⟩)
    (c__law_kind : PySem.W.codeIn K cd__law_kind "_law_kind" = true)
    (k__law_kind : PySem.W.keepIn K (.ref f__law_kind) = true)
    (a__law_same : PySem.W.nsIn K mainGlobals "_law_same" = some (some (.ref f__law_same)))
    (l__law_same : K.lookup f__law_same = some ⟨oc__law_same, od__law_same, .func (PySem.W.fnOf "_law_same" "_law_same" (defArgs s__law_same) (defBody s__law_same) (defScope s__law_same) .none kV__law_same dc__law_same pm__law_same an__law_same cd__law_same ct__law_same), sl__law_same⟩)
    (c__law_same : PySem.W.codeIn K cd__law_same "_law_same" = true)
    (k__law_same : PySem.W.keepIn K (.ref f__law_same) = true)
    (a__law_is_whole : PySem.W.nsIn K mainGlobals "_law_is_whole" = some (some (.ref f__law_is_whole)))
    (l__law_is_whole : K.lookup f__law_is_whole = some ⟨oc__law_is_whole, od__law_is_whole, .func (PySem.W.fnOf "_law_is_whole" "_law_is_whole" (defArgs s__law_is_whole) (defBody s__law_is_whole) (defScope s__law_is_whole) .none kV__law_is_whole dc__law_is_whole pm__law_is_whole an__law_is_whole cd__law_is_whole ct__law_is_whole), sl__law_is_whole⟩)
    (c__law_is_whole : PySem.W.codeIn K cd__law_is_whole "_law_is_whole" = true)
    (k__law_is_whole : PySem.W.keepIn K (.ref f__law_is_whole) = true)
    (a__law_mask_word : PySem.W.nsIn K mainGlobals "_law_mask_word" = some (some (.ref f__law_mask_word)))
    (l__law_mask_word : K.lookup f__law_mask_word = some ⟨oc__law_mask_word, od__law_mask_word, .func (PySem.W.fnOf "_law_mask_word" "_law_mask_word" (defArgs s__law_mask_word) (defBody s__law_mask_word) (defScope s__law_mask_word) .none kV__law_mask_word dc__law_mask_word pm__law_mask_word an__law_mask_word cd__law_mask_word ct__law_mask_word), sl__law_mask_word⟩)
    (c__law_mask_word : PySem.W.codeIn K cd__law_mask_word "_law_mask_word" = true)
    (k__law_mask_word : PySem.W.keepIn K (.ref f__law_mask_word) = true)
    (a__law_bent_list : PySem.W.nsIn K mainGlobals "_law_bent_list" = some (some (.ref f__law_bent_list)))
    (l__law_bent_list : K.lookup f__law_bent_list = some ⟨oc__law_bent_list, od__law_bent_list, .func (PySem.W.fnOf "_law_bent_list" "_law_bent_list" (defArgs s__law_bent_list) (defBody s__law_bent_list) (defScope s__law_bent_list) .none kV__law_bent_list dc__law_bent_list pm__law_bent_list an__law_bent_list cd__law_bent_list ct__law_bent_list), sl__law_bent_list⟩)
    (c__law_bent_list : PySem.W.codeIn K cd__law_bent_list "_law_bent_list" = true)
    (k__law_bent_list : PySem.W.keepIn K (.ref f__law_bent_list) = true)
    (a__law_book : PySem.W.nsIn K mainGlobals "_law_book" = some (some (.ref f__law_book)))
    (l__law_book : K.lookup f__law_book = some ⟨oc__law_book, od__law_book, .func (PySem.W.fnOf "_law_book" "_law_book" (defArgs s__law_book) (defBody s__law_book) (defScope s__law_book) .none kV__law_book dc__law_book pm__law_book an__law_book cd__law_book ct__law_book), sl__law_book⟩)
    (c__law_book : PySem.W.codeIn K cd__law_book "_law_book" = true)
    (k__law_book : PySem.W.keepIn K (.ref f__law_book) = true)
    (a__law_octets : PySem.W.nsIn K mainGlobals "_law_octets" = some (some (.ref f__law_octets)))
    (l__law_octets : K.lookup f__law_octets = some ⟨oc__law_octets, od__law_octets, .func (PySem.W.fnOf "_law_octets" "_law_octets" (defArgs s__law_octets) (defBody s__law_octets) (defScope s__law_octets) .none kV__law_octets dc__law_octets pm__law_octets an__law_octets cd__law_octets ct__law_octets), sl__law_octets⟩)
    (c__law_octets : PySem.W.codeIn K cd__law_octets "_law_octets" = true)
    (k__law_octets : PySem.W.keepIn K (.ref f__law_octets) = true)
    (a__law_digits : PySem.W.nsIn K mainGlobals "_law_digits" = some (some (.ref f__law_digits)))
    (l__law_digits : K.lookup f__law_digits = some ⟨oc__law_digits, od__law_digits, .func (PySem.W.fnOf "_law_digits" "_law_digits" (defArgs s__law_digits) (defBody s__law_digits) (defScope s__law_digits) .none kV__law_digits dc__law_digits pm__law_digits an__law_digits cd__law_digits ct__law_digits), sl__law_digits⟩)
    (c__law_digits : PySem.W.codeIn K cd__law_digits "_law_digits" = true)
    (k__law_digits : PySem.W.keepIn K (.ref f__law_digits) = true)
    (a__law_value : PySem.W.nsIn K mainGlobals "_law_value" = some (some (.ref f__law_value)))
    (l__law_value : K.lookup f__law_value = some ⟨oc__law_value, od__law_value, .func (PySem.W.fnOf "_law_value" "_law_value" (defArgs s__law_value) (defBody s__law_value) (defScope s__law_value) .none kV__law_value dc__law_value pm__law_value an__law_value cd__law_value ct__law_value), sl__law_value⟩)
    (c__law_value : PySem.W.codeIn K cd__law_value "_law_value" = true)
    (k__law_value : PySem.W.keepIn K (.ref f__law_value) = true)
    (a__law_read : PySem.W.nsIn K mainGlobals "_law_read" = some (some (.ref f__law_read)))
    (l__law_read : K.lookup f__law_read = some ⟨oc__law_read, od__law_read, .func (PySem.W.fnOf "_law_read" "_law_read" (defArgs s__law_read) (defBody s__law_read) (defScope s__law_read) .none kV__law_read dc__law_read pm__law_read an__law_read cd__law_read ct__law_read), sl__law_read⟩)
    (c__law_read : PySem.W.codeIn K cd__law_read "_law_read" = true)
    (k__law_read : PySem.W.keepIn K (.ref f__law_read) = true)
    (a__law_asked_octets : PySem.W.nsIn K mainGlobals "_law_asked_octets" = some (some (.ref f__law_asked_octets)))
    (l__law_asked_octets : K.lookup f__law_asked_octets = some ⟨oc__law_asked_octets, od__law_asked_octets, .func (PySem.W.fnOf "_law_asked_octets" "_law_asked_octets" (defArgs s__law_asked_octets) (defBody s__law_asked_octets) (defScope s__law_asked_octets) .none kV__law_asked_octets dc__law_asked_octets pm__law_asked_octets an__law_asked_octets cd__law_asked_octets ct__law_asked_octets), sl__law_asked_octets⟩)
    (c__law_asked_octets : PySem.W.codeIn K cd__law_asked_octets "_law_asked_octets" = true)
    (k__law_asked_octets : PySem.W.keepIn K (.ref f__law_asked_octets) = true)
    (a__law_asked_digits : PySem.W.nsIn K mainGlobals "_law_asked_digits" = some (some (.ref f__law_asked_digits)))
    (l__law_asked_digits : K.lookup f__law_asked_digits = some ⟨oc__law_asked_digits, od__law_asked_digits, .func (PySem.W.fnOf "_law_asked_digits" "_law_asked_digits" (defArgs s__law_asked_digits) (defBody s__law_asked_digits) (defScope s__law_asked_digits) .none kV__law_asked_digits dc__law_asked_digits pm__law_asked_digits an__law_asked_digits cd__law_asked_digits ct__law_asked_digits), sl__law_asked_digits⟩)
    (c__law_asked_digits : PySem.W.codeIn K cd__law_asked_digits "_law_asked_digits" = true)
    (k__law_asked_digits : PySem.W.keepIn K (.ref f__law_asked_digits) = true)
    (a__law_is_spelled : PySem.W.nsIn K mainGlobals "_law_is_spelled" = some (some (.ref f__law_is_spelled)))
    (l__law_is_spelled : K.lookup f__law_is_spelled = some ⟨oc__law_is_spelled, od__law_is_spelled, .func (PySem.W.fnOf "_law_is_spelled" "_law_is_spelled" (defArgs s__law_is_spelled) (defBody s__law_is_spelled) (defScope s__law_is_spelled) .none kV__law_is_spelled dc__law_is_spelled pm__law_is_spelled an__law_is_spelled cd__law_is_spelled ct__law_is_spelled), sl__law_is_spelled⟩)
    (c__law_is_spelled : PySem.W.codeIn K cd__law_is_spelled "_law_is_spelled" = true)
    (k__law_is_spelled : PySem.W.keepIn K (.ref f__law_is_spelled) = true)
    (a__law_is_ranked : PySem.W.nsIn K mainGlobals "_law_is_ranked" = some (some (.ref f__law_is_ranked)))
    (l__law_is_ranked : K.lookup f__law_is_ranked = some ⟨oc__law_is_ranked, od__law_is_ranked, .func (PySem.W.fnOf "_law_is_ranked" "_law_is_ranked" (defArgs s__law_is_ranked) (defBody s__law_is_ranked) (defScope s__law_is_ranked) .none kV__law_is_ranked dc__law_is_ranked pm__law_is_ranked an__law_is_ranked cd__law_is_ranked ct__law_is_ranked), sl__law_is_ranked⟩)
    (c__law_is_ranked : PySem.W.codeIn K cd__law_is_ranked "_law_is_ranked" = true)
    (k__law_is_ranked : PySem.W.keepIn K (.ref f__law_is_ranked) = true)
    (a__law_bent_is_read : PySem.W.nsIn K mainGlobals "_law_bent_is_read" = some (some (.ref f__law_bent_is_read)))
    (l__law_bent_is_read : K.lookup f__law_bent_is_read = some ⟨oc__law_bent_is_read, od__law_bent_is_read, .func (PySem.W.fnOf "_law_bent_is_read" "_law_bent_is_read" (defArgs s__law_bent_is_read) (defBody s__law_bent_is_read) (defScope s__law_bent_is_read) .none kV__law_bent_is_read dc__law_bent_is_read pm__law_bent_is_read an__law_bent_is_read cd__law_bent_is_read ct__law_bent_is_read), sl__law_bent_is_read⟩)
    (c__law_bent_is_read : PySem.W.codeIn K cd__law_bent_is_read "_law_bent_is_read" = true)
    (k__law_bent_is_read : PySem.W.keepIn K (.ref f__law_bent_is_read) = true)
    (a__law_bounds_hold : PySem.W.nsIn K mainGlobals "_law_bounds_hold" = some (some (.ref f__law_bounds_hold)))
    (l__law_bounds_hold : K.lookup f__law_bounds_hold = some ⟨oc__law_bounds_hold, od__law_bounds_hold, .func (PySem.W.fnOf "_law_bounds_hold" "_law_bounds_hold" (defArgs s__law_bounds_hold) (defBody s__law_bounds_hold) (defScope s__law_bounds_hold) .none kV__law_bounds_hold dc__law_bounds_hold pm__law_bounds_hold an__law_bounds_hold cd__law_bounds_hold ct__law_bounds_hold), sl__law_bounds_hold⟩)
    (c__law_bounds_hold : PySem.W.codeIn K cd__law_bounds_hold "_law_bounds_hold" = true)
    (k__law_bounds_hold : PySem.W.keepIn K (.ref f__law_bounds_hold) = true)
    (a_law : PySem.W.nsIn K mainGlobals "law" = some (some (.ref f_law)))
    (l_law : K.lookup f_law = some ⟨oc_law, od_law, .func (PySem.W.fnOf "law" "law" (defArgs s_law) (defBody s_law) (defScope s_law) .none kV_law dc_law pm_law an_law cd_law ct_law), sl_law⟩)
    (c_law : PySem.W.codeIn K cd_law "law" = true)
    (k_law : PySem.W.keepIn K (.ref f_law) = true)
    (z_abs : PySem.W.nsIn K mainGlobals "abs" = some none)
    (z_bool : PySem.W.nsIn K mainGlobals "bool" = some none)
    (z_enumerate : PySem.W.nsIn K mainGlobals "enumerate" = some none)
    (z_int : PySem.W.nsIn K mainGlobals "int" = some none)
    (z_isinstance : PySem.W.nsIn K mainGlobals "isinstance" = some none)
    (z_len : PySem.W.nsIn K mainGlobals "len" = some none)
    (z_list : PySem.W.nsIn K mainGlobals "list" = some none)
    (z_min : PySem.W.nsIn K mainGlobals "min" = some none)
    (z_range : PySem.W.nsIn K mainGlobals "range" = some none)
    (z_reversed : PySem.W.nsIn K mainGlobals "reversed" = some none)
    (z_str : PySem.W.nsIn K mainGlobals "str" = some none)
    (z_sum : PySem.W.nsIn K mainGlobals "sum" = some none)
    (z_tuple : PySem.W.nsIn K mainGlobals "tuple" = some none)
    (q_MOST_OCTETS : PySem.W.nsIn K mainGlobals "MOST_OCTETS" = some (some (.int 24 t_MOST_OCTETS)))
    (q_MOST_DIGITS : PySem.W.nsIn K mainGlobals "MOST_DIGITS" = some (some (.int 600 t_MOST_DIGITS)))
    (q_MOST_BASE : PySem.W.nsIn K mainGlobals "MOST_BASE" = some (some (.int 64 t_MOST_BASE)))
    (q_LEAST_BASE : PySem.W.nsIn K mainGlobals "LEAST_BASE" = some (some (.int 3 t_LEAST_BASE)))
    (q_MOST_SAID : PySem.W.nsIn K mainGlobals "MOST_SAID" = some (some (.int 600 t_MOST_SAID)))
    (q_LONGEST : PySem.W.nsIn K mainGlobals "LONGEST" = some (some (.int 60 t_LONGEST)))
    (ac_PulseError : PySem.W.nsIn K mainGlobals "PulseError" = some (some (.ref C_PulseError)))
    (ac_NoEnd : PySem.W.nsIn K mainGlobals "NoEnd" = some (some (.ref C_NoEnd)))
    (is_NoEnd : PySem.W.isClsIn K C_NoEnd = true)
    (ty_NoEnd : PySem.W.typeIn K (.ref C_NoEnd) = some (.type "type"))
    (ex_NoEnd : PySem.W.subIn K (.ref C_NoEnd) (.type "BaseException") = some true)
    (ga_NoEnd : PySem.W.findIn K (.ref C_NoEnd) "__getattribute__" = some (some (.builtin "BaseException.__getattribute__")))
    (gg_NoEnd : PySem.W.findIn K (.ref C_NoEnd) "__getattr__" = some none)
    (ec_NoEnd : PySem.W.excIn K C_NoEnd [.type "ValueError", .type "Exception", .type "BaseException", .type "object"] "ValueError.__new__" = true)
    (kc_NoEnd : PySem.W.keepIn K (.ref C_NoEnd) = true)
    (hd_NoEnd : PySem.W.hasDictIn K C_NoEnd = true)
    (cl_NoEnd : PySem.W.findIn K (.ref C_NoEnd) "__class__" = some (some (.builtin "object.__class__")))
    (mo_NoEnd : PySem.W.mroIn K C_NoEnd (.type "object") = some true)
    (sf_NoEnd : PySem.W.subIn K (.ref C_NoEnd) (.ref C_NoEnd) = some true)
    (ac_NotOctets : PySem.W.nsIn K mainGlobals "NotOctets" = some (some (.ref C_NotOctets)))
    (is_NotOctets : PySem.W.isClsIn K C_NotOctets = true)
    (ty_NotOctets : PySem.W.typeIn K (.ref C_NotOctets) = some (.type "type"))
    (ex_NotOctets : PySem.W.subIn K (.ref C_NotOctets) (.type "BaseException") = some true)
    (ga_NotOctets : PySem.W.findIn K (.ref C_NotOctets) "__getattribute__" = some (some (.builtin "BaseException.__getattribute__")))
    (gg_NotOctets : PySem.W.findIn K (.ref C_NotOctets) "__getattr__" = some none)
    (ec_NotOctets : PySem.W.excIn K C_NotOctets [.type "ValueError", .type "Exception", .type "BaseException", .type "object"] "ValueError.__new__" = true)
    (kc_NotOctets : PySem.W.keepIn K (.ref C_NotOctets) = true)
    (hd_NotOctets : PySem.W.hasDictIn K C_NotOctets = true)
    (cl_NotOctets : PySem.W.findIn K (.ref C_NotOctets) "__class__" = some (some (.builtin "object.__class__")))
    (mo_NotOctets : PySem.W.mroIn K C_NotOctets (.type "object") = some true)
    (sf_NotOctets : PySem.W.subIn K (.ref C_NotOctets) (.ref C_NotOctets) = some true)
    (ac_BadSize : PySem.W.nsIn K mainGlobals "BadSize" = some (some (.ref C_BadSize)))
    (is_BadSize : PySem.W.isClsIn K C_BadSize = true)
    (ty_BadSize : PySem.W.typeIn K (.ref C_BadSize) = some (.type "type"))
    (ex_BadSize : PySem.W.subIn K (.ref C_BadSize) (.type "BaseException") = some true)
    (ga_BadSize : PySem.W.findIn K (.ref C_BadSize) "__getattribute__" = some (some (.builtin "BaseException.__getattribute__")))
    (gg_BadSize : PySem.W.findIn K (.ref C_BadSize) "__getattr__" = some none)
    (x_BadSize : K.lookup C_BadSize = some (excClassObj nm_BadSize qn_BadSize C_BadSize N_BadSize bs_BadSize bm_BadSize true sn_BadSize sb_BadSize ab_BadSize col_BadSize dd_BadSize m0_BadSize m1_BadSize m2_BadSize m3_BadSize m5_BadSize "ValueError.__new__"))
    (rv_BadSize : PySem.HandSPX.refsVE bm_BadSize = true)
    (sa_BadSize : PySem.W.findIn K (.ref C_BadSize) "__setattr__" = some (some (.builtin "object.__setattr__")))
    (kc_BadSize : PySem.W.keepIn K (.ref C_BadSize) = true)
    (ii_BadSize : PySem.W.findIn K (.ref C_BadSize) "__init__" = some (some (.ref i_BadSize)))
    (it_BadSize : PySem.W.typeIn K (.ref i_BadSize) = some (.type "function"))
    (li_BadSize : K.lookup i_BadSize = some ⟨oc_i_BadSize, od_i_BadSize, .func (PySem.W.fnOf "__init__" "BadSize.__init__" (defArgs st_i_BadSize) (defBody st_i_BadSize) (defScope st_i_BadSize) .none kV_i_BadSize dc_i_BadSize pm_i_BadSize an_i_BadSize cd_i_BadSize ct_i_BadSize), sl_i_BadSize⟩)
    (ci_BadSize : PySem.W.codeIn K cd_i_BadSize "BadSize.__init__" = true)
    (ki_BadSize : PySem.W.keepIn K (.ref i_BadSize) = true)
    (nf_BadSize_size : PySem.W.findIn K (.ref C_BadSize) "size" = some none)
    (ac_NoWord : PySem.W.nsIn K mainGlobals "NoWord" = some (some (.ref C_NoWord)))
    (is_NoWord : PySem.W.isClsIn K C_NoWord = true)
    (ty_NoWord : PySem.W.typeIn K (.ref C_NoWord) = some (.type "type"))
    (ex_NoWord : PySem.W.subIn K (.ref C_NoWord) (.type "BaseException") = some true)
    (ga_NoWord : PySem.W.findIn K (.ref C_NoWord) "__getattribute__" = some (some (.builtin "BaseException.__getattribute__")))
    (gg_NoWord : PySem.W.findIn K (.ref C_NoWord) "__getattr__" = some none)
    (x_NoWord : K.lookup C_NoWord = some (excClassObj nm_NoWord qn_NoWord C_NoWord N_NoWord bs_NoWord bm_NoWord true sn_NoWord sb_NoWord ab_NoWord col_NoWord dd_NoWord m0_NoWord m1_NoWord m2_NoWord m3_NoWord m5_NoWord "ValueError.__new__"))
    (rv_NoWord : PySem.HandSPX.refsVE bm_NoWord = true)
    (sa_NoWord : PySem.W.findIn K (.ref C_NoWord) "__setattr__" = some (some (.builtin "object.__setattr__")))
    (kc_NoWord : PySem.W.keepIn K (.ref C_NoWord) = true)
    (ii_NoWord : PySem.W.findIn K (.ref C_NoWord) "__init__" = some (some (.ref i_NoWord)))
    (it_NoWord : PySem.W.typeIn K (.ref i_NoWord) = some (.type "function"))
    (li_NoWord : K.lookup i_NoWord = some ⟨oc_i_NoWord, od_i_NoWord, .func (PySem.W.fnOf "__init__" "NoWord.__init__" (defArgs st_i_NoWord) (defBody st_i_NoWord) (defScope st_i_NoWord) .none kV_i_NoWord dc_i_NoWord pm_i_NoWord an_i_NoWord cd_i_NoWord ct_i_NoWord), sl_i_NoWord⟩)
    (ci_NoWord : PySem.W.codeIn K cd_i_NoWord "NoWord.__init__" = true)
    (ki_NoWord : PySem.W.keepIn K (.ref i_NoWord) = true)
    (nf_NoWord_at : PySem.W.findIn K (.ref C_NoWord) "at" = some none)
    (ac_NotBook : PySem.W.nsIn K mainGlobals "NotBook" = some (some (.ref C_NotBook)))
    (is_NotBook : PySem.W.isClsIn K C_NotBook = true)
    (ty_NotBook : PySem.W.typeIn K (.ref C_NotBook) = some (.type "type"))
    (ex_NotBook : PySem.W.subIn K (.ref C_NotBook) (.type "BaseException") = some true)
    (ga_NotBook : PySem.W.findIn K (.ref C_NotBook) "__getattribute__" = some (some (.builtin "BaseException.__getattribute__")))
    (gg_NotBook : PySem.W.findIn K (.ref C_NotBook) "__getattr__" = some none)
    (x_NotBook : K.lookup C_NotBook = some (excClassObj nm_NotBook qn_NotBook C_NotBook N_NotBook bs_NotBook bm_NotBook true sn_NotBook sb_NotBook ab_NotBook col_NotBook dd_NotBook m0_NotBook m1_NotBook m2_NotBook m3_NotBook m5_NotBook "ValueError.__new__"))
    (rv_NotBook : PySem.HandSPX.refsVE bm_NotBook = true)
    (sa_NotBook : PySem.W.findIn K (.ref C_NotBook) "__setattr__" = some (some (.builtin "object.__setattr__")))
    (kc_NotBook : PySem.W.keepIn K (.ref C_NotBook) = true)
    (ii_NotBook : PySem.W.findIn K (.ref C_NotBook) "__init__" = some (some (.ref i_NotBook)))
    (it_NotBook : PySem.W.typeIn K (.ref i_NotBook) = some (.type "function"))
    (li_NotBook : K.lookup i_NotBook = some ⟨oc_i_NotBook, od_i_NotBook, .func (PySem.W.fnOf "__init__" "NotBook.__init__" (defArgs st_i_NotBook) (defBody st_i_NotBook) (defScope st_i_NotBook) .none kV_i_NotBook dc_i_NotBook pm_i_NotBook an_i_NotBook cd_i_NotBook ct_i_NotBook), sl_i_NotBook⟩)
    (ci_NotBook : PySem.W.codeIn K cd_i_NotBook "NotBook.__init__" = true)
    (ki_NotBook : PySem.W.keepIn K (.ref i_NotBook) = true)
    (nf_NotBook_states : PySem.W.findIn K (.ref C_NotBook) "states" = some none)
    (ac_BadState : PySem.W.nsIn K mainGlobals "BadState" = some (some (.ref C_BadState)))
    (is_BadState : PySem.W.isClsIn K C_BadState = true)
    (ty_BadState : PySem.W.typeIn K (.ref C_BadState) = some (.type "type"))
    (ex_BadState : PySem.W.subIn K (.ref C_BadState) (.type "BaseException") = some true)
    (ga_BadState : PySem.W.findIn K (.ref C_BadState) "__getattribute__" = some (some (.builtin "BaseException.__getattribute__")))
    (gg_BadState : PySem.W.findIn K (.ref C_BadState) "__getattr__" = some none)
    (x_BadState : K.lookup C_BadState = some (excClassObj nm_BadState qn_BadState C_BadState N_BadState bs_BadState bm_BadState true sn_BadState sb_BadState ab_BadState col_BadState dd_BadState m0_BadState m1_BadState m2_BadState m3_BadState m5_BadState "ValueError.__new__"))
    (rv_BadState : PySem.HandSPX.refsVE bm_BadState = true)
    (sa_BadState : PySem.W.findIn K (.ref C_BadState) "__setattr__" = some (some (.builtin "object.__setattr__")))
    (kc_BadState : PySem.W.keepIn K (.ref C_BadState) = true)
    (ii_BadState : PySem.W.findIn K (.ref C_BadState) "__init__" = some (some (.ref i_BadState)))
    (it_BadState : PySem.W.typeIn K (.ref i_BadState) = some (.type "function"))
    (li_BadState : K.lookup i_BadState = some ⟨oc_i_BadState, od_i_BadState, .func (PySem.W.fnOf "__init__" "BadState.__init__" (defArgs st_i_BadState) (defBody st_i_BadState) (defScope st_i_BadState) .none kV_i_BadState dc_i_BadState pm_i_BadState an_i_BadState cd_i_BadState ct_i_BadState), sl_i_BadState⟩)
    (ci_BadState : PySem.W.codeIn K cd_i_BadState "BadState.__init__" = true)
    (ki_BadState : PySem.W.keepIn K (.ref i_BadState) = true)
    (nf_BadState_value : PySem.W.findIn K (.ref C_BadState) "value" = some none)
    (ac_BadNumber : PySem.W.nsIn K mainGlobals "BadNumber" = some (some (.ref C_BadNumber)))
    (is_BadNumber : PySem.W.isClsIn K C_BadNumber = true)
    (ty_BadNumber : PySem.W.typeIn K (.ref C_BadNumber) = some (.type "type"))
    (ex_BadNumber : PySem.W.subIn K (.ref C_BadNumber) (.type "BaseException") = some true)
    (ga_BadNumber : PySem.W.findIn K (.ref C_BadNumber) "__getattribute__" = some (some (.builtin "BaseException.__getattribute__")))
    (gg_BadNumber : PySem.W.findIn K (.ref C_BadNumber) "__getattr__" = some none)
    (x_BadNumber : K.lookup C_BadNumber = some (excClassObj nm_BadNumber qn_BadNumber C_BadNumber N_BadNumber bs_BadNumber bm_BadNumber true sn_BadNumber sb_BadNumber ab_BadNumber col_BadNumber dd_BadNumber m0_BadNumber m1_BadNumber m2_BadNumber m3_BadNumber m5_BadNumber "ValueError.__new__"))
    (rv_BadNumber : PySem.HandSPX.refsVE bm_BadNumber = true)
    (sa_BadNumber : PySem.W.findIn K (.ref C_BadNumber) "__setattr__" = some (some (.builtin "object.__setattr__")))
    (kc_BadNumber : PySem.W.keepIn K (.ref C_BadNumber) = true)
    (ii_BadNumber : PySem.W.findIn K (.ref C_BadNumber) "__init__" = some (some (.ref i_BadNumber)))
    (it_BadNumber : PySem.W.typeIn K (.ref i_BadNumber) = some (.type "function"))
    (li_BadNumber : K.lookup i_BadNumber = some ⟨oc_i_BadNumber, od_i_BadNumber, .func (PySem.W.fnOf "__init__" "BadNumber.__init__" (defArgs st_i_BadNumber) (defBody st_i_BadNumber) (defScope st_i_BadNumber) .none kV_i_BadNumber dc_i_BadNumber pm_i_BadNumber an_i_BadNumber cd_i_BadNumber ct_i_BadNumber), sl_i_BadNumber⟩)
    (ci_BadNumber : PySem.W.codeIn K cd_i_BadNumber "BadNumber.__init__" = true)
    (ki_BadNumber : PySem.W.keepIn K (.ref i_BadNumber) = true)
    (nf_BadNumber_place : PySem.W.findIn K (.ref C_BadNumber) "place" = some none)
    (ac_NoNumber : PySem.W.nsIn K mainGlobals "NoNumber" = some (some (.ref C_NoNumber)))
    (is_NoNumber : PySem.W.isClsIn K C_NoNumber = true)
    (ty_NoNumber : PySem.W.typeIn K (.ref C_NoNumber) = some (.type "type"))
    (ex_NoNumber : PySem.W.subIn K (.ref C_NoNumber) (.type "BaseException") = some true)
    (ga_NoNumber : PySem.W.findIn K (.ref C_NoNumber) "__getattribute__" = some (some (.builtin "BaseException.__getattribute__")))
    (gg_NoNumber : PySem.W.findIn K (.ref C_NoNumber) "__getattr__" = some none)
    (x_NoNumber : K.lookup C_NoNumber = some (excClassObj nm_NoNumber qn_NoNumber C_NoNumber N_NoNumber bs_NoNumber bm_NoNumber true sn_NoNumber sb_NoNumber ab_NoNumber col_NoNumber dd_NoNumber m0_NoNumber m1_NoNumber m2_NoNumber m3_NoNumber m5_NoNumber "ValueError.__new__"))
    (rv_NoNumber : PySem.HandSPX.refsVE bm_NoNumber = true)
    (sa_NoNumber : PySem.W.findIn K (.ref C_NoNumber) "__setattr__" = some (some (.builtin "object.__setattr__")))
    (kc_NoNumber : PySem.W.keepIn K (.ref C_NoNumber) = true)
    (ii_NoNumber : PySem.W.findIn K (.ref C_NoNumber) "__init__" = some (some (.ref i_NoNumber)))
    (it_NoNumber : PySem.W.typeIn K (.ref i_NoNumber) = some (.type "function"))
    (li_NoNumber : K.lookup i_NoNumber = some ⟨oc_i_NoNumber, od_i_NoNumber, .func (PySem.W.fnOf "__init__" "NoNumber.__init__" (defArgs st_i_NoNumber) (defBody st_i_NoNumber) (defScope st_i_NoNumber) .none kV_i_NoNumber dc_i_NoNumber pm_i_NoNumber an_i_NoNumber cd_i_NoNumber ct_i_NoNumber), sl_i_NoNumber⟩)
    (ci_NoNumber : PySem.W.codeIn K cd_i_NoNumber "NoNumber.__init__" = true)
    (ki_NoNumber : PySem.W.keepIn K (.ref i_NoNumber) = true)
    (nf_NoNumber_number : PySem.W.findIn K (.ref C_NoNumber) "number" = some none)
    (ac_FewWords : PySem.W.nsIn K mainGlobals "FewWords" = some (some (.ref C_FewWords)))
    (is_FewWords : PySem.W.isClsIn K C_FewWords = true)
    (ty_FewWords : PySem.W.typeIn K (.ref C_FewWords) = some (.type "type"))
    (ex_FewWords : PySem.W.subIn K (.ref C_FewWords) (.type "BaseException") = some true)
    (ga_FewWords : PySem.W.findIn K (.ref C_FewWords) "__getattribute__" = some (some (.builtin "BaseException.__getattribute__")))
    (gg_FewWords : PySem.W.findIn K (.ref C_FewWords) "__getattr__" = some none)
    (x_FewWords : K.lookup C_FewWords = some (excClassObj nm_FewWords qn_FewWords C_FewWords N_FewWords bs_FewWords bm_FewWords true sn_FewWords sb_FewWords ab_FewWords col_FewWords dd_FewWords m0_FewWords m1_FewWords m2_FewWords m3_FewWords m5_FewWords "ValueError.__new__"))
    (rv_FewWords : PySem.HandSPX.refsVE bm_FewWords = true)
    (sa_FewWords : PySem.W.findIn K (.ref C_FewWords) "__setattr__" = some (some (.builtin "object.__setattr__")))
    (kc_FewWords : PySem.W.keepIn K (.ref C_FewWords) = true)
    (ii_FewWords : PySem.W.findIn K (.ref C_FewWords) "__init__" = some (some (.ref i_FewWords)))
    (it_FewWords : PySem.W.typeIn K (.ref i_FewWords) = some (.type "function"))
    (li_FewWords : K.lookup i_FewWords = some ⟨oc_i_FewWords, od_i_FewWords, .func (PySem.W.fnOf "__init__" "FewWords.__init__" (defArgs st_i_FewWords) (defBody st_i_FewWords) (defScope st_i_FewWords) .none kV_i_FewWords dc_i_FewWords pm_i_FewWords an_i_FewWords cd_i_FewWords ct_i_FewWords), sl_i_FewWords⟩)
    (ci_FewWords : PySem.W.codeIn K cd_i_FewWords "FewWords.__init__" = true)
    (ki_FewWords : PySem.W.keepIn K (.ref i_FewWords) = true)
    (nf_FewWords_found : PySem.W.findIn K (.ref C_FewWords) "found" = some none)
    (hd_FewWords : PySem.W.hasDictIn K C_FewWords = true)
    (cl_FewWords : PySem.W.findIn K (.ref C_FewWords) "__class__" = some (some (.builtin "object.__class__")))
    (mo_FewWords : PySem.W.mroIn K C_FewWords (.type "object") = some true)
    (sf_FewWords : PySem.W.subIn K (.ref C_FewWords) (.ref C_FewWords) = some true)
    (ac_BadOctet : PySem.W.nsIn K mainGlobals "BadOctet" = some (some (.ref C_BadOctet)))
    (is_BadOctet : PySem.W.isClsIn K C_BadOctet = true)
    (ty_BadOctet : PySem.W.typeIn K (.ref C_BadOctet) = some (.type "type"))
    (ex_BadOctet : PySem.W.subIn K (.ref C_BadOctet) (.type "BaseException") = some true)
    (ga_BadOctet : PySem.W.findIn K (.ref C_BadOctet) "__getattribute__" = some (some (.builtin "BaseException.__getattribute__")))
    (gg_BadOctet : PySem.W.findIn K (.ref C_BadOctet) "__getattr__" = some none)
    (x_BadOctet : K.lookup C_BadOctet = some (excClassObj nm_BadOctet qn_BadOctet C_BadOctet N_BadOctet bs_BadOctet bm_BadOctet true sn_BadOctet sb_BadOctet ab_BadOctet col_BadOctet dd_BadOctet m0_BadOctet m1_BadOctet m2_BadOctet m3_BadOctet m5_BadOctet "ValueError.__new__"))
    (rv_BadOctet : PySem.HandSPX.refsVE bm_BadOctet = true)
    (sa_BadOctet : PySem.W.findIn K (.ref C_BadOctet) "__setattr__" = some (some (.builtin "object.__setattr__")))
    (kc_BadOctet : PySem.W.keepIn K (.ref C_BadOctet) = true)
    (ii_BadOctet : PySem.W.findIn K (.ref C_BadOctet) "__init__" = some (some (.ref i_BadOctet)))
    (it_BadOctet : PySem.W.typeIn K (.ref i_BadOctet) = some (.type "function"))
    (li_BadOctet : K.lookup i_BadOctet = some ⟨oc_i_BadOctet, od_i_BadOctet, .func (PySem.W.fnOf "__init__" "BadOctet.__init__" (defArgs st_i_BadOctet) (defBody st_i_BadOctet) (defScope st_i_BadOctet) .none kV_i_BadOctet dc_i_BadOctet pm_i_BadOctet an_i_BadOctet cd_i_BadOctet ct_i_BadOctet), sl_i_BadOctet⟩)
    (ci_BadOctet : PySem.W.codeIn K cd_i_BadOctet "BadOctet.__init__" = true)
    (ki_BadOctet : PySem.W.keepIn K (.ref i_BadOctet) = true)
    (nf_BadOctet_place : PySem.W.findIn K (.ref C_BadOctet) "place" = some none)
    (hd_BadOctet : PySem.W.hasDictIn K C_BadOctet = true)
    (cl_BadOctet : PySem.W.findIn K (.ref C_BadOctet) "__class__" = some (some (.builtin "object.__class__")))
    (mo_BadOctet : PySem.W.mroIn K C_BadOctet (.type "object") = some true)
    (sf_BadOctet : PySem.W.subIn K (.ref C_BadOctet) (.ref C_BadOctet) = some true)
    (ac_BadDigit : PySem.W.nsIn K mainGlobals "BadDigit" = some (some (.ref C_BadDigit)))
    (is_BadDigit : PySem.W.isClsIn K C_BadDigit = true)
    (ty_BadDigit : PySem.W.typeIn K (.ref C_BadDigit) = some (.type "type"))
    (ex_BadDigit : PySem.W.subIn K (.ref C_BadDigit) (.type "BaseException") = some true)
    (ga_BadDigit : PySem.W.findIn K (.ref C_BadDigit) "__getattribute__" = some (some (.builtin "BaseException.__getattribute__")))
    (gg_BadDigit : PySem.W.findIn K (.ref C_BadDigit) "__getattr__" = some none)
    (x_BadDigit : K.lookup C_BadDigit = some (excClassObj nm_BadDigit qn_BadDigit C_BadDigit N_BadDigit bs_BadDigit bm_BadDigit true sn_BadDigit sb_BadDigit ab_BadDigit col_BadDigit dd_BadDigit m0_BadDigit m1_BadDigit m2_BadDigit m3_BadDigit m5_BadDigit "ValueError.__new__"))
    (rv_BadDigit : PySem.HandSPX.refsVE bm_BadDigit = true)
    (sa_BadDigit : PySem.W.findIn K (.ref C_BadDigit) "__setattr__" = some (some (.builtin "object.__setattr__")))
    (kc_BadDigit : PySem.W.keepIn K (.ref C_BadDigit) = true)
    (ii_BadDigit : PySem.W.findIn K (.ref C_BadDigit) "__init__" = some (some (.ref i_BadDigit)))
    (it_BadDigit : PySem.W.typeIn K (.ref i_BadDigit) = some (.type "function"))
    (li_BadDigit : K.lookup i_BadDigit = some ⟨oc_i_BadDigit, od_i_BadDigit, .func (PySem.W.fnOf "__init__" "BadDigit.__init__" (defArgs st_i_BadDigit) (defBody st_i_BadDigit) (defScope st_i_BadDigit) .none kV_i_BadDigit dc_i_BadDigit pm_i_BadDigit an_i_BadDigit cd_i_BadDigit ct_i_BadDigit), sl_i_BadDigit⟩)
    (ci_BadDigit : PySem.W.codeIn K cd_i_BadDigit "BadDigit.__init__" = true)
    (ki_BadDigit : PySem.W.keepIn K (.ref i_BadDigit) = true)
    (nf_BadDigit_place : PySem.W.findIn K (.ref C_BadDigit) "place" = some none)
    (hd_BadDigit : PySem.W.hasDictIn K C_BadDigit = true)
    (cl_BadDigit : PySem.W.findIn K (.ref C_BadDigit) "__class__" = some (some (.builtin "object.__class__")))
    (mo_BadDigit : PySem.W.mroIn K C_BadDigit (.type "object") = some true)
    (sf_BadDigit : PySem.W.subIn K (.ref C_BadDigit) (.ref C_BadDigit) = some true)
    (ac_Behind : PySem.W.nsIn K mainGlobals "Behind" = some (some (.ref C_Behind)))
    (is_Behind : PySem.W.isClsIn K C_Behind = true)
    (ty_Behind : PySem.W.typeIn K (.ref C_Behind) = some (.type "type"))
    (ex_Behind : PySem.W.subIn K (.ref C_Behind) (.type "BaseException") = some true)
    (ga_Behind : PySem.W.findIn K (.ref C_Behind) "__getattribute__" = some (some (.builtin "BaseException.__getattribute__")))
    (gg_Behind : PySem.W.findIn K (.ref C_Behind) "__getattr__" = some none)
    (x_Behind : K.lookup C_Behind = some (excClassObj nm_Behind qn_Behind C_Behind N_Behind bs_Behind bm_Behind true sn_Behind sb_Behind ab_Behind col_Behind dd_Behind m0_Behind m1_Behind m2_Behind m3_Behind m5_Behind "ValueError.__new__"))
    (rv_Behind : PySem.HandSPX.refsVE bm_Behind = true)
    (sa_Behind : PySem.W.findIn K (.ref C_Behind) "__setattr__" = some (some (.builtin "object.__setattr__")))
    (kc_Behind : PySem.W.keepIn K (.ref C_Behind) = true)
    (ii_Behind : PySem.W.findIn K (.ref C_Behind) "__init__" = some (some (.ref i_Behind)))
    (it_Behind : PySem.W.typeIn K (.ref i_Behind) = some (.type "function"))
    (li_Behind : K.lookup i_Behind = some ⟨oc_i_Behind, od_i_Behind, .func (PySem.W.fnOf "__init__" "Behind.__init__" (defArgs st_i_Behind) (defBody st_i_Behind) (defScope st_i_Behind) .none kV_i_Behind dc_i_Behind pm_i_Behind an_i_Behind cd_i_Behind ct_i_Behind), sl_i_Behind⟩)
    (ci_Behind : PySem.W.codeIn K cd_i_Behind "Behind.__init__" = true)
    (ki_Behind : PySem.W.keepIn K (.ref i_Behind) = true)
    (nf_Behind_place : PySem.W.findIn K (.ref C_Behind) "place" = some none)
    (hd_Behind : PySem.W.hasDictIn K C_Behind = true)
    (cl_Behind : PySem.W.findIn K (.ref C_Behind) "__class__" = some (some (.builtin "object.__class__")))
    (mo_Behind : PySem.W.mroIn K C_Behind (.type "object") = some true)
    (sf_Behind : PySem.W.subIn K (.ref C_Behind) (.ref C_Behind) = some true)
    (ac_TooMany : PySem.W.nsIn K mainGlobals "TooMany" = some (some (.ref C_TooMany)))
    (is_TooMany : PySem.W.isClsIn K C_TooMany = true)
    (ty_TooMany : PySem.W.typeIn K (.ref C_TooMany) = some (.type "type"))
    (ex_TooMany : PySem.W.subIn K (.ref C_TooMany) (.type "BaseException") = some true)
    (ga_TooMany : PySem.W.findIn K (.ref C_TooMany) "__getattribute__" = some (some (.builtin "BaseException.__getattribute__")))
    (gg_TooMany : PySem.W.findIn K (.ref C_TooMany) "__getattr__" = some none)
    (x_TooMany : K.lookup C_TooMany = some (excClassObj nm_TooMany qn_TooMany C_TooMany N_TooMany bs_TooMany bm_TooMany true sn_TooMany sb_TooMany ab_TooMany col_TooMany dd_TooMany m0_TooMany m1_TooMany m2_TooMany m3_TooMany m5_TooMany "ValueError.__new__"))
    (rv_TooMany : PySem.HandSPX.refsVE bm_TooMany = true)
    (sa_TooMany : PySem.W.findIn K (.ref C_TooMany) "__setattr__" = some (some (.builtin "object.__setattr__")))
    (kc_TooMany : PySem.W.keepIn K (.ref C_TooMany) = true)
    (ii_TooMany : PySem.W.findIn K (.ref C_TooMany) "__init__" = some (some (.ref i_TooMany)))
    (it_TooMany : PySem.W.typeIn K (.ref i_TooMany) = some (.type "function"))
    (li_TooMany : K.lookup i_TooMany = some ⟨oc_i_TooMany, od_i_TooMany, .func (PySem.W.fnOf "__init__" "TooMany.__init__" (defArgs st_i_TooMany) (defBody st_i_TooMany) (defScope st_i_TooMany) .none kV_i_TooMany dc_i_TooMany pm_i_TooMany an_i_TooMany cd_i_TooMany ct_i_TooMany), sl_i_TooMany⟩)
    (ci_TooMany : PySem.W.codeIn K cd_i_TooMany "TooMany.__init__" = true)
    (ki_TooMany : PySem.W.keepIn K (.ref i_TooMany) = true)
    (nf_TooMany_what : PySem.W.findIn K (.ref C_TooMany) "what" = some none)
    (nf_TooMany_most : PySem.W.findIn K (.ref C_TooMany) "most" = some none)
    (hd_TooMany : PySem.W.hasDictIn K C_TooMany = true)
    (cl_TooMany : PySem.W.findIn K (.ref C_TooMany) "__class__" = some (some (.builtin "object.__class__")))
    (mo_TooMany : PySem.W.mroIn K C_TooMany (.type "object") = some true)
    (sf_TooMany : PySem.W.subIn K (.ref C_TooMany) (.ref C_TooMany) = some true)
    (ac_Double : PySem.W.nsIn K mainGlobals "Double" = some (some (.ref C_Double)))
    (is_Double : PySem.W.isClsIn K C_Double = true)
    (ty_Double : PySem.W.typeIn K (.ref C_Double) = some (.type "type"))
    (ex_Double : PySem.W.subIn K (.ref C_Double) (.type "BaseException") = some true)
    (ga_Double : PySem.W.findIn K (.ref C_Double) "__getattribute__" = some (some (.builtin "BaseException.__getattribute__")))
    (gg_Double : PySem.W.findIn K (.ref C_Double) "__getattr__" = some none)
    (x_Double : K.lookup C_Double = some (excClassObj nm_Double qn_Double C_Double N_Double bs_Double bm_Double true sn_Double sb_Double ab_Double col_Double dd_Double m0_Double m1_Double m2_Double m3_Double m5_Double "ValueError.__new__"))
    (rv_Double : PySem.HandSPX.refsVE bm_Double = true)
    (sa_Double : PySem.W.findIn K (.ref C_Double) "__setattr__" = some (some (.builtin "object.__setattr__")))
    (kc_Double : PySem.W.keepIn K (.ref C_Double) = true)
    (ii_Double : PySem.W.findIn K (.ref C_Double) "__init__" = some (some (.ref i_Double)))
    (it_Double : PySem.W.typeIn K (.ref i_Double) = some (.type "function"))
    (li_Double : K.lookup i_Double = some ⟨oc_i_Double, od_i_Double, .func (PySem.W.fnOf "__init__" "Double.__init__" (defArgs st_i_Double) (defBody st_i_Double) (defScope st_i_Double) .none kV_i_Double dc_i_Double pm_i_Double an_i_Double cd_i_Double ct_i_Double), sl_i_Double⟩)
    (ci_Double : PySem.W.codeIn K cd_i_Double "Double.__init__" = true)
    (ki_Double : PySem.W.keepIn K (.ref i_Double) = true)
    (nf_Double_at : PySem.W.findIn K (.ref C_Double) "at" = some none)
    (nf_Double_number : PySem.W.findIn K (.ref C_Double) "number" = some none)
    (sg : PySem.W.specialIn K (.builtin "object.__class__") "__get__" = some (some (.builtin "getset_descriptor.__get__")))
    (st : PySem.W.takesIn K (.builtin "object.__class__") = some true)
    (su_NoEnd_BadDigit : PySem.W.subIn K (.ref C_NoEnd) (.ref C_BadDigit) = some false)
    (su_Behind_BadDigit : PySem.W.subIn K (.ref C_Behind) (.ref C_BadDigit) = some false)
    (su_Behind_NoEnd : PySem.W.subIn K (.ref C_Behind) (.ref C_NoEnd) = some false)
    (su_NotOctets_BadDigit : PySem.W.subIn K (.ref C_NotOctets) (.ref C_BadDigit) = some false)
    (su_NotOctets_NoEnd : PySem.W.subIn K (.ref C_NotOctets) (.ref C_NoEnd) = some false)
    (su_NotOctets_Behind : PySem.W.subIn K (.ref C_NotOctets) (.ref C_Behind) = some false)
    (su_TooMany_BadDigit : PySem.W.subIn K (.ref C_TooMany) (.ref C_BadDigit) = some false)
    (su_TooMany_NoEnd : PySem.W.subIn K (.ref C_TooMany) (.ref C_NoEnd) = some false)
    (su_TooMany_Behind : PySem.W.subIn K (.ref C_TooMany) (.ref C_Behind) = some false)
    (su_TooMany_NotOctets : PySem.W.subIn K (.ref C_TooMany) (.ref C_NotOctets) = some false)
    (su_BadOctet_TooMany : PySem.W.subIn K (.ref C_BadOctet) (.ref C_TooMany) = some false)
    (su_FewWords_TooMany : PySem.W.subIn K (.ref C_FewWords) (.ref C_TooMany) = some false)
    (su_FewWords_BadOctet : PySem.W.subIn K (.ref C_FewWords) (.ref C_BadOctet) = some false) :
    ∃ fd : FuncData, (∀ (s : Shared) (v : Value), BindsTo s fd ⟨[v], []⟩ [("script", v)]) ∧ ∀ base : Heap, K.In base → base.Ns mainGlobals mg → FnG l.prog w K mg base (L2.CX l.prog w) 39 fa fd ["script"] (spLaw K) := by
  obtain rfl : f_law = fa := by cases hfa.symm.trans (PySem.W.mg_of X G a_law); rfl
  have T : { T : Tx K mg // T.a_law = f_law ∧ T.d_law = PySem.W.fnOf "law" "law" (defArgs s_law) (defBody s_law) (defScope s_law) .none kV_law dc_law pm_law an_law cd_law ct_law } := ⟨{
    a_same_parts := f_same_parts, d_same_parts := _, fu_same_parts := fun_mk (st := s_same_parts) l_same_parts c_same_parts k_same_parts, g_same_parts := PySem.W.mg_of X G a_same_parts, b_same_parts := (fun_mk (st := s_same_parts) l_same_parts c_same_parts k_same_parts).binds (ps := ["value"]) fun _ _ _ _ _ _ us hl => match us, hl with | [_], _ => rfl
    a_is_whole := f_is_whole, d_is_whole := _, fu_is_whole := fun_mk (st := s_is_whole) l_is_whole c_is_whole k_is_whole, g_is_whole := PySem.W.mg_of X G a_is_whole, b_is_whole := (fun_mk (st := s_is_whole) l_is_whole c_is_whole k_is_whole).binds (ps := ["value"]) fun _ _ _ _ _ _ us hl => match us, hl with | [_], _ => rfl
    a_is_index := f_is_index, d_is_index := _, fu_is_index := fun_mk (st := s_is_index) l_is_index c_is_index k_is_index, g_is_index := PySem.W.mg_of X G a_is_index, b_is_index := (fun_mk (st := s_is_index) l_is_index c_is_index k_is_index).binds (ps := ["value", "many"]) fun _ _ _ _ _ _ us hl => match us, hl with | [_, _], _ => rfl
    a_copied := f_copied, d_copied := _, fu_copied := fun_mk (st := s_copied) l_copied c_copied k_copied, g_copied := PySem.W.mg_of X G a_copied, b_copied := (fun_mk (st := s_copied) l_copied c_copied k_copied).binds (ps := ["value"]) fun _ _ _ _ _ _ us hl => match us, hl with | [_], _ => rfl
    a_check_state := f_check_state, d_check_state := _, fu_check_state := fun_mk (st := s_check_state) l_check_state c_check_state k_check_state, g_check_state := PySem.W.mg_of X G a_check_state, b_check_state := (fun_mk (st := s_check_state) l_check_state c_check_state k_check_state).binds (ps := ["plan", "state"]) fun _ _ _ _ _ _ us hl => match us, hl with | [_, _], _ => rfl
    a_is_book := f_is_book, d_is_book := _, fu_is_book := fun_mk (st := s_is_book) l_is_book c_is_book k_is_book, g_is_book := PySem.W.mg_of X G a_is_book, b_is_book := (fun_mk (st := s_is_book) l_is_book c_is_book k_is_book).binds (ps := ["plan"]) fun _ _ _ _ _ _ us hl => match us, hl with | [_], _ => rfl
    a_words_of := f_words_of, d_words_of := _, fu_words_of := fun_mk (st := s_words_of) l_words_of c_words_of k_words_of, g_words_of := PySem.W.mg_of X G a_words_of, b_words_of := (fun_mk (st := s_words_of) l_words_of c_words_of k_words_of).binds (ps := ["plan", "state"]) fun _ _ _ _ _ _ us hl => match us, hl with | [_, _], _ => rfl
    a_book_words := f_book_words, d_book_words := _, fu_book_words := fun_mk (st := s_book_words) l_book_words c_book_words k_book_words, g_book_words := PySem.W.mg_of X G a_book_words, b_book_words := (fun_mk (st := s_book_words) l_book_words c_book_words k_book_words).binds (ps := ["book"]) fun _ _ _ _ _ _ us hl => match us, hl with | [_], _ => rfl
    a_is_below := f_is_below, d_is_below := _, fu_is_below := fun_mk (st := s_is_below) l_is_below c_is_below k_is_below, g_is_below := PySem.W.mg_of X G a_is_below, b_is_below := (fun_mk (st := s_is_below) l_is_below c_is_below k_is_below).binds (ps := ["value", "end"]) fun _ _ _ _ _ _ us hl => match us, hl with | [_, _], _ => rfl
    a_check_book := f_check_book, d_check_book := _, fu_check_book := fun_mk (st := s_check_book) l_check_book c_check_book k_check_book, g_check_book := PySem.W.mg_of X G a_check_book, b_check_book := (fun_mk (st := s_check_book) l_check_book c_check_book k_check_book).binds (ps := ["book"]) fun _ _ _ _ _ _ us hl => match us, hl with | [_], _ => rfl
    a_check_base := f_check_base, d_check_base := _, fu_check_base := fun_mk (st := s_check_base) l_check_base c_check_base k_check_base, g_check_base := PySem.W.mg_of X G a_check_base, b_check_base := (fun_mk (st := s_check_base) l_check_base c_check_base k_check_base).binds (ps := ["base"]) fun _ _ _ _ _ _ us hl => match us, hl with | [_], _ => rfl
    a_check_octets := f_check_octets, d_check_octets := _, fu_check_octets := fun_mk (st := s_check_octets) l_check_octets c_check_octets k_check_octets, g_check_octets := PySem.W.mg_of X G a_check_octets, b_check_octets := (fun_mk (st := s_check_octets) l_check_octets c_check_octets k_check_octets).binds (ps := ["octets"]) fun _ _ _ _ _ _ us hl => match us, hl with | [_], _ => rfl
    a_end_of := f_end_of, d_end_of := _, fu_end_of := fun_mk (st := s_end_of) l_end_of c_end_of k_end_of, g_end_of := PySem.W.mg_of X G a_end_of, b_end_of := (fun_mk (st := s_end_of) l_end_of c_end_of k_end_of).binds (ps := ["base", "digits"]) fun _ _ _ _ _ _ us hl => match us, hl with | [_, _], _ => rfl
    a_digits_of := f_digits_of, d_digits_of := _, fu_digits_of := fun_mk (st := s_digits_of) l_digits_of c_digits_of k_digits_of, g_digits_of := PySem.W.mg_of X G a_digits_of, b_digits_of := (fun_mk (st := s_digits_of) l_digits_of c_digits_of k_digits_of).binds (ps := ["base", "octets"]) fun _ _ _ _ _ _ us hl => match us, hl with | [_, _], _ => rfl
    a_octets_of := f_octets_of, d_octets_of := _, fu_octets_of := fun_mk (st := s_octets_of) l_octets_of c_octets_of k_octets_of, g_octets_of := PySem.W.mg_of X G a_octets_of, b_octets_of := (fun_mk (st := s_octets_of) l_octets_of c_octets_of k_octets_of).binds (ps := ["base", "digits"]) fun _ _ _ _ _ _ us hl => match us, hl with | [_, _], _ => rfl
    a_say_octets := f_say_octets, d_say_octets := _, fu_say_octets := fun_mk (st := s_say_octets) l_say_octets c_say_octets k_say_octets, g_say_octets := PySem.W.mg_of X G a_say_octets, b_say_octets := (fun_mk (st := s_say_octets) l_say_octets c_say_octets k_say_octets).binds (ps := ["book", "octets"]) fun _ _ _ _ _ _ us hl => match us, hl with | [_, _], _ => rfl
    a_walk := f_walk, d_walk := _, fu_walk := fun_mk (st := s_walk) l_walk c_walk k_walk, g_walk := PySem.W.mg_of X G a_walk, b_walk := (fun_mk (st := s_walk) l_walk c_walk k_walk).binds (ps := ["plan", "saying"]) fun _ _ _ _ _ _ us hl => match us, hl with | [_, _], _ => rfl
    a_copy_of := f_copy_of, d_copy_of := _, fu_copy_of := fun_mk (st := s_copy_of) l_copy_of c_copy_of k_copy_of, g_copy_of := PySem.W.mg_of X G a_copy_of, b_copy_of := (fun_mk (st := s_copy_of) l_copy_of c_copy_of k_copy_of).binds (ps := ["value"]) fun _ _ _ _ _ _ us hl => match us, hl with | [_], _ => rfl
    a_is_from_to := f_is_from_to, d_is_from_to := _, fu_is_from_to := fun_mk (st := s_is_from_to) l_is_from_to c_is_from_to k_is_from_to, g_is_from_to := PySem.W.mg_of X G a_is_from_to, b_is_from_to := (fun_mk (st := s_is_from_to) l_is_from_to c_is_from_to k_is_from_to).binds (ps := ["value", "least", "most"]) fun _ _ _ _ _ _ us hl => match us, hl with | [_, _, _], _ => rfl
    a_tails := f_tails, d_tails := _, fu_tails := fun_mk (st := s_tails) l_tails c_tails k_tails, g_tails := PySem.W.mg_of X G a_tails, b_tails := (fun_mk (st := s_tails) l_tails c_tails k_tails).binds (ps := ["plan", "words"]) fun _ _ _ _ _ _ us hl => match us, hl with | [_, _], _ => rfl
    a_saying_at := f_saying_at, d_saying_at := _, fu_saying_at := fun_mk (st := s_saying_at) l_saying_at c_saying_at k_saying_at, g_saying_at := PySem.W.mg_of X G a_saying_at, b_saying_at := (fun_mk (st := s_saying_at) l_saying_at c_saying_at k_saying_at).binds (ps := ["plan", "words", "number"]) fun _ _ _ _ _ _ us hl => match us, hl with | [_, _, _], _ => rfl
    a_saying_rank := f_saying_rank, d_saying_rank := _, fu_saying_rank := fun_mk (st := s_saying_rank) l_saying_rank c_saying_rank k_saying_rank, g_saying_rank := PySem.W.mg_of X G a_saying_rank, b_saying_rank := (fun_mk (st := s_saying_rank) l_saying_rank c_saying_rank k_saying_rank).binds (ps := ["plan", "saying"]) fun _ _ _ _ _ _ us hl => match us, hl with | [_, _], _ => rfl
    a_book_made := f_book_made, d_book_made := _, fu_book_made := fun_mk (st := s_book_made) l_book_made c_book_made k_book_made, g_book_made := PySem.W.mg_of X G a_book_made, b_book_made := (fun_mk (st := s_book_made) l_book_made c_book_made k_book_made).binds (ps := ["n", "words"]) fun _ _ _ _ _ _ us hl => match us, hl with | [_, _], _ => rfl
    a_part := f_part, d_part := _, fu_part := fun_mk (st := s_part) l_part c_part k_part, g_part := PySem.W.mg_of X G a_part, b_part := (fun_mk (st := s_part) l_part c_part k_part).binds (ps := ["book", "numbers"]) fun _ _ _ _ _ _ us hl => match us, hl with | [_, _], _ => rfl
    a__law_mixed := f__law_mixed, d__law_mixed := _, fu__law_mixed := fun_mk (st := s__law_mixed) l__law_mixed c__law_mixed k__law_mixed, g__law_mixed := PySem.W.mg_of X G a__law_mixed, b__law_mixed := (fun_mk (st := s__law_mixed) l__law_mixed c__law_mixed k__law_mixed).binds (ps := ["number", "step"]) fun _ _ _ _ _ _ us hl => match us, hl with | [_, _], _ => rfl
    a__law_store := f__law_store, d__law_store := _, fu__law_store := fun_mk (st := s__law_store) l__law_store c__law_store k__law_store, g__law_store := PySem.W.mg_of X G a__law_store, b__law_store := (fun_mk (st := s__law_store) l__law_store c__law_store k__law_store).binds (ps := ["script"]) fun _ _ _ _ _ _ us hl => match us, hl with | [_], _ => rfl
    a__law_take := f__law_take, d__law_take := _, fu__law_take := fun_mk (st := s__law_take) l__law_take c__law_take k__law_take, g__law_take := PySem.W.mg_of X G a__law_take, b__law_take := (fun_mk (st := s__law_take) l__law_take c__law_take k__law_take).binds (ps := ["store", "count"]) fun _ _ _ _ _ _ us hl => match us, hl with | [_, _], _ => rfl
    a__law_number := f__law_number, d__law_number := _, fu__law_number := fun_mk (st := s__law_number) l__law_number c__law_number k__law_number, g__law_number := PySem.W.mg_of X G a__law_number, b__law_number := (fun_mk (st := s__law_number) l__law_number c__law_number k__law_number).binds (ps := ["store", "least", "high"]) fun _ _ _ _ _ _ us hl => match us, hl with | [_, _, _], _ => rfl
    a__law_size := f__law_size, d__law_size := _, fu__law_size := fun_mk (st := s__law_size) l__law_size c__law_size k__law_size, g__law_size := PySem.W.mg_of X G a__law_size, b__law_size := (fun_mk (st := s__law_size) l__law_size c__law_size k__law_size).binds (ps := ["store", "least", "usual", "high"]) fun _ _ _ _ _ _ us hl => match us, hl with | [_, _, _, _], _ => rfl
    a__law_unlike := f__law_unlike, d__law_unlike := _, fu__law_unlike := fun_mk (st := s__law_unlike) l__law_unlike c__law_unlike k__law_unlike, g__law_unlike := PySem.W.mg_of X G a__law_unlike, b__law_unlike := (fun_mk (st := s__law_unlike) l__law_unlike c__law_unlike k__law_unlike).binds (ps := ["store", "high", "count"]) fun _ _ _ _ _ _ us hl => match us, hl with | [_, _, _], _ => rfl
    a__law_power := f__law_power, d__law_power := _, fu__law_power := fun_mk (st := s__law_power) l__law_power c__law_power k__law_power, g__law_power := PySem.W.mg_of X G a__law_power, b__law_power := (fun_mk (st := s__law_power) l__law_power c__law_power k__law_power).binds (ps := ["base", "count"]) fun _ _ _ _ _ _ us hl => match us, hl with | [_, _], _ => rfl
    a__law_kind := f__law_kind, d__law_kind := _, fu__law_kind := fun_mk (st := s__law_kind) l__law_kind c__law_kind k__law_kind, g__law_kind := PySem.W.mg_of X G a__law_kind, b__law_kind := (fun_mk (st := s__law_kind) l__law_kind c__law_kind k__law_kind).binds (ps := ["value"]) fun _ _ _ _ _ _ us hl => match us, hl with | [_], _ => rfl
    a__law_same := f__law_same, d__law_same := _, fu__law_same := fun_mk (st := s__law_same) l__law_same c__law_same k__law_same, g__law_same := PySem.W.mg_of X G a__law_same, b__law_same := (fun_mk (st := s__law_same) l__law_same c__law_same k__law_same).binds (ps := ["left", "right"]) fun _ _ _ _ _ _ us hl => match us, hl with | [_, _], _ => rfl
    a__law_is_whole := f__law_is_whole, d__law_is_whole := _, fu__law_is_whole := fun_mk (st := s__law_is_whole) l__law_is_whole c__law_is_whole k__law_is_whole, g__law_is_whole := PySem.W.mg_of X G a__law_is_whole, b__law_is_whole := (fun_mk (st := s__law_is_whole) l__law_is_whole c__law_is_whole k__law_is_whole).binds (ps := ["value"]) fun _ _ _ _ _ _ us hl => match us, hl with | [_], _ => rfl
    a__law_mask_word := f__law_mask_word, d__law_mask_word := _, fu__law_mask_word := fun_mk (st := s__law_mask_word) l__law_mask_word c__law_mask_word k__law_mask_word, g__law_mask_word := PySem.W.mg_of X G a__law_mask_word, b__law_mask_word := (fun_mk (st := s__law_mask_word) l__law_mask_word c__law_mask_word k__law_mask_word).binds (ps := ["mask", "n"]) fun _ _ _ _ _ _ us hl => match us, hl with | [_, _], _ => rfl
    a__law_bent_list := f__law_bent_list, d__law_bent_list := _, fu__law_bent_list := fun_mk (st := s__law_bent_list) l__law_bent_list c__law_bent_list k__law_bent_list, g__law_bent_list := PySem.W.mg_of X G a__law_bent_list, b__law_bent_list := (fun_mk (st := s__law_bent_list) l__law_bent_list c__law_bent_list k__law_bent_list).binds (ps := ["store", "rows", "value", "cap"]) fun _ _ _ _ _ _ us hl => match us, hl with | [_, _, _, _], _ => rfl
    a__law_book := f__law_book, d__law_book := _, fu__law_book := fun_mk (st := s__law_book) l__law_book c__law_book k__law_book, g__law_book := PySem.W.mg_of X G a__law_book, b__law_book := (fun_mk (st := s__law_book) l__law_book c__law_book k__law_book).binds (ps := ["n", "words"]) fun _ _ _ _ _ _ us hl => match us, hl with | [_, _], _ => rfl
    a__law_octets := f__law_octets, d__law_octets := _, fu__law_octets := fun_mk (st := s__law_octets) l__law_octets c__law_octets k__law_octets, g__law_octets := PySem.W.mg_of X G a__law_octets, b__law_octets := (fun_mk (st := s__law_octets) l__law_octets c__law_octets k__law_octets).binds (ps := ["store"]) fun _ _ _ _ _ _ us hl => match us, hl with | [_], _ => rfl
    a__law_digits := f__law_digits, d__law_digits := _, fu__law_digits := fun_mk (st := s__law_digits) l__law_digits c__law_digits k__law_digits, g__law_digits := PySem.W.mg_of X G a__law_digits, b__law_digits := (fun_mk (st := s__law_digits) l__law_digits c__law_digits k__law_digits).binds (ps := ["value", "radix"]) fun _ _ _ _ _ _ us hl => match us, hl with | [_, _], _ => rfl
    a__law_value := f__law_value, d__law_value := _, fu__law_value := fun_mk (st := s__law_value) l__law_value c__law_value k__law_value, g__law_value := PySem.W.mg_of X G a__law_value, b__law_value := (fun_mk (st := s__law_value) l__law_value c__law_value k__law_value).binds (ps := ["octets"]) fun _ _ _ _ _ _ us hl => match us, hl with | [_], _ => rfl
    a__law_read := f__law_read, d__law_read := _, fu__law_read := fun_mk (st := s__law_read) l__law_read c__law_read k__law_read, g__law_read := PySem.W.mg_of X G a__law_read, b__law_read := (fun_mk (st := s__law_read) l__law_read c__law_read k__law_read).binds (ps := ["base", "digits"]) fun _ _ _ _ _ _ us hl => match us, hl with | [_, _], _ => rfl
    a__law_asked_octets := f__law_asked_octets, d__law_asked_octets := _, fu__law_asked_octets := fun_mk (st := s__law_asked_octets) l__law_asked_octets c__law_asked_octets k__law_asked_octets, g__law_asked_octets := PySem.W.mg_of X G a__law_asked_octets, b__law_asked_octets := (fun_mk (st := s__law_asked_octets) l__law_asked_octets c__law_asked_octets k__law_asked_octets).binds (ps := ["base", "digits"]) fun _ _ _ _ _ _ us hl => match us, hl with | [_, _], _ => rfl
    a__law_asked_digits := f__law_asked_digits, d__law_asked_digits := _, fu__law_asked_digits := fun_mk (st := s__law_asked_digits) l__law_asked_digits c__law_asked_digits k__law_asked_digits, g__law_asked_digits := PySem.W.mg_of X G a__law_asked_digits, b__law_asked_digits := (fun_mk (st := s__law_asked_digits) l__law_asked_digits c__law_asked_digits k__law_asked_digits).binds (ps := ["kind", "book", "base", "octets"]) fun _ _ _ _ _ _ us hl => match us, hl with | [_, _, _, _], _ => rfl
    a__law_is_spelled := f__law_is_spelled, d__law_is_spelled := _, fu__law_is_spelled := fun_mk (st := s__law_is_spelled) l__law_is_spelled c__law_is_spelled k__law_is_spelled, g__law_is_spelled := PySem.W.mg_of X G a__law_is_spelled, b__law_is_spelled := (fun_mk (st := s__law_is_spelled) l__law_is_spelled c__law_is_spelled k__law_is_spelled).binds (ps := ["book", "base", "octets"]) fun _ _ _ _ _ _ us hl => match us, hl with | [_, _, _], _ => rfl
    a__law_is_ranked := f__law_is_ranked, d__law_is_ranked := _, fu__law_is_ranked := fun_mk (st := s__law_is_ranked) l__law_is_ranked c__law_is_ranked k__law_is_ranked, g__law_is_ranked := PySem.W.mg_of X G a__law_is_ranked, b__law_is_ranked := (fun_mk (st := s__law_is_ranked) l__law_is_ranked c__law_is_ranked k__law_is_ranked).binds (ps := ["book", "base", "octets"]) fun _ _ _ _ _ _ us hl => match us, hl with | [_, _, _], _ => rfl
    a__law_bent_is_read := f__law_bent_is_read, d__law_bent_is_read := _, fu__law_bent_is_read := fun_mk (st := s__law_bent_is_read) l__law_bent_is_read c__law_bent_is_read k__law_bent_is_read, g__law_bent_is_read := PySem.W.mg_of X G a__law_bent_is_read, b__law_bent_is_read := (fun_mk (st := s__law_bent_is_read) l__law_bent_is_read c__law_bent_is_read k__law_bent_is_read).binds (ps := ["store", "base", "octets"]) fun _ _ _ _ _ _ us hl => match us, hl with | [_, _, _], _ => rfl
    a__law_bounds_hold := f__law_bounds_hold, d__law_bounds_hold := _, fu__law_bounds_hold := fun_mk (st := s__law_bounds_hold) l__law_bounds_hold c__law_bounds_hold k__law_bounds_hold, g__law_bounds_hold := PySem.W.mg_of X G a__law_bounds_hold, b__law_bounds_hold := (fun_mk (st := s__law_bounds_hold) l__law_bounds_hold c__law_bounds_hold k__law_bounds_hold).binds (ps := ["store", "book", "base", "octets"]) fun _ _ _ _ _ _ us hl => match us, hl with | [_, _, _, _], _ => rfl
    a_law := f_law, d_law := _, fu_law := fun_mk (st := s_law) l_law c_law k_law, g_law := PySem.W.mg_of X G a_law, b_law := (fun_mk (st := s_law) l_law c_law k_law).binds (ps := ["script"]) fun _ _ _ _ _ _ us hl => match us, hl with | [_], _ => rfl
    z_abs := PySem.W.mg_none_of X G z_abs
    z_bool := PySem.W.mg_none_of X G z_bool
    z_enumerate := PySem.W.mg_none_of X G z_enumerate
    z_int := PySem.W.mg_none_of X G z_int
    z_isinstance := PySem.W.mg_none_of X G z_isinstance
    z_len := PySem.W.mg_none_of X G z_len
    z_list := PySem.W.mg_none_of X G z_list
    z_min := PySem.W.mg_none_of X G z_min
    z_range := PySem.W.mg_none_of X G z_range
    z_reversed := PySem.W.mg_none_of X G z_reversed
    z_str := PySem.W.mg_none_of X G z_str
    z_sum := PySem.W.mg_none_of X G z_sum
    z_tuple := PySem.W.mg_none_of X G z_tuple
    t_MOST_OCTETS := t_MOST_OCTETS, k_MOST_OCTETS := PySem.W.mg_of X G q_MOST_OCTETS
    t_MOST_DIGITS := t_MOST_DIGITS, k_MOST_DIGITS := PySem.W.mg_of X G q_MOST_DIGITS
    t_MOST_BASE := t_MOST_BASE, k_MOST_BASE := PySem.W.mg_of X G q_MOST_BASE
    t_LEAST_BASE := t_LEAST_BASE, k_LEAST_BASE := PySem.W.mg_of X G q_LEAST_BASE
    t_MOST_SAID := t_MOST_SAID, k_MOST_SAID := PySem.W.mg_of X G q_MOST_SAID
    t_LONGEST := t_LONGEST, k_LONGEST := PySem.W.mg_of X G q_LONGEST
    C_PulseError := C_PulseError, g_PulseError := PySem.W.mg_of X G ac_PulseError
    C_NoEnd := C_NoEnd, g_NoEnd := PySem.W.mg_of X G ac_NoEnd
    pl_NoEnd := ⟨ec_NoEnd, kc_NoEnd, ex_NoEnd, ty_NoEnd⟩
    xf_NoEnd := ⟨ga_NoEnd, gg_NoEnd, ex_NoEnd, hd_NoEnd⟩
    C_NotOctets := C_NotOctets, g_NotOctets := PySem.W.mg_of X G ac_NotOctets
    pl_NotOctets := ⟨ec_NotOctets, kc_NotOctets, ex_NotOctets, ty_NotOctets⟩
    xf_NotOctets := ⟨ga_NotOctets, gg_NotOctets, ex_NotOctets, hd_NotOctets⟩
    C_BadSize := C_BadSize, g_BadSize := PySem.W.mg_of X G ac_BadSize
    oc_BadSize := ⟨⟨nm_BadSize, qn_BadSize, N_BadSize, bs_BadSize, bm_BadSize, sn_BadSize, sb_BadSize, ab_BadSize, col_BadSize, dd_BadSize, m0_BadSize, m1_BadSize, m2_BadSize, m3_BadSize, m5_BadSize, x_BadSize, rv_BadSize⟩, sa_BadSize, ex_BadSize, ty_BadSize, kc_BadSize⟩
    i_BadSize := i_BadSize, di_BadSize := _, ic_BadSize := ii_BadSize, ti_BadSize := it_BadSize, fi_BadSize := fun_mk (st := st_i_BadSize) li_BadSize ci_BadSize ki_BadSize, bi_BadSize := (fun_mk (st := st_i_BadSize) li_BadSize ci_BadSize ki_BadSize).binds (ps := ["self", "size"]) fun _ _ _ _ _ _ us hl => match us, hl with | [_, _], _ => rfl
    nf_BadSize_size := nf_BadSize_size
    C_NoWord := C_NoWord, g_NoWord := PySem.W.mg_of X G ac_NoWord
    oc_NoWord := ⟨⟨nm_NoWord, qn_NoWord, N_NoWord, bs_NoWord, bm_NoWord, sn_NoWord, sb_NoWord, ab_NoWord, col_NoWord, dd_NoWord, m0_NoWord, m1_NoWord, m2_NoWord, m3_NoWord, m5_NoWord, x_NoWord, rv_NoWord⟩, sa_NoWord, ex_NoWord, ty_NoWord, kc_NoWord⟩
    i_NoWord := i_NoWord, di_NoWord := _, ic_NoWord := ii_NoWord, ti_NoWord := it_NoWord, fi_NoWord := fun_mk (st := st_i_NoWord) li_NoWord ci_NoWord ki_NoWord, bi_NoWord := (fun_mk (st := st_i_NoWord) li_NoWord ci_NoWord ki_NoWord).binds (ps := ["self", "at"]) fun _ _ _ _ _ _ us hl => match us, hl with | [_, _], _ => rfl
    nf_NoWord_at := nf_NoWord_at
    C_NotBook := C_NotBook, g_NotBook := PySem.W.mg_of X G ac_NotBook
    oc_NotBook := ⟨⟨nm_NotBook, qn_NotBook, N_NotBook, bs_NotBook, bm_NotBook, sn_NotBook, sb_NotBook, ab_NotBook, col_NotBook, dd_NotBook, m0_NotBook, m1_NotBook, m2_NotBook, m3_NotBook, m5_NotBook, x_NotBook, rv_NotBook⟩, sa_NotBook, ex_NotBook, ty_NotBook, kc_NotBook⟩
    i_NotBook := i_NotBook, di_NotBook := _, ic_NotBook := ii_NotBook, ti_NotBook := it_NotBook, fi_NotBook := fun_mk (st := st_i_NotBook) li_NotBook ci_NotBook ki_NotBook, bi_NotBook := (fun_mk (st := st_i_NotBook) li_NotBook ci_NotBook ki_NotBook).binds (ps := ["self", "states"]) fun _ _ _ _ _ _ us hl => match us, hl with | [_, _], _ => rfl
    nf_NotBook_states := nf_NotBook_states
    C_BadState := C_BadState, g_BadState := PySem.W.mg_of X G ac_BadState
    oc_BadState := ⟨⟨nm_BadState, qn_BadState, N_BadState, bs_BadState, bm_BadState, sn_BadState, sb_BadState, ab_BadState, col_BadState, dd_BadState, m0_BadState, m1_BadState, m2_BadState, m3_BadState, m5_BadState, x_BadState, rv_BadState⟩, sa_BadState, ex_BadState, ty_BadState, kc_BadState⟩
    i_BadState := i_BadState, di_BadState := _, ic_BadState := ii_BadState, ti_BadState := it_BadState, fi_BadState := fun_mk (st := st_i_BadState) li_BadState ci_BadState ki_BadState, bi_BadState := (fun_mk (st := st_i_BadState) li_BadState ci_BadState ki_BadState).binds (ps := ["self", "value"]) fun _ _ _ _ _ _ us hl => match us, hl with | [_, _], _ => rfl
    nf_BadState_value := nf_BadState_value
    C_BadNumber := C_BadNumber, g_BadNumber := PySem.W.mg_of X G ac_BadNumber
    oc_BadNumber := ⟨⟨nm_BadNumber, qn_BadNumber, N_BadNumber, bs_BadNumber, bm_BadNumber, sn_BadNumber, sb_BadNumber, ab_BadNumber, col_BadNumber, dd_BadNumber, m0_BadNumber, m1_BadNumber, m2_BadNumber, m3_BadNumber, m5_BadNumber, x_BadNumber, rv_BadNumber⟩, sa_BadNumber, ex_BadNumber, ty_BadNumber, kc_BadNumber⟩
    i_BadNumber := i_BadNumber, di_BadNumber := _, ic_BadNumber := ii_BadNumber, ti_BadNumber := it_BadNumber, fi_BadNumber := fun_mk (st := st_i_BadNumber) li_BadNumber ci_BadNumber ki_BadNumber, bi_BadNumber := (fun_mk (st := st_i_BadNumber) li_BadNumber ci_BadNumber ki_BadNumber).binds (ps := ["self", "place"]) fun _ _ _ _ _ _ us hl => match us, hl with | [_, _], _ => rfl
    nf_BadNumber_place := nf_BadNumber_place
    C_NoNumber := C_NoNumber, g_NoNumber := PySem.W.mg_of X G ac_NoNumber
    oc_NoNumber := ⟨⟨nm_NoNumber, qn_NoNumber, N_NoNumber, bs_NoNumber, bm_NoNumber, sn_NoNumber, sb_NoNumber, ab_NoNumber, col_NoNumber, dd_NoNumber, m0_NoNumber, m1_NoNumber, m2_NoNumber, m3_NoNumber, m5_NoNumber, x_NoNumber, rv_NoNumber⟩, sa_NoNumber, ex_NoNumber, ty_NoNumber, kc_NoNumber⟩
    i_NoNumber := i_NoNumber, di_NoNumber := _, ic_NoNumber := ii_NoNumber, ti_NoNumber := it_NoNumber, fi_NoNumber := fun_mk (st := st_i_NoNumber) li_NoNumber ci_NoNumber ki_NoNumber, bi_NoNumber := (fun_mk (st := st_i_NoNumber) li_NoNumber ci_NoNumber ki_NoNumber).binds (ps := ["self", "number"]) fun _ _ _ _ _ _ us hl => match us, hl with | [_, _], _ => rfl
    nf_NoNumber_number := nf_NoNumber_number
    C_FewWords := C_FewWords, g_FewWords := PySem.W.mg_of X G ac_FewWords
    oc_FewWords := ⟨⟨nm_FewWords, qn_FewWords, N_FewWords, bs_FewWords, bm_FewWords, sn_FewWords, sb_FewWords, ab_FewWords, col_FewWords, dd_FewWords, m0_FewWords, m1_FewWords, m2_FewWords, m3_FewWords, m5_FewWords, x_FewWords, rv_FewWords⟩, sa_FewWords, ex_FewWords, ty_FewWords, kc_FewWords⟩
    i_FewWords := i_FewWords, di_FewWords := _, ic_FewWords := ii_FewWords, ti_FewWords := it_FewWords, fi_FewWords := fun_mk (st := st_i_FewWords) li_FewWords ci_FewWords ki_FewWords, bi_FewWords := (fun_mk (st := st_i_FewWords) li_FewWords ci_FewWords ki_FewWords).binds (ps := ["self", "found"]) fun _ _ _ _ _ _ us hl => match us, hl with | [_, _], _ => rfl
    nf_FewWords_found := nf_FewWords_found
    xf_FewWords := ⟨ga_FewWords, gg_FewWords, ex_FewWords, hd_FewWords⟩
    C_BadOctet := C_BadOctet, g_BadOctet := PySem.W.mg_of X G ac_BadOctet
    oc_BadOctet := ⟨⟨nm_BadOctet, qn_BadOctet, N_BadOctet, bs_BadOctet, bm_BadOctet, sn_BadOctet, sb_BadOctet, ab_BadOctet, col_BadOctet, dd_BadOctet, m0_BadOctet, m1_BadOctet, m2_BadOctet, m3_BadOctet, m5_BadOctet, x_BadOctet, rv_BadOctet⟩, sa_BadOctet, ex_BadOctet, ty_BadOctet, kc_BadOctet⟩
    i_BadOctet := i_BadOctet, di_BadOctet := _, ic_BadOctet := ii_BadOctet, ti_BadOctet := it_BadOctet, fi_BadOctet := fun_mk (st := st_i_BadOctet) li_BadOctet ci_BadOctet ki_BadOctet, bi_BadOctet := (fun_mk (st := st_i_BadOctet) li_BadOctet ci_BadOctet ki_BadOctet).binds (ps := ["self", "place"]) fun _ _ _ _ _ _ us hl => match us, hl with | [_, _], _ => rfl
    nf_BadOctet_place := nf_BadOctet_place
    xf_BadOctet := ⟨ga_BadOctet, gg_BadOctet, ex_BadOctet, hd_BadOctet⟩
    C_BadDigit := C_BadDigit, g_BadDigit := PySem.W.mg_of X G ac_BadDigit
    oc_BadDigit := ⟨⟨nm_BadDigit, qn_BadDigit, N_BadDigit, bs_BadDigit, bm_BadDigit, sn_BadDigit, sb_BadDigit, ab_BadDigit, col_BadDigit, dd_BadDigit, m0_BadDigit, m1_BadDigit, m2_BadDigit, m3_BadDigit, m5_BadDigit, x_BadDigit, rv_BadDigit⟩, sa_BadDigit, ex_BadDigit, ty_BadDigit, kc_BadDigit⟩
    i_BadDigit := i_BadDigit, di_BadDigit := _, ic_BadDigit := ii_BadDigit, ti_BadDigit := it_BadDigit, fi_BadDigit := fun_mk (st := st_i_BadDigit) li_BadDigit ci_BadDigit ki_BadDigit, bi_BadDigit := (fun_mk (st := st_i_BadDigit) li_BadDigit ci_BadDigit ki_BadDigit).binds (ps := ["self", "place"]) fun _ _ _ _ _ _ us hl => match us, hl with | [_, _], _ => rfl
    nf_BadDigit_place := nf_BadDigit_place
    xf_BadDigit := ⟨ga_BadDigit, gg_BadDigit, ex_BadDigit, hd_BadDigit⟩
    C_Behind := C_Behind, g_Behind := PySem.W.mg_of X G ac_Behind
    oc_Behind := ⟨⟨nm_Behind, qn_Behind, N_Behind, bs_Behind, bm_Behind, sn_Behind, sb_Behind, ab_Behind, col_Behind, dd_Behind, m0_Behind, m1_Behind, m2_Behind, m3_Behind, m5_Behind, x_Behind, rv_Behind⟩, sa_Behind, ex_Behind, ty_Behind, kc_Behind⟩
    i_Behind := i_Behind, di_Behind := _, ic_Behind := ii_Behind, ti_Behind := it_Behind, fi_Behind := fun_mk (st := st_i_Behind) li_Behind ci_Behind ki_Behind, bi_Behind := (fun_mk (st := st_i_Behind) li_Behind ci_Behind ki_Behind).binds (ps := ["self", "place"]) fun _ _ _ _ _ _ us hl => match us, hl with | [_, _], _ => rfl
    nf_Behind_place := nf_Behind_place
    xf_Behind := ⟨ga_Behind, gg_Behind, ex_Behind, hd_Behind⟩
    C_TooMany := C_TooMany, g_TooMany := PySem.W.mg_of X G ac_TooMany
    oc_TooMany := ⟨⟨nm_TooMany, qn_TooMany, N_TooMany, bs_TooMany, bm_TooMany, sn_TooMany, sb_TooMany, ab_TooMany, col_TooMany, dd_TooMany, m0_TooMany, m1_TooMany, m2_TooMany, m3_TooMany, m5_TooMany, x_TooMany, rv_TooMany⟩, sa_TooMany, ex_TooMany, ty_TooMany, kc_TooMany⟩
    i_TooMany := i_TooMany, di_TooMany := _, ic_TooMany := ii_TooMany, ti_TooMany := it_TooMany, fi_TooMany := fun_mk (st := st_i_TooMany) li_TooMany ci_TooMany ki_TooMany, bi_TooMany := (fun_mk (st := st_i_TooMany) li_TooMany ci_TooMany ki_TooMany).binds (ps := ["self", "what", "most"]) fun _ _ _ _ _ _ us hl => match us, hl with | [_, _, _], _ => rfl
    nf_TooMany_what := nf_TooMany_what
    nf_TooMany_most := nf_TooMany_most
    xf_TooMany := ⟨ga_TooMany, gg_TooMany, ex_TooMany, hd_TooMany⟩
    C_Double := C_Double, g_Double := PySem.W.mg_of X G ac_Double
    oc_Double := ⟨⟨nm_Double, qn_Double, N_Double, bs_Double, bm_Double, sn_Double, sb_Double, ab_Double, col_Double, dd_Double, m0_Double, m1_Double, m2_Double, m3_Double, m5_Double, x_Double, rv_Double⟩, sa_Double, ex_Double, ty_Double, kc_Double⟩
    i_Double := i_Double, di_Double := _, ic_Double := ii_Double, ti_Double := it_Double, fi_Double := fun_mk (st := st_i_Double) li_Double ci_Double ki_Double, bi_Double := (fun_mk (st := st_i_Double) li_Double ci_Double ki_Double).binds (ps := ["self", "at", "number"]) fun _ _ _ _ _ _ us hl => match us, hl with | [_, _, _], _ => rfl
    nf_Double_at := nf_Double_at
    nf_Double_number := nf_Double_number
    xm_BadDigit := fun n cls b hs hm => by
      have hh := subOf_mem hs
      simp only [subT, List.mem_cons, Prod.mk.injEq, List.not_mem_nil, or_false] at hh
      rcases hh with ⟨h1, h2, h3⟩ | ⟨h1, h2, h3⟩ | ⟨h1, h2, h3⟩ | ⟨h1, h2, h3⟩ | ⟨h1, h2, h3⟩ | ⟨h1, h2, h3⟩ | ⟨h1, h2, h3⟩ | ⟨h1, h2, h3⟩ | ⟨h1, h2, h3⟩ | ⟨h1, h2, h3⟩ | ⟨h1, h2, h3⟩ | ⟨h1, h2, h3⟩ | ⟨h1, h2, h3⟩ | ⟨h1, h2, h3⟩ | ⟨h1, h2, h3⟩ | ⟨h1, h2, h3⟩ | ⟨h1, h2, h3⟩ | ⟨h1, h2, h3⟩ | ⟨h1, h2, h3⟩ | ⟨h1, h2, h3⟩
      · subst h1 h3; rw [PySem.W.mg_of X G ac_BadDigit] at hm; cases hm; exact PySem.W.exm_ref ex_BadDigit hd_BadDigit ty_BadDigit sf_BadDigit
      · subst h1 h3; rw [PySem.W.mg_of X G ac_NoEnd] at hm; cases hm; exact PySem.W.exm_ref ex_BadDigit hd_BadDigit ty_BadDigit su_NoEnd_BadDigit
      · exact absurd h2 (by decide)
      · subst h1 h3; rw [PySem.W.mg_of X G ac_Behind] at hm; cases hm; exact PySem.W.exm_ref ex_BadDigit hd_BadDigit ty_BadDigit su_Behind_BadDigit
      · exact absurd h2 (by decide)
      · exact absurd h2 (by decide)
      · subst h1 h3; rw [PySem.W.mg_of X G ac_NotOctets] at hm; cases hm; exact PySem.W.exm_ref ex_BadDigit hd_BadDigit ty_BadDigit su_NotOctets_BadDigit
      · exact absurd h2 (by decide)
      · exact absurd h2 (by decide)
      · exact absurd h2 (by decide)
      · subst h1 h3; rw [PySem.W.mg_of X G ac_TooMany] at hm; cases hm; exact PySem.W.exm_ref ex_BadDigit hd_BadDigit ty_BadDigit su_TooMany_BadDigit
      · exact absurd h2 (by decide)
      · exact absurd h2 (by decide)
      · exact absurd h2 (by decide)
      · exact absurd h2 (by decide)
      · exact absurd h2 (by decide)
      · exact absurd h2 (by decide)
      · exact absurd h2 (by decide)
      · exact absurd h2 (by decide)
      · exact absurd h2 (by decide)
    xm_NoEnd := fun n cls b hs hm => by
      have hh := subOf_mem hs
      simp only [subT, List.mem_cons, Prod.mk.injEq, List.not_mem_nil, or_false] at hh
      rcases hh with ⟨h1, h2, h3⟩ | ⟨h1, h2, h3⟩ | ⟨h1, h2, h3⟩ | ⟨h1, h2, h3⟩ | ⟨h1, h2, h3⟩ | ⟨h1, h2, h3⟩ | ⟨h1, h2, h3⟩ | ⟨h1, h2, h3⟩ | ⟨h1, h2, h3⟩ | ⟨h1, h2, h3⟩ | ⟨h1, h2, h3⟩ | ⟨h1, h2, h3⟩ | ⟨h1, h2, h3⟩ | ⟨h1, h2, h3⟩ | ⟨h1, h2, h3⟩ | ⟨h1, h2, h3⟩ | ⟨h1, h2, h3⟩ | ⟨h1, h2, h3⟩ | ⟨h1, h2, h3⟩ | ⟨h1, h2, h3⟩
      · exact absurd h2 (by decide)
      · exact absurd h2 (by decide)
      · subst h1 h3; rw [PySem.W.mg_of X G ac_NoEnd] at hm; cases hm; exact PySem.W.exm_ref ex_NoEnd hd_NoEnd ty_NoEnd sf_NoEnd
      · exact absurd h2 (by decide)
      · subst h1 h3; rw [PySem.W.mg_of X G ac_Behind] at hm; cases hm; exact PySem.W.exm_ref ex_NoEnd hd_NoEnd ty_NoEnd su_Behind_NoEnd
      · exact absurd h2 (by decide)
      · exact absurd h2 (by decide)
      · subst h1 h3; rw [PySem.W.mg_of X G ac_NotOctets] at hm; cases hm; exact PySem.W.exm_ref ex_NoEnd hd_NoEnd ty_NoEnd su_NotOctets_NoEnd
      · exact absurd h2 (by decide)
      · exact absurd h2 (by decide)
      · exact absurd h2 (by decide)
      · subst h1 h3; rw [PySem.W.mg_of X G ac_TooMany] at hm; cases hm; exact PySem.W.exm_ref ex_NoEnd hd_NoEnd ty_NoEnd su_TooMany_NoEnd
      · exact absurd h2 (by decide)
      · exact absurd h2 (by decide)
      · exact absurd h2 (by decide)
      · exact absurd h2 (by decide)
      · exact absurd h2 (by decide)
      · exact absurd h2 (by decide)
      · exact absurd h2 (by decide)
      · exact absurd h2 (by decide)
    xm_Behind := fun n cls b hs hm => by
      have hh := subOf_mem hs
      simp only [subT, List.mem_cons, Prod.mk.injEq, List.not_mem_nil, or_false] at hh
      rcases hh with ⟨h1, h2, h3⟩ | ⟨h1, h2, h3⟩ | ⟨h1, h2, h3⟩ | ⟨h1, h2, h3⟩ | ⟨h1, h2, h3⟩ | ⟨h1, h2, h3⟩ | ⟨h1, h2, h3⟩ | ⟨h1, h2, h3⟩ | ⟨h1, h2, h3⟩ | ⟨h1, h2, h3⟩ | ⟨h1, h2, h3⟩ | ⟨h1, h2, h3⟩ | ⟨h1, h2, h3⟩ | ⟨h1, h2, h3⟩ | ⟨h1, h2, h3⟩ | ⟨h1, h2, h3⟩ | ⟨h1, h2, h3⟩ | ⟨h1, h2, h3⟩ | ⟨h1, h2, h3⟩ | ⟨h1, h2, h3⟩
      · exact absurd h2 (by decide)
      · exact absurd h2 (by decide)
      · exact absurd h2 (by decide)
      · exact absurd h2 (by decide)
      · exact absurd h2 (by decide)
      · subst h1 h3; rw [PySem.W.mg_of X G ac_Behind] at hm; cases hm; exact PySem.W.exm_ref ex_Behind hd_Behind ty_Behind sf_Behind
      · exact absurd h2 (by decide)
      · exact absurd h2 (by decide)
      · subst h1 h3; rw [PySem.W.mg_of X G ac_NotOctets] at hm; cases hm; exact PySem.W.exm_ref ex_Behind hd_Behind ty_Behind su_NotOctets_Behind
      · exact absurd h2 (by decide)
      · exact absurd h2 (by decide)
      · exact absurd h2 (by decide)
      · subst h1 h3; rw [PySem.W.mg_of X G ac_TooMany] at hm; cases hm; exact PySem.W.exm_ref ex_Behind hd_Behind ty_Behind su_TooMany_Behind
      · exact absurd h2 (by decide)
      · exact absurd h2 (by decide)
      · exact absurd h2 (by decide)
      · exact absurd h2 (by decide)
      · exact absurd h2 (by decide)
      · exact absurd h2 (by decide)
      · exact absurd h2 (by decide)
    xm_NotOctets := fun n cls b hs hm => by
      have hh := subOf_mem hs
      simp only [subT, List.mem_cons, Prod.mk.injEq, List.not_mem_nil, or_false] at hh
      rcases hh with ⟨h1, h2, h3⟩ | ⟨h1, h2, h3⟩ | ⟨h1, h2, h3⟩ | ⟨h1, h2, h3⟩ | ⟨h1, h2, h3⟩ | ⟨h1, h2, h3⟩ | ⟨h1, h2, h3⟩ | ⟨h1, h2, h3⟩ | ⟨h1, h2, h3⟩ | ⟨h1, h2, h3⟩ | ⟨h1, h2, h3⟩ | ⟨h1, h2, h3⟩ | ⟨h1, h2, h3⟩ | ⟨h1, h2, h3⟩ | ⟨h1, h2, h3⟩ | ⟨h1, h2, h3⟩ | ⟨h1, h2, h3⟩ | ⟨h1, h2, h3⟩ | ⟨h1, h2, h3⟩ | ⟨h1, h2, h3⟩
      · exact absurd h2 (by decide)
      · exact absurd h2 (by decide)
      · exact absurd h2 (by decide)
      · exact absurd h2 (by decide)
      · exact absurd h2 (by decide)
      · exact absurd h2 (by decide)
      · exact absurd h2 (by decide)
      · exact absurd h2 (by decide)
      · exact absurd h2 (by decide)
      · subst h1 h3; rw [PySem.W.mg_of X G ac_NotOctets] at hm; cases hm; exact PySem.W.exm_ref ex_NotOctets hd_NotOctets ty_NotOctets sf_NotOctets
      · exact absurd h2 (by decide)
      · exact absurd h2 (by decide)
      · exact absurd h2 (by decide)
      · subst h1 h3; rw [PySem.W.mg_of X G ac_TooMany] at hm; cases hm; exact PySem.W.exm_ref ex_NotOctets hd_NotOctets ty_NotOctets su_TooMany_NotOctets
      · exact absurd h2 (by decide)
      · exact absurd h2 (by decide)
      · exact absurd h2 (by decide)
      · exact absurd h2 (by decide)
      · exact absurd h2 (by decide)
      · exact absurd h2 (by decide)
    xm_TooMany := fun n cls b hs hm => by
      have hh := subOf_mem hs
      simp only [subT, List.mem_cons, Prod.mk.injEq, List.not_mem_nil, or_false] at hh
      rcases hh with ⟨h1, h2, h3⟩ | ⟨h1, h2, h3⟩ | ⟨h1, h2, h3⟩ | ⟨h1, h2, h3⟩ | ⟨h1, h2, h3⟩ | ⟨h1, h2, h3⟩ | ⟨h1, h2, h3⟩ | ⟨h1, h2, h3⟩ | ⟨h1, h2, h3⟩ | ⟨h1, h2, h3⟩ | ⟨h1, h2, h3⟩ | ⟨h1, h2, h3⟩ | ⟨h1, h2, h3⟩ | ⟨h1, h2, h3⟩ | ⟨h1, h2, h3⟩ | ⟨h1, h2, h3⟩ | ⟨h1, h2, h3⟩ | ⟨h1, h2, h3⟩ | ⟨h1, h2, h3⟩ | ⟨h1, h2, h3⟩
      · exact absurd h2 (by decide)
      · exact absurd h2 (by decide)
      · exact absurd h2 (by decide)
      · exact absurd h2 (by decide)
      · exact absurd h2 (by decide)
      · exact absurd h2 (by decide)
      · exact absurd h2 (by decide)
      · exact absurd h2 (by decide)
      · exact absurd h2 (by decide)
      · exact absurd h2 (by decide)
      · exact absurd h2 (by decide)
      · exact absurd h2 (by decide)
      · exact absurd h2 (by decide)
      · exact absurd h2 (by decide)
      · subst h1 h3; rw [PySem.W.mg_of X G ac_TooMany] at hm; cases hm; exact PySem.W.exm_ref ex_TooMany hd_TooMany ty_TooMany sf_TooMany
      · subst h1 h3; rw [PySem.W.mg_of X G ac_BadOctet] at hm; cases hm; exact PySem.W.exm_ref ex_TooMany hd_TooMany ty_TooMany su_BadOctet_TooMany
      · exact absurd h2 (by decide)
      · subst h1 h3; rw [PySem.W.mg_of X G ac_FewWords] at hm; cases hm; exact PySem.W.exm_ref ex_TooMany hd_TooMany ty_TooMany su_FewWords_TooMany
      · exact absurd h2 (by decide)
      · exact absurd h2 (by decide)
    xm_BadOctet := fun n cls b hs hm => by
      have hh := subOf_mem hs
      simp only [subT, List.mem_cons, Prod.mk.injEq, List.not_mem_nil, or_false] at hh
      rcases hh with ⟨h1, h2, h3⟩ | ⟨h1, h2, h3⟩ | ⟨h1, h2, h3⟩ | ⟨h1, h2, h3⟩ | ⟨h1, h2, h3⟩ | ⟨h1, h2, h3⟩ | ⟨h1, h2, h3⟩ | ⟨h1, h2, h3⟩ | ⟨h1, h2, h3⟩ | ⟨h1, h2, h3⟩ | ⟨h1, h2, h3⟩ | ⟨h1, h2, h3⟩ | ⟨h1, h2, h3⟩ | ⟨h1, h2, h3⟩ | ⟨h1, h2, h3⟩ | ⟨h1, h2, h3⟩ | ⟨h1, h2, h3⟩ | ⟨h1, h2, h3⟩ | ⟨h1, h2, h3⟩ | ⟨h1, h2, h3⟩
      · exact absurd h2 (by decide)
      · exact absurd h2 (by decide)
      · exact absurd h2 (by decide)
      · exact absurd h2 (by decide)
      · exact absurd h2 (by decide)
      · exact absurd h2 (by decide)
      · exact absurd h2 (by decide)
      · exact absurd h2 (by decide)
      · exact absurd h2 (by decide)
      · exact absurd h2 (by decide)
      · exact absurd h2 (by decide)
      · exact absurd h2 (by decide)
      · exact absurd h2 (by decide)
      · exact absurd h2 (by decide)
      · exact absurd h2 (by decide)
      · exact absurd h2 (by decide)
      · subst h1 h3; rw [PySem.W.mg_of X G ac_BadOctet] at hm; cases hm; exact PySem.W.exm_ref ex_BadOctet hd_BadOctet ty_BadOctet sf_BadOctet
      · exact absurd h2 (by decide)
      · subst h1 h3; rw [PySem.W.mg_of X G ac_FewWords] at hm; cases hm; exact PySem.W.exm_ref ex_BadOctet hd_BadOctet ty_BadOctet su_FewWords_BadOctet
      · exact absurd h2 (by decide)
    xm_FewWords := fun n cls b hs hm => by
      have hh := subOf_mem hs
      simp only [subT, List.mem_cons, Prod.mk.injEq, List.not_mem_nil, or_false] at hh
      rcases hh with ⟨h1, h2, h3⟩ | ⟨h1, h2, h3⟩ | ⟨h1, h2, h3⟩ | ⟨h1, h2, h3⟩ | ⟨h1, h2, h3⟩ | ⟨h1, h2, h3⟩ | ⟨h1, h2, h3⟩ | ⟨h1, h2, h3⟩ | ⟨h1, h2, h3⟩ | ⟨h1, h2, h3⟩ | ⟨h1, h2, h3⟩ | ⟨h1, h2, h3⟩ | ⟨h1, h2, h3⟩ | ⟨h1, h2, h3⟩ | ⟨h1, h2, h3⟩ | ⟨h1, h2, h3⟩ | ⟨h1, h2, h3⟩ | ⟨h1, h2, h3⟩ | ⟨h1, h2, h3⟩ | ⟨h1, h2, h3⟩
      · exact absurd h2 (by decide)
      · exact absurd h2 (by decide)
      · exact absurd h2 (by decide)
      · exact absurd h2 (by decide)
      · exact absurd h2 (by decide)
      · exact absurd h2 (by decide)
      · exact absurd h2 (by decide)
      · exact absurd h2 (by decide)
      · exact absurd h2 (by decide)
      · exact absurd h2 (by decide)
      · exact absurd h2 (by decide)
      · exact absurd h2 (by decide)
      · exact absurd h2 (by decide)
      · exact absurd h2 (by decide)
      · exact absurd h2 (by decide)
      · exact absurd h2 (by decide)
      · exact absurd h2 (by decide)
      · exact absurd h2 (by decide)
      · exact absurd h2 (by decide)
      · subst h1 h3; rw [PySem.W.mg_of X G ac_FewWords] at hm; cases hm; exact PySem.W.exm_ref ex_FewWords hd_FewWords ty_FewWords sf_FewWords
    ki := fun a n ca cn b hs h1 h2 => by
      have hh := subOf_mem hs
      simp only [subT, List.mem_cons, Prod.mk.injEq, List.not_mem_nil, or_false] at hh
      rcases hh with ⟨e1, e2, e3⟩ | ⟨e1, e2, e3⟩ | ⟨e1, e2, e3⟩ | ⟨e1, e2, e3⟩ | ⟨e1, e2, e3⟩ | ⟨e1, e2, e3⟩ | ⟨e1, e2, e3⟩ | ⟨e1, e2, e3⟩ | ⟨e1, e2, e3⟩ | ⟨e1, e2, e3⟩ | ⟨e1, e2, e3⟩ | ⟨e1, e2, e3⟩ | ⟨e1, e2, e3⟩ | ⟨e1, e2, e3⟩ | ⟨e1, e2, e3⟩ | ⟨e1, e2, e3⟩ | ⟨e1, e2, e3⟩ | ⟨e1, e2, e3⟩ | ⟨e1, e2, e3⟩ | ⟨e1, e2, e3⟩
      · subst e1 e2 e3; rw [PySem.W.mg_of X G ac_BadDigit] at h1; cases h1; rw [PySem.W.mg_of X G ac_BadDigit] at h2; cases h2
        exact ⟨kit_ref is_BadDigit ty_BadDigit sf_BadDigit (fun e => by rfl), _, rfl, is_BadDigit, ga_BadDigit, ⟨_, gg_BadDigit⟩, ex_BadDigit, cl_BadDigit, sg, st, mo_BadDigit⟩
      · subst e1 e2 e3; rw [PySem.W.mg_of X G ac_NoEnd] at h1; cases h1; rw [PySem.W.mg_of X G ac_BadDigit] at h2; cases h2
        exact ⟨kit_ref is_BadDigit ty_BadDigit su_NoEnd_BadDigit (fun e => by subst e; rw [sf_NoEnd] at su_NoEnd_BadDigit; cases su_NoEnd_BadDigit), _, rfl, is_NoEnd, ga_NoEnd, ⟨_, gg_NoEnd⟩, ex_NoEnd, cl_NoEnd, sg, st, mo_NoEnd⟩
      · subst e1 e2 e3; rw [PySem.W.mg_of X G ac_NoEnd] at h1; cases h1; rw [PySem.W.mg_of X G ac_NoEnd] at h2; cases h2
        exact ⟨kit_ref is_NoEnd ty_NoEnd sf_NoEnd (fun e => by rfl), _, rfl, is_NoEnd, ga_NoEnd, ⟨_, gg_NoEnd⟩, ex_NoEnd, cl_NoEnd, sg, st, mo_NoEnd⟩
      · subst e1 e2 e3; rw [PySem.W.mg_of X G ac_Behind] at h1; cases h1; rw [PySem.W.mg_of X G ac_BadDigit] at h2; cases h2
        exact ⟨kit_ref is_BadDigit ty_BadDigit su_Behind_BadDigit (fun e => by subst e; rw [sf_Behind] at su_Behind_BadDigit; cases su_Behind_BadDigit), _, rfl, is_Behind, ga_Behind, ⟨_, gg_Behind⟩, ex_Behind, cl_Behind, sg, st, mo_Behind⟩
      · subst e1 e2 e3; rw [PySem.W.mg_of X G ac_Behind] at h1; cases h1; rw [PySem.W.mg_of X G ac_NoEnd] at h2; cases h2
        exact ⟨kit_ref is_NoEnd ty_NoEnd su_Behind_NoEnd (fun e => by subst e; rw [sf_Behind] at su_Behind_NoEnd; cases su_Behind_NoEnd), _, rfl, is_Behind, ga_Behind, ⟨_, gg_Behind⟩, ex_Behind, cl_Behind, sg, st, mo_Behind⟩
      · subst e1 e2 e3; rw [PySem.W.mg_of X G ac_Behind] at h1; cases h1; rw [PySem.W.mg_of X G ac_Behind] at h2; cases h2
        exact ⟨kit_ref is_Behind ty_Behind sf_Behind (fun e => by rfl), _, rfl, is_Behind, ga_Behind, ⟨_, gg_Behind⟩, ex_Behind, cl_Behind, sg, st, mo_Behind⟩
      · subst e1 e2 e3; rw [PySem.W.mg_of X G ac_NotOctets] at h1; cases h1; rw [PySem.W.mg_of X G ac_BadDigit] at h2; cases h2
        exact ⟨kit_ref is_BadDigit ty_BadDigit su_NotOctets_BadDigit (fun e => by subst e; rw [sf_NotOctets] at su_NotOctets_BadDigit; cases su_NotOctets_BadDigit), _, rfl, is_NotOctets, ga_NotOctets, ⟨_, gg_NotOctets⟩, ex_NotOctets, cl_NotOctets, sg, st, mo_NotOctets⟩
      · subst e1 e2 e3; rw [PySem.W.mg_of X G ac_NotOctets] at h1; cases h1; rw [PySem.W.mg_of X G ac_NoEnd] at h2; cases h2
        exact ⟨kit_ref is_NoEnd ty_NoEnd su_NotOctets_NoEnd (fun e => by subst e; rw [sf_NotOctets] at su_NotOctets_NoEnd; cases su_NotOctets_NoEnd), _, rfl, is_NotOctets, ga_NotOctets, ⟨_, gg_NotOctets⟩, ex_NotOctets, cl_NotOctets, sg, st, mo_NotOctets⟩
      · subst e1 e2 e3; rw [PySem.W.mg_of X G ac_NotOctets] at h1; cases h1; rw [PySem.W.mg_of X G ac_Behind] at h2; cases h2
        exact ⟨kit_ref is_Behind ty_Behind su_NotOctets_Behind (fun e => by subst e; rw [sf_NotOctets] at su_NotOctets_Behind; cases su_NotOctets_Behind), _, rfl, is_NotOctets, ga_NotOctets, ⟨_, gg_NotOctets⟩, ex_NotOctets, cl_NotOctets, sg, st, mo_NotOctets⟩
      · subst e1 e2 e3; rw [PySem.W.mg_of X G ac_NotOctets] at h1; cases h1; rw [PySem.W.mg_of X G ac_NotOctets] at h2; cases h2
        exact ⟨kit_ref is_NotOctets ty_NotOctets sf_NotOctets (fun e => by rfl), _, rfl, is_NotOctets, ga_NotOctets, ⟨_, gg_NotOctets⟩, ex_NotOctets, cl_NotOctets, sg, st, mo_NotOctets⟩
      · subst e1 e2 e3; rw [PySem.W.mg_of X G ac_TooMany] at h1; cases h1; rw [PySem.W.mg_of X G ac_BadDigit] at h2; cases h2
        exact ⟨kit_ref is_BadDigit ty_BadDigit su_TooMany_BadDigit (fun e => by subst e; rw [sf_TooMany] at su_TooMany_BadDigit; cases su_TooMany_BadDigit), _, rfl, is_TooMany, ga_TooMany, ⟨_, gg_TooMany⟩, ex_TooMany, cl_TooMany, sg, st, mo_TooMany⟩
      · subst e1 e2 e3; rw [PySem.W.mg_of X G ac_TooMany] at h1; cases h1; rw [PySem.W.mg_of X G ac_NoEnd] at h2; cases h2
        exact ⟨kit_ref is_NoEnd ty_NoEnd su_TooMany_NoEnd (fun e => by subst e; rw [sf_TooMany] at su_TooMany_NoEnd; cases su_TooMany_NoEnd), _, rfl, is_TooMany, ga_TooMany, ⟨_, gg_TooMany⟩, ex_TooMany, cl_TooMany, sg, st, mo_TooMany⟩
      · subst e1 e2 e3; rw [PySem.W.mg_of X G ac_TooMany] at h1; cases h1; rw [PySem.W.mg_of X G ac_Behind] at h2; cases h2
        exact ⟨kit_ref is_Behind ty_Behind su_TooMany_Behind (fun e => by subst e; rw [sf_TooMany] at su_TooMany_Behind; cases su_TooMany_Behind), _, rfl, is_TooMany, ga_TooMany, ⟨_, gg_TooMany⟩, ex_TooMany, cl_TooMany, sg, st, mo_TooMany⟩
      · subst e1 e2 e3; rw [PySem.W.mg_of X G ac_TooMany] at h1; cases h1; rw [PySem.W.mg_of X G ac_NotOctets] at h2; cases h2
        exact ⟨kit_ref is_NotOctets ty_NotOctets su_TooMany_NotOctets (fun e => by subst e; rw [sf_TooMany] at su_TooMany_NotOctets; cases su_TooMany_NotOctets), _, rfl, is_TooMany, ga_TooMany, ⟨_, gg_TooMany⟩, ex_TooMany, cl_TooMany, sg, st, mo_TooMany⟩
      · subst e1 e2 e3; rw [PySem.W.mg_of X G ac_TooMany] at h1; cases h1; rw [PySem.W.mg_of X G ac_TooMany] at h2; cases h2
        exact ⟨kit_ref is_TooMany ty_TooMany sf_TooMany (fun e => by rfl), _, rfl, is_TooMany, ga_TooMany, ⟨_, gg_TooMany⟩, ex_TooMany, cl_TooMany, sg, st, mo_TooMany⟩
      · subst e1 e2 e3; rw [PySem.W.mg_of X G ac_BadOctet] at h1; cases h1; rw [PySem.W.mg_of X G ac_TooMany] at h2; cases h2
        exact ⟨kit_ref is_TooMany ty_TooMany su_BadOctet_TooMany (fun e => by subst e; rw [sf_BadOctet] at su_BadOctet_TooMany; cases su_BadOctet_TooMany), _, rfl, is_BadOctet, ga_BadOctet, ⟨_, gg_BadOctet⟩, ex_BadOctet, cl_BadOctet, sg, st, mo_BadOctet⟩
      · subst e1 e2 e3; rw [PySem.W.mg_of X G ac_BadOctet] at h1; cases h1; rw [PySem.W.mg_of X G ac_BadOctet] at h2; cases h2
        exact ⟨kit_ref is_BadOctet ty_BadOctet sf_BadOctet (fun e => by rfl), _, rfl, is_BadOctet, ga_BadOctet, ⟨_, gg_BadOctet⟩, ex_BadOctet, cl_BadOctet, sg, st, mo_BadOctet⟩
      · subst e1 e2 e3; rw [PySem.W.mg_of X G ac_FewWords] at h1; cases h1; rw [PySem.W.mg_of X G ac_TooMany] at h2; cases h2
        exact ⟨kit_ref is_TooMany ty_TooMany su_FewWords_TooMany (fun e => by subst e; rw [sf_FewWords] at su_FewWords_TooMany; cases su_FewWords_TooMany), _, rfl, is_FewWords, ga_FewWords, ⟨_, gg_FewWords⟩, ex_FewWords, cl_FewWords, sg, st, mo_FewWords⟩
      · subst e1 e2 e3; rw [PySem.W.mg_of X G ac_FewWords] at h1; cases h1; rw [PySem.W.mg_of X G ac_BadOctet] at h2; cases h2
        exact ⟨kit_ref is_BadOctet ty_BadOctet su_FewWords_BadOctet (fun e => by subst e; rw [sf_FewWords] at su_FewWords_BadOctet; cases su_FewWords_BadOctet), _, rfl, is_FewWords, ga_FewWords, ⟨_, gg_FewWords⟩, ex_FewWords, cl_FewWords, sg, st, mo_FewWords⟩
      · subst e1 e2 e3; rw [PySem.W.mg_of X G ac_FewWords] at h1; cases h1; rw [PySem.W.mg_of X G ac_FewWords] at h2; cases h2
        exact ⟨kit_ref is_FewWords ty_FewWords sf_FewWords (fun e => by rfl), _, rfl, is_FewWords, ga_FewWords, ⟨_, gg_FewWords⟩, ex_FewWords, cl_FewWords, sg, st, mo_FewWords⟩
  }, rfl, rfl⟩
  obtain ⟨T, e1, e2⟩ := T
  refine ⟨_, fun s v => .of_eq ?_, fun base _ _ => e1 ▸ e2 ▸ ok_law T pure⟩
  rfl
end Mi
set_option maxHeartbeats 4000000
namespace Mi
open PySem PySem.Spec PyProof.Rows L2
end Mi
open PySem PySem.W PyProof.Rows
set_option maxRecDepth 100000 in
set_option maxHeartbeats 0 in
theorem PySem.Challenge.cw_earlypulses_k81_octets_are_ranks_holds : PySem.Challenge.rw_earlypulses_k81_octets_are_ranks.Holds := by
  w_on; o_law; k_head; (case hw => w_witness2)
  k_fill
  refine Mi.walk_g (l := PySem.Challenge.rw_earlypulses_k81_octets_are_ranks) (n := 63) (k := 39) (x := "script") (sp := fun w => Mi.spLaw _) rfl (by decide) rfl ⟨rfl, by decide, by decide⟩ (fun w h Y => PySem.W.kIn_of Y) ?F (fun w H a ns hl _ hS => ⟨a, ns, rfl, hS, by omega, fun _ => rfl⟩)
  case F =>
    intro w mg fa h KX G hmg
    refine' Mi.all_mk KX G hmg Mi.law_pure ?a_same_parts ?l_same_parts ?c_same_parts ?k_same_parts ?a_is_whole ?l_is_whole ?c_is_whole ?k_is_whole ?a_is_index ?l_is_index ?c_is_index ?k_is_index ?a_copied ?l_copied ?c_copied ?k_copied ?a_check_state ?l_check_state ?c_check_state ?k_check_state ?a_is_book ?l_is_book ?c_is_book ?k_is_book ?a_words_of ?l_words_of ?c_words_of ?k_words_of ?a_book_words ?l_book_words ?c_book_words ?k_book_words ?a_is_below ?l_is_below ?c_is_below ?k_is_below ?a_check_book ?l_check_book ?c_check_book ?k_check_book ?a_check_base ?l_check_base ?c_check_base ?k_check_base ?a_check_octets ?l_check_octets ?c_check_octets ?k_check_octets ?a_end_of ?l_end_of ?c_end_of ?k_end_of ?a_digits_of ?l_digits_of ?c_digits_of ?k_digits_of ?a_octets_of ?l_octets_of ?c_octets_of ?k_octets_of ?a_say_octets ?l_say_octets ?c_say_octets ?k_say_octets ?a_walk ?l_walk ?c_walk ?k_walk ?a_copy_of ?l_copy_of ?c_copy_of ?k_copy_of ?a_is_from_to ?l_is_from_to ?c_is_from_to ?k_is_from_to ?a_tails ?l_tails ?c_tails ?k_tails ?a_saying_at ?l_saying_at ?c_saying_at ?k_saying_at ?a_saying_rank ?l_saying_rank ?c_saying_rank ?k_saying_rank ?a_book_made ?l_book_made ?c_book_made ?k_book_made ?a_part ?l_part ?c_part ?k_part ?a__law_mixed ?l__law_mixed ?c__law_mixed ?k__law_mixed ?a__law_store ?l__law_store ?c__law_store ?k__law_store ?a__law_take ?l__law_take ?c__law_take ?k__law_take ?a__law_number ?l__law_number ?c__law_number ?k__law_number ?a__law_size ?l__law_size ?c__law_size ?k__law_size ?a__law_unlike ?l__law_unlike ?c__law_unlike ?k__law_unlike ?a__law_power ?l__law_power ?c__law_power ?k__law_power ?a__law_kind ?l__law_kind ?c__law_kind ?k__law_kind ?a__law_same ?l__law_same ?c__law_same ?k__law_same ?a__law_is_whole ?l__law_is_whole ?c__law_is_whole ?k__law_is_whole ?a__law_mask_word ?l__law_mask_word ?c__law_mask_word ?k__law_mask_word ?a__law_bent_list ?l__law_bent_list ?c__law_bent_list ?k__law_bent_list ?a__law_book ?l__law_book ?c__law_book ?k__law_book ?a__law_octets ?l__law_octets ?c__law_octets ?k__law_octets ?a__law_digits ?l__law_digits ?c__law_digits ?k__law_digits ?a__law_value ?l__law_value ?c__law_value ?k__law_value ?a__law_read ?l__law_read ?c__law_read ?k__law_read ?a__law_asked_octets ?l__law_asked_octets ?c__law_asked_octets ?k__law_asked_octets ?a__law_asked_digits ?l__law_asked_digits ?c__law_asked_digits ?k__law_asked_digits ?a__law_is_spelled ?l__law_is_spelled ?c__law_is_spelled ?k__law_is_spelled ?a__law_is_ranked ?l__law_is_ranked ?c__law_is_ranked ?k__law_is_ranked ?a__law_bent_is_read ?l__law_bent_is_read ?c__law_bent_is_read ?k__law_bent_is_read ?a__law_bounds_hold ?l__law_bounds_hold ?c__law_bounds_hold ?k__law_bounds_hold ?a_law ?l_law ?c_law ?k_law ?z_abs ?z_bool ?z_enumerate ?z_int ?z_isinstance ?z_len ?z_list ?z_min ?z_range ?z_reversed ?z_str ?z_sum ?z_tuple ?q_MOST_OCTETS ?q_MOST_DIGITS ?q_MOST_BASE ?q_LEAST_BASE ?q_MOST_SAID ?q_LONGEST ?ac_PulseError ?ac_NoEnd ?is_NoEnd ?ty_NoEnd ?ex_NoEnd ?ga_NoEnd ?gg_NoEnd ?ec_NoEnd ?kc_NoEnd ?hd_NoEnd ?cl_NoEnd ?mo_NoEnd ?sf_NoEnd ?ac_NotOctets ?is_NotOctets ?ty_NotOctets ?ex_NotOctets ?ga_NotOctets ?gg_NotOctets ?ec_NotOctets ?kc_NotOctets ?hd_NotOctets ?cl_NotOctets ?mo_NotOctets ?sf_NotOctets ?ac_BadSize ?is_BadSize ?ty_BadSize ?ex_BadSize ?ga_BadSize ?gg_BadSize ?x_BadSize ?rv_BadSize ?sa_BadSize ?kc_BadSize ?ii_BadSize ?it_BadSize ?li_BadSize ?ci_BadSize ?ki_BadSize ?nf_BadSize_size ?ac_NoWord ?is_NoWord ?ty_NoWord ?ex_NoWord ?ga_NoWord ?gg_NoWord ?x_NoWord ?rv_NoWord ?sa_NoWord ?kc_NoWord ?ii_NoWord ?it_NoWord ?li_NoWord ?ci_NoWord ?ki_NoWord ?nf_NoWord_at ?ac_NotBook ?is_NotBook ?ty_NotBook ?ex_NotBook ?ga_NotBook ?gg_NotBook ?x_NotBook ?rv_NotBook ?sa_NotBook ?kc_NotBook ?ii_NotBook ?it_NotBook ?li_NotBook ?ci_NotBook ?ki_NotBook ?nf_NotBook_states ?ac_BadState ?is_BadState ?ty_BadState ?ex_BadState ?ga_BadState ?gg_BadState ?x_BadState ?rv_BadState ?sa_BadState ?kc_BadState ?ii_BadState ?it_BadState ?li_BadState ?ci_BadState ?ki_BadState ?nf_BadState_value ?ac_BadNumber ?is_BadNumber ?ty_BadNumber ?ex_BadNumber ?ga_BadNumber ?gg_BadNumber ?x_BadNumber ?rv_BadNumber ?sa_BadNumber ?kc_BadNumber ?ii_BadNumber ?it_BadNumber ?li_BadNumber ?ci_BadNumber ?ki_BadNumber ?nf_BadNumber_place ?ac_NoNumber ?is_NoNumber ?ty_NoNumber ?ex_NoNumber ?ga_NoNumber ?gg_NoNumber ?x_NoNumber ?rv_NoNumber ?sa_NoNumber ?kc_NoNumber ?ii_NoNumber ?it_NoNumber ?li_NoNumber ?ci_NoNumber ?ki_NoNumber ?nf_NoNumber_number ?ac_FewWords ?is_FewWords ?ty_FewWords ?ex_FewWords ?ga_FewWords ?gg_FewWords ?x_FewWords ?rv_FewWords ?sa_FewWords ?kc_FewWords ?ii_FewWords ?it_FewWords ?li_FewWords ?ci_FewWords ?ki_FewWords ?nf_FewWords_found ?hd_FewWords ?cl_FewWords ?mo_FewWords ?sf_FewWords ?ac_BadOctet ?is_BadOctet ?ty_BadOctet ?ex_BadOctet ?ga_BadOctet ?gg_BadOctet ?x_BadOctet ?rv_BadOctet ?sa_BadOctet ?kc_BadOctet ?ii_BadOctet ?it_BadOctet ?li_BadOctet ?ci_BadOctet ?ki_BadOctet ?nf_BadOctet_place ?hd_BadOctet ?cl_BadOctet ?mo_BadOctet ?sf_BadOctet ?ac_BadDigit ?is_BadDigit ?ty_BadDigit ?ex_BadDigit ?ga_BadDigit ?gg_BadDigit ?x_BadDigit ?rv_BadDigit ?sa_BadDigit ?kc_BadDigit ?ii_BadDigit ?it_BadDigit ?li_BadDigit ?ci_BadDigit ?ki_BadDigit ?nf_BadDigit_place ?hd_BadDigit ?cl_BadDigit ?mo_BadDigit ?sf_BadDigit ?ac_Behind ?is_Behind ?ty_Behind ?ex_Behind ?ga_Behind ?gg_Behind ?x_Behind ?rv_Behind ?sa_Behind ?kc_Behind ?ii_Behind ?it_Behind ?li_Behind ?ci_Behind ?ki_Behind ?nf_Behind_place ?hd_Behind ?cl_Behind ?mo_Behind ?sf_Behind ?ac_TooMany ?is_TooMany ?ty_TooMany ?ex_TooMany ?ga_TooMany ?gg_TooMany ?x_TooMany ?rv_TooMany ?sa_TooMany ?kc_TooMany ?ii_TooMany ?it_TooMany ?li_TooMany ?ci_TooMany ?ki_TooMany ?nf_TooMany_what ?nf_TooMany_most ?hd_TooMany ?cl_TooMany ?mo_TooMany ?sf_TooMany ?ac_Double ?is_Double ?ty_Double ?ex_Double ?ga_Double ?gg_Double ?x_Double ?rv_Double ?sa_Double ?kc_Double ?ii_Double ?it_Double ?li_Double ?ci_Double ?ki_Double ?nf_Double_at ?nf_Double_number ?sg ?st ?su_NoEnd_BadDigit ?su_Behind_BadDigit ?su_Behind_NoEnd ?su_NotOctets_BadDigit ?su_NotOctets_NoEnd ?su_NotOctets_Behind ?su_TooMany_BadDigit ?su_TooMany_NoEnd ?su_TooMany_Behind ?su_TooMany_NotOctets ?su_BadOctet_TooMany ?su_FewWords_TooMany ?su_FewWords_BadOctet
    (case a_same_parts => first | k_is | k_exc | rfl | decide +kernel)
    (case l_same_parts => first | k_is | k_exc | rfl | decide +kernel)
    (case c_same_parts => first | k_is | k_exc | rfl | decide +kernel)
    (case k_same_parts => first | k_is | k_exc | rfl | decide +kernel)
    (case a_is_whole => first | k_is | k_exc | rfl | decide +kernel)
    (case l_is_whole => first | k_is | k_exc | rfl | decide +kernel)
    (case c_is_whole => first | k_is | k_exc | rfl | decide +kernel)
    (case k_is_whole => first | k_is | k_exc | rfl | decide +kernel)
    (case a_is_index => first | k_is | k_exc | rfl | decide +kernel)
    (case l_is_index => first | k_is | k_exc | rfl | decide +kernel)
    (case c_is_index => first | k_is | k_exc | rfl | decide +kernel)
    (case k_is_index => first | k_is | k_exc | rfl | decide +kernel)
    (case a_copied => first | k_is | k_exc | rfl | decide +kernel)
    (case l_copied => first | k_is | k_exc | rfl | decide +kernel)
    (case c_copied => first | k_is | k_exc | rfl | decide +kernel)
    (case k_copied => first | k_is | k_exc | rfl | decide +kernel)
    (case a_check_state => first | k_is | k_exc | rfl | decide +kernel)
    (case l_check_state => first | k_is | k_exc | rfl | decide +kernel)
    (case c_check_state => first | k_is | k_exc | rfl | decide +kernel)
    (case k_check_state => first | k_is | k_exc | rfl | decide +kernel)
    (case a_is_book => first | k_is | k_exc | rfl | decide +kernel)
    (case l_is_book => first | k_is | k_exc | rfl | decide +kernel)
    (case c_is_book => first | k_is | k_exc | rfl | decide +kernel)
    (case k_is_book => first | k_is | k_exc | rfl | decide +kernel)
    (case a_words_of => first | k_is | k_exc | rfl | decide +kernel)
    (case l_words_of => first | k_is | k_exc | rfl | decide +kernel)
    (case c_words_of => first | k_is | k_exc | rfl | decide +kernel)
    (case k_words_of => first | k_is | k_exc | rfl | decide +kernel)
    (case a_book_words => first | k_is | k_exc | rfl | decide +kernel)
    (case l_book_words => first | k_is | k_exc | rfl | decide +kernel)
    (case c_book_words => first | k_is | k_exc | rfl | decide +kernel)
    (case k_book_words => first | k_is | k_exc | rfl | decide +kernel)
    (case a_is_below => first | k_is | k_exc | rfl | decide +kernel)
    (case l_is_below => first | k_is | k_exc | rfl | decide +kernel)
    (case c_is_below => first | k_is | k_exc | rfl | decide +kernel)
    (case k_is_below => first | k_is | k_exc | rfl | decide +kernel)
    (case a_check_book => first | k_is | k_exc | rfl | decide +kernel)
    (case l_check_book => first | k_is | k_exc | rfl | decide +kernel)
    (case c_check_book => first | k_is | k_exc | rfl | decide +kernel)
    (case k_check_book => first | k_is | k_exc | rfl | decide +kernel)
    (case a_check_base => first | k_is | k_exc | rfl | decide +kernel)
    (case l_check_base => first | k_is | k_exc | rfl | decide +kernel)
    (case c_check_base => first | k_is | k_exc | rfl | decide +kernel)
    (case k_check_base => first | k_is | k_exc | rfl | decide +kernel)
    (case a_check_octets => first | k_is | k_exc | rfl | decide +kernel)
    (case l_check_octets => first | k_is | k_exc | rfl | decide +kernel)
    (case c_check_octets => first | k_is | k_exc | rfl | decide +kernel)
    (case k_check_octets => first | k_is | k_exc | rfl | decide +kernel)
    (case a_end_of => first | k_is | k_exc | rfl | decide +kernel)
    (case l_end_of => first | k_is | k_exc | rfl | decide +kernel)
    (case c_end_of => first | k_is | k_exc | rfl | decide +kernel)
    (case k_end_of => first | k_is | k_exc | rfl | decide +kernel)
    (case a_digits_of => first | k_is | k_exc | rfl | decide +kernel)
    (case l_digits_of => first | k_is | k_exc | rfl | decide +kernel)
    (case c_digits_of => first | k_is | k_exc | rfl | decide +kernel)
    (case k_digits_of => first | k_is | k_exc | rfl | decide +kernel)
    (case a_octets_of => first | k_is | k_exc | rfl | decide +kernel)
    (case l_octets_of => first | k_is | k_exc | rfl | decide +kernel)
    (case c_octets_of => first | k_is | k_exc | rfl | decide +kernel)
    (case k_octets_of => first | k_is | k_exc | rfl | decide +kernel)
    (case a_say_octets => first | k_is | k_exc | rfl | decide +kernel)
    (case l_say_octets => first | k_is | k_exc | rfl | decide +kernel)
    (case c_say_octets => first | k_is | k_exc | rfl | decide +kernel)
    (case k_say_octets => first | k_is | k_exc | rfl | decide +kernel)
    (case a_walk => first | k_is | k_exc | rfl | decide +kernel)
    (case l_walk => first | k_is | k_exc | rfl | decide +kernel)
    (case c_walk => first | k_is | k_exc | rfl | decide +kernel)
    (case k_walk => first | k_is | k_exc | rfl | decide +kernel)
    (case a_copy_of => first | k_is | k_exc | rfl | decide +kernel)
    (case l_copy_of => first | k_is | k_exc | rfl | decide +kernel)
    (case c_copy_of => first | k_is | k_exc | rfl | decide +kernel)
    (case k_copy_of => first | k_is | k_exc | rfl | decide +kernel)
    (case a_is_from_to => first | k_is | k_exc | rfl | decide +kernel)
    (case l_is_from_to => first | k_is | k_exc | rfl | decide +kernel)
    (case c_is_from_to => first | k_is | k_exc | rfl | decide +kernel)
    (case k_is_from_to => first | k_is | k_exc | rfl | decide +kernel)
    (case a_tails => first | k_is | k_exc | rfl | decide +kernel)
    (case l_tails => first | k_is | k_exc | rfl | decide +kernel)
    (case c_tails => first | k_is | k_exc | rfl | decide +kernel)
    (case k_tails => first | k_is | k_exc | rfl | decide +kernel)
    (case a_saying_at => first | k_is | k_exc | rfl | decide +kernel)
    (case l_saying_at => first | k_is | k_exc | rfl | decide +kernel)
    (case c_saying_at => first | k_is | k_exc | rfl | decide +kernel)
    (case k_saying_at => first | k_is | k_exc | rfl | decide +kernel)
    (case a_saying_rank => first | k_is | k_exc | rfl | decide +kernel)
    (case l_saying_rank => first | k_is | k_exc | rfl | decide +kernel)
    (case c_saying_rank => first | k_is | k_exc | rfl | decide +kernel)
    (case k_saying_rank => first | k_is | k_exc | rfl | decide +kernel)
    (case a_book_made => first | k_is | k_exc | rfl | decide +kernel)
    (case l_book_made => first | k_is | k_exc | rfl | decide +kernel)
    (case c_book_made => first | k_is | k_exc | rfl | decide +kernel)
    (case k_book_made => first | k_is | k_exc | rfl | decide +kernel)
    (case a_part => first | k_is | k_exc | rfl | decide +kernel)
    (case l_part => first | k_is | k_exc | rfl | decide +kernel)
    (case c_part => first | k_is | k_exc | rfl | decide +kernel)
    (case k_part => first | k_is | k_exc | rfl | decide +kernel)
    (case a__law_mixed => first | k_is | k_exc | rfl | decide +kernel)
    (case l__law_mixed => first | k_is | k_exc | rfl | decide +kernel)
    (case c__law_mixed => first | k_is | k_exc | rfl | decide +kernel)
    (case k__law_mixed => first | k_is | k_exc | rfl | decide +kernel)
    (case a__law_store => first | k_is | k_exc | rfl | decide +kernel)
    (case l__law_store => first | k_is | k_exc | rfl | decide +kernel)
    (case c__law_store => first | k_is | k_exc | rfl | decide +kernel)
    (case k__law_store => first | k_is | k_exc | rfl | decide +kernel)
    (case a__law_take => first | k_is | k_exc | rfl | decide +kernel)
    (case l__law_take => first | k_is | k_exc | rfl | decide +kernel)
    (case c__law_take => first | k_is | k_exc | rfl | decide +kernel)
    (case k__law_take => first | k_is | k_exc | rfl | decide +kernel)
    (case a__law_number => first | k_is | k_exc | rfl | decide +kernel)
    (case l__law_number => first | k_is | k_exc | rfl | decide +kernel)
    (case c__law_number => first | k_is | k_exc | rfl | decide +kernel)
    (case k__law_number => first | k_is | k_exc | rfl | decide +kernel)
    (case a__law_size => first | k_is | k_exc | rfl | decide +kernel)
    (case l__law_size => first | k_is | k_exc | rfl | decide +kernel)
    (case c__law_size => first | k_is | k_exc | rfl | decide +kernel)
    (case k__law_size => first | k_is | k_exc | rfl | decide +kernel)
    (case a__law_unlike => first | k_is | k_exc | rfl | decide +kernel)
    (case l__law_unlike => first | k_is | k_exc | rfl | decide +kernel)
    (case c__law_unlike => first | k_is | k_exc | rfl | decide +kernel)
    (case k__law_unlike => first | k_is | k_exc | rfl | decide +kernel)
    (case a__law_power => first | k_is | k_exc | rfl | decide +kernel)
    (case l__law_power => first | k_is | k_exc | rfl | decide +kernel)
    (case c__law_power => first | k_is | k_exc | rfl | decide +kernel)
    (case k__law_power => first | k_is | k_exc | rfl | decide +kernel)
    (case a__law_kind => first | k_is | k_exc | rfl | decide +kernel)
    (case l__law_kind => first | k_is | k_exc | rfl | decide +kernel)
    (case c__law_kind => first | k_is | k_exc | rfl | decide +kernel)
    (case k__law_kind => first | k_is | k_exc | rfl | decide +kernel)
    (case a__law_same => first | k_is | k_exc | rfl | decide +kernel)
    (case l__law_same => first | k_is | k_exc | rfl | decide +kernel)
    (case c__law_same => first | k_is | k_exc | rfl | decide +kernel)
    (case k__law_same => first | k_is | k_exc | rfl | decide +kernel)
    (case a__law_is_whole => first | k_is | k_exc | rfl | decide +kernel)
    (case l__law_is_whole => first | k_is | k_exc | rfl | decide +kernel)
    (case c__law_is_whole => first | k_is | k_exc | rfl | decide +kernel)
    (case k__law_is_whole => first | k_is | k_exc | rfl | decide +kernel)
    (case a__law_mask_word => first | k_is | k_exc | rfl | decide +kernel)
    (case l__law_mask_word => first | k_is | k_exc | rfl | decide +kernel)
    (case c__law_mask_word => first | k_is | k_exc | rfl | decide +kernel)
    (case k__law_mask_word => first | k_is | k_exc | rfl | decide +kernel)
    (case a__law_bent_list => first | k_is | k_exc | rfl | decide +kernel)
    (case l__law_bent_list => first | k_is | k_exc | rfl | decide +kernel)
    (case c__law_bent_list => first | k_is | k_exc | rfl | decide +kernel)
    (case k__law_bent_list => first | k_is | k_exc | rfl | decide +kernel)
    (case a__law_book => first | k_is | k_exc | rfl | decide +kernel)
    (case l__law_book => first | k_is | k_exc | rfl | decide +kernel)
    (case c__law_book => first | k_is | k_exc | rfl | decide +kernel)
    (case k__law_book => first | k_is | k_exc | rfl | decide +kernel)
    (case a__law_octets => first | k_is | k_exc | rfl | decide +kernel)
    (case l__law_octets => first | k_is | k_exc | rfl | decide +kernel)
    (case c__law_octets => first | k_is | k_exc | rfl | decide +kernel)
    (case k__law_octets => first | k_is | k_exc | rfl | decide +kernel)
    (case a__law_digits => first | k_is | k_exc | rfl | decide +kernel)
    (case l__law_digits => first | k_is | k_exc | rfl | decide +kernel)
    (case c__law_digits => first | k_is | k_exc | rfl | decide +kernel)
    (case k__law_digits => first | k_is | k_exc | rfl | decide +kernel)
    (case a__law_value => first | k_is | k_exc | rfl | decide +kernel)
    (case l__law_value => first | k_is | k_exc | rfl | decide +kernel)
    (case c__law_value => first | k_is | k_exc | rfl | decide +kernel)
    (case k__law_value => first | k_is | k_exc | rfl | decide +kernel)
    (case a__law_read => first | k_is | k_exc | rfl | decide +kernel)
    (case l__law_read => first | k_is | k_exc | rfl | decide +kernel)
    (case c__law_read => first | k_is | k_exc | rfl | decide +kernel)
    (case k__law_read => first | k_is | k_exc | rfl | decide +kernel)
    (case a__law_asked_octets => first | k_is | k_exc | rfl | decide +kernel)
    (case l__law_asked_octets => first | k_is | k_exc | rfl | decide +kernel)
    (case c__law_asked_octets => first | k_is | k_exc | rfl | decide +kernel)
    (case k__law_asked_octets => first | k_is | k_exc | rfl | decide +kernel)
    (case a__law_asked_digits => first | k_is | k_exc | rfl | decide +kernel)
    (case l__law_asked_digits => first | k_is | k_exc | rfl | decide +kernel)
    (case c__law_asked_digits => first | k_is | k_exc | rfl | decide +kernel)
    (case k__law_asked_digits => first | k_is | k_exc | rfl | decide +kernel)
    (case a__law_is_spelled => first | k_is | k_exc | rfl | decide +kernel)
    (case l__law_is_spelled => first | k_is | k_exc | rfl | decide +kernel)
    (case c__law_is_spelled => first | k_is | k_exc | rfl | decide +kernel)
    (case k__law_is_spelled => first | k_is | k_exc | rfl | decide +kernel)
    (case a__law_is_ranked => first | k_is | k_exc | rfl | decide +kernel)
    (case l__law_is_ranked => first | k_is | k_exc | rfl | decide +kernel)
    (case c__law_is_ranked => first | k_is | k_exc | rfl | decide +kernel)
    (case k__law_is_ranked => first | k_is | k_exc | rfl | decide +kernel)
    (case a__law_bent_is_read => first | k_is | k_exc | rfl | decide +kernel)
    (case l__law_bent_is_read => first | k_is | k_exc | rfl | decide +kernel)
    (case c__law_bent_is_read => first | k_is | k_exc | rfl | decide +kernel)
    (case k__law_bent_is_read => first | k_is | k_exc | rfl | decide +kernel)
    (case a__law_bounds_hold => first | k_is | k_exc | rfl | decide +kernel)
    (case l__law_bounds_hold => first | k_is | k_exc | rfl | decide +kernel)
    (case c__law_bounds_hold => first | k_is | k_exc | rfl | decide +kernel)
    (case k__law_bounds_hold => first | k_is | k_exc | rfl | decide +kernel)
    (case a_law => first | k_is | k_exc | rfl | decide +kernel)
    (case l_law => first | k_is | k_exc | rfl | decide +kernel)
    (case c_law => first | k_is | k_exc | rfl | decide +kernel)
    (case k_law => first | k_is | k_exc | rfl | decide +kernel)
    (case z_abs => first | k_is | k_exc | rfl | decide +kernel)
    (case z_bool => first | k_is | k_exc | rfl | decide +kernel)
    (case z_enumerate => first | k_is | k_exc | rfl | decide +kernel)
    (case z_int => first | k_is | k_exc | rfl | decide +kernel)
    (case z_isinstance => first | k_is | k_exc | rfl | decide +kernel)
    (case z_len => first | k_is | k_exc | rfl | decide +kernel)
    (case z_list => first | k_is | k_exc | rfl | decide +kernel)
    (case z_min => first | k_is | k_exc | rfl | decide +kernel)
    (case z_range => first | k_is | k_exc | rfl | decide +kernel)
    (case z_reversed => first | k_is | k_exc | rfl | decide +kernel)
    (case z_str => first | k_is | k_exc | rfl | decide +kernel)
    (case z_sum => first | k_is | k_exc | rfl | decide +kernel)
    (case z_tuple => first | k_is | k_exc | rfl | decide +kernel)
    (case q_MOST_OCTETS => first | k_is | k_exc | rfl | decide +kernel)
    (case q_MOST_DIGITS => first | k_is | k_exc | rfl | decide +kernel)
    (case q_MOST_BASE => first | k_is | k_exc | rfl | decide +kernel)
    (case q_LEAST_BASE => first | k_is | k_exc | rfl | decide +kernel)
    (case q_MOST_SAID => first | k_is | k_exc | rfl | decide +kernel)
    (case q_LONGEST => first | k_is | k_exc | rfl | decide +kernel)
    (case ac_PulseError => first | k_is | k_exc | rfl | decide +kernel)
    (case ac_NoEnd => first | k_is | k_exc | rfl | decide +kernel)
    (case is_NoEnd => first | k_is | k_exc | rfl | decide +kernel)
    (case ty_NoEnd => first | k_is | k_exc | rfl | decide +kernel)
    (case ex_NoEnd => first | k_is | k_exc | rfl | decide +kernel)
    (case ga_NoEnd => first | k_is | k_exc | rfl | decide +kernel)
    (case gg_NoEnd => first | k_is | k_exc | rfl | decide +kernel)
    (case ec_NoEnd => first | k_is | k_exc | rfl | decide +kernel)
    (case kc_NoEnd => first | k_is | k_exc | rfl | decide +kernel)
    (case hd_NoEnd => first | k_is | k_exc | rfl | decide +kernel)
    (case cl_NoEnd => first | k_is | k_exc | rfl | decide +kernel)
    (case mo_NoEnd => first | k_is | k_exc | rfl | decide +kernel)
    (case sf_NoEnd => first | k_is | k_exc | rfl | decide +kernel)
    (case ac_NotOctets => first | k_is | k_exc | rfl | decide +kernel)
    (case is_NotOctets => first | k_is | k_exc | rfl | decide +kernel)
    (case ty_NotOctets => first | k_is | k_exc | rfl | decide +kernel)
    (case ex_NotOctets => first | k_is | k_exc | rfl | decide +kernel)
    (case ga_NotOctets => first | k_is | k_exc | rfl | decide +kernel)
    (case gg_NotOctets => first | k_is | k_exc | rfl | decide +kernel)
    (case ec_NotOctets => first | k_is | k_exc | rfl | decide +kernel)
    (case kc_NotOctets => first | k_is | k_exc | rfl | decide +kernel)
    (case hd_NotOctets => first | k_is | k_exc | rfl | decide +kernel)
    (case cl_NotOctets => first | k_is | k_exc | rfl | decide +kernel)
    (case mo_NotOctets => first | k_is | k_exc | rfl | decide +kernel)
    (case sf_NotOctets => first | k_is | k_exc | rfl | decide +kernel)
    (case ac_BadSize => first | k_is | k_exc | rfl | decide +kernel)
    (case is_BadSize => first | k_is | k_exc | rfl | decide +kernel)
    (case ty_BadSize => first | k_is | k_exc | rfl | decide +kernel)
    (case ex_BadSize => first | k_is | k_exc | rfl | decide +kernel)
    (case ga_BadSize => first | k_is | k_exc | rfl | decide +kernel)
    (case gg_BadSize => first | k_is | k_exc | rfl | decide +kernel)
    (case x_BadSize => first | k_is | k_exc | rfl | decide +kernel)
    (case rv_BadSize => first | k_is | k_exc | rfl | decide +kernel)
    (case sa_BadSize => first | k_is | k_exc | rfl | decide +kernel)
    (case kc_BadSize => first | k_is | k_exc | rfl | decide +kernel)
    (case ii_BadSize => first | k_is | k_exc | rfl | decide +kernel)
    (case it_BadSize => first | k_is | k_exc | rfl | decide +kernel)
    (case li_BadSize => first | k_is | k_exc | rfl | decide +kernel)
    (case ci_BadSize => first | k_is | k_exc | rfl | decide +kernel)
    (case ki_BadSize => first | k_is | k_exc | rfl | decide +kernel)
    (case nf_BadSize_size => first | k_is | k_exc | rfl | decide +kernel)
    (case ac_NoWord => first | k_is | k_exc | rfl | decide +kernel)
    (case is_NoWord => first | k_is | k_exc | rfl | decide +kernel)
    (case ty_NoWord => first | k_is | k_exc | rfl | decide +kernel)
    (case ex_NoWord => first | k_is | k_exc | rfl | decide +kernel)
    (case ga_NoWord => first | k_is | k_exc | rfl | decide +kernel)
    (case gg_NoWord => first | k_is | k_exc | rfl | decide +kernel)
    (case x_NoWord => first | k_is | k_exc | rfl | decide +kernel)
    (case rv_NoWord => first | k_is | k_exc | rfl | decide +kernel)
    (case sa_NoWord => first | k_is | k_exc | rfl | decide +kernel)
    (case kc_NoWord => first | k_is | k_exc | rfl | decide +kernel)
    (case ii_NoWord => first | k_is | k_exc | rfl | decide +kernel)
    (case it_NoWord => first | k_is | k_exc | rfl | decide +kernel)
    (case li_NoWord => first | k_is | k_exc | rfl | decide +kernel)
    (case ci_NoWord => first | k_is | k_exc | rfl | decide +kernel)
    (case ki_NoWord => first | k_is | k_exc | rfl | decide +kernel)
    (case nf_NoWord_at => first | k_is | k_exc | rfl | decide +kernel)
    (case ac_NotBook => first | k_is | k_exc | rfl | decide +kernel)
    (case is_NotBook => first | k_is | k_exc | rfl | decide +kernel)
    (case ty_NotBook => first | k_is | k_exc | rfl | decide +kernel)
    (case ex_NotBook => first | k_is | k_exc | rfl | decide +kernel)
    (case ga_NotBook => first | k_is | k_exc | rfl | decide +kernel)
    (case gg_NotBook => first | k_is | k_exc | rfl | decide +kernel)
    (case x_NotBook => first | k_is | k_exc | rfl | decide +kernel)
    (case rv_NotBook => first | k_is | k_exc | rfl | decide +kernel)
    (case sa_NotBook => first | k_is | k_exc | rfl | decide +kernel)
    (case kc_NotBook => first | k_is | k_exc | rfl | decide +kernel)
    (case ii_NotBook => first | k_is | k_exc | rfl | decide +kernel)
    (case it_NotBook => first | k_is | k_exc | rfl | decide +kernel)
    (case li_NotBook => first | k_is | k_exc | rfl | decide +kernel)
    (case ci_NotBook => first | k_is | k_exc | rfl | decide +kernel)
    (case ki_NotBook => first | k_is | k_exc | rfl | decide +kernel)
    (case nf_NotBook_states => first | k_is | k_exc | rfl | decide +kernel)
    (case ac_BadState => first | k_is | k_exc | rfl | decide +kernel)
    (case is_BadState => first | k_is | k_exc | rfl | decide +kernel)
    (case ty_BadState => first | k_is | k_exc | rfl | decide +kernel)
    (case ex_BadState => first | k_is | k_exc | rfl | decide +kernel)
    (case ga_BadState => first | k_is | k_exc | rfl | decide +kernel)
    (case gg_BadState => first | k_is | k_exc | rfl | decide +kernel)
    (case x_BadState => first | k_is | k_exc | rfl | decide +kernel)
    (case rv_BadState => first | k_is | k_exc | rfl | decide +kernel)
    (case sa_BadState => first | k_is | k_exc | rfl | decide +kernel)
    (case kc_BadState => first | k_is | k_exc | rfl | decide +kernel)
    (case ii_BadState => first | k_is | k_exc | rfl | decide +kernel)
    (case it_BadState => first | k_is | k_exc | rfl | decide +kernel)
    (case li_BadState => first | k_is | k_exc | rfl | decide +kernel)
    (case ci_BadState => first | k_is | k_exc | rfl | decide +kernel)
    (case ki_BadState => first | k_is | k_exc | rfl | decide +kernel)
    (case nf_BadState_value => first | k_is | k_exc | rfl | decide +kernel)
    (case ac_BadNumber => first | k_is | k_exc | rfl | decide +kernel)
    (case is_BadNumber => first | k_is | k_exc | rfl | decide +kernel)
    (case ty_BadNumber => first | k_is | k_exc | rfl | decide +kernel)
    (case ex_BadNumber => first | k_is | k_exc | rfl | decide +kernel)
    (case ga_BadNumber => first | k_is | k_exc | rfl | decide +kernel)
    (case gg_BadNumber => first | k_is | k_exc | rfl | decide +kernel)
    (case x_BadNumber => first | k_is | k_exc | rfl | decide +kernel)
    (case rv_BadNumber => first | k_is | k_exc | rfl | decide +kernel)
    (case sa_BadNumber => first | k_is | k_exc | rfl | decide +kernel)
    (case kc_BadNumber => first | k_is | k_exc | rfl | decide +kernel)
    (case ii_BadNumber => first | k_is | k_exc | rfl | decide +kernel)
    (case it_BadNumber => first | k_is | k_exc | rfl | decide +kernel)
    (case li_BadNumber => first | k_is | k_exc | rfl | decide +kernel)
    (case ci_BadNumber => first | k_is | k_exc | rfl | decide +kernel)
    (case ki_BadNumber => first | k_is | k_exc | rfl | decide +kernel)
    (case nf_BadNumber_place => first | k_is | k_exc | rfl | decide +kernel)
    (case ac_NoNumber => first | k_is | k_exc | rfl | decide +kernel)
    (case is_NoNumber => first | k_is | k_exc | rfl | decide +kernel)
    (case ty_NoNumber => first | k_is | k_exc | rfl | decide +kernel)
    (case ex_NoNumber => first | k_is | k_exc | rfl | decide +kernel)
    (case ga_NoNumber => first | k_is | k_exc | rfl | decide +kernel)
    (case gg_NoNumber => first | k_is | k_exc | rfl | decide +kernel)
    (case x_NoNumber => first | k_is | k_exc | rfl | decide +kernel)
    (case rv_NoNumber => first | k_is | k_exc | rfl | decide +kernel)
    (case sa_NoNumber => first | k_is | k_exc | rfl | decide +kernel)
    (case kc_NoNumber => first | k_is | k_exc | rfl | decide +kernel)
    (case ii_NoNumber => first | k_is | k_exc | rfl | decide +kernel)
    (case it_NoNumber => first | k_is | k_exc | rfl | decide +kernel)
    (case li_NoNumber => first | k_is | k_exc | rfl | decide +kernel)
    (case ci_NoNumber => first | k_is | k_exc | rfl | decide +kernel)
    (case ki_NoNumber => first | k_is | k_exc | rfl | decide +kernel)
    (case nf_NoNumber_number => first | k_is | k_exc | rfl | decide +kernel)
    (case ac_FewWords => first | k_is | k_exc | rfl | decide +kernel)
    (case is_FewWords => first | k_is | k_exc | rfl | decide +kernel)
    (case ty_FewWords => first | k_is | k_exc | rfl | decide +kernel)
    (case ex_FewWords => first | k_is | k_exc | rfl | decide +kernel)
    (case ga_FewWords => first | k_is | k_exc | rfl | decide +kernel)
    (case gg_FewWords => first | k_is | k_exc | rfl | decide +kernel)
    (case x_FewWords => first | k_is | k_exc | rfl | decide +kernel)
    (case rv_FewWords => first | k_is | k_exc | rfl | decide +kernel)
    (case sa_FewWords => first | k_is | k_exc | rfl | decide +kernel)
    (case kc_FewWords => first | k_is | k_exc | rfl | decide +kernel)
    (case ii_FewWords => first | k_is | k_exc | rfl | decide +kernel)
    (case it_FewWords => first | k_is | k_exc | rfl | decide +kernel)
    (case li_FewWords => first | k_is | k_exc | rfl | decide +kernel)
    (case ci_FewWords => first | k_is | k_exc | rfl | decide +kernel)
    (case ki_FewWords => first | k_is | k_exc | rfl | decide +kernel)
    (case nf_FewWords_found => first | k_is | k_exc | rfl | decide +kernel)
    (case hd_FewWords => first | k_is | k_exc | rfl | decide +kernel)
    (case cl_FewWords => first | k_is | k_exc | rfl | decide +kernel)
    (case mo_FewWords => first | k_is | k_exc | rfl | decide +kernel)
    (case sf_FewWords => first | k_is | k_exc | rfl | decide +kernel)
    (case ac_BadOctet => first | k_is | k_exc | rfl | decide +kernel)
    (case is_BadOctet => first | k_is | k_exc | rfl | decide +kernel)
    (case ty_BadOctet => first | k_is | k_exc | rfl | decide +kernel)
    (case ex_BadOctet => first | k_is | k_exc | rfl | decide +kernel)
    (case ga_BadOctet => first | k_is | k_exc | rfl | decide +kernel)
    (case gg_BadOctet => first | k_is | k_exc | rfl | decide +kernel)
    (case x_BadOctet => first | k_is | k_exc | rfl | decide +kernel)
    (case rv_BadOctet => first | k_is | k_exc | rfl | decide +kernel)
    (case sa_BadOctet => first | k_is | k_exc | rfl | decide +kernel)
    (case kc_BadOctet => first | k_is | k_exc | rfl | decide +kernel)
    (case ii_BadOctet => first | k_is | k_exc | rfl | decide +kernel)
    (case it_BadOctet => first | k_is | k_exc | rfl | decide +kernel)
    (case li_BadOctet => first | k_is | k_exc | rfl | decide +kernel)
    (case ci_BadOctet => first | k_is | k_exc | rfl | decide +kernel)
    (case ki_BadOctet => first | k_is | k_exc | rfl | decide +kernel)
    (case nf_BadOctet_place => first | k_is | k_exc | rfl | decide +kernel)
    (case hd_BadOctet => first | k_is | k_exc | rfl | decide +kernel)
    (case cl_BadOctet => first | k_is | k_exc | rfl | decide +kernel)
    (case mo_BadOctet => first | k_is | k_exc | rfl | decide +kernel)
    (case sf_BadOctet => first | k_is | k_exc | rfl | decide +kernel)
    (case ac_BadDigit => first | k_is | k_exc | rfl | decide +kernel)
    (case is_BadDigit => first | k_is | k_exc | rfl | decide +kernel)
    (case ty_BadDigit => first | k_is | k_exc | rfl | decide +kernel)
    (case ex_BadDigit => first | k_is | k_exc | rfl | decide +kernel)
    (case ga_BadDigit => first | k_is | k_exc | rfl | decide +kernel)
    (case gg_BadDigit => first | k_is | k_exc | rfl | decide +kernel)
    (case x_BadDigit => first | k_is | k_exc | rfl | decide +kernel)
    (case rv_BadDigit => first | k_is | k_exc | rfl | decide +kernel)
    (case sa_BadDigit => first | k_is | k_exc | rfl | decide +kernel)
    (case kc_BadDigit => first | k_is | k_exc | rfl | decide +kernel)
    (case ii_BadDigit => first | k_is | k_exc | rfl | decide +kernel)
    (case it_BadDigit => first | k_is | k_exc | rfl | decide +kernel)
    (case li_BadDigit => first | k_is | k_exc | rfl | decide +kernel)
    (case ci_BadDigit => first | k_is | k_exc | rfl | decide +kernel)
    (case ki_BadDigit => first | k_is | k_exc | rfl | decide +kernel)
    (case nf_BadDigit_place => first | k_is | k_exc | rfl | decide +kernel)
    (case hd_BadDigit => first | k_is | k_exc | rfl | decide +kernel)
    (case cl_BadDigit => first | k_is | k_exc | rfl | decide +kernel)
    (case mo_BadDigit => first | k_is | k_exc | rfl | decide +kernel)
    (case sf_BadDigit => first | k_is | k_exc | rfl | decide +kernel)
    (case ac_Behind => first | k_is | k_exc | rfl | decide +kernel)
    (case is_Behind => first | k_is | k_exc | rfl | decide +kernel)
    (case ty_Behind => first | k_is | k_exc | rfl | decide +kernel)
    (case ex_Behind => first | k_is | k_exc | rfl | decide +kernel)
    (case ga_Behind => first | k_is | k_exc | rfl | decide +kernel)
    (case gg_Behind => first | k_is | k_exc | rfl | decide +kernel)
    (case x_Behind => first | k_is | k_exc | rfl | decide +kernel)
    (case rv_Behind => first | k_is | k_exc | rfl | decide +kernel)
    (case sa_Behind => first | k_is | k_exc | rfl | decide +kernel)
    (case kc_Behind => first | k_is | k_exc | rfl | decide +kernel)
    (case ii_Behind => first | k_is | k_exc | rfl | decide +kernel)
    (case it_Behind => first | k_is | k_exc | rfl | decide +kernel)
    (case li_Behind => first | k_is | k_exc | rfl | decide +kernel)
    (case ci_Behind => first | k_is | k_exc | rfl | decide +kernel)
    (case ki_Behind => first | k_is | k_exc | rfl | decide +kernel)
    (case nf_Behind_place => first | k_is | k_exc | rfl | decide +kernel)
    (case hd_Behind => first | k_is | k_exc | rfl | decide +kernel)
    (case cl_Behind => first | k_is | k_exc | rfl | decide +kernel)
    (case mo_Behind => first | k_is | k_exc | rfl | decide +kernel)
    (case sf_Behind => first | k_is | k_exc | rfl | decide +kernel)
    (case ac_TooMany => first | k_is | k_exc | rfl | decide +kernel)
    (case is_TooMany => first | k_is | k_exc | rfl | decide +kernel)
    (case ty_TooMany => first | k_is | k_exc | rfl | decide +kernel)
    (case ex_TooMany => first | k_is | k_exc | rfl | decide +kernel)
    (case ga_TooMany => first | k_is | k_exc | rfl | decide +kernel)
    (case gg_TooMany => first | k_is | k_exc | rfl | decide +kernel)
    (case x_TooMany => first | k_is | k_exc | rfl | decide +kernel)
    (case rv_TooMany => first | k_is | k_exc | rfl | decide +kernel)
    (case sa_TooMany => first | k_is | k_exc | rfl | decide +kernel)
    (case kc_TooMany => first | k_is | k_exc | rfl | decide +kernel)
    (case ii_TooMany => first | k_is | k_exc | rfl | decide +kernel)
    (case it_TooMany => first | k_is | k_exc | rfl | decide +kernel)
    (case li_TooMany => first | k_is | k_exc | rfl | decide +kernel)
    (case ci_TooMany => first | k_is | k_exc | rfl | decide +kernel)
    (case ki_TooMany => first | k_is | k_exc | rfl | decide +kernel)
    (case nf_TooMany_what => first | k_is | k_exc | rfl | decide +kernel)
    (case nf_TooMany_most => first | k_is | k_exc | rfl | decide +kernel)
    (case hd_TooMany => first | k_is | k_exc | rfl | decide +kernel)
    (case cl_TooMany => first | k_is | k_exc | rfl | decide +kernel)
    (case mo_TooMany => first | k_is | k_exc | rfl | decide +kernel)
    (case sf_TooMany => first | k_is | k_exc | rfl | decide +kernel)
    (case ac_Double => first | k_is | k_exc | rfl | decide +kernel)
    (case is_Double => first | k_is | k_exc | rfl | decide +kernel)
    (case ty_Double => first | k_is | k_exc | rfl | decide +kernel)
    (case ex_Double => first | k_is | k_exc | rfl | decide +kernel)
    (case ga_Double => first | k_is | k_exc | rfl | decide +kernel)
    (case gg_Double => first | k_is | k_exc | rfl | decide +kernel)
    (case x_Double => first | k_is | k_exc | rfl | decide +kernel)
    (case rv_Double => first | k_is | k_exc | rfl | decide +kernel)
    (case sa_Double => first | k_is | k_exc | rfl | decide +kernel)
    (case kc_Double => first | k_is | k_exc | rfl | decide +kernel)
    (case ii_Double => first | k_is | k_exc | rfl | decide +kernel)
    (case it_Double => first | k_is | k_exc | rfl | decide +kernel)
    (case li_Double => first | k_is | k_exc | rfl | decide +kernel)
    (case ci_Double => first | k_is | k_exc | rfl | decide +kernel)
    (case ki_Double => first | k_is | k_exc | rfl | decide +kernel)
    (case nf_Double_at => first | k_is | k_exc | rfl | decide +kernel)
    (case nf_Double_number => first | k_is | k_exc | rfl | decide +kernel)
    (case sg => first | k_is | k_exc | rfl | decide +kernel)
    (case st => first | k_is | k_exc | rfl | decide +kernel)
    (case su_NoEnd_BadDigit => first | k_is | k_exc | rfl | decide +kernel)
    (case su_Behind_BadDigit => first | k_is | k_exc | rfl | decide +kernel)
    (case su_Behind_NoEnd => first | k_is | k_exc | rfl | decide +kernel)
    (case su_NotOctets_BadDigit => first | k_is | k_exc | rfl | decide +kernel)
    (case su_NotOctets_NoEnd => first | k_is | k_exc | rfl | decide +kernel)
    (case su_NotOctets_Behind => first | k_is | k_exc | rfl | decide +kernel)
    (case su_TooMany_BadDigit => first | k_is | k_exc | rfl | decide +kernel)
    (case su_TooMany_NoEnd => first | k_is | k_exc | rfl | decide +kernel)
    (case su_TooMany_Behind => first | k_is | k_exc | rfl | decide +kernel)
    (case su_TooMany_NotOctets => first | k_is | k_exc | rfl | decide +kernel)
    (case su_BadOctet_TooMany => first | k_is | k_exc | rfl | decide +kernel)
    (case su_FewWords_TooMany => first | k_is | k_exc | rfl | decide +kernel)
    (case su_FewWords_BadOctet => first | k_is | k_exc | rfl | decide +kernel)
