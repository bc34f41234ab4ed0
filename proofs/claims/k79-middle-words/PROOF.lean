import PyProof.Rows.All
import Wide.All
import OpenK.AllK
import Wide.FinOn
import HandS.ForMost
import HandS.ForExc
import HandS.Lambda
import HandS.Wide
import HandS.Flow
import HandS.IsInst
import HandS.ExcIs
import HandS.TupAny
import HandS.SortKw
import KE.SortData
import HandS.WideBits
import HandS.Style
import HandS.Deep
import HandS.TupMul
import PyProof.StrBlock2
import HandS.ExcCtx
import HandS.HotCalls
import HandS.WordsExc
import KE.DataMinMax
import HandS.Rev
import HandS.MapJoin
import HandS.SortRule
import HandS.RaiseMore
import HandS.Zip
import HandS.Iter
import KE.GoesMore
import KE.GoesZip
import KE.GoesEnum
import HandS.Comp
import HandS.More
import HandS.RevTup
import KE.DataFind
import HandS.ExcOwn
import HandS.CallLocal
import PyProof.NsDelKeeps
import HandS.StrMore
import HandS.EndTab
import PySem.Challenge.RW_shorterhouse_k79_whole_middle_words
set_option Elab.async false
set_option linter.all false
set_option maxRecDepth 100000
set_option autoImplicit false
set_option maxHeartbeats 4000000
/-! The data layer, part 0: data in the abstract heap, a frame's data, what a step may change. -/
namespace DL
open PySem PySem.Spec PyProof.Rows L2

abbrev HS := List PyData
def isTb : HO → Prop
  | .tbl _ => True
  | _ => False
def kD : Key → PyData
  | .inl i => .int i
  | .inr x => .str x

mutual
/-- v is the data d, nothing of it lies at an address of O -/
inductive Dt (O : Addr → Prop) (H : Hp) : V → PyData → Prop
  | non : Dt O H .non .none
  | bl (b : Bool) : Dt O H (.bl b) (.bool b)
  | int (i : Int) : Dt O H (.int i) (.int i)
  | str (x : Str) : x.length ≤ sizeLine → PyData.strOk x = true → Dt O H (.str x) (.str x)
  | lst {a : Addr} {xs : List V} {ds : List PyData} : H a = some (.lst xs) → ¬ O a → DtA O H xs ds → Dt O H (.ref a) (.list ds)
  | tup {a : Addr} {xs : List V} {ds : List PyData} : Rd H a (.tup xs) → ¬ O a → DtA O H xs ds → Dt O H (.ref a) (.tuple ds)
  | dic {a : Addr} {kvs : List (Key × V)} {ds : List (PyData × PyData)} : Rd H a (.dK kvs) → ¬ O a → DtK O H kvs ds → Dt O H (.ref a) (.dict ds)
inductive DtA (O : Addr → Prop) (H : Hp) : List V → List PyData → Prop
  | nil : DtA O H [] []
  | cons {v : V} {vs : List V} {d : PyData} {ds : List PyData} : Dt O H v d → DtA O H vs ds → DtA O H (v :: vs) (d :: ds)
inductive DtK (O : Addr → Prop) (H : Hp) : List (Key × V) → List (PyData × PyData) → Prop
  | nil : DtK O H [] []
  | cons {k : Key} {v : V} {vs : List (Key × V)} {d : PyData} {ds : List (PyData × PyData)} : Dt O H v d → DtK O H vs ds → DtK O H ((k, v) :: vs) ((kD k, d) :: ds)
end

/-- what stands outside O is to be read as before; O' has of the old addresses no more than O -/
structure Kp (O O' : Addr → Prop) (H H' : Hp) : Prop where
  rd : ∀ b u, ¬ O b → ¬ isTb u → Rd H b u → Rd H' b u
  ls : ∀ b xs, ¬ O b → H b = some (.lst xs) → H' b = some (.lst xs)
  no : ∀ b u, ¬ isTb u → Rd H b u → O' b → O b
mutual
theorem Dt.kp {O O' : Addr → Prop} {H H' : Hp} (k : Kp O O' H H') : ∀ {d : PyData} {v : V}, Dt O H v d → Dt O' H' v d
  | .none, _, h => by cases h; exact .non
  | .bool _, _, h => by cases h; exact .bl _
  | .int _, _, h => by cases h; exact .int _
  | .str _, _, h => by cases h with | str _ z z' => exact .str _ z z'
  | .list ds, _, h => by
    cases h with
    | lst r n a => exact .lst (k.ls _ _ n r) (fun z => n (k.no _ _ id (.inl r) z)) (DtA.kp k a)
  | .tuple ds, _, h => by
    cases h with
    | tup r n a => exact .tup (k.rd _ _ n (fun z => z) r) (fun z => n (k.no _ _ id r z)) (DtA.kp k a)
  | .dict ds, _, h => by
    cases h with
    | dic r n a => exact .dic (k.rd _ _ n (fun z => z) r) (fun z => n (k.no _ _ id r z)) (DtK.kp k a)
theorem DtA.kp {O O' : Addr → Prop} {H H' : Hp} (k : Kp O O' H H') : ∀ {ds : List PyData} {vs : List V}, DtA O H vs ds → DtA O' H' vs ds
  | [], _, h => by cases h; exact .nil
  | d :: ds, _, h => by cases h with | cons a b => exact .cons (Dt.kp k a) (DtA.kp k b)
theorem DtK.kp {O O' : Addr → Prop} {H H' : Hp} (k : Kp O O' H H') : ∀ {ds : List (PyData × PyData)} {vs : List (Key × V)}, DtK O H vs ds → DtK O' H' vs ds
  | [], _, h => by cases h; exact .nil
  | (_, d) :: ds, _, h => by cases h with | cons a b => exact .cons (Dt.kp k a) (DtK.kp k b)
end

/-- what a call may change: the ambient list am and tables; without one: nothing -/
def Eff (am : Option Addr) (H H' : Hp) : Prop := ∀ b o, H b = some o → (∀ a, am = some a → b ≠ a ∧ ¬ isTb o) → H' b = some o
theorem Eff.refl {am : Option Addr} {H : Hp} : Eff am H H := fun _ _ h _ => h
theorem Eff.trans {am : Option Addr} {H H1 H2 : Hp} (a : Eff am H H1) (b : Eff am H1 H2) : Eff am H H2 := fun c o h n => b c o (a c o h n) n
theorem Eff.same {am : Option Addr} {H H' : Hp} (s : Same H H') : Eff am H H' := fun b o h _ => s b o h
theorem Eff.of_none {H H' : Hp} (e : Eff none H H') : Same H H' := fun b o h => e b o h fun _ z => nomatch z
theorem Eff.rd {am : Option Addr} {H H' : Hp} (e : Eff am H H') {b : Addr} {u : HO} (hb : ∀ a, am = some a → b ≠ a) (hu : ¬ isTb u) (r : Rd H b u) : Rd H' b u := by
  rcases r with r | ⟨o, r⟩
  · exact .inl (e b _ r fun a ha => ⟨hb a ha, hu⟩)
  · exact .inr ⟨o, e b _ r fun a ha => ⟨hb a ha, fun z => z⟩⟩
theorem rd_some {H : Hp} {b : Addr} {u : HO} (r : Rd H b u) : ∃ o, H b = some o := by
  rcases r with r | ⟨o, r⟩
  · exact ⟨_, r⟩
  · exact ⟨_, r⟩
/-- the addresses of O stand in H -/
def Dom (O : Addr → Prop) (H : Hp) : Prop := ∀ a, O a → ∃ o, H a = some o ∧ ¬ isTb o
theorem rd_some' {H : Hp} {b : Addr} {u : HO} (t : ¬ isTb u) (r : Rd H b u) : ∃ o, H b = some o ∧ ¬ isTb o := by
  rcases r with r | ⟨o, r⟩
  · exact ⟨_, r, t⟩
  · exact ⟨_, r, fun z => z⟩
theorem Kp.eff {am : Option Addr} {O O' : Addr → Prop} {H H' : Hp} (e : Eff am H H') (ha : ∀ a, am = some a → O a) (ho : ∀ b o, H b = some o → ¬ isTb o → O' b → O b) : Kp O O' H H' :=
  ⟨fun b u n t r => e.rd (fun a h z => n (z ▸ ha a h)) t r, fun b xs n r => e b _ r fun c hc => ⟨fun z => n (z ▸ ha c hc), id⟩, fun b u t r z => let ⟨o, e, t'⟩ := rd_some' t r; ho b o e t' z⟩
theorem Kp.eff0 {am : Option Addr} {O : Addr → Prop} {H H' : Hp} (e : Eff am H H') (ha : ∀ a, am = some a → O a) : Kp O O H H' := Kp.eff e ha fun _ _ _ _ z => z

/-- the content of a thing that is one's own -/
inductive Oo (O : Addr → Prop) (H : Hp) (a : Addr) : PyData → Prop
  | lst {xs : List V} {ds : List PyData} : H a = some (.lst xs) → DtA O H xs ds → Oo O H a (.list ds)
  | dic {kvs : List (Key × V)} {ds : List (PyData × PyData)} : H a = some (.dK kvs) → DtK O H kvs ds → Oo O H a (.dict ds)
theorem Oo.kp {O O' : Addr → Prop} {H H' : Hp} {a : Addr} {d : PyData} (k : Kp O O' H H') (e : ∀ o, H a = some o → ¬ isTb o → H' a = some o) (h : Oo O H a d) : Oo O' H' a d := by
  cases h with
  | lst h1 h2 => exact .lst (e _ h1 (fun z => z)) (h2.kp k)
  | dic h1 h2 => exact .dic (e _ h1 (fun z => z)) (h2.kp k)
theorem Oo.some {O : Addr → Prop} {H : Hp} {a : Addr} {d : PyData} (h : Oo O H a d) : ∃ o, H a = some o ∧ ¬ isTb o := by
  cases h with
  | lst h1 h2 => exact ⟨_, h1, fun z => z⟩
  | dic h1 h2 => exact ⟨_, h1, fun z => z⟩
/-- clean, or one's own with clean items -/
def Lt (am : Option Addr) (O : Addr → Prop) (H : Hp) (v : V) (d : PyData) : Prop := Dt O H v d ∨ ∃ a, v = .ref a ∧ (∀ c, am = some c → a ≠ c) ∧ Oo O H a d
theorem Lt.kp {am : Option Addr} {O : Addr → Prop} {H H' : Hp} {v : V} {d : PyData} (e : Eff am H H') (ha : ∀ a, am = some a → O a) (h : Lt am O H v d) : Lt am O H' v d := by
  rcases h with h | ⟨a, e1, e2, h⟩
  · exact .inl (h.kp (Kp.eff0 e ha))
  · exact .inr ⟨a, e1, e2, h.kp (Kp.eff0 e ha) fun o q t => e a o q fun c hc => ⟨e2 c hc, t⟩⟩
/-- a is new behind H -/
def Fsh (am : Option Addr) (H : Hp) (a : Addr) : Prop := (am = none → H a = none) ∧ ∀ c, am = some c → a ≠ c ∧ ∀ o, H a = some o → isTb o
theorem Fsh.back {am : Option Addr} {H H1 : Hp} {a : Addr} (e : Eff am H H1) (f : Fsh am H1 a) : Fsh am H a := by
  refine ⟨fun h => ?_, fun c hc => ⟨(f.2 c hc).1, fun o ho => ?_⟩⟩
  · subst h
    cases q : H a with
    | none => rfl
    | some o =>
      have z := f.1 rfl
      rw [e.of_none a o q] at z; cases z
  · by_cases t : isTb o
    · exact t
    · exact (f.2 c hc).2 o (e a o ho fun c' hc' => ⟨(f.2 c' hc').1, t⟩)
theorem Fsh.nt {am : Option Addr} {H : Hp} {a : Addr} {o : HO} (f : Fsh am H a) (ho : H a = some o) : isTb o := by
  cases am with
  | none => rw [f.1 rfl] at ho; cases ho
  | some c => exact (f.2 c rfl).2 o ho

/-- the ambient list and the tables -/
def Wd (T : List (Addr × Str)) (am : Option Addr) (O : Addr → Prop) (H : Hp) (h : HS) : Prop :=
  ∀ a, am = some a → O a ∧ (∃ vs, H a = some (.lst vs) ∧ DtA O H vs h) ∧ LamX.Tabs T H
theorem Wd.none {T : List (Addr × Str)} {O : Addr → Prop} {H : Hp} {h : HS} : Wd T none O H h := fun _ z => nomatch z
theorem Wd.same {T : List (Addr × Str)} {am : Option Addr} {O O' : Addr → Prop} {H H' : Hp} {h : HS} (w : Wd T am O H h) (s : Same H H') (h1 : ∀ b o, H b = some o → ¬ isTb o → O' b → O b) (h2 : ∀ a, am = some a → O' a) : Wd T am O' H' h := fun a e => by
  obtain ⟨w1, ⟨vs, w2, w3⟩, w4⟩ := w a e
  exact ⟨h2 a e, ⟨vs, s _ _ w2, w3.kp (Kp.eff (am := am) (Eff.same s) (fun b hb => (w b hb).1) h1)⟩, w4.ext s⟩

/-! ### a frame's data -/
inductive SV where
  | no
  | d (x : PyData)
  | o (x : PyData)
  | am
  | raw (k : Nat) (v : V)
abbrev DEnv := List SV
def OwnAt (σ : L2.St) (δ : DEnv) (i : Nat) (a : Addr) : Prop := (∃ x, δ[i]? = some (.o x)) ∧ σ[i]? = some (some (.ref a))
def OO (Oc : Addr → Prop) (σ : L2.St) (δ : DEnv) (a : Addr) : Prop := Oc a ∨ ∃ i, OwnAt σ δ i a
def SlotOk (am : Option Addr) (O : Addr → Prop) (H : Hp) (s : Option (Option V)) : SV → Prop
  | .no => True
  | .d x => ∃ v, s = some (some v) ∧ Dt O H v x
  | .o x => ∃ a, s = some (some (.ref a)) ∧ Oo O H a x
  | .am => ∃ a, am = some a ∧ s = some (some (.ref a))
  | .raw _ v => s = some (some v)
/-- what a frame's state is told against: a heap, and what of it was one's own already -/
structure Bs where
  H : Hp
  N : Addr → Prop
def EffN (B : Bs) (am : Option Addr) (H' : Hp) : Prop := ∀ b o, B.H b = some o → ¬ B.N b → (∀ a, am = some a → b ≠ a ∧ ¬ isTb o) → H' b = some o
theorem EffN.trans {B : Bs} {am : Option Addr} {H H' : Hp} (a : EffN B am H) (b : Eff am H H') : EffN B am H' := fun c o h n q => b c o (a c o h n q) q
structure At (T : List (Addr × Str)) (am : Option Addr) (Oc : Addr → Prop) (H0 : Bs) (σ : L2.St) (H : Hp) (δ : DEnv) (h : HS) : Prop where
  len : σ.length = δ.length
  dom : Dom Oc H
  wd : Wd T am (OO Oc σ δ) H h
  amc : ∀ a, am = some a → Oc a
  sl : ∀ (i : Nat) (x : SV), δ[i]? = some x → SlotOk am (OO Oc σ δ) H σ[i]? x
  ownd : ∀ (i j : Nat) (a : Addr), OwnAt σ δ i a → OwnAt σ δ j a → i = j
  ownc : ∀ (i : Nat) (a : Addr), OwnAt σ δ i a → ¬ Oc a
  new : ∀ (i : Nat) (a : Addr), OwnAt σ δ i a → H0.N a ∨ ∀ o, H0.H a = some o → ¬ ∀ c, am = some c → a ≠ c ∧ ¬ isTb o
  eff : EffN H0 am H
section
variable {T : List (Addr × Str)} {am : Option Addr} {Oc : Addr → Prop} {H0 : Bs} {H H' : Hp} {σ : L2.St} {δ : DEnv} {h h' : HS}
theorem At.oo (x : At T am Oc H0 σ H δ h) {i : Nat} {a : Addr} (o : OwnAt σ δ i a) : ∃ y, δ[i]? = some (.o y) ∧ Oo (OO Oc σ δ) H a y := by
  obtain ⟨⟨y, e1⟩, e2⟩ := o
  obtain ⟨b, e3, e4⟩ := x.sl i _ e1
  rw [e2] at e3
  cases e3
  exact ⟨y, e1, e4⟩
theorem At.domO (x : At T am Oc H0 σ H δ h) : Dom (OO Oc σ δ) H := fun a ha => by
  rcases ha with ha | ⟨i, ho⟩
  · exact x.dom a ha
  · obtain ⟨y, _, z⟩ := x.oo ho
    exact z.some
theorem At.amO (x : At T am Oc H0 σ H δ h) : ∀ a, am = some a → OO Oc σ δ a := fun a e => .inl (x.amc a e)
theorem At.own_ne (x : At T am Oc H0 σ H δ h) {i : Nat} {b : Addr} (o : OwnAt σ δ i b) : ∀ a, am = some a → b ≠ a := fun a e z => x.ownc i b o (z ▸ x.amc a e)
/-- behind a step that changes the ambient list alone -/
theorem At.eff' (x : At T am Oc H0 σ H δ h) (e : Eff am H H') (w : Wd T am (OO Oc σ δ) H' h') : At T am Oc H0 σ H' δ h' where
  len := x.len
  dom := fun a ha => by
    obtain ⟨o, e1, t1⟩ := x.dom a ha
    by_cases ham : am = some a
    · obtain ⟨_, ⟨vs, e2, _⟩, _⟩ := w a ham
      exact ⟨_, e2, fun z => z⟩
    · exact ⟨o, e a o e1 fun b hb => ⟨fun z => ham (z ▸ hb), t1⟩, t1⟩
  wd := w
  amc := x.amc
  sl := fun i s hs => by
    have k := Kp.eff0 (O := OO Oc σ δ) e x.amO
    have z := x.sl i s hs
    cases s with
    | no => trivial
    | d y => obtain ⟨v, e1, e2⟩ := z; exact ⟨v, e1, e2.kp k⟩
    | o y =>
      obtain ⟨a, e1, e2⟩ := z
      exact ⟨a, e1, e2.kp k fun o q t => e a o q fun b hb => ⟨x.own_ne (i := i) ⟨⟨y, hs⟩, e1⟩ b hb, t⟩⟩
    | am => exact z
    | raw _ _ => exact z
  ownd := x.ownd
  ownc := x.ownc
  new := x.new
  eff := x.eff.trans e
theorem At.same (x : At T am Oc H0 σ H δ h) (s : Same H H') : At T am Oc H0 σ H' δ h :=
  x.eff' (Eff.same s) (x.wd.same s (fun _ _ _ _ z => z) x.amO)
theorem At.kp (x : At T am Oc H0 σ H δ h) (e : Eff am H H') : Kp (OO Oc σ δ) (OO Oc σ δ) H H' := Kp.eff0 e x.amO
end

/-! ### a slot is set -/
theorem own_set {σ : L2.St} {δ : DEnv} {i : Nat} {v : Option V} {s : SV} {j : Nat} {a : Addr} (h : OwnAt (σ.set i v) (δ.set i s) j a) : (j = i ∧ (∃ x, s = .o x) ∧ v = some (.ref a)) ∨ (j ≠ i ∧ OwnAt σ δ j a) := by
  obtain ⟨⟨x, h1⟩, h2⟩ := h
  by_cases e : j = i
  · subst e
    refine .inl ⟨rfl, ?_, ?_⟩
    · obtain ⟨hl, e1⟩ := List.getElem?_eq_some_iff.mp h1
      rw [List.getElem_set_self] at e1
      exact ⟨x, e1⟩
    · obtain ⟨hl, e1⟩ := List.getElem?_eq_some_iff.mp h2
      rw [List.getElem_set_self] at e1
      exact e1
  · rw [List.getElem?_set_ne (Ne.symm e)] at h1 h2
    exact .inr ⟨e, ⟨x, h1⟩, h2⟩
section
variable {T : List (Addr × Str)} {am : Option Addr} {Oc : Addr → Prop} {H0 : Bs} {H H' : Hp} {σ : L2.St} {δ : DEnv} {h h' : HS}
/-- slot i holds data, or nothing that is known -/
theorem At.put (x : At T am Oc H0 σ H δ h) {i : Nat} {v : Option V} {s : SV} (hs : ∀ y, s ≠ .o y) (hv : SlotOk am (OO Oc σ δ) H (some v) s) : At T am Oc H0 (σ.set i v) H (δ.set i s) h := by
  have ho : ∀ j a, OwnAt (σ.set i v) (δ.set i s) j a → OwnAt σ δ j a := fun j a z => by
    rcases own_set z with ⟨_, ⟨y, e⟩, _⟩ | ⟨_, z⟩
    · exact absurd e (hs y)
    · exact z
  have hO : ∀ a, OO Oc (σ.set i v) (δ.set i s) a → OO Oc σ δ a := fun a z => z.elim .inl fun ⟨j, z⟩ => .inr ⟨j, ho j a z⟩
  have k : Kp (OO Oc σ δ) (OO Oc (σ.set i v) (δ.set i s)) H H := ⟨fun _ _ _ _ r => r, fun _ _ _ r => r, fun b _ _ _ z => hO b z⟩
  refine ⟨by rw [List.length_set, List.length_set, x.len], x.dom, x.wd.same (Same.refl H) (fun b _ _ _ z => hO b z) (fun a e => .inl (x.amc a e)), x.amc, fun j y hy => ?_, fun p q a h1 h2 => x.ownd p q a (ho _ _ h1) (ho _ _ h2), fun p a z => x.ownc p a (ho _ _ z), fun p a z => x.new p a (ho _ _ z), x.eff⟩
  by_cases e : j = i
  · subst e
    obtain ⟨hl, e1⟩ := List.getElem?_eq_some_iff.mp hy
    rw [List.getElem_set_self] at e1
    subst e1
    rw [List.length_set] at hl
    rw [List.getElem?_set_self (by rw [x.len]; exact hl)]
    cases s with
    | no => trivial
    | d y => obtain ⟨w, e1, e2⟩ := hv; exact ⟨w, e1, e2.kp k⟩
    | o y => exact absurd rfl (hs y)
    | am => exact hv
    | raw _ _ => exact hv
  · rw [List.getElem?_set_ne (Ne.symm e)] at hy ⊢
    have z := x.sl j y hy
    cases y with
    | no => trivial
    | d y => obtain ⟨w, e1, e2⟩ := z; exact ⟨w, e1, e2.kp k⟩
    | o y => obtain ⟨a, e1, e2⟩ := z; exact ⟨a, e1, e2.kp k fun _ q _ => q⟩
    | am => exact z
    | raw _ _ => exact z
/-- slot i holds a new thing of its own -/
theorem At.own (x : At T am Oc H0 σ H δ h) {i : Nat} {a : Addr} {d : PyData} (e : Eff am H H') (ha : Fsh am H a) (w : Wd T am (fun b => OO Oc σ δ b ∨ b = a) H' h') (o : Oo (fun b => OO Oc σ δ b ∨ b = a) H' a d) :
    At T am Oc H0 (σ.set i (some (.ref a))) H' (δ.set i (.o d)) h' := by
  have hO : ∀ b, OO Oc (σ.set i (some (.ref a))) (δ.set i (.o d)) b → OO Oc σ δ b ∨ b = a := fun b z => by
    rcases z with z | ⟨j, z⟩
    · exact .inl (.inl z)
    · rcases own_set z with ⟨_, _, e⟩ | ⟨_, z⟩
      · cases e; exact .inr rfl
      · exact .inl (.inr ⟨j, z⟩)
  have k1 : Kp (OO Oc σ δ) (OO Oc (σ.set i (some (.ref a))) (δ.set i (.o d))) H H' := Kp.eff e x.amO fun b o hb t z => by
    rcases hO b z with z | z
    · exact z
    · subst z; exact absurd (ha.nt hb) t
  have nOa : ∀ j b, OwnAt σ δ j b → b ≠ a := fun j b z q => by
    obtain ⟨y, _, z⟩ := x.oo z
    obtain ⟨u, z, t⟩ := z.some
    exact t (ha.nt (q ▸ z))
  have hw : Wd T am (OO Oc (σ.set i (some (.ref a))) (δ.set i (.o d))) H' h' := w.same (Same.refl H') (fun b _ _ _ z => hO b z) (fun b z => .inl (x.amc b z))
  refine ⟨by rw [List.length_set, List.length_set, x.len], fun b hb => ?_, hw, x.amc, fun j y hy => ?_, fun p q b h1 h2 => ?_, fun p b z => ?_, fun p b z => ?_, x.eff.trans e⟩
  · obtain ⟨u, e1, t1⟩ := x.dom b hb
    by_cases ham : am = some b
    · obtain ⟨_, ⟨vs, e2, _⟩, _⟩ := w b ham
      exact ⟨_, e2, fun z => z⟩
    · exact ⟨u, e b u e1 fun c hc => ⟨fun z => ham (z ▸ hc), t1⟩, t1⟩
  · by_cases ej : j = i
    · subst ej
      obtain ⟨hl, e1⟩ := List.getElem?_eq_some_iff.mp hy
      rw [List.getElem_set_self] at e1
      subst e1
      rw [List.length_set] at hl
      rw [List.getElem?_set_self (by rw [x.len]; exact hl)]
      exact ⟨a, rfl, o.kp ⟨fun _ _ _ _ r => r, fun _ _ _ r => r, fun b _ _ _ z => hO b z⟩ fun _ q _ => q⟩
    · rw [List.getElem?_set_ne (Ne.symm ej)] at hy ⊢
      have z := x.sl j y hy
      cases y with
      | no => trivial
      | d y => obtain ⟨v, e1, e2⟩ := z; exact ⟨v, e1, e2.kp k1⟩
      | o y =>
        obtain ⟨b, e1, e2⟩ := z
        exact ⟨b, e1, e2.kp k1 fun u q t => e b u q fun c hc => ⟨x.own_ne (i := j) ⟨⟨y, hy⟩, e1⟩ c hc, t⟩⟩
      | am => exact z
      | raw _ _ => exact z
  · rcases own_set h1 with ⟨p1, _, e1⟩ | ⟨p1, z1⟩
    · rcases own_set h2 with ⟨p2, _, _⟩ | ⟨_, z2⟩
      · rw [p1, p2]
      · cases e1; exact absurd rfl (nOa _ _ z2)
    · rcases own_set h2 with ⟨_, _, e2⟩ | ⟨_, z2⟩
      · cases e2; exact absurd rfl (nOa _ _ z1)
      · exact x.ownd p q b z1 z2
  · rcases own_set z with ⟨_, _, e1⟩ | ⟨_, z⟩
    · cases e1
      intro q
      obtain ⟨u, e2, t⟩ := x.dom a q
      exact t (ha.nt e2)
    · exact x.ownc p b z
  · rcases own_set z with ⟨_, _, e1⟩ | ⟨_, z⟩
    · cases e1
      by_cases hn : H0.N a
      · exact .inl hn
      refine .inr fun u q q2 => ?_
      have z := x.eff a u q hn q2
      cases am with
      | none => rw [ha.1 rfl] at z; cases z
      | some c => exact (q2 c rfl).2 (ha.nt z)
    · exact x.new p b z
/-- a thing of one's own is given out: it is data from now on -/
theorem At.freeze (x : At T am Oc H0 σ H δ h) {i : Nat} {d : PyData} (hi : δ[i]? = some (.o d)) : At T am Oc H0 σ H (δ.set i (.d d)) h := by
  obtain ⟨a, ha, oa⟩ := x.sl i _ hi
  have hσ : σ.set i (some (.ref a)) = σ := by
    obtain ⟨hl, e⟩ := List.getElem?_eq_some_iff.mp ha
    rw [← e]
    exact List.set_getElem_self hl
  have hai : OwnAt σ δ i a := ⟨⟨d, hi⟩, ha⟩
  have ho : ∀ j b, OwnAt σ (δ.set i (.d d)) j b → OwnAt σ δ j b ∧ j ≠ i := fun j b z => by
    have z' : OwnAt (σ.set i (some (.ref a))) (δ.set i (.d d)) j b := by rw [hσ]; exact z
    rcases own_set z' with ⟨_, ⟨y, e⟩, _⟩ | ⟨e, z⟩
    · cases e
    · exact ⟨z, e⟩
  have hO : ∀ b, OO Oc σ (δ.set i (.d d)) b → OO Oc σ δ b := fun b z => z.elim .inl fun ⟨j, z⟩ => .inr ⟨j, (ho j b z).1⟩
  have k : Kp (OO Oc σ δ) (OO Oc σ (δ.set i (.d d))) H H := ⟨fun _ _ _ _ r => r, fun _ _ _ r => r, fun b _ _ _ z => hO b z⟩
  have na : ¬ OO Oc σ (δ.set i (.d d)) a := fun z => by
    rcases z with z | ⟨j, z⟩
    · exact x.ownc i a hai z
    · exact (ho j a z).2 (x.ownd j i a (ho j a z).1 hai)
  refine ⟨by rw [List.length_set, x.len], x.dom, x.wd.same (Same.refl H) (fun b _ _ _ z => hO b z) (fun a e => .inl (x.amc a e)), x.amc, fun j y hy => ?_, fun p q a h1 h2 => x.ownd p q a (ho _ _ h1).1 (ho _ _ h2).1, fun p a z => x.ownc p a (ho _ _ z).1, fun p a z => x.new p a (ho _ _ z).1, x.eff⟩
  by_cases e : j = i
  · subst e
    obtain ⟨hl, e1⟩ := List.getElem?_eq_some_iff.mp hy
    rw [List.getElem_set_self] at e1
    subst e1
    refine ⟨.ref a, ha, ?_⟩
    cases oa with
    | lst h1 h2 => exact .lst h1 na (h2.kp k)
    | dic h1 h2 => exact .dic (.inl h1) na (h2.kp k)
  · rw [List.getElem?_set_ne (Ne.symm e)] at hy
    have z := x.sl j y hy
    cases y with
    | no => trivial
    | d y => obtain ⟨w, e1, e2⟩ := z; exact ⟨w, e1, e2.kp k⟩
    | o y => obtain ⟨b, e1, e2⟩ := z; exact ⟨b, e1, e2.kp k fun _ q _ => q⟩
    | am => exact z
    | raw _ _ => exact z
theorem tabs_upd {T : List (Addr × Str)} {H : Hp} {a : Addr} {o u : HO} (t : LamX.Tabs T H) (ha : H a = some o) (n1 : ¬ isTb o) (n2 : ∀ φ, o ≠ .ext φ) : LamX.Tabs T (upd H a u) := fun p hp => by
  obtain ⟨ps, h1, h2, h3⟩ := t p hp
  have ne : ∀ b v, H b = some v → v ≠ o → b ≠ a := fun b v hb hv z => by
    subst z
    rw [ha] at hb
    exact hv (Option.some.inj hb).symm
  refine ⟨ps, by rw [upd_ne (ne _ _ h1 fun z => n1 (z ▸ trivial))]; exact h1, h2, fun pos cv hc => ?_⟩
  obtain ⟨c, e1, e2⟩ := h3 pos cv hc
  exact ⟨c, e1, by rw [upd_ne (ne _ _ e2 fun z => n2 _ z.symm)]; exact e2⟩
/-- a thing of one's own is changed -/
theorem At.mut (x : At T am Oc H0 σ H δ h) {i : Nat} {a : Addr} {d d' : PyData} {o' : HO} (hi : δ[i]? = some (.o d)) (ha : σ[i]? = some (some (.ref a))) (n : ¬ isTb o') (oa : Oo (OO Oc σ δ) (upd H a o') a d') : At T am Oc H0 σ (upd H a o') (δ.set i (.o d')) h := by
  have hai : OwnAt σ δ i a := ⟨⟨d, hi⟩, ha⟩
  have hil : i < δ.length := (List.getElem?_eq_some_iff.mp hi).1
  have ho : ∀ j b, OwnAt σ (δ.set i (.o d')) j b ↔ OwnAt σ δ j b := fun j b => by
    by_cases e : j = i
    · subst e
      exact ⟨fun z => ⟨⟨d, hi⟩, z.2⟩, fun z => ⟨⟨d', List.getElem?_set_self hil⟩, z.2⟩⟩
    · unfold OwnAt
      rw [List.getElem?_set_ne (Ne.symm e)]
  have hO : ∀ b, OO Oc σ (δ.set i (.o d')) b ↔ OO Oc σ δ b := fun b => by
    unfold OO
    simp only [ho]
  obtain ⟨y, e1, oy⟩ := x.oo hai
  obtain ⟨u, hu, tu⟩ := oy.some
  have nex : ∀ φ, u ≠ .ext φ := fun φ z => by
    subst z
    cases oy with
    | lst h1 h2 => rw [hu] at h1; cases h1
    | dic h1 h2 => rw [hu] at h1; cases h1
  have k : Kp (OO Oc σ δ) (OO Oc σ (δ.set i (.o d'))) H (upd H a o') := ⟨fun b v hb _ r => by
    have hne : b ≠ a := fun z => hb (z ▸ .inr ⟨i, hai⟩)
    unfold Rd at r ⊢
    rw [upd_ne hne]
    exact r, fun b xs hb r => by
    have hne : b ≠ a := fun z => hb (z ▸ .inr ⟨i, hai⟩)
    rw [upd_ne hne]
    exact r, fun b _ _ _ z => (hO b).mp z⟩
  refine ⟨by rw [List.length_set, x.len], fun b hb => ?_, fun c hc => ?_, x.amc, fun j y hy => ?_, fun p q b h1 h2 => x.ownd p q b ((ho _ _).mp h1) ((ho _ _).mp h2), fun p b z => x.ownc p b ((ho _ _).mp z), fun p b z => x.new p b ((ho _ _).mp z), fun b v hb hn hc => ?_⟩
  · have hne : b ≠ a := fun z => x.ownc i a hai (z ▸ hb)
    rw [upd_ne hne]
    exact x.dom b hb
  · obtain ⟨w1, ⟨vs, w2, w3⟩, w4⟩ := x.wd c hc
    have hne : c ≠ a := fun z => x.own_ne hai c hc z.symm
    exact ⟨(hO c).mpr w1, ⟨vs, by rw [upd_ne hne]; exact w2, w3.kp k⟩, tabs_upd w4 hu tu nex⟩
  · by_cases e : j = i
    · subst e
      rw [List.getElem?_set_self hil] at hy
      cases hy
      exact ⟨a, ha, oa.kp ⟨fun _ _ _ _ r => r, fun _ _ _ r => r, fun b _ _ _ z => (hO b).mp z⟩ fun _ q _ => q⟩
    · rw [List.getElem?_set_ne (Ne.symm e)] at hy
      have z := x.sl j y hy
      cases y with
      | no => trivial
      | d y => obtain ⟨w, e1, e2⟩ := z; exact ⟨w, e1, e2.kp k⟩
      | o y =>
        obtain ⟨b, e1, e2⟩ := z
        have hne : b ≠ a := fun q => e (x.ownd j i a ⟨⟨y, hy⟩, q ▸ e1⟩ hai)
        exact ⟨b, e1, e2.kp k fun u q _ => by rw [upd_ne hne]; exact q⟩
      | am => exact z
      | raw _ _ => exact z
  · by_cases e : b = a
    · subst e
      exact (x.new i b hai).elim (fun z => absurd z hn) fun z => absurd hc (z v hb)
    · rw [upd_ne e]
      exact x.eff b v hb hn hc
end
end DL
/-! The data layer, part 1: results, judgements, how values' rules lift. -/
namespace DL
open PySem PySem.Spec PyProof.Rows L2

structure Exc where
  cls : Str
  pay : Option PyData
inductive Res (α : Type) where
  | ok (a : α) (h : HS)
  | exc (x : Exc) (h : HS)
  | no
def Res.bind {α β : Type} (r : Res α) (k : α → HS → Res β) : Res β := match r with
  | .ok a h => k a h
  | .exc x h => .exc x h
  | .no => .no
def Res.op {α β : Type} (r : Res α) (g : α → Option β) : Res β := match r with
  | .ok a h => match g a with
    | some b => .ok b h
    | none => .no
  | .exc x h => .exc x h
  | .no => .no
/-- what an exception is: its class by the table CL -/
def XR (CL : Str → Option Addr) (x : Exc) (cls : Value) (dd : Option Addr) (H : Hp) : Prop := ∃ C, CL x.cls = some C ∧ cls = .ref C ∧
  match x.pay with
  | none => dd = none
  | some p => ∃ d v, dd = some d ∧ H d = some (.xd [("at", v)]) ∧ Dt (fun _ => False) H v p
inductive RK where
  | D | L | N
def ownable : PyData → Bool
  | .list _ => true
  | .dict _ => true
  | _ => false
def Rl (T : List (Addr × Str)) (k : RK) (am : Option Addr) (O : Addr → Prop) (H H' : Hp) (h : HS) (v : V) (d : PyData) : Prop := match k with
  | .D => Wd T am O H' h ∧ Dt O H' v d
  | .L => Wd T am O H' h ∧ Lt am O H' v d
  | .N => (Wd T am O H' h ∧ Dt O H' v d ∧ ownable d = false) ∨ ∃ a, v = .ref a ∧ Fsh am H a ∧ Wd T am (fun b => O b ∨ b = a) H' h ∧ Oo (fun b => O b ∨ b = a) H' a d
section
variable {T : List (Addr × Str)} {am : Option Addr} {O : Addr → Prop} {H H1 H' : Hp} {h : HS} {v : V} {d : PyData}
theorem Wd.sub {O' : Addr → Prop} (w : Wd T am O' H h) (h1 : ∀ b, O b → O' b) (h2 : ∀ a, am = some a → O a) : Wd T am O H h := w.same (Same.refl H) (fun b _ _ _ z => h1 b z) h2
theorem Rl.N_D (dm : Dom O H) (ha : ∀ a, am = some a → O a) (r : Rl T .N am O H H' h v d) : Rl T .D am O H H' h v d := by
  rcases r with ⟨w, r, _⟩ | ⟨a, rfl, f, w, o⟩
  · exact ⟨w, r⟩
  · have k : Kp (fun b => O b ∨ b = a) O H' H' := ⟨fun _ _ _ _ r => r, fun _ _ _ r => r, fun b _ _ _ z => .inl z⟩
    have na : ¬ O a := fun z => by
      obtain ⟨u, e, t⟩ := dm a z
      exact t (f.nt e)
    refine ⟨w.sub (fun b z => .inl z) ha, ?_⟩
    cases o with
    | lst h1 h2 => exact .lst h1 na (h2.kp k)
    | dic h1 h2 => exact .dic (.inl h1) na (h2.kp k)
theorem Rl.D_L (r : Rl T .D am O H H' h v d) : Rl T .L am O H H' h v d := ⟨r.1, .inl r.2⟩
theorem Rl.wd {k : RK} (ha : ∀ a, am = some a → O a) (r : Rl T k am O H H' h v d) : Wd T am O H' h := by
  cases k with
  | D => exact r.1
  | L => exact r.1
  | N =>
    rcases r with ⟨w, _⟩ | ⟨a, _, _, w, _⟩
    · exact w
    · exact w.sub (fun b z => .inl z) ha
theorem Rl.back {k : RK} (e : Eff am H H1) (r : Rl T k am O H1 H' h v d) : Rl T k am O H H' h v d := by
  cases k with
  | D => exact r
  | L => exact r
  | N =>
    rcases r with r | ⟨a, e1, f, w, o⟩
    · exact .inl r
    · exact .inr ⟨a, e1, f.back e, w, o⟩
/-- a new list, a new dict -/
theorem Rl.new {a : Addr} {o : HO} (hn : H a = none) (dm : Dom O H) (ha : ∀ c, am = some c → O c) (w : Wd T am O H h) (x : Oo (fun b => O b ∨ b = a) (upd H a o) a d) : Rl T .N am O H (upd H a o) h (.ref a) d := by
  have s : Same H (upd H a o) := fun b u e => by rw [upd_ne (ne_of_none e hn)]; exact e
  refine .inr ⟨a, rfl, ⟨fun _ => hn, fun c hc => ⟨?_, fun u e => by rw [hn] at e; cases e⟩⟩, w.same s (fun b u e _ z => ?_) (fun c hc => .inl (ha c hc)), x⟩
  · rintro rfl
    obtain ⟨u, e, _⟩ := dm a (ha a hc)
    rw [hn] at e; cases e
  · rcases z with z | z
    · exact z
    · subst z; rw [hn] at e; cases e
theorem kp_new {a : Addr} {o : HO} (hn : H a = none) : Kp O (fun b => O b ∨ b = a) H (upd H a o) :=
  ⟨fun b u _ _ r => by
    have hne : b ≠ a := fun z => by
      obtain ⟨o, e⟩ := rd_some r
      rw [z, hn] at e; cases e
    unfold Rd at r ⊢
    rw [upd_ne hne]
    exact r, fun b xs _ r => by
    rw [upd_ne (ne_of_none r hn)]
    exact r, fun b u _ r z => by
    rcases z with z | z
    · exact z
    · obtain ⟨o, e⟩ := rd_some r
      rw [z, hn] at e; cases e⟩
theorem kp_new0 {a : Addr} {o : HO} (hn : H a = none) : Kp O O H (upd H a o) := ⟨(kp_new hn).rd, (kp_new hn).ls, fun _ _ _ _ z => z⟩
theorem same_upd {a : Addr} {o : HO} (hn : H a = none) : Same H (upd H a o) := fun b u e => by rw [upd_ne (ne_of_none e hn)]; exact e
end

/-! ### the judgements' readings -/
section
variable (T : List (Addr × Str)) (CL : Str → Option Addr) (W : WX)
def tE (k : RK) (f : DEnv → HS → Res PyData) : TE := fun σ H Q => ∃ am Oc H0 δ h, At T am Oc H0 σ H δ h ∧
  match f δ h with
  | .ok d h' => ∀ v H', Eff am H H' → Rl T k am (OO Oc σ δ) H H' h' v d → Q v H'
  | .exc x h' => ∀ cls dd H', Eff am H H' → Wd T am (OO Oc σ δ) H' h' → XR CL x cls dd H' → W cls dd σ H'
  | .no => False
def tA (k : RK) (f : DEnv → HS → Res (List PyData)) : TA := fun σ H Q => ∃ am Oc H0 δ h, At T am Oc H0 σ H δ h ∧
  match f δ h with
  | .ok ds h' => ∀ vs H', Eff am H H' → Wd T am (OO Oc σ δ) H' h' → Paired (fun v d => Rl T k am (OO Oc σ δ) H H' h' v d) vs ds → Q vs H'
  | .exc x h' => ∀ cls dd H', Eff am H H' → Wd T am (OO Oc σ δ) H' h' → XR CL x cls dd H' → W cls dd σ H'
  | .no => False
def tT (f : DEnv → HS → Res Bool) : TT := fun σ H Q => ∃ am Oc H0 δ h, At T am Oc H0 σ H δ h ∧
  match f δ h with
  | .ok b h' => ∀ H', Eff am H H' → Wd T am (OO Oc σ δ) H' h' → Q b H'
  | .exc x h' => ∀ cls dd H', Eff am H H' → Wd T am (OO Oc σ δ) H' h' → XR CL x cls dd H' → W cls dd σ H'
  | .no => False
end
abbrev ED (T : List (Addr × Str)) (CL : Str → Option Addr) (W : WX) (X : Cx) (k : RK) (e : Expr) (f : DEnv → HS → Res PyData) : Prop := PE X e (tE T CL W k f)
abbrev AD (T : List (Addr × Str)) (CL : Str → Option Addr) (W : WX) (X : Cx) (k : RK) (e : List Expr) (f : DEnv → HS → Res (List PyData)) : Prop := PA X e (tA T CL W k f)
abbrev TD (T : List (Addr × Str)) (CL : Str → Option Addr) (W : WX) (X : Cx) (e : Expr) (f : DEnv → HS → Res Bool) : Prop := PT X e (tT T CL W f)

theorem PE.imp {X : Cx} {e : Expr} {t t' : TE} (h : PE X e t) (k : ∀ σ H Q, t' σ H Q → t σ H Q) : PE X e t' := ⟨fun pins s σ H Q I q => h.run pins s σ H Q I (k σ H Q q)⟩
theorem PA.imp {X : Cx} {e : List Expr} {t t' : TA} (h : PA X e t) (k : ∀ σ H Q, t' σ H Q → t σ H Q) : PA X e t' := ⟨fun pos pins s σ H Q I q => h.run pos pins s σ H Q I (k σ H Q q)⟩
theorem PT.imp {X : Cx} {e : Expr} {t t' : TT} (h : PT X e t) (k : ∀ σ H Q, t' σ H Q → t σ H Q) : PT X e t' := ⟨fun pins s σ H Q I q => h.run pins s σ H Q I (k σ H Q q)⟩
theorem PW.imp {X : Cx} {e : Expr} {t t' : TT} (h : PW X e t) (k : ∀ σ H Q, t' σ H Q → t σ H Q) : PW X e t' := ⟨fun wh pins s σ H Q I q => h.run wh pins s σ H Q I (k σ H Q q)⟩

section
variable {T : List (Addr × Str)} {CL : Str → Option Addr} {W : WX} {X : Cx}
theorem ED.d_l {e : Expr} {f : DEnv → HS → Res PyData} (h : ED T CL W X .D e f) : ED T CL W X .L e f := PE.imp h fun σ H Q ⟨am, Oc, H0, δ, hs, x, q⟩ => ⟨am, Oc, H0, δ, hs, x, by
  revert q
  cases f δ hs with
  | ok d h' => exact fun q v H' e r => q v H' e r.D_L
  | exc x h' => exact id
  | no => exact id⟩
theorem ED.n_d {e : Expr} {f : DEnv → HS → Res PyData} (h : ED T CL W X .N e f) : ED T CL W X .D e f := PE.imp h fun σ H Q ⟨am, Oc, H0, δ, hs, x, q⟩ => ⟨am, Oc, H0, δ, hs, x, by
  revert q
  cases f δ hs with
  | ok d h' => exact fun q v H' e r => q v H' e (r.N_D x.domO x.amO)
  | exc x h' => exact id
  | no => exact id⟩
theorem ED.n_l {e : Expr} {f : DEnv → HS → Res PyData} (h : ED T CL W X .N e f) : ED T CL W X .L e f := ED.d_l (ED.n_d h)

/-! ### one after another -/
/-- what is left to do with a result, from a state -/
def Aft (T : List (Addr × Str)) (CL : Str → Option Addr) (W : WX) (k : RK) (am : Option Addr) (O : Addr → Prop) (σ : L2.St) (H : Hp) (Q : VK) (r : Res PyData) : Prop := match r with
  | .ok d h' => ∀ v H', Eff am H H' → Rl T k am O H H' h' v d → Q v H'
  | .exc x h' => ∀ cls dd H', Eff am H H' → Wd T am O H' h' → XR CL x cls dd H' → W cls dd σ H'
  | .no => False
theorem Aft.step {k : RK} {am : Option Addr} {O : Addr → Prop} {σ : L2.St} {H H1 : Hp} {Q : VK} {r : Res PyData} (e : Eff am H H1) (h : Aft T CL W k am O σ H Q r) : Aft T CL W k am O σ H1 Q r := by
  revert h
  unfold Aft
  cases r with
  | ok d h' => exact fun h v H' e' r => h v H' (e.trans e') (r.back e)
  | exc x h' => exact fun h cls dd H' e' w x => h cls dd H' (e.trans e') w x
  | no => exact id
theorem tE_of {k : RK} {f : DEnv → HS → Res PyData} {am : Option Addr} {Oc : Addr → Prop} {H0 : Bs} {H : Hp} {σ : L2.St} {δ : DEnv} {h : HS} {Q : VK} (x : At T am Oc H0 σ H δ h) (q : Aft T CL W k am (OO Oc σ δ) σ H Q (f δ h)) : tE T CL W k f σ H Q :=
  ⟨am, Oc, H0, δ, h, x, q⟩
theorem of_tE {k : RK} {f : DEnv → HS → Res PyData} {H : Hp} {σ : L2.St} {Q : VK} (q : tE T CL W k f σ H Q) : ∃ am Oc H0 δ h, At T am Oc H0 σ H δ h ∧ Aft T CL W k am (OO Oc σ δ) σ H Q (f δ h) := q
/-- the first part's reading, from the whole's -/
theorem Aft.bind {k k1 : RK} {am : Option Addr} {Oc : Addr → Prop} {H0 : Bs} {H : Hp} {σ : L2.St} {δ : DEnv} {h : HS} {Q K : VK} {r : Res PyData} {g : PyData → HS → Res PyData} (x : At T am Oc H0 σ H δ h)
    (q : Aft T CL W k am (OO Oc σ δ) σ H Q (r.bind g))
    (s : ∀ d1 h1 v1 H1, At T am Oc H0 σ H1 δ h1 → Eff am H H1 → Rl T k1 am (OO Oc σ δ) H H1 h1 v1 d1 → Aft T CL W k am (OO Oc σ δ) σ H1 Q (g d1 h1) → K v1 H1) : Aft T CL W k1 am (OO Oc σ δ) σ H K r := by
  cases r with
  | ok d h' => exact fun v H' e r => s d h' v H' (x.eff' e (r.wd x.amO)) e r (Aft.step e q)
  | exc x h' => exact q
  | no => exact q

/-- a value's rule: g is what it does to data -/
def VU (T : List (Addr × Str)) (k : RK) (g : PyData → Option PyData) (r : V → Hp → VK → Prop) : Prop :=
  ∀ (am : Option Addr) (O : Addr → Prop) (H : Hp) (h : HS) (v : V) (d d' : PyData) (Q : VK), Dom O H → (∀ a, am = some a → O a) → Wd T am O H h → Lt am O H v d → g d = some d' → (∀ v' H', Same H H' → Rl T k am O H H' h v' d' → Q v' H') → r v H Q
def VB (T : List (Addr × Str)) (k : RK) (g : PyData → PyData → Option PyData) (r : V → V → Hp → VK → Prop) : Prop :=
  ∀ (am : Option Addr) (O : Addr → Prop) (H : Hp) (h : HS) (v w : V) (d e d' : PyData) (Q : VK), Dom O H → (∀ a, am = some a → O a) → Wd T am O H h → Lt am O H v d → Lt am O H w e → g d e = some d' → (∀ v' H', Same H H' → Rl T k am O H H' h v' d' → Q v' H') → r v w H Q
theorem res_op_eq {α β : Type} (r : Res α) (g : α → Option β) : r.op g = r.bind fun a h => match g a with | some b => .ok b h | none => .no := by
  cases r <;> rfl
theorem tE_un {k : RK} {g : PyData → Option PyData} {r : V → Hp → VK → Prop} {fa : DEnv → HS → Res PyData} (u : VU T k g r) {σ : L2.St} {H : Hp} {Q : VK} (q : tE T CL W k (fun δ h => (fa δ h).op g) σ H Q) : tE T CL W .L fa σ H fun v H1 => r v H1 Q := by
  obtain ⟨am, Oc, H0, δ, h, x, q⟩ := of_tE q
  rw [res_op_eq] at q
  refine tE_of x (Aft.bind x q fun d1 h1 v1 H1 x1 e1 r1 q1 => ?_)
  cases hg : g d1 with
  | none => rw [hg] at q1; exact q1.elim
  | some d2 =>
    rw [hg] at q1
    exact u am _ H1 h1 v1 d1 d2 Q x1.domO x1.amO r1.1 r1.2 hg fun v' H' s r => q1 v' H' (Eff.same s) r
theorem tE_bin {k : RK} {g : PyData → PyData → Option PyData} {r : V → V → Hp → VK → Prop} {fa fb : DEnv → HS → Res PyData} (u : VB T k g r) {σ : L2.St} {H : Hp} {Q : VK} (q : tE T CL W k (fun δ h => (fa δ h).bind fun a h1 => (fb δ h1).op (g a)) σ H Q) :
    tE T CL W .L fa σ H fun v H1 => tE T CL W .L fb σ H1 fun w H2 => r v w H2 Q := by
  obtain ⟨am, Oc, H0, δ, h, x, q⟩ := of_tE q
  refine tE_of x (Aft.bind x q fun d1 h1 v1 H1 x1 e1 r1 q1 => ?_)
  rw [res_op_eq] at q1
  refine tE_of x1 (Aft.bind x1 q1 fun d2 h2 v2 H2 x2 e2 r2 q2 => ?_)
  cases hg : g d1 d2 with
  | none => rw [hg] at q2; exact q2.elim
  | some d3 =>
    rw [hg] at q2
    exact u am _ H2 h2 v1 v2 d1 d2 d3 Q x2.domO x2.amO r2.1 (r1.2.kp e2 x2.amO) r2.2 hg fun v' H' s r => q2 v' H' (Eff.same s) r
end
end DL
/-! The data layer, part 2: names, constants, operators. -/
namespace DL
open PySem PySem.Spec PyProof.Rows L2
/-- a written text is a text -/
def strOkL (x : Str) : Bool := x.cps.toList.all (fun c => decide (c < 0x110000)) && decide (x.cps.toList.length ≤ 16777216)
theorem strOkL_ok {x : Str} (h : strOkL x = true) : PyData.strOk x = true := by
  unfold strOkL at h
  unfold PyData.strOk
  rw [← Array.all_toList]
  exact (Bool.and_eq_true_iff.mp h).1
theorem strOkL_len {x : Str} (h : strOkL x = true) : x.length ≤ sizeLine := by
  unfold strOkL at h
  have := of_decide_eq_true (Bool.and_eq_true_iff.mp h).2
  rw [sizeLine_eq]
  show x.cps.size ≤ _
  rw [Array.length_toList] at this
  exact this
section
variable {am : Option Addr} {O : Addr → Prop} {H : Hp} {v : V}
theorem Lt.int {i : Int} (h : Lt am O H v (.int i)) : v = .int i := by
  rcases h with h | ⟨a, _, _, h⟩
  · cases h; rfl
  · cases h
theorem Lt.bl {b : Bool} (h : Lt am O H v (.bool b)) : v = .bl b := by
  rcases h with h | ⟨a, _, _, h⟩
  · cases h; rfl
  · cases h
theorem Lt.non (h : Lt am O H v .none) : v = .non := by
  rcases h with h | ⟨a, _, _, h⟩
  · cases h; rfl
  · cases h
theorem Lt.str {x : Str} (h : Lt am O H v (.str x)) : v = .str x ∧ x.length ≤ sizeLine ∧ PyData.strOk x = true := by
  rcases h with h | ⟨a, _, _, h⟩
  · cases h with | str _ z z' => exact ⟨rfl, z, z'⟩
  · cases h
theorem Lt.list {ds : List PyData} (h : Lt am O H v (.list ds)) : ∃ a xs, v = .ref a ∧ H a = some (.lst xs) ∧ DtA O H xs ds := by
  rcases h with h | ⟨a, e, _, h⟩
  · cases h with | lst r _ a => exact ⟨_, _, rfl, r, a⟩
  · cases h with | lst h1 h2 => exact ⟨_, _, e, h1, h2⟩
theorem Lt.tup {ds : List PyData} (h : Lt am O H v (.tuple ds)) : ∃ a xs, v = .ref a ∧ Rd H a (.tup xs) ∧ DtA O H xs ds ∧ Dt O H v (.tuple ds) := by
  rcases h with h | ⟨a, e, _, h⟩
  · cases h with | tup r n a => exact ⟨_, _, rfl, r, a, .tup r n a⟩
  · cases h
theorem Lt.dic {ds : List (PyData × PyData)} (h : Lt am O H v (.dict ds)) : ∃ a kvs, v = .ref a ∧ Rd H a (.dK kvs) ∧ DtK O H kvs ds := by
  rcases h with h | ⟨a, e, _, h⟩
  · cases h with | dic r _ a => exact ⟨_, _, rfl, r, a⟩
  · cases h with | dic h1 h2 => exact ⟨_, _, e, .inl h1, h2⟩
theorem DtA.length : ∀ {xs : List V} {ds : List PyData}, DtA O H xs ds → xs.length = ds.length
  | _, [], h => by cases h; rfl
  | _, d :: ds, h => by cases h with | cons a b => rw [List.length_cons, List.length_cons, DtA.length b]
theorem DtA.append : ∀ {xs ys : List V} {ds es : List PyData}, DtA O H xs ds → DtA O H ys es → DtA O H (xs ++ ys) (ds ++ es)
  | _, _, [], _, h, h' => by cases h; exact h'
  | _, _, d :: ds, _, h, h' => by cases h with | cons a b => exact .cons a (DtA.append b h')
theorem DtA.get : ∀ {xs : List V} {ds : List PyData} {i : Nat} {d : PyData}, DtA O H xs ds → ds[i]? = some d → ∃ x, xs[i]? = some x ∧ Dt O H x d
  | _, [], _, _, _, e => by simp at e
  | _, d :: ds, 0, _, h, e => by
    cases h with | cons a b =>
    simp at e
    subst e
    exact ⟨_, rfl, a⟩
  | _, d :: ds, i + 1, _, h, e => by
    cases h with | cons a b =>
    obtain ⟨x, h1, h2⟩ := DtA.get b (by simpa using e)
    exact ⟨x, by simpa using h1, h2⟩
theorem DtA.take : ∀ {xs : List V} {ds : List PyData} (n : Nat), DtA O H xs ds → DtA O H (xs.take n) (ds.take n)
  | _, _, 0, _ => by rw [List.take_zero, List.take_zero]; exact .nil
  | _, [], n + 1, h => by cases h; exact .nil
  | _, d :: ds, n + 1, h => by cases h with | cons a b => exact .cons a (DtA.take n b)
theorem DtA.drop : ∀ {xs : List V} {ds : List PyData} (n : Nat), DtA O H xs ds → DtA O H (xs.drop n) (ds.drop n)
  | _, _, 0, h => by rw [List.drop_zero, List.drop_zero]; exact h
  | _, [], n + 1, h => by cases h; exact .nil
  | _, d :: ds, n + 1, h => by cases h with | cons a b => exact DtA.drop n b
theorem DtA.rev {xs : List V} {ds : List PyData} (h : DtA O H xs ds) : DtA O H xs.reverse ds.reverse := by
  induction ds generalizing xs with
  | nil => cases h; exact .nil
  | cons d ds ih =>
    cases h with | cons a b =>
    rw [List.reverse_cons, List.reverse_cons]
    exact (ih b).append (.cons a .nil)
theorem DtA.set : ∀ {xs : List V} {ds : List PyData} {i : Nat} {v : V} {d : PyData}, DtA O H xs ds → Dt O H v d → DtA O H (xs.set i v) (ds.set i d)
  | _, [], _, _, _, h, _ => by cases h; exact .nil
  | _, d :: ds, 0, _, _, h, q => by cases h with | cons a b => exact .cons q b
  | _, d :: ds, i + 1, _, _, h, q => by cases h with | cons a b => exact .cons a (DtA.set b q)
theorem DtA.rep {xs : List V} {ds : List PyData} (h : DtA O H xs ds) : ∀ n : Nat, DtA O H (List.replicate n xs).flatten (List.replicate n ds).flatten
  | 0 => .nil
  | n + 1 => by
    rw [List.replicate_succ, List.replicate_succ, List.flatten_cons, List.flatten_cons]
    exact h.append (DtA.rep h n)
theorem DtA.ints : ∀ {xs : List V} {is : List Int}, DtA O H xs (is.map .int) → xs = is.map .int
  | _, [], h => by cases h; rfl
  | _, i :: is, h => by
    cases h with | cons a b =>
    cases a
    rw [DtA.ints b]; rfl
theorem DtA.bools : ∀ {xs : List V} {is : List Bool}, DtA O H xs (is.map .bool) → xs = is.map .bl
  | _, [], h => by cases h; rfl
  | _, i :: is, h => by
    cases h with | cons a b =>
    cases a
    rw [DtA.bools b]; rfl
theorem DtA.strs : ∀ {xs : List V} {is : List Str}, DtA O H xs (is.map .str) → xs = is.map .str ∧ ∀ x ∈ is, x.length ≤ sizeLine ∧ PyData.strOk x = true
  | _, [], h => by cases h; exact ⟨rfl, fun _ z => nomatch z⟩
  | _, i :: is, h => by
    cases h with | cons a b =>
    cases a with | str _ z z' =>
    obtain ⟨e, k⟩ := DtA.strs b
    refine ⟨by rw [e]; rfl, fun x hx => ?_⟩
    rcases List.mem_cons.mp hx with rfl | hx
    · exact ⟨z, z'⟩
    · exact k x hx
theorem DtA.of_strs : ∀ {is : List Str}, (∀ x ∈ is, x.length ≤ sizeLine ∧ PyData.strOk x = true) → DtA O H (is.map .str) (is.map .str)
  | [], _ => .nil
  | i :: is, k => .cons (.str _ (k i List.mem_cons_self).1 (k i List.mem_cons_self).2) (DtA.of_strs fun x hx => k x (List.mem_cons_of_mem _ hx))
theorem DtA.of_ints : ∀ {is : List Int}, DtA O H (is.map .int) (is.map .int)
  | [] => .nil
  | i :: is => .cons (.int i) DtA.of_ints
mutual
theorem Dt.dp {K : PySem.W.Frag} : ∀ {d : PyData} {v : V}, Dt O H v d → d.canLay0 = true → Dp K H v d
  | .none, _, h, _ => by cases h; exact .non
  | .bool _, _, h, _ => by cases h; exact .bl _
  | .int _, _, h, _ => by cases h; exact .int _
  | .str _, _, h, _ => by cases h; exact .str _
  | .list ds, _, h, c => by
    cases h with
    | lst r n a => exact .lst (SqL.of r) (DtA.dp a (by simpa [PyData.canLay0] using c))
  | .tuple ds, _, h, c => by
    cases h with
    | tup r n a => exact .tup (.inl r) (DtA.dp a (by simpa [PyData.canLay0] using c))
  | .dict ds, _, _, c => by simp [PyData.canLay0] at c
theorem DtA.dp {K : PySem.W.Frag} : ∀ {ds : List PyData} {vs : List V}, DtA O H vs ds → PyData.canLayAll0 ds = true → DpAll K H vs ds
  | [], _, h, _ => by cases h; exact .nil
  | d :: ds, _, h, c => by
    have c' : d.canLay0 = true ∧ PyData.canLayAll0 ds = true := by simpa [PyData.canLayAll0] using c
    cases h with | cons a b => exact .cons (Dt.dp a c'.1) (DtA.dp b c'.2)
end
theorem Lt.dp {K : PySem.W.Frag} {d : PyData} (h : Lt am O H v d) (c : d.canLay0 = true) : Dp K H v d := by
  rcases h with h | ⟨a, e, _, h⟩
  · exact h.dp c
  · subst e
    cases h with
    | lst h1 h2 => exact .lst (SqL.of h1) (h2.dp (by simpa [PyData.canLay0] using c))
    | dic h1 h2 => simp [PyData.canLay0] at c
end
section
variable {T : List (Addr × Str)} {CL : Str → Option Addr} {W : WX} {X : Cx} {pos : Pos}
/-! ### names, constants -/
def dVar (i : Nat) : DEnv → HS → Res PyData := fun δ h => match δ[i]? with
  | some (.d x) => .ok x h
  | _ => .no
def dOwn (i : Nat) : DEnv → HS → Res PyData := fun δ h => match δ[i]? with
  | some (.d x) => .ok x h
  | some (.o x) => .ok x h
  | _ => .no
def dC (x : PyData) : DEnv → HS → Res PyData := fun _ h => .ok x h
theorem Eff.all {am : Option Addr} {H : Hp} : Eff am H H := Eff.refl
theorem e_var {i : Nat} {x : Str} (h : PE X (.Name x pos) (tVar i)) : ED T CL W X .D (.Name x pos) (dVar i) := PE.imp h fun σ H Q q => by
  obtain ⟨am, Oc, H0, δ, hs, a, q⟩ := of_tE q
  unfold dVar at q
  cases e : δ[i]? with
  | none => rw [e] at q; exact q.elim
  | some s =>
    rw [e] at q
    cases s with
    | d y =>
      obtain ⟨v, e1, e2⟩ := a.sl i _ e
      exact ⟨v, e1, q v H Eff.refl ⟨a.wd, e2⟩⟩
    | no => exact q.elim
    | o y => exact q.elim
    | am => exact q.elim
    | raw _ _ => exact q.elim
theorem e_own {i : Nat} {x : Str} (h : PE X (.Name x pos) (tVar i)) : ED T CL W X .L (.Name x pos) (dOwn i) := PE.imp h fun σ H Q q => by
  obtain ⟨am, Oc, H0, δ, hs, a, q⟩ := of_tE q
  unfold dOwn at q
  cases e : δ[i]? with
  | none => rw [e] at q; exact q.elim
  | some s =>
    rw [e] at q
    cases s with
    | d y =>
      obtain ⟨v, e1, e2⟩ := a.sl i _ e
      exact ⟨v, e1, q v H Eff.refl ⟨a.wd, .inl e2⟩⟩
    | no => exact q.elim
    | o y =>
      obtain ⟨b, e1, e2⟩ := a.sl i _ e
      exact ⟨_, e1, q _ H Eff.refl ⟨a.wd, .inr ⟨b, rfl, a.own_ne (i := i) ⟨⟨y, e⟩, e1⟩, e2⟩⟩⟩
    | am => exact q.elim
    | raw _ _ => exact q.elim
theorem e_const {e : Expr} {v : V} {d : PyData} (h : PE X e (tC v)) (k : ∀ O H, Dt O H v d) (ow : ownable d = false) : ED T CL W X .N e (dC d) := PE.imp h fun σ H Q q => by
  obtain ⟨am, Oc, H0, δ, hs, a, q⟩ := of_tE q
  exact q v H Eff.refl (.inl ⟨a.wd, k _ _, ow⟩)
theorem e_int {i j} : ED T CL W X .N (.Constant (.int i) j pos) (dC (.int i)) := e_const pe_int (fun _ _ => .int i) rfl
theorem e_bl {b j} : ED T CL W X .N (.Constant (.bool b) j pos) (dC (.bool b)) := e_const pe_bl (fun _ _ => .bl b) rfl
theorem e_non {j} : ED T CL W X .N (.Constant .none j pos) (dC .none) := e_const pe_non (fun _ _ => .non) rfl
theorem e_str {x j} (ho : strOkL x = true := by decide +kernel) : ED T CL W X .N (.Constant (.str x) j pos) (dC (.str x)) := e_const pe_str (fun _ _ => .str x (strOkL_len ho) (strOkL_ok ho)) rfl
end
end DL
/-! The data layer, part 3: operators, comparisons. -/
namespace DL
open PySem PySem.Spec PyProof.Rows L2
section
variable {T : List (Addr × Str)} {am : Option Addr} {O : Addr → Prop} {H : Hp} {h : HS}
theorem fin_sc {v : V} {d : PyData} {Q : VK} (w : Wd T am O H h) (x : Dt O H v d) (ow : ownable d = false) (q : ∀ v' H', Same H H' → Rl T .N am O H H' h v' d → Q v' H') : Q v H := q v H (Same.refl H) (.inl ⟨w, x, ow⟩)
theorem fin_lst {xs : List V} {ds : List PyData} {p : Addr} {Q : VK} (w : Wd T am O H h) (dm : Dom O H) (ha : ∀ c, am = some c → O c) (hp : H p = none) (x : DtA O H xs ds) (q : ∀ v' H', Same H H' → Rl T .N am O H H' h v' (.list ds) → Q v' H') : Q (.ref p) (upd H p (.lst xs)) :=
  q _ _ (same_upd hp) (Rl.new hp dm ha w (.lst upd_same (x.kp (kp_new hp))))
theorem not_new {p : Addr} (dm : Dom O H) (hp : H p = none) : ¬ O p := fun z => by
  obtain ⟨o, e, _⟩ := dm p z
  rw [hp] at e; cases e
theorem fin_tup {xs : List V} {ds : List PyData} {p : Addr} {Q : VK} (w : Wd T am O H h) (dm : Dom O H) (ha : ∀ c, am = some c → O c) (hp : H p = none) (x : DtA O H xs ds) (q : ∀ v' H', Same H H' → Rl T .N am O H H' h v' (.tuple ds) → Q v' H') : Q (.ref p) (upd H p (.tup xs)) :=
  q _ _ (same_upd hp) (.inl ⟨w.same (same_upd hp) (fun _ _ _ _ z => z) ha, .tup (.inl upd_same) (not_new dm hp) (x.kp (kp_new0 hp)), rfl⟩)
end
theorem strOk_app {x y : Str} (hx : PyData.strOk x = true) (hy : PyData.strOk y = true) : PyData.strOk (x ++ y) = true := by
  show ((x.cps ++ y.cps).all _) = true
  rw [Array.all_append]
  simp only [Bool.and_eq_true]
  exact ⟨hx, hy⟩
theorem len_app (x y : Str) : (x ++ y).length = x.length + y.length := by
  show (x.cps ++ y.cps).size = _
  rw [Array.size_append]; rfl
def dBin (g : PyData → PyData → Option PyData) (fa fb : DEnv → HS → Res PyData) : DEnv → HS → Res PyData := fun δ h => (fa δ h).bind fun a h1 => (fb δ h1).op (g a)
def dUn (g : PyData → Option PyData) (fa : DEnv → HS → Res PyData) : DEnv → HS → Res PyData := fun δ h => (fa δ h).op g
def gAdd : PyData → PyData → Option PyData
  | .int i, .int j => some (.int (i + j))
  | .str x, .str y => if x.length + y.length ≤ sizeLine then some (.str (x ++ y)) else none
  | .list xs, .list ys => if xs.length + ys.length ≤ sizeLine then some (.list (xs ++ ys)) else none
  | .tuple xs, .tuple ys => if xs.length + ys.length ≤ sizeLine then some (.tuple (xs ++ ys)) else none
  | _, _ => none
def gSub : PyData → PyData → Option PyData
  | .int i, .int j => some (.int (i - j))
  | _, _ => none
def mulOk (i j : Int) : Bool := decide ((-(2 ^ 64) < i ∧ i < 2 ^ 64) ∨ (-(2 ^ 64) < j ∧ j < 2 ^ 64)) || decide (i.natAbs.log2 + j.natAbs.log2 < 1000000)
def gMul : PyData → PyData → Option PyData
  | .int i, .int j => if mulOk i j then some (.int (i * j)) else none
  | .str x, .int n => if 0 ≤ n ∧ x.length * n.toNat ≤ 1000000 ∧ n < 1000000 then some (.str (Txt.mul x n)) else none
  | .list xs, .int n => if 0 ≤ n ∧ xs.length * n.toNat ≤ 1000000 ∧ n < 1000000 then some (.list (List.replicate n.toNat xs).flatten) else none
  | .tuple xs, .int n => if xs ≠ [] ∧ 2 ≤ n ∧ n ≤ 1000 ∧ xs.length ≤ 1000 then some (.tuple (List.replicate n.toNat xs).flatten) else none
  | _, _ => none
def divOk (j : Int) : Bool := decide (j ≠ 0 ∧ j.natAbs < 1073741824) || decide (0 < j ∧ j.natAbs.log2 < 9000)
def gFdiv : PyData → PyData → Option PyData
  | .int i, .int j => if divOk j then some (.int (i.fdiv j)) else none
  | _, _ => none
def gMod : PyData → PyData → Option PyData
  | .int i, .int j => if j ≠ 0 then some (.int (i.fmod j)) else none
  | _, _ => none
def gPow : PyData → PyData → Option PyData
  | .int i, .int j => if 0 ≤ j ∧ j ≤ 1000000 ∧ i.natAbs < 2 ^ 64 then some (.int (i ^ j.toNat)) else none
  | _, _ => none
def gShl : PyData → PyData → Option PyData
  | .int i, .int j => if 0 ≤ j ∧ (Builtin.Int.intBits i : Int) + j ≤ 2 ^ 27 then some (.int (i * 2 ^ j.toNat)) else none
  | _, _ => none
def gNeg : PyData → Option PyData
  | .int i => some (.int (-i))
  | _ => none
section
variable {T : List (Addr × Str)} {CL : Str → Option Addr} {W : WX} {X : Cx} {pos : Pos} {a b : Expr} {fa fb : DEnv → HS → Res PyData}
theorem e_op {op : Operator} {k : RK} {g : PyData → PyData → Option PyData} {r : V → V → Hp → VK → Prop} (ho : OpR X (binaryOp op) r) (u : VB T k g r) (ha : ED T CL W X .L a fa) (hb : ED T CL W X .L b fb) : ED T CL W X k (.BinOp a op b pos) (dBin g fa fb) :=
  PE.imp (pe_op ho ha hb) fun σ H Q q => tE_bin u q
theorem vb_add : VB T .N gAdd (fun x y H Q => rI0 (fun i j => .int (i + j)) x y H Q ∨ (∃ i j, x = .str i ∧ y = .str j ∧ i.length + j.length ≤ sizeLine ∧ Q (.str (i ++ j)) H) ∨ rCat x y H Q ∨ rCatA X.K x y H Q) := by
  intro am O H h v w d e d' Q dm ha wd lv lw hg q
  cases d with
  | int i =>
    cases e with
    | int j =>
      cases hg
      exact .inl ⟨i, j, lv.int, lw.int, fin_sc wd (.int _) rfl q⟩
    | _ => cases hg
  | str x =>
    cases e with
    | str y =>
      simp only [gAdd, Option.ite_none_right_eq_some, Option.some.injEq] at hg
      obtain ⟨hz, rfl⟩ := hg
      obtain ⟨e1, z1, o1⟩ := lv.str
      obtain ⟨e2, z2, o2⟩ := lw.str
      exact .inr (.inl ⟨x, y, e1, e2, hz, fin_sc wd (.str _ (by rw [len_app]; exact hz) (strOk_app o1 o2)) rfl q⟩)
    | _ => cases hg
  | list xs =>
    cases e with
    | list ys =>
      simp only [gAdd, Option.ite_none_right_eq_some, Option.some.injEq] at hg
      obtain ⟨hz, rfl⟩ := hg
      obtain ⟨a, as, e1, h1, t1⟩ := lv.list
      obtain ⟨b, bs, e2, h2, t2⟩ := lw.list
      exact .inr (.inr (.inl ⟨a, b, as, bs, e1, e2, h1, h2, by rw [t1.length, t2.length]; exact hz, fun p hp => fin_lst wd dm ha hp (t1.append t2) q⟩))
    | _ => cases hg
  | tuple xs =>
    cases e with
    | tuple ys =>
      simp only [gAdd, Option.ite_none_right_eq_some, Option.some.injEq] at hg
      obtain ⟨hz, rfl⟩ := hg
      obtain ⟨a, as, e1, h1, t1, c1⟩ := lv.tup
      obtain ⟨b, bs, e2, h2, t2, c2⟩ := lw.tup
      refine .inr (.inr (.inr ⟨a, b, as, bs, e1, e2, .inl h1, .inl h2, by rw [t1.length, t2.length]; exact hz, fun z => ?_, fun _ z => ?_, fun _ _ p hp => fin_tup wd dm ha hp (t1.append t2) q⟩))
      · subst z
        have : xs = [] := List.length_eq_zero_iff.mp t1.length.symm
        subst this
        rw [← e2]
        exact fin_sc wd c2 rfl q
      · subst z
        have : ys = [] := List.length_eq_zero_iff.mp t2.length.symm
        subst this
        rw [← e1]
        rw [List.append_nil] at q
        exact fin_sc wd c1 rfl q
    | _ => cases hg
  | _ => cases hg
theorem e_add (ha : ED T CL W X .L a fa) (hb : ED T CL W X .L b fb) : ED T CL W X .N (.BinOp a .Add b pos) (dBin gAdd fa fb) := e_op (OpR.or op_add (OpR.or op_add_str (OpR.or op_cat op_catA))) vb_add ha hb
theorem e_sub (ha : ED T CL W X .L a fa) (hb : ED T CL W X .L b fb) : ED T CL W X .N (.BinOp a .Sub b pos) (dBin gSub fa fb) := e_op op_sub (by
  intro am O H h v w d e d' Q dm ha wd lv lw hg q
  cases d with
  | int i =>
    cases e with
    | int j =>
      cases hg
      exact ⟨i, j, lv.int, lw.int, fin_sc wd (.int _) rfl q⟩
    | _ => cases hg
  | _ => cases hg) ha hb
theorem op_mul_str : OpR X (binaryOp .Mult) (fun x y H Q => ∃ z n, x = .str z ∧ y = .int n ∧ MulOk z n ∧ Q (.str (Txt.mul z n)) H) := by
  intro pins s σ H x y v u Q I rx ry h
  obtain ⟨z, n, rfl, rfl, ok, q⟩ := h
  obtain ⟨t, rfl⟩ := rx
  obtain ⟨t', rfl⟩ := ry
  exact SB.mul ok fun t' k => ⟨.str _, H, I.tok _, ⟨_, rfl⟩, q⟩
theorem fold_size (c : Array Nat) (n : Nat) (acc : Array Nat) : ((List.replicate n c).foldl (· ++ ·) acc).size = acc.size + n * c.size := by
  induction n generalizing acc with
  | zero => simp
  | succ n ih =>
    rw [List.replicate_succ, List.foldl_cons, ih, Array.size_append, Nat.succ_mul]
    omega
theorem fold_all (c : Array Nat) (p : Nat → Bool) (hc : c.all p = true) (n : Nat) (acc : Array Nat) (ha : acc.all p = true) : ((List.replicate n c).foldl (· ++ ·) acc).all p = true := by
  induction n generalizing acc with
  | zero => simpa using ha
  | succ n ih =>
    rw [List.replicate_succ, List.foldl_cons]
    refine ih _ ?_
    rw [Array.all_append, ha, hc]
    rfl
theorem mul_len {x : Str} {n : Int} (h0 : 0 ≤ n) : (Txt.mul x n).length = x.length * n.toNat := by
  unfold Txt.mul
  by_cases h1 : n < 1
  · rw [if_pos h1]
    have : n.toNat = 0 := by omega
    rw [this]; rfl
  · rw [if_neg h1]
    by_cases h2 : (n == 1 || x.length == 0) = true
    · rw [if_pos h2]
      simp only [Bool.or_eq_true, beq_iff_eq] at h2
      rcases h2 with h2 | h2
      · subst h2; simp
      · rw [h2]; simp
    · rw [if_neg h2]
      show ((List.replicate n.toNat x.cps).foldl (· ++ ·) #[]).size = _
      rw [fold_size, Nat.mul_comm]
      show 0 + _ = _
      rw [Nat.zero_add]; rfl
theorem mul_ok {x : Str} {n : Int} (hx : PyData.strOk x = true) : PyData.strOk (Txt.mul x n) = true := by
  unfold Txt.mul
  split
  · exact strOkL_ok (by decide +kernel)
  · split
    · exact hx
    · exact fold_all _ _ hx _ _ (by simp)
theorem e_mul (ha : ED T CL W X .L a fa) (hb : ED T CL W X .L b fb) : ED T CL W X .N (.BinOp a .Mult b pos) (dBin gMul fa fb) := e_op (OpR.or op_mul (OpR.or op_mulW (OpR.or op_mul_str (OpR.or op_rep op_repT)))) (by
  intro am O H h v w d e d' Q dm ha wd lv lw hg q
  cases d with
  | int i =>
    cases e with
    | int j =>
      simp only [gMul, Option.ite_none_right_eq_some, Option.some.injEq] at hg
      obtain ⟨hz, rfl⟩ := hg
      have e1 := lv.int
      have e2 := lw.int
      unfold mulOk at hz
      simp only [Bool.or_eq_true, decide_eq_true_eq] at hz
      rcases hz with hz | hz
      · exact .inl ⟨i, j, e1, e2, hz, fin_sc wd (.int _) rfl q⟩
      · exact .inr (.inl ⟨i, j, e1, e2, hz, fin_sc wd (.int _) rfl q⟩)
    | _ => cases hg
  | str x =>
    cases e with
    | int n =>
      simp only [gMul, Option.ite_none_right_eq_some, Option.some.injEq] at hg
      obtain ⟨⟨h0, h1, h2⟩, rfl⟩ := hg
      obtain ⟨e1, z1, o1⟩ := lv.str
      refine .inr (.inr (.inl ⟨x, n, e1, lw.int, ⟨?_, fun _ _ => ?_, fun _ _ => ?_⟩, fin_sc wd (.str _ (by rw [mul_len h0, sizeLine_eq]; omega) (mul_ok o1)) rfl q⟩))
      · simp only [Bool.or_eq_false_iff, decide_eq_false_iff_not]
        constructor <;> omega
      · rename_i hn _
        rw [sizeLine_eq] at z1
        have h3 : (2 ^ 63 - 1 : Int) / 1000000 ≤ (2 ^ 63 - 1) / n := by
          have e3 : (n : Int) ≤ 1000000 := by omega
          have := Int.le_ediv_of_mul_le (c := n) (a := (2 ^ 63 - 1 : Int) / 1000000) (b := 2 ^ 63 - 1) (by omega) (by
            have h4 : (2 ^ 63 - 1 : Int) / 1000000 * n ≤ (2 ^ 63 - 1 : Int) / 1000000 * 1000000 := Int.mul_le_mul_of_nonneg_left e3 (by decide)
            have h5 : (2 ^ 63 - 1 : Int) / 1000000 * 1000000 ≤ 2 ^ 63 - 1 := by decide
            omega)
          exact this
        have h6 : (2 ^ 63 - 1 : Int) / 1000000 = 9223372036854 := by decide
        omega
      · show Builtin.Str.tooLong _ = false
        unfold Builtin.Str.tooLong
        rw [sizeLine_eq]
        simp only [decide_eq_false_iff_not]
        omega
    | _ => cases hg
  | list xs =>
    cases e with
    | int n =>
      simp only [gMul, Option.ite_none_right_eq_some, Option.some.injEq] at hg
      obtain ⟨⟨h0, h1, h2⟩, rfl⟩ := hg
      obtain ⟨a, as, e1, hh, t1⟩ := lv.list
      exact .inr (.inr (.inr (.inl ⟨a, n, as, e1, lw.int, hh, by omega, by omega, by rw [t1.length, sizeLine_eq]; omega, fun p hp => fin_lst wd dm ha hp (t1.rep _) q⟩)))
    | _ => cases hg
  | tuple xs =>
    cases e with
    | int n =>
      simp only [gMul, Option.ite_none_right_eq_some, Option.some.injEq] at hg
      obtain ⟨⟨h0, h1, h2, h3⟩, rfl⟩ := hg
      obtain ⟨a, as, e1, hh, t1, c1⟩ := lv.tup
      exact .inr (.inr (.inr (.inr ⟨a, n, as, e1, lw.int, .inl hh, fun z => h0 (by
        subst z
        exact List.length_eq_zero_iff.mp t1.length.symm), h1, h2, by rw [t1.length]; exact h3, fun p hp => fin_tup wd dm ha hp (t1.rep _) q⟩)))
    | _ => cases hg
  | _ => cases hg) ha hb
theorem e_fdiv (ha : ED T CL W X .L a fa) (hb : ED T CL W X .L b fb) : ED T CL W X .N (.BinOp a .FloorDiv b pos) (dBin gFdiv fa fb) := e_op (OpR.or op_fdivN op_fdivW) (by
  intro am O H h v w d e d' Q dm ha wd lv lw hg q
  cases d with
  | int i =>
    cases e with
    | int j =>
      simp only [gFdiv, Option.ite_none_right_eq_some, Option.some.injEq] at hg
      obtain ⟨hz, rfl⟩ := hg
      have e1 := lv.int
      have e2 := lw.int
      unfold divOk at hz
      simp only [Bool.or_eq_true, decide_eq_true_eq] at hz
      rcases hz with hz | hz
      · exact .inl ⟨i, j, e1, e2, hz, fin_sc wd (.int _) rfl q⟩
      · refine .inr ⟨i, j, e1, e2, hz, ?_⟩
        rw [Int.fdiv_eq_ediv_of_nonneg _ (by omega)] at q
        exact fin_sc wd (.int _) rfl q
    | _ => cases hg
  | _ => cases hg) ha hb
theorem e_mod (ha : ED T CL W X .L a fa) (hb : ED T CL W X .L b fb) : ED T CL W X .N (.BinOp a .Mod b pos) (dBin gMod fa fb) := e_op op_modN (by
  intro am O H h v w d e d' Q dm ha wd lv lw hg q
  cases d with
  | int i =>
    cases e with
    | int j =>
      simp only [gMod, Option.ite_none_right_eq_some, Option.some.injEq] at hg
      obtain ⟨hz, rfl⟩ := hg
      exact ⟨i, j, lv.int, lw.int, hz, fin_sc wd (.int _) rfl q⟩
    | _ => cases hg
  | _ => cases hg) ha hb
theorem e_pow (ha : ED T CL W X .L a fa) (hb : ED T CL W X .L b fb) : ED T CL W X .N (.BinOp a .Pow b pos) (dBin gPow fa fb) := e_op op_pow (by
  intro am O H h v w d e d' Q dm ha wd lv lw hg q
  cases d with
  | int i =>
    cases e with
    | int j =>
      simp only [gPow, Option.ite_none_right_eq_some, Option.some.injEq] at hg
      obtain ⟨hz, rfl⟩ := hg
      exact ⟨i, j, lv.int, lw.int, hz, fin_sc wd (.int _) rfl q⟩
    | _ => cases hg
  | _ => cases hg) ha hb
theorem e_shl (ha : ED T CL W X .L a fa) (hb : ED T CL W X .L b fb) : ED T CL W X .N (.BinOp a .LShift b pos) (dBin gShl fa fb) := e_op op_shlW (by
  intro am O H h v w d e d' Q dm ha wd lv lw hg q
  cases d with
  | int i =>
    cases e with
    | int j =>
      simp only [gShl, Option.ite_none_right_eq_some, Option.some.injEq] at hg
      obtain ⟨hz, rfl⟩ := hg
      exact ⟨i, j, lv.int, lw.int, hz, fin_sc wd (.int _) rfl q⟩
    | _ => cases hg
  | _ => cases hg) ha hb
theorem e_un {op : UnaryOp} {k : RK} {g : PyData → Option PyData} {r : V → Hp → VK → Prop} (ho : UnR X (unaryOp op) r) (u : VU T k g r) (ha : ED T CL W X .L a fa) : ED T CL W X k (.UnaryOp op a pos) (dUn g fa) :=
  PE.imp (pe_un ho ha) fun σ H Q q => tE_un u q
theorem e_neg (ha : ED T CL W X .L a fa) : ED T CL W X .N (.UnaryOp .USub a pos) (dUn gNeg fa) := e_un un_neg (by
  intro am O H h v d d' Q dm ha wd lv hg q
  cases d with
  | int i =>
    cases hg
    exact ⟨i, lv.int, fin_sc wd (.int _) rfl q⟩
  | _ => cases hg) ha
end
end DL
/-! The data layer, part 4: comparisons, truth, and, or, not, a if t else b. -/
namespace DL
open PySem PySem.Spec PyProof.Rows L2
/-! ### a key of data -/
def toKey : PyData → Option Key
  | .int i => some (.inl i)
  | .str x => some (.inr x)
  | _ => none
def isK (k : Key) : PyData → Bool
  | .int i => decide (k = .inl i)
  | .str x => decide (k = .inr x)
  | _ => false
def lookK (ds : List (PyData × PyData)) (k : Key) : Option PyData := (ds.find? fun p => isK k p.1).map (·.2)
theorem isK_kD (k j : Key) : isK k (kD j) = decide (j = k) := by
  cases j <;> simp only [isK, kD, eq_comm]
theorem toKey_kV {d : PyData} {k : Key} {am : Option Addr} {O : Addr → Prop} {H : Hp} {v : V} (l : Lt am O H v d) (h : toKey d = some k) : v = kV k := by
  cases d with
  | int i => cases h; exact l.int
  | str x => cases h; exact l.str.1
  | _ => cases h
theorem DtK.look {O : Addr → Prop} {H : Hp} {k : Key} : ∀ {kvs : List (Key × V)} {ds : List (PyData × PyData)}, DtK O H kvs ds → (valV kvs k = none ∧ lookK ds k = none) ∨ ∃ v d, valV kvs k = some v ∧ lookK ds k = some d ∧ Dt O H v d
  | _, [], h => by cases h; exact .inl ⟨rfl, rfl⟩
  | _, (_, d) :: ds, h => by
    cases h with
    | @cons j v vs _ _ a b =>
      unfold lookK
      rw [List.find?_cons, isK_kD]
      by_cases e : j = k
      · rw [decide_eq_true e, valV_pos (p := (j, v)) e]
        exact .inr ⟨v, d, rfl, rfl, a⟩
      · rw [decide_eq_false e, valV_neg (p := (j, v)) e]
        exact DtK.look b
theorem DtK.length {O : Addr → Prop} {H : Hp} : ∀ {kvs : List (Key × V)} {ds : List (PyData × PyData)}, DtK O H kvs ds → kvs.length = ds.length
  | _, [], h => by cases h; rfl
  | _, (_, d) :: ds, h => by
    cases h with
    | cons a b => rw [List.length_cons, List.length_cons, DtK.length b]
/-! ### comparisons -/
def flatD : PyData → Bool
  | .none => true
  | .bool _ => true
  | .int _ => true
  | .str _ => true
  | _ => false
def gEq (d e : PyData) : Option Bool := if SeqAt.shaped d && SeqAt.shaped e then some (PyData.eqv d e) else none
def gNe (d e : PyData) : Option Bool := if SeqAt.shaped d && SeqAt.shaped e then some (!PyData.eqv d e) else none
def gLt : PyData → PyData → Option Bool
  | .int i, .int j => some (decide (i < j))
  | .str x, .str y => some (decide (x.cps.toList < y.cps.toList))
  | _, _ => none
def gLe : PyData → PyData → Option Bool
  | .int i, .int j => some (decide (i ≤ j))
  | .str x, .str y => some (!decide (y.cps.toList < x.cps.toList))
  | _, _ => none
def gGt : PyData → PyData → Option Bool
  | .int i, .int j => some (decide (j < i))
  | .str x, .str y => some (decide (y.cps.toList < x.cps.toList))
  | _, _ => none
def gGe : PyData → PyData → Option Bool
  | .int i, .int j => some (decide (j ≤ i))
  | .str x, .str y => some (!decide (x.cps.toList < y.cps.toList))
  | _, _ => none
def isNonD : PyData → Bool
  | .none => true
  | _ => false
/-- x is None, x is True -/
def gIs : PyData → PyData → Option Bool
  | d, .none => some (isNonD d)
  | .bool a, .bool b => some (decide (a = b))
  | _, _ => none
def gIn : PyData → PyData → Option Bool
  | .str x, .str y => if x.cps.size = 1 then some (decide (x.cps.getD 0 0 ∈ y.cps.toList)) else none
  | d, .list ds => if SeqAt.shaped d && SeqAt.shaped (.list ds) then some (ds.any fun z => PyData.eqv z d) else none
  | d, .tuple ds => if flatD d && ds.all flatD then some (ds.any fun z => PyData.eqv z d) else none
  | d, .dict ds => (toKey d).map fun k => (lookK ds k).isSome
  | _, _ => none
def gNot (o : Option Bool) : Option Bool := o.map (!·)
def VC (g : PyData → PyData → Option Bool) (r : R2) : Prop :=
  ∀ (am : Option Addr) (O : Addr → Prop) (H : Hp) (v w : V) (d e : PyData) (c : Bool) (Q : VK), Lt am O H v d → Lt am O H w e → g d e = some c → Q (.bl c) H → r v w H Q
def CmpR (X : Cx) (op : CmpOp) (g : PyData → PyData → Option Bool) : Prop := ∃ r : R2, OpR X (compareOp op) r ∧ VC g r
def dCmp (g : PyData → PyData → Option Bool) (fa fb : DEnv → HS → Res PyData) : DEnv → HS → Res Bool := fun δ h => (fa δ h).bind fun a h1 => (fb δ h1).op (g a)
def toB (f : DEnv → HS → Res Bool) : DEnv → HS → Res PyData := fun δ h => (f δ h).op fun b => some (.bool b)
def dChain (g g' : PyData → PyData → Option Bool) (fa fb fc : DEnv → HS → Res PyData) : DEnv → HS → Res Bool := fun δ h => (fa δ h).bind fun a h1 => (fb δ h1).bind fun b h2 => match g a b with
  | some true => (fc δ h2).op (g' b)
  | some false => .ok false h2
  | none => .no
theorem flat_eqv {am : Option Addr} {O : Addr → Prop} {H : Hp} {x y : V} {d e : PyData} (lx : Lt am O H x d) (ly : Dt O H y e) (fd : flatD d = true) (fe : flatD e = true) : flatV x = true ∧ flatV y = true ∧ eqV y x = PyData.eqv e d := by
  cases d with
  | none =>
    cases lx.non
    cases e with
    | none => cases ly; exact ⟨rfl, rfl, by simp [eqV, PyData.eqv]⟩
    | bool b => cases ly; exact ⟨rfl, rfl, by simp [eqV, PyData.eqv]⟩
    | int i => cases ly; exact ⟨rfl, rfl, by simp [eqV, PyData.eqv]⟩
    | str z => cases ly; exact ⟨rfl, rfl, by simp [eqV, PyData.eqv]⟩
    | _ => cases fe
  | bool a =>
    cases lx.bl
    cases e with
    | none => cases ly; exact ⟨rfl, rfl, by simp [eqV, PyData.eqv]⟩
    | bool b => cases ly; exact ⟨rfl, rfl, by simp [eqV, PyData.eqv]⟩
    | int i => cases ly; exact ⟨rfl, rfl, by simp [eqV, PyData.eqv]⟩
    | str z => cases ly; exact ⟨rfl, rfl, by simp [eqV, PyData.eqv]⟩
    | _ => cases fe
  | int a =>
    cases lx.int
    cases e with
    | none => cases ly; exact ⟨rfl, rfl, by simp [eqV, PyData.eqv]⟩
    | bool b => cases ly; exact ⟨rfl, rfl, by simp [eqV, PyData.eqv]⟩
    | int i => cases ly; exact ⟨rfl, rfl, by simp [eqV, PyData.eqv]⟩
    | str z => cases ly; exact ⟨rfl, rfl, by simp [eqV, PyData.eqv]⟩
    | _ => cases fe
  | str a =>
    cases lx.str.1
    cases e with
    | none => cases ly; exact ⟨rfl, rfl, by simp [eqV, PyData.eqv]⟩
    | bool b => cases ly; exact ⟨rfl, rfl, by simp [eqV, PyData.eqv]⟩
    | int i => cases ly; exact ⟨rfl, rfl, by simp [eqV, PyData.eqv]⟩
    | str z => cases ly; exact ⟨rfl, rfl, by simp [eqV, PyData.eqv]⟩
    | _ => cases fe
  | _ => cases fd
theorem flat_in {am : Option Addr} {O : Addr → Prop} {H : Hp} {x : V} {d : PyData} (lx : Lt am O H x d) (fd : flatD d = true) : ∀ {ys : List V} {ds : List PyData}, DtA O H ys ds → ds.all flatD = true → ys.all flatV = true ∧ inV x ys = ds.any fun z => PyData.eqv z d
  | _, [], h, _ => by cases h; exact ⟨rfl, rfl⟩
  | _, e :: ds, h, c => by
    rw [List.all_cons, Bool.and_eq_true] at c
    cases h with
    | cons a b =>
      obtain ⟨h1, h2⟩ := flat_in lx fd b c.2
      obtain ⟨_, f2, f3⟩ := flat_eqv lx a fd c.1
      unfold inV at h2 ⊢
      rw [List.all_cons, List.any_cons, List.any_cons, f2, f3, h1, h2]
      exact ⟨rfl, rfl⟩
theorem str_one {x : Str} (h : x.cps.size = 1) : x = ⟨#[x.cps.getD 0 0]⟩ := by
  obtain ⟨⟨l⟩⟩ := x
  match l, h with
  | [c], _ => rfl
section
variable {T : List (Addr × Str)} {CL : Str → Option Addr} {W : WX} {X : Cx} {pos : Pos} {a b c : Expr} {fa fb fc : DEnv → HS → Res PyData}
theorem cEq (hu : X.A.units + 64 < cLine) : CmpR X .Eq gEq := ⟨_, op_eqD hu, fun am O H v w d e c Q lv lw hg q => by
  simp only [gEq, Option.ite_none_right_eq_some, Option.some.injEq, Bool.and_eq_true] at hg
  obtain ⟨⟨s1, s2⟩, rfl⟩ := hg
  exact ⟨d, e, lv.dp (SeqAt.canLay_of_shaped s1), lw.dp (SeqAt.canLay_of_shaped s2), s1, s2, q⟩⟩
theorem cNe (hu : X.A.units + 64 < cLine) : CmpR X .NotEq gNe := ⟨_, op_neD hu, fun am O H v w d e c Q lv lw hg q => by
  simp only [gNe, Option.ite_none_right_eq_some, Option.some.injEq, Bool.and_eq_true] at hg
  obtain ⟨⟨s1, s2⟩, rfl⟩ := hg
  exact ⟨d, e, lv.dp (SeqAt.canLay_of_shaped s1), lw.dp (SeqAt.canLay_of_shaped s2), s1, s2, q⟩⟩
theorem cmp_is {op : CmpOp} {gi : Int → Int → Bool} {gs : Str → Str → Bool} {g : PyData → PyData → Option Bool} (h1 : OpR X (compareOp op) (rI0 fun i j => .bl (gi i j))) (h2 : OpR X (compareOp op) (fun x y H Q => ∃ i j, x = .str i ∧ y = .str j ∧ Q (.bl (gs i j)) H))
    (hg : ∀ d e c, g d e = some c → (∃ i j, d = .int i ∧ e = .int j ∧ c = gi i j) ∨ ∃ i j, d = .str i ∧ e = .str j ∧ c = gs i j) : CmpR X op g := ⟨_, OpR.or h1 h2, fun am O H v w d e c Q lv lw h q => by
  rcases hg d e c h with ⟨i, j, rfl, rfl, rfl⟩ | ⟨i, j, rfl, rfl, rfl⟩
  · exact .inl ⟨i, j, lv.int, lw.int, q⟩
  · exact .inr ⟨i, j, lv.str.1, lw.str.1, q⟩⟩
theorem cLt : CmpR X .Lt gLt := cmp_is op_lt op_lt_str fun d e c h => by
  cases d <;> cases e <;> first | (cases h; exact .inl ⟨_, _, rfl, rfl, rfl⟩) | (cases h; exact .inr ⟨_, _, rfl, rfl, rfl⟩) | cases h
theorem cLe : CmpR X .LtE gLe := cmp_is op_le op_le_str fun d e c h => by
  cases d <;> cases e <;> first | (cases h; exact .inl ⟨_, _, rfl, rfl, rfl⟩) | (cases h; exact .inr ⟨_, _, rfl, rfl, rfl⟩) | cases h
theorem cGt : CmpR X .Gt gGt := cmp_is op_gt op_gt_str fun d e c h => by
  cases d <;> cases e <;> first | (cases h; exact .inl ⟨_, _, rfl, rfl, rfl⟩) | (cases h; exact .inr ⟨_, _, rfl, rfl, rfl⟩) | cases h
theorem cGe : CmpR X .GtE gGe := cmp_is op_ge op_ge_str fun d e c h => by
  cases d <;> cases e <;> first | (cases h; exact .inl ⟨_, _, rfl, rfl, rfl⟩) | (cases h; exact .inr ⟨_, _, rfl, rfl, rfl⟩) | cases h
theorem lt_non_ne {am : Option Addr} {O : Addr → Prop} {H : Hp} {v : V} {d : PyData} (l : Lt am O H v d) : decide (v = .non) = (isNonD d) := by
  cases d with
  | none => cases l.non; rfl
  | bool b => cases l.bl; rfl
  | int b => cases l.int; rfl
  | str b => cases l.str.1; rfl
  | list b => obtain ⟨_, _, rfl, _⟩ := l.list; rfl
  | tuple b => obtain ⟨_, _, rfl, _⟩ := l.tup; rfl
  | dict b => obtain ⟨_, _, rfl, _⟩ := l.dic; rfl
theorem gIs_inv {d e : PyData} {c : Bool} (h : gIs d e = some c) : (e = .none ∧ c = (isNonD d)) ∨ ∃ p q, d = .bool p ∧ e = .bool q ∧ c = decide (p = q) := by
  cases e with
  | none =>
    have : gIs d .none = some (isNonD d) := by cases d <;> rfl
    rw [this] at h
    exact .inl ⟨rfl, (Option.some.inj h).symm⟩
  | bool q =>
    cases d with
    | bool p => exact .inr ⟨p, q, rfl, rfl, (Option.some.inj h).symm⟩
    | _ => cases h
  | _ => cases d <;> cases h
theorem cIs : CmpR X .Is gIs := ⟨_, OpR.or op_isN op_isBl, fun am O H v w d e c Q lv lw hg q => by
  rcases gIs_inv hg with ⟨rfl, rfl⟩ | ⟨p, r, rfl, rfl, rfl⟩
  · exact .inl ⟨lw.non, by rw [lt_non_ne lv]; exact q⟩
  · exact .inr ⟨p, r, lv.bl, lw.bl, q⟩⟩
theorem cIsNot : CmpR X .IsNot (fun d e => gNot (gIs d e)) := ⟨_, OpR.or op_notN op_notBl, fun am O H v w d e c Q lv lw hg q => by
  obtain ⟨c', h1, rfl⟩ := Option.map_eq_some_iff.mp hg
  rcases gIs_inv h1 with ⟨rfl, rfl⟩ | ⟨p, r, rfl, rfl, rfl⟩
  · exact .inl ⟨lw.non, by rw [lt_non_ne lv]; exact q⟩
  · exact .inr ⟨p, r, lv.bl, lw.bl, q⟩⟩
theorem op_inKey (hu : X.A.units + 1 < cLine) : OpR X (compareOp .In) (fun x y H Q => ∃ a o, y = .ref a ∧ DGet H a x o ∧ Q (.bl o.isSome) H) := by
  intro pins s σ H x y v u Q I rx ry h
  obtain ⟨a, o, rfl, g, q⟩ := h
  obtain rfl : u = Value.ref a := ry
  exact d_in hu I g rx fun s3 I3 => ⟨.bl o.isSome, H, I3, rfl, q⟩
theorem op_notInKey (hu : X.A.units + 1 < cLine) : OpR X (compareOp .NotIn) (fun x y H Q => ∃ a o, y = .ref a ∧ DGet H a x o ∧ Q (.bl (!o.isSome)) H) := by
  intro pins s σ H x y v u Q I rx ry h
  obtain ⟨a, o, rfl, g, q⟩ := h
  obtain rfl : u = Value.ref a := ry
  exact d_notIn hu I g rx fun s3 I3 => ⟨.bl (!o.isSome), H, I3, rfl, q⟩
theorem gIn_inv {d e : PyData} {c : Bool} (h : gIn d e = some c) : (∃ x y, d = .str x ∧ e = .str y ∧ x.cps.size = 1 ∧ c = decide (x.cps.getD 0 0 ∈ y.cps.toList)) ∨ (∃ ds, e = .list ds ∧ SeqAt.shaped d = true ∧ SeqAt.shaped (.list ds) = true ∧ c = ds.any fun z => PyData.eqv z d) ∨
    (∃ ds, e = .tuple ds ∧ flatD d = true ∧ ds.all flatD = true ∧ c = ds.any fun z => PyData.eqv z d) ∨ ∃ ds k, e = .dict ds ∧ toKey d = some k ∧ c = (lookK ds k).isSome := by
  cases e with
  | str y =>
    cases d with
    | str x =>
      simp only [gIn, Option.ite_none_right_eq_some, Option.some.injEq] at h
      exact .inl ⟨x, y, rfl, rfl, h.1, h.2.symm⟩
    | _ => cases h
  | list ds =>
    have e1 : gIn d (.list ds) = if SeqAt.shaped d && SeqAt.shaped (.list ds) then some (ds.any fun z => PyData.eqv z d) else none := by cases d <;> rfl
    rw [e1] at h
    simp only [Option.ite_none_right_eq_some, Option.some.injEq, Bool.and_eq_true] at h
    exact .inr (.inl ⟨ds, rfl, h.1.1, h.1.2, h.2.symm⟩)
  | tuple ds =>
    have e1 : gIn d (.tuple ds) = if flatD d && ds.all flatD then some (ds.any fun z => PyData.eqv z d) else none := by cases d <;> rfl
    rw [e1] at h
    simp only [Option.ite_none_right_eq_some, Option.some.injEq, Bool.and_eq_true] at h
    exact .inr (.inr (.inl ⟨ds, rfl, h.1.1, h.1.2, h.2.symm⟩))
  | dict ds =>
    have e1 : gIn d (.dict ds) = (toKey d).map fun k => (lookK ds k).isSome := by cases d <;> rfl
    rw [e1] at h
    obtain ⟨k, h1, h2⟩ := Option.map_eq_some_iff.mp h
    exact .inr (.inr (.inr ⟨ds, k, rfl, h1, h2.symm⟩))
  | _ => cases d <;> cases h
theorem cIn (hu : X.A.units + 65 < cLine) : CmpR X .In gIn := ⟨_, OpR.or op_in_sign (OpR.or (op_inD hu) (OpR.or op_in_seq (op_inKey (by omega)))), fun am O H v w d e c Q lv lw hg q => by
  rcases gIn_inv hg with ⟨x, y, rfl, rfl, h1, rfl⟩ | ⟨ds, rfl, s1, s2, rfl⟩ | ⟨ds, rfl, f1, f2, rfl⟩ | ⟨ds, k, rfl, hk, rfl⟩
  · exact .inl ⟨_, y, by rw [lv.str.1, ← str_one h1], lw.str.1, q⟩
  · exact .inr (.inl ⟨d, ds, lv.dp (SeqAt.canLay_of_shaped s1), lw.dp (SeqAt.canLay_of_shaped s2), s1, s2, q⟩)
  · obtain ⟨p, xs, rfl, r, t, _⟩ := lw.tup
    obtain ⟨a1, a2⟩ := flat_in lv f1 t f2
    have fv : flatV v = true := by
      cases d with
      | none => cases lv.non; rfl
      | bool b => cases lv.bl; rfl
      | int b => cases lv.int; rfl
      | str b => cases lv.str.1; rfl
      | _ => cases f1
    refine .inr (.inr (.inl ⟨p, xs, rfl, .inr (.inl r), fv, a1, ?_⟩))
    show Q (.bl (inV v xs)) H
    rw [a2]
    exact q
  · obtain ⟨p, kvs, rfl, r, t⟩ := lw.dic
    refine .inr (.inr (.inr ⟨p, valV kvs k, rfl, .inl ⟨kvs, k, r, toKey_kV lv hk, rfl⟩, ?_⟩))
    rcases t.look (k := k) with ⟨e1, e2⟩ | ⟨v', d', e1, e2, _⟩
    · rw [e1]; rw [e2] at q; exact q
    · rw [e1]; rw [e2] at q; exact q⟩
theorem cNotIn (hu : X.A.units + 65 < cLine) : CmpR X .NotIn (fun d e => gNot (gIn d e)) := ⟨_, OpR.or op_notIn_sign (OpR.or (op_notInD hu) (OpR.or op_notIn_seq (op_notInKey (by omega)))), fun am O H v w d e c Q lv lw hg q => by
  obtain ⟨c', h1, rfl⟩ := Option.map_eq_some_iff.mp hg
  rcases gIn_inv h1 with ⟨x, y, rfl, rfl, h2, rfl⟩ | ⟨ds, rfl, s1, s2, rfl⟩ | ⟨ds, rfl, f1, f2, rfl⟩ | ⟨ds, k, rfl, hk, rfl⟩
  · exact .inl ⟨_, y, by rw [lv.str.1, ← str_one h2], lw.str.1, q⟩
  · exact .inr (.inl ⟨d, ds, lv.dp (SeqAt.canLay_of_shaped s1), lw.dp (SeqAt.canLay_of_shaped s2), s1, s2, q⟩)
  · obtain ⟨p, xs, rfl, r, t, _⟩ := lw.tup
    obtain ⟨a1, a2⟩ := flat_in lv f1 t f2
    have fv : flatV v = true := by
      cases d with
      | none => cases lv.non; rfl
      | bool b => cases lv.bl; rfl
      | int b => cases lv.int; rfl
      | str b => cases lv.str.1; rfl
      | _ => cases f1
    refine .inr (.inr (.inl ⟨p, xs, rfl, .inr (.inl r), fv, a1, ?_⟩))
    show Q (.bl (!inV v xs)) H
    rw [a2]
    exact q
  · obtain ⟨p, kvs, rfl, r, t⟩ := lw.dic
    refine .inr (.inr (.inr ⟨p, valV kvs k, rfl, .inl ⟨kvs, k, r, toKey_kV lv hk, rfl⟩, ?_⟩))
    rcases t.look (k := k) with ⟨e1, e2⟩ | ⟨v', d', e1, e2, _⟩
    · rw [e1]; rw [e2] at q; exact q
    · rw [e1]; rw [e2] at q; exact q⟩
/-! ### readings of tests, one after another -/
def AftT (T : List (Addr × Str)) (CL : Str → Option Addr) (W : WX) (am : Option Addr) (O : Addr → Prop) (σ : L2.St) (H : Hp) (Q : Bool → Hp → Prop) (r : Res Bool) : Prop := match r with
  | .ok b h' => ∀ H', Eff am H H' → Wd T am O H' h' → Q b H'
  | .exc x h' => ∀ cls dd H', Eff am H H' → Wd T am O H' h' → XR CL x cls dd H' → W cls dd σ H'
  | .no => False
theorem AftT.step {am : Option Addr} {O : Addr → Prop} {σ : L2.St} {H H1 : Hp} {Q : Bool → Hp → Prop} {r : Res Bool} (e : Eff am H H1) (h : AftT T CL W am O σ H Q r) : AftT T CL W am O σ H1 Q r := by
  revert h
  unfold AftT
  cases r with
  | ok d h' => exact fun h H' e' r => h H' (e.trans e') r
  | exc x h' => exact fun h cls dd H' e' w x => h cls dd H' (e.trans e') w x
  | no => exact id
theorem tT_of {f : DEnv → HS → Res Bool} {am : Option Addr} {Oc : Addr → Prop} {H0 : Bs} {H : Hp} {σ : L2.St} {δ : DEnv} {h : HS} {Q : Bool → Hp → Prop} (x : At T am Oc H0 σ H δ h) (q : AftT T CL W am (OO Oc σ δ) σ H Q (f δ h)) : tT T CL W f σ H Q :=
  ⟨am, Oc, H0, δ, h, x, q⟩
theorem of_tT {f : DEnv → HS → Res Bool} {H : Hp} {σ : L2.St} {Q : Bool → Hp → Prop} (q : tT T CL W f σ H Q) : ∃ am Oc H0 δ h, At T am Oc H0 σ H δ h ∧ AftT T CL W am (OO Oc σ δ) σ H Q (f δ h) := q
/-- a value first, then a test -/
theorem AftT.bindE {k1 : RK} {am : Option Addr} {Oc : Addr → Prop} {H0 : Bs} {H : Hp} {σ : L2.St} {δ : DEnv} {h : HS} {Q : Bool → Hp → Prop} {K : VK} {r : Res PyData} {g : PyData → HS → Res Bool} (x : At T am Oc H0 σ H δ h)
    (q : AftT T CL W am (OO Oc σ δ) σ H Q (r.bind g))
    (s : ∀ d1 h1 v1 H1, At T am Oc H0 σ H1 δ h1 → Eff am H H1 → Rl T k1 am (OO Oc σ δ) H H1 h1 v1 d1 → AftT T CL W am (OO Oc σ δ) σ H1 Q (g d1 h1) → K v1 H1) : Aft T CL W k1 am (OO Oc σ δ) σ H K r := by
  cases r with
  | ok d h' => exact fun v H' e r => s d h' v H' (x.eff' e (r.wd x.amO)) e r (AftT.step e q)
  | exc x h' => exact q
  | no => exact q
/-- a test first, then a value -/
theorem Aft.bindT {k : RK} {am : Option Addr} {Oc : Addr → Prop} {H0 : Bs} {H : Hp} {σ : L2.St} {δ : DEnv} {h : HS} {Q : VK} {K : Bool → Hp → Prop} {r : Res Bool} {g : Bool → HS → Res PyData} (x : At T am Oc H0 σ H δ h)
    (q : Aft T CL W k am (OO Oc σ δ) σ H Q (r.bind g))
    (s : ∀ d1 h1 H1, At T am Oc H0 σ H1 δ h1 → Eff am H H1 → Aft T CL W k am (OO Oc σ δ) σ H1 Q (g d1 h1) → K d1 H1) : AftT T CL W am (OO Oc σ δ) σ H K r := by
  cases r with
  | ok d h' => exact fun H' e w => s d h' H' (x.eff' e w) e (Aft.step e q)
  | exc x h' => exact q
  | no => exact q
theorem AftT.bindT {am : Option Addr} {Oc : Addr → Prop} {H0 : Bs} {H : Hp} {σ : L2.St} {δ : DEnv} {h : HS} {Q K : Bool → Hp → Prop} {r : Res Bool} {g : Bool → HS → Res Bool} (x : At T am Oc H0 σ H δ h)
    (q : AftT T CL W am (OO Oc σ δ) σ H Q (r.bind g))
    (s : ∀ d1 h1 H1, At T am Oc H0 σ H1 δ h1 → Eff am H H1 → AftT T CL W am (OO Oc σ δ) σ H1 Q (g d1 h1) → K d1 H1) : AftT T CL W am (OO Oc σ δ) σ H K r := by
  cases r with
  | ok d h' => exact fun H' e w => s d h' H' (x.eff' e w) e (AftT.step e q)
  | exc x h' => exact q
  | no => exact q
/-- the comparison's own reading -/
theorem tT_cmp {g : PyData → PyData → Option Bool} {r : R2} (u : VC g r) {σ : L2.St} {H : Hp} {Q : Bool → Hp → Prop} (q : tT T CL W (dCmp g fa fb) σ H Q) : tTest (tOp r (tE T CL W .L fa) (tE T CL W .L fb)) σ H Q := by
  obtain ⟨am, Oc, H0, δ, h, x, q⟩ := of_tT q
  refine tE_of x (AftT.bindE x q fun d1 h1 v1 H1 x1 e1 r1 q1 => ?_)
  rw [res_op_eq] at q1
  refine tE_of x1 (AftT.bindE x1 q1 fun d2 h2 v2 H2 x2 e2 r2 q2 => ?_)
  cases hg : g d1 d2 with
  | none => rw [hg] at q2; exact q2.elim
  | some d3 =>
    rw [hg] at q2
    exact u am _ H2 v1 v2 d1 d2 d3 _ (r1.2.kp e2 x2.amO) r2.2 hg ⟨d3, rfl, q2 H2 Eff.refl x2.wd⟩
theorem toB_tT {f : DEnv → HS → Res Bool} {σ : L2.St} {H : Hp} {Q : VK} (q : tE T CL W .N (toB f) σ H Q) : tT T CL W f σ H fun b H' => Q (.bl b) H' := by
  obtain ⟨am, Oc, H0, δ, h, x, q⟩ := of_tE q
  refine tT_of x ?_
  unfold toB at q
  cases hf : f δ h with
  | ok b h' =>
    rw [hf] at q
    exact fun H' e w => q (.bl b) H' e (.inl ⟨w, .bl b, rfl⟩)
  | exc y h' => rw [hf] at q; exact q
  | no => rw [hf] at q; exact q
theorem t_cmp {op : CmpOp} {g : PyData → PyData → Option Bool} (hc : CmpR X op g) (ha : ED T CL W X .L a fa) (hb : ED T CL W X .L b fb) (hm : behindInMarks op b = false) : TD T CL W X (.Compare a [op] [b] pos) (dCmp g fa fb) := by
  obtain ⟨r, ho, u⟩ := hc
  exact PT.imp (pt_cmpR ho ha hb hm) fun σ H Q q => tT_cmp u q
theorem tOp_val {r : R2} {ta tb : TE} {σ : L2.St} {H : Hp} {Q : VK} (hm : ∀ x y H (Q Q' : VK), (∀ v H, Q v H → Q' v H) → r x y H Q → r x y H Q') : True := trivial
theorem e_cmp {op : CmpOp} {g : PyData → PyData → Option Bool} (hc : CmpR X op g) (ha : ED T CL W X .L a fa) (hb : ED T CL W X .L b fb) (hm : behindInMarks op b = false) : ED T CL W X .N (.Compare a [op] [b] pos) (toB (dCmp g fa fb)) := by
  obtain ⟨r, ho, u⟩ := hc
  refine PE.imp (pe_cmpR ho ha hb hm) fun σ H Q q => ?_
  obtain ⟨am, Oc, H0, δ, h, x, q⟩ := of_tT (toB_tT q)
  refine tE_of x (AftT.bindE x q fun d1 h1 v1 H1 x1 e1 r1 q1 => ?_)
  rw [res_op_eq] at q1
  refine tE_of x1 (AftT.bindE x1 q1 fun d2 h2 v2 H2 x2 e2 r2 q2 => ?_)
  cases hg : g d1 d2 with
  | none => rw [hg] at q2; exact q2.elim
  | some d3 =>
    rw [hg] at q2
    exact u am _ H2 v1 v2 d1 d2 d3 _ (r1.2.kp e2 x2.amO) r2.2 hg (q2 H2 Eff.refl x2.wd)
theorem chain_core {op op' : CmpOp} {g g' : PyData → PyData → Option Bool} {r r' : R2} (u : VC g r) (u' : VC g' r') {am : Option Addr} {Oc : Addr → Prop} {H0 : Bs} {H : Hp} {σ : L2.St} {δ : DEnv} {h : HS} {Q : Bool → Hp → Prop} {K : VK} (hK : ∀ k H', Q k H' → K (.bl k) H') (x : At T am Oc H0 σ H δ h)
    (q : AftT T CL W am (OO Oc σ δ) σ H Q (dChain g g' fa fb fc δ h)) : tChain r r' (tE T CL W .L fa) (tE T CL W .L fb) (tE T CL W .L fc) σ H K := by
  refine tE_of x (AftT.bindE x q fun d1 h1 v1 H1 x1 e1 r1 q1 => ?_)
  refine tE_of x1 (AftT.bindE x1 q1 fun d2 h2 v2 H2 x2 e2 r2 q2 => ?_)
  cases hg : g d1 d2 with
  | none => rw [hg] at q2; exact q2.elim
  | some k =>
    rw [hg] at q2
    refine u am _ H2 v1 v2 d1 d2 k _ (r1.2.kp e2 x2.amO) r2.2 hg ⟨k, rfl, ?_⟩
    cases k with
    | false => exact iteF (hK _ _ (q2 H2 Eff.refl x2.wd))
    | true =>
      refine iteT ?_
      have q2 : AftT T CL W am (OO Oc σ δ) σ H2 Q ((fc δ h2).op (g' d2)) := q2
      rw [res_op_eq] at q2
      refine tE_of x2 (AftT.bindE x2 q2 fun d3 h3 v3 H3 x3 e3 r3 q3 => ?_)
      cases hg' : g' d2 d3 with
      | none => rw [hg'] at q3; exact q3.elim
      | some k' =>
        rw [hg'] at q3
        exact u' am _ H3 v2 v3 d2 d3 k' _ (r2.2.kp e3 x3.amO) r3.2 hg' (hK _ _ (q3 H3 Eff.refl x3.wd))
theorem t_chain {op op' : CmpOp} {g g' : PyData → PyData → Option Bool} (h1 : CmpR X op g) (h2 : CmpR X op' g') (ha : ED T CL W X .L a fa) (hb : ED T CL W X .L b fb) (hc : ED T CL W X .L c fc) (hm : lastMarks [op, op'] [b, c] = false := by with_unfolding_all rfl) :
    TD T CL W X (.Compare a [op, op'] [b, c] pos) (dChain g g' fa fb fc) := by
  obtain ⟨r, ho, u⟩ := h1
  obtain ⟨r', ho', u'⟩ := h2
  refine PT.imp (pt_chain ho ho' ha hb hc hm) fun σ H Q q => ?_
  obtain ⟨am, Oc, H0, δ, h, x, q⟩ := of_tT q
  exact chain_core (op := op) (op' := op') u u' (fun k H' q => ⟨k, rfl, q⟩) x q
theorem e_chain {op op' : CmpOp} {g g' : PyData → PyData → Option Bool} (h1 : CmpR X op g) (h2 : CmpR X op' g') (ha : ED T CL W X .L a fa) (hb : ED T CL W X .L b fb) (hc : ED T CL W X .L c fc) (hm : lastMarks [op, op'] [b, c] = false := by with_unfolding_all rfl) :
    ED T CL W X .N (.Compare a [op, op'] [b, c] pos) (toB (dChain g g' fa fb fc)) := by
  obtain ⟨r, ho, u⟩ := h1
  obtain ⟨r', ho', u'⟩ := h2
  refine PE.imp (pe_chain ho ho' ha hb hc hm) fun σ H Q q => ?_
  obtain ⟨am, Oc, H0, δ, h, x, q⟩ := of_tT (toB_tT q)
  exact chain_core (op := op) (op' := op') u u' (fun k H' q => q) x q
/-! ### truth -/
def gTru : PyData → Option Bool
  | .none => some false
  | .bool b => some b
  | .int i => some (i != 0)
  | .str x => some ((x.length : Int) != 0)
  | .list ds => some (!ds.isEmpty)
  | .tuple ds => some (!ds.isEmpty)
  | .dict _ => none
theorem DtA.isEmpty {O : Addr → Prop} {H : Hp} {xs : List V} {ds : List PyData} (h : DtA O H xs ds) : xs.isEmpty = ds.isEmpty := by
  cases h <;> rfl
theorem tru_of {am : Option Addr} {O : Addr → Prop} {H : Hp} {v : V} {d : PyData} {k : Bool} (l : Lt am O H v d) (h : gTru d = some k) : TruV X.K v H k := by
  cases d with
  | none => cases l.non; cases h; rfl
  | bool b => cases l.bl; cases h; rfl
  | int b => cases l.int; cases h; rfl
  | str b => obtain ⟨rfl, z, _⟩ := l.str; cases h; exact ⟨z, rfl⟩
  | list b => obtain ⟨p, xs, rfl, r, t⟩ := l.list; cases h; exact .inl ⟨xs, SqL.of r, by rw [t.isEmpty]⟩
  | tuple b => obtain ⟨p, xs, rfl, r, t, _⟩ := l.tup; cases h; exact .inr (.inl ⟨xs, .inl r, by rw [t.isEmpty]⟩)
  | dict b => cases h
def dTru (fa : DEnv → HS → Res PyData) : DEnv → HS → Res Bool := fun δ h => (fa δ h).op gTru
theorem t_val (ha : ED T CL W X .L a fa) (he : ∀ whole, isTrue a X.env whole = (do let v ← whole; standAt a.pos; holding [v] (truthy v)) := by intro _; rfl) : TD T CL W X a (dTru fa) := PT.imp (pt_truth ha he) fun σ H Q q => by
  obtain ⟨am, Oc, H0, δ, h, x, q⟩ := of_tT q
  unfold dTru at q
  rw [res_op_eq] at q
  refine tE_of x (AftT.bindE x q fun d1 h1 v1 H1 x1 e1 r1 q1 => ?_)
  cases hg : gTru d1 with
  | none => rw [hg] at q1; exact q1.elim
  | some k =>
    rw [hg] at q1
    exact ⟨k, tru_of r1.2 hg, q1 H1 Eff.refl x1.wd⟩
/-! ### and, or, not -/
def dAnd (f g : DEnv → HS → Res Bool) : DEnv → HS → Res Bool := fun δ h => (f δ h).bind fun b h1 => match b with
  | true => g δ h1
  | false => .ok false h1
def dOr (f g : DEnv → HS → Res Bool) : DEnv → HS → Res Bool := fun δ h => (f δ h).bind fun b h1 => match b with
  | true => .ok true h1
  | false => g δ h1
def dNot (f : DEnv → HS → Res Bool) : DEnv → HS → Res Bool := fun δ h => (f δ h).op fun b => some (!b)
abbrev WD (T : List (Addr × Str)) (CL : Str → Option Addr) (W : WX) (X : Cx) (e : Expr) (f : DEnv → HS → Res Bool) : Prop := PW X e (tT T CL W f)
theorem tAnd_of {f g : DEnv → HS → Res Bool} {σ : L2.St} {H : Hp} {Q : Bool → Hp → Prop} (q : tT T CL W (dAnd f g) σ H Q) : tAnd (tT T CL W f) (tT T CL W g) σ H Q := by
  obtain ⟨am, Oc, H0, δ, h, x, q⟩ := of_tT q
  refine tT_of x (AftT.bindT x q fun d1 h1 H1 x1 e1 q1 => ?_)
  cases d1 with
  | true => exact iteT (tT_of x1 q1)
  | false => exact iteF (q1 H1 Eff.refl x1.wd)
theorem tOr_of {f g : DEnv → HS → Res Bool} {σ : L2.St} {H : Hp} {Q : Bool → Hp → Prop} (q : tT T CL W (dOr f g) σ H Q) : tOr (tT T CL W f) (tT T CL W g) σ H Q := by
  obtain ⟨am, Oc, H0, δ, h, x, q⟩ := of_tT q
  refine tT_of x (AftT.bindT x q fun d1 h1 H1 x1 e1 q1 => ?_)
  cases d1 with
  | false => exact iteF (tT_of x1 q1)
  | true => exact iteT (q1 H1 Eff.refl x1.wd)
theorem w_and1 {f : DEnv → HS → Res Bool} (ha : TD T CL W X a f) : WD T CL W X (.BoolOp .And [a] pos) f := pw_and1 ha
theorem w_or1 {f : DEnv → HS → Res Bool} (ha : TD T CL W X a f) : WD T CL W X (.BoolOp .Or [a] pos) f := pw_or1 ha
theorem w_and {r : List Expr} {f g : DEnv → HS → Res Bool} (ha : TD T CL W X a f) (hb : WD T CL W X (.BoolOp .And (b :: r) pos) g) : WD T CL W X (.BoolOp .And (a :: b :: r) pos) (dAnd f g) := PW.imp (pw_and ha hb) fun _ _ _ q => tAnd_of q
theorem w_or {r : List Expr} {f g : DEnv → HS → Res Bool} (ha : TD T CL W X a f) (hb : WD T CL W X (.BoolOp .Or (b :: r) pos) g) : WD T CL W X (.BoolOp .Or (a :: b :: r) pos) (dOr f g) := PW.imp (pw_or ha hb) fun _ _ _ q => tOr_of q
theorem t_w {f : DEnv → HS → Res Bool} (h : WD T CL W X a f) : TD T CL W X a f := h.pt
theorem t_not {f : DEnv → HS → Res Bool} (ha : TD T CL W X a f) : TD T CL W X (.UnaryOp .Not a pos) (dNot f) := PT.imp (pt_not ha) fun σ H Q q => by
  obtain ⟨am, Oc, H0, δ, h, x, q⟩ := of_tT q
  unfold dNot at q
  rw [res_op_eq] at q
  exact tT_of x (AftT.bindT x q fun d1 h1 H1 x1 e1 q1 => q1 H1 Eff.refl x1.wd)
/-- as values -/
def dAndV (f g : DEnv → HS → Res PyData) : DEnv → HS → Res PyData := fun δ h => (f δ h).bind fun d h1 => match gTru d with
  | some true => g δ h1
  | some false => .ok d h1
  | none => .no
def dOrV (f g : DEnv → HS → Res PyData) : DEnv → HS → Res PyData := fun δ h => (f δ h).bind fun d h1 => match gTru d with
  | some true => .ok d h1
  | some false => g δ h1
  | none => .no
theorem e_one {op} {k : RK} (ha : ED T CL W X k a fa) : ED T CL W X k (.BoolOp op [a] pos) fa := pe_one ha
theorem e_and {r : List Expr} (ha : ED T CL W X .D a fa) (hb : ED T CL W X .D (.BoolOp .And (b :: r) pos) fb) : ED T CL W X .D (.BoolOp .And (a :: b :: r) pos) (dAndV fa fb) := PE.imp (pe_andT ha hb) fun σ H Q q => by
  obtain ⟨am, Oc, H0, δ, h, x, q⟩ := of_tE q
  refine tE_of x (Aft.bind x q fun d1 h1 v1 H1 x1 e1 r1 q1 => ?_)
  cases hg : gTru d1 with
  | none => rw [hg] at q1; exact q1.elim
  | some k =>
    rw [hg] at q1
    refine ⟨k, tru_of (r1.D_L).2 hg, ?_⟩
    cases k with
    | true => exact iteT (tE_of x1 q1)
    | false => exact iteF (q1 v1 H1 Eff.refl r1)
theorem e_or {r : List Expr} (ha : ED T CL W X .D a fa) (hb : ED T CL W X .D (.BoolOp .Or (b :: r) pos) fb) : ED T CL W X .D (.BoolOp .Or (a :: b :: r) pos) (dOrV fa fb) := PE.imp (pe_orT ha hb) fun σ H Q q => by
  obtain ⟨am, Oc, H0, δ, h, x, q⟩ := of_tE q
  refine tE_of x (Aft.bind x q fun d1 h1 v1 H1 x1 e1 r1 q1 => ?_)
  cases hg : gTru d1 with
  | none => rw [hg] at q1; exact q1.elim
  | some k =>
    rw [hg] at q1
    refine ⟨k, tru_of (r1.D_L).2 hg, ?_⟩
    cases k with
    | false => exact iteF (tE_of x1 q1)
    | true => exact iteT (q1 v1 H1 Eff.refl r1)
theorem e_not (ha : ED T CL W X .L a fa) : ED T CL W X .N (.UnaryOp .Not a pos) (toB (dNot (dTru fa))) := PE.imp (pe_notT ha) fun σ H Q q => by
  obtain ⟨am, Oc, H0, δ, h, x, q⟩ := of_tT (toB_tT q)
  unfold dNot dTru at q
  have q : AftT T CL W am (OO Oc σ δ) σ H (fun b H' => Q (.bl b) H') ((fa δ h).bind fun d h1 => match gTru d with | some k => .ok (!k) h1 | none => .no) := by
    revert q
    cases fa δ h with
    | ok d h' =>
      simp only [Res.op, Res.bind]
      cases hg : gTru d with
      | none => exact id
      | some k => exact id
    | exc y h' => exact id
    | no => exact id
  refine tE_of x (AftT.bindE x q fun d1 h1 v1 H1 x1 e1 r1 q1 => ?_)
  cases hg : gTru d1 with
  | none => rw [hg] at q1; exact q1.elim
  | some k =>
    rw [hg] at q1
    exact ⟨k, tru_of r1.2 hg, q1 H1 Eff.refl x1.wd⟩
/-- a if t else b -/
def dIf (t : DEnv → HS → Res Bool) (fa fb : DEnv → HS → Res PyData) : DEnv → HS → Res PyData := fun δ h => (t δ h).bind fun b h1 => match b with
  | true => fa δ h1
  | false => fb δ h1
theorem e_if {k : RK} {t : DEnv → HS → Res Bool} (hc : TD T CL W X c t) (ha : ED T CL W X k a fa) (hb : ED T CL W X k b fb) : ED T CL W X k (.IfExp c a b pos) (dIf t fa fb) := PE.imp (pe_ifExp hc ha hb) fun σ H Q q => by
  obtain ⟨am, Oc, H0, δ, h, x, q⟩ := of_tE q
  refine tT_of x (Aft.bindT x q fun d1 h1 H1 x1 e1 q1 => ?_)
  cases d1 with
  | true => exact iteT (tE_of x1 q1)
  | false => exact iteF (tE_of x1 q1)
end
end DL
/-! The data layer, part 5: rows of expressions, displays, subscripts, slices, built-in calls. -/
namespace DL
open PySem PySem.Spec PyProof.Rows L2
/-! ### rows of expressions -/
def dSeq : List (DEnv → HS → Res PyData) → DEnv → HS → Res (List PyData)
  | [], _, h => .ok [] h
  | f :: fs, δ, h => (f δ h).bind fun d h1 => (dSeq fs δ h1).op fun ds => some (d :: ds)
theorem dSeq_len : ∀ {fs : List (DEnv → HS → Res PyData)} {δ : DEnv} {h h' : HS} {ds : List PyData}, dSeq fs δ h = .ok ds h' → ds.length = fs.length
  | [], _, _, _, _, e => by cases e; rfl
  | f :: fs, δ, h, h', ds, e => by
    unfold dSeq at e
    cases hf : f δ h with
    | ok d h1 =>
      rw [hf] at e
      cases hg : dSeq fs δ h1 with
      | ok es h2 =>
        simp only [Res.bind] at e
        rw [hg] at e
        cases e
        rw [List.length_cons, List.length_cons, dSeq_len hg]
      | exc x h2 => simp only [Res.bind] at e; rw [hg] at e; cases e
      | no => simp only [Res.bind] at e; rw [hg] at e; cases e
    | exc x h1 => rw [hf] at e; cases e
    | no => rw [hf] at e; cases e
section
variable {T : List (Addr × Str)} {CL : Str → Option Addr} {W : WX} {X : Cx} {pos : Pos} {a b c : Expr} {fa fb fc : DEnv → HS → Res PyData}
def AftA (T : List (Addr × Str)) (CL : Str → Option Addr) (W : WX) (k : RK) (am : Option Addr) (O : Addr → Prop) (σ : L2.St) (H : Hp) (Q : List V → Hp → Prop) (r : Res (List PyData)) : Prop := match r with
  | .ok ds h' => ∀ vs H', Eff am H H' → Wd T am O H' h' → Paired (fun v d => Rl T k am O H H' h' v d) vs ds → Q vs H'
  | .exc x h' => ∀ cls dd H', Eff am H H' → Wd T am O H' h' → XR CL x cls dd H' → W cls dd σ H'
  | .no => False
theorem paired_imp {α β : Type} {F G : α → β → Prop} {xs : List α} {ys : List β} (h : Paired F xs ys) (k : ∀ a b, F a b → G a b) : Paired G xs ys := Paired.mapP h k
theorem AftA.step {k : RK} {am : Option Addr} {O : Addr → Prop} {σ : L2.St} {H H1 : Hp} {Q : List V → Hp → Prop} {r : Res (List PyData)} (e : Eff am H H1) (h : AftA T CL W k am O σ H Q r) : AftA T CL W k am O σ H1 Q r := by
  revert h
  unfold AftA
  cases r with
  | ok d h' => exact fun h v H' e' w r => h v H' (e.trans e') w (paired_imp r fun _ _ z => z.back e)
  | exc x h' => exact fun h cls dd H' e' w x => h cls dd H' (e.trans e') w x
  | no => exact id
theorem tA_of {k : RK} {f : DEnv → HS → Res (List PyData)} {am : Option Addr} {Oc : Addr → Prop} {H0 : Bs} {H : Hp} {σ : L2.St} {δ : DEnv} {h : HS} {Q : List V → Hp → Prop} (x : At T am Oc H0 σ H δ h) (q : AftA T CL W k am (OO Oc σ δ) σ H Q (f δ h)) : tA T CL W k f σ H Q :=
  ⟨am, Oc, H0, δ, h, x, q⟩
theorem of_tA {k : RK} {f : DEnv → HS → Res (List PyData)} {H : Hp} {σ : L2.St} {Q : List V → Hp → Prop} (q : tA T CL W k f σ H Q) : ∃ am Oc H0 δ h, At T am Oc H0 σ H δ h ∧ AftA T CL W k am (OO Oc σ δ) σ H Q (f δ h) := q
theorem AftA.bindE {k k1 : RK} {am : Option Addr} {Oc : Addr → Prop} {H0 : Bs} {H : Hp} {σ : L2.St} {δ : DEnv} {h : HS} {Q : List V → Hp → Prop} {K : VK} {r : Res PyData} {g : PyData → HS → Res (List PyData)} (x : At T am Oc H0 σ H δ h)
    (q : AftA T CL W k am (OO Oc σ δ) σ H Q (r.bind g))
    (s : ∀ d1 h1 v1 H1, At T am Oc H0 σ H1 δ h1 → Eff am H H1 → Rl T k1 am (OO Oc σ δ) H H1 h1 v1 d1 → AftA T CL W k am (OO Oc σ δ) σ H1 Q (g d1 h1) → K v1 H1) : Aft T CL W k1 am (OO Oc σ δ) σ H K r := by
  cases r with
  | ok d h' => exact fun v H' e r => s d h' v H' (x.eff' e (r.wd x.amO)) e r (AftA.step e q)
  | exc x h' => exact q
  | no => exact q
theorem AftA.bindA {k k1 : RK} {am : Option Addr} {Oc : Addr → Prop} {H0 : Bs} {H : Hp} {σ : L2.St} {δ : DEnv} {h : HS} {Q K : List V → Hp → Prop} {r : Res (List PyData)} {g : List PyData → HS → Res (List PyData)} (x : At T am Oc H0 σ H δ h)
    (q : AftA T CL W k am (OO Oc σ δ) σ H Q (r.bind g))
    (s : ∀ d1 h1 v1 H1, r = .ok d1 h1 → At T am Oc H0 σ H1 δ h1 → Eff am H H1 → Paired (fun v d => Rl T k1 am (OO Oc σ δ) H H1 h1 v d) v1 d1 → AftA T CL W k am (OO Oc σ δ) σ H1 Q (g d1 h1) → K v1 H1) : AftA T CL W k1 am (OO Oc σ δ) σ H K r := by
  cases r with
  | ok d h' => exact fun v H' e w r => s d h' v H' rfl (x.eff' e w) e r (AftA.step e q)
  | exc x h' => exact q
  | no => exact q
theorem Aft.bindA {k k1 : RK} {am : Option Addr} {Oc : Addr → Prop} {H0 : Bs} {H : Hp} {σ : L2.St} {δ : DEnv} {h : HS} {Q : VK} {K : List V → Hp → Prop} {r : Res (List PyData)} {g : List PyData → HS → Res PyData} (x : At T am Oc H0 σ H δ h)
    (q : Aft T CL W k am (OO Oc σ δ) σ H Q (r.bind g))
    (s : ∀ d1 h1 v1 H1, r = .ok d1 h1 → At T am Oc H0 σ H1 δ h1 → Eff am H H1 → Paired (fun v d => Rl T k1 am (OO Oc σ δ) H H1 h1 v d) v1 d1 → Aft T CL W k am (OO Oc σ δ) σ H1 Q (g d1 h1) → K v1 H1) : AftA T CL W k1 am (OO Oc σ δ) σ H K r := by
  cases r with
  | ok d h' => exact fun v H' e w r => s d h' v H' rfl (x.eff' e w) e r (Aft.step e q)
  | exc x h' => exact q
  | no => exact q
theorem Rl.step {k : RK} (hk : k ≠ .N) {am : Option Addr} {O : Addr → Prop} {H H1 H2 : Hp} {h h2 : HS} {v : V} {d : PyData} (ha : ∀ a, am = some a → O a) (r : Rl T k am O H H1 h v d) (e : Eff am H1 H2) (w : Wd T am O H2 h2) : Rl T k am O H H2 h2 v d := by
  cases k with
  | D => exact ⟨w, r.2.kp (Kp.eff0 e ha)⟩
  | L => exact ⟨w, r.2.kp e ha⟩
  | N => exact absurd rfl hk
theorem a_nil {k : RK} : AD T CL W X k [] (dSeq []) := PA.imp pa_nil fun σ H Q q => by
  obtain ⟨am, Oc, H0, δ, h, x, q⟩ := of_tA q
  exact q [] H Eff.refl x.wd .nil
theorem a_cons {k : RK} {es : List Expr} {fs : List (DEnv → HS → Res PyData)} (ha : ED T CL W X k a fa) (hb : AD T CL W X k es (dSeq fs)) (hk : k ≠ .N := by intro h; cases h) (hs : starEach (a :: es) X.env = (false, eval a X.env) :: starEach es X.env := by rfl) : AD T CL W X k (a :: es) (dSeq (fa :: fs)) :=
  PA.imp (pa_cons ha hb hs) fun σ H Q q => by
    obtain ⟨am, Oc, H0, δ, h, x, q⟩ := of_tA q
    refine tE_of x (AftA.bindE x q fun d1 h1 v1 H1 x1 e1 r1 q1 => ?_)
    rw [res_op_eq] at q1
    refine tA_of x1 (AftA.bindA x1 q1 fun ds h2 vs H2 _ x2 e2 r2 q2 => ?_)
    exact q2 (v1 :: vs) H2 Eff.refl x2.wd (.cons (by
      have z := Rl.step hk x.amO r1 e2 x2.wd
      cases k with
      | D => exact z
      | L => exact z
      | N => exact absurd rfl hk) (paired_imp r2 fun v d z => by
      cases k with
      | D => exact z
      | L => exact z
      | N => exact absurd rfl hk))
theorem dta_of {am : Option Addr} {O : Addr → Prop} {H H' : Hp} {h : HS} {vs : List V} {ds : List PyData} (p : Paired (fun v d => Rl T .D am O H H' h v d) vs ds) : DtA O H' vs ds := by
  induction p with
  | nil => exact .nil
  | cons a b ih => exact .cons a.2 ih
theorem lta_of {am : Option Addr} {O : Addr → Prop} {H H' : Hp} {h : HS} {vs : List V} {ds : List PyData} (p : Paired (fun v d => Rl T .L am O H H' h v d) vs ds) : Paired (Lt am O H') vs ds := paired_imp p fun _ _ z => z.2
/-! ### displays -/
def dTup (fs : List (DEnv → HS → Res PyData)) : DEnv → HS → Res PyData := fun δ h => (dSeq fs δ h).op fun ds => some (.tuple ds)
def dLst (fs : List (DEnv → HS → Res PyData)) : DEnv → HS → Res PyData := fun δ h => (dSeq fs δ h).op fun ds => some (.list ds)
theorem few_line {n : Nat} (h : n ≤ 1000) : n ≤ sizeLine := by rw [sizeLine_eq]; omega
theorem e_tup {es : List Expr} {fs : List (DEnv → HS → Res PyData)} {x1} (hs : AD T CL W X .D es (dSeq fs)) (hl : fs.length ≤ 1000 := by exact Nat.le_of_ble_eq_true rfl) : ED T CL W X .N (.Tuple es x1 pos) (dTup fs) := PE.imp (pe_tup hs) fun σ H Q q => by
  obtain ⟨am, Oc, H0, δ, h, x, q⟩ := of_tE q
  unfold dTup at q
  rw [res_op_eq] at q
  refine tA_of x (Aft.bindA x q fun ds h1 vs H1 er x1 e1 r1 q1 => ?_)
  have t := dta_of r1
  exact ⟨by rw [t.length, dSeq_len er]; exact few_line hl, fun p hp => fin_tup x1.wd x1.domO x1.amO hp t fun v' H' s r => q1 v' H' (Eff.same s) r⟩
theorem e_lst {es : List Expr} {fs : List (DEnv → HS → Res PyData)} (hs : AD T CL W X .D es (dSeq fs)) (hl : fs.length ≤ 1000 := by exact Nat.le_of_ble_eq_true rfl) : ED T CL W X .N (.List es pos) (dLst fs) := PE.imp (pe_lst hs) fun σ H Q q => by
  obtain ⟨am, Oc, H0, δ, h, x, q⟩ := of_tE q
  unfold dLst at q
  rw [res_op_eq] at q
  refine tA_of x (Aft.bindA x q fun ds h1 vs H1 er x1 e1 r1 q1 => ?_)
  have t := dta_of r1
  exact ⟨by rw [t.length, dSeq_len er]; exact few_line hl, fun p hp => fin_lst x1.wd x1.domO x1.amO hp t fun v' H' s r => q1 v' H' (Eff.same s) r⟩
/-! ### subscripts -/
def gIx : PyData → PyData → Option PyData
  | .list ds, .int i => atI ds i
  | .tuple ds, .int i => atI ds i
  | .str x, .int i => (atI x.cps.toList i).map fun c => .str ⟨#[c]⟩
  | .dict ds, k => (toKey k).bind fun k => lookK ds k
  | _, _ => none
theorem DtA.at {O : Addr → Prop} {H : Hp} {xs : List V} {ds : List PyData} {i : Int} {d : PyData} (t : DtA O H xs ds) (h : atI ds i = some d) : ∃ v, atI xs i = some v ∧ Dt O H v d := by
  unfold atI at h ⊢
  rw [t.length]
  obtain ⟨j, h1, h2⟩ := Option.bind_eq_some_iff.mp h
  obtain ⟨v, e1, e2⟩ := t.get h2
  exact ⟨v, by rw [h1]; exact e1, e2⟩
theorem ix_dct (hu : X.A.units + 1 < cLine) : IxR X (fun x y H Q => ∃ a v, x = .ref a ∧ DGet H a y (some v) ∧ Q v H) := by
  intro value slice pins s σ H x y v u Q I rx ry h hs
  obtain ⟨a, z, rfl, g, q⟩ := h
  obtain rfl : v = Value.ref a := rx
  exact tail_any (dict_typeIs I g) PySem.F.slot_dict_getitem.lookup (d_getItem hu I g ry fun w' s3 I3 rw' => ⟨z, H, I3, rw', q⟩) hs
theorem sgn_ok {x : Str} {c : Nat} {i : Int} (ox : PyData.strOk x = true) (h : atI x.cps.toList i = some c) : PyData.strOk ⟨#[c]⟩ = true := by
  unfold atI at h
  obtain ⟨j, h1, h2⟩ := Option.bind_eq_some_iff.mp h
  unfold PyData.strOk at ox
  rw [← Array.all_toList, List.all_eq_true] at ox
  have := ox c (List.mem_of_getElem? h2)
  unfold PyData.strOk
  simpa using this
theorem vb_ix : VB T .D gIx (fun x y H Q => rIx X.K x y H Q ∨ ∃ a v, x = V.ref a ∧ DGet H a y (some v) ∧ Q v H) := fun am O H h v w d e d' Q dm ha wd lv lw hg q => by
  cases d with
  | list ds =>
    cases e with
    | int i =>
      obtain ⟨p, xs, rfl, r, t⟩ := lv.list
      obtain ⟨z, h1, h2⟩ := t.at hg
      exact .inl (.inl ⟨p, xs, i, z, rfl, lw.int, SqL.of r, h1, q z H (Same.refl H) ⟨wd, h2⟩⟩)
    | _ => cases hg
  | tuple ds =>
    cases e with
    | int i =>
      obtain ⟨p, xs, rfl, r, t, _⟩ := lv.tup
      obtain ⟨z, h1, h2⟩ := t.at hg
      exact .inl (.inr (.inl ⟨p, xs, i, z, rfl, lw.int, .inl r, h1, q z H (Same.refl H) ⟨wd, h2⟩⟩))
    | _ => cases hg
  | str x =>
    cases e with
    | int i =>
      obtain ⟨rfl, hz, ho⟩ := lv.str
      obtain ⟨c, h1, rfl⟩ := Option.map_eq_some_iff.mp hg
      exact .inl (.inr (.inr ⟨x, i, c, rfl, lw.int, hz, h1, q _ H (Same.refl H) ⟨wd, .str _ (by rw [sizeLine_eq]; show 1 ≤ 16777216; omega) (sgn_ok ho h1)⟩⟩))
    | _ => cases hg
  | dict ds =>
    have hg : ((toKey e).bind fun k => lookK ds k) = some d' := hg
    obtain ⟨k, h1, h2⟩ := Option.bind_eq_some_iff.mp hg
    obtain ⟨p, kvs, rfl, r, t⟩ := lv.dic
    rcases t.look (k := k) with ⟨_, e2⟩ | ⟨v', dd, e1, e2, e3⟩
    · rw [e2] at h2; cases h2
    · rw [e2] at h2
      cases h2
      exact .inr ⟨p, v', rfl, .inl ⟨kvs, k, r, toKey_kV lw h1, e1.symm⟩, q v' H (Same.refl H) ⟨wd, e3⟩⟩
  | _ => cases e <;> cases hg
theorem e_ix (hu : X.A.units + 1 < cLine) (ha : ED T CL W X .L a fa) (hb : ED T CL W X .L b fb) (hs : PlainIx b := by exact fun _ _ => rfl) : ED T CL W X .D (.Subscript a b pos) (dBin gIx fa fb) := PE.imp (pe_ix (ix_seq.or (ix_dct hu)) ha hb hs) fun σ H Q q => tE_bin vb_ix q
/-! ### slices -/
def cutD {α : Type} (ds : List α) (lo hi : Option Int) : List α := (ds.drop (HT.sIx ds.length 0 lo)).take (HT.sIx ds.length ds.length hi - HT.sIx ds.length 0 lo)
def gSl (lo hi : Option Int) : PyData → Option PyData
  | .list ds => some (.list (cutD ds lo hi))
  | .tuple ds => some (.tuple (cutD ds lo hi))
  | .str x => some (.str (cutS x lo hi))
  | _ => none
theorem DtA.cut {O : Addr → Prop} {H : Hp} {xs : List V} {ds : List PyData} {lo hi : Option Int} (t : DtA O H xs ds) : DtA O H (cutV xs lo hi) (cutD ds lo hi) := by
  unfold cutV cutD
  rw [t.length]
  exact (t.drop _).take _
theorem cut_ok {x : Str} {lo hi : Option Int} (ox : PyData.strOk x = true) : PyData.strOk (cutS x lo hi) = true := by
  unfold PyData.strOk at ox ⊢
  rw [← Array.all_toList, List.all_eq_true] at ox ⊢
  intro c hc
  refine ox c ?_
  unfold cutS at hc
  have : c ∈ (x.cps.toList.drop (HT.sIx x.length 0 lo)).take (HT.sIx x.length x.length hi - HT.sIx x.length 0 lo) := by simpa using hc
  exact List.mem_of_mem_drop (List.mem_of_mem_take this)
theorem sl_all : SlR X (fun x lo hi H Q => rSlL X.K x lo hi H Q ∨ rSlA X.K x lo hi H Q ∨ rSlS x lo hi H Q) := sl_list.or (sl_tupA.or sl_str)
theorem sl_of {k : RK} {am : Option Addr} {O : Addr → Prop} {H : Hp} {h : HS} {v : V} {d d' : PyData} {lo hi : Option Int} {Q : VK} (dm : Dom O H) (ha : ∀ a, am = some a → O a) (wd : Wd T am O H h) (lv : Lt am O H v d) (hg : gSl lo hi d = some d')
    (q : ∀ v' H', Same H H' → Rl T .N am O H H' h v' d' → Q v' H') : rSlL X.K v lo hi H Q ∨ rSlA X.K v lo hi H Q ∨ rSlS v lo hi H Q := by
  cases d with
  | list ds =>
    cases hg
    obtain ⟨p, xs, rfl, r, t⟩ := lv.list
    exact .inl ⟨p, xs, rfl, SqL.of r, fun p' hp => fin_lst wd dm ha hp t.cut q⟩
  | tuple ds =>
    cases hg
    obtain ⟨p, xs, rfl, r, t, c⟩ := lv.tup
    refine .inr (.inl ⟨p, xs, rfl, .inl r, fun z => ?_, fun _ p' hp => fin_tup wd dm ha hp t.cut q⟩)
    have : cutD ds lo hi = ds := by
      unfold cutD
      rw [t.length] at z
      rw [z.1, z.2, List.drop_zero, Nat.sub_zero, List.take_length]
    rw [this] at q
    exact fin_sc wd c rfl q
  | str x =>
    cases hg
    obtain ⟨rfl, hz, ho⟩ := lv.str
    exact .inr (.inr ⟨x, rfl, hz, fin_sc wd (.str _ (Nat.le_trans (cutS_length _ _ _) hz) (cut_ok ho)) rfl q⟩)
  | _ => cases hg
/-- a part of a slice -/
def dPart : Option (DEnv → HS → Res PyData) → DEnv → HS → Res (Option Int)
  | none, _, h => .ok none h
  | some f, δ, h => (f δ h).op fun d => match d with | .int i => some (some i) | _ => none
def tO (T : List (Addr × Str)) (CL : Str → Option Addr) (W : WX) (f : DEnv → HS → Res (Option Int)) : TO := fun σ H Q => ∃ am Oc H0 δ h, At T am Oc H0 σ H δ h ∧
  match f δ h with
  | .ok o h' => ∀ H', Eff am H H' → Wd T am (OO Oc σ δ) H' h' → Q o H'
  | .exc x h' => ∀ cls dd H', Eff am H H' → Wd T am (OO Oc σ δ) H' h' → XR CL x cls dd H' → W cls dd σ H'
  | .no => False
abbrev OD (T : List (Addr × Str)) (CL : Str → Option Addr) (W : WX) (X : Cx) (e : Option Expr) (f : Option (DEnv → HS → Res PyData)) : Prop := PO X e (tO T CL W (dPart f))
theorem PO.imp {X : Cx} {e : Option Expr} {t t' : TO} (h : PO X e t) (k : ∀ σ H Q, t' σ H Q → t σ H Q) : PO X e t' := ⟨fun pins s σ H Q I q => h.run pins s σ H Q I (k σ H Q q)⟩
theorem o_none : OD T CL W X none none := PO.imp po_none fun σ H Q ⟨am, Oc, H0, δ, h, x, q⟩ => q H Eff.refl x.wd
theorem o_some (ha : ED T CL W X .L a fa) (hp : ∀ t, PE X a t → PO X (some a) (tPart t) := by exact fun _ z => po_some z) : OD T CL W X (some a) (some fa) := PO.imp (hp _ ha) fun σ H Q ⟨am, Oc, H0, δ, h, x, q⟩ => by
  refine tE_of x ?_
  simp only [dPart] at q
  revert q
  cases fa δ h with
  | ok d h' =>
    simp only [Res.op]
    cases d with
    | int i => exact fun q v H' e r => ⟨i, r.2.int, q H' e r.1⟩
    | _ => exact fun q => q.elim
  | exc y h' => exact id
  | no => exact id
def dSl (f : DEnv → HS → Res PyData) (lo hi : Option (DEnv → HS → Res PyData)) : DEnv → HS → Res PyData := fun δ h => (f δ h).bind fun d h1 => (dPart lo δ h1).bind fun l h2 => (dPart hi δ h2).bind fun u h3 => match gSl l u d with
  | some d' => .ok d' h3
  | none => .no
theorem Aft.bindO {k : RK} {am : Option Addr} {Oc : Addr → Prop} {H0 : Bs} {H : Hp} {σ : L2.St} {δ : DEnv} {h : HS} {Q : VK} {K : Option Int → Hp → Prop} {f : DEnv → HS → Res (Option Int)} {g : Option Int → HS → Res PyData} (x : At T am Oc H0 σ H δ h)
    (q : Aft T CL W k am (OO Oc σ δ) σ H Q ((f δ h).bind g))
    (s : ∀ d1 h1 H1, At T am Oc H0 σ H1 δ h1 → Eff am H H1 → Aft T CL W k am (OO Oc σ δ) σ H1 Q (g d1 h1) → K d1 H1) : tO T CL W f σ H K := by
  refine ⟨am, Oc, H0, δ, h, x, ?_⟩
  revert q
  cases f δ h with
  | ok d h' => exact fun q H' e w => s d h' H' (x.eff' e w) e (Aft.step e q)
  | exc y h' => exact id
  | no => exact id
theorem e_sl {lo hi : Option Expr} {fl fu : Option (DEnv → HS → Res PyData)} {p2 : Pos} (ha : ED T CL W X .L a fa) (hl : OD T CL W X lo fl) (hu : OD T CL W X hi fu) : ED T CL W X .N (.Subscript a (.Slice lo hi none p2) pos) (dSl fa fl fu) := PE.imp (pe_slice sl_all ha hl hu) fun σ H Q q => by
  obtain ⟨am, Oc, H0, δ, h, x, q⟩ := of_tE q
  refine tE_of x (Aft.bind x q fun d1 h1 v1 H1 x1 e1 r1 q1 => ?_)
  refine Aft.bindO x1 q1 fun l h2 H2 x2 e2 q2 => ?_
  refine Aft.bindO x2 q2 fun u h3 H3 x3 e3 q3 => ?_
  cases hg : gSl l u d1 with
  | none => rw [hg] at q3; exact q3.elim
  | some d' =>
    rw [hg] at q3
    exact sl_of (k := .N) x3.domO x3.amO x3.wd ((r1.2.kp e2 x2.amO).kp e3 x3.amO) hg fun v' H' s r => q3 v' H' (Eff.same s) r
end
end DL
/-! The data layer, part 6: calls of defs, built-in functions. -/
namespace DL
open PySem PySem.Spec PyProof.Rows L2
inductive Res0 where
  | ok (d : PyData)
  | exc (x : Exc)
  | no
def Res0.up (r : Res0) (h : HS) : Res PyData := match r with
  | .ok d => .ok d h
  | .exc x => .exc x h
  | .no => .no
/-- a def without the ambient list -/
def sp0 (CL : Str → Option Addr) (n : Nat) (den : List PyData → Res0) : Sp := fun vs H Q E => ∃ (O : Addr → Prop) (ds : List PyData), ds.length = n ∧ Dom O H ∧ DtA O H vs ds ∧
  match den ds with
  | .ok d => ∀ v H', Same H H' → Dt O H' v d → Q v H'
  | .exc x => ∀ cls dd H', Same H H' → XR CL x cls dd H' → E cls dd H'
  | .no => False
/-- a def whose first argument is the ambient list -/
def sp1 (T : List (Addr × Str)) (CL : Str → Option Addr) (n : Nat) (den : List PyData → HS → Res PyData) : Sp := fun vs H Q E => ∃ (O : Addr → Prop) (a : Addr) (ws : List V) (ds : List PyData) (h : HS), ds.length = n ∧ Dom O H ∧ O a ∧ Wd T (some a) O H h ∧ vs = .ref a :: ws ∧ DtA O H ws ds ∧
  match den ds h with
  | .ok d h' => ∀ v H', Eff (some a) H H' → Wd T (some a) O H' h' → Dt O H' v d → Q v H'
  | .exc x h' => ∀ cls dd H', Eff (some a) H H' → Wd T (some a) O H' h' → XR CL x cls dd H' → E cls dd H'
  | .no => False
theorem sp0_len {CL : Str → Option Addr} {n : Nat} {den : List PyData → Res0} {vs : List V} {H : Hp} {Q : VK} {E : XK} (h : sp0 CL n den vs H Q E) : vs.length = n := by
  obtain ⟨O, ds, h1, _, h2, _⟩ := h
  rw [h2.length, h1]
theorem sp1_len {T : List (Addr × Str)} {CL : Str → Option Addr} {n : Nat} {den : List PyData → HS → Res PyData} {vs : List V} {H : Hp} {Q : VK} {E : XK} (h : sp1 T CL n den vs H Q E) : vs.length = n + 1 := by
  obtain ⟨O, a, ws, ds, hs, h1, _, _, _, rfl, h2, _⟩ := h
  rw [List.length_cons, h2.length, h1]
def dCall0 (den : List PyData → Res0) (fs : List (DEnv → HS → Res PyData)) : DEnv → HS → Res PyData := fun δ h => (dSeq fs δ h).bind fun ds h1 => (den ds).up h1
def dCall1 (i : Nat) (den : List PyData → HS → Res PyData) (fs : List (DEnv → HS → Res PyData)) : DEnv → HS → Res PyData := fun δ h => match δ[i]? with
  | some .am => (dSeq fs δ h).bind den
  | _ => .no
section
variable {T : List (Addr × Str)} {CL : Str → Option Addr} {W : WX} {X : Cx} {pos : Pos} {a b c : Expr} {fa fb fc : DEnv → HS → Res PyData}
theorem e_call0 {k : Nat} {f : Addr} {fd : FuncData} {ps : List Str} {n : Nat} {den : List PyData → Res0} {x : Str} {p : Pos} {e : Expr} {es : List Expr} {fs : List (DEnv → HS → Res PyData)}
    (F : FnOk X.prog X.w X.K X.mg X.base (L2N.CX X.prog X.w) k f fd ps (sp0 CL n den)) (hr : Room k X.A) (hg : Gl X x) (hm : X.mg x = some (.ref f)) (hk : PySem.W.keepIn X.K (.ref f) = true) (hb : Binds X.K fd ps []) (tk : L2N.Takes X W) (ha : AD T CL W X .D (e :: es) (dSeq fs))
    (hn : fs.length = n) (hdb : (x == ("__debug__" : Str)) = false := by decide) (hs : starEach (e :: es) X.env = (false, eval e X.env) :: starEach es X.env := by rfl) (hpl : (backTo pos (starEach es X.env)).any (·.1) = false := by rfl) :
    ED T CL W X .D (.Call (.Name x p) (e :: es) [] pos) (dCall0 den fs) := PE.imp (pe_callS F hr hg hm hk hb (fun σ => L2N.passAt tk σ) ha hdb hs hpl) fun σ H Q q => by
  obtain ⟨am, Oc, H0, δ, h, x, q⟩ := of_tE q
  refine tA_of x (Aft.bindA x q fun ds h1 vs H1 er x1 e1 r1 q1 => ?_)
  have t := dta_of r1
  refine ⟨OO Oc σ δ, ds, by rw [dSeq_len er, hn], x1.domO, t, ?_⟩
  cases hd : den ds with
  | ok d =>
    rw [hd] at q1
    exact fun v H' s z => q1 v H' (Eff.same s) ⟨x1.wd.same s (fun _ _ _ _ z => z) x1.amO, z⟩
  | exc y =>
    rw [hd] at q1
    exact fun cls dd H' s z => q1 cls dd H' (Eff.same s) (x1.wd.same s (fun _ _ _ _ z => z) x1.amO) z
  | no => rw [hd] at q1; exact q1
theorem e_call1 {i k : Nat} {f : Addr} {fd : FuncData} {ps : List Str} {n : Nat} {den : List PyData → HS → Res PyData} {x y : Str} {p py : Pos} {es : List Expr} {fs : List (DEnv → HS → Res PyData)}
    (F : FnOk X.prog X.w X.K X.mg X.base (L2N.CX X.prog X.w) k f fd ps (sp1 T CL n den)) (hr : Room k X.A) (hg : Gl X x) (hm : X.mg x = some (.ref f)) (hk : PySem.W.keepIn X.K (.ref f) = true) (hb : Binds X.K fd ps []) (tk : L2N.Takes X W) (hy : PE X (.Name y py) (tVar i)) (ha : AD T CL W X .D es (dSeq fs))
    (hn : fs.length = n) (hdb : (x == ("__debug__" : Str)) = false := by decide) (hs : starEach (.Name y py :: es) X.env = (false, eval (.Name y py) X.env) :: starEach es X.env := by rfl) (hpl : (backTo pos (starEach es X.env)).any (·.1) = false := by rfl) :
    ED T CL W X .D (.Call (.Name x p) (.Name y py :: es) [] pos) (dCall1 i den fs) := PE.imp (pe_callS F hr hg hm hk hb (fun σ => L2N.passAt tk σ) (pa_cons hy ha hs) hdb hs hpl) fun σ H Q q => by
  obtain ⟨am, Oc, H0, δ, h, x, q⟩ := of_tE q
  unfold dCall1 at q
  cases e : δ[i]? with
  | none => rw [e] at q; exact q.elim
  | some s =>
    rw [e] at q
    cases s with
    | am =>
      obtain ⟨a, ea, e1⟩ := x.sl i _ e
      subst ea
      refine ⟨.ref a, e1, tA_of x (Aft.bindA x q fun ds h1 vs H1 er x1 e1 r1 q1 => ?_)⟩
      have t := dta_of r1
      refine ⟨OO Oc σ δ, a, vs, ds, h1, by rw [dSeq_len er, hn], x1.domO, x1.amO a rfl, x1.wd, rfl, t, ?_⟩
      cases hd : den ds h1 with
      | ok d h2 =>
        rw [hd] at q1
        exact fun v H' s w z => q1 v H' s ⟨w, z⟩
      | exc y h2 =>
        rw [hd] at q1
        exact fun cls dd H' s w z => q1 cls dd H' s w z
      | no => rw [hd] at q1; exact q1
    | _ => exact q.elim
/-! ### built-in functions -/
def VA (T : List (Addr × Str)) (k : RK) (g : List PyData → Option PyData) (r : List V → Hp → VK → Prop) : Prop :=
  ∀ (am : Option Addr) (O : Addr → Prop) (H : Hp) (h : HS) (vs : List V) (ds : List PyData) (d' : PyData) (Q : VK), Dom O H → (∀ a, am = some a → O a) → Wd T am O H h → Paired (Lt am O H) vs ds → g ds = some d' → (∀ v' H', Same H H' → Rl T k am O H H' h v' d' → Q v' H') → r vs H Q
def dBlt (g : List PyData → Option PyData) (fs : List (DEnv → HS → Res PyData)) : DEnv → HS → Res PyData := fun δ h => (dSeq fs δ h).op g
theorem tA_blt {k : RK} {g : List PyData → Option PyData} {r : List V → Hp → VK → Prop} {fs : List (DEnv → HS → Res PyData)} (u : VA T k g r) {σ : L2.St} {H : Hp} {Q : VK} (q : tE T CL W k (dBlt g fs) σ H Q) : tA T CL W .L (dSeq fs) σ H fun vs H1 => r vs H1 Q := by
  obtain ⟨am, Oc, H0, δ, h, x, q⟩ := of_tE q
  unfold dBlt at q
  rw [res_op_eq] at q
  refine tA_of x (Aft.bindA x q fun ds h1 vs H1 er x1 e1 r1 q1 => ?_)
  cases hg : g ds with
  | none => rw [hg] at q1; exact q1.elim
  | some d2 =>
    rw [hg] at q1
    exact u am _ H1 h1 vs ds d2 Q x1.domO x1.amO x1.wd (lta_of r1) hg fun v' H' s r => q1 v' H' (Eff.same s) r
def CalR (X : Cx) (T : List (Addr × Str)) (k : RK) (f : Value) (g : List PyData → Option PyData) : Prop := ∃ r, CallR X f r ∧ VA T k g r
theorem e_blt {k : RK} {g : List PyData → Option PyData} {id : String} {x : Str} {p : Pos} {e : Expr} {es : List Expr} {fs : List (DEnv → HS → Res PyData)} (hc : CalR X T k (.builtin id) g) (hg : Gl X x) (hm : X.mg x = none) (hv : bootBuiltins x = some (.builtin id)) (ha : AD T CL W X .L (e :: es) (dSeq fs))
    (hn : x ≠ "__name__" := by decide) (hdb : (x == ("__debug__" : Str)) = false := by decide) (hs : starEach (e :: es) X.env = (false, eval e X.env) :: starEach es X.env := by rfl) (hpl : (backTo pos (starEach es X.env)).any (·.1) = false := by rfl) :
    ED T CL W X k (.Call (.Name x p) (e :: es) [] pos) (dBlt g fs) := by
  obtain ⟨r, h1, u⟩ := hc
  exact PE.imp (pe_callB h1 hg hm hv ha hn hdb hs hpl) fun σ H Q q => tA_blt u q
theorem e_bty {k : RK} {g : List PyData → Option PyData} {id : String} {x : Str} {p : Pos} {e : Expr} {es : List Expr} {fs : List (DEnv → HS → Res PyData)} (hc : CalR X T k (.type id) g) (hg : Gl X x) (hm : X.mg x = none) (hv : bootBuiltins x = some (.type id)) (ha : AD T CL W X .L (e :: es) (dSeq fs))
    (hn : x ≠ "__name__" := by decide) (hdb : (x == ("__debug__" : Str)) = false := by decide) (hs : starEach (e :: es) X.env = (false, eval e X.env) :: starEach es X.env := by rfl) (hpl : (backTo pos (starEach es X.env)).any (·.1) = false := by rfl) :
    ED T CL W X k (.Call (.Name x p) (e :: es) [] pos) (dBlt g fs) := by
  obtain ⟨r, h1, u⟩ := hc
  exact PE.imp (pe_callTy h1 hg hm hv ha hn hdb hs hpl) fun σ H Q q => tA_blt u q
/-- what the list is made of -/
def asInts : List PyData → Option (List Int)
  | [] => some []
  | .int i :: r => (asInts r).map (i :: ·)
  | _ => none
def asBools : List PyData → Option (List Bool)
  | [] => some []
  | .bool i :: r => (asBools r).map (i :: ·)
  | _ => none
def asStrs : List PyData → Option (List Str)
  | [] => some []
  | .str i :: r => (asStrs r).map (i :: ·)
  | _ => none
theorem asInts_eq : ∀ {ds : List PyData} {is : List Int}, asInts ds = some is → ds = is.map .int
  | [], _, h => by cases h; rfl
  | d :: ds, is, h => by
    cases d with
    | int i =>
      obtain ⟨js, h1, rfl⟩ := Option.map_eq_some_iff.mp (show (asInts ds).map (i :: ·) = some is from h)
      rw [asInts_eq h1]; rfl
    | _ => cases h
theorem asBools_eq : ∀ {ds : List PyData} {is : List Bool}, asBools ds = some is → ds = is.map .bool
  | [], _, h => by cases h; rfl
  | d :: ds, is, h => by
    cases d with
    | bool i =>
      obtain ⟨js, h1, rfl⟩ := Option.map_eq_some_iff.mp (show (asBools ds).map (i :: ·) = some is from h)
      rw [asBools_eq h1]; rfl
    | _ => cases h
theorem asStrs_eq : ∀ {ds : List PyData} {is : List Str}, asStrs ds = some is → ds = is.map .str
  | [], _, h => by cases h; rfl
  | d :: ds, is, h => by
    cases d with
    | str i =>
      obtain ⟨js, h1, rfl⟩ := Option.map_eq_some_iff.mp (show (asStrs ds).map (i :: ·) = some is from h)
      rw [asStrs_eq h1]; rfl
    | _ => cases h
theorem asInts_map : ∀ is : List Int, asInts (is.map .int) = some is
  | [] => rfl
  | i :: is => by simp [asInts, asInts_map is]
theorem asBools_map : ∀ is : List Bool, asBools (is.map .bool) = some is
  | [] => rfl
  | i :: is => by simp [asBools, asBools_map is]
theorem asStrs_map : ∀ is : List Str, asStrs (is.map .str) = some is
  | [] => rfl
  | i :: is => by simp [asStrs, asStrs_map is]
theorem one_of {am : Option Addr} {O : Addr → Prop} {H : Hp} {vs : List V} {d : PyData} (p : Paired (Lt am O H) vs [d]) : ∃ v, vs = [v] ∧ Lt am O H v d := by
  cases p with | cons a b => cases b; exact ⟨_, rfl, a⟩
theorem two_of {am : Option Addr} {O : Addr → Prop} {H : Hp} {vs : List V} {d e : PyData} (p : Paired (Lt am O H) vs [d, e]) : ∃ v w, vs = [v, w] ∧ Lt am O H v d ∧ Lt am O H w e := by
  cases p with | cons a b => cases b with | cons b c => cases c; exact ⟨_, _, rfl, a, b⟩
def g1 (g : PyData → Option PyData) : List PyData → Option PyData
  | [d] => g d
  | _ => none
def g2 (g : PyData → PyData → Option PyData) : List PyData → Option PyData
  | [d, e] => g d e
  | _ => none
theorem cal1 {k : RK} {f : Value} {g : PyData → Option PyData} {r : V → Hp → VK → Prop} (hc : CallR X f (fun xs H Q => ∃ v, xs = [v] ∧ r v H Q)) (u : VU T k g r) : CalR X T k f (g1 g) := ⟨_, hc, fun am O H h vs ds d' Q dm ha wd p hg q => by
  match ds, hg with
  | [d], hg =>
    obtain ⟨v, rfl, l⟩ := one_of p
    exact ⟨v, rfl, u am O H h v d d' Q dm ha wd l hg q⟩⟩
theorem cal2 {k : RK} {f : Value} {g : PyData → PyData → Option PyData} {r : V → V → Hp → VK → Prop} (hc : CallR X f (fun xs H Q => ∃ v w, xs = [v, w] ∧ r v w H Q)) (u : VB T k g r) : CalR X T k f (g2 g) := ⟨_, hc, fun am O H h vs ds d' Q dm ha wd p hg q => by
  match ds, hg with
  | [d, e], hg =>
    obtain ⟨v, w, rfl, l, l'⟩ := two_of p
    exact ⟨v, w, rfl, u am O H h v w d e d' Q dm ha wd l l' hg q⟩⟩
theorem CallR.imp {f : Value} {r r' : List V → Hp → VK → Prop} (h : CallR X f r) (k : ∀ vs H Q, r' vs H Q → r vs H Q) : CallR X f r' := fun pins s σ H xs us Q I p q => h pins s σ H xs us Q I p (k _ _ _ q)
def gLen : PyData → Option PyData
  | .str x => some (.int x.length)
  | .list ds => some (.int ds.length)
  | .tuple ds => some (.int ds.length)
  | .dict ds => some (.int ds.length)
  | _ => none
theorem call_lenR : CallR X (.builtin "len") (fun xs H Q => ∃ a kvs, xs = [V.ref a] ∧ Rd H a (.dK kvs) ∧ Q (.int kvs.length) H) := by
  intro pins s σ H xs us Q I r h
  obtain ⟨a, kvs, rfl, ha, q⟩ := h
  obtain ⟨u, rfl, ru⟩ := vals1 r
  cases ru
  exact d_len I ha fun t s' I' => ⟨.int kvs.length, H, I', ⟨t, rfl⟩, q⟩
theorem c_len : CalR X T .N (.builtin "len") (g1 gLen) := cal1 (r := fun v H Q => (∃ p ys, v = .ref p ∧ (SqL X.K H p ys ∨ SqT X.K H p ys) ∧ Q (.int ys.length) H) ∨ (∃ z, v = .str z ∧ z.length ≤ sizeLine ∧ Q (.int z.length) H) ∨ ∃ a kvs, v = V.ref a ∧ Rd H a (.dK kvs) ∧ Q (.int kvs.length) H)
    (CallR.imp (call_len_seq.or (call_len_str.or call_lenR)) fun vs H Q ⟨v, e, q⟩ => by
      subst e
      rcases q with ⟨p, ys, rfl, q⟩ | ⟨z, rfl, q⟩ | ⟨a, kvs, rfl, q⟩
      · exact .inl ⟨p, ys, rfl, q⟩
      · exact .inr (.inl ⟨z, rfl, q⟩)
      · exact .inr (.inr ⟨a, kvs, rfl, q⟩)) fun am O H h v d d' Q dm ha wd l hg q => by
  cases d with
  | str x => cases hg; obtain ⟨rfl, z, _⟩ := l.str; exact .inr (.inl ⟨x, rfl, z, fin_sc wd (.int _) rfl q⟩)
  | list x => cases hg; obtain ⟨p, xs, rfl, r, t⟩ := l.list; exact .inl ⟨p, xs, rfl, .inl (SqL.of r), by rw [t.length]; exact fin_sc wd (.int _) rfl q⟩
  | tuple x => cases hg; obtain ⟨p, xs, rfl, r, t, _⟩ := l.tup; exact .inl ⟨p, xs, rfl, .inr (.inl r), by rw [t.length]; exact fin_sc wd (.int _) rfl q⟩
  | dict x => cases hg; obtain ⟨p, xs, rfl, r, t⟩ := l.dic; exact .inr (.inr ⟨p, xs, rfl, r, by rw [t.length]; exact fin_sc wd (.int _) rfl q⟩)
  | _ => cases hg
def gAbs : PyData → Option PyData
  | .int i => some (.int (if i < 0 then -i else i))
  | _ => none
theorem c_abs : CalR X T .N (.builtin "abs") (g1 gAbs) := cal1 (r := fun v H Q => ∃ i, v = .int i ∧ Q (.int (if i < 0 then -i else i)) H) (CallR.imp call_abs fun vs H Q ⟨v, e, i, e2, q⟩ => ⟨i, by rw [e, e2], q⟩) fun am O H h v d d' Q dm ha wd l hg q => by
  cases d with
  | int i => cases hg; exact ⟨i, l.int, fin_sc wd (.int _) rfl q⟩
  | _ => cases hg
def gMax : PyData → PyData → Option PyData
  | .int i, .int j => some (.int (if j > i then j else i))
  | _, _ => none
def gMin : PyData → PyData → Option PyData
  | .int i, .int j => some (.int (if j < i then j else i))
  | _, _ => none
theorem c_max2 (hc : X.calm = true) : CalR X T .N (.builtin "max") (g2 gMax) := cal2 (r := fun v w H Q => ∃ i j, v = .int i ∧ w = .int j ∧ Q (.int (if j > i then j else i)) H) (CallR.imp (call_max2 hc) fun vs H Q ⟨v, w, e, i, j, e2, e3, q⟩ => ⟨i, j, by rw [e, e2, e3], q⟩) fun am O H h v w d e d' Q dm ha wd l l' hg q => by
  cases d with
  | int i =>
    cases e with
    | int j => cases hg; exact ⟨i, j, l.int, l'.int, fin_sc wd (.int _) rfl q⟩
    | _ => cases hg
  | _ => cases hg
theorem c_min2 (hc : X.calm = true) : CalR X T .N (.builtin "min") (g2 gMin) := cal2 (r := fun v w H Q => ∃ i j, v = .int i ∧ w = .int j ∧ Q (.int (if j < i then j else i)) H) (CallR.imp (call_min2 hc) fun vs H Q ⟨v, w, e, i, j, e2, e3, q⟩ => ⟨i, j, by rw [e, e2, e3], q⟩) fun am O H h v w d e d' Q dm ha wd l l' hg q => by
  cases d with
  | int i =>
    cases e with
    | int j => cases hg; exact ⟨i, j, l.int, l'.int, fin_sc wd (.int _) rfl q⟩
    | _ => cases hg
  | _ => cases hg
def gInt : PyData → Option PyData
  | .int i => some (.int i)
  | .bool b => some (.int (if b then 1 else 0))
  | .str x => if x.length ≤ 640 then (PySem.intText? x).map .int else none
  | _ => none
theorem c_int : CalR X T .N (.type "int") (g1 gInt) := cal1 (r := fun v H Q => ((∃ i, v = .int i ∧ Q (.int i) H) ∨ ∃ k, v = .bl k ∧ Q (.int (if k then 1 else 0)) H) ∨ ∃ a n, v = .str a ∧ PySem.intText? a = some n ∧ a.length ≤ 640 ∧ Q (.int n) H)
    (CallR.imp (call_int1.or call_int_str) fun vs H Q ⟨v, e, q⟩ => by
      subst e
      rcases q with (⟨i, rfl, q⟩ | ⟨k, rfl, q⟩) | ⟨a, n, rfl, q⟩
      · exact .inl (.inl ⟨i, rfl, q⟩)
      · exact .inl (.inr ⟨k, rfl, q⟩)
      · exact .inr ⟨a, n, rfl, q⟩) fun am O H h v d d' Q dm ha wd l hg q => by
  cases d with
  | int i => cases hg; exact .inl (.inl ⟨i, l.int, fin_sc wd (.int _) rfl q⟩)
  | bool i => cases hg; exact .inl (.inr ⟨i, l.bl, fin_sc wd (.int _) rfl q⟩)
  | str x =>
    simp only [gInt, Option.ite_none_right_eq_some] at hg
    obtain ⟨h1, h2⟩ := hg
    obtain ⟨n, h3, rfl⟩ := Option.map_eq_some_iff.mp h2
    exact .inr ⟨x, n, l.str.1, h3, h1, fin_sc wd (.int _) rfl q⟩
  | _ => cases hg
end
end DL
/-! The data layer, part 7: more built-in functions. -/
namespace DL
open PySem PySem.Spec PyProof.Rows L2
def gStr : PyData → Option PyData
  | .int i => if 0 ≤ i ∧ i < 10 then some (.str (Str.ofString (toString i))) else none
  | .str x => some (.str x)
  | _ => none
def gSum : PyData → Option PyData
  | .list ds => (asInts ds).map fun is => .int is.sum
  | .tuple ds => (asInts ds).map fun is => .int is.sum
  | _ => none
def gAll : PyData → Option PyData
  | .list ds => (asBools ds).map fun is => .bool (is.all id)
  | _ => none
def gAny : PyData → Option PyData
  | .list ds => (asBools ds).map fun is => .bool (is.any id)
  | _ => none
def gList : PyData → Option PyData
  | .list ds => some (.list ds)
  | .tuple ds => some (.list ds)
  | .dict kvs => some (.list (kvs.map (·.1)))
  | _ => none
def gTuple : PyData → Option PyData
  | .list ds => some (.tuple ds)
  | .tuple ds => some (.tuple ds)
  | _ => none
def isTup1 : PyData → Bool
  | .tuple (_ :: _) => true
  | _ => false
def isOth : PyData → Bool
  | .none => false
  | .tuple _ => false
  | _ => true
def sortOk (ds : List PyData) : Bool := (ds.all fun d => ds.all fun e => PySem.W.alike d e) && (ds.all isTup1 || ds.all isOth) && (ds.all fun d => decide (d.depth ≤ 50)) && decide (ds.length ≤ 16777216)
def sortD (ds : List PyData) : List PyData := ds.mergeSort (PySem.W.dataLe false id)
def gSort : PyData → Option PyData
  | .list ds => if sortOk ds then some (.list (sortD ds)) else none
  | _ => none
def tyD : PyData → String
  | .none => "NoneType"
  | .bool _ => "bool"
  | .int _ => "int"
  | .str _ => "str"
  | .list _ => "list"
  | .tuple _ => "tuple"
  | .dict _ => "dict"
def isaB (t T : String) : Bool := t == T || (t == "bool" && T == "int")
section
variable {T : List (Addr × Str)} {CL : Str → Option Addr} {W : WX} {X : Cx} {pos : Pos} {a b c : Expr} {fa fb fc : DEnv → HS → Res PyData}
theorem dig_ok {i : Int} (h : 0 ≤ i ∧ i < 10) : strOkL (Str.ofString (toString i)) = true ∧ i.natAbs.log2 < 1920 := by
  have : i = 0 ∨ i = 1 ∨ i = 2 ∨ i = 3 ∨ i = 4 ∨ i = 5 ∨ i = 6 ∨ i = 7 ∨ i = 8 ∨ i = 9 := by omega
  rcases this with rfl | rfl | rfl | rfl | rfl | rfl | rfl | rfl | rfl | rfl <;> exact ⟨by decide +kernel, by decide +kernel⟩
theorem call_str_str' : CallR X (.type "str") (fun xs H Q => ∃ a, xs = [.str a] ∧ Q (.str a) H) := SkE.call_str_str
theorem c_str : CalR X T .N (.type "str") (g1 gStr) := cal1 (r := fun v H Q => (∃ i, v = .int i ∧ i.natAbs.log2 < 1920 ∧ Q (.str (toString i)) H) ∨ ∃ a, v = .str a ∧ Q (.str a) H)
    (CallR.imp (call_str_int.or call_str_str') fun vs H Q ⟨v, e, q⟩ => by
      subst e
      rcases q with ⟨i, rfl, q⟩ | ⟨k, rfl, q⟩
      · exact .inl ⟨i, rfl, q⟩
      · exact .inr ⟨k, rfl, q⟩) fun am O H h v d d' Q dm ha wd l hg q => by
  cases d with
  | int i =>
    simp only [gStr, Option.ite_none_right_eq_some, Option.some.injEq] at hg
    obtain ⟨h1, rfl⟩ := hg
    obtain ⟨h2, h3⟩ := dig_ok h1
    exact .inl ⟨i, l.int, h3, fin_sc wd (.str _ (strOkL_len h2) (strOkL_ok h2)) rfl q⟩
  | str x =>
    cases hg
    obtain ⟨e, z, o⟩ := l.str
    exact .inr ⟨x, e, fin_sc wd (.str _ z o) rfl q⟩
  | _ => cases hg
theorem sum_tup {prog : Program} {w : World} {A : Around} {E : Value → Shared → Prop} {s : Shared} {l : Addr} {its : List Value} {ns : List Int} {Q : Value → Shared → Prop} (hh : A.handled = none) (hl : s.heap.IsTuple l its.toArray) (hi : IntsAre its ns)
    (h : ∀ h' tk t', (∀ b o, s.heap.get? b = some o → h'.get? b = some o) → Q (.int ns.sum t') { s with heap := h', toks := tk }) : wpAny (model prog w) A (call (.builtin "sum") [.ref l]) Q E s := by
  obtain ⟨xs, e⟩ := hi.allInts.items
  have hn : numsOf (intItems xs).toList = ns := by rw [← e]; exact hi.numsOf
  rw [nums_intItems] at hn
  rw [e] at hl
  have hlt : l < s.heap.objs.size := by obtain ⟨_, e, _⟩ := hl; exact Heap.lt_size e
  refine call_sum_walkG (wpAny_pyIter_tuple hl ?_)
  refine ⟨_, _, _, _, _, _, numAt xs, rfl, Walks.tuple (A := A.in1) hh _ l (Nat.ne_of_lt hlt) (intItems xs), ⟨⟨_, Heap.get?_push_size _ rfl, rfl, rfl⟩, hl.push _⟩, fun b hb => ?_, (fun _ _ => intItems_at), fun h' tk t' hk => ?_⟩
  · show b < (s.heap.push _).objs.size
    rw [Heap.size_push]
    rcases List.mem_cons.mp hb with rfl | hb
    · exact Nat.lt_succ_self _
    · rcases List.mem_cons.mp hb with rfl | hb
      · exact Nat.lt_succ_of_lt hlt
      · cases hb
  · have := h h' tk t' fun b o q => hk b o (fun hm => absurd (Heap.lt_size q) ((List.mem_singleton.mp hm) ▸ Nat.lt_irrefl _)) (Heap.get?_push_of_some _ q)
    have e2 : preSum (numAt xs) (intItems xs).size = ns.sum := by
      rw [preSum_eq, List.take_of_length_le (by simp [intItems]), hn]
    rw [e2]
    exact this
theorem tup_isTuple {s : Shared} {a : Addr} {its : Array Value} (h : IsTup s.heap a its) : s.heap.IsTuple a its := by
  obtain ⟨o, h1, h2, n, h3⟩ := h
  exact ⟨o, h1, h2, n, h3⟩
theorem cr_sumT (hc : X.calm = true) : CallR X (.builtin "sum") (fun vs H Q => ∃ (a : Addr) (ns : List Int), vs = [V.ref a] ∧ SqT X.K H a (ns.map V.int) ∧ Q (.int ns.sum) H) := by
  intro pins s σ H vs us Q I r h
  obtain ⟨a, ns, rfl, hs, q⟩ := h
  obtain ⟨its, rv, hl, _⟩ := I.tuple hs
  rw [Vals.ref1 r]
  exact sum_tup (I.ok.hd hc) (tup_isTuple hl) rv.ints fun h' tk t' hk => ⟨.int _, H, I.kept hk, ⟨_, rfl⟩, q⟩
theorem c_sum (hc : X.calm = true) : CalR X T .N (.builtin "sum") (g1 gSum) := cal1 (r := fun v H Q => ∃ (a : Addr) (ns : List Int), v = V.ref a ∧ (SqL X.K H a (ns.map V.int) ∨ SqT X.K H a (ns.map V.int)) ∧ Q (.int ns.sum) H)
    (CallR.imp ((cr_sum hc).or (cr_sumT hc)) fun vs H Q ⟨v, e, q⟩ => by
      subst e
      obtain ⟨a, ns, rfl, q | q, q2⟩ := q
      · exact .inl ⟨a, ns, rfl, q, q2⟩
      · exact .inr ⟨a, ns, rfl, q, q2⟩) fun am O H h v d d' Q dm ha wd l hg q => by
  cases d with
  | list ds =>
    obtain ⟨is, h1, rfl⟩ := Option.map_eq_some_iff.mp hg
    obtain ⟨p, xs, rfl, r, t⟩ := l.list
    rw [asInts_eq h1] at t
    exact ⟨p, is, rfl, .inl (by rw [← t.ints]; exact SqL.of r), fin_sc wd (.int _) rfl q⟩
  | tuple ds =>
    obtain ⟨is, h1, rfl⟩ := Option.map_eq_some_iff.mp hg
    obtain ⟨p, xs, rfl, r, t, _⟩ := l.tup
    rw [asInts_eq h1] at t
    exact ⟨p, is, rfl, .inr (by rw [← t.ints]; exact .inl r), fin_sc wd (.int _) rfl q⟩
  | _ => cases hg
theorem c_all (hc : X.calm = true) : CalR X T .N (.builtin "all") (g1 gAll) := cal1 (r := fun v H Q => ∃ (a : Addr) (bs : List Bool), v = V.ref a ∧ SqL X.K H a (bs.map V.bl) ∧ Q (.bl (bs.all id)) H) (CallR.imp (cr_all hc) fun vs H Q ⟨v, e, a, bs, e2, q⟩ => ⟨a, bs, by rw [e, e2], q⟩) fun am O H h v d d' Q dm ha wd l hg q => by
  cases d with
  | list ds =>
    obtain ⟨is, h1, rfl⟩ := Option.map_eq_some_iff.mp hg
    obtain ⟨p, xs, rfl, r, t⟩ := l.list
    rw [asBools_eq h1] at t
    exact ⟨p, is, rfl, by rw [← t.bools]; exact SqL.of r, fin_sc wd (.bl _) rfl q⟩
  | _ => cases hg
theorem c_any (hc : X.calm = true) : CalR X T .N (.builtin "any") (g1 gAny) := cal1 (r := fun v H Q => ∃ (a : Addr) (bs : List Bool), v = V.ref a ∧ SqL X.K H a (bs.map V.bl) ∧ Q (.bl (bs.any id)) H) (CallR.imp (cr_any hc) fun vs H Q ⟨v, e, a, bs, e2, q⟩ => ⟨a, bs, by rw [e, e2], q⟩) fun am O H h v d d' Q dm ha wd l hg q => by
  cases d with
  | list ds =>
    obtain ⟨is, h1, rfl⟩ := Option.map_eq_some_iff.mp hg
    obtain ⟨p, xs, rfl, r, t⟩ := l.list
    rw [asBools_eq h1] at t
    exact ⟨p, is, rfl, by rw [← t.bools]; exact SqL.of r, fin_sc wd (.bl _) rfl q⟩
  | _ => cases hg
theorem DtK.keys {O : Addr → Prop} {H : Hp} : ∀ {kvs : List (Key × V)} {ds : List (PyData × PyData)}, DtK O H kvs ds → (∀ k ∈ kvs, ∀ x, k.1 = .inr x → x.length ≤ sizeLine ∧ PyData.strOk x = true) → DtA O H (kvs.map fun kv => kV kv.1) (ds.map (·.1))
  | _, [], h, _ => by cases h; exact .nil
  | _, (_, d) :: ds, h, q => by
    cases h with
    | @cons k v vs _ _ a b =>
      refine .cons ?_ (DtK.keys b fun k hk => q k (List.mem_cons_of_mem _ hk))
      cases k with
      | inl i => exact .int i
      | inr x => exact .str x (q _ List.mem_cons_self x rfl).1 (q _ List.mem_cons_self x rfl).2
theorem c_tuple : CalR X T .N (.type "tuple") (g1 gTuple) := cal1 (r := fun v H Q => ∃ p ys, v = .ref p ∧ ((SqL X.K H p ys ∧ ∀ l, H l = none → Q (.ref l) (upd H l (.tup ys))) ∨ (SqT X.K H p ys ∧ Q (.ref p) H))) (CallR.imp call_tuple_of fun vs H Q ⟨v, e, a, bs, e2, q⟩ => ⟨a, bs, by rw [e, e2], q⟩) fun am O H h v d d' Q dm ha wd l hg q => by
  cases d with
  | list ds =>
    cases hg
    obtain ⟨p, xs, rfl, r, t⟩ := l.list
    exact ⟨p, xs, rfl, .inl ⟨SqL.of r, fun l hl => fin_tup wd dm ha hl t q⟩⟩
  | tuple ds =>
    cases hg
    obtain ⟨p, xs, rfl, r, t, c⟩ := l.tup
    exact ⟨p, xs, rfl, .inr ⟨.inl r, fin_sc wd c rfl q⟩⟩
  | _ => cases hg
theorem c_list : CalR X T .N (.type "list") (g1 fun d => match d with | .dict _ => none | _ => gList d) := cal1 (r := fun v H Q => ∃ p ys, v = .ref p ∧ (SqL X.K H p ys ∨ SqT X.K H p ys) ∧ ∀ l, H l = none → Q (.ref l) (upd H l (.lst ys))) (CallR.imp call_list_of fun vs H Q ⟨v, e, a, bs, e2, q⟩ => ⟨a, bs, by rw [e, e2], q⟩) fun am O H h v d d' Q dm ha wd l hg q => by
  cases d with
  | list ds =>
    cases hg
    obtain ⟨p, xs, rfl, r, t⟩ := l.list
    exact ⟨p, xs, rfl, .inl (SqL.of r), fun l hl => fin_lst wd dm ha hl t q⟩
  | tuple ds =>
    cases hg
    obtain ⟨p, xs, rfl, r, t, c⟩ := l.tup
    exact ⟨p, xs, rfl, .inr (.inl r), fun l hl => fin_lst wd dm ha hl t q⟩
  | _ => cases hg
/-! ### sorted -/
theorem paired_zip {O : Addr → Prop} {H : Hp} : ∀ {xs : List V} {ds : List PyData} {its : List Value}, DtA O H xs ds → Vals xs its → PySem.W.EachIs (fun (v : Value) (b : V × PyData) => RelV b.1 v) its (xs.zip ds)
  | _, [], _, h, r => by cases h; cases r; exact .nil
  | _, d :: ds, _, h, r => by
    cases h with
    | cons a b => cases r with | cons r1 r2 => exact .cons r1 (paired_zip b r2)
theorem zip_reads {pins : List (Addr × Obj)} {σ : L2.St} {O : Addr → Prop} {H : Hp} {s : Shared} (I : Inv X pins σ H s) : ∀ {xs : List V} {ds : List PyData} {its : List Value}, DtA O H xs ds → PyData.canLayAll0 ds = true → Vals xs its → PySem.W.EachIs (fun (v : Value) (b : V × PyData) => ∃ as, Reads s.heap v b.2 as) its (xs.zip ds)
  | _, [], _, h, _, r => by cases h; cases r; exact .nil
  | _, d :: ds, _, h, c, r => by
    have c' : d.canLay0 = true ∧ PyData.canLayAll0 ds = true := by simpa [PyData.canLayAll0] using c
    cases h with
    | cons a b => cases r with | cons r1 r2 => exact .cons (Dp.reads I d _ _ (a.dp c'.1) r1) (zip_reads I b c'.2 r2)
theorem zip_snd {O : Addr → Prop} {H : Hp} : ∀ {xs : List V} {ds : List PyData}, DtA O H xs ds → (xs.zip ds).map (·.2) = ds
  | _, [], h => by cases h; rfl
  | _, d :: ds, h => by cases h with | cons a b => rw [List.zip_cons_cons, List.map_cons, zip_snd b]
theorem zip_mem {O : Addr → Prop} {H : Hp} : ∀ {xs : List V} {ds : List PyData}, DtA O H xs ds → ∀ p ∈ xs.zip ds, Dt O H p.1 p.2
  | _, [], h, p, hp => by cases h; cases hp
  | _, d :: ds, h, p, hp => by
    cases h with
    | cons a b =>
      rw [List.zip_cons_cons] at hp
      rcases List.mem_cons.mp hp with rfl | hp
      · exact a
      · exact zip_mem b p hp
theorem dta_pairs {O : Addr → Prop} {H : Hp} : ∀ (ps : List (V × PyData)), (∀ p ∈ ps, Dt O H p.1 p.2) → DtA O H (ps.map (·.1)) (ps.map (·.2))
  | [], _ => .nil
  | p :: ps, h => .cons (h p List.mem_cons_self) (dta_pairs ps fun q hq => h q (List.mem_cons_of_mem _ hq))
theorem each_vals : ∀ {out : List Value} {ps : List (V × PyData)}, PySem.W.EachIs (fun (v : Value) (b : V × PyData) => RelV b.1 v) out ps → Vals (ps.map (·.1)) out
  | _, [], h => by cases h; exact .nil
  | _, p :: ps, h => by cases h with | cons a b => exact .cons a (each_vals b)
mutual
theorem alike_lay {O : Addr → Prop} {H : Hp} : ∀ {d : PyData} {v : V}, Dt O H v d → PySem.W.alike d d = true → d.canLay0 = true
  | .none, _, _, _ => by simp [PyData.canLay0]
  | .bool _, _, _, _ => by simp [PyData.canLay0]
  | .int _, _, _, _ => by simp [PyData.canLay0]
  | .str x, _, h, _ => by cases h with | str _ _ o => simpa [PyData.canLay0] using o
  | .list ds, _, h, a => by
    cases h with | lst _ _ t => simpa [PyData.canLay0] using alike_layA t (by simpa [PySem.W.alike] using a)
  | .tuple ds, _, h, a => by
    cases h with | tup _ _ t => simpa [PyData.canLay0] using alike_layA t (by simpa [PySem.W.alike] using a)
  | .dict _, _, _, a => by simp [PySem.W.alike] at a
theorem alike_layA {O : Addr → Prop} {H : Hp} : ∀ {ds : List PyData} {vs : List V}, DtA O H vs ds → PySem.W.alikeAll ds ds = true → PyData.canLayAll0 ds = true
  | [], _, _, _ => by simp [PyData.canLayAll0]
  | d :: ds, _, h, a => by
    obtain ⟨a1, a2⟩ := PySem.W.alike_all_cons a
    cases h with | cons h1 h2 => simp [PyData.canLayAll0, alike_lay h1 a1, alike_layA h2 a2]
end
theorem cr_sortD (hu : X.A.units + 60 < cLine) : CallR X (.builtin "sorted") (fun vs H Q => ∃ (a : Addr) (xs : List V) (ds : List PyData) (O : Addr → Prop), vs = [V.ref a] ∧ H a = some (.lst xs) ∧ DtA O H xs ds ∧ sortOk ds = true ∧
    ∀ (zs : List V) (p : Addr), DtA O H zs (sortD ds) → H p = none → Q (.ref p) (upd H p (.lst zs))) := by
  intro pins s σ H vs us Q I r h
  obtain ⟨a, xs, ds, O, rfl, ha, t, ok, q⟩ := h
  obtain ⟨its, rv, hl, hz⟩ := I.list (SqL.of ha)
  rw [Vals.ref1 r]
  unfold sortOk at ok
  simp only [Bool.and_eq_true, Bool.or_eq_true, List.all_eq_true, decide_eq_true_eq] at ok
  obtain ⟨⟨⟨o1, o2⟩, o3⟩, o4⟩ := ok
  have hlen : xs.length = ds.length := t.length
  have hzl : (xs.zip ds).length = ds.length := by rw [List.length_zip, hlen, Nat.min_self]
  have lay : PyData.canLayAll0 ds = true := by
    have : ∀ (es : List PyData) (vs : List V), DtA O H vs es → (∀ d ∈ es, PySem.W.alike d d = true) → PyData.canLayAll0 es = true := by
      intro es
      induction es with
      | nil => intro _ _ _; simp [PyData.canLayAll0]
      | cons d es ih =>
        intro vs tt h
        cases tt with
        | cons h1 h2 => simp [PyData.canLayAll0, alike_lay h1 (h d List.mem_cons_self), ih _ h2 fun d hd => h d (List.mem_cons_of_mem _ hd)]
    exact this ds xs t fun d hd => o1 d hd d hd
  refine PySem.W.sorted_data (enc := fun b : V × PyData => b.2) (vs := its) (bs := xs.zip ds) (R := fun v b => RelV b.1 v) hl.isList (paired_zip t rv) (zip_reads I t lay rv) ?_ ?_ ?_ ?_ ?_
  · rw [zip_snd t]
    exact fun d hd e he => o1 d hd e he
  · rw [zip_snd t]
    rcases o2 with o2 | o2
    · refine .inl fun d hd => ?_
      have := o2 d hd
      match d, this with
      | .tuple (x :: r), _ => exact ⟨x, r, rfl⟩
    · refine .inr fun d hd => ?_
      have := o2 d hd
      refine ⟨fun z => ?_, fun xs z => ?_⟩
      · subst z; cases this
      · subst z; cases this
  · rw [hzl, sizeLine_eq]; exact o4
  · intro p hp
    have hp2 : p.2 ∈ ds := by rw [← zip_snd t]; exact List.mem_map.mpr ⟨p, hp, rfl⟩
    have := o3 _ hp2
    show X.A.units + 2 + p.2.depth < cLine
    omega
  · intro out ho eo
    have hsort : ((xs.zip ds).mergeSort (PySem.W.dataLe false fun b => b.2)).map (·.2) = sortD ds := by
      unfold sortD
      rw [List.map_mergeSort (r := PySem.W.dataLe false fun b : V × PyData => b.2) (s := PySem.W.dataLe false id) (f := fun x : V × PyData => x.2) (fun a _ b _ => rfl), zip_snd t]
    have hz2 : DtA O H (((xs.zip ds).mergeSort (PySem.W.dataLe false fun b => b.2)).map (·.1)) (sortD ds) := by
      rw [← hsort]
      exact dta_pairs _ fun p hp => zip_mem t p (List.mem_mergeSort.mp hp)
    obtain ⟨c, hc⟩ := sortedAll_at s.heap its out.toArray
    have fr : H (s.heap.objs.size + 1) = none := I.hok.fresh (Nat.le_succ _)
    refine ⟨.ref (s.heap.objs.size + 1), _, I.laid (t' := s.toks) (o := .lst (((xs.zip ds).mergeSort (PySem.W.dataLe false fun b => b.2)).map (·.1))) (fun b u e => sortedAll_old e) (Nat.le_succ _) ?_, rfl, q _ _ hz2 fr⟩
    refine ⟨?_, out, c, each_vals eo, hc⟩
    rw [List.length_map, List.length_mergeSort, hzl, sizeLine_eq]
    exact o4
theorem c_sort (hu : X.A.units + 60 < cLine) : CalR X T .N (.builtin "sorted") (g1 gSort) := cal1 (r := fun v H Q => ∃ (a : Addr) (xs : List V) (ds : List PyData) (O : Addr → Prop), v = V.ref a ∧ H a = some (.lst xs) ∧ DtA O H xs ds ∧ sortOk ds = true ∧
    ∀ (zs : List V) (p : Addr), DtA O H zs (sortD ds) → H p = none → Q (.ref p) (upd H p (.lst zs))) (CallR.imp (cr_sortD hu) fun vs H Q ⟨v, e, a, xs, ds, O, e2, q⟩ => ⟨a, xs, ds, O, by rw [e, e2], q⟩) fun am O H h v d d' Q dm ha wd l hg q => by
  cases d with
  | list es =>
    simp only [gSort, Option.ite_none_right_eq_some, Option.some.injEq] at hg
    obtain ⟨ok, rfl⟩ := hg
    obtain ⟨a, xs, rfl, r, t⟩ := l.list
    exact ⟨a, xs, es, O, rfl, r, t, ok, fun zs p t' hp => fin_lst wd dm ha hp t' q⟩
  | _ => cases hg
/-! ### isinstance -/
def dIsi (ty : String) (fa : DEnv → HS → Res PyData) : DEnv → HS → Res PyData := fun δ h => (fa δ h).op fun d => some (.bool (isaB (tyD d) ty))
theorem tyx_of {am : Option Addr} {O : Addr → Prop} {H : Hp} {v : V} {d : PyData} (l : Lt am O H v d) : TyX X.K H v (.type (tyD d)) := by
  cases d with
  | none => cases l.non; exact .base .non
  | bool b => cases l.bl; exact .base (.bl b)
  | int b => cases l.int; exact .base (.int b)
  | str b => cases l.str.1; exact .base (.str b)
  | list b => obtain ⟨p, xs, rfl, r, t⟩ := l.list; exact .base (.lst r)
  | tuple b =>
    obtain ⟨p, xs, rfl, r, t, _⟩ := l.tup
    rcases r with r | ⟨o, r⟩
    · exact .base (.tup r)
    · exact .fTuple r
  | dict b =>
    obtain ⟨p, xs, rfl, r, t⟩ := l.dic
    rcases r with r | ⟨o, r⟩
    · exact .base (.dK r)
    · exact .fDict r
theorem kit_d {K : PySem.W.Frag} {ty : String} (ht : ty = "str" ∨ ty = "int" ∨ ty = "bool" ∨ ty = "list" ∨ ty = "tuple" ∨ ty = "dict") (d : PyData) : PySem.W.kitOne K (.type (tyD d)) (.type ty) = some (isaB (tyD d) ty) := by
  refine kit_ty ?_
  have key : ∀ t ∈ ["NoneType", "bool", "int", "str", "list", "tuple", "dict"], ∀ u ∈ ["str", "int", "bool", "list", "tuple", "dict"], kitB t u = some (isaB t u) := by decide +kernel
  refine key _ ?_ _ ?_
  · cases d <;> simp [tyD]
  · simpa using ht
theorem e_isi {ty : String} {n : Str} {p p2 : Pos} (ht : ty = "str" ∨ ty = "int" ∨ ty = "bool" ∨ ty = "list" ∨ ty = "tuple" ∨ ty = "dict") (hg : Gl X "isinstance") (hm : X.mg "isinstance" = none) (hgt : Gl X n) (hmt : X.mg n = none) (hv : bootBuiltins n = some (.type ty)) (ha : ED T CL W X .L a fa)
    (hn : n ≠ "__name__" := by decide) (hd : (n == ("__debug__" : Str)) = false := by decide) (hs : starEach [a, .Name n p2] X.env = (false, eval a X.env) :: starEach [.Name n p2] X.env := by rfl) (hs2 : starEach [.Name n p2] X.env = (false, eval (.Name n p2) X.env) :: starEach [] X.env := by rfl)
    (hpl : (backTo pos (starEach [.Name n p2] X.env)).any (·.1) = false := by rfl) : ED T CL W X .N (.Call (.Name "isinstance" p) [a, .Name n p2] [] pos) (dIsi ty fa) :=
  PE.imp (pe_callB call_isi hg hm (by decide +kernel) (pa_cons ha (pa_cons (pe_bltn (v := .ty ty) hgt hmt hv rfl hn hd) pa_nil hs2) hs) (by decide) (by decide) hs hpl) fun σ H Q q => by
    obtain ⟨am, Oc, H0, δ, h, x, q⟩ := of_tE q
    unfold dIsi at q
    rw [res_op_eq] at q
    refine tE_of x (Aft.bind x q fun d1 h1 v1 H1 x1 e1 r1 q1 => ?_)
    exact ⟨v1, .ty ty, .type (tyD d1), .type ty, _, rfl, .ty ty, tyx_of r1.2, kit_d ht d1, fin_sc (d := .bool _) x1.wd (.bl _) rfl fun v' H' s r => q1 v' H' (Eff.same s) r⟩
def dIsi2 (ty ty2 : String) (fa : DEnv → HS → Res PyData) : DEnv → HS → Res PyData := fun δ h => (fa δ h).op fun d => some (.bool (isaB (tyD d) ty || isaB (tyD d) ty2))
theorem e_isi2 {ty ty2 : String} {n n2 : Str} {p p2 p3 p4 : Pos} {x1} (ht : ty = "str" ∨ ty = "int" ∨ ty = "bool" ∨ ty = "list" ∨ ty = "tuple" ∨ ty = "dict") (ht2 : ty2 = "str" ∨ ty2 = "int" ∨ ty2 = "bool" ∨ ty2 = "list" ∨ ty2 = "tuple" ∨ ty2 = "dict") (hg : Gl X "isinstance") (hm : X.mg "isinstance" = none)
    (hgt : Gl X n) (hmt : X.mg n = none) (hv : bootBuiltins n = some (.type ty)) (hgt2 : Gl X n2) (hmt2 : X.mg n2 = none) (hv2 : bootBuiltins n2 = some (.type ty2)) (ha : ED T CL W X .L a fa)
    (hn : n ≠ "__name__" := by decide) (hd : (n == ("__debug__" : Str)) = false := by decide) (hn2 : n2 ≠ "__name__" := by decide) (hd2 : (n2 == ("__debug__" : Str)) = false := by decide)
    (hs : starEach [a, .Tuple [.Name n p2, .Name n2 p3] x1 p4] X.env = (false, eval a X.env) :: starEach [.Tuple [.Name n p2, .Name n2 p3] x1 p4] X.env := by rfl)
    (hs2 : starEach [.Tuple [.Name n p2, .Name n2 p3] x1 p4] X.env = (false, eval (.Tuple [.Name n p2, .Name n2 p3] x1 p4) X.env) :: starEach [] X.env := by rfl)
    (hs3 : starEach [.Name n p2, .Name n2 p3] X.env = (false, eval (.Name n p2) X.env) :: starEach [.Name n2 p3] X.env := by rfl) (hs4 : starEach [.Name n2 p3] X.env = (false, eval (.Name n2 p3) X.env) :: starEach [] X.env := by rfl)
    (hpl : (backTo pos (starEach [.Tuple [.Name n p2, .Name n2 p3] x1 p4] X.env)).any (·.1) = false := by rfl) :
    ED T CL W X .N (.Call (.Name "isinstance" p) [a, .Tuple [.Name n p2, .Name n2 p3] x1 p4] [] pos) (dIsi2 ty ty2 fa) :=
  PE.imp (pe_callB call_isiT hg hm (by decide +kernel) (pa_cons ha (pa_cons (pe_tup (pa_cons (pe_bltn (v := .ty ty) hgt hmt hv rfl hn hd) (pa_cons (pe_bltn (v := .ty ty2) hgt2 hmt2 hv2 rfl hn2 hd2) pa_nil hs4) hs3)) pa_nil hs2) hs) (by decide) (by decide) hs hpl) fun σ H Q q => by
    obtain ⟨am, Oc, H0, δ, h, x, q⟩ := of_tE q
    unfold dIsi2 at q
    rw [res_op_eq] at q
    refine tE_of x (Aft.bind x q fun d1 h1 v1 H1 x1 e1 r1 q1 => ?_)
    refine ⟨few_line (show 2 ≤ 1000 by decide), fun t ht' => ?_⟩
    have sm : Same H1 (upd H1 t (.tup [.ty ty, .ty ty2])) := same_upd ht'
    refine ⟨v1, t, [.ty ty, .ty ty2], .type (tyD d1), [.type ty, .type ty2], isaB (tyD d1) ty || isaB (tyD d1) ty2, rfl, upd_same, .cons (.ty ty) (.cons (.ty ty2) .nil), tyx_of (r1.2.kp (Eff.same sm) x1.amO), ?_, ?_⟩
    · refine kitAny_cons (kit_d ht d1) (fun hb => ?_) (fun hb => by rw [hb]; rfl)
      rw [hb, Bool.false_or]
      refine kitAny_cons (kit_d ht2 d1) (fun hb2 => ?_) (fun hb2 => hb2)
      rw [hb2]
      exact kitAny_nil
    · exact q1 _ _ (Eff.same sm) (.inl ⟨x1.wd.same sm (fun _ _ _ _ z => z) x1.amO, .bl _, rfl⟩)
end
end DL
/-! The data layer, part 8: statements. -/
namespace DL
open PySem PySem.Spec PyProof.Rows L2
inductive SRes where
  | nx (δ : DEnv) (h : HS)
  | rt (d : PyData) (h : HS)
  | bk (δ : DEnv) (h : HS)
  | ct (δ : DEnv) (h : HS)
  | exc (x : Exc) (δ : DEnv) (h : HS)
  | no
def SRes.bind (r : SRes) (k : DEnv → HS → SRes) : SRes := match r with
  | .nx δ h => k δ h
  | r => r
/-- a value's result, with what is done with it -/
def Res.to {α : Type} (r : Res α) (δ : DEnv) (k : α → HS → SRes) : SRes := match r with
  | .ok a h => k a h
  | .exc x h => .exc x δ h
  | .no => .no
abbrev SF := DEnv → HS → SRes
abbrev EF := DEnv → HS → Res PyData
section
variable (T : List (Addr × Str)) (CL : Str → Option Addr) (W : WX)
def AftS (Dn : Ends) (am : Option Addr) (Oc : Addr → Prop) (B : Bs) (r : SRes) : Prop := match r with
  | .nx δ h => ∀ σ H, At T am Oc B σ H δ h → Dn.nx σ H
  | .rt d h => ∀ v H, EffN B am H → Wd T am Oc H h → Dt Oc H v d → Dn.rt v H
  | .bk δ h => ∀ σ H, At T am Oc B σ H δ h → Dn.bk σ H
  | .ct δ h => ∀ σ H, At T am Oc B σ H δ h → Dn.ct σ H
  | .exc x δ h => ∀ cls dd σ H, At T am Oc B σ H δ h → XR CL x cls dd H → W cls dd σ H
  | .no => False
def tS (f : SF) : TS := fun Dn σ H => ∃ am Oc B δ h, At T am Oc B σ H δ h ∧ AftS T CL W Dn am Oc B (f δ h)
end
abbrev SD (T : List (Addr × Str)) (CL : Str → Option Addr) (W : WX) (X : Cx) (st : Stmt) (f : SF) : Prop := PS X st (tS T CL W f)
abbrev SsD (T : List (Addr × Str)) (CL : Str → Option Addr) (W : WX) (X : Cx) (st : List Stmt) (f : SF) : Prop := PSs X st (tS T CL W f)
theorem PS.imp {X : Cx} {e : Stmt} {t t' : TS} (h : PS X e t) (k : ∀ D σ H, t' D σ H → t D σ H) : PS X e t' := ⟨fun pins s σ H D I q => h.run pins s σ H D I (k D σ H q)⟩
theorem PSs.imp {X : Cx} {e : List Stmt} {t t' : TS} (h : PSs X e t) (k : ∀ D σ H, t' D σ H → t D σ H) : PSs X e t' := ⟨fun pins s σ H D I q => h.run pins s σ H D I (k D σ H q)⟩
def sNext : SF := fun δ h => .nx δ h
def sSeq (f g : SF) : SF := fun δ h => (f δ h).bind g
section
variable {T : List (Addr × Str)} {CL : Str → Option Addr} {W : WX} {X : Cx} {pos : Pos} {a b c : Expr} {fa fb fc : EF} {st : Stmt} {rest : List Stmt} {f g : SF}
theorem tS_nx {D : Ends} {σ : L2.St} {H : Hp} (h : tS T CL W sNext D σ H) : D.nx σ H := by
  obtain ⟨am, Oc, B, δ, hs, x, q⟩ := h
  exact q σ H x
theorem ss_nil : SsD T CL W X [] sNext := PSs.imp pss_nil fun D σ H q => tS_nx q
theorem ss_cons (h1 : SD T CL W X st f) (h2 : SsD T CL W X rest g) : SsD T CL W X (st :: rest) (sSeq f g) := PSs.imp (pss_cons h1 h2) fun D σ H ⟨am, Oc, B, δ, hs, x, q⟩ => ⟨am, Oc, B, δ, hs, x, by
  unfold sSeq at q
  revert q
  cases f δ hs with
  | nx δ1 h1 => exact fun q σ' H' x' => ⟨am, Oc, B, δ1, h1, x', q⟩
  | _ => exact id⟩
theorem ss_one (h1 : SD T CL W X st f) : SsD T CL W X [st] f := pss_one h1
theorem s_pass : SD T CL W X (.Pass pos) sNext := PS.imp ps_pass fun D σ H q => tS_nx q
theorem s_doc {x j p'} : SD T CL W X (.Expr (.Constant (.str x) j pos) p') sNext := PS.imp ps_doc fun D σ H q => tS_nx q
def sBreak : SF := fun δ h => .bk δ h
def sCont : SF := fun δ h => .ct δ h
theorem s_break : SD T CL W X (.Break pos) sBreak := PS.imp ps_break fun D σ H ⟨am, Oc, B, δ, hs, x, q⟩ => q σ H x
theorem s_continue : SD T CL W X (.Continue pos) sCont := PS.imp ps_continue fun D σ H ⟨am, Oc, B, δ, hs, x, q⟩ => q σ H x
/-- from a value's result to a statement's -/
theorem AftS.bindE {k1 : RK} {D : Ends} {am : Option Addr} {Oc : Addr → Prop} {B : Bs} {H : Hp} {σ : L2.St} {δ : DEnv} {h : HS} {K : VK} {r : Res PyData} {g : PyData → HS → SRes} (x : At T am Oc B σ H δ h)
    (q : AftS T CL W D am Oc B (r.to δ g))
    (s : ∀ d1 h1 v1 H1, At T am Oc B σ H1 δ h1 → Eff am H H1 → Rl T k1 am (OO Oc σ δ) H H1 h1 v1 d1 → AftS T CL W D am Oc B (g d1 h1) → K v1 H1) : Aft T CL W k1 am (OO Oc σ δ) σ H K r := by
  cases r with
  | ok d h' => exact fun v H' e r => s d h' v H' (x.eff' e (r.wd x.amO)) e r q
  | exc y h' => exact fun cls dd H' e w z => q cls dd σ H' (x.eff' e w) z
  | no => exact q
theorem AftS.bindA {k1 : RK} {D : Ends} {am : Option Addr} {Oc : Addr → Prop} {B : Bs} {H : Hp} {σ : L2.St} {δ : DEnv} {h : HS} {K : List V → Hp → Prop} {r : Res (List PyData)} {g : List PyData → HS → SRes} (x : At T am Oc B σ H δ h)
    (q : AftS T CL W D am Oc B (r.to δ g))
    (s : ∀ d1 h1 v1 H1, r = .ok d1 h1 → At T am Oc B σ H1 δ h1 → Eff am H H1 → Paired (fun v d => Rl T k1 am (OO Oc σ δ) H H1 h1 v d) v1 d1 → AftS T CL W D am Oc B (g d1 h1) → K v1 H1) : AftA T CL W k1 am (OO Oc σ δ) σ H K r := by
  cases r with
  | ok d h' => exact fun v H' e w r => s d h' v H' rfl (x.eff' e w) e r q
  | exc y h' => exact fun cls dd H' e w z => q cls dd σ H' (x.eff' e w) z
  | no => exact q
theorem AftS.bindT {D : Ends} {am : Option Addr} {Oc : Addr → Prop} {B : Bs} {H : Hp} {σ : L2.St} {δ : DEnv} {h : HS} {K : Bool → Hp → Prop} {r : Res Bool} {g : Bool → HS → SRes} (x : At T am Oc B σ H δ h)
    (q : AftS T CL W D am Oc B (r.to δ g))
    (s : ∀ d1 h1 H1, At T am Oc B σ H1 δ h1 → Eff am H H1 → AftS T CL W D am Oc B (g d1 h1) → K d1 H1) : AftT T CL W am (OO Oc σ δ) σ H K r := by
  cases r with
  | ok d h' => exact fun H' e w => s d h' H' (x.eff' e w) e q
  | exc y h' => exact fun cls dd H' e w z => q cls dd σ H' (x.eff' e w) z
  | no => exact q
/-! ### if, value dropped -/
def sIf (c : DEnv → HS → Res Bool) (f g : SF) : SF := fun δ h => (c δ h).to δ fun b h1 => if b then f δ h1 else g δ h1
theorem s_if {tc : DEnv → HS → Res Bool} {p q : List Stmt} (hc : TD T CL W X c tc) (ha : SsD T CL W X p f) (hb : SsD T CL W X q g) : SD T CL W X (.If c p q pos) (sIf tc f g) := PS.imp (ps_if hc ha hb) fun D σ H ⟨am, Oc, B, δ, hs, x, q⟩ => by
  refine tT_of x (AftS.bindT x q fun b h1 H1 x1 e1 q1 => ?_)
  cases b with
  | true => rw [if_pos rfl]; exact ⟨am, Oc, B, δ, h1, x1, q1⟩
  | false => rw [if_neg Bool.false_ne_true]; exact ⟨am, Oc, B, δ, h1, x1, q1⟩
def sDrop (f : EF) : SF := fun δ h => (f δ h).to δ fun _ h1 => .nx δ h1
theorem s_drop {k : RK} (ha : ED T CL W X k a fa) (hs : swapsWith a none pos.line X.env = pure false := by rfl) : SD T CL W X (.Expr a pos) (sDrop fa) := PS.imp (ps_expr ha hs) fun D σ H ⟨am, Oc, B, δ, hs, x, q⟩ => by
  refine tE_of x (AftS.bindE x q fun d h1 v1 H1 x1 e1 r1 q1 => q1 σ H1 x1)
/-! ### return -/
def frz : SV → SV
  | .o x => .d x
  | s => s
theorem At.frzI {am : Option Addr} {Oc : Addr → Prop} {B : Bs} {H : Hp} {σ : L2.St} {δ : DEnv} {h : HS} (x : At T am Oc B σ H δ h) (i : Nat) (hi : i < δ.length) : At T am Oc B σ H (δ.set i (frz δ[i])) h := by
  cases e : δ[i] with
  | o y => exact x.freeze (List.getElem?_eq_some_iff.mpr ⟨hi, e⟩)
  | no => show At T am Oc B σ H (δ.set i .no) h; rw [← e, List.set_getElem_self]; exact x
  | d y => show At T am Oc B σ H (δ.set i (.d y)) h; rw [← e, List.set_getElem_self]; exact x
  | am => show At T am Oc B σ H (δ.set i .am) h; rw [← e, List.set_getElem_self]; exact x
  | raw k v => show At T am Oc B σ H (δ.set i (.raw k v)) h; rw [← e, List.set_getElem_self]; exact x
theorem At.frzN {am : Option Addr} {Oc : Addr → Prop} {B : Bs} {H : Hp} {σ : L2.St} {δ : DEnv} {h : HS} (x : At T am Oc B σ H δ h) : ∀ n, n ≤ δ.length → At T am Oc B σ H ((δ.take n).map frz ++ δ.drop n) h
  | 0, _ => by simpa using x
  | n + 1, hn => by
    have y := At.frzN x n (Nat.le_of_succ_le hn)
    have hl : n < ((δ.take n).map frz ++ δ.drop n).length := by simp; omega
    have z := y.frzI n hl
    have e : ((δ.take n).map frz ++ δ.drop n).set n (frz ((δ.take n).map frz ++ δ.drop n)[n]) = (δ.take (n + 1)).map frz ++ δ.drop (n + 1) := by
      have hm : min n δ.length = n := by omega
      apply List.ext_getElem?
      intro j
      rw [List.getElem?_set]
      by_cases h1 : n = j
      · subst h1
        rw [if_pos rfl, if_pos hl]
        rw [List.getElem_append_right (by simp; omega)]
        rw [List.getElem?_append_left (by simp; omega)]
        simp [hm, List.getElem?_take]
        rw [List.getElem?_eq_getElem (by omega)]
        simp
      · rw [if_neg h1]
        by_cases h2 : j < n
        · rw [List.getElem?_append_left (by simp; omega), List.getElem?_append_left (by simp; omega)]
          simp [List.getElem?_take, h2, Nat.lt_succ_of_lt h2]
        · rw [List.getElem?_append_right (by simp; omega), List.getElem?_append_right (by simp; omega)]
          simp only [List.length_map, List.length_take, List.getElem?_drop]
          congr 1
          omega
    rw [e] at z
    exact z
theorem At.frzA {am : Option Addr} {Oc : Addr → Prop} {B : Bs} {H : Hp} {σ : L2.St} {δ : DEnv} {h : HS} (x : At T am Oc B σ H δ h) : At T am Oc B σ H (δ.map frz) h := by
  have := x.frzN δ.length (Nat.le_refl _)
  rw [List.take_length, List.drop_length, List.append_nil] at this
  exact this
def sFrz (f : SF) : SF := fun δ h => f (δ.map frz) h
def sFrz1 (i : Nat) (f : SF) : SF := fun δ h => match δ[i]? with
  | some s => f (δ.set i (frz s)) h
  | none => f δ h
theorem tS_frz {D : Ends} {σ : L2.St} {H : Hp} (h : tS T CL W (sFrz f) D σ H) : tS T CL W f D σ H := by
  obtain ⟨am, Oc, B, δ, hs, x, q⟩ := h
  exact ⟨am, Oc, B, _, hs, x.frzA, q⟩
theorem tS_frz1 {i : Nat} {D : Ends} {σ : L2.St} {H : Hp} (h : tS T CL W (sFrz1 i f) D σ H) : tS T CL W f D σ H := by
  obtain ⟨am, Oc, B, δ, hs, x, q⟩ := h
  unfold sFrz1 at q
  cases e : δ[i]? with
  | none => rw [e] at q; exact ⟨am, Oc, B, _, hs, x, q⟩
  | some s =>
    rw [e] at q
    obtain ⟨hl, e⟩ := List.getElem?_eq_some_iff.mp e
    subst e
    exact ⟨am, Oc, B, _, hs, x.frzI i hl, q⟩
theorem s_frz (h : SD T CL W X st f) : SD T CL W X st (sFrz f) := PS.imp h fun _ _ _ q => tS_frz q
theorem s_frz1 {i : Nat} (h : SD T CL W X st f) : SD T CL W X st (sFrz1 i f) := PS.imp h fun _ _ _ q => tS_frz1 q
theorem ss_frz1 {i : Nat} (h : SsD T CL W X rest f) : SsD T CL W X rest (sFrz1 i f) := PSs.imp h fun _ _ _ q => tS_frz1 q
def sRet0 (f : EF) : SF := fun δ h => (f δ h).to δ fun d h1 => .rt d h1
def sRet (f : EF) : SF := fun δ h => (f (δ.map frz) h).to (δ.map frz) fun d h1 => .rt d h1
theorem s_ret (ha : ED T CL W X .D a fa) : SD T CL W X (.Return (some a) pos) (sRet fa) := s_frz (f := sRet0 fa) (PS.imp (ps_ret ha) fun D σ H ⟨am, Oc, B, δ, hs, x, q⟩ => by
  refine tE_of x (AftS.bindE x q fun d h1 v1 H1 x1 e1 r1 q1 => ?_)
  have k : Kp (OO Oc σ δ) Oc H1 H1 := ⟨fun _ _ _ _ r => r, fun _ _ _ r => r, fun _ _ _ _ z => .inl z⟩
  exact q1 v1 H1 x1.eff (r1.1.sub (fun _ z => .inl z) x1.amc) (r1.2.kp k))
def sRetN : SF := fun _ h => .rt .none h
theorem s_retN : SD T CL W X (.Return none pos) sRetN := PS.imp ps_retN fun D σ H ⟨am, Oc, B, δ, hs, x, q⟩ => q _ H x.eff (x.wd.sub (fun _ z => .inl z) x.amc) .non
/-! ### x = e -/
def sSet (i : Nat) (f : EF) : SF := fun δ h => (f δ h).to δ fun d h1 => .nx (δ.set i (.d d)) h1
def mkO (d : PyData) : SV := if ownable d then .o d else .d d
def sSetO (i : Nat) (f : EF) : SF := fun δ h => (f δ h).to δ fun d h1 => .nx (δ.set i (mkO d)) h1
theorem s_set {i : Nat} {x : Str} {pos' : Pos} (hN : X.N.Nodup) (hi : X.N[i]? = some x) (hx : Loc X.env.scope x) (ha : ED T CL W X .D a fa) (hs : swapsWith a (some (.Name x pos')) pos.line X.env = pure false := by rfl) (hf : X.fn x = true ∨ X.env.scope.names.lookup x = some .local := by first | exact .inl rfl | exact .inr rfl | assumption) :
    SD T CL W X (.Assign [.Name x pos'] a pos) (sSet i fa) := PS.imp (ps_set hN hi hx ha hs hf) fun D σ H ⟨am, Oc, B, δ, hs, x, q⟩ => by
  refine tE_of x (AftS.bindE x q fun d h1 v1 H1 x1 e1 r1 q1 => ?_)
  exact q1 _ _ (x1.put (fun _ z => nomatch z) ⟨v1, rfl, r1.2⟩)
theorem s_setO {i : Nat} {x : Str} {pos' : Pos} (hN : X.N.Nodup) (hi : X.N[i]? = some x) (hx : Loc X.env.scope x) (ha : ED T CL W X .N a fa) (hs : swapsWith a (some (.Name x pos')) pos.line X.env = pure false := by rfl) (hf : X.fn x = true ∨ X.env.scope.names.lookup x = some .local := by first | exact .inl rfl | exact .inr rfl | assumption) :
    SD T CL W X (.Assign [.Name x pos'] a pos) (sSetO i fa) := PS.imp (ps_set hN hi hx ha hs hf) fun D σ H ⟨am, Oc, B, δ, hs, x, q⟩ => by
  refine tE_of x (AftS.bindE x q fun d h1 v1 H1 x1 e1 r1 q1 => ?_)
  rcases r1 with ⟨w, r, o⟩ | ⟨p, rfl, fs, w, o⟩
  · unfold mkO at q1
    rw [o, if_neg Bool.false_ne_true] at q1
    exact q1 _ _ (x1.put (fun _ z => nomatch z) ⟨v1, rfl, r⟩)
  · have ow : ownable d = true := by cases o <;> rfl
    unfold mkO at q1
    rw [if_pos ow] at q1
    exact q1 _ _ (x.own e1 fs w o)
end
end DL
/-! The data layer, part 9: targets, what a loop walks, for, while. -/
namespace DL
open PySem PySem.Spec PyProof.Rows L2
abbrev TF := PyData → DEnv → Option DEnv
abbrev TFs := List PyData → DEnv → Option DEnv
section
variable (T : List (Addr × Str)) (X : Cx)
structure Only (L : List Nat) (σ σ' : L2.St) (δ δ' : DEnv) : Prop where
  len : σ'.length = σ.length
  s : ∀ j, j ∉ L → σ'[j]? = σ[j]?
  d : ∀ j, j ∉ L → δ'[j]? = δ[j]?
def GS (L : List Nat) (g : TG) (t : TF) : Prop := ∀ (am : Option Addr) (Oc : Addr → Prop) (B : Bs) (σ : L2.St) (H : Hp) (δ : DEnv) (h : HS) (v : V) (d : PyData) (δ' : DEnv) (Q : L2.St → Hp → Prop), At T am Oc B σ H δ h → Dt (OO Oc σ δ) H v d → t d δ = some δ' →
  (∀ σ', At T am Oc B σ' H δ' h → (∀ b, OO Oc σ' δ' b → OO Oc σ δ b) → Only L σ σ' δ δ' → Q σ' H) → g v σ H Q
def GSs (L : List Nat) (g : TGs) (t : TFs) : Prop := ∀ (am : Option Addr) (Oc : Addr → Prop) (B : Bs) (σ : L2.St) (H : Hp) (δ : DEnv) (h : HS) (v : List V) (d : List PyData) (δ' : DEnv) (Q : L2.St → Hp → Prop), At T am Oc B σ H δ h → DtA (OO Oc σ δ) H v d → t d δ = some δ' →
  (∀ σ', At T am Oc B σ' H δ' h → (∀ b, OO Oc σ' δ' b → OO Oc σ δ b) → Only L σ σ' δ δ' → Q σ' H) → g v σ H Q
def GD (L : List Nat) (tg : Expr) (g : TG) (t : TF) : Prop := PG X tg g ∧ GS T L g t
def GDs (L : List Nat) (tg : List Expr) (g : TGs) (t : TFs) : Prop := PGs X tg g ∧ GSs T L g t
end
theorem oo_put {Oc : Addr → Prop} {σ : L2.St} {δ : DEnv} {i : Nat} {v : Option V} {s : SV} (hs : ∀ y, s ≠ .o y) : ∀ b, OO Oc (σ.set i v) (δ.set i s) b → OO Oc σ δ b := fun b z => by
  rcases z with z | ⟨j, z⟩
  · exact .inl z
  · rcases own_set z with ⟨_, ⟨y, e⟩, _⟩ | ⟨_, z⟩
    · exact absurd e (hs y)
    · exact .inr ⟨j, z⟩
def tgN (i : Nat) : TF := fun d δ => some (δ.set i (.d d))
def tgNil : TFs := fun ds δ => match ds with
  | [] => some δ
  | _ => none
def tgCons (t : TF) (ts : TFs) : TFs := fun ds δ => match ds with
  | d :: ds => (t d δ).bind (ts ds)
  | [] => none
def tgTup (n : Nat) (ts : TFs) : TF := fun d δ => match d with
  | .tuple ds => if ds.length = n then ts ds δ else none
  | _ => none
section
variable {T : List (Addr × Str)} {CL : Str → Option Addr} {W : WX} {X : Cx} {pos : Pos} {a b c : Expr} {fa fb fc : EF} {st : Stmt} {rest : List Stmt} {f g : SF}
theorem gd_name {i : Nat} {x : Str} (hN : X.N.Nodup) (hi : X.N[i]? = some x) (hx : Loc X.env.scope x) (hf : X.fn x = true ∨ X.env.scope.names.lookup x = some .local := by first | exact .inl rfl | exact .inr rfl | assumption) : GD T X [i] (.Name x pos) (gName i) (tgN i) :=
  ⟨pg_name hN hi hx hf, fun am Oc B σ H δ h v d δ' Q x dd e q => by
    cases e
    exact q _ (x.put (fun _ z => nomatch z) ⟨v, rfl, dd⟩) (oo_put fun _ z => nomatch z) ⟨List.length_set .., fun j hj => List.getElem?_set_ne (by intro z; exact hj (by simp [z])), fun j hj => List.getElem?_set_ne (by intro z; exact hj (by simp [z]))⟩⟩
theorem gds_nil : GDs T X [] [] gNil tgNil := ⟨pgs_nil, fun am Oc B σ H δ h v d δ' Q x dd e q => by
  cases d with
  | nil => cases dd; cases e; exact ⟨rfl, q σ x (fun _ z => z) ⟨rfl, fun _ _ => rfl, fun _ _ => rfl⟩⟩
  | cons _ _ => cases e⟩
theorem gds_cons {es : List Expr} {gg : TG} {gs : TGs} {t : TF} {ts : TFs} {L1 L2 : List Nat} (h1 : GD T X L1 a gg t) (h2 : GDs T X L2 es gs ts) (hs : (assignEach (a :: es) X.env).map (·.2) = assign a X.env :: (assignEach es X.env).map (·.2) := by rfl) : GDs T X (L1 ++ L2) (a :: es) (gCons gg gs) (tgCons t ts) := by
  obtain ⟨p1, k1⟩ := h1
  obtain ⟨p2, k2⟩ := h2
  refine ⟨pgs_cons p1 p2 hs, fun am Oc B σ H δ h v d δ' Q x dd e q => ?_⟩
  cases d with
  | nil => cases e
  | cons d ds =>
    cases dd with
    | cons d1 d2 =>
      obtain ⟨δ1, e1, e2⟩ := Option.bind_eq_some_iff.mp e
      refine ⟨_, _, rfl, k1 am Oc B σ H δ h _ d δ1 _ x d1 e1 fun σ1 x1 o1 l1 => ?_⟩
      exact k2 am Oc B σ1 H δ1 h _ ds δ' Q x1 (d2.kp ⟨fun _ _ _ _ r => r, fun _ _ _ r => r, fun b _ _ _ z => o1 b z⟩) e2 fun σ2 x2 o2 l2 => q σ2 x2 (fun b z => o1 b (o2 b z)) ⟨l2.len.trans l1.len, fun j hj => (l2.s j fun z => hj (List.mem_append_right _ z)).trans (l1.s j fun z => hj (List.mem_append_left _ z)), fun j hj => (l2.d j fun z => hj (List.mem_append_right _ z)).trans (l1.d j fun z => hj (List.mem_append_left _ z))⟩
theorem gd_tup {es : List Expr} {k : Nat} {gs : TGs} {ts : TFs} {n : Nat} {L : List Nat} (hc : X.calm = true) (h : GDs T X L es gs ts)
    (hn : (assignEach es X.env).length = n := by rfl) (hst : (assignEach es X.env).findIdx? (·.1) = none := by rfl) : GD T X L (.Tuple es k pos) (gTup X.K n gs) (tgTup n ts) := by
  obtain ⟨p, kk⟩ := h
  refine ⟨pg_tup hc p hn hst, fun am Oc B σ H δ h v d δ' Q x dd e q => ?_⟩
  unfold tgTup at e
  cases d with
  | tuple ds =>
    simp only [Option.ite_none_right_eq_some] at e
    obtain ⟨e1, e2⟩ := e
    cases dd with
    | tup r no t => exact ⟨_, _, rfl, .inl r, by rw [t.length, e1], kk am Oc B σ H δ h _ ds δ' Q x t e2 q⟩
  | _ => cases e
/-- target = e -/
def sAsg (t : TF) (f : EF) : SF := fun δ h => (f δ h).to δ fun d h1 => match t d δ with
  | some δ' => .nx δ' h1
  | none => .no
theorem s_asg {tg : Expr} {gg : TG} {t : TF} {L : List Nat} (ha : ED T CL W X .D a fa) (hg : GD T X L tg gg t) (hs : swapsWithSole [tg] a pos.line X.env = pure false := by rfl) (hw : swappedStores [tg] a X.env = pure none := by rfl)
    (h1 : (assignEach [tg] X.env).map (·.2) = [assign tg X.env] := by rfl) : SD T CL W X (.Assign [tg] a pos) (sAsg t fa) := by
  obtain ⟨p, k⟩ := hg
  refine PS.imp (ps_asg ha p hs hw h1) fun D σ H ⟨am, Oc, B, δ, hs, x, q⟩ => ?_
  refine tE_of x (AftS.bindE x q fun d h1 v1 H1 x1 e1 r1 q1 => ?_)
  cases ht : t d δ with
  | none => rw [ht] at q1; exact q1.elim
  | some δ' =>
    rw [ht] at q1
    exact k am Oc B σ H1 δ h1 v1 d δ' D.nx x1 r1.2 ht fun σ' x' _ _ => q1 σ' H1 x'
/-! ### anchors -/
def ownS (σ : L2.St) (δ : DEnv) : Addr → Prop := fun a => ∃ i, OwnAt σ δ i a
def Bs.at (σ : L2.St) (δ : DEnv) (H : Hp) : Bs := ⟨H, ownS σ δ⟩
theorem At.anchor {am : Option Addr} {Oc : Addr → Prop} {B : Bs} {H : Hp} {σ : L2.St} {δ : DEnv} {h : HS} (x : At T am Oc B σ H δ h) : At T am Oc (Bs.at σ δ H) σ H δ h :=
  ⟨x.len, x.dom, x.wd, x.amc, x.sl, x.ownd, x.ownc, fun i a o => .inl ⟨i, o⟩, fun b o e _ _ => e⟩
theorem EffN.back {am : Option Addr} {Oc : Addr → Prop} {B : Bs} {H H' : Hp} {σ : L2.St} {δ : DEnv} {h : HS} (x : At T am Oc B σ H δ h) (e : EffN (Bs.at σ δ H) am H') : EffN B am H' := fun b o hb hn hc =>
  e b o (x.eff b o hb hn hc) (fun ⟨i, ho⟩ => (x.new i b ho).elim hn fun z => z o hb hc) hc
theorem At.unanchor {am : Option Addr} {Oc : Addr → Prop} {B : Bs} {H H' : Hp} {σ σ' : L2.St} {δ δ' : DEnv} {h h' : HS} (x : At T am Oc B σ H δ h) (y : At T am Oc (Bs.at σ δ H) σ' H' δ' h') : At T am Oc B σ' H' δ' h' :=
  ⟨y.len, y.dom, y.wd, y.amc, y.sl, y.ownd, y.ownc, fun i a o => by
    rcases y.new i a o with ⟨j, z⟩ | z
    · exact x.new j a z
    · by_cases hn : B.N a
      · exact .inl hn
      · exact .inr fun u hu hc => z u (x.eff a u hu hn hc) hc, EffN.back x y.eff⟩
theorem AftS.anchor {D : Ends} {am : Option Addr} {Oc : Addr → Prop} {B : Bs} {H : Hp} {σ : L2.St} {δ : DEnv} {h : HS} {r : SRes} (x : At T am Oc B σ H δ h) (q : AftS T CL W D am Oc B r) : AftS T CL W D am Oc (Bs.at σ δ H) r := by
  revert q
  cases r with
  | nx δ' h' => exact fun q σ' H' y => q σ' H' (x.unanchor y)
  | rt d h' => exact fun q v H' e => q v H' (EffN.back x e)
  | bk δ' h' => exact fun q σ' H' y => q σ' H' (x.unanchor y)
  | ct δ' h' => exact fun q σ' H' y => q σ' H' (x.unanchor y)
  | exc e δ' h' => exact fun q cls dd σ' H' y => q cls dd σ' H' (x.unanchor y)
  | no => exact id
/-- what was clean at the anchor is so later -/
theorem At.kpB {am : Option Addr} {Oc Oc' : Addr → Prop} {B : Bs} {H1 H : Hp} {σ1 σ : L2.St} {δ1 δ : DEnv} {h1 h : HS} (x : At T am Oc B σ1 H1 δ1 h1) (hO : ∀ b, Oc' b → Oc b ∨ H1 b = none) (y : At T am Oc' (Bs.at σ1 δ1 H1) σ H δ h) : Kp (OO Oc σ1 δ1) (OO Oc' σ δ) H1 H := by
  have amn : ∀ b, ¬ OO Oc σ1 δ1 b → ∀ a, am = some a → b ≠ a := fun b nb a e z => nb (z ▸ x.amO a e)
  refine ⟨fun b u nb t r => ?_, fun b xs nb r => ?_, fun b u t r z => ?_⟩
  · rcases r with r | ⟨o, r⟩
    · exact .inl (y.eff b _ r (fun z => nb (.inr z)) fun a e => ⟨amn b nb a e, t⟩)
    · exact .inr ⟨o, y.eff b _ r (fun z => nb (.inr z)) fun a e => ⟨amn b nb a e, fun z => z⟩⟩
  · exact y.eff b _ r (fun z => nb (.inr z)) fun a e => ⟨amn b nb a e, fun z => z⟩
  · obtain ⟨o, e, to⟩ := rd_some' t r
    rcases z with z | ⟨i, z⟩
    · rcases hO b z with z | z
      · exact .inl z
      · rw [z] at e; cases e
    · rcases y.new i b z with ⟨j, w⟩ | w
      · exact .inr ⟨j, w⟩
      · exact absurd (fun a ea => ⟨y.own_ne z a ea, to⟩) (w o e)
/-! ### what is walked -/
def Wk (T : List (Addr × Str)) (am : Option Addr) (Oc : Addr → Prop) (B : Bs) (J : It) (ds : List PyData) : Prop :=
  ∀ (Oc' : Addr → Prop) (i : Nat) (σ : L2.St) (H : Hp) (δ : DEnv) (h : HS), (∀ b, Oc' b → Oc b ∨ B.H b = none) → At T am Oc' B σ H δ h →
    (∀ d, ds[i]? = some d → J.go i H ∧ ∀ x H', J.yld i H x H' → Same H H' ∧ Dt (OO Oc' σ δ) H' x d) ∧ (i = ds.length → J.stop i H)
/-- what is to be shown of an iterable's result -/
def AftI (T : List (Addr × Str)) (CL : Str → Option Addr) (W : WX) (am : Option Addr) (Oc : Addr → Prop) (σ : L2.St) (δ : DEnv) (H : Hp) (R : It → Hp → Prop) (r : Res (List PyData)) : Prop := match r with
  | .ok ds h1 => ∀ J H1, Eff am H H1 → Wd T am (OO Oc σ δ) H1 h1 → Wk T am Oc (Bs.at σ δ H1) J ds → R J H1
  | .exc x h1 => ∀ cls dd H', Eff am H H' → Wd T am (OO Oc σ δ) H' h1 → XR CL x cls dd H' → W cls dd σ H'
  | .no => False
abbrev IF := DEnv → HS → Res (List PyData)
def ID (T : List (Addr × Str)) (CL : Str → Option Addr) (W : WX) (X : Cx) (tg iter : Expr) (fi : IF) : Prop := ∃ wi : TI, PI X tg iter wi ∧ ∀ (am : Option Addr) (Oc : Addr → Prop) (B : Bs) (σ : L2.St) (H : Hp) (δ : DEnv) (h : HS) (R : It → Hp → Prop), At T am Oc B σ H δ h → AftI T CL W am Oc σ δ H R (fi δ h) → wi σ H R
/-! ### for -/
/-- behind a loop's body -/
def SRes.lp (r : SRes) (k : SF) : SRes := match r with
  | .nx δ h => k δ h
  | .ct δ h => k δ h
  | .bk δ h => .nx δ h
  | r => r
def dLoop (t : TF) (f : SF) : List PyData → SF
  | [], δ, h => .nx δ h
  | d :: ds, δ, h => match t d δ with
    | none => .no
    | some δ1 => (f δ1 h).lp fun δ2 h2 => dLoop t f ds δ2 h2
def sFor (t : TF) (fi : IF) (f : SF) : SF := fun δ h => (fi δ h).to δ fun ds h1 => dLoop t f ds δ h1
theorem s_for {tg iter : Expr} {body : List Stmt} {gg : TG} {t : TF} {fi : IF} {L : List Nat} (hp : PassesOwn (model X.prog X.w) X.A X.env X.xe) (hc : X.calm = true) (hi : ID T CL W X tg iter fi) (hg : GD T X L tg gg t) (hb : SsD T CL W X body f)
    (hs : ∀ x, foldedSetIterable iter X.env x = pure x := by intro _; rfl) : SD T CL W X (.For tg iter body [] pos) (sFor t fi f) := by
  obtain ⟨wi, pi, ki⟩ := hi
  obtain ⟨pg, kg⟩ := hg
  refine PS.imp (ps_for hp hc pi pg hb hs) fun D σ H ⟨am, Oc, B, δ, h, x, q⟩ => ?_
  refine ki am Oc B σ H δ h _ x ?_
  unfold sFor at q
  revert q
  cases fi δ h with
  | no => exact id
  | exc e h1 => exact fun q cls dd H' e w z => q cls dd σ H' (x.eff' e w) z
  | ok ds h1 =>
    intro q J H1 e w wk
    have x1 := x.eff' e w
    have q : AftS T CL W D am Oc B (dLoop t f ds δ h1) := q
    have q1 := AftS.anchor x1 q
    refine ⟨fun i m σ' H' => ∃ δ' h', At T am Oc (Bs.at σ δ H1) σ' H' δ' h' ∧ m = ds.length - i ∧ i ≤ ds.length ∧ AftS T CL W D am Oc (Bs.at σ δ H1) (dLoop t f (ds.drop i) δ' h'), ⟨ds.length, δ, h1, x1.anchor, by simp, Nat.zero_le _, q1⟩, ?_⟩
    rintro i m σ' H' ⟨δ', h', y, rfl, hle, qq⟩
    obtain ⟨k1, k2⟩ := wk Oc i σ' H' δ' h' (fun b z => .inl z) y
    by_cases hi : i < ds.length
    · obtain ⟨k1a, k1b⟩ := k1 ds[i] (by simp [hi])
      rw [List.drop_eq_getElem_cons hi] at qq
      refine .inr ⟨k1a, fun σ2 H2 => ∃ δ2 h2, At T am Oc (Bs.at σ δ H1) σ2 H2 δ2 h2 ∧ AftS T CL W D am Oc (Bs.at σ δ H1) (dLoop t f (ds.drop (i + 1)) δ2 h2), fun σ2 H2 ⟨δ2, h2, y2, q2⟩ => ⟨ds.length - (i + 1), by omega, δ2, h2, y2, rfl, hi, q2⟩, fun v H2 yl => ?_⟩
      obtain ⟨s1, d1⟩ := k1b v H2 yl
      have y' := y.same s1
      unfold dLoop at qq
      cases ht : t ds[i] δ' with
      | none => rw [ht] at qq; exact qq.elim
      | some δ1 =>
        rw [ht] at qq
        refine kg am Oc _ σ' H2 δ' h' v _ δ1 _ y' d1 ht fun σ3 y3 _ _ => ?_
        refine ⟨am, Oc, _, δ1, h', y3, ?_⟩
        revert qq
        show AftS T CL W D am Oc _ ((f δ1 h').lp _) → _
        cases f δ1 h' with
        | nx δ2 h2 => exact fun qq σ4 H4 y4 => ⟨δ2, h2, y4, qq⟩
        | ct δ2 h2 => exact fun qq σ4 H4 y4 => ⟨δ2, h2, y4, qq⟩
        | bk δ2 h2 => exact id
        | rt d h2 => exact id
        | exc e δ2 h2 => exact id
        | no => exact id
    · have : i = ds.length := by omega
      subst this
      refine .inl ⟨k2 rfl, ?_⟩
      rw [List.drop_length] at qq
      exact qq σ' H' y
/-! ### while -/
def wh (c : DEnv → HS → Res Bool) (f : SF) : Nat → SF
  | 0, _, _ => .no
  | n + 1, δ, h => (c δ h).to δ fun b h1 => if b then (f δ h1).lp (wh c f n) else .nx δ h1
open Classical in
noncomputable def sWhile (c : DEnv → HS → Res Bool) (f : SF) : SF := fun δ h => if z : ∃ n, wh c f n δ h ≠ .no then wh c f (Classical.choose z) δ h else .no
theorem wh_mono {c : DEnv → HS → Res Bool} {f : SF} : ∀ (n : Nat) (δ : DEnv) (h : HS), wh c f n δ h ≠ .no → wh c f (n + 1) δ h = wh c f n δ h
  | 0, δ, h, z => absurd rfl z
  | n + 1, δ, h, z => by
    have ih := wh_mono (c := c) (f := f) n
    have k1 : wh c f (n + 1) δ h = (c δ h).to δ fun b h1 => if b then (f δ h1).lp (wh c f n) else .nx δ h1 := by rw [wh]
    have k2 : wh c f (n + 1 + 1) δ h = (c δ h).to δ fun b h1 => if b then (f δ h1).lp (wh c f (n + 1)) else .nx δ h1 := by rw [wh]
    rw [k1] at z
    rw [k1, k2]
    cases hc : c δ h with
    | exc e h1 => rfl
    | no => rfl
    | ok b h1 =>
      cases b with
      | false => rfl
      | true =>
        rw [hc] at z
        simp only [Res.to, if_true] at z ⊢
        cases e : f δ h1 with
        | nx δ2 h2 => rw [e] at z; exact ih δ2 h2 z
        | ct δ2 h2 => rw [e] at z; exact ih δ2 h2 z
        | _ => rfl
theorem wh_le {c : DEnv → HS → Res Bool} {f : SF} {n : Nat} {δ : DEnv} {h : HS} (z : wh c f n δ h ≠ .no) : ∀ m, wh c f (n + m) δ h = wh c f n δ h
  | 0 => rfl
  | m + 1 => by
    have e := wh_le z m
    rw [← Nat.add_assoc, wh_mono _ _ _ (by rw [e]; exact z), e]
theorem sWhile_of {c : DEnv → HS → Res Bool} {f : SF} {n : Nat} {δ : DEnv} {h : HS} (z : wh c f n δ h ≠ .no) : sWhile c f δ h = wh c f n δ h := by
  unfold sWhile
  have ex : ∃ n, wh c f n δ h ≠ .no := ⟨n, z⟩
  rw [dif_pos ex]
  have z2 := Classical.choose_spec ex
  rcases Nat.le_total n (Classical.choose ex) with l | l
  · obtain ⟨m, e⟩ := Nat.exists_eq_add_of_le l
    rw [e]
    exact wh_le z m
  · obtain ⟨m, e⟩ := Nat.exists_eq_add_of_le l
    have := wh_le z2 m
    rw [← e] at this
    exact this.symm
theorem sWhile_no {c : DEnv → HS → Res Bool} {f : SF} {δ : DEnv} {h : HS} (z : ∀ n, wh c f n δ h = .no) : sWhile c f δ h = .no := by
  unfold sWhile
  rw [dif_neg]
  rintro ⟨n, e⟩
  exact e (z n)
/-- what a turn does -/
theorem sWhile_eq (c : DEnv → HS → Res Bool) (f : SF) (δ : DEnv) (h : HS) : sWhile c f δ h = (c δ h).to δ fun b h1 => if b then (f δ h1).lp (sWhile c f) else .nx δ h1 := by
  have key : ∀ n, wh c f (n + 1) δ h = (c δ h).to δ fun b h1 => if b then (f δ h1).lp (wh c f n) else .nx δ h1 := fun n => by rw [wh]
  have k0 : wh c f 0 δ h = .no := rfl
  have nono : (∀ n, wh c f (n + 1) δ h = .no) → sWhile c f δ h = .no := fun z => sWhile_no fun n => by
    cases n with
    | zero => exact k0
    | succ n => exact z n
  have one : ∀ r, wh c f 1 δ h = r → r ≠ .no → sWhile c f δ h = r := fun r e z => by
    rw [sWhile_of (n := 1) (by rw [e]; exact z), e]
  cases hc : c δ h with
  | exc e h1 => exact one _ (by rw [key 0, hc]; rfl) fun z => nomatch z
  | no => exact nono fun n => by rw [key n, hc]; rfl
  | ok b h1 =>
    cases b with
    | false => exact one _ (by rw [key 0, hc]; rfl) fun z => nomatch z
    | true =>
      simp only [Res.to, if_true]
      have again : ∀ (δ2 : DEnv) (h2 : HS), (∀ n, wh c f (n + 1) δ h = wh c f n δ2 h2) → sWhile c f δ h = sWhile c f δ2 h2 := fun δ2 h2 hh => by
        by_cases z : ∃ n, wh c f n δ2 h2 ≠ .no
        · obtain ⟨n, z⟩ := z
          rw [sWhile_of z, sWhile_of (n := n + 1) (by rw [hh n]; exact z), hh n]
        · have z : ∀ n, wh c f n δ2 h2 = .no := fun n => Classical.byContradiction fun q => z ⟨n, q⟩
          rw [sWhile_no z]
          exact nono fun n => by rw [hh n, z n]
      cases e : f δ h1 with
      | nx δ2 h2 => exact again δ2 h2 fun n => by rw [key n, hc]; simp only [Res.to, if_true, e]; rfl
      | ct δ2 h2 => exact again δ2 h2 fun n => by rw [key n, hc]; simp only [Res.to, if_true, e]; rfl
      | bk δ2 h2 => exact one _ (by rw [key 0, hc]; simp only [Res.to, if_true, e]; rfl) fun z => nomatch z
      | rt d h2 => exact one _ (by rw [key 0, hc]; simp only [Res.to, if_true, e]; rfl) fun z => nomatch z
      | exc y δ2 h2 => exact one _ (by rw [key 0, hc]; simp only [Res.to, if_true, e]; rfl) fun z => nomatch z
      | no => exact nono fun n => by rw [key n, hc]; simp only [Res.to, if_true, e]; rfl
theorem s_while {tc : DEnv → HS → Res Bool} {body : List Stmt} (hp : PassesOwn (model X.prog X.w) X.A X.env X.xe) (hc : TD T CL W X c tc) (hb : SsD T CL W X body f) : SD T CL W X (.While c body [] pos) (sWhile tc f) := PS.imp (ps_while hp hc hb) fun D σ H ⟨am, Oc, B, δ, h, x, q⟩ => by
  have hz : ∃ n, wh tc f n δ h ≠ .no := Classical.byContradiction fun z => by
    rw [sWhile_no fun n => Classical.byContradiction fun q => z ⟨n, q⟩] at q
    exact q
  obtain ⟨n, hn⟩ := hz
  rw [sWhile_of hn] at q
  refine ⟨fun m σ' H' => ∃ δ' h', At T am Oc B σ' H' δ' h' ∧ AftS T CL W D am Oc B (wh tc f m δ' h'), ⟨n, δ, h, x, q⟩, ?_⟩
  rintro m σ' H' ⟨δ', h', y, q⟩
  cases m with
  | zero => exact q.elim
  | succ m =>
    rw [wh] at q
    refine tT_of y (AftS.bindT y q fun b h1 H1 y1 e1 q1 => ?_)
    cases b with
    | false => rw [if_neg Bool.false_ne_true] at q1 ⊢; exact q1 σ' H1 y1
    | true =>
      rw [if_pos rfl] at q1 ⊢
      refine ⟨fun σ2 H2 => ∃ δ2 h2, At T am Oc B σ2 H2 δ2 h2 ∧ AftS T CL W D am Oc B (wh tc f m δ2 h2), fun σ2 H2 z => ⟨m, Nat.lt_succ_self m, z⟩, am, Oc, B, δ', h1, y1, ?_⟩
      revert q1
      cases f δ' h1 with
      | nx δ2 h2 => exact fun qq σ4 H4 y4 => ⟨δ2, h2, y4, qq⟩
      | ct δ2 h2 => exact fun qq σ4 H4 y4 => ⟨δ2, h2, y4, qq⟩
      | bk δ2 h2 => exact id
      | rt d h2 => exact id
      | exc e δ2 h2 => exact id
      | no => exact id
end
end DL
/-! The data layer, part 10: what loops walk. -/
namespace DL
open PySem PySem.Spec PyProof.Rows L2
section
variable {T : List (Addr × Str)} {CL : Str → Option Addr} {W : WX} {X : Cx} {pos : Pos} {a b c tg : Expr} {fa fb fc : EF} {st : Stmt} {rest : List Stmt} {f g : SF}
theorem AftI.bindE {k1 : RK} {am : Option Addr} {Oc : Addr → Prop} {B : Bs} {H : Hp} {σ : L2.St} {δ : DEnv} {h : HS} {K : VK} {R : It → Hp → Prop} {r : Res PyData} {g : PyData → Option (List PyData)} (x : At T am Oc B σ H δ h)
    (q : AftI T CL W am Oc σ δ H R (r.op g))
    (s : ∀ d1 h1 v1 H1 ds, At T am Oc B σ H1 δ h1 → Rl T k1 am (OO Oc σ δ) H H1 h1 v1 d1 → g d1 = some ds → (∀ J, Wk T am Oc (Bs.at σ δ H1) J ds → R J H1) → K v1 H1) : Aft T CL W k1 am (OO Oc σ δ) σ H K r := by
  cases r with
  | ok d h' =>
    intro v H' e r
    have x' := x.eff' e (r.wd x.amO)
    unfold Res.op at q
    simp only [] at q
    cases hg : g d with
    | none => rw [hg] at q; exact q.elim
    | some ds => rw [hg] at q; exact s d h' v H' ds x' r hg fun J wk => q J H' e x'.wd wk
  | exc y h' => exact fun cls dd H' e w z => q cls dd H' e w z
  | no => exact q
theorem AftI.bindA {k1 : RK} {am : Option Addr} {Oc : Addr → Prop} {B : Bs} {H : Hp} {σ : L2.St} {δ : DEnv} {h : HS} {K : List V → Hp → Prop} {R : It → Hp → Prop} {r : Res (List PyData)} {g : List PyData → Option (List PyData)} (x : At T am Oc B σ H δ h)
    (q : AftI T CL W am Oc σ δ H R (r.op g))
    (s : ∀ d1 h1 v1 H1 ds, At T am Oc B σ H1 δ h1 → Paired (fun v d => Rl T k1 am (OO Oc σ δ) H H1 h1 v d) v1 d1 → g d1 = some ds → (∀ J, Wk T am Oc (Bs.at σ δ H1) J ds → R J H1) → K v1 H1) : AftA T CL W k1 am (OO Oc σ δ) σ H K r := by
  cases r with
  | ok d h' =>
    intro v H' e w r
    have x' := x.eff' e w
    unfold Res.op at q
    simp only [] at q
    cases hg : g d with
    | none => rw [hg] at q; exact q.elim
    | some ds => rw [hg] at q; exact s d h' v H' ds x' r hg fun J wk => q J H' e x'.wd wk
  | exc y h' => exact fun cls dd H' e w z => q cls dd H' e w z
  | no => exact q
def gItems : PyData → Option (List PyData)
  | .list ds => some ds
  | .tuple ds => some ds
  | .str x => some (x.cps.toList.map fun c => .str ⟨#[c]⟩)
  | _ => none
theorem cps_ok {x : Str} {c : Nat} (ox : PyData.strOk x = true) (h : c ∈ x.cps.toList) : PyData.strOk ⟨#[c]⟩ = true := by
  unfold PyData.strOk at ox
  rw [← Array.all_toList, List.all_eq_true] at ox
  have := ox c h
  unfold PyData.strOk
  simpa using this
section
variable {am : Option Addr} {Oc : Addr → Prop} {B : Bs} {σ : L2.St} {H : Hp} {δ : DEnv} {h : HS}
theorem wk_list {p : Addr} {xs : List V} {ds : List PyData} (x : At T am Oc B σ H δ h) (r : H p = some (.lst xs)) (n : ¬ OO Oc σ δ p) (t : DtA (OO Oc σ δ) H xs ds) : Wk T am Oc (Bs.at σ δ H) (Itl X.K p) ds := fun Oc' i σ' H' δ' h' hO y => by
  have k := x.kpB hO y
  have r' := k.ls _ _ n r
  have t' := t.kp k
  refine ⟨fun d e => ?_, fun e => ⟨xs, SqL.of r', by rw [t.length, e]; exact Nat.le_refl _⟩⟩
  obtain ⟨v, e1, e2⟩ := t'.get e
  refine ⟨⟨xs, v, SqL.of r', e1⟩, fun v' H'' ⟨e3, yl⟩ => ?_⟩
  subst e3
  have := yl xs (SqL.of r')
  rw [e1] at this
  cases this
  exact ⟨Same.refl _, e2⟩
theorem wk_tup {p : Addr} {xs : List V} {ds : List PyData} (x : At T am Oc B σ H δ h) (r : Rd H p (.tup xs)) (n : ¬ OO Oc σ δ p) (t : DtA (OO Oc σ δ) H xs ds) : Wk T am Oc (Bs.at σ δ H) (Itt X.K p) ds := fun Oc' i σ' H' δ' h' hO y => by
  have k := x.kpB hO y
  have r' : SqT X.K H' p xs := .inl (k.rd _ _ n (fun z => z) r)
  have t' := t.kp k
  refine ⟨fun d e => ?_, fun e => ⟨xs, r', by rw [t.length, e]; exact Nat.le_refl _⟩⟩
  obtain ⟨v, e1, e2⟩ := t'.get e
  refine ⟨⟨xs, v, r', e1⟩, fun v' H'' ⟨e3, yl⟩ => ?_⟩
  subst e3
  have := yl xs r'
  rw [e1] at this
  cases this
  exact ⟨Same.refl _, e2⟩
theorem wk_str {z : Str} (hz : PyData.strOk z = true) : Wk T am Oc (Bs.at σ δ H) (Its z) (z.cps.toList.map fun c => .str ⟨#[c]⟩) := fun Oc' i σ' H' δ' h' hO y => by
  refine ⟨fun d e => ?_, fun e => by
    show z.cps.size ≤ i
    rw [e, List.length_map, Array.length_toList]; exact Nat.le_refl _⟩
  rw [List.getElem?_map] at e
  obtain ⟨c, e1, rfl⟩ := Option.map_eq_some_iff.mp e
  have hi : i < z.cps.size := by
    have := (List.getElem?_eq_some_iff.mp e1).1
    rw [Array.length_toList] at this
    exact this
  refine ⟨hi, fun v' H'' ⟨e3, c', e4, e5⟩ => ?_⟩
  subst e3
  subst e5
  rw [Array.getElem?_toList] at e1
  rw [e1] at e4
  cases e4
  exact ⟨Same.refl _, .str _ (by rw [sizeLine_eq]; show 1 ≤ 16777216; omega) (cps_ok hz (by rw [← Array.getElem?_toList] at e1; exact List.mem_of_getElem? e1))⟩
theorem wk_range {lo : Int} {n : Nat} : Wk T am Oc (Bs.at σ δ H) (Itr lo n) ((List.range n).map fun i => .int (lo + (i : Nat))) := fun Oc' i σ' H' δ' h' hO y => by
  refine ⟨fun d e => ?_, fun e => by
    show n ≤ i
    rw [e, List.length_map, List.length_range]; exact Nat.le_refl _⟩
  rw [List.getElem?_map] at e
  obtain ⟨c, e1, rfl⟩ := Option.map_eq_some_iff.mp e
  obtain ⟨hi, rfl⟩ := List.getElem?_eq_some_iff.mp e1
  rw [List.length_range] at hi
  refine ⟨hi, fun v' H'' ⟨e3, e4⟩ => ?_⟩
  subst e3
  subst e4
  rw [List.getElem_range]
  exact ⟨Same.refl _, .int _⟩
end
/-! ### the iterables -/
def iAny (K : PySem.W.Frag) (te : TE) : TI := fun σ H R => te σ H fun v H1 => (∃ a, v = .ref a ∧ (∃ xs, SqL K H1 a xs) ∧ R (Itl K a) H1) ∨ (∃ a, v = .ref a ∧ (∃ xs, SqT K H1 a xs) ∧ R (Itt K a) H1) ∨ ∃ x, v = .str x ∧ R (Its x) H1
theorem pi_any {l : Expr} {tl : TE} (hl : PE X l tl) : PI X tg l (iAny X.K tl) := by
  refine ⟨fun pins s σ H R I h => ?_⟩
  refine thn (hl.run pins s σ H _ I h) fun v s1 ⟨x, H1, I1, r1, q1⟩ => ?_
  rcases q1 with ⟨a, rfl, ⟨xs, hq⟩, q⟩ | ⟨a, rfl, ⟨xs, hq⟩, q⟩ | ⟨x, rfl, q⟩
  · cases r1
    obtain ⟨its, rv, p, hz⟩ := I1.list hq
    exact wpAny_pyIter_list p.isList (pi_one (tk := s1.toks) I1 _ (turn_list a _) ⟨_, Heap.get?_push_size _ rfl, rfl, rfl⟩ q)
  · cases r1
    obtain ⟨its, rv, p, hz⟩ := I1.tuple hq
    exact wpAny_pyIter_tuple (show s1.heap.IsTuple a its.toArray from p) (pi_one (tk := s1.toks) I1 _ (turn_tuple a _) ⟨_, Heap.get?_push_size _ rfl, rfl, rfl⟩ q)
  · obtain ⟨t, rfl⟩ := r1
    cases ha : x.cps.all (· < 128)
    · exact wpAny_pyIter_wide ha (pi_one (tk := s1.toks) I1 _ (turn_str _ x t "str_iterator" (.inr rfl)) ⟨_, Heap.get?_push_size _ rfl, rfl, rfl⟩ q)
    · exact wpAny_pyIter_ascii ha (pi_one (tk := s1.toks) I1 _ (turn_str _ x t "str_ascii_iterator" (.inl rfl)) ⟨_, Heap.get?_push_size _ rfl, rfl, rfl⟩ q)
def dIt (fa : EF) : IF := fun δ h => (fa δ h).op gItems
theorem i_any (ha : ED T CL W X .D a fa) : ID T CL W X tg a (dIt fa) := ⟨_, pi_any ha, fun am Oc B σ H δ h R x q => by
  refine tE_of x (AftI.bindE x q fun d1 h1 v1 H1 ds x1 r1 hg q1 => ?_)
  cases d1 with
  | list es =>
    cases hg
    cases r1.2 with
    | lst r n t => exact .inl ⟨_, rfl, ⟨_, SqL.of r⟩, q1 _ (wk_list x1 r n t)⟩
  | tuple es =>
    cases hg
    cases r1.2 with
    | tup r n t => exact .inr (.inl ⟨_, rfl, ⟨_, .inl r⟩, q1 _ (wk_tup x1 r n t)⟩)
  | str z =>
    cases hg
    cases r1.2 with
    | str _ z1 z2 => exact .inr (.inr ⟨_, rfl, q1 _ (wk_str z2)⟩)
  | _ => cases hg⟩
def small62 (i : Int) : Bool := decide (-(2 ^ 62) ≤ i ∧ i < 2 ^ 62)
def gRng : List PyData → Option (List PyData)
  | [.int j] => if small62 j then some ((List.range j.toNat).map fun i => .int (i : Nat)) else none
  | [.int i, .int j] => if small62 i && small62 j then some ((List.range (j - i).toNat).map fun k => .int (i + (k : Nat))) else none
  | _ => none
def dRng (fs : List EF) : IF := fun δ h => (dSeq fs δ h).op gRng
theorem gRng_len {ds es : List PyData} (h : gRng ds = some es) : (∃ j, ds = [.int j]) ∨ ∃ i j, ds = [.int i, .int j] := by
  match ds, h with
  | [.int j], _ => exact .inl ⟨j, rfl⟩
  | [.int i, .int j], _ => exact .inr ⟨i, j, rfl⟩
theorem i_range1 {p : Pos} (hg : Gl X "range") (hm : X.mg "range" = none) (ha : AD T CL W X .L [a] (dSeq [fa])) (hs : starEach [a] X.env = [(false, eval a X.env)] := by rfl) : ID T CL W X tg (.Call (.Name "range" p) [a] [] pos) (dRng [fa]) :=
  ⟨_, pi_range1 hg hm ha hs, fun am Oc B σ H δ h R x q => by
    refine tA_of x ?_
    unfold dRng at q
    cases hd : dSeq [fa] δ h with
    | no => rw [hd] at q; exact q
    | exc y h1 => rw [hd] at q; exact q
    | ok ds h1 =>
      rw [hd] at q
      intro vs H1 e w r
      have hlen := dSeq_len hd
      unfold Res.op at q
      simp only [] at q
      cases hr : gRng ds with
      | none => rw [hr] at q; exact q.elim
      | some es =>
        rw [hr] at q
        rcases gRng_len hr with ⟨j, rfl⟩ | ⟨i, j, rfl⟩
        · unfold gRng at hr
          simp only [Option.ite_none_right_eq_some, Option.some.injEq, small62, decide_eq_true_eq] at hr
          obtain ⟨h2, rfl⟩ := hr
          obtain ⟨v, rfl, l⟩ := one_of (lta_of r)
          refine ⟨j, by rw [l.int], h2.1, h2.2, q _ H1 e w ?_⟩
          have := wk_range (T := T) (am := am) (Oc := Oc) (σ := σ) (δ := δ) (H := H1) (lo := 0) (n := j.toNat)
          simpa using this
        · simp at hlen⟩
theorem i_range2 {p : Pos} (hg : Gl X "range") (hm : X.mg "range" = none) (ha : AD T CL W X .L [a, b] (dSeq [fa, fb])) (hs : starEach [a, b] X.env = [(false, eval a X.env), (false, eval b X.env)] := by rfl) (hs2 : starEach [b] X.env = [(false, eval b X.env)] := by rfl) : ID T CL W X tg (.Call (.Name "range" p) [a, b] [] pos) (dRng [fa, fb]) :=
  ⟨_, pi_range2 hg hm ha hs hs2, fun am Oc B σ H δ h R x q => by
    refine tA_of x ?_
    unfold dRng at q
    cases hd : dSeq [fa, fb] δ h with
    | no => rw [hd] at q; exact q
    | exc y h1 => rw [hd] at q; exact q
    | ok ds h1 =>
      rw [hd] at q
      intro vs H1 e w r
      have hlen := dSeq_len hd
      unfold Res.op at q
      simp only [] at q
      cases hr : gRng ds with
      | none => rw [hr] at q; exact q.elim
      | some es =>
        rw [hr] at q
        rcases gRng_len hr with ⟨j, rfl⟩ | ⟨i, j, rfl⟩
        · simp at hlen
        · unfold gRng at hr
          simp only [Option.ite_none_right_eq_some, Option.some.injEq, small62, decide_eq_true_eq, Bool.and_eq_true] at hr
          obtain ⟨⟨h2, h3⟩, rfl⟩ := hr
          obtain ⟨v, w', rfl, l, l'⟩ := two_of (lta_of r)
          exact ⟨i, j, by rw [l.int, l'.int], ⟨h2.1, h2.2, h3.1, h3.2⟩, q _ H1 e w wk_range⟩⟩
/-! ### pairs: zip, enumerate -/
def gZip : List PyData → Option (List PyData)
  | [.list xs, .list ys] => some (List.zipWith (fun x y => .tuple [x, y]) xs ys)
  | [.tuple xs, .tuple ys] => some (List.zipWith (fun x y => .tuple [x, y]) xs ys)
  | _ => none
theorem gZip_inv {ds es : List PyData} (h : gZip ds = some es) : ∃ xs ys, es = List.zipWith (fun x y => .tuple [x, y]) xs ys ∧ (ds = [.list xs, .list ys] ∨ ds = [.tuple xs, .tuple ys]) := by
  match ds, h with
  | [.list xs, .list ys], h => cases h; exact ⟨xs, ys, rfl, .inl rfl⟩
  | [.tuple xs, .tuple ys], h => cases h; exact ⟨xs, ys, rfl, .inr rfl⟩
theorem pair_new {am : Option Addr} {Oc : Addr → Prop} {B : Bs} {σ : L2.St} {H : Hp} {δ : DEnv} {h : HS} {p : Addr} {v w : V} {d e : PyData} (y : At T am Oc B σ H δ h) (hp : H p = none) (h1 : Dt (OO Oc σ δ) H v d) (h2 : Dt (OO Oc σ δ) H w e) :
    Same H (upd H p (.tup [v, w])) ∧ Dt (OO Oc σ δ) (upd H p (.tup [v, w])) (.ref p) (.tuple [d, e]) :=
  ⟨same_upd hp, .tup (.inl upd_same) (not_new y.domO hp) (.cons (h1.kp (kp_new0 hp)) (.cons (h2.kp (kp_new0 hp)) .nil))⟩
def dZip (fs : List EF) : IF := fun δ h => (dSeq fs δ h).op gZip
theorem i_zip {elts : List Expr} {kk : Nat} {p tpos : Pos} {e2 : Expr} {f2 : EF} (hg : Gl X "zip") (hm : X.mg "zip" = none) (ha : AD T CL W X .D [a, e2] (dSeq [fa, f2]))
    (hs : starEach [a, e2] X.env = (false, eval a X.env) :: starEach [e2] X.env := by rfl) (hpl : (backTo pos (starEach [e2] X.env)).any (·.1) = false := by rfl) : ID T CL W X (.Tuple elts kk tpos) (.Call (.Name "zip" p) [a, e2] [] pos) (dZip [fa, f2]) :=
  ⟨_, RZ.pi_zipA hg hm ha hs hpl, fun am Oc B σ H δ h R x q => by
    refine tA_of x (AftI.bindA x q fun d1 h1 v1 H1 ds x1 pr hg q1 => ?_)
    obtain ⟨xs, ys, rfl, hd⟩ := gZip_inv hg
    have t := dta_of pr
    rcases hd with rfl | rfl
    · cases t with | cons ta t => cases t with | cons tb t =>
      cases t
      cases ta with | @lst p1 vs1 _ r1 n1 t1 => cases tb with | @lst p2 vs2 _ r2 n2 t2 =>
      refine ⟨p1, p2, vs1, vs2, rfl, .inl ⟨SqL.of r1, SqL.of r2, q1 _ fun Oc' i σ' H' δ' h' hO y => ?_⟩⟩
      have k := x1.kpB hO y
      have s1 := k.ls _ _ n1 r1
      have s2 := k.ls _ _ n2 r2
      have u1 := t1.kp k
      have u2 := t2.kp k
      refine ⟨fun d e => ?_, fun e => ⟨vs1, vs2, SqL.of s1, SqL.of s2, ?_⟩⟩
      · rw [List.getElem?_zipWith] at e
        obtain ⟨dx, dy, e1, e2, e3⟩ : ∃ dx dy, xs[i]? = some dx ∧ ys[i]? = some dy ∧ PyData.tuple [dx, dy] = d := by
          cases ex : xs[i]? with
          | none => rw [ex] at e; cases e
          | some dx =>
            cases ey : ys[i]? with
            | none => rw [ex, ey] at e; cases e
            | some dy => rw [ex, ey] at e; exact ⟨dx, dy, rfl, rfl, Option.some.inj e⟩
        subst e3
        obtain ⟨v, f1, g1⟩ := u1.get e1
        obtain ⟨w, f2, g2⟩ := u2.get e2
        refine ⟨⟨vs1, vs2, v, w, SqL.of s1, SqL.of s2, f1, f2⟩, fun z H'' ⟨Tn, v', w', ez, hT, eH, k1, k2⟩ => ?_⟩
        have k1 := k1 vs1 (SqL.of s1)
        have k2 := k2 vs2 (SqL.of s2)
        rw [f1] at k1
        rw [f2] at k2
        cases k1
        cases k2
        subst ez
        subst eH
        exact pair_new y hT g1 g2
      · rw [t1.length, t2.length]
        rw [List.length_zipWith] at e
        omega
    · cases t with | cons ta t => cases t with | cons tb t =>
      cases t
      cases ta with | @tup p1 vs1 _ r1 n1 t1 => cases tb with | @tup p2 vs2 _ r2 n2 t2 =>
      refine ⟨p1, p2, vs1, vs2, rfl, .inr ⟨.inl r1, .inl r2, q1 _ fun Oc' i σ' H' δ' h' hO y => ?_⟩⟩
      have k := x1.kpB hO y
      have s1 : SqT X.K H' p1 vs1 := .inl (k.rd _ _ n1 (fun z => z) r1)
      have s2 : SqT X.K H' p2 vs2 := .inl (k.rd _ _ n2 (fun z => z) r2)
      have u1 := t1.kp k
      have u2 := t2.kp k
      refine ⟨fun d e => ?_, fun e => ⟨vs1, vs2, s1, s2, ?_⟩⟩
      · rw [List.getElem?_zipWith] at e
        obtain ⟨dx, dy, e1, e2, e3⟩ : ∃ dx dy, xs[i]? = some dx ∧ ys[i]? = some dy ∧ PyData.tuple [dx, dy] = d := by
          cases ex : xs[i]? with
          | none => rw [ex] at e; cases e
          | some dx =>
            cases ey : ys[i]? with
            | none => rw [ex, ey] at e; cases e
            | some dy => rw [ex, ey] at e; exact ⟨dx, dy, rfl, rfl, Option.some.inj e⟩
        subst e3
        obtain ⟨v, f1, g1⟩ := u1.get e1
        obtain ⟨w, f2, g2⟩ := u2.get e2
        refine ⟨⟨vs1, vs2, v, w, s1, s2, f1, f2⟩, fun z H'' ⟨Tn, v', w', ez, hT, eH, k1, k2⟩ => ?_⟩
        have k1 := k1 vs1 s1
        have k2 := k2 vs2 s2
        rw [f1] at k1
        rw [f2] at k2
        cases k1
        cases k2
        subst ez
        subst eH
        exact pair_new y hT g1 g2
      · rw [t1.length, t2.length]
        rw [List.length_zipWith] at e
        omega⟩
def gEnum : List PyData → Option (List PyData)
  | [.list xs] => some (xs.mapIdx fun i x => .tuple [.int (i : Nat), x])
  | _ => none
def dEnum (fs : List EF) : IF := fun δ h => (dSeq fs δ h).op gEnum
theorem i_enum {elts : List Expr} {kk : Nat} {p tpos : Pos} (hg : Gl X "enumerate") (hm : X.mg "enumerate" = none) (ha : AD T CL W X .D [a] (dSeq [fa]))
    (hs : starEach [a] X.env = [(false, eval a X.env)] := by rfl) : ID T CL W X (.Tuple elts kk tpos) (.Call (.Name "enumerate" p) [a] [] pos) (dEnum [fa]) :=
  ⟨_, pi_enum hg hm ha hs, fun am Oc B σ H δ h R x q => by
    refine tA_of x (AftI.bindA x q fun d1 h1 v1 H1 ds x1 pr hg q1 => ?_)
    have t := dta_of pr
    match d1, hg with
    | [.list xs], hg =>
      cases hg
      cases t with | cons ta t =>
      cases t
      cases ta with | @lst p1 vs1 _ r1 n1 t1 =>
      refine ⟨p1, vs1, rfl, SqL.of r1, q1 _ fun Oc' i σ' H' δ' h' hO y => ?_⟩
      have k := x1.kpB hO y
      have s1 := k.ls _ _ n1 r1
      have u1 := t1.kp k
      refine ⟨fun d e => ?_, fun e => ⟨vs1, SqL.of s1, ?_⟩⟩
      · rw [List.getElem?_mapIdx] at e
        obtain ⟨dx, e1, rfl⟩ := Option.map_eq_some_iff.mp e
        obtain ⟨v, f1, g1⟩ := u1.get e1
        refine ⟨⟨vs1, v, SqL.of s1, f1⟩, fun z H'' ⟨Tn, v', ez, hT, eH, k1⟩ => ?_⟩
        have k1 := k1 vs1 (SqL.of s1)
        rw [f1] at k1
        cases k1
        subst ez
        subst eH
        exact pair_new y hT (.int _) g1
      · rw [t1.length, e, List.length_mapIdx]; exact Nat.le_refl _⟩
def gRev : PyData → Option (List PyData)
  | .list ds => some ds.reverse
  | .tuple ds => some ds.reverse
  | _ => none
def dRevI (fa : EF) : IF := fun δ h => (fa δ h).op gRev
theorem i_rev {p : Pos} (hg : Gl X "reversed") (hm : X.mg "reversed" = none) (he : ED T CL W X .D a fa) (hs : starEach [a] X.env = (false, eval a X.env) :: starEach [] X.env := by rfl) : ID T CL W X tg (.Call (.Name "reversed" p) [a] [] pos) (dRevI fa) :=
  ⟨_, RT.pi_revA hg hm he hs, fun am Oc B σ H δ h R x q => by
    refine tE_of x (AftI.bindE x q fun d1 h1 v1 H1 ds x1 r1 hg q1 => ?_)
    have idx : ∀ {α : Type} (l : List α) (i : Nat) (d : α), l.reverse[i]? = some d → i < l.length ∧ l[l.length - 1 - i]? = some d := fun l i d e => by
      have hi := (List.getElem?_eq_some_iff.mp e).1
      rw [List.length_reverse] at hi
      rw [List.getElem?_reverse hi] at e
      exact ⟨hi, e⟩
    cases d1 with
    | list es =>
      cases hg
      cases r1.2 with
      | @lst p1 vs1 _ r n t =>
        refine ⟨p1, vs1, rfl, .inl ⟨SqL.of r, q1 _ fun Oc' i σ' H' δ' h' hO y => ?_⟩⟩
        have k := x1.kpB hO y
        have s1 := k.ls _ _ n r
        have u1 := t.kp k
        refine ⟨fun d e => ?_, fun e => by
          show vs1.length ≤ i
          rw [e, List.length_reverse, t.length]; exact Nat.le_refl _⟩
        obtain ⟨hi, e1⟩ := idx _ _ _ e
        rw [← t.length] at hi e1
        obtain ⟨v, f1, g1⟩ := u1.get e1
        refine ⟨⟨hi, vs1, v, SqL.of s1, f1⟩, fun z H'' ⟨eH, k1⟩ => ?_⟩
        have k1 := k1 vs1 (SqL.of s1)
        rw [f1] at k1
        cases k1
        subst eH
        exact ⟨Same.refl _, g1⟩
    | tuple es =>
      cases hg
      cases r1.2 with
      | @tup p1 vs1 _ r n t =>
        refine ⟨p1, vs1, rfl, .inr ⟨.inl r, q1 _ fun Oc' i σ' H' δ' h' hO y => ?_⟩⟩
        have k := x1.kpB hO y
        have s1 : SqT X.K H' p1 vs1 := .inl (k.rd _ _ n (fun z => z) r)
        have u1 := t.kp k
        refine ⟨fun d e => ?_, fun e => by
          show vs1.length ≤ i
          rw [e, List.length_reverse, t.length]; exact Nat.le_refl _⟩
        obtain ⟨hi, e1⟩ := idx _ _ _ e
        rw [← t.length] at hi e1
        obtain ⟨v, f1, g1⟩ := u1.get e1
        refine ⟨⟨hi, vs1, v, s1, f1⟩, fun z H'' ⟨eH, k1⟩ => ?_⟩
        have k1 := k1 vs1 s1
        rw [f1] at k1
        cases k1
        subst eH
        exact ⟨Same.refl _, g1⟩
    | _ => cases hg⟩
end
end DL
/-! The data layer: enumerate and zip over lists, tuples, texts. -/
namespace DL
open PySem PySem.Spec PyProof.Rows L2
inductive Tag where
  | li (a : Addr)
  | tu (a : Addr)
  | tx (x : Str) (tk : Tok)
def Tag.base : Tag → List Addr
  | .li a => [a]
  | .tu a => [a]
  | .tx _ _ => []
def Tag.val : Tag → Value
  | .li a => .ref a
  | .tu a => .ref a
  | .tx x t => .str x t
def Tag.obj : Tag → Obj
  | .li a => { cls := .type "list_iterator", data := .fields #[.ref a, .int 0 0] }
  | .tu a => { cls := .type "tuple_iterator", data := .fields #[.ref a, .int 0 0] }
  | .tx x t => { cls := .type (strIterType x), data := .fields #[.str x t, .int 0 0] }
def Tag.it (g : Tag) (it : Addr) (i : Nat) (h : Heap) : Prop := match g with
  | .li a => h.IsListIter it a i
  | .tu a => h.IsTupleIter it a i
  | .tx x t => h.IsStrIter it (strIterType x) x t i
def Tag.src (K : PySem.W.Frag) (g : Tag) (H : Hp) (xs : List V) : Prop := match g with
  | .li a => SqL K H a xs
  | .tu a => SqT K H a xs
  | .tx x _ => xs = x.cps.toList.map fun c => .str ⟨#[c]⟩
theorem Tag.keep {g : Tag} {it : Addr} {i : Nat} {h h' : Heap} (x : g.it it i h) (k : ∀ o, h.get? it = some o → h'.get? it = some o) : g.it it i h' := by
  cases g with
  | li a => exact Heap.IsListIter.at (show h.IsListIter it a i from x) k
  | tu a => exact Heap.IsTupleIter.at (show h.IsTupleIter it a i from x) k
  | tx y t => obtain ⟨o, ho, r⟩ := x; exact ⟨o, k o ho, r⟩
theorem Tag.live {g : Tag} {it : Addr} {i : Nat} {h : Heap} (x : g.it it i h) : ∃ o, h.get? it = some o ∧ ∀ v, o.data ≠ .cell v := by
  cases g with
  | li a => obtain ⟨o, ho, _, d⟩ := x; exact ⟨o, ho, fun v z => by rw [d] at z; cases z⟩
  | tu a => obtain ⟨o, ho, _, d⟩ := x; exact ⟨o, ho, fun v z => by rw [d] at z; cases z⟩
  | tx y t => obtain ⟨o, ho, _, d⟩ := x; exact ⟨o, ho, fun v z => by rw [d] at z; cases z⟩
theorem Tag.first {g : Tag} {it : Addr} {h : Heap} (x : h.get? it = some g.obj) : g.it it 0 h := by
  cases g with
  | li a => exact ⟨_, x, rfl, rfl⟩
  | tu a => exact ⟨_, x, rfl, rfl⟩
  | tx y t => exact ⟨_, x, rfl, rfl⟩
section
variable {X : Cx} {pins : List (Addr × Obj)} {σ : L2.St} {H : Hp} {s : Shared}
theorem Tag.inj (I : Inv X pins σ H s) {g : Tag} {xs ys : List V} (h1 : g.src X.K H xs) (h2 : g.src X.K H ys) : xs = ys := by
  cases g with
  | li a => exact I.list_inj h1 h2
  | tu a => exact I.tuple_inj h1 h2
  | tx x t => rw [show xs = _ from h1, show ys = _ from h2]
theorem Tag.draws (I : Inv X pins σ H s) (hd : X.A.handled = none) {g : Tag} {xs : List V} {it : Addr} {i0 : Nat} (src : g.src X.K H xs) (hit : g.it it i0 s.heap) :
    ∃ (P : Nat → Value → Prop) (St : Nat → Heap → Prop), Draws X.prog X.w X.A.in1 it (it :: g.base) xs.length P St ∧ (∀ i v, P i v → ∃ x, xs[i]? = some x ∧ RelV x v) ∧ (∀ i, g.it it i s.heap → St i s.heap) ∧ ∀ i h, St i h → g.it it i h := by
  cases g with
  | li a =>
    obtain ⟨its, rv, p, hz⟩ := I.list src
    have ne : a ≠ it := fun z => by
      subst z
      obtain ⟨o, ho, hc, _⟩ := hit
      obtain ⟨o', n, ho', hc', _⟩ := p
      rw [ho] at ho'; cases ho'
      rw [hc] at hc'
      injection hc' with z
      exact absurd z (by decide)
    have D := Draws.list (prog := X.prog) (w := X.w) (A := X.A.in1) hd it a ne its.toArray
    refine ⟨(fun i v => its.toArray[i]? = some v), (fun i h => h.IsListIter it a i ∧ h.IsList a its.toArray), by rw [rv.length]; exact D, fun i v hv => ?_, fun i st => ⟨st, p.isList⟩, fun i h st => st.1⟩
    have hv : its[i]? = some v := by simpa using hv
    obtain ⟨hl, e⟩ := List.getElem?_eq_some_iff.mp hv
    have hl2 : i < xs.length := by rw [rv.length]; exact hl
    obtain ⟨u, e1, r1⟩ := rv.get (List.getElem?_eq_getElem hl2)
    rw [hv] at e1
    cases e1
    exact ⟨_, List.getElem?_eq_getElem hl2, r1⟩
  | tu a =>
    obtain ⟨its, rv, p, hz⟩ := I.tuple src
    have ne : a ≠ it := fun z => by
      subst z
      obtain ⟨o, ho, hc, _⟩ := hit
      obtain ⟨o', ho', hc', _⟩ := p
      rw [ho] at ho'; cases ho'
      rw [hc] at hc'
      injection hc' with z
      exact absurd z (by decide)
    have D := Draws.tuple (prog := X.prog) (w := X.w) (A := X.A.in1) hd it a ne its.toArray
    refine ⟨(fun i v => its.toArray[i]? = some v), (fun i h => h.IsTupleIter it a i ∧ h.IsTuple a its.toArray), by rw [rv.length]; exact D, fun i v hv => ?_, fun i st => ⟨st, p⟩, fun i h st => st.1⟩
    have hv : its[i]? = some v := by simpa using hv
    obtain ⟨hl, e⟩ := List.getElem?_eq_some_iff.mp hv
    have hl2 : i < xs.length := by rw [rv.length]; exact hl
    obtain ⟨u, e1, r1⟩ := rv.get (List.getElem?_eq_getElem hl2)
    rw [hv] at e1
    cases e1
    exact ⟨_, List.getElem?_eq_getElem hl2, r1⟩
  | tx x t =>
    have D := Draws.text (prog := X.prog) (w := X.w) (A := X.A.in1) hd it x t
    have e : xs = _ := src
    have el : xs.length = x.cps.size := by rw [e, List.length_map, Array.length_toList]
    refine ⟨(fun i v => ∃ c u, x.cps[i]? = some c ∧ v = .str ⟨#[c]⟩ u), (fun i h => h.IsStrIter it (strIterType x) x t i), by rw [el]; exact D, fun i v hv => ?_, fun i st => st, fun i h st => st⟩
    obtain ⟨c, u, hc, rfl⟩ := hv
    refine ⟨.str ⟨#[c]⟩, by rw [e, List.getElem?_map, Array.getElem?_toList, hc]; rfl, ⟨u, rfl⟩⟩
end
def Tag.holds (g : Tag) (its : List Value) : Heap → Prop := match g with
  | .li a => fun h => h.IsList a its.toArray
  | .tu a => fun h => h.IsTuple a its.toArray
  | .tx _ _ => fun _ => True
theorem Tag.begins (g : Tag) (its : List Value) : Begins g.val g.obj (g.holds its) := by
  cases g with
  | li a => exact begins_list a _
  | tu a => exact begins_tuple a _
  | tx x t => exact begins_text x t
theorem Tag.stands {X : Cx} {pins : List (Addr × Obj)} {σ : L2.St} {H : Hp} {s : Shared} {g : Tag} {xs : List V} (I : Inv X pins σ H s) (src : g.src X.K H xs) : ∃ its, g.holds its s.heap ∧ ∀ b ∈ g.base, b < s.heap.objs.size := by
  cases g with
  | li a =>
    obtain ⟨its, rv, p, hz⟩ := I.list src
    refine ⟨its, p.isList, fun b hb => ?_⟩
    have e : b = a := by simpa [Tag.base] using hb
    subst e
    exact p.lt
  | tu a =>
    obtain ⟨its, rv, p, hz⟩ := I.tuple src
    refine ⟨its, p, fun b hb => ?_⟩
    have e : b = a := by simpa [Tag.base] using hb
    subst e
    obtain ⟨o, ho, _⟩ := p
    exact Heap.lt_size ho
  | tx x t => exact ⟨[], trivial, fun b hb => by simp [Tag.base] at hb⟩
/-! ### enumerate -/
def IteG (K : PySem.W.Frag) (g : Tag) : It :=
  ⟨fun i H => ∃ (xs : List V) (x : V), g.src K H xs ∧ xs[i]? = some x, fun i H v H' => ∃ T x, v = .ref T ∧ H T = none ∧ H' = upd H T (.tup [.int (i : Nat), x]) ∧ ∀ xs, g.src K H xs → xs[i]? = some x, fun i H => ∃ xs : List V, g.src K H xs ∧ xs.length = i⟩
theorem turn_enumG {P : Program} {w : World} {K : PySem.W.Frag} {elts : List Expr} {kk : Nat} {tpos : Pos} (g : Tag) (e it : Addr) (hef : e ∉ it :: g.base) :
    Turn P w K (.Tuple elts kk tpos) (IteG K g) [e, it] e (fun i h => (∃ old, IsEnum h e it ((i : Nat) : Int) old) ∧ g.it it i h) where
  mem := by simp
  obj := fun i h st b hb => by
    obtain ⟨⟨old, he⟩, hi⟩ := st
    have e' : b = e ∨ b = it := by simpa using hb
    rcases e' with z | z
    · rw [z]; exact ⟨_, he, fun v q => nomatch q⟩
    · rw [z]; exact (Tag.live hi)
  keep := fun i h h' st k => let ⟨⟨old, he⟩, hi⟩ := st; ⟨⟨old, k e (by simp) _ he⟩, Tag.keep hi fun o q => k it (by simp) o q⟩
  item := by
    intro X hP hw hK hc i pins s σ H E I hf st hg
    subst hP hw hK
    obtain ⟨⟨old, he⟩, hit⟩ := st
    obtain ⟨xs, x, hq, hx⟩ := hg
    have hne : e ≠ it := fun z => hef (by simp [z])
    have hel : e < s.heap.objs.size := Heap.lt_size he
    have hil : it < s.heap.objs.size := by obtain ⟨_, q, _⟩ := (Tag.live hit); exact Heap.lt_size q
    obtain ⟨Pp, St, D, hP, hS, hS'⟩ := Tag.draws I (I.ok.hd hc) hq hit
    have hlt : i < xs.length := (List.getElem?_eq_some_iff.mp hx).1
    refine wpAny_pyNext_enum_itemD D he (hS _ hit) hlt hne hef fun u h' tk hu ho hst' hT hsz hk => ?_
    obtain ⟨x', hx', ru⟩ := hP _ _ hu
    rw [hx] at hx'
    cases hx'
    have hit' := hS' _ _ hst'
    refine ⟨_, rfl, wpAny_letOwnedTupleGo_enum (s := { s with heap := h', toks := tk + 1 }) ho fun h'' he' sb => ?_⟩
    have hT2 : h''.get? s.heap.objs.size = some { cls := .type "tuple", data := .seq #[.int i tk, u] } := (sb.2 _ (Nat.ne_of_gt hel)).trans hT
    have new : ObjOk X.prog X.w (upd H s.heap.objs.size (.tup [.int (i : Nat), x])) h'' s.heap.objs.size (.tup [.int (i : Nat), x]) :=
      ⟨by show 2 ≤ sizeLine; decide, [.int i tk, u], .cons ⟨_, rfl⟩ (.cons ru .nil), ⟨_, hT2, rfl, _, rfl⟩⟩
    have I1 : Inv X pins σ (upd H s.heap.objs.size (.tup [.int (i : Nat), x])) { s with heap := h'', toks := tk + 1 } :=
      I.turnedNew (ch := [e, it]) (fun b ob hb q => (sb.2 b (fun z => hb (by simp [z]))).trans (hk b ob (fun z => hb (by simp [z])) (fun z => hb (by simp [z])) q)) hf (Nat.le_refl _) new
    refine ⟨.ref s.heap.objs.size, _, I1, rfl, ⟨_, x, rfl, I.hok.fresh (Nat.le_refl _), rfl, fun ys hy => by rw [Tag.inj I hy hq]; exact hx⟩, ⟨⟨u, ?_⟩, Tag.keep hit' fun o q => (sb.2 it (Ne.symm hne)).trans q⟩, fun b hb => ?_⟩
    · have e1 : ((i + 1 : Nat) : Int) = (i : Int) + 1 := by omega
      rw [e1]; exact he'
    · have hb' : b < s.heap.objs.size := by
        have e' : b = e ∨ b = it := by simpa using hb
        rcases e' with z | z
        · rw [z]; exact hel
        · rw [z]; exact hil
      rw [upd_ne (Nat.ne_of_lt hb')]
      exact (hf b hb).1
  done := by
    intro X hP hw hK hc i pins s σ H E I hf st hg
    subst hP hw hK
    obtain ⟨⟨old, he⟩, hit⟩ := st
    obtain ⟨xs, hq, hx⟩ := hg
    obtain ⟨Pp, St, D, hP, hS, hS'⟩ := Tag.draws I (I.ok.hd hc) hq hit
    obtain ⟨f0, f1, f2, f3, f4, f5⟩ := hf it (by simp)
    subst hx
    exact wpAny_pyNext_enum_endD D he (hS _ hit) fun h' eb => ⟨rfl, I.turned (t' := s.toks) (fun b o hb q => eb b o hb q) f0 f1 f3 f4 f5⟩
  self := fun A i s Q E st h => let ⟨⟨_, he⟩, _⟩ := st; wpAny_pyIter_enum he h
set_option maxHeartbeats 1000000 in
theorem meets_enum1 {v : Value} {o : Obj} {H : Heap → Prop} (B : Begins v o H) :
    Meets (Builtin.«enumerate.__new__» ⟨[.type "enumerate", v], []⟩) (fun _ R s => H s.heap ∧
      R (.ok (.ret (.ref (s.heap.push o).objs.size))) { s with heap := (s.heap.push o).push { cls := .type "enumerate", data := .fields #[.none, .bool false, .ref s.heap.objs.size, rawInt 0, .none, .none] } }) :=
  .of_wp fun prog w A R s h => by
    obtain ⟨hp, g, d, tk, os⟩ := s; obtain ⟨h1, h⟩ := h
    have hsub := sub_enumerate
    have q1 : ∀ {A' : Around} {E : Value → Shared → Prop} {Q : Value → Shared → Prop}, Q (.ref hp.objs.size) ⟨hp.push o, g, d, tk, os⟩ → wpAny (model prog w) A' (pyIter v) Q E ⟨hp, g, d, tk, os⟩ :=
      fun q => B.iter prog w _ _ ⟨hp, g, d, tk, os⟩ _ h1 q
    wp_walk using q1
    refine wpAny_stack_any fun st => wpAny_pure ?_
    split
    · rename_i c _ _ _ _ _
      cases (c == Value.type "enumerate")
      · wp_walk using q1
        exact ⟨_, rfl, h⟩
      · wp_walk using q1
        exact ⟨_, rfl, h⟩
    · wp_walk using q1
      exact ⟨_, rfl, h⟩
theorem call_enum1 {prog : Program} {w : World} {A : Around} {E : Value → Shared → Prop} {s : Shared} {v : Value} {o : Obj} {H : Heap → Prop} {Q : Value → Shared → Prop} (B : Begins v o H) (h1 : H s.heap)
    (h : ∀ h', IsEnum h' (s.heap.objs.size + 1) s.heap.objs.size 0 .none → h'.get? s.heap.objs.size = some o → h'.objs.size = s.heap.objs.size + 2 →
      (∀ b o, s.heap.get? b = some o → h'.get? b = some o) → Q (.ref (s.heap.objs.size + 1)) { s with heap := h' }) :
    wpAny (model prog w) A (call (.type "enumerate") [v]) Q E s := by
  refine callType_new F.called_enumerate (by decide) (F.typeCall_enumerate_1 _) (F.newCall_enumerate_1 _) (fun obj => F.args_object_init_2 obj _) F.entry_enumerate_new
    (meets_enum1 B) ⟨h1, ?_⟩
  have hz : (s.heap.push o).objs.size = s.heap.objs.size + 1 := Heap.size_push ..
  show _ ∧ _
  rw [hz]
  have he : IsEnum ((s.heap.push o).push { cls := .type "enumerate", data := .fields #[.none, .bool false, .ref s.heap.objs.size, rawInt 0, .none, .none] }) (s.heap.objs.size + 1) s.heap.objs.size 0 .none := by
    have := Heap.get?_push_size (s.heap.push o) (o := { cls := .type "enumerate", data := .fields #[.none, .bool false, .ref s.heap.objs.size, rawInt 0, .none, .none] }) rfl
    rw [hz] at this; exact this
  refine ⟨⟨_, he, rfl⟩, h _ he (Heap.get?_push_of_some _ (Heap.get?_push_size _ B.free)) (by rw [Heap.size_push, hz]) fun b o x => Heap.get?_push_of_some _ (Heap.get?_push_of_some _ x)⟩
/-- a value that may be walked -/
inductive Wks (K : PySem.W.Frag) (H : Hp) : V → (Tag → Prop) → List V → Prop
  | li {a : Addr} {xs : List V} : SqL K H a xs → Wks K H (.ref a) (fun g => g = .li a) xs
  | tu {a : Addr} {xs : List V} : SqT K H a xs → Wks K H (.ref a) (fun g => g = .tu a) xs
  | tx {x : Str} : Wks K H (.str x) (fun g => ∃ t, g = .tx x t) (x.cps.toList.map fun c => .str ⟨#[c]⟩)
theorem Wks.tag {K : PySem.W.Frag} {H : Hp} {v : V} {S : Tag → Prop} {xs : List V} {u : Value} (w : Wks K H v S xs) (r : RelV v u) : ∃ g, S g ∧ g.val = u ∧ g.src K H xs := by
  cases w with
  | li h => cases r; exact ⟨_, rfl, rfl, h⟩
  | tu h => cases r; exact ⟨_, rfl, rfl, h⟩
  | tx => obtain ⟨t, rfl⟩ := r; exact ⟨_, ⟨t, rfl⟩, rfl, rfl⟩
def iEnumG (K : PySem.W.Frag) (ta : TA) : TI := fun σ H R => ta σ H fun vs H1 => ∃ v S xs, vs = [v] ∧ Wks K H1 v S xs ∧ ∀ g, S g → R (IteG K g) H1
theorem pi_enumG {X : Cx} {e : Expr} {ta : TA} {p pos tpos : Pos} {elts : List Expr} {kk : Nat} (hg : Gl X "enumerate") (hm : X.mg "enumerate" = none) (ha : PA X [e] ta) (hs : starEach [e] X.env = [(false, eval e X.env)] := by rfl) :
    PI X (.Tuple elts kk tpos) (.Call (.Name "enumerate" p) [e] [] pos) (iEnumG X.K ta) := by
  refine ⟨fun pins s σ H R I h => ?_⟩
  refine Call_ (ld_blt I hg hm PyProof.Rows.boot_enumerate (PyProof.Rows.callWith_type1 (thn (ha.run pos pins s σ H _ I h) fun us s1 ⟨vs, H1, I1, r1, q1⟩ => ?_) hs rfl))
  obtain ⟨v, S, xs, ex, hq, q⟩ := q1
  subst ex
  cases r1 with
  | cons r rr =>
    cases rr
    obtain ⟨g, hS, rfl, src⟩ := hq.tag r
    obtain ⟨its, hh, hb⟩ := Tag.stands I1 src
    refine call_enum1 (g.begins its) hh fun h' he hit hsz hk => wpAny_pyIter_enum he ?_
    have I2 : Inv X pins σ H1 { s1 with heap := h' } := I1.kept (t' := s1.toks) hk
    refine ⟨s1.heap.objs.size + 1, [s1.heap.objs.size + 1, s1.heap.objs.size], _, _, H1, rfl, I2, turn_enumG g (s1.heap.objs.size + 1) s1.heap.objs.size (fun hm => ?_), ⟨⟨.none, he⟩, Tag.first hit⟩, fun b hb => ?_, q g hS⟩
    · rcases List.mem_cons.mp hm with z | z
      · exact Nat.succ_ne_self _ z
      · exact absurd (hb _ z) (Nat.not_lt.mpr (Nat.le_succ _))
    · have e' : b = s1.heap.objs.size + 1 ∨ b = s1.heap.objs.size := by simpa using hb
      have hle : s1.heap.objs.size ≤ b := by
        rcases e' with z | z
        · rw [z]; exact Nat.le_add_right _ _
        · rw [z]; exact Nat.le_refl _
      exact I1.fpOk hle (I1.hok.fresh hle)
/-! ### zip -/
def ItzG (K : PySem.W.Frag) (g1 g2 : Tag) : It :=
  ⟨fun i H => ∃ (xs ys : List V) (x y : V), g1.src K H xs ∧ g2.src K H ys ∧ xs[i]? = some x ∧ ys[i]? = some y,
    fun i H v H' => ∃ T x y, v = .ref T ∧ H T = none ∧ H' = upd H T (.tup [x, y]) ∧ (∀ xs, g1.src K H xs → xs[i]? = some x) ∧ ∀ ys, g2.src K H ys → ys[i]? = some y,
    fun i H => ∃ xs ys : List V, g1.src K H xs ∧ g2.src K H ys ∧ i ≤ xs.length ∧ i ≤ ys.length ∧ (i = xs.length ∨ i = ys.length)⟩
theorem turn_zipG {P : Program} {w : World} {K : PySem.W.Frag} {elts : List Expr} {kk : Nat} {tpos : Pos} (g1 g2 : Tag) {z TI TO i1 i2 : Addr} (S : ZipSep2 z TI TO i1 i2 (i1 :: g1.base) (i2 :: g2.base)) :
    Turn P w K (.Tuple elts kk tpos) (ItzG K g1 g2) [z, TI, TO, i1, i2] z (fun i h => IsZip h z TI TO .none ∧ IsTupOf2 h TI (.ref i1) (.ref i2) ∧ (∃ x y, IsTupOf2 h TO x y) ∧ g1.it i1 i h ∧ g2.it i2 i h) where
  mem := by simp
  obj := fun i h st c hc => by
    obtain ⟨hz, hTI, ⟨x, y, hTO⟩, h1, h2⟩ := st
    have e' : c = z ∨ c = TI ∨ c = TO ∨ c = i1 ∨ c = i2 := by simpa using hc
    rcases e' with q | q | q | q | q
    · rw [q]; exact ⟨_, hz, fun v q => nomatch q⟩
    · rw [q]; exact ⟨_, hTI, fun v q => nomatch q⟩
    · rw [q]; exact ⟨_, hTO, fun v q => nomatch q⟩
    · rw [q]; exact (Tag.live h1)
    · rw [q]; exact (Tag.live h2)
  keep := fun i h h' st k => by
    obtain ⟨hz, hTI, ⟨x, y, hTO⟩, h1, h2⟩ := st
    exact ⟨k z (by simp) _ hz, k TI (by simp) _ hTI, ⟨x, y, k TO (by simp) _ hTO⟩, Tag.keep h1 fun o q => k i1 (by simp) o q, Tag.keep h2 fun o q => k i2 (by simp) o q⟩
  item := by
    intro X hP hw hK hc i pins s σ H E I hf st hg
    subst hP hw hK
    obtain ⟨hz, hTI, ⟨x0, y0, hTO⟩, h1, h2⟩ := st
    obtain ⟨xs, ys, x, y, hqx, hqy, hx, hy⟩ := hg
    obtain ⟨P1, St1, D1, hP1, hS1, hS1'⟩ := Tag.draws I (I.ok.hd hc) hqx h1
    obtain ⟨P2, St2, D2, hP2, hS2, hS2'⟩ := Tag.draws I (I.ok.hd hc) hqy h2
    have hzl : z < s.heap.objs.size := Heap.lt_size hz
    refine wpAny_pyNext_zipD2_item S D1 D2 hz hTI hTO (hS1 _ h1) (hS2 _ h2) (List.getElem?_eq_some_iff.mp hx).1 (List.getElem?_eq_some_iff.mp hy).1 fun u u2 h' tk hu hu2 z' TO' h1' h2' hT hsz hk => ?_
    obtain ⟨x', hx', ru⟩ := hP1 _ _ hu
    rw [hx] at hx'
    cases hx'
    obtain ⟨y', hy', ru2⟩ := hP2 _ _ hu2
    rw [hy] at hy'
    cases hy'
    have h1' := hS1' _ _ h1'
    have h2' := hS2' _ _ h2'
    refine ⟨_, rfl, wpAny_letOwnedTupleGo_zip (s := { s with heap := h', toks := tk }) z' fun h'' z'' sb => ?_⟩
    have hT2 : h''.get? s.heap.objs.size = some { cls := .type "tuple", data := .seq #[u, u2] } := (sb.2 _ (Nat.ne_of_gt hzl)).trans hT
    have new : ObjOk X.prog X.w (upd H s.heap.objs.size (.tup [x, y])) h'' s.heap.objs.size (.tup [x, y]) :=
      ⟨by show 2 ≤ sizeLine; decide, [u, u2], .cons ru (.cons ru2 .nil), ⟨_, hT2, rfl, _, rfl⟩⟩
    have hTI' : IsTupOf2 h' TI (.ref i1) (.ref i2) := hk _ _ S.TIz S.TITO S.TIi1 S.TIi2 hTI
    have I1 : Inv X pins σ (upd H s.heap.objs.size (.tup [x, y])) { s with heap := h'', toks := tk } :=
      I.turnedNew (ch := [z, TI, TO, i1, i2]) (fun c o hb q => (sb.2 c (fun q' => hb (by simp [q']))).trans (hk c o (fun q' => hb (by simp [q'])) (fun q' => hb (by simp [q'])) (fun q' => hb (by simp [q'])) (fun q' => hb (by simp [q'])) q)) hf (Nat.le_refl _) new
    refine ⟨.ref s.heap.objs.size, _, I1, rfl, ⟨_, x, y, rfl, I.hok.fresh (Nat.le_refl _), rfl, fun l hl => by rw [Tag.inj I hl hqx]; exact hx, fun l hl => by rw [Tag.inj I hl hqy]; exact hy⟩, ⟨z'', ?_, ⟨u, u2, ?_⟩, ?_, ?_⟩, fun c hcm => ?_⟩
    · exact (sb.2 _ S.TIz).trans hTI'
    · exact (sb.2 _ S.TOz).trans TO'
    · exact Tag.keep h1' fun o q => (sb.2 _ (Ne.symm S.zi1)).trans q
    · exact Tag.keep h2' fun o q => (sb.2 _ (Ne.symm S.zi2)).trans q
    · have hlt : c < s.heap.objs.size := by
        have e' : c = z ∨ c = TI ∨ c = TO ∨ c = i1 ∨ c = i2 := by simpa using hcm
        rcases e' with q | q | q | q | q
        · rw [q]; exact hzl
        · rw [q]; exact Heap.lt_size hTI
        · rw [q]; exact Heap.lt_size hTO
        · rw [q]; obtain ⟨_, e1, _⟩ := (Tag.live h1); exact Heap.lt_size e1
        · rw [q]; obtain ⟨_, e2, _⟩ := (Tag.live h2); exact Heap.lt_size e2
      rw [upd_ne (Nat.ne_of_lt hlt)]
      exact (hf c hcm).1
  done := by
    intro X hP hw hK hc i pins s σ H E I hf st hg
    subst hP hw hK
    obtain ⟨hz, hTI, ⟨x0, y0, hTO⟩, h1, h2⟩ := st
    obtain ⟨xs, ys, hqx, hqy, l1, l2, hend⟩ := hg
    obtain ⟨P1, St1, D1, hP1, hS1, hS1'⟩ := Tag.draws I (I.ok.hd hc) hqx h1
    obtain ⟨P2, St2, D2, hP2, hS2, hS2'⟩ := Tag.draws I (I.ok.hd hc) hqy h2
    exact wpAny_pyNext_zipD2_end S D1 D2 hz hTI hTO (hS1 _ h1) (hS2 _ h2) l1 l2 hend fun h' tk hk => ⟨rfl, I.turnedL (ch := [z, TI, TO, i1, i2]) (fun c o hb q =>
      hk c o (fun q' => hb (by simp [q'])) (fun q' => hb (by simp [q'])) (fun q' => hb (by simp [q'])) (fun q' => hb (by simp [q'])) q) hf⟩
  self := fun A i s Q E st h => wpAny_pyIter_zip st.1 h
def iZipG (K : PySem.W.Frag) (ta : TA) : TI := fun σ H R => ta σ H fun vs H1 => ∃ v S xs v2 S2 ys, vs = [v, v2] ∧ Wks K H1 v S xs ∧ Wks K H1 v2 S2 ys ∧ ∀ g g2, S g → S2 g2 → R (ItzG K g g2) H1
theorem pi_zipG {X : Cx} {e e2 : Expr} {ta : TA} {p pos tpos : Pos} {elts : List Expr} {kk : Nat} (hg : Gl X "zip") (hm : X.mg "zip" = none) (ha : PA X [e, e2] ta)
    (hs : starEach [e, e2] X.env = (false, eval e X.env) :: starEach [e2] X.env := by rfl) (hpl : (backTo pos (starEach [e2] X.env)).any (·.1) = false := by rfl) :
    PI X (.Tuple elts kk tpos) (.Call (.Name "zip" p) [e, e2] [] pos) (iZipG X.K ta) := by
  refine ⟨fun pins s σ H R I h => ?_⟩
  refine Call_ (ld_blt I hg hm PyProof.Rows.boot_zip (PyProof.Rows.callWith_type1 (thn (ha.run pos pins s σ H _ I h) fun us s1 ⟨vs, H1, I1, r1, q1⟩ => ?_) hs hpl))
  obtain ⟨v, S, xs, v2, S2, ys, ex, hq, hq2, q⟩ := q1
  subst ex
  cases r1 with
  | cons r rr =>
    cases rr with
    | cons r' rr =>
      cases rr
      obtain ⟨g, hS, rfl, src⟩ := hq.tag r
      obtain ⟨its, hh, hb⟩ := Tag.stands I1 src
      obtain ⟨g2, hS2, rfl, src2⟩ := hq2.tag r'
      obtain ⟨its2, hh2, hb2⟩ := Tag.stands I1 src2
      refine zip_begins2 (g.begins its) (g2.begins its2) hh hh2 fun h' hz hTI hTO h1 h2 hsz hk => wpAny_pyIter_zip hz ?_
      have I2 : Inv X pins σ H1 { s1 with heap := h' } := I1.kept (t' := s1.toks) hk
      refine ⟨s1.heap.objs.size + 4, [s1.heap.objs.size + 4, s1.heap.objs.size + 2, s1.heap.objs.size + 3, s1.heap.objs.size, s1.heap.objs.size + 1], _, _, H1, rfl, I2, turn_zipG g g2 (zip_sep2 hb hb2), ⟨hz, hTI, ⟨_, _, hTO⟩, Tag.first h1, Tag.first h2⟩, fun c hcm => ?_, q g g2 hS hS2⟩
      have e' : c = s1.heap.objs.size + 4 ∨ c = s1.heap.objs.size + 2 ∨ c = s1.heap.objs.size + 3 ∨ c = s1.heap.objs.size ∨ c = s1.heap.objs.size + 1 := by simpa using hcm
      have hle : s1.heap.objs.size ≤ c := by
        rcases e' with z | z | z | z | z
        · rw [z]; exact Nat.le_add_right _ _
        · rw [z]; exact Nat.le_add_right _ _
        · rw [z]; exact Nat.le_add_right _ _
        · rw [z]; exact Nat.le_refl _
        · rw [z]; exact Nat.le_add_right _ _
      exact I1.fpOk hle (I1.hok.fresh hle)
/-! ### as data -/
section
variable {T : List (Addr × Str)} {CL : Str → Option Addr} {W : WX} {X : Cx} {pos : Pos} {a b c tg : Expr} {fa fb fc : EF}
variable {am : Option Addr} {Oc : Addr → Prop} {B : Bs} {σ : L2.St} {H : Hp} {δ : DEnv} {h : HS}
theorem wks_of (K : PySem.W.Frag) (x : At T am Oc B σ H δ h) {v : V} {d : PyData} {ds : List PyData} (dv : Dt (OO Oc σ δ) H v d) (hg : gItems d = some ds) : ∃ S xs, Wks K H v S xs ∧ ∀ g, S g →
    ∀ (Oc' : Addr → Prop) (σ' : L2.St) (H' : Hp) (δ' : DEnv) (h' : HS), (∀ b, Oc' b → Oc b ∨ H b = none) → At T am Oc' (Bs.at σ δ H) σ' H' δ' h' → g.src K H' xs ∧ DtA (OO Oc' σ' δ') H' xs ds := by
  cases dv with
  | lst r n t =>
    cases hg
    exact ⟨_, _, .li (SqL.of r), fun g e Oc' σ' H' δ' h' hO y => by
      subst e
      have k := x.kpB hO y
      exact ⟨SqL.of (k.ls _ _ n r), t.kp k⟩⟩
  | tup r n t =>
    cases hg
    exact ⟨_, _, .tu (.inl r), fun g e Oc' σ' H' δ' h' hO y => by
      subst e
      have k := x.kpB hO y
      exact ⟨.inl (k.rd _ _ n (fun z => z) r), t.kp k⟩⟩
  | str z z1 z2 =>
    cases hg
    refine ⟨_, _, .tx, fun g e Oc' σ' H' δ' h' hO y => ?_⟩
    obtain ⟨t, rfl⟩ := e
    refine ⟨rfl, ?_⟩
    have : ∀ cs : List Nat, (∀ c ∈ cs, c ∈ z.cps.toList) → DtA (OO Oc' σ' δ') H' (cs.map fun c => V.str ⟨#[c]⟩) (cs.map fun c => PyData.str ⟨#[c]⟩) := by
      intro cs
      induction cs with
      | nil => intro _; exact .nil
      | cons c cs ih =>
        intro hc
        exact .cons (.str _ (by rw [sizeLine_eq]; show 1 ≤ 16777216; omega) (cps_ok z2 (hc c List.mem_cons_self))) (ih fun c' h' => hc c' (List.mem_cons_of_mem _ h'))
    exact this _ fun _ z => z
  | _ => cases hg
def gEnumG : List PyData → Option (List PyData)
  | [d] => (gItems d).map fun xs => xs.mapIdx fun i x => .tuple [.int (i : Nat), x]
  | _ => none
def dEnumG (fs : List EF) : IF := fun δ h => (dSeq fs δ h).op gEnumG
theorem i_enumG {elts : List Expr} {kk : Nat} {p tpos : Pos} (hg : Gl X "enumerate") (hm : X.mg "enumerate" = none) (ha : AD T CL W X .D [a] (dSeq [fa]))
    (hs : starEach [a] X.env = [(false, eval a X.env)] := by rfl) : ID T CL W X (.Tuple elts kk tpos) (.Call (.Name "enumerate" p) [a] [] pos) (dEnumG [fa]) :=
  ⟨_, pi_enumG hg hm ha hs, fun am Oc B σ H δ h R x q => by
    refine tA_of x (AftI.bindA x q fun d1 h1 v1 H1 ds x1 pr hg q1 => ?_)
    have t := dta_of pr
    match d1, hg with
    | [d], hg =>
      obtain ⟨es, hi, rfl⟩ := Option.map_eq_some_iff.mp hg
      cases t with | cons ta t =>
      cases t
      obtain ⟨S, xs, w, k⟩ := wks_of X.K x1 ta hi
      refine ⟨_, S, xs, rfl, w, fun g hS => q1 _ fun Oc' i σ' H' δ' h' hO y => ?_⟩
      obtain ⟨s1, u1⟩ := k g hS Oc' σ' H' δ' h' hO y
      refine ⟨fun d e => ?_, fun e => ⟨xs, s1, by rw [u1.length, e, List.length_mapIdx]⟩⟩
      rw [List.getElem?_mapIdx] at e
      obtain ⟨dx, e1, rfl⟩ := Option.map_eq_some_iff.mp e
      obtain ⟨v, f1, g1⟩ := u1.get e1
      refine ⟨⟨xs, v, s1, f1⟩, fun z H'' ⟨Tn, v', ez, hT, eH, k1⟩ => ?_⟩
      have k1 := k1 xs s1
      rw [f1] at k1
      cases k1
      subst ez
      subst eH
      exact pair_new y hT (.int _) g1⟩
def gZipG : List PyData → Option (List PyData)
  | [d, e] => (gItems d).bind fun xs => (gItems e).map fun ys => List.zipWith (fun x y => .tuple [x, y]) xs ys
  | _ => none
def dZipG (fs : List EF) : IF := fun δ h => (dSeq fs δ h).op gZipG
theorem i_zipG {elts : List Expr} {kk : Nat} {p tpos : Pos} {e2 : Expr} {f2 : EF} (hg : Gl X "zip") (hm : X.mg "zip" = none) (ha : AD T CL W X .D [a, e2] (dSeq [fa, f2]))
    (hs : starEach [a, e2] X.env = (false, eval a X.env) :: starEach [e2] X.env := by rfl) (hpl : (backTo pos (starEach [e2] X.env)).any (·.1) = false := by rfl) : ID T CL W X (.Tuple elts kk tpos) (.Call (.Name "zip" p) [a, e2] [] pos) (dZipG [fa, f2]) :=
  ⟨_, pi_zipG hg hm ha hs hpl, fun am Oc B σ H δ h R x q => by
    refine tA_of x (AftI.bindA x q fun d1 h1 v1 H1 ds x1 pr hg q1 => ?_)
    have t := dta_of pr
    match d1, hg with
    | [d, e], hg =>
      obtain ⟨es, hi, hg⟩ := Option.bind_eq_some_iff.mp hg
      obtain ⟨es2, hi2, rfl⟩ := Option.map_eq_some_iff.mp hg
      cases t with | cons ta t => cases t with | cons tb t =>
      cases t
      obtain ⟨S, xs, w, k⟩ := wks_of X.K x1 ta hi
      obtain ⟨S2, ys, w2, k2⟩ := wks_of X.K x1 tb hi2
      refine ⟨_, S, xs, _, S2, ys, rfl, w, w2, fun g g2 hS hS2 => q1 _ fun Oc' i σ' H' δ' h' hO y => ?_⟩
      obtain ⟨s1, u1⟩ := k g hS Oc' σ' H' δ' h' hO y
      obtain ⟨s2, u2⟩ := k2 g2 hS2 Oc' σ' H' δ' h' hO y
      refine ⟨fun d e => ?_, fun e => ⟨xs, ys, s1, s2, ?_⟩⟩
      · rw [List.getElem?_zipWith] at e
        obtain ⟨dx, dy, e1, e2, e3⟩ : ∃ dx dy, es[i]? = some dx ∧ es2[i]? = some dy ∧ PyData.tuple [dx, dy] = d := by
          cases ex : es[i]? with
          | none => rw [ex] at e; cases e
          | some dx =>
            cases ey : es2[i]? with
            | none => rw [ex, ey] at e; cases e
            | some dy => rw [ex, ey] at e; exact ⟨dx, dy, rfl, rfl, Option.some.inj e⟩
        subst e3
        obtain ⟨v, f1, g1⟩ := u1.get e1
        obtain ⟨w, f2, g2⟩ := u2.get e2
        refine ⟨⟨xs, ys, v, w, s1, s2, f1, f2⟩, fun z H'' ⟨Tn, v', w', ez, hT, eH, k1, k2⟩ => ?_⟩
        have k1 := k1 xs s1
        have k2 := k2 ys s2
        rw [f1] at k1
        rw [f2] at k2
        cases k1
        cases k2
        subst ez
        subst eH
        exact pair_new y hT g1 g2
      · rw [List.length_zipWith] at e
        rw [u1.length, u2.length]
        omega⟩
end
end DL
/-! The data layer, part 11: more is one's own; list comprehensions. -/
namespace DL
open PySem PySem.Spec PyProof.Rows L2
section
variable {T : List (Addr × Str)} {am : Option Addr} {Oc : Addr → Prop} {B : Bs} {H H' : Hp} {σ : L2.St} {δ : DEnv} {h h' : HS}
theorem oo_grow {a b : Addr} : OO (fun b => Oc b ∨ b = a) σ δ b ↔ (OO Oc σ δ b ∨ b = a) := by
  unfold OO
  constructor
  · rintro ((z | z) | z)
    · exact .inl (.inl z)
    · exact .inr z
    · exact .inl (.inr z)
  · rintro ((z | z) | z)
    · exact .inl (.inl z)
    · exact .inr z
    · exact .inl (.inr z)
/-- a new thing is held on to -/
theorem At.grow (x : At T am Oc B σ H δ h) {a : Addr} (e : Eff am H H') (ha : Fsh am H a) (w : Wd T am (fun b => OO Oc σ δ b ∨ b = a) H' h') (o : ∃ u, H' a = some u ∧ ¬ isTb u) : At T am (fun b => Oc b ∨ b = a) B σ H' δ h' := by
  have k1 : Kp (OO Oc σ δ) (OO (fun b => Oc b ∨ b = a) σ δ) H H' := Kp.eff e x.amO fun b o hb t z => by
    rcases oo_grow.mp z with z | z
    · exact z
    · subst z; exact absurd (ha.nt hb) t
  refine ⟨x.len, fun b hb => ?_, w.same (Same.refl H') (fun b _ _ _ z => oo_grow.mp z) (fun b z => .inl (.inl (x.amc b z))), fun b z => .inl (x.amc b z), fun j y hy => ?_, x.ownd, fun p b z q => ?_, x.new, x.eff.trans e⟩
  · rcases hb with hb | rfl
    · obtain ⟨u, e1, t1⟩ := x.dom b hb
      by_cases ham : am = some b
      · obtain ⟨_, ⟨vs, e2, _⟩, _⟩ := w b ham
        exact ⟨_, e2, fun z => z⟩
      · exact ⟨u, e b u e1 fun c hc => ⟨fun z => ham (z ▸ hc), t1⟩, t1⟩
    · exact o
  · have z := x.sl j y hy
    cases y with
    | no => trivial
    | d y => obtain ⟨v, e1, e2⟩ := z; exact ⟨v, e1, e2.kp k1⟩
    | o y =>
      obtain ⟨b, e1, e2⟩ := z
      exact ⟨b, e1, e2.kp k1 fun u q t => e b u q fun c hc => ⟨x.own_ne (i := j) ⟨⟨y, hy⟩, e1⟩ c hc, t⟩⟩
    | am => exact z
    | raw _ _ => exact z
  · rcases q with q | rfl
    · exact x.ownc p b z q
    · obtain ⟨y, _, o⟩ := x.oo z
      obtain ⟨u, e1, t⟩ := o.some
      exact t (ha.nt e1)
theorem Fsh.ofNone (x : At T am Oc B σ H δ h) {a : Addr} (hn : H a = none) : Fsh am H a := by
  refine ⟨fun _ => hn, fun c hc => ⟨?_, ?_⟩⟩
  · rintro rfl
    obtain ⟨o, e, _⟩ := x.dom a (x.amc a hc)
    rw [hn] at e; cases e
  · intro o e
    rw [hn] at e; cases e
/-- the list that a comprehension makes -/
theorem At.growL (x : At T am Oc B σ H δ h) {a : Addr} {xs : List V} (hn : H a = none) : At T am (fun b => Oc b ∨ b = a) B σ (upd H a (.lst xs)) δ h := by
  refine x.grow (Eff.same (same_upd hn)) (Fsh.ofNone x hn) (x.wd.same (same_upd hn) (fun b o e _ z => ?_) (fun c hc => .inl (x.amO c hc))) ⟨_, upd_same, fun z => z⟩
  rcases z with z | rfl
  · exact z
  · rw [hn] at e; cases e
/-- a held thing is changed -/
theorem At.heldMut (x : At T am Oc B σ H δ h) {D : Addr} {u : HO} {ys : List V} (hu : H D = some u) (tu : ¬ isTb u) (nx : ∀ φ, u ≠ .ext φ) (hO : Oc D) (Dam : ∀ c, am = some c → D ≠ c) (hB : B.H D = none) : At T am Oc B σ (upd H D (.lst ys)) δ h := by
  have k : Kp (OO Oc σ δ) (OO Oc σ δ) H (upd H D (.lst ys)) := ⟨fun b v hb _ r => by
    have hne : b ≠ D := fun z => hb (z ▸ .inl hO)
    unfold Rd at r ⊢
    rw [upd_ne hne]
    exact r, fun b xs hb r => by
    have hne : b ≠ D := fun z => hb (z ▸ .inl hO)
    rw [upd_ne hne]
    exact r, fun b _ _ _ z => z⟩
  refine ⟨x.len, fun b hb => ?_, fun c hc => ?_, x.amc, fun j y hy => ?_, x.ownd, x.ownc, x.new, fun b v hb hn hc => ?_⟩
  · by_cases e : b = D
    · subst e; exact ⟨_, upd_same, fun z => z⟩
    · rw [upd_ne e]; exact x.dom b hb
  · obtain ⟨w1, ⟨vs, w2, w3⟩, w4⟩ := x.wd c hc
    exact ⟨w1, ⟨vs, by rw [upd_ne (Ne.symm (Dam c hc))]; exact w2, w3.kp k⟩, tabs_upd w4 hu tu nx⟩
  · have z := x.sl j y hy
    cases y with
    | no => trivial
    | d y => obtain ⟨w, e1, e2⟩ := z; exact ⟨w, e1, e2.kp k⟩
    | o y =>
      obtain ⟨b, e1, e2⟩ := z
      have hne : b ≠ D := fun q => x.ownc j b ⟨⟨y, hy⟩, e1⟩ (q ▸ hO)
      exact ⟨b, e1, e2.kp k fun u q _ => by rw [upd_ne hne]; exact q⟩
    | am => exact z
    | raw _ _ => exact z
  · rw [upd_ne (ne_of_none hb hB)]
    exact x.eff b v hb hn hc
def wipeD (δ : DEnv) : List Nat → DEnv
  | [] => δ
  | v :: vs => (wipeD δ vs).set v .no
def isO : Option SV → Bool
  | some (.o _) => true
  | _ => false
theorem At.wipe (x : At T am Oc B σ H δ h) : ∀ vs, At T am Oc B (L2.wipe σ vs) H (wipeD δ vs) h
  | [] => x
  | v :: vs => (At.wipe x vs).put (fun _ z => nomatch z) trivial
theorem own_wipe {i : Nat} {a : Addr} : ∀ {vs : List Nat}, OwnAt σ δ i a → i ∉ vs → OwnAt (L2.wipe σ vs) (wipeD δ vs) i a
  | [], z, _ => z
  | v :: vs, z, n => by
    have ih := own_wipe z (fun q => n (List.mem_cons_of_mem _ q))
    have hv : v ≠ i := fun q => n (q ▸ List.mem_cons_self)
    refine ⟨?_, ?_⟩
    · obtain ⟨y, e⟩ := ih.1
      exact ⟨y, by unfold wipeD; rw [List.getElem?_set_ne hv]; exact e⟩
    · unfold L2.wipe; rw [List.getElem?_set_ne hv]; exact ih.2
theorem oo_wipe {vs : List Nat} (hv : vs.any (fun i => isO δ[i]?) = false) {b : Addr} (z : OO Oc σ δ b) : OO Oc (L2.wipe σ vs) (wipeD δ vs) b := by
  rcases z with z | ⟨i, z⟩
  · exact .inl z
  · refine .inr ⟨i, own_wipe z fun hi => ?_⟩
    rw [List.any_eq_false] at hv
    have := hv i hi
    obtain ⟨⟨y, e⟩, _⟩ := z
    rw [e] at this
    exact this rfl
theorem oo_unwipe {b : Addr} (vs : List Nat) (z : OO Oc (L2.wipe σ vs) (wipeD δ vs) b) : OO Oc σ δ b := by
  induction vs with
  | nil => exact z
  | cons v vs ih => exact ih (oo_put (s := .no) (fun y z => by cases z) b z)
theorem wipe_get {σ : L2.St} (j : Nat) : ∀ vs : List Nat, j ∉ vs → (L2.wipe σ vs)[j]? = σ[j]?
  | [], _ => rfl
  | v :: vs, n => by
    unfold L2.wipe
    have hne : v ≠ j := fun q => n (by simp [q])
    rw [List.getElem?_set_ne hne, wipe_get j vs (fun q => n (List.mem_cons_of_mem _ q))]
theorem wipe_in {σ : L2.St} {j : Nat} (hl : j < σ.length) : ∀ {vs : List Nat}, j ∈ vs → (L2.wipe σ vs)[j]? = some none
  | [], n => (List.not_mem_nil n).elim
  | v :: vs, n => by
    unfold L2.wipe
    by_cases e : v = j
    · subst e
      rw [List.getElem?_set_self (by rw [wipe_length]; exact hl)]
    · rw [List.getElem?_set_ne e]
      exact wipe_in hl ((List.mem_cons.mp n).resolve_left (Ne.symm e))
theorem wipeD_in {δ : DEnv} {j : Nat} {s : SV} : ∀ {vs : List Nat}, j ∈ vs → (wipeD δ vs)[j]? = some s → s = .no
  | [], n, _ => (List.not_mem_nil n).elim
  | v :: vs, n, e => by
    unfold wipeD at e
    by_cases ev : v = j
    · subst ev
      obtain ⟨hl, e⟩ := List.getElem?_eq_some_iff.mp e
      rw [List.getElem_set_self] at e
      exact e.symm
    · rw [List.getElem?_set_ne ev] at e
      exact wipeD_in ((List.mem_cons.mp n).resolve_left (Ne.symm ev)) e
theorem wipe_only {L vs : List Nat} {σ2 : L2.St} {δ0 δ1 : DEnv} (o : Only L (L2.wipe σ vs) σ2 δ0 δ1) (hL : ∀ j ∈ L, j ∈ vs) : L2.wipe σ2 vs = L2.wipe σ vs := by
  have hlen : σ2.length = σ.length := by rw [o.len, wipe_length]
  apply List.ext_getElem?
  intro j
  by_cases hj : j ∈ vs
  · by_cases hl : j < σ.length
    · rw [wipe_in hl hj, wipe_in (by omega) hj]
    · rw [List.getElem?_eq_none (by rw [wipe_length]; omega), List.getElem?_eq_none (by rw [wipe_length]; omega)]
  · rw [wipe_get j vs hj, o.s j fun z => hj (hL j z)]
theorem oo_only {L vs : List Nat} {σ2 : L2.St} {δ1 : DEnv} (o : Only L (L2.wipe σ vs) σ2 (wipeD δ vs) δ1) (hL : ∀ j ∈ L, j ∈ vs) {b : Addr} (z : OO Oc (L2.wipe σ vs) (wipeD δ vs) b) : OO Oc σ2 δ1 b := by
  rcases z with z | ⟨j, ⟨y, e1⟩, e2⟩
  · exact .inl z
  · have hj : j ∉ L := fun q => by
      have := wipeD_in (hL j q) e1
      cases this
    exact .inr ⟨j, ⟨y, (o.d j hj).trans e1⟩, (o.s j hj).trans e2⟩
end
/-! ### list comprehensions -/
abbrev CF := DEnv → HS → Res Bool
def dYes : CF := fun _ h => .ok true h
def lcLoop (t : TF) (fc : CF) (fe : EF) (δ0 : DEnv) : List PyData → List PyData → HS → Res (List PyData)
  | [], acc, h => .ok acc h
  | d :: ds, acc, h => match t d δ0 with
    | none => .no
    | some δ1 => (fc δ1 h).bind fun b h2 => if b then (fe δ1 h2).bind fun y h3 => lcLoop t fc fe δ0 ds (acc ++ [y]) h3 else lcLoop t fc fe δ0 ds acc h2
def dLc (vs : List Nat) (t : TF) (fi : IF) (fc : CF) (fe : EF) : EF := fun δ h => if vs.any (fun i => isO δ[i]?) then .no else (fi δ h).bind fun ds h1 =>
  if ds.length ≤ sizeLine then match lcLoop t fc fe (wipeD δ vs) ds [] h1 with
    | .ok acc h2 => .ok (.list acc) h2
    | _ => .no
  else .no
def WF : WX := fun _ _ _ _ => False
section
variable {T : List (Addr × Str)} {CL : Str → Option Addr} {W : WX} {X : Cx} {pos : Pos} {a b c tg iter elt : Expr} {fa fb fc : EF}
theorem ts_nil {W : WX} : PTs X [] (tT T CL W dYes) := ⟨fun pins s σ H Q I h => pts_nil.run pins s σ H Q I (by
  obtain ⟨am, Oc, B, δ, hs, x, q⟩ := h
  exact q H Eff.refl x.wd)⟩
theorem ts_one {W : WX} {tc : CF} (h : TD T CL W X c tc) : PTs X [c] (tT T CL W tc) := pts_one h
theorem lc_sound0 {wi : TI} {g : TG} {t : TF} {fi : IF} {tc : CF} {fe : EF} {vs L : List Nat} (gs : GS T L g t) (hL : ∀ j ∈ L, j ∈ vs) {am : Option Addr} {Oc : Addr → Prop} {B : Bs} {σ : L2.St} {H : Hp} {δ : DEnv} {h : HS} {Q : VK} (x : At T am Oc B σ H δ h)
    (ki : ∀ R : It → Hp → Prop, AftI T CL W am Oc σ δ H R (fi δ h) → wi σ H R) (q : Aft T CL W .N am (OO Oc σ δ) σ H Q (dLc vs t fi tc fe δ h)) : tLc wi g (tT T CL WF tc) (tE T CL WF .D fe) vs σ H Q := by
  unfold dLc at q
  by_cases hv : (vs.any fun i => isO δ[i]?) = true
  · rw [if_pos hv] at q; exact q.elim
  rw [if_neg hv] at q
  have hv : (vs.any fun i => isO δ[i]?) = false := by simpa using hv
  refine ki _ ?_
  revert q
  cases fi δ h with
  | no => exact id
  | exc e h1 => exact id
  | ok ds h1 =>
    intro q
    have q : Aft T CL W .N am (OO Oc σ δ) σ H Q (if ds.length ≤ sizeLine then match lcLoop t tc fe (wipeD δ vs) ds [] h1 with
      | .ok acc h2 => .ok (.list acc) h2
      | _ => .no
      else .no) := q
    by_cases hz' : ¬ ds.length ≤ sizeLine
    · rw [if_neg hz'] at q; exact q.elim
    have hz : ds.length ≤ sizeLine := Classical.not_not.mp hz'
    rw [if_pos hz] at q
    cases hl : lcLoop t tc fe (wipeD δ vs) ds [] h1 with
    | no => rw [hl] at q; exact q.elim
    | exc e h2 => rw [hl] at q; exact q.elim
    | ok accF hF =>
      rw [hl] at q
      intro J H1 e w wk D hD
      have x1 := x.eff' e w
      have y0 := (x1.anchor.growL (xs := []) hD).wipe vs
      have Dam : ∀ c, am = some c → D ≠ c := fun c hc z => by
        subst z
        obtain ⟨o, e1, _⟩ := x1.dom D (x1.amc D hc)
        rw [hD] at e1; cases e1
      refine ⟨fun i m H' => ∃ (h' : HS) (accV : List V) (accD : List PyData), At T am (fun b => Oc b ∨ b = D) (Bs.at σ δ H1) (L2.wipe σ vs) H' (wipeD δ vs) h' ∧ H' D = some (.lst accV) ∧ DtA (OO (fun b => Oc b ∨ b = D) (L2.wipe σ vs) (wipeD δ vs)) H' accV accD ∧ accV.length ≤ i ∧ m = ds.length - i ∧ i ≤ ds.length ∧ Eff am H1 H' ∧ lcLoop t tc fe (wipeD δ vs) (ds.drop i) accD h' = .ok accF hF,
        ⟨ds.length, h1, [], [], y0, upd_same, .nil, Nat.le_refl _, by simp, Nat.zero_le _, Eff.same (same_upd hD), by simpa using hl⟩, ?_⟩
      rintro i m H' ⟨h', accV, accD, y, hDv, ta, hlen, rfl, hle, ef, hl'⟩
      obtain ⟨k1, k2⟩ := wk (fun b => Oc b ∨ b = D) i _ H' _ h' (fun b z => z.imp id fun z => by subst z; exact hD) y
      by_cases hi : i < ds.length
      · obtain ⟨k1a, k1b⟩ := k1 ds[i] (by simp [hi])
        rw [List.drop_eq_getElem_cons hi] at hl'
        unfold lcLoop at hl'
        cases ht : t ds[i] (wipeD δ vs) with
        | none => rw [ht] at hl'; cases hl'
        | some δ1 =>
          rw [ht] at hl'
          simp only [] at hl'
          -- what a turn is to reach
          refine .inr ⟨k1a, fun H2 => ∃ (h' : HS) (accV : List V) (accD : List PyData), At T am (fun b => Oc b ∨ b = D) (Bs.at σ δ H1) (L2.wipe σ vs) H2 (wipeD δ vs) h' ∧ H2 D = some (.lst accV) ∧ DtA (OO (fun b => Oc b ∨ b = D) (L2.wipe σ vs) (wipeD δ vs)) H2 accV accD ∧ accV.length ≤ i + 1 ∧ Eff am H1 H2 ∧ lcLoop t tc fe (wipeD δ vs) (ds.drop (i + 1)) accD h' = .ok accF hF,
            fun H2 ⟨h2, aV, aD, z1, z2, z3, z4, z5, z6⟩ => ⟨ds.length - (i + 1), by omega, h2, aV, aD, z1, z2, z3, z4, rfl, hi, z5, z6⟩, fun v H2 yl => ?_⟩
          obtain ⟨s1, d1⟩ := k1b v H2 yl
          have y' := y.same s1
          have step : ∀ {Ha Hb : Hp}, Eff am Ha Hb → Ha D = some (.lst accV) → Hb D = some (.lst accV) := fun ef hh => ef D _ hh fun c hc => ⟨Dam c hc, fun z => z⟩
          have kpw : ∀ {Ha Hb : Hp}, Eff am Ha Hb → Kp (OO (fun b => Oc b ∨ b = D) (L2.wipe σ vs) (wipeD δ vs)) (OO (fun b => Oc b ∨ b = D) (L2.wipe σ vs) (wipeD δ vs)) Ha Hb := fun ef => Kp.eff0 ef y.amO
          refine gs am _ _ _ H2 _ h' v _ δ1 _ y' d1 ht fun σ3 y3 o3 on => ⟨wipe_only on hL, ?_⟩
          have oiff : ∀ b, OO (fun b => Oc b ∨ b = D) (L2.wipe σ vs) (wipeD δ vs) b → OO (fun b => Oc b ∨ b = D) σ3 δ1 b := fun b z => oo_only on hL z
          cases hc1 : tc δ1 h' with
          | no => rw [hc1] at hl'; cases hl'
          | exc ee he => rw [hc1] at hl'; cases hl'
          | ok b h2 =>
            rw [hc1] at hl'
            simp only [Res.bind] at hl'
            refine ⟨am, _, _, δ1, h', y3, ?_⟩
            rw [hc1]
            intro H3 e3 w3
            have back : ∀ {Hx : Hp} {hx : HS}, Wd T am (OO (fun b => Oc b ∨ b = D) σ3 δ1) Hx hx → Eff am H2 Hx → At T am (fun b => Oc b ∨ b = D) (Bs.at σ δ H1) (L2.wipe σ vs) Hx (wipeD δ vs) hx := fun {Hx hx} wx ex =>
              y'.eff' ex (wx.same (Same.refl _) (fun b _ _ _ z => oiff b z) y'.amO)
            have y4 := back w3 e3
            have e23 : Eff am H' H3 := (Eff.same s1).trans e3
            have hD3 := step e23 hDv
            have ta3 := ta.kp (kpw e23)
            cases b with
            | false =>
              simp only [Bool.false_eq_true, if_false] at hl' ⊢
              exact ⟨h2, accV, accD, y4, hD3, ta3, by omega, ef.trans e23, hl'⟩
            | true =>
              simp only [if_true] at hl' ⊢
              cases hf1 : fe δ1 h2 with
              | no => rw [hf1] at hl'; cases hl'
              | exc ee he => rw [hf1] at hl'; cases hl'
              | ok yd h3 =>
                rw [hf1] at hl'
                simp only [] at hl'
                refine ⟨am, _, _, δ1, h2, y3.eff' e3 w3, ?_⟩
                rw [hf1]
                intro vy H4 e4 r4
                have e34 : Eff am H2 H4 := e3.trans e4
                have e24 : Eff am H' H4 := (Eff.same s1).trans e34
                have y5 := back r4.1 e34
                have hD4 := step e24 hDv
                have ta4 := ta.kp (kpw e24)
                have dy : Dt (OO (fun b => Oc b ∨ b = D) (L2.wipe σ vs) (wipeD δ vs)) H4 vy yd := r4.2.kp ⟨fun _ _ _ _ r => r, fun _ _ _ r => r, fun b _ _ _ z => oiff b z⟩
                refine ⟨accV, hD4, by omega, h3, accV ++ [vy], accD ++ [yd], ?_, upd_same, ?_, by rw [List.length_append]; simp; omega, ?_, hl'⟩
                · exact y5.heldMut hD4 (fun z => z) (fun _ z => nomatch z) (.inr rfl) Dam hD
                · refine (ta4.append (.cons dy .nil)).kp ⟨fun b v hb _ r => ?_, fun b xs hb r => ?_, fun b _ _ _ z => z⟩
                  · have hne : b ≠ D := fun z => hb (z ▸ .inl (.inr rfl))
                    unfold Rd at r ⊢
                    rw [upd_ne hne]
                    exact r
                  · have hne : b ≠ D := fun z => hb (z ▸ .inl (.inr rfl))
                    rw [upd_ne hne]
                    exact r
                · exact fun b o hb hc => by
                    rw [upd_ne (ne_of_none hb hD)]
                    exact (ef.trans e24) b o hb hc
      · have : i = ds.length := by omega
        subst this
        refine .inl ⟨k2 rfl, ?_⟩
        rw [List.drop_length] at hl'
        unfold lcLoop at hl'
        cases hl'
        refine q _ H' (e.trans ef) (.inr ⟨D, rfl, (Fsh.ofNone x1 hD).back e, ?_, ?_⟩)
        · exact y.wd.same (Same.refl _) (fun b _ _ _ z => oo_grow.mpr z |> oo_wipe hv) fun c hc => .inl (x.amO c hc)
        · exact .lst hDv (ta.kp ⟨fun _ _ _ _ r => r, fun _ _ _ r => r, fun b _ _ _ z => oo_wipe hv (oo_grow.mpr z)⟩)
theorem lc_sound {wi : TI} {g : TG} {t : TF} {fi : IF} {tc : CF} {fe : EF} {vs L : List Nat} (gs : GS T L g t) (hL : ∀ j ∈ L, j ∈ vs)
    (ki : ∀ (am : Option Addr) (Oc : Addr → Prop) (B : Bs) (σ : L2.St) (H : Hp) (δ : DEnv) (h : HS) (R : It → Hp → Prop), At T am Oc B σ H δ h → AftI T CL W am Oc σ δ H R (fi δ h) → wi σ H R)
    {σ : L2.St} {H : Hp} {Q : VK} (q : tE T CL W .N (dLc vs t fi tc fe) σ H Q) : tLc wi g (tT T CL WF tc) (tE T CL WF .D fe) vs σ H Q := by
  obtain ⟨am, Oc, B, δ, h, x, q⟩ := of_tE q
  exact lc_sound0 gs hL x (fun R => ki am Oc B σ H δ h R x) q
theorem e_lc {ifs : List Expr} {scope : Scope} {own : List (Str × Nat)} {g : TG} {t : TF} {fi : IF} {tc : CF} {fe : EF} {L : List Nat} (hc : X.calm = true) (hN : X.N.Nodup) (hi : ID T CL W X tg iter fi) (ok : BlkOk X.N X.env.scope scope own)
    (hg : ∀ (s : Shared) (H : Hp) (C : Addr) (cl : List (Str × Addr)) (fp : List Addr), GD T (X.blk s H scope (compEnvC scope cl C X.env) fp) L tg g t) (ht : ∀ (s : Shared) (H : Hp) (C : Addr) (cl : List (Str × Addr)) (fp : List Addr), PTs (X.blk s H scope (compEnvC scope cl C X.env) fp) ifs (tT T CL WF tc))
    (he : ∀ (s : Shared) (H : Hp) (C : Addr) (cl : List (Str × Addr)) (fp : List Addr), ED T CL WF (X.blk s H scope (compEnvC scope cl C X.env) fp) .D elt fe) (hL : ∀ j ∈ L, j ∈ own.map (·.2) := by decide) (hs : ∀ x, foldedSetIterable iter X.env x = pure x := by intro _; rfl) :
    ED T CL W X .N (.ListComp elt [⟨tg, iter, ifs, 0⟩] scope pos) (dLc (own.map (·.2)) t fi tc fe) := ⟨fun pins s σ H Q I q => by
  obtain ⟨wi, pi, ki⟩ := hi
  exact (pe_lc hc hN pi ok (fun s H C cl fp => (hg s H C cl fp).1) ht he hs).run pins s σ H Q I (lc_sound (hg s H 0 [] []).2 hL ki q)⟩
/-- name = [..] on one line -/
theorem s_setLc {i : Nat} {y : Str} {py spos : Pos} {ifs : List Expr} {scope : Scope} {own : List (Str × Nat)} {g : TG} {t : TF} {fi : IF} {tc : CF} {fe : EF} {L : List Nat} (hc : X.calm = true) (hN : X.N.Nodup) (hy : X.N[i]? = some y) (hyl : X.env.scope.names.lookup y = some .local)
    (hsw : swapsWith (.ListComp elt [⟨tg, iter, ifs, 0⟩] scope pos) (some (.Name y py)) spos.line X.env = pure true) (hi : ID T CL W X tg iter fi) (ok : BlkOk X.N X.env.scope scope own)
    (hg : ∀ (s : Shared) (H : Hp) (C : Addr) (cl : List (Str × Addr)) (fp : List Addr), GD T (X.blk s H scope (compEnvC scope cl C X.env) fp) L tg g t) (ht : ∀ (s : Shared) (H : Hp) (C : Addr) (cl : List (Str × Addr)) (fp : List Addr), PTs (X.blk s H scope (compEnvC scope cl C X.env) fp) ifs (tT T CL WF tc))
    (he : ∀ (s : Shared) (H : Hp) (C : Addr) (cl : List (Str × Addr)) (fp : List Addr), ED T CL WF (X.blk s H scope (compEnvC scope cl C X.env) fp) .D elt fe) (hL : ∀ j ∈ L, j ∈ own.map (·.2) := by decide) (hs : ∀ x, foldedSetIterable iter X.env x = pure x := by intro _; rfl) :
    SD T CL W X (.Assign [.Name y py] (.ListComp elt [⟨tg, iter, ifs, 0⟩] scope pos) spos) (sSetO i (dLc (own.map (·.2)) t fi tc fe)) := ⟨fun pins s σ H D I q => by
  obtain ⟨wi, pi, ki⟩ := hi
  refine (ps_setLc hc hN hy hyl hsw pi ok (fun s H C cl fp => (hg s H C cl fp).1) ht he hs).run pins s σ H D I (lc_sound (hg s H 0 [] []).2 hL ki ?_)
  obtain ⟨am, Oc, B, δ, h, x, q⟩ := q
  refine tE_of x (AftS.bindE x q fun d h1 v1 H1 x1 e1 r1 q1 => ?_)
  rcases r1 with ⟨w, r, o⟩ | ⟨p, rfl, fs, w, o⟩
  · unfold mkO at q1
    rw [o, if_neg Bool.false_ne_true] at q1
    exact q1 _ _ (x1.put (fun _ z => nomatch z) ⟨v1, rfl, r⟩)
  · have ow : ownable d = true := by cases o <;> rfl
    unfold mkO at q1
    rw [if_pos ow] at q1
    exact q1 _ _ (x.own e1 fs w o)⟩
end
end DL
/-! The data layer, part 12: several values at once, changes of what is one's own. -/
namespace DL
open PySem PySem.Spec PyProof.Rows L2
section
variable {T : List (Addr × Str)} {am : Option Addr} {Oc : Addr → Prop} {B : Bs} {H H' : Hp} {σ : L2.St} {δ : DEnv} {h h' : HS}
/-- a held thing goes to a name -/
theorem At.take {a : Addr} {d : PyData} {i : Nat} {Oc' : Addr → Prop} (x : At T am Oc' B σ H δ h) (h1 : ∀ b, Oc' b → Oc b ∨ b = a) (h2 : ∀ b, Oc b → Oc' b) (ha : ¬ Oc a) (hm : ∀ c, am = some c → Oc c) (ham : ∀ c, am = some c → a ≠ c) (hO : Oc' a) (hB : B.N a ∨ ∀ o, B.H a = some o → ¬ ∀ c, am = some c → a ≠ c ∧ ¬ isTb o)
    (o : Oo (OO Oc' σ δ) H a d) : At T am Oc B (σ.set i (some (.ref a))) H (δ.set i (.o d)) h := by
  have hO' : ∀ b, OO Oc (σ.set i (some (.ref a))) (δ.set i (.o d)) b → OO Oc' σ δ b := fun b z => by
    rcases z with z | ⟨j, z⟩
    · exact .inl (h2 b z)
    · rcases own_set z with ⟨_, _, e⟩ | ⟨_, z⟩
      · cases e; exact .inl hO
      · exact .inr ⟨j, z⟩
  have k1 : Kp (OO Oc' σ δ) (OO Oc (σ.set i (some (.ref a))) (δ.set i (.o d))) H H := ⟨fun _ _ _ _ r => r, fun _ _ _ r => r, fun b _ _ _ z => hO' b z⟩
  have nOa : ∀ j b, OwnAt σ δ j b → b ≠ a := fun j b z q => x.ownc j b z (q ▸ hO)
  refine ⟨by rw [List.length_set, List.length_set, x.len], fun b hb => x.dom b (h2 b hb), x.wd.same (Same.refl H) (fun b _ _ _ z => hO' b z) (fun c hc => .inl (hm c hc)), hm, fun j y hy => ?_, fun p q b z1 z2 => ?_, fun p b z => ?_, fun p b z => ?_, x.eff⟩
  · by_cases ej : j = i
    · subst ej
      obtain ⟨hl, e1⟩ := List.getElem?_eq_some_iff.mp hy
      rw [List.getElem_set_self] at e1
      subst e1
      rw [List.length_set] at hl
      rw [List.getElem?_set_self (by rw [x.len]; exact hl)]
      exact ⟨a, rfl, o.kp k1 fun _ q _ => q⟩
    · rw [List.getElem?_set_ne (Ne.symm ej)] at hy ⊢
      have z := x.sl j y hy
      cases y with
      | no => trivial
      | d y => obtain ⟨v, e1, e2⟩ := z; exact ⟨v, e1, e2.kp k1⟩
      | o y => obtain ⟨b, e1, e2⟩ := z; exact ⟨b, e1, e2.kp k1 fun _ q _ => q⟩
      | am => exact z
      | raw _ _ => exact z
  · rcases own_set z1 with ⟨p1, _, e1⟩ | ⟨p1, z1⟩
    · rcases own_set z2 with ⟨p2, _, _⟩ | ⟨_, z2⟩
      · rw [p1, p2]
      · cases e1; exact absurd rfl (nOa _ _ z2)
    · rcases own_set z2 with ⟨_, _, e2⟩ | ⟨_, z2⟩
      · cases e2; exact absurd rfl (nOa _ _ z1)
      · exact x.ownd p q b z1 z2
  · rcases own_set z with ⟨_, _, e1⟩ | ⟨_, z⟩
    · cases e1; exact ha
    · exact fun q => x.ownc p b z (h2 b q)
  · rcases own_set z with ⟨_, _, e1⟩ | ⟨_, z⟩
    · cases e1; exact hB
    · exact x.new p b z
end
/-- values that wait for their names: plain ones, and new ones that are held (their addresses are L) -/
inductive GL (am : Option Addr) (Oc : Addr → Prop) (B : Bs) (OT : Addr → Prop) (H : Hp) : List Addr → List V → List SV → Prop
  | nil : GL am Oc B OT H [] [] []
  | pl {L : List Addr} {v : V} {vs : List V} {d : PyData} {ds : List SV} : Dt OT H v d → GL am Oc B OT H L vs ds → GL am Oc B OT H L (v :: vs) (.d d :: ds)
  | ow {L : List Addr} {a : Addr} {vs : List V} {d : PyData} {ds : List SV} : a ∉ L → ¬ Oc a → (∀ c, am = some c → a ≠ c) → (B.N a ∨ ∀ o, B.H a = some o → ¬ ∀ c, am = some c → a ≠ c ∧ ¬ isTb o) → Oo OT H a d → GL am Oc B OT H L vs ds → GL am Oc B OT H (a :: L) (.ref a :: vs) (.o d :: ds)
theorem GL.kp {am : Option Addr} {Oc : Addr → Prop} {B : Bs} {OT OT' : Addr → Prop} {H H' : Hp} (k : Kp OT OT' H H') (e : ∀ a o, (∀ c, am = some c → a ≠ c) → H a = some o → ¬ isTb o → H' a = some o) {L : List Addr} {vs : List V} {ds : List SV} (g : GL am Oc B OT H L vs ds) : GL am Oc B OT' H' L vs ds := by
  induction g with
  | nil => exact .nil
  | pl a b ih => exact .pl (a.kp k) ih
  | ow h1 h2 h3 h4 h5 h6 ih => exact .ow h1 h2 h3 h4 (h5.kp k fun o q t => e _ o h3 q t) ih
def setAll : List Nat → List SV → DEnv → DEnv
  | i :: is, d :: ds, δ => setAll is ds (δ.set i d)
  | _, _, δ => δ
def setAllV : List Nat → List V → L2.St → L2.St
  | i :: is, v :: vs, σ => setAllV is vs (σ.set i (some v))
  | _, _, σ => σ
theorem GL.fin {T : List (Addr × Str)} {am : Option Addr} {Oc : Addr → Prop} {B : Bs} {H : Hp} {h : HS} {OT : Addr → Prop} (hm : ∀ c, am = some c → Oc c) : ∀ {is : List Nat} {L : List Addr} {vs : List V} {ds : List SV} {σ : L2.St} {δ : DEnv}, is.length = vs.length → (∀ b, OO (fun b => Oc b ∨ b ∈ L) σ δ b → OT b) → At T am (fun b => Oc b ∨ b ∈ L) B σ H δ h → GL am Oc B OT H L vs ds →
    At T am Oc B (setAllV is vs σ) H (setAll is ds δ) h
  | [], L, vs, ds, σ, δ, hl, hO, x, g => by
    cases g with
    | nil =>
      have e : (fun b => Oc b ∨ b ∈ ([] : List Addr)) = Oc := by funext b; simp
      rw [e] at x
      exact x
    | pl _ _ => simp at hl
    | ow _ _ _ _ _ _ => simp at hl
  | i :: is, L, vs, ds, σ, δ, hl, hO, x, g => by
    cases g with
    | nil => simp at hl
    | @pl L v vs d ds a b =>
      have y := x.put (i := i) (v := some v) (s := .d d) (fun _ z => nomatch z) ⟨v, rfl, a.kp ⟨fun _ _ _ _ r => r, fun _ _ _ r => r, fun b _ _ _ z => hO b z⟩⟩
      exact GL.fin (is := is) (L := L) (vs := vs) (ds := ds) hm (by simpa using hl) (fun b z => hO b (oo_put (s := .d d) (fun _ z => by cases z) b z)) y b
    | @ow L a vs d ds h1 h2 h3 h4 h5 h6 =>
      have y := x.take (Oc := fun b => Oc b ∨ b ∈ L) (a := a) (d := d) (i := i) (fun b z => by
          rcases z with z | z
          · exact .inl (.inl z)
          · rcases List.mem_cons.mp z with z | z
            · exact .inr z
            · exact .inl (.inr z)) (fun b z => z.imp id fun z => List.mem_cons_of_mem _ z) (fun z => z.elim h2 h1) (fun c hc => .inl (hm c hc)) h3 (.inr List.mem_cons_self) h4 (h5.kp ⟨fun _ _ _ _ r => r, fun _ _ _ r => r, fun b _ _ _ z => hO b z⟩ fun _ q _ => q)
      refine GL.fin (is := is) (L := L) (vs := vs) (ds := ds) hm (by simpa using hl) (fun b z => hO b ?_) y h6
      rcases z with z | ⟨j, z⟩
      · exact .inl (z.imp id fun z => List.mem_cons_of_mem _ z)
      · rcases own_set z with ⟨_, _, e⟩ | ⟨_, z⟩
        · cases e; exact .inl (.inr List.mem_cons_self)
        · exact .inr ⟨j, z⟩
def mkB (b : Bool) (d : PyData) : SV := match b with
  | true => mkO d
  | false => .d d
/-- a list of values, each plain (false) or new (true) -/
def dGs : List (Bool × EF) → DEnv → HS → Res (List SV)
  | [], _, h => .ok [] h
  | (b, f) :: fs, δ, h => (f δ h).bind fun d h1 => (dGs fs δ h1).op fun ds => some (mkB b d :: ds)
section
variable {T : List (Addr × Str)} {CL : Str → Option Addr} {W : WX} {X : Cx} {pos : Pos} {a b c tg : Expr} {fa fb fc : EF} {st : Stmt} {rest : List Stmt} {f g : SF}
def tG (T : List (Addr × Str)) (CL : Str → Option Addr) (W : WX) (fs : List (Bool × EF)) : TA := fun σ H Q => ∃ am Oc B δ h, At T am Oc B σ H δ h ∧ match dGs fs δ h with
  | .ok ds h' => ∀ vs H' L, At T am (fun b => Oc b ∨ b ∈ L) B σ H' δ h' → Eff am H H' → (∀ a ∈ L, Fsh am H a) → GL am Oc B (OO (fun b => Oc b ∨ b ∈ L) σ δ) H' L vs ds → Q vs H'
  | .exc x h' => ∀ cls dd H', At T am Oc B σ H' δ h' → XR CL x cls dd H' → W cls dd σ H'
  | .no => False
abbrev ADg (T : List (Addr × Str)) (CL : Str → Option Addr) (W : WX) (X : Cx) (es : List Expr) (fs : List (Bool × EF)) : Prop := PA X es (tG T CL W fs)
/-- what is held on to is let go -/
theorem At.drop {am : Option Addr} {Oc Oc' : Addr → Prop} {B : Bs} {H : Hp} {σ : L2.St} {δ : DEnv} {h : HS} (x : At T am Oc' B σ H δ h) (h2 : ∀ b, Oc b → Oc' b) (hm : ∀ c, am = some c → Oc c) : At T am Oc B σ H δ h := by
  have k1 : Kp (OO Oc' σ δ) (OO Oc σ δ) H H := ⟨fun _ _ _ _ r => r, fun _ _ _ r => r, fun b _ _ _ z => z.imp (h2 b) id⟩
  refine ⟨x.len, fun b hb => x.dom b (h2 b hb), x.wd.same (Same.refl H) (fun b _ _ _ z => z.imp (h2 b) id) (fun c hc => .inl (hm c hc)), hm, fun j y hy => ?_, x.ownd, fun p b z q => x.ownc p b z (h2 b q), x.new, x.eff⟩
  have z := x.sl j y hy
  cases y with
  | no => trivial
  | d y => obtain ⟨v, e1, e2⟩ := z; exact ⟨v, e1, e2.kp k1⟩
  | o y => obtain ⟨b, e1, e2⟩ := z; exact ⟨b, e1, e2.kp k1 fun _ q _ => q⟩
  | am => exact z
  | raw _ _ => exact z
theorem ag_nil : ADg T CL W X [] [] := PA.imp pa_nil fun σ H Q ⟨am, Oc, B, δ, h, x, q⟩ => q [] H [] (by
  have e : (fun b => Oc b ∨ b ∈ ([] : List Addr)) = Oc := by funext b; simp
  rw [e]; exact x) Eff.refl (fun _ z => by simp at z) .nil
theorem ag_d {es : List Expr} {fs : List (Bool × EF)} (ha : ED T CL W X .D a fa) (hb : ADg T CL W X es fs) (hs : starEach (a :: es) X.env = (false, eval a X.env) :: starEach es X.env := by rfl) : ADg T CL W X (a :: es) ((false, fa) :: fs) :=
  PA.imp (pa_cons ha hb hs) fun σ H Q ⟨am, Oc, B, δ, h, x, q⟩ => by
    refine tE_of x ?_
    revert q
    unfold dGs
    cases fa δ h with
    | no => exact id
    | exc e h1 => exact fun q cls dd H' ef w z => q cls dd H' (x.eff' ef w) z
    | ok d h1 =>
      intro q v1 H1 e1 r1
      have x1 := x.eff' e1 r1.1
      refine ⟨am, Oc, B, δ, h1, x1, ?_⟩
      revert q
      simp only [Res.bind]
      cases dGs fs δ h1 with
      | no => exact id
      | exc e h2 => exact id
      | ok ds h2 =>
        intro q vs H2 L x2 e2 fr gl
        refine q (v1 :: vs) H2 L x2 (e1.trans e2) (fun a ha => (fr a ha).back e1) (.pl (r1.2.kp (Kp.eff e2 x1.amO fun b o hb t z => ?_)) gl)
        rcases z with (z | z) | z
        · exact .inl z
        · exact absurd ((fr b z).nt hb) t
        · exact .inr z
theorem GL.weak {am : Option Addr} {Oc Oc' : Addr → Prop} {B : Bs} {OT : Addr → Prop} {H : Hp} (h : ∀ b, Oc b → Oc' b) {L : List Addr} {vs : List V} {ds : List SV} (g : GL am Oc' B OT H L vs ds) : GL am Oc B OT H L vs ds := by
  induction g with
  | nil => exact .nil
  | pl a b ih => exact .pl a ih
  | ow h1 h2 h3 h4 h5 h6 ih => exact .ow h1 (fun z => h2 (h _ z)) h3 h4 h5 ih
theorem At.newB {am : Option Addr} {Oc : Addr → Prop} {B : Bs} {H : Hp} {σ : L2.St} {δ : DEnv} {h : HS} (x : At T am Oc B σ H δ h) {a : Addr} (f : Fsh am H a) : B.N a ∨ ∀ o, B.H a = some o → ¬ ∀ c, am = some c → a ≠ c ∧ ¬ isTb o := by
  by_cases hn : B.N a
  · exact .inl hn
  refine .inr fun u q q2 => ?_
  have z := x.eff a u q hn q2
  cases am with
  | none => rw [f.1 rfl] at z; cases z
  | some c => exact (q2 c rfl).2 (f.nt z)
theorem ag_o {es : List Expr} {fs : List (Bool × EF)} (ha : ED T CL W X .N a fa) (hb : ADg T CL W X es fs) (hs : starEach (a :: es) X.env = (false, eval a X.env) :: starEach es X.env := by rfl) : ADg T CL W X (a :: es) ((true, fa) :: fs) :=
  PA.imp (pa_cons ha hb hs) fun σ H Q ⟨am, Oc, B, δ, h, x, q⟩ => by
    refine tE_of x ?_
    revert q
    unfold dGs
    cases fa δ h with
    | no => exact id
    | exc e h1 => exact fun q cls dd H' ef w z => q cls dd H' (x.eff' ef w) z
    | ok d h1 =>
      intro q v1 H1 e1 r1
      rcases r1 with ⟨w, r, o⟩ | ⟨p, rfl, f1, w, o⟩
      · have x1 := x.eff' e1 w
        refine ⟨am, Oc, B, δ, h1, x1, ?_⟩
        revert q
        simp only [Res.bind]
        cases dGs fs δ h1 with
        | no => exact id
        | exc e h2 => exact id
        | ok ds h2 =>
          intro q vs H2 L x2 e2 fr gl
          refine q (v1 :: vs) H2 L x2 (e1.trans e2) (fun a ha => (fr a ha).back e1) ?_
          have em : mkB true d = SV.d d := by unfold mkB mkO; rw [o, if_neg Bool.false_ne_true]
          rw [em]
          refine .pl (r.kp (Kp.eff e2 x1.amO fun b o hb t z => ?_)) gl
          rcases z with (z | z) | z
          · exact .inl z
          · exact absurd ((fr b z).nt hb) t
          · exact .inr z
      · have ow : ownable d = true := by cases o <;> rfl
        have x1 := x.grow e1 f1 w o.some
        have pam : ∀ c, am = some c → p ≠ c := fun c hc => (f1.2 c hc).1
        refine ⟨am, _, B, δ, h1, x1, ?_⟩
        revert q
        simp only [Res.bind]
        cases dGs fs δ h1 with
        | no => exact id
        | exc e h2 => exact fun q cls dd H' y z => q cls dd H' (y.drop (fun b z => .inl z) x.amc) z
        | ok ds h2 =>
          intro q vs H2 L x2 e2 fr gl
          have eset : (fun b => (Oc b ∨ b = p) ∨ b ∈ L) = fun b => Oc b ∨ b ∈ p :: L := by
            funext b
            simp only [List.mem_cons, or_assoc]
          rw [eset] at x2 gl
          have hp : p ∉ L := fun z => by
            obtain ⟨u, e, t⟩ := o.some
            exact t ((fr p z).nt e)
          have hpo : ¬ Oc p := fun z => by
            obtain ⟨u, e, t⟩ := x.dom p z
            exact t (f1.nt e)
          refine q (.ref p :: vs) H2 (p :: L) x2 (e1.trans e2) (fun a ha => ?_) ?_
          · rcases List.mem_cons.mp ha with rfl | ha
            · exact f1
            · exact (fr a ha).back e1
          · have em : mkB true d = SV.o d := by unfold mkB mkO; rw [if_pos ow]
            rw [em]
            refine .ow hp hpo pam (x.newB f1) ?_ (gl.weak fun b z => .inl z)
            refine o.kp (Kp.eff e2 (fun c hc => .inl (x.amO c hc)) fun b u hb t z => ?_) fun u hu t => e2 p u hu fun c hc => ⟨pam c hc, t⟩
            rcases z with (z | z) | z
            · exact .inl (.inl z)
            · rcases List.mem_cons.mp z with z | z
              · exact .inr z
              · exact absurd ((fr b z).nt hb) t
            · exact .inl (.inr z)
def sMul (is : List Nat) (fs : List (Bool × EF)) : SF := fun δ h => (dGs fs δ h).to δ fun ds h1 => if is.length = ds.length then .nx (setAll is ds δ) h1 else .no
theorem GL.len {am : Option Addr} {Oc : Addr → Prop} {B : Bs} {OT : Addr → Prop} {H : Hp} {L : List Addr} {vs : List V} {ds : List SV} (g : GL am Oc B OT H L vs ds) : vs.length = ds.length := by
  induction g with
  | nil => rfl
  | pl a b ih => simp [ih]
  | ow h1 h2 h3 h4 h5 h6 ih => simp [ih]
theorem mul_sound {is : List Nat} {fs : List (Bool × EF)} {D : Ends} {σ : L2.St} {H : Hp} (q : tS T CL W (sMul is fs) D σ H) : tG T CL W fs σ H fun vs H1 => is.length = vs.length ∧ D.nx (setAllV is vs σ) H1 := by
  obtain ⟨am, Oc, B, δ, h, x, q⟩ := q
  refine ⟨am, Oc, B, δ, h, x, ?_⟩
  unfold sMul at q
  revert q
  cases dGs fs δ h with
  | no => exact id
  | exc e h1 => exact fun q cls dd H' y z => q cls dd σ H' y z
  | ok ds h1 =>
    intro q vs H1 L x1 e1 fr gl
    simp only [Res.to] at q
    by_cases hl : is.length = ds.length
    · rw [if_pos hl] at q
      have hl' : is.length = vs.length := by rw [hl, gl.len]
      exact ⟨hl', q _ _ (gl.fin x.amc hl' (fun _ z => z) x1)⟩
    · rw [if_neg hl] at q; exact q.elim
/-- a, b = x, y -/
theorem s_par {i j : Nat} {x y : Str} {b1 b2 : Bool} {px py pt : Pos} {kt k2 pt2} (hc : X.calm = true) (hN : X.N.Nodup) (hi : X.N[i]? = some x) (hj : X.N[j]? = some y) (hij : i ≠ j)
    (hx : X.env.scope.names.lookup x = some .local) (hy : X.env.scope.names.lookup y = some .local) (ha : ADg T CL W X [a, b] [(b1, fa), (b2, fb)])
    (hw : swappedStores [.Tuple [.Name x px, .Name y py] kt pt] (.Tuple [a, b] k2 pt2) X.env = pure (some [x, y]))
    (hs : swapsWithSole [.Tuple [.Name x px, .Name y py] kt pt] (.Tuple [a, b] k2 pt2) pos.line X.env = pure false := by rfl) :
    SD T CL W X (.Assign [.Tuple [.Name x px, .Name y py] kt pt] (.Tuple [a, b] k2 pt2) pos) (sMul [i, j] [(b1, fa), (b2, fb)]) := PS.imp (ps_par hc hN hi hj hij hx hy ha hw hs) fun D σ H q => by
  obtain ⟨am, Oc, B, δ, h, x, q⟩ := mul_sound q
  refine ⟨am, Oc, B, δ, h, x, ?_⟩
  revert q
  cases dGs [(b1, fa), (b2, fb)] δ h with
  | no => exact id
  | exc e h1 => exact id
  | ok ds h1 =>
    intro q vs H1 L x1 e1 fr gl
    obtain ⟨l, q⟩ := q vs H1 L x1 e1 fr gl
    match vs, l with
    | [v, w], _ => exact ⟨v, w, rfl, q⟩
end
end DL
/-! The data layer, part 13: changes of lists. -/
namespace DL
open PySem PySem.Spec PyProof.Rows L2
abbrev MF := DEnv → HS → Res (PyData × DEnv)
def tM (T : List (Addr × Str)) (CL : Str → Option Addr) (W : WX) (f : MF) : TE := fun σ H Q => ∃ am Oc B δ h, At T am Oc B σ H δ h ∧ match f δ h with
  | .ok p h' => ∀ v H', At T am Oc B σ H' p.2 h' → Dt (OO Oc σ p.2) H' v p.1 → Q v H'
  | .exc x h' => ∀ cls dd H', At T am Oc B σ H' δ h' → XR CL x cls dd H' → W cls dd σ H'
  | .no => False
abbrev MD (T : List (Addr × Str)) (CL : Str → Option Addr) (W : WX) (X : Cx) (e : Expr) (f : MF) : Prop := PE X e (tM T CL W f)
def MutR0 (gm : List PyData → Option (PyData × List PyData)) (r : V → List V → Hp → VK → Prop) : Prop :=
  ∀ (OT : Addr → Prop) (H : Hp) (l : Addr) (xs : List V) (ds : List PyData) (d' : PyData) (ds' : List PyData) (Q : VK), H l = some (.lst xs) → DtA OT H xs ds → gm ds = some (d', ds') → (∀ v' xs', DtA OT H xs' ds' → Dt OT H v' d' → Q v' (upd H l (.lst xs'))) → r (.ref l) [] H Q
def MutR1 (gm : List PyData → PyData → Option (PyData × List PyData)) (r : V → List V → Hp → VK → Prop) : Prop :=
  ∀ (OT : Addr → Prop) (H : Hp) (l : Addr) (xs : List V) (ds : List PyData) (v : V) (d d' : PyData) (ds' : List PyData) (Q : VK), H l = some (.lst xs) → DtA OT H xs ds → Dt OT H v d → gm ds d = some (d', ds') → (∀ v' xs', DtA OT H xs' ds' → Dt OT H v' d' → Q v' (upd H l (.lst xs'))) → r (.ref l) [v] H Q
def MutR2 (gm : List PyData → PyData → PyData → Option (PyData × List PyData)) (r : V → List V → Hp → VK → Prop) : Prop :=
  ∀ (OT : Addr → Prop) (H : Hp) (l : Addr) (xs : List V) (ds : List PyData) (v w : V) (d e d' : PyData) (ds' : List PyData) (Q : VK), H l = some (.lst xs) → DtA OT H xs ds → Dt OT H v d → Dt OT H w e → gm ds d e = some (d', ds') → (∀ v' xs', DtA OT H xs' ds' → Dt OT H v' d' → Q v' (upd H l (.lst xs'))) → r (.ref l) [v, w] H Q
def ownL (δ : DEnv) (i : Nat) : Option (List PyData) := match δ[i]? with
  | some (.o (.list ds)) => some ds
  | _ => none
theorem ownL_eq {δ : DEnv} {i : Nat} {ds : List PyData} (h : ownL δ i = some ds) : δ[i]? = some (.o (.list ds)) := by
  unfold ownL at h
  split at h
  · rename_i e; cases h; exact e
  · cases h
def mMeth0 (i : Nat) (gm : List PyData → Option (PyData × List PyData)) : MF := fun δ h => match (ownL δ i).bind gm with
  | some (d, ds) => .ok (d, δ.set i (.o (.list ds))) h
  | none => .no
def mMeth1 (i : Nat) (gm : List PyData → PyData → Option (PyData × List PyData)) (fa : MF) : MF := fun δ h => match ownL δ i with
  | none => .no
  | some _ => (fa δ h).op fun p => ((ownL p.2 i).bind fun es => gm es p.1).map fun q => (q.1, p.2.set i (.o (.list q.2)))
def mMeth2 (i : Nat) (gm : List PyData → PyData → PyData → Option (PyData × List PyData)) (fa fb : EF) : MF := fun δ h => match ownL δ i with
  | none => .no
  | some ds => (fa δ h).bind fun d h1 => (fb δ h1).op fun e => (gm ds d e).map fun q => (q.1, δ.set i (.o (.list q.2)))
section
variable {T : List (Addr × Str)} {CL : Str → Option Addr} {W : WX} {X : Cx} {pos : Pos} {a b c tg : Expr} {fa fb fc : EF} {ma mb : MF} {st : Stmt} {rest : List Stmt} {f g : SF}
theorem At.ownI {am : Option Addr} {Oc : Addr → Prop} {B : Bs} {H : Hp} {σ : L2.St} {δ : DEnv} {h : HS} (x : At T am Oc B σ H δ h) {i : Nat} {ds : List PyData} (e : ownL δ i = some ds) : ∃ a xs, σ[i]? = some (some (.ref a)) ∧ H a = some (.lst xs) ∧ DtA (OO Oc σ δ) H xs ds := by
  obtain ⟨a, e1, o⟩ := x.sl i _ (ownL_eq e)
  cases o with
  | lst h1 h2 => exact ⟨a, _, e1, h1, h2⟩
/-- the list at slot i becomes xs', a value stays clean -/
theorem At.mutL {am : Option Addr} {Oc : Addr → Prop} {B : Bs} {H : Hp} {σ : L2.St} {δ : DEnv} {h : HS} (x : At T am Oc B σ H δ h) {i : Nat} {ds ds' : List PyData} {a : Addr} {xs' : List V} (e : ownL δ i = some ds) (ea : σ[i]? = some (some (.ref a))) (t : DtA (OO Oc σ δ) H xs' ds') :
    At T am Oc B σ (upd H a (.lst xs')) (δ.set i (.o (.list ds'))) h ∧ ∀ v d, Dt (OO Oc σ δ) H v d → Dt (OO Oc σ (δ.set i (.o (.list ds')))) (upd H a (.lst xs')) v d := by
  have hi := ownL_eq e
  have hai : OwnAt σ δ i a := ⟨⟨_, hi⟩, ea⟩
  have hil : i < δ.length := (List.getElem?_eq_some_iff.mp hi).1
  have k0 : Kp (OO Oc σ δ) (OO Oc σ δ) H (upd H a (.lst xs')) := ⟨fun b v hb _ r => by
    have hne : b ≠ a := fun z => hb (z ▸ .inr ⟨i, hai⟩)
    unfold Rd at r ⊢
    rw [upd_ne hne]
    exact r, fun b xs hb r => by
    have hne : b ≠ a := fun z => hb (z ▸ .inr ⟨i, hai⟩)
    rw [upd_ne hne]
    exact r, fun b _ _ _ z => z⟩
  refine ⟨x.mut hi ea (fun z => z) (.lst upd_same (t.kp k0)), fun v d dv => (dv.kp k0).kp ⟨fun _ _ _ _ r => r, fun _ _ _ r => r, fun b _ _ _ z => ?_⟩⟩
  rcases z with z | ⟨j, ⟨y, e1⟩, e2⟩
  · exact .inl z
  · refine .inr ⟨j, ?_, e2⟩
    by_cases ej : j = i
    · subst ej; exact ⟨_, hi⟩
    · rw [List.getElem?_set_ne (Ne.symm ej)] at e1; exact ⟨y, e1⟩
theorem m_of (ha : ED T CL W X .D a fa) : MD T CL W X a (fun δ h => (fa δ h).op fun d => some (d, δ)) := PE.imp ha fun σ H Q ⟨am, Oc, B, δ, h, x, q⟩ => by
  refine tE_of x ?_
  revert q
  simp only []
  cases fa δ h with
  | no => exact id
  | exc e h1 => exact fun q cls dd H' ef w z => q cls dd H' (x.eff' ef w) z
  | ok d h1 => exact fun q v H1 e1 r1 => q v H1 (x.eff' e1 r1.1) r1.2
theorem m_meth0 {i : Nat} {x name : Str} {id : String} {r : V → List V → Hp → VK → Prop} {gm : List PyData → Option (PyData × List PyData)} {px apos cpos : Pos} (slot : Slot "list" name id) (hty : typeOf (.builtin id) = pure (.type "method_descriptor")) (hm : MtR X id r) (u : MutR0 gm r) (hx : PE X (.Name x px) (tVar i))
    (hbase : attributeBase (.Name x px) name X.env (eval (.Name x px) X.env) = eval (.Name x px) X.env := by rfl) (hline : (apos.endLine == cpos.line) = true := by rfl) :
    MD T CL W X (.Call (.Attribute (.Name x px) name apos) [] [] cpos) (mMeth0 i gm) := PE.imp (pe_bm0 PySem.F.plainAttrs_list slot hty hm hx hbase hline) fun σ H Q ⟨am, Oc, B, δ, h, x, q⟩ => by
  unfold mMeth0 at q
  cases ho : ownL δ i with
  | none => rw [ho] at q; exact q.elim
  | some ds =>
    rw [ho] at q
    simp only [Option.bind] at q
    cases hg : gm ds with
    | none => rw [hg] at q; exact q.elim
    | some p =>
      obtain ⟨d', ds'⟩ := p
      rw [hg] at q
      obtain ⟨a, xs, e1, e2, t⟩ := x.ownI ho
      refine ⟨.ref a, e1, .inl ⟨rfl, xs, SqL.of e2⟩, u _ H a xs ds d' ds' Q e2 t hg fun v' xs' t' dv => ?_⟩
      obtain ⟨y, k⟩ := x.mutL ho e1 t'
      exact q v' _ y (k _ _ dv)
theorem m_meth1 {i : Nat} {x name : Str} {id : String} {r : V → List V → Hp → VK → Prop} {gm : List PyData → PyData → Option (PyData × List PyData)} {px apos cpos : Pos} (slot : Slot "list" name id) (hty : typeOf (.builtin id) = pure (.type "method_descriptor")) (hm : MtR X id r) (u : MutR1 gm r) (hx : PE X (.Name x px) (tVar i)) (ha : MD T CL W X a ma)
    (hbase : attributeBase (.Name x px) name X.env (eval (.Name x px) X.env) = eval (.Name x px) X.env := by rfl)
    (hfew : ((backTo cpos (starEach [a] X.env)).all (fun x => !x.1) && (backToKw cpos (keywordEach [] X.env)).all (fun x => x.1.isSome)
      && decide ([a].length + ([] : List Keyword).length + (if ([] : List Keyword).isEmpty then 0 else 1) < 30)) = true := by rfl)
    (hline : (apos.endLine == cpos.line) = true := by rfl) (hs : starEach [a] X.env = (false, eval a X.env) :: starEach [] X.env := by rfl) (hplain : (backTo cpos (starEach [] X.env)).any (·.1) = false := by rfl) :
    MD T CL W X (.Call (.Attribute (.Name x px) name apos) [a] [] cpos) (mMeth1 i gm ma) := PE.imp (pe_bm PySem.F.plainAttrs_list slot hty hm hx (pa_cons ha pa_nil hs) hbase hfew hline hs hplain) fun σ H Q ⟨am, Oc, B, δ, h, x, q⟩ => by
  unfold mMeth1 at q
  cases ho : ownL δ i with
  | none => rw [ho] at q; exact q.elim
  | some ds0 =>
    rw [ho] at q
    obtain ⟨a, xs, e1, e2, t⟩ := x.ownI ho
    refine ⟨.ref a, e1, .inl ⟨rfl, xs, SqL.of e2⟩, am, Oc, B, δ, h, x, ?_⟩
    revert q
    simp only []
    cases ma δ h with
    | no => exact fun z => z
    | exc e h1 => exact fun z => z
    | ok p h1 =>
      obtain ⟨d, δ1⟩ := p
      intro q v H1 x1 dv
      simp only [Res.op] at q
      cases ho1 : ownL δ1 i with
      | none => rw [ho1] at q; exact q.elim
      | some ds =>
        rw [ho1] at q
        simp only [Option.bind] at q
        cases hg : gm ds d with
        | none => rw [hg] at q; exact q.elim
        | some p =>
          obtain ⟨d', ds'⟩ := p
          rw [hg] at q
          obtain ⟨a', xs1, f1, f2, t1⟩ := x1.ownI ho1
          rw [e1] at f1
          cases f1
          refine u _ H1 a xs1 ds v d d' ds' Q f2 t1 dv hg fun v' xs' t' dv' => ?_
          obtain ⟨y, k⟩ := x1.mutL ho1 e1 t'
          exact q v' _ y (k _ _ dv')
theorem m_meth2 {i : Nat} {x name : Str} {id : String} {r : V → List V → Hp → VK → Prop} {gm : List PyData → PyData → PyData → Option (PyData × List PyData)} {px apos cpos : Pos} (slot : Slot "list" name id) (hty : typeOf (.builtin id) = pure (.type "method_descriptor")) (hm : MtR X id r) (u : MutR2 gm r) (hx : PE X (.Name x px) (tVar i)) (ha : ED T CL W X .D a fa) (hb : ED T CL W X .D b fb)
    (hbase : attributeBase (.Name x px) name X.env (eval (.Name x px) X.env) = eval (.Name x px) X.env := by rfl)
    (hfew : ((backTo cpos (starEach [a, b] X.env)).all (fun x => !x.1) && (backToKw cpos (keywordEach [] X.env)).all (fun x => x.1.isSome)
      && decide ([a, b].length + ([] : List Keyword).length + (if ([] : List Keyword).isEmpty then 0 else 1) < 30)) = true := by rfl)
    (hline : (apos.endLine == cpos.line) = true := by rfl) (hs : starEach [a, b] X.env = (false, eval a X.env) :: starEach [b] X.env := by rfl) (hs2 : starEach [b] X.env = (false, eval b X.env) :: starEach [] X.env := by rfl) (hplain : (backTo cpos (starEach [b] X.env)).any (·.1) = false := by rfl) :
    MD T CL W X (.Call (.Attribute (.Name x px) name apos) [a, b] [] cpos) (mMeth2 i gm fa fb) := PE.imp (pe_bm PySem.F.plainAttrs_list slot hty hm hx (pa_cons ha (pa_cons hb pa_nil hs2) hs) hbase hfew hline hs hplain) fun σ H Q ⟨am, Oc, B, δ, h, x, q⟩ => by
  unfold mMeth2 at q
  cases ho : ownL δ i with
  | none => rw [ho] at q; exact q.elim
  | some ds =>
    rw [ho] at q
    obtain ⟨a, xs, e1, e2, t⟩ := x.ownI ho
    refine ⟨.ref a, e1, .inl ⟨rfl, xs, SqL.of e2⟩, tE_of x ?_⟩
    revert q
    simp only []
    cases fa δ h with
    | no => exact fun z => z
    | exc e h1 => exact fun q cls dd H' ef w z => q cls dd H' (x.eff' ef w) z
    | ok d h1 =>
      intro q v H1 ef1 r1
      have x1 := x.eff' ef1 r1.1
      refine tE_of x1 ?_
      revert q
      simp only [Res.bind]
      cases fb δ h1 with
      | no => exact fun z => z
      | exc e h2 => exact fun q cls dd H' ef w z => q cls dd H' (x1.eff' ef w) z
      | ok e h2 =>
        intro q w H2 ef2 r2
        have x2 := x1.eff' ef2 r2.1
        simp only [Res.op] at q
        cases hg : gm ds d e with
        | none => rw [hg] at q; exact q.elim
        | some p =>
          obtain ⟨d', ds'⟩ := p
          rw [hg] at q
          obtain ⟨a', xs1, f1, f2, t1⟩ := x2.ownI ho
          rw [e1] at f1
          cases f1
          refine u _ H2 a xs1 ds v w d e d' ds' Q f2 t1 (r1.2.kp (Kp.eff0 ef2 x1.amO)) r2.2 hg fun v' xs' t' dv' => ?_
          obtain ⟨y, k⟩ := x2.mutL ho e1 t'
          exact q v' _ y (k _ _ dv')
/-! ### the methods -/
def gApp (ds : List PyData) (d : PyData) : Option (PyData × List PyData) := if ds.length < sizeLine then some (.none, ds ++ [d]) else none
theorem mut_append : MutR1 gApp rAppend := fun OT H l xs ds v d d' ds' Q hl t dv hg q => by
  simp only [gApp, Option.ite_none_right_eq_some, Option.some.injEq, Prod.mk.injEq] at hg
  obtain ⟨hz, rfl, rfl⟩ := hg
  exact ⟨l, xs, v, rfl, rfl, hl, by rw [t.length]; exact hz, q .non _ (t.append (.cons dv .nil)) .non⟩
def gExt (ds : List PyData) (d : PyData) : Option (PyData × List PyData) := match d with
  | .list es => if ds.length + es.length ≤ sizeLine then some (.none, ds ++ es) else none
  | _ => none
theorem mut_extend : MutR1 gExt rExtend := fun OT H l xs ds v d d' ds' Q hl t dv hg q => by
  cases d with
  | list es =>
    simp only [gExt, Option.ite_none_right_eq_some, Option.some.injEq, Prod.mk.injEq] at hg
    obtain ⟨hz, rfl, rfl⟩ := hg
    cases dv with
    | lst r n t2 => exact ⟨l, _, xs, _, rfl, rfl, hl, r, by rw [t.length, t2.length]; exact hz, q .non _ (t.append t2) .non⟩
  | _ => cases hg
theorem DtA.dropLast {O : Addr → Prop} {H : Hp} {xs : List V} {ds : List PyData} (t : DtA O H xs ds) : DtA O H xs.dropLast ds.dropLast := by
  rw [List.dropLast_eq_take, List.dropLast_eq_take, t.length]
  exact t.take _
theorem DtA.erase {O : Addr → Prop} {H : Hp} {xs : List V} {ds : List PyData} (t : DtA O H xs ds) (k : Nat) : DtA O H (xs.eraseIdx k) (ds.eraseIdx k) := by
  rw [List.eraseIdx_eq_take_drop_succ, List.eraseIdx_eq_take_drop_succ]
  exact (t.take k).append (t.drop (k + 1))
def gPop (ds : List PyData) : Option (PyData × List PyData) := (ds[ds.length - 1]?).map fun d => (d, ds.dropLast)
theorem mut_pop : MutR0 gPop rPop := fun OT H l xs ds d' ds' Q hl t hg q => by
  obtain ⟨d, e1, e2⟩ := Option.map_eq_some_iff.mp hg
  cases e2
  obtain ⟨v, f1, f2⟩ := t.get e1
  exact ⟨l, xs, v, rfl, rfl, hl, by rw [t.length]; exact f1, q v _ t.dropLast f2⟩
def gPopAt (ds : List PyData) (d : PyData) : Option (PyData × List PyData) := match d with
  | .int i => if -(2 ^ 63) ≤ i ∧ i < 2 ^ 63 then (seqIndex? i ds.length).bind fun k => (ds[k]?).map fun d => (d, ds.eraseIdx k) else none
  | _ => none
theorem mut_popAt : MutR1 gPopAt rPopAt := fun OT H l xs ds v d d' ds' Q hl t dv hg q => by
  cases d with
  | int i =>
    cases dv
    unfold gPopAt at hg
    simp only [Option.ite_none_right_eq_some] at hg
    obtain ⟨⟨h1, h2⟩, hg⟩ := hg
    obtain ⟨k, hk, hg⟩ := Option.bind_eq_some_iff.mp hg
    obtain ⟨d, e1, e2⟩ := Option.map_eq_some_iff.mp hg
    cases e2
    obtain ⟨v, f1, f2⟩ := t.get e1
    exact ⟨l, xs, i, k, v, rfl, rfl, hl, h1, h2, by rw [t.length]; exact hk, f1, q v _ (t.erase k) f2⟩
  | _ => cases hg
def gRevM (ds : List PyData) : Option (PyData × List PyData) := some (.none, ds.reverse)
theorem mut_reverse : MutR0 gRevM rReverse := fun OT H l xs ds d' ds' Q hl t hg q => by
  cases hg
  exact ⟨l, xs, rfl, rfl, hl, q .non _ t.rev .non⟩
def gIns (ds : List PyData) (i d : PyData) : Option (PyData × List PyData) := match i with
  | .int i => if ds.length < sizeLine ∧ 0 ≤ i ∧ i < 2 ^ 63 then some (.none, ds.take i.toNat ++ [d] ++ ds.drop i.toNat) else none
  | _ => none
theorem mut_insert : MutR2 gIns (fun x vs H Q => ∃ (l : Addr) (xs : List V) (i : Int) (y : V), x = .ref l ∧ vs = [.int i, y] ∧ H l = some (.lst xs) ∧ xs.length < sizeLine ∧ 0 ≤ i ∧ i < 2 ^ 63 ∧
    Q .non (upd H l (.lst (xs.take i.toNat ++ [y] ++ xs.drop i.toNat)))) := fun OT H l xs ds v w d e d' ds' Q hl t dv dw hg q => by
  cases d with
  | int i =>
    cases dv
    simp only [gIns, Option.ite_none_right_eq_some, Option.some.injEq, Prod.mk.injEq] at hg
    obtain ⟨⟨h1, h2, h3⟩, rfl, rfl⟩ := hg
    exact ⟨l, xs, i, w, rfl, rfl, hl, by rw [t.length]; exact h1, h2, h3, q .non _ (((t.take _).append (.cons dw .nil)).append (t.drop _)) .non⟩
  | _ => cases hg
/-! ### in statements -/
def sDropM (f : MF) : SF := fun δ h => (f δ h).to δ fun p h1 => .nx p.2 h1
theorem s_dropM (ha : MD T CL W X a ma) (hs : swapsWith a none pos.line X.env = pure false := by rfl) : SD T CL W X (.Expr a pos) (sDropM ma) := PS.imp (ps_expr ha hs) fun D σ H ⟨am, Oc, B, δ, h, x, q⟩ => by
  refine ⟨am, Oc, B, δ, h, x, ?_⟩
  unfold sDropM at q
  revert q
  cases ma δ h with
  | no => exact id
  | exc e h1 => exact fun q cls dd H' y z => q cls dd σ H' y z
  | ok p h1 => exact fun q v H1 y _ => q σ H1 y
def sSetM (i : Nat) (f : MF) : SF := fun δ h => (f δ h).to δ fun p h1 => .nx (p.2.set i (.d p.1)) h1
theorem s_setM {i : Nat} {x : Str} {pos' : Pos} (hN : X.N.Nodup) (hi : X.N[i]? = some x) (hx : Loc X.env.scope x) (ha : MD T CL W X a ma) (hs : swapsWith a (some (.Name x pos')) pos.line X.env = pure false := by rfl) (hf : X.fn x = true ∨ X.env.scope.names.lookup x = some .local := by first | exact .inl rfl | exact .inr rfl | assumption) :
    SD T CL W X (.Assign [.Name x pos'] a pos) (sSetM i ma) := PS.imp (ps_set hN hi hx ha hs hf) fun D σ H ⟨am, Oc, B, δ, h, x, q⟩ => by
  refine ⟨am, Oc, B, δ, h, x, ?_⟩
  unfold sSetM at q
  revert q
  cases ma δ h with
  | no => exact id
  | exc e h1 => exact fun q cls dd H' y z => q cls dd σ H' y z
  | ok p h1 => exact fun q v H1 y dv => q _ _ (y.put (fun _ z => nomatch z) ⟨v, rfl, dv⟩)
def sAsgM (t : TF) (f : MF) : SF := fun δ h => (f δ h).to δ fun p h1 => match t p.1 p.2 with
  | some δ' => .nx δ' h1
  | none => .no
theorem s_asgM {gg : TG} {t : TF} {L : List Nat} (ha : MD T CL W X a ma) (hg : GD T X L tg gg t) (hs : swapsWithSole [tg] a pos.line X.env = pure false := by rfl) (hw : swappedStores [tg] a X.env = pure none := by rfl)
    (h1 : (assignEach [tg] X.env).map (·.2) = [assign tg X.env] := by rfl) : SD T CL W X (.Assign [tg] a pos) (sAsgM t ma) := by
  obtain ⟨p, k⟩ := hg
  refine PS.imp (ps_asg ha p hs hw h1) fun D σ H ⟨am, Oc, B, δ, h, x, q⟩ => ?_
  refine ⟨am, Oc, B, δ, h, x, ?_⟩
  unfold sAsgM at q
  revert q
  cases ma δ h with
  | no => exact id
  | exc e h1 => exact fun q cls dd H' y z => q cls dd σ H' y z
  | ok p h1 =>
    intro q v H1 y dv
    simp only [Res.to] at q
    cases ht : t p.1 p.2 with
    | none => rw [ht] at q; exact q.elim
    | some δ' =>
      rw [ht] at q
      exact k am Oc B σ H1 p.2 h1 v p.1 δ' D.nx y dv ht fun σ' x' _ _ => q σ' H1 x'
/-! ### x[i] = e -/
def asI : PyData → Option Int
  | .int i => some i
  | _ => none
theorem asI_eq {d : PyData} {i : Int} (h : asI d = some i) : d = .int i := by
  cases d with
  | int j => cases h; rfl
  | _ => cases h
def sStore (j : Nat) (fi fe : EF) : SF := fun δ h => (fe δ h).to δ fun d h1 => match δ[j]? with
  | some (.o (.list ds)) => (fi δ h1).to δ fun di h2 => match (asI di).bind (ixN ds.length) with
    | some n => .nx (δ.set j (.o (.list (ds.set n d)))) h2
    | none => .no
  | some .am => (fi δ h1).to δ fun di h2 => match (asI di).bind (ixN h2.length) with
    | some n => .nx δ (h2.set n d)
    | none => .no
  | _ => .no
theorem s_store {j : Nat} {x : Str} {px spos : Pos} (hx : PE X (.Name x px) (tVar j)) (hi : ED T CL W X .L b fb) (ha : ED T CL W X .D a fa) (hs : swapsWithSole [.Subscript (.Name x px) b spos] a pos.line X.env = pure false := by rfl) (hw : swappedStores [.Subscript (.Name x px) b spos] a X.env = pure none := by rfl)
    (h1 : (assignEach [.Subscript (.Name x px) b spos] X.env).map (·.2) = [assign (.Subscript (.Name x px) b spos) X.env] := by rfl)
    (hsub : ∀ v, assign (.Subscript (.Name x px) b spos) X.env v = (do
      let ov ← holding [v] (eval (.Name x px) X.env)
      let iv ← holding [v, ov] (eval b X.env)
      standAt spos
      holding [v, ov, iv] (setItem ov iv v)
      release [v, ov, iv] []) := by intro _; rfl) : SD T CL W X (.Assign [.Subscript (.Name x px) b spos] a pos) (sStore j fb fa) := PS.imp (ps_asg ha (pg_sub hx hi set_list hsub) hs hw h1) fun D σ H ⟨am, Oc, B, δ, h, x, q⟩ => by
  refine tE_of x (AftS.bindE x q fun d h1 v1 H1 x1 e1 r1 q1 => ?_)
  split at q1
  · rename_i ds eq
    have ho : ownL δ j = some ds := by unfold ownL; rw [eq]
    obtain ⟨a, xs, f1, f2, t⟩ := x1.ownI ho
    refine ⟨.ref a, f1, tE_of x1 (AftS.bindE x1 q1 fun di h2 v2 H2 x2 e2 r2 q2 => ?_)⟩
    split at q2
    · rename_i n hn
      obtain ⟨k, hk, hn⟩ := Option.bind_eq_some_iff.mp hn
      have hk := asI_eq hk
      subst hk
      obtain ⟨a', xs', g1, g2, t2⟩ := x2.ownI ho
      rw [f1] at g1
      cases g1
      have dv : Dt (OO Oc σ δ) H2 v1 d := r1.2.kp (Kp.eff0 e2 x1.amO)
      refine ⟨a, xs', k, n, rfl, r2.2.int, g2, by rw [t2.length]; exact hn, ?_⟩
      obtain ⟨y, _⟩ := x2.mutL ho f1 (t2.set dv)
      exact q2 σ _ y
    · exact q2.elim
  · rename_i eq
    obtain ⟨a, ea, f1⟩ := x1.sl j _ eq
    subst ea
    refine ⟨.ref a, f1, tE_of x1 (AftS.bindE x1 q1 fun di h2 v2 H2 x2 e2 r2 q2 => ?_)⟩
    split at q2
    · rename_i n hn
      obtain ⟨k, hk, hn⟩ := Option.bind_eq_some_iff.mp hn
      have hk := asI_eq hk
      subst hk
      have dv : Dt (OO Oc σ δ) H2 v1 d := r1.2.kp (Kp.eff0 e2 x1.amO)
      obtain ⟨w1, ⟨us, w2, w3⟩, w4⟩ := x2.wd a rfl
      refine ⟨a, us, k, n, rfl, r2.2.int, w2, by rw [w3.length]; exact hn, q2 σ _ ?_⟩
      have k0 : Kp (OO Oc σ δ) (OO Oc σ δ) H2 (upd H2 a (.lst (us.set n v1))) := ⟨fun b v hb _ r => by
        have hne : b ≠ a := fun z => hb (z ▸ w1)
        unfold Rd at r ⊢
        rw [upd_ne hne]
        exact r, fun b xs hb r => by
        have hne : b ≠ a := fun z => hb (z ▸ w1)
        rw [upd_ne hne]
        exact r, fun b _ _ _ z => z⟩
      refine x2.eff' (fun b o hb hc => by rw [upd_ne (hc a rfl).1]; exact hb) fun c hc => ?_
      cases hc
      exact ⟨w1, ⟨_, upd_same, (w3.set dv).kp k0⟩, tabs_upd w4 w2 (fun z => z) (fun _ z => nomatch z)⟩
    · exact q2.elim
  · exact q1.elim
/-! ### what is one's own, as data for a while -/
def thw : SV → SV
  | .o x => .d x
  | .am => .no
  | s => s
def scal : PyData → Bool
  | .list _ => false
  | .tuple _ => false
  | .dict _ => false
  | _ => true
theorem scal_dt {O O' : Addr → Prop} {H H' : Hp} {v : V} {d : PyData} (h : Dt O H v d) (s : scal d = true) : Dt O' H' v d := by
  cases h with
  | non => exact .non
  | bl b => exact .bl b
  | int i => exact .int i
  | str x a b => exact .str x a b
  | _ => cases s
def dThaw (f : EF) : EF := fun δ h => match f (δ.map thw) [] with
  | .ok d _ => if scal d then .ok d h else .no
  | .exc x _ => .exc x h
  | .no => .no
theorem At.noAm {am : Option Addr} {Oc : Addr → Prop} {B : Bs} {H : Hp} {σ : L2.St} {δ : DEnv} {h : HS} (x : At T am Oc B σ H δ h) : At T none Oc (Bs.at σ δ H) σ H (δ.map thw) [] := by
  have y := x.frzA
  have hno : ∀ i a, ¬ OwnAt σ (δ.map thw) i a := fun i a ⟨⟨z, e⟩, _⟩ => by
    rw [List.getElem?_map] at e
    obtain ⟨s, _, e⟩ := Option.map_eq_some_iff.mp e
    cases s <;> cases e
  have hO : ∀ b, OO Oc σ (δ.map thw) b → OO Oc σ (δ.map frz) b := fun b z => z.elim .inl fun ⟨i, z⟩ => absurd z (hno i b)
  refine ⟨by rw [List.length_map]; exact x.len, x.dom, Wd.none, (fun _ z => nomatch z), fun i s hs => ?_, fun i j a z => absurd z (hno i a), fun i a z => absurd z (hno i a), fun i a z => absurd z (hno i a), fun b o e _ _ => e⟩
  rw [List.getElem?_map] at hs
  obtain ⟨s0, e0, rfl⟩ := Option.map_eq_some_iff.mp hs
  have z := y.sl i (frz s0) (by rw [List.getElem?_map, e0]; rfl)
  have k : Kp (OO Oc σ (δ.map frz)) (OO Oc σ (δ.map thw)) H H := ⟨fun _ _ _ _ r => r, fun _ _ _ r => r, fun b _ _ _ z => hO b z⟩
  cases s0 with
  | no => trivial
  | am => trivial
  | raw _ _ => exact z
  | d y => obtain ⟨v, e1, e2⟩ := z; exact ⟨v, e1, e2.kp k⟩
  | o y => obtain ⟨v, e1, e2⟩ := z; exact ⟨v, e1, e2.kp k⟩
theorem e_thaw {k : RK} (ha : ED T CL W X k a fa) (hk : k ≠ .L := by intro h; cases h) : ED T CL W X .N a (dThaw fa) := by
  have ha : ED T CL W X .D a fa := by
    cases k with
    | D => exact ha
    | L => exact absurd rfl hk
    | N => exact ha.n_d
  refine PE.imp ha fun σ H Q q => ?_
  obtain ⟨am, Oc, B, δ, h, x, q⟩ := of_tE q
  refine tE_of x.noAm ?_
  unfold dThaw at q
  revert q
  cases fa (δ.map thw) [] with
  | no => exact id
  | exc e h1 => exact fun q cls dd H' ef w z => q cls dd H' (Eff.same ef.of_none) (x.same ef.of_none).wd z
  | ok d h1 =>
    intro q v H1 ef r
    simp only [] at q
    by_cases hs : scal d = true
    · rw [if_pos hs] at q
      have x1 := x.same ef.of_none
      exact q v H1 (Eff.same ef.of_none) (.inl ⟨x1.wd, scal_dt r.2 hs, by cases d <;> first | rfl | cases hs⟩)
    · rw [if_neg hs] at q; exact q.elim
end
end DL
/-! The data layer: join, count, index. -/
namespace DL
open PySem PySem.Spec PyProof.Rows L2
def joinFit (a : Str) (ys : List Str) : Bool := decide ((ys.map (·.length)).sum + ys.length * a.length ≤ 16777216)
theorem glued_ok {a : Str} {ys : List Str} (ha : PyData.strOk a = true) (hy : ∀ y ∈ ys, PyData.strOk y = true) : PyData.strOk (Builtin.Str.glued a ys) = true := by
  have fold : ∀ (l : List Str) (acc : Array Nat), acc.all (fun c => decide (c < 0x110000)) = true → (∀ y ∈ l, PyData.strOk y = true) → (l.foldl (fun acc p => acc ++ a.cps ++ p.cps) acc).all (fun c => decide (c < 0x110000)) = true := by
    intro l
    induction l with
    | nil => intro acc h _; exact h
    | cons y l ih =>
      intro acc h hl
      rw [List.foldl_cons]
      refine ih _ ?_ fun z hz => hl z (List.mem_cons_of_mem _ hz)
      rw [Array.all_append, Array.all_append, h]
      have h1 : a.cps.all (fun c => decide (c < 0x110000)) = true := ha
      have h2 : y.cps.all (fun c => decide (c < 0x110000)) = true := hl y List.mem_cons_self
      rw [h1, h2]; rfl
  unfold Builtin.Str.glued
  refine fold _ _ ?_ fun y hy' => hy y (List.mem_of_mem_drop hy')
  cases ys with
  | nil => simp [Str.empty]
  | cons y r => exact hy y List.mem_cons_self
theorem join_ok {a : Str} {ys : List Str} (ha : PyData.strOk a = true) (hy : ∀ y ∈ ys, PyData.strOk y = true) (hf : joinFit a ys = true) : (Txt.join a ys).length ≤ sizeLine ∧ PyData.strOk (Txt.join a ys) = true := by
  have h := joinOk_of (of_decide_eq_true hf)
  unfold JoinOk at h
  rw [Bool.not_eq_true'] at h
  exact ⟨joinFit_length h, glued_ok ha hy⟩
def gJoin : PyData → PyData → Option PyData
  | .str a, .list ds => (asStrs ds).bind fun ys => if joinFit a ys then some (.str (Txt.join a ys)) else none
  | .str a, .tuple ds => (asStrs ds).bind fun ys => if joinFit a ys then some (.str (Txt.join a ys)) else none
  | _, _ => none
section
variable {T : List (Addr × Str)} {CL : Str → Option Addr} {W : WX} {X : Cx} {pos : Pos} {a b c o e : Expr} {fa fb fc : EF}
def isStrD : PyData → Bool
  | .str _ => true
  | _ => false
def isLstD : PyData → Bool
  | .list _ => true
  | _ => false
def dBinP (p : PyData → Bool) (g : PyData → PyData → Option PyData) (fa fb : EF) : EF := fun δ h => (fa δ h).bind fun a h1 => if p a then (fb δ h1).op (g a) else .no
def dUnP (p : PyData → Bool) (g : PyData → Option PyData) (fa : EF) : EF := fun δ h => (fa δ h).op fun d => if p d then g d else none
def Tys (K : PySem.W.Frag) (p : PyData → Bool) (Tn : String) : Prop := ∀ am O H v d, Lt am O H v d → p d = true → tyV K Tn v H
theorem tys_str {K : PySem.W.Frag} : Tys K isStrD "str" := fun am O H v d l hp => by
  cases d with
  | str x => rw [l.str.1]; exact rfl
  | _ => cases hp
theorem tys_lst {K : PySem.W.Frag} : Tys K isLstD "list" := fun am O H v d l hp => by
  cases d with
  | list x => obtain ⟨p, xs, rfl, r, t⟩ := l.list; exact .inl ⟨rfl, xs, SqL.of r⟩
  | _ => cases hp
theorem e_meth1 {k : RK} {Tn : String} {name : Str} {id : String} {p : PyData → Bool} {r : V → List V → Hp → VK → Prop} {g : PyData → PyData → Option PyData} {apos cpos : Pos} (pa : PlainAttrs Tn) (ty : Tys X.K p Tn) (slot : Slot Tn name id) (hty : typeOf (.builtin id) = pure (.type "method_descriptor")) (hm : MtR X id r) (u : VB T k g (fun x y H Q => r x [y] H Q))
    (ho : ED T CL W X .L o fa) (ha : ED T CL W X .L e fb) (hbase : attributeBase o name X.env (eval o X.env) = eval o X.env := by rfl)
    (hfew : ((backTo cpos (starEach [e] X.env)).all (fun x => !x.1) && (backToKw cpos (keywordEach [] X.env)).all (fun x => x.1.isSome)
      && decide ([e].length + ([] : List Keyword).length + (if ([] : List Keyword).isEmpty then 0 else 1) < 30)) = true := by rfl)
    (hline : (apos.endLine == cpos.line) = true := by rfl) (hs : starEach [e] X.env = (false, eval e X.env) :: starEach [] X.env := by rfl) (hplain : (backTo cpos (starEach [] X.env)).any (·.1) = false := by rfl) :
    ED T CL W X k (.Call (.Attribute o name apos) [e] [] cpos) (dBinP p g fa fb) := PE.imp (pe_bm pa slot hty hm ho (pa_cons ha pa_nil hs) hbase hfew hline hs hplain) fun σ H Q q => by
  obtain ⟨am, Oc, B, δ, h, x, q⟩ := of_tE q
  unfold dBinP at q
  refine tE_of x (Aft.bind x q fun d1 h1 v1 H1 x1 e1 r1 q1 => ?_)
  by_cases hp : p d1 = true
  · rw [if_pos hp] at q1
    refine ⟨ty _ _ _ _ _ r1.2 hp, tE_of x1 ?_⟩
    rw [res_op_eq] at q1
    refine Aft.bind x1 q1 fun d2 h2 v2 H2 x2 e2 r2 q2 => ?_
    cases hg : g d1 d2 with
    | none => rw [hg] at q2; exact q2.elim
    | some d3 =>
      rw [hg] at q2
      exact u am _ H2 h2 v1 v2 d1 d2 d3 Q x2.domO x2.amO r2.1 (r1.2.kp e2 x2.amO) r2.2 hg fun v' H' s r => q2 v' H' (Eff.same s) r
  · rw [if_neg hp] at q1; exact q1.elim
theorem e_meth0 {k : RK} {Tn : String} {name : Str} {id : String} {p : PyData → Bool} {r : V → List V → Hp → VK → Prop} {g : PyData → Option PyData} {apos cpos : Pos} (pa : PlainAttrs Tn) (ty : Tys X.K p Tn) (slot : Slot Tn name id) (hty : typeOf (.builtin id) = pure (.type "method_descriptor")) (hm : MtR X id r) (u : VU T k g (fun x H Q => r x [] H Q))
    (ho : ED T CL W X .L o fa) (hbase : attributeBase o name X.env (eval o X.env) = eval o X.env := by rfl) (hline : (apos.endLine == cpos.line) = true := by rfl) :
    ED T CL W X k (.Call (.Attribute o name apos) [] [] cpos) (dUnP p g fa) := PE.imp (pe_bm0 pa slot hty hm ho hbase hline) fun σ H Q q => by
  obtain ⟨am, Oc, B, δ, h, x, q⟩ := of_tE q
  unfold dUnP at q
  rw [res_op_eq] at q
  refine tE_of x (Aft.bind x q fun d1 h1 v1 H1 x1 e1 r1 q1 => ?_)
  by_cases hp : p d1 = true
  · rw [if_pos hp] at q1
    refine ⟨ty _ _ _ _ _ r1.2 hp, ?_⟩
    cases hg : g d1 with
    | none => rw [hg] at q1; exact q1.elim
    | some d3 =>
      rw [hg] at q1
      exact u am _ H1 h1 v1 d1 d3 Q x1.domO x1.amO r1.1 r1.2 hg fun v' H' s r => q1 v' H' (Eff.same s) r
  · rw [if_neg hp] at q1; exact q1.elim
theorem vb_join : VB T .N gJoin (fun x y H Q => ∃ a p, ∃ ys : List Str, x = .str a ∧ [y] = [V.ref p] ∧ (SqL X.K H p (ys.map V.str) ∨ SqT X.K H p (ys.map V.str)) ∧
    (ys.map (·.length)).sum + ys.length * a.length ≤ 16777216 ∧ Q (.str (Txt.join a ys)) H) := fun am O H h v w d e d' Q dm ha wd lv lw hg q => by
  cases d with
  | str a =>
    obtain ⟨rfl, za, oa⟩ := lv.str
    cases e with
    | list ds =>
      obtain ⟨ys, h1, h2⟩ := Option.bind_eq_some_iff.mp hg
      simp only [Option.ite_none_right_eq_some, Option.some.injEq] at h2
      obtain ⟨hf, rfl⟩ := h2
      obtain ⟨p, xs, rfl, r, t⟩ := lw.list
      rw [asStrs_eq h1] at t
      obtain ⟨rfl, k⟩ := t.strs
      obtain ⟨j1, j2⟩ := join_ok oa (fun y hy => (k y hy).2) hf
      exact ⟨a, p, ys, rfl, rfl, .inl (SqL.of r), of_decide_eq_true hf, fin_sc wd (.str _ j1 j2) rfl q⟩
    | tuple ds =>
      obtain ⟨ys, h1, h2⟩ := Option.bind_eq_some_iff.mp hg
      simp only [Option.ite_none_right_eq_some, Option.some.injEq] at h2
      obtain ⟨hf, rfl⟩ := h2
      obtain ⟨p, xs, rfl, r, t, _⟩ := lw.tup
      rw [asStrs_eq h1] at t
      obtain ⟨rfl, k⟩ := t.strs
      obtain ⟨j1, j2⟩ := join_ok oa (fun y hy => (k y hy).2) hf
      exact ⟨a, p, ys, rfl, rfl, .inr (.inl r), of_decide_eq_true hf, fin_sc wd (.str _ j1 j2) rfl q⟩
    | _ => cases hg
  | _ => cases hg
/-- sep.join(xs) -/
theorem e_join {apos cpos : Pos} (ho : ED T CL W X .L o fa) (ha : ED T CL W X .L e fb) (hbase : attributeBase o "join" X.env (eval o X.env) = eval o X.env := by rfl)
    (hfew : ((backTo cpos (starEach [e] X.env)).all (fun x => !x.1) && (backToKw cpos (keywordEach [] X.env)).all (fun x => x.1.isSome)
      && decide ([e].length + ([] : List Keyword).length + (if ([] : List Keyword).isEmpty then 0 else 1) < 30)) = true := by rfl)
    (hline : (apos.endLine == cpos.line) = true := by rfl) (hs : starEach [e] X.env = (false, eval e X.env) :: starEach [] X.env := by rfl) (hplain : (backTo cpos (starEach [] X.env)).any (·.1) = false := by rfl) :
    ED T CL W X .N (.Call (.Attribute o "join" apos) [e] [] cpos) (dBinP isStrD gJoin fa fb) := e_meth1 PySem.F.plainAttrs_str tys_str PySem.F.slot_str_join PySem.F.type_str_join mt_join vb_join ho ha hbase hfew hline hs hplain
/-! ### sep.join(reversed(xs)), xs a list -/
theorem join_rev {prog : Program} {w : World} {A : Around} {E : Value → Shared → Prop} {s : Shared} {x : Str} {t : Tok} {it l : Addr} {items : Array Value} {ys : List Str} {Q : Value → Shared → Prop} (hh : A.handled = none) (hit : s.heap.IsRevIter it l ((items.size : Int) - 1)) (hl : s.heap.IsList l items) (hne : l ≠ it) (hn : items.size ≤ sizeLine)
    (hP : StrsAre items.toList ys) (hok : joinFit x ys.reverse = true) (hq : ∀ h' t' k, (∀ b o, b ≠ it → s.heap.get? b = some o → h'.get? b = some o) → Q (.str (Txt.join x ys.reverse) t') { s with heap := h', toks := k }) :
    wpAny (model prog w) A (call (.builtin "str.join") [.str x t, .ref it]) Q E s := by
  refine wpAny_call (codeAny_call_builtin F.slot_str_join.plain F.entry_str_join (F.slot_str_join.check _ _ _ _ _ _ _ _ (typeIs_str _ _ _) (F.args_str_join_2 _ _) ?_))
  rw [join_tree_other]
  refine wpAny_bind (wpAny_typeOf hit.typeIs ?_)
  show wpAny _ A.in1 ((pyIter (.ref it)).tryCatch _ >>= fun it => collect it >>= fun items => joinTail x items) _ _ s
  refine wpAny_bind (wpAny_tryCatch (wpAny_pyIter_revIter hit ?_))
  refine wpAny_bind (RT.collect_rev (show A.in1.handled = none from hh) hit hl hne hn fun h' tk acc hk hi => ?_)
  have hacc : acc.toList = items.toList.reverse := by
    apply List.ext_getElem?
    intro j
    have hs : acc.toList.length = items.toList.length := by rw [Array.length_toList, hi.1, Array.length_toList]
    by_cases hj : j < items.toList.length
    · have hja : j < acc.toList.length := by omega
      have e1 : acc.toList[j]? = some acc.toList[j] := List.getElem?_eq_getElem hja
      have e2 : items[items.size - 1 - j]? = some acc.toList[j] := hi.2 j _ (by rw [← Array.getElem?_toList]; exact e1)
      rw [e1, List.getElem?_reverse hj, ← e2, Array.length_toList, Array.getElem?_toList]
    · rw [List.getElem?_eq_none (by omega), List.getElem?_eq_none (by rw [List.length_reverse]; omega)]
  have hP2 : StrsAre acc.toList ys.reverse := by
    rw [hacc]
    have : ∀ {vs : List Value} {zs : List Str}, StrsAre vs zs → StrsAre vs.reverse zs.reverse := by
      intro vs zs h
      have app : ∀ {as bs : List Value} {xs ys : List Str}, StrsAre as xs → StrsAre bs ys → StrsAre (as ++ bs) (xs ++ ys) := by
        intro as bs xs ys h1 h2
        induction h1 with
        | nil => exact h2
        | cons y t r ih => exact .cons y t ih
      induction h with
      | nil => exact .nil
      | cons y t r ih => rw [List.reverse_cons, List.reverse_cons]; exact app ih (.cons y t .nil)
    exact this hP
  obtain ⟨l2, hl2, ht⟩ := strsAre_values hP2
  rw [hl2]
  have hok' := joinOk_of (of_decide_eq_true hok)
  unfold JoinOk at hok'
  rw [Bool.not_eq_true'] at hok'
  rw [← ht] at hok' hq
  have g : Gives (joinTail x (strValues l2)) (joinMade x l2) := by
    have g0 := gives_joinTail x l2 hok'
    cases l2 with
    | nil => exact g0
    | cons p r => cases r with
      | nil => exact g0
      | cons q r' => exact g0
  exact g prog w A (wants Q E) _ (post_join l2 ⟨joinFit_length hok', fun t' k => hq h' t' k hk⟩)
def tJR (K : PySem.W.Frag) (to te : TE) : TE := fun σ H Q => to σ H fun x H1 => (∃ a, x = V.str a) ∧ te σ H1 fun v H2 => ∃ (a : Str) (q : Addr) (ys : List Str), x = .str a ∧ v = .ref q ∧ SqL K H2 q (ys.map V.str) ∧ joinFit a ys.reverse = true ∧ Q (.str (Txt.join a ys.reverse)) H2
theorem pe_joinRev {to te : TE} {apos p pos2 : Pos} (hc : X.calm = true) (ho : PE X o to) (hg : Gl X "reversed") (hm : X.mg "reversed" = none) (he : PE X e te)
    (hs : starEach [e] X.env = (false, eval e X.env) :: starEach [] X.env := by rfl)
    (hs1 : starEach [.Call (.Name "reversed" p) [e] [] pos2] X.env = [(false, eval (.Call (.Name "reversed" p) [e] [] pos2) X.env)] := by rfl)
    (hbase : attributeBase o "join" X.env (eval o X.env) = eval o X.env := by rfl) (hline : (apos.endLine == pos.line) = true := by rfl) :
    PE X (.Call (.Attribute o "join" apos) [.Call (.Name "reversed" p) [e] [] pos2] [] pos) (tJR X.K to te) := by
  refine ⟨fun pins s σ H Q I h => ?_⟩
  refine PySem.Call_method1 hbase hs1 hline (thn (ho.run pins s σ H _ I h) fun v s1 ⟨x, H1, I1, r1, q1⟩ => ?_)
  obtain ⟨⟨a, rfl⟩, q1⟩ := q1
  obtain ⟨t, rfl⟩ := _root_.id r1
  refine ⟨"str", _, PySem.F.plainAttrs_str, PySem.F.slot_str_join, PySem.F.type_str_join, typeIs_str _ _ _, (fun _ e => nomatch e), Calls.callWith_builtin rfl (Calls.evalArgs_plain (Calls.spliced_cons ?_))⟩
  refine wpAny_Call_Name_kw (ld_blt I1 hg hm PyProof.Rows.boot_reversed (PyProof.Rows.callWith_type1 (args_cons (thn (he.run pins s1 σ H1 _ I1 q1) fun u s2 ⟨v, H2, I2, r2, q2⟩ => args_nil ?_) hs) hs rfl))
  obtain ⟨a', q, ys, ea, rfl, hq, hz, q3⟩ := q2
  cases ea
  obtain rfl : u = Value.ref q := r2
  obtain ⟨its, rv, p', hsz⟩ := I2.list hq
  refine call_reversed_list p'.isList (Calls.spliced_nil ?_)
  have k0 : ∀ b o, s2.heap.get? b = some o → (s2.heap.push (PySem.revObj q ((its.toArray.size : Int) - 1))).get? b = some o := fun b o e => Heap.get?_push_of_some _ e
  have I3 : Inv X pins σ H2 { s2 with heap := s2.heap.push (PySem.revObj q ((its.toArray.size : Int) - 1)) } := I2.kept (t' := s2.toks) k0
  obtain ⟨f0, f1, f2, f3, f4, f5⟩ := I2.fpOk (H' := H2) (b := s2.heap.objs.size) (Nat.le_refl _) (I2.hok.fresh (Nat.le_refl _))
  have hl := p'.isList
  obtain ⟨ol, hol, _⟩ := _root_.id hl
  have hne : q ≠ s2.heap.objs.size := Nat.ne_of_lt (Heap.lt_size hol)
  have hn : its.toArray.size ≤ sizeLine := by rw [List.size_toArray, ← rv.length]; exact hsz
  refine join_rev (s := { s2 with heap := s2.heap.push (PySem.revObj q ((its.toArray.size : Int) - 1)) }) (I2.ok.hd hc) ⟨_, Heap.get?_push_size _ rfl, rfl, rfl⟩ (hl.push _) hne hn (by rw [List.toList_toArray]; exact strs_of_vals rv) hz fun h' t' k hk => ?_
  exact ⟨.str _, H2, I3.turned (t' := k) (fun b o hb e => hk b o hb e) f0 f1 f3 f4 f5, ⟨t', rfl⟩, q3⟩
def gJoinRev : PyData → PyData → Option PyData
  | .str a, .list ds => (asStrs ds).bind fun ys => if joinFit a ys.reverse then some (.str (Txt.join a ys.reverse)) else none
  | _, _ => none
theorem e_joinRev {apos p pos2 : Pos} (hc : X.calm = true) (ho : ED T CL W X .L o fa) (hg : Gl X "reversed") (hm : X.mg "reversed" = none) (he : ED T CL W X .L e fb)
    (hs : starEach [e] X.env = (false, eval e X.env) :: starEach [] X.env := by rfl)
    (hs1 : starEach [.Call (.Name "reversed" p) [e] [] pos2] X.env = [(false, eval (.Call (.Name "reversed" p) [e] [] pos2) X.env)] := by rfl)
    (hbase : attributeBase o "join" X.env (eval o X.env) = eval o X.env := by rfl) (hline : (apos.endLine == pos.line) = true := by rfl) :
    ED T CL W X .N (.Call (.Attribute o "join" apos) [.Call (.Name "reversed" p) [e] [] pos2] [] pos) (dBinP isStrD gJoinRev fa fb) := PE.imp (pe_joinRev hc ho hg hm he hs hs1 hbase hline) fun σ H Q q => by
  obtain ⟨am, Oc, B, δ, h, x, q⟩ := of_tE q
  unfold dBinP at q
  refine tE_of x (Aft.bind x q fun d1 h1 v1 H1 x1 e1 r1 q1 => ?_)
  cases d1 with
  | str a =>
    rw [if_pos (show isStrD (.str a) = true from rfl)] at q1
    obtain ⟨rfl, za, oa⟩ := r1.2.str
    refine ⟨⟨a, rfl⟩, tE_of x1 ?_⟩
    rw [res_op_eq] at q1
    refine Aft.bind x1 q1 fun d2 h2 v2 H2 x2 e2 r2 q2 => ?_
    cases d2 with
    | list ds =>
      cases hg : gJoinRev (.str a) (.list ds) with
      | none => rw [hg] at q2; exact q2.elim
      | some d3 =>
        rw [hg] at q2
        obtain ⟨ys, g1, g2⟩ := Option.bind_eq_some_iff.mp hg
        simp only [Option.ite_none_right_eq_some, Option.some.injEq] at g2
        obtain ⟨hf, rfl⟩ := g2
        obtain ⟨p, xs, rfl, r, t⟩ := r2.2.list
        rw [asStrs_eq g1] at t
        obtain ⟨rfl, k⟩ := t.strs
        obtain ⟨j1, j2⟩ := join_ok oa (fun y hy => (k y (List.mem_reverse.mp hy)).2) hf
        exact ⟨a, p, ys, rfl, rfl, SqL.of r, hf, q2 _ H2 Eff.refl (.inl ⟨x2.wd, .str _ j1 j2, rfl⟩)⟩
    | _ => exact q2.elim
  | _ => rw [if_neg (by simp [isStrD])] at q1; exact q1.elim
/-! ### count, index of a list -/
def gCount : PyData → PyData → Option PyData
  | .list ds, e => if ds.all flatD && flatD e then some (.int ((ds.countP fun y => PyData.eqv y e : Nat) : Int)) else none
  | _, _ => none
theorem mt_countD (hu : X.A.units + 65 < cLine) : MtR X "list.count" (fun x xs H Q => ∃ (a : Addr) (y : V) (vs : List V) (d : PyData) (ds : List PyData), x = V.ref a ∧ xs = [y] ∧ H a = some (.lst vs) ∧ DpAll X.K H vs ds ∧ Dp X.K H y d ∧ PyData.plainAll ds = true ∧ d.plain = true ∧ flatD d = true ∧ Q (.int ((ds.countP fun y => PyData.eqv y d : Nat) : Int)) H) := by
  intro pins s σ H x xs v us Q I rx rxs h
  obtain ⟨a, y, vs, d, ds, rfl, rfl, hl, hds, hy, p1, p2, hf, q⟩ := h
  cases rx
  obtain ⟨uy, rfl, ry⟩ := rxs.one
  obtain ⟨its, rv, pl, hz⟩ := I.list (SqL.of hl)
  obtain ⟨bs, r1⟩ := Dp.reads I d y uy hy ry
  obtain ⟨as, r2⟩ := Dp.readsAll I ds vs its hds rv
  have hdep : d.depth = 0 := by
    cases d with
    | none => simp [PyData.depth]
    | bool b => simp [PyData.depth]
    | int b => simp [PyData.depth]
    | str b => simp [PyData.depth]
    | _ => cases hf
  exact SeqAt.count_list_data pl.isList (by simpa using r2) r1 p1 p2 (by rw [hdep]; simp; omega) ⟨.int _, H, I.tok _, ⟨_, rfl⟩, q⟩
theorem flat_plain {d : PyData} (h : flatD d = true) : d.plain = true := by
  cases d with
  | none => simp [PyData.plain]
  | bool b => simp [PyData.plain]
  | int b => simp [PyData.plain]
  | str b => simp [PyData.plain]
  | _ => cases h
theorem flat_plainAll : ∀ {ds : List PyData}, ds.all flatD = true → PyData.plainAll ds = true
  | [], _ => by simp [PyData.plainAll]
  | d :: ds, h => by
    rw [List.all_cons, Bool.and_eq_true] at h
    simp [PyData.plainAll, flat_plain h.1, flat_plainAll h.2]
theorem flat_lay {d : PyData} {am : Option Addr} {O : Addr → Prop} {H : Hp} {v : V} (l : Lt am O H v d) (h : flatD d = true) : d.canLay0 = true := by
  cases d with
  | none => simp [PyData.canLay0]
  | bool b => simp [PyData.canLay0]
  | int b => simp [PyData.canLay0]
  | str b => simpa [PyData.canLay0] using l.str.2.2
  | _ => cases h
theorem flat_layA {am : Option Addr} {O : Addr → Prop} {H : Hp} : ∀ {ds : List PyData} {vs : List V}, DtA O H vs ds → ds.all flatD = true → PyData.canLayAll0 ds = true
  | [], _, _, _ => by simp [PyData.canLayAll0]
  | d :: ds, _, t, h => by
    rw [List.all_cons, Bool.and_eq_true] at h
    cases t with
    | cons a b => simp [PyData.canLayAll0, flat_lay (am := am) (.inl a) h.1, flat_layA (am := am) b h.2]
theorem vb_count : VB T .N gCount (fun x y H Q => (fun x xs H Q => ∃ (a : Addr) (y : V) (vs : List V) (d : PyData) (ds : List PyData), x = V.ref a ∧ xs = [y] ∧ H a = some (.lst vs) ∧ DpAll X.K H vs ds ∧ Dp X.K H y d ∧ PyData.plainAll ds = true ∧ d.plain = true ∧ flatD d = true ∧ Q (.int ((ds.countP fun y => PyData.eqv y d : Nat) : Int)) H) x [y] H Q) := fun am O H h v w d e d' Q dm ha wd lv lw hg q => by
  cases d with
  | list ds =>
    have e1 : gCount (.list ds) e = if ds.all flatD && flatD e then some (.int ((ds.countP fun y => PyData.eqv y e : Nat) : Int)) else none := rfl
    rw [e1] at hg
    simp only [Option.ite_none_right_eq_some, Option.some.injEq, Bool.and_eq_true] at hg
    obtain ⟨⟨f1, f2⟩, rfl⟩ := hg
    obtain ⟨p, xs, rfl, r, t⟩ := lv.list
    exact ⟨p, w, xs, e, ds, rfl, rfl, r, t.dp (flat_layA (am := am) t f1), lw.dp (flat_lay lw f2), flat_plainAll f1, flat_plain f2, f2, fin_sc wd (.int _) rfl q⟩
  | _ => cases e <;> cases hg
theorem e_count {apos cpos : Pos} (hu : X.A.units + 65 < cLine) (ho : ED T CL W X .L o fa) (ha : ED T CL W X .L e fb) (hbase : attributeBase o "count" X.env (eval o X.env) = eval o X.env := by rfl)
    (hfew : ((backTo cpos (starEach [e] X.env)).all (fun x => !x.1) && (backToKw cpos (keywordEach [] X.env)).all (fun x => x.1.isSome)
      && decide ([e].length + ([] : List Keyword).length + (if ([] : List Keyword).isEmpty then 0 else 1) < 30)) = true := by rfl)
    (hline : (apos.endLine == cpos.line) = true := by rfl) (hs : starEach [e] X.env = (false, eval e X.env) :: starEach [] X.env := by rfl) (hplain : (backTo cpos (starEach [] X.env)).any (·.1) = false := by rfl) :
    ED T CL W X .N (.Call (.Attribute o "count" apos) [e] [] cpos) (dBinP isLstD gCount fa fb) := e_meth1 PySem.F.plainAttrs_list tys_lst PySem.F.slot_list_count PySem.F.type_list_count (mt_countD hu) vb_count ho ha hbase hfew hline hs hplain
def gIndex : PyData → PyData → Option PyData
  | .list ds, e => if SeqAt.shaped (.list ds) && SeqAt.shaped e then (ds.findIdx? fun y => PyData.eqv y e).map fun j => .int (j : Nat) else none
  | _, _ => none
theorem vb_index : VB T .N gIndex (fun x y H Q => rIndexD X.K x [y] H Q) := fun am O H h v w d e d' Q dm ha wd lv lw hg q => by
  cases d with
  | list ds =>
    have e1 : gIndex (.list ds) e = if SeqAt.shaped (.list ds) && SeqAt.shaped e then (ds.findIdx? fun y => PyData.eqv y e).map fun j => .int (j : Nat) else none := rfl
    rw [e1] at hg
    simp only [Option.ite_none_right_eq_some, Bool.and_eq_true] at hg
    obtain ⟨⟨f1, f2⟩, hg⟩ := hg
    obtain ⟨j, hj, rfl⟩ := Option.map_eq_some_iff.mp hg
    obtain ⟨hl, h1, h2⟩ := List.findIdx?_eq_some_iff_getElem.mp hj
    have ld := lv.dp (K := X.K) (SeqAt.canLay_of_shaped f1)
    obtain ⟨p, xs, rfl, r, t⟩ := lv.list
    refine ⟨p, w, e, ds, j, ds[j], rfl, rfl, ld, lw.dp (SeqAt.canLay_of_shaped f2), f1, f2, List.getElem?_eq_getElem hl, h1, fun m z' hm hz => ?_, fin_sc wd (.int _) rfl q⟩
    obtain ⟨hml, rfl⟩ := List.getElem?_eq_some_iff.mp hz
    have := h2 m hm
    simpa using this
  | _ => cases e <;> cases hg
theorem e_index {apos cpos : Pos} (hu : X.A.units + 65 < cLine) (ho : ED T CL W X .L o fa) (ha : ED T CL W X .L e fb) (hbase : attributeBase o "index" X.env (eval o X.env) = eval o X.env := by rfl)
    (hfew : ((backTo cpos (starEach [e] X.env)).all (fun x => !x.1) && (backToKw cpos (keywordEach [] X.env)).all (fun x => x.1.isSome)
      && decide ([e].length + ([] : List Keyword).length + (if ([] : List Keyword).isEmpty then 0 else 1) < 30)) = true := by rfl)
    (hline : (apos.endLine == cpos.line) = true := by rfl) (hs : starEach [e] X.env = (false, eval e X.env) :: starEach [] X.env := by rfl) (hplain : (backTo cpos (starEach [] X.env)).any (·.1) = false := by rfl) :
    ED T CL W X .N (.Call (.Attribute o "index" apos) [e] [] cpos) (dBinP isLstD gIndex fa fb) := e_meth1 PySem.F.plainAttrs_list tys_lst PySem.F.slot_list_index PySem.F.type_list_index (mt_indexD hu) vb_index ho ha hbase hfew hline hs hplain
end
end DL
/-! The data layer: x[::-1]. -/
namespace DL
open PySem PySem.Spec PyProof.Rows L2
theorem adjust_rev (n : Nat) : Builtin.Slice.sliceAdjust none none (-1) (n : Int) = ((n : Int) - 1, -1) := rfl
theorem places_rev (n : Nat) : Builtin.Slice.slicePlaces ((n : Int) - 1) (-1) (-1) = n := by
  unfold Builtin.Slice.slicePlaces
  have h1 : ¬ ((-1 : Int) > 0) := by decide
  simp only [h1, if_false]
  rw [show (- -1 : Int) = 1 by decide, Int.ediv_one]
  split <;> omega
theorem pick_rev (xs : Array Value) : ((List.range xs.size).filterMap fun (k : Nat) => xs[(((xs.size : Nat) : Int) - 1 + (k : Int) * (-1)).toNat]?).toArray = xs.toList.reverse.toArray := by
  have e : (List.range xs.size).filterMap (fun (k : Nat) => xs[(((xs.size : Nat) : Int) - 1 + (k : Int) * (-1)).toNat]?) = (((List.range xs.size).map fun k => xs.size - 1 - k)).filterMap (xs[·]?) := by
    rw [List.filterMap_map]
    congr 1
    funext k
    show xs[(((xs.size : Nat) : Int) - 1 + (k : Int) * (-1)).toNat]? = xs[xs.size - 1 - k]?
    have : (((xs.size : Nat) : Int) - 1 + (k : Int) * (-1)).toNat = xs.size - 1 - k := by omega
    rw [this]
  rw [e, PySem.W.krv_range, List.filterMap_reverse, PySem.W.krv_all]
section
variable {prog : Program} {w : World} {A : Around} {E : Value → Shared → Prop} {s : Shared}
theorem sliceApplied_rev {sl : Addr} {vs : Value} {n : Nat} {Q : Int × Int × Nat → Shared → Prop} (hs : s.heap.IsSliceOf sl .none .none vs) (ps : IsPart vs (some (-1)))
    (h : Q ((n : Int) - 1, -1, n) s) : wpAny (model prog w) A (Builtin.Slice.sliceApplied (.ref sl) (pure (n : Int))) Q E s := by
  obtain ⟨os, hos, hcs, hds⟩ := id hs
  unfold Builtin.Slice.sliceApplied Builtin.Slice.sliceFields
  refine wpAny_bind (wpAny_bind (wpAny_field hos hds (x := .none) rfl (wpAny_bind (wpAny_field hos hds (x := .none) rfl (wpAny_bind (wpAny_field hos hds (x := vs) rfl (wpAny_pure ?_)))))))
  refine wpAny_bind (HT.slicePart_ ps ?_)
  show wpAny _ _ (if ((-1 : Int) == 0) = true then _ else _) _ _ s
  rw [if_neg (by decide)]
  refine wpAny_bind (HT.slicePart_ .none (wpAny_bind (HT.slicePart_ .none (wpAny_bind (wpAny_pure ?_)))))
  show wpAny _ _ (match Builtin.Slice.sliceAdjust none none (-1) (n : Int) with | (lo, hi) => pure (lo, (-1 : Int), Builtin.Slice.slicePlaces lo hi (-1))) _ _ s
  rw [adjust_rev n]
  show wpAny _ _ (pure ((n : Int) - 1, (-1 : Int), Builtin.Slice.slicePlaces ((n : Int) - 1) (-1) (-1))) _ _ s
  rw [places_rev]
  exact wpAny_pure h
theorem getItem_tuple_rev {t sl : Addr} {items : Array Value} {vs : Value} {Q : Value → Shared → Prop} (ht : IsTup s.heap t items) (hs : s.heap.IsSliceOf sl .none .none vs) (ps : IsPart vs (some (-1)))
    (h : Q (.ref s.heap.objs.size) { s with heap := s.heap.push { cls := .type "tuple", data := .seq items.toList.reverse.toArray } })
    (hsz : items.size ≤ sizeLine) : wpAny (model prog w) A (getItem (.ref t) (.ref sl)) Q E s := by
  have htake : sizeOk (.seq items.toList.reverse.toArray) := by
    show items.toList.reverse.toArray.size ≤ sizeLine
    rw [List.size_toArray, List.length_reverse, Array.length_toList]
    exact hsz
  obtain ⟨os, hos, hcs, hds⟩ := id hs
  have hTs : s.TypeIs (.ref sl) "slice" := ⟨os, hos, hcs⟩
  unfold getItem
  try with_reducible refine wpAny_holding ?_
  first | refine wpAny_bind (wpAny_pure ?_) | skip
  refine wpAny_bind (wpAny_sequenceKey ht.typeIs (by decide) ?_)
  refine wpAny_bind (wpAny_callSpecial?_slot (name := Str.ofString "__getitem__") ht.typeIs PyProof.Rows.slot_tuple_getitem
    (wpAny_call_entry PyProof.Rows.slot_tuple_getitem ht.typeIs PyProof.Rows.entry_tuple_getitem ?_ (PyProof.Rows.args_tuple_getitem _ _)))
  show wpAny _ _ (Builtin.Tuple.tupleItemsOf (.ref t) >>= _) _ _ s
  refine wpAny_bind (PyProof.Rows.tupleItemsOf_ ht ?_)
  refine wpAny_bind (wpAny_typeOf hTs ?_)
  rw [if_pos (by decide)]
  refine wpAny_bind (sliceApplied_rev hs ps ?_)
  have hno : ¬ ((((items.size : Nat) : Int) - 1 == 0 && (-1 : Int) == 1 && items.size == items.size) = true) := by
    intro q
    rw [Bool.and_eq_true, Bool.and_eq_true] at q
    exact absurd q.1.2 (by decide)
  show wpAny _ _ (if (((items.size : Nat) : Int) - 1 == 0 && (-1 : Int) == 1 && items.size == items.size) = true then _ else _) _ _ s
  rw [if_neg hno, pick_rev]
  first
    | exact wpAny_bind (m := Builtin.Tuple.tupleExact _) (wpAny_newObj_type (wpAny_pure ⟨_, rfl, wpAny_pure h⟩) htake)
    | exact wpAny_bind (m := Builtin.Tuple.tupleExact _) (wpAny_newObj_type (wpAny_bind (wpAny_pure (wpAny_pure ⟨_, rfl, wpAny_pure h⟩))) htake)
    | exact wpAny_bind (wpAny_bind (m := Builtin.Tuple.tupleExact _) (wpAny_newObj_type (wpAny_pure (wpAny_pure ⟨_, rfl, wpAny_pure h⟩)) htake))
    | exact wpAny_bind (wpAny_bind (m := Builtin.Tuple.tupleExact _) (wpAny_newObj_type (wpAny_pure ⟨_, rfl, wpAny_pure h⟩) htake))
end
def revS (z : Str) : Str := ⟨z.cps.toList.reverse.toArray⟩
theorem slice_rev_made (z : Str) (t u : Tok) : sliceMade z t none none (some (-1, u)) = .str (revS z) := by
  unfold sliceMade
  have h : ((Option.map (fun (x : Int × Tok) => x.1) (some (-1, u))).getD 1 == 1 && (slicePicked z none none (some (-1, u))).length == z.length) = false := by
    show ((-1 : Int) == 1 && _) = false
    rw [show ((-1 : Int) == 1) = false by decide, Bool.false_and]
  rw [h, if_neg Bool.false_ne_true]
  unfold slicePicked
  show Made.str ⟨((Builtin.Str.strSliceIndices none none (-1) z.length).filterMap (z.cps[·]?)).toArray⟩ = _
  rw [PyProof.Rows.picked_rev, PySem.W.krv_range, List.filterMap_reverse]
  unfold revS
  congr 4
  exact PySem.W.krv_all z.cps
section
variable {T : List (Addr × Str)} {CL : Str → Option Addr} {W : WX} {X : Cx} {pos : Pos} {a b c o e : Expr} {fa fb fc : EF}
def tRevA (K : PySem.W.Frag) (te : TE) : TE := fun σ H Q => te σ H fun x H1 => (∃ a xs, x = V.ref a ∧ SqL K H1 a xs ∧ ∀ p, H1 p = none → Q (.ref p) (upd H1 p (.lst xs.reverse))) ∨
  (∃ a xs, x = V.ref a ∧ SqT K H1 a xs ∧ ∀ p, H1 p = none → Q (.ref p) (upd H1 p (.tup xs.reverse))) ∨ ∃ z, x = V.str z ∧ z.length ≤ sizeLine ∧ Q (.str (revS z)) H1
theorem pe_revA {te : TE} {k : Nat} {p1 p2 p3 : Pos} (he : PE X e te) : PE X (.Subscript e (.Slice none none (some (.UnaryOp .USub (.Constant (.int 1) k p1) p2)) p3) pos) (tRevA X.K te) := by
  refine ⟨fun pins s σ H Q I h => ?_⟩
  refine Subscript_ (thn (he.run pins s σ H _ I h) fun v s1 ⟨x, H1, I1, r1, q1⟩ => ?_)
  have hst : PO X (some (.UnaryOp .USub (.Constant (.int 1) k p1) p2)) (tPart (tUn (rU fun i => .int (-i)) (tC (.int 1)))) := po_some (pe_un un_neg pe_int)
  refine wpAny_Slice (thn (po_none.run pins s1 σ H1 (fun o H2 => o = none ∧ H2 = H1) I1 ⟨rfl, rfl⟩) fun vl s2 ⟨l, H2, I2, pl, el, e2⟩ => ?_)
  subst el e2
  refine thn (po_none.run pins s2 σ H2 (fun o H3 => o = none ∧ H3 = H2) I2 ⟨rfl, rfl⟩) fun vu s3 ⟨u, H3, I3, pu, eu, e3⟩ => ?_
  subst eu e3
  refine thn (hst.run pins s3 σ H3 (fun o H4 => o = some (-1) ∧ H4 = H3) I3 ⟨1, rfl, -1, rfl, rfl, rfl⟩) fun vs s4 ⟨o, H4, I4, ps, eo, e4⟩ => ?_
  subst eo e4
  have I5 : Inv X pins σ H4 { s4 with heap := s4.heap.push { cls := .type "slice", data := .fields #[vl, vu, vs] } } := I4.kept (t' := s4.toks) fun b ob q => Heap.get?_push_of_some _ q
  show wpAny (model X.prog X.w) X.A (subscriptTail e (.Slice none none (some (.UnaryOp .USub (.Constant (.int 1) k p1) p2)) p3) v (.ref s4.heap.objs.size)) (EP X pins σ Q) X.xe { s4 with heap := s4.heap.push { cls := .type "slice", data := .fields #[vl, vu, vs] } }
  rcases q1 with ⟨a, xs, rfl, hx, q⟩ | ⟨a, xs, rfl, hx, q⟩ | ⟨z, rfl, hz, q⟩
  · cases r1
    obtain ⟨its, r, ht, hz⟩ := I5.list hx
    have hlen := r.length
    refine tail_any (ops := [.ref a, .ref s4.heap.objs.size]) ht.isList.typeIs (PySem.slot_list_getitem.lookup) ?_ (by with_unfolding_all rfl)
    refine wpAny_getItem_list_slice ht.isList (Heap.IsSliceOf.new _ vl vu vs) pl pu ps (by decide) ?_ (by rw [List.size_toArray]; omega)
    rw [PySem.W.krv_pick]
    refine ⟨.ref _, _, I5.laid (t' := s4.toks) (o := .lst xs.reverse) (fun b ob q => Heap.get?_push_of_some _ q) (Nat.le_refl _) ?_, rfl, q _ (I5.hok.fresh (Nat.le_refl _))⟩
    exact ⟨by rw [List.length_reverse]; exact hz, _, 0, r.reverse, Heap.get?_push_size _ rfl⟩
  · cases r1
    cases pl
    cases pu
    obtain ⟨its, r, ht, hz⟩ := I5.tuple hx
    have hlen := r.length
    refine tail_any (ops := [.ref a, .ref s4.heap.objs.size]) ht.typeIs (PyProof.Rows.slot_tuple_getitem.lookup) ?_ (by with_unfolding_all rfl)
    refine getItem_tuple_rev ht (Heap.IsSliceOf.new _ .none .none vs) ps ?_ (by rw [List.size_toArray]; omega)
    refine ⟨.ref _, _, I5.laid (t' := s4.toks) (o := .tup xs.reverse) (fun b ob q => Heap.get?_push_of_some _ q) (Nat.le_refl _) ?_, rfl, q _ (I5.hok.fresh (Nat.le_refl _))⟩
    exact ⟨by rw [List.length_reverse]; exact hz, _, r.reverse, IsTup.new _ _⟩
  · obtain ⟨t, rfl⟩ := r1
    cases pl
    cases pu
    cases ps with
    | int i u =>
      refine tail_any (ops := [.str z t, .ref s4.heap.objs.size]) (typeIs_str _ z t) slot_str_getitem.lookup ?_ (by with_unfolding_all rfl)
      refine wpAny_getItem_str_slice (l := none) (u := none) (st := some (-1, u)) ⟨_, Heap.get?_push_size _ rfl, rfl, rfl⟩ rfl ?_
      rw [slice_rev_made]
      refine ⟨?_, .str (revS z), H4, I5.tok _, ⟨_, rfl⟩, q⟩
      show (revS z).cps.size ≤ sizeLine
      unfold revS
      rw [List.size_toArray, List.length_reverse, Array.length_toList]
      exact hz
def gRevA : PyData → Option PyData
  | .list ds => some (.list ds.reverse)
  | .tuple ds => some (.tuple ds.reverse)
  | .str z => some (.str (revS z))
  | _ => none
theorem revS_ok {z : Str} (h : PyData.strOk z = true) : PyData.strOk (revS z) = true := by
  unfold PyData.strOk revS at *
  rw [← Array.all_toList, List.all_eq_true] at h ⊢
  intro c hc
  exact h c (by simpa using hc)
theorem e_rev {k : Nat} {p1 p2 p3 : Pos} (he : ED T CL W X .L e fa) : ED T CL W X .N (.Subscript e (.Slice none none (some (.UnaryOp .USub (.Constant (.int 1) k p1) p2)) p3) pos) (dUn gRevA fa) := PE.imp (pe_revA he) fun σ H Q q => by
  obtain ⟨am, Oc, B, δ, h, x, q⟩ := of_tE q
  unfold dUn at q
  rw [res_op_eq] at q
  refine tE_of x (Aft.bind x q fun d1 h1 v1 H1 x1 e1 r1 q1 => ?_)
  have fin : ∀ v' H' d', Same H1 H' → Rl T .N am (OO Oc σ δ) H1 H' h1 v' d' → gRevA d1 = some d' → Q v' H' := fun v' H' d' s r e => by
    rw [e] at q1
    exact q1 v' H' (Eff.same s) r
  cases d1 with
  | list ds =>
    obtain ⟨p, xs, rfl, r, t⟩ := r1.2.list
    exact .inl ⟨p, xs, rfl, SqL.of r, fun p' hp => fin_lst x1.wd x1.domO x1.amO hp t.rev fun v' H' s r => fin v' H' _ s r rfl⟩
  | tuple ds =>
    obtain ⟨p, xs, rfl, r, t, c⟩ := r1.2.tup
    exact .inr (.inl ⟨p, xs, rfl, .inl r, fun p' hp => fin_tup x1.wd x1.domO x1.amO hp t.rev fun v' H' s r => fin v' H' _ s r rfl⟩)
  | str z =>
    obtain ⟨rfl, hz, ho⟩ := r1.2.str
    refine .inr (.inr ⟨z, rfl, hz, fin _ H1 _ (Same.refl _) (.inl ⟨x1.wd, .str _ ?_ (revS_ok ho), rfl⟩) rfl⟩)
    show (revS z).cps.size ≤ sizeLine
    unfold revS
    rw [List.size_toArray, List.length_reverse, Array.length_toList]
    exact hz
  | _ => exact q1.elim
end
end DL
/-! The data layer, part 14: defs, errors, more values at once. -/
namespace DL
open PySem PySem.Spec PyProof.Rows L2
/-- nothing flies -/
theorem takes0N {X : Cx} : L2N.Takes X (fun _ _ _ _ => False) := fun _ _ ⟨_, _, _, _, _, _, _, _, _, _, _, _, _, _, _, _, z⟩ => z.elim
theorem okXN {P : Program} {w : World} {K : PySem.W.Frag} {mg : Str → Option Value} {base : Heap} {nm ql : Str} {st : Stmt} {g : Addr} {gd : FuncData} {M qs : List Str} {j : Nat} {sp : Sp} (F : Fun K nm ql st g gd) (S : FnScope M qs (defScope st)) (len : ∀ vs H Q E, sp vs H Q E → vs.length = qs.length)
    (body : ∀ (cd : Value) (A : Around) (out : List Env) (s : Shared) (H : Hp) (vs : List V) (Q : VK) (E : XK), Room j (A.deeper (envOfC ql (defScope st) s.heap.objs.size g cd)) → sp vs H Q E →
      ∃ t, PSs (cxOf (L2N.CX P w) P w K mg base M ql (defScope st) g cd A out s H E) (defBody st) t ∧ t { nx := fun _ H' => Q .non H', rt := Q } (start M vs) H) : FnOk P w K mg base (L2N.CX P w) (j + 1) g gd qs sp := by
  rcases F.ex with ⟨_, _, _, _, _, _, cd, _, _, rfl, l, c⟩
  exact fn_of l c S len fun A out s H vs Q E r => body cd A out s H vs Q E r
/-! ### a def's meaning -/
def env0 (m : Nat) (ds : List PyData) : DEnv := ds.map .d ++ List.replicate (m - ds.length) .no
def env1 (m : Nat) (ds : List PyData) : DEnv := .am :: (ds.map .d ++ List.replicate (m - 1 - ds.length) .no)
def SRes.fin0 : SRes → Res0
  | .rt d _ => .ok d
  | .nx _ _ => .ok .none
  | .exc x _ _ => .exc x
  | _ => .no
def SRes.fin1 : SRes → Res PyData
  | .rt d h => .ok d h
  | .nx _ h => .ok .none h
  | .exc x _ h => .exc x h
  | _ => .no
/-- m: how many slots -/
def den0 (m : Nat) (f : SF) : List PyData → Res0 := fun ds => (f (env0 m ds) []).fin0
def den1 (m : Nat) (f : SF) : List PyData → HS → Res PyData := fun ds h => (f (env1 m ds) h).fin1
section
variable {T : List (Addr × Str)} {CL : Str → Option Addr}
theorem get_map_some {α : Type} (vs : List α) (k : Nat) (i : Nat) {v : α} (h : vs[i]? = some v) : (vs.map some ++ List.replicate k none)[i]? = some (some v) := by
  have hi := (List.getElem?_eq_some_iff.mp h).1
  rw [List.getElem?_append_left (by simpa using hi), List.getElem?_map, h]; rfl
theorem env0_at {m : Nat} {ds : List PyData} {i : Nat} {s : SV} (h : (env0 m ds)[i]? = some s) : (∃ d, ds[i]? = some d ∧ s = .d d) ∨ s = .no := by
  unfold env0 at h
  by_cases hi : i < ds.length
  · rw [List.getElem?_append_left (by simpa using hi), List.getElem?_map] at h
    obtain ⟨d, e1, e2⟩ := Option.map_eq_some_iff.mp h
    exact .inl ⟨d, e1, e2.symm⟩
  · rw [List.getElem?_append_right (by simpa using hi)] at h
    have := List.mem_of_getElem? h
    exact .inr (List.eq_of_mem_replicate this)
theorem at_start0 {O : Addr → Prop} {H : Hp} {N : List Str} {vs : List V} {ds : List PyData} (dm : Dom O H) (t : DtA O H vs ds) (hl : ds.length ≤ N.length) : At T none O ⟨H, fun _ => False⟩ (start N vs) H (env0 N.length ds) [] := by
  have hno : ∀ i a, ¬ OwnAt (start N vs) (env0 N.length ds) i a := fun i a ⟨⟨y, e⟩, _⟩ => by
    rcases env0_at e with ⟨d, _, z⟩ | z <;> cases z
  have hO : ∀ b, OO O (start N vs) (env0 N.length ds) b → O b := fun b z => z.elim id fun ⟨i, z⟩ => absurd z (hno i b)
  refine ⟨?_, dm, Wd.none, (fun _ z => nomatch z), fun i s hs => ?_, fun i j a z => absurd z (hno i a), fun i a z => absurd z (hno i a), fun i a z => absurd z (hno i a), fun b o e _ _ => e⟩
  · unfold L2.start env0
    simp [t.length]
  · rcases env0_at hs with ⟨d, e, rfl⟩ | rfl
    · obtain ⟨v, e1, e2⟩ := t.get e
      exact ⟨v, get_map_some vs _ i e1, e2.kp ⟨fun _ _ _ _ r => r, fun _ _ _ r => r, fun b _ _ _ z => hO b z⟩⟩
    · trivial
variable {P : Program} {w : World} {K : PySem.W.Frag} {mg : Str → Option Value} {base : Heap}
theorem ok0 {x qual : Str} {st : Stmt} {f : Addr} {fd : FuncData} {N ps : List Str} {k n : Nat} {g : SF} (F : Fun K x qual st f fd) (S : FnScope N ps (defScope st)) (hn : ps.length = n)
    (hb : ∀ (cdv : Value) (A : Around) (outer : List Env) (s : Shared) (H : Hp) (E : XK), Room k (A.deeper (envOfC qual (defScope st) s.heap.objs.size f cdv)) →
      SsD T CL (fun cls d _ H' => E cls d H') (cxOf (L2N.CX P w) P w K mg base N qual (defScope st) f cdv A outer s H E) (defBody st) g) : FnOk P w K mg base (L2N.CX P w) (k + 1) f fd ps (sp0 CL n (den0 N.length g)) := by
  refine okXN F S (fun vs H Q E h => by rw [sp0_len h, hn]) fun cdv A outer s H vs Q E hr h => ⟨_, hb cdv A outer s H E hr, ?_⟩
  obtain ⟨O, ds, h1, dm, t, q⟩ := h
  have hpl : ps.length ≤ N.length := by have := congrArg List.length S.pre; rw [List.length_take] at this; omega
  refine ⟨none, O, ⟨H, fun _ => False⟩, env0 N.length ds, [], at_start0 dm t (by omega), ?_⟩
  have same : ∀ {H'}, EffN ⟨H, fun _ => False⟩ none H' → Same H H' := fun e b o hb => e b o hb (fun z => z) fun _ z => nomatch z
  unfold den0 at q
  revert q
  cases g (env0 N.length ds) [] with
  | nx δ h => exact fun q σ H' y => q _ H' (same y.eff) .non
  | rt d h => exact fun q v H' e w t => q v H' (same e) t
  | exc x δ h => exact fun q cls dd σ H' y z => q cls dd H' (same y.eff) z
  | bk δ h => exact fun q => q.elim
  | ct δ h => exact fun q => q.elim
  | no => exact fun q => q.elim
theorem env1_at {m : Nat} {ds : List PyData} {i : Nat} {s : SV} (h : (env1 m ds)[i]? = some s) : (i = 0 ∧ s = .am) ∨ (∃ j d, i = j + 1 ∧ ds[j]? = some d ∧ s = .d d) ∨ s = .no := by
  unfold env1 at h
  cases i with
  | zero => exact .inl ⟨rfl, by simpa using h.symm⟩
  | succ i =>
    rw [List.getElem?_cons_succ] at h
    have := env0_at (m := m - 1) (ds := ds) h
    rcases this with ⟨d, e1, e2⟩ | e
    · exact .inr (.inl ⟨i, d, rfl, e1, e2⟩)
    · exact .inr (.inr e)
theorem ok1 {x qual : Str} {st : Stmt} {f : Addr} {fd : FuncData} {N ps : List Str} {k n : Nat} {g : SF} (F : Fun K x qual st f fd) (S : FnScope N ps (defScope st)) (hn : ps.length = n + 1)
    (hb : ∀ (cdv : Value) (A : Around) (outer : List Env) (s : Shared) (H : Hp) (E : XK), Room k (A.deeper (envOfC qual (defScope st) s.heap.objs.size f cdv)) →
      SsD T CL (fun cls d _ H' => E cls d H') (cxOf (L2N.CX P w) P w K mg base N qual (defScope st) f cdv A outer s H E) (defBody st) g) : FnOk P w K mg base (L2N.CX P w) (k + 1) f fd ps (sp1 T CL n (den1 N.length g)) := by
  refine okXN F S (fun vs H Q E h => by rw [sp1_len h, hn]) fun cdv A outer s H vs Q E hr h => ⟨_, hb cdv A outer s H E hr, ?_⟩
  obtain ⟨O, a, ws, ds, h0, h1, dm, oa, wd, rfl, t, q⟩ := h
  have hpl : ps.length ≤ N.length := by have := congrArg List.length S.pre; rw [List.length_take] at this; omega
  have hno : ∀ i b, ¬ OwnAt (start N (.ref a :: ws)) (env1 N.length ds) i b := fun i b ⟨⟨y, e⟩, _⟩ => by
    rcases env1_at e with ⟨_, z⟩ | ⟨_, _, _, _, z⟩ | z <;> cases z
  have hO : ∀ b, OO O (start N (.ref a :: ws)) (env1 N.length ds) b → O b := fun b z => z.elim id fun ⟨i, z⟩ => absurd z (hno i b)
  have kp : Kp O (OO O (start N (.ref a :: ws)) (env1 N.length ds)) H H := ⟨fun _ _ _ _ r => r, fun _ _ _ r => r, fun b _ _ _ z => hO b z⟩
  refine ⟨some a, O, ⟨H, fun _ => False⟩, env1 N.length ds, h0, ⟨?_, dm, wd.same (Same.refl H) (fun b _ _ _ z => hO b z) (fun c e => by cases e; exact .inl oa), (fun c e => by cases e; exact oa), fun i s hs => ?_, fun i j b z => absurd z (hno i b), fun i b z => absurd z (hno i b), fun i b z => absurd z (hno i b), fun b o e _ _ => e⟩, ?_⟩
  · unfold L2.start env1
    simp [t.length]
    omega
  · rcases env1_at hs with ⟨rfl, rfl⟩ | ⟨j, d, rfl, e, rfl⟩ | rfl
    · exact ⟨a, rfl, rfl⟩
    · obtain ⟨v, e1, e2⟩ := t.get e
      exact ⟨v, get_map_some (.ref a :: ws) _ (j + 1) (by simpa using e1), e2.kp kp⟩
    · trivial
  · have eff : ∀ {H'}, EffN ⟨H, fun _ => False⟩ (some a) H' → Eff (some a) H H' := fun e b o hb hc => e b o hb (fun z => z) hc
    have wback : ∀ {σ H' δ h}, At T (some a) O ⟨H, fun _ => False⟩ σ H' δ h → Wd T (some a) O H' h := fun y => y.wd.sub (fun _ z => .inl z) y.amc
    unfold den1 at q
    revert q
    cases g (env1 N.length ds) h0 with
    | nx δ h => exact fun q σ H' y => q _ H' (eff y.eff) (wback y) .non
    | rt d h => exact fun q v H' e w t => q v H' (eff e) w t
    | exc x δ h => exact fun q cls dd σ H' y z => q cls dd H' (eff y.eff) (wback y) z
    | bk δ h => exact fun q => q.elim
    | ct δ h => exact fun q => q.elim
    | no => exact fun q => q.elim
end
/-! ### raise X() of an own class without __init__ -/
section
variable {T : List (Addr × Str)} {CL : Str → Option Addr} {W : WX} {X : Cx} {pos : Pos} {a b c tg : Expr} {fa fb fc : EF}
theorem pmk_own0 {C : Addr} {bmB : List Value} {B newId initId : String} {x : Str} {p : Pos} (F : ExcBaseFacts B newId initId bmB) (q : PySem.W.excIn X.K C bmB newId = true) (gC : X.mg x = some (.ref C)) (kC : PySem.W.keepIn X.K (.ref C) = true) (r : Raises X (.ref C)) (hg : Gl X x)
    (hdb : (x == ("__debug__" : Str)) = false := by decide) : L2N.PMk X (.Call (.Name x p) [] [] pos) (fun _ H Q => Q (.ref C) none H) := by
  intro pins s σ H Q I h
  refine wpAny_Call_Name_kw (ld_glob I hg gC ?_ hdb)
  refine PySem.W.callWith_K0 I.kIn kC ?_
  show wpAny _ _ (call (.ref C) []) _ _ _
  obtain ⟨bm, N, nm, qn, bs, hdct, sn, sub, ab, col, dd, k0, k1, k2, k3, k5, mN, hC, hN, hni, Tl⟩ := exc_obj I.kIn q
  refine wpAny_call_exc_subT F Tl hC hN hni (fun h' e hm => ?_) (Nat.zero_le _)
  exact L2N.mk_of I hm r h (I.hok.gone hm.new)
def sRaise0 (n : Str) : SF := fun δ h => .exc ⟨n, none⟩ δ h
theorem s_raise0 {C : Addr} {bmB : List Value} {B newId initId : String} {x : Str} {p pos2 : Pos} (hc : X.calm = true) (tk : L2N.Takes X W) (F : ExcBaseFacts B newId initId bmB) (q : PySem.W.excIn X.K C bmB newId = true) (gC : X.mg x = some (.ref C)) (kC : PySem.W.keepIn X.K (.ref C) = true) (r : Raises X (.ref C)) (hg : Gl X x) (hCL : CL x = some C)
    (hdb : (x == ("__debug__" : Str)) = false := by decide) : SD T CL W X (.Raise (some (.Call (.Name x p) [] [] pos)) none pos2) (sRaise0 x) := PS.imp (L2N.ps_raise hc tk (pmk_own0 F q gC kC r hg hdb)) fun D σ H ⟨am, Oc, B, δ, h, x, q⟩ => q _ _ σ H x ⟨C, hCL, rfl, rfl⟩
/-! ### three and more at once -/
theorem s_par3 {i j l : Nat} {x y z : Str} {b1 b2 b3 : Bool} {px py pz pt : Pos} {kt k2 pt2} (hc : X.calm = true) (hN : X.N.Nodup) (hi : X.N[i]? = some x) (hj : X.N[j]? = some y) (hl : X.N[l]? = some z) (hij : i ≠ j) (hil : i ≠ l) (hjl : j ≠ l)
    (hx : X.env.scope.names.lookup x = some .local) (hy : X.env.scope.names.lookup y = some .local) (hz : X.env.scope.names.lookup z = some .local) (ha : ADg T CL W X [a, b, c] [(b1, fa), (b2, fb), (b3, fc)])
    (hw : swappedStores [.Tuple [.Name x px, .Name y py, .Name z pz] kt pt] (.Tuple [a, b, c] k2 pt2) X.env = pure (some [x, y, z]))
    (hs : swapsWithSole [.Tuple [.Name x px, .Name y py, .Name z pz] kt pt] (.Tuple [a, b, c] k2 pt2) pos.line X.env = pure false := by rfl) :
    SD T CL W X (.Assign [.Tuple [.Name x px, .Name y py, .Name z pz] kt pt] (.Tuple [a, b, c] k2 pt2) pos) (sMul [i, j, l] [(b1, fa), (b2, fb), (b3, fc)]) := PS.imp (ps_par3 hc hN hi hj hl hij hil hjl hx hy hz ha hw hs) fun D σ H q => by
  obtain ⟨am, Oc, B, δ, h, x, q⟩ := mul_sound q
  refine ⟨am, Oc, B, δ, h, x, ?_⟩
  revert q
  cases dGs [(b1, fa), (b2, fb), (b3, fc)] δ h with
  | no => exact id
  | exc e h1 => exact id
  | ok ds h1 =>
    intro q vs H1 L x1 e1 fr gl
    obtain ⟨hl, q⟩ := q vs H1 L x1 e1 fr gl
    match vs, hl with
    | [v, w, u], _ => exact ⟨v, w, u, rfl, q⟩
def gNames : List Nat → TGs
  | [] => gNil
  | i :: is => gCons (gName i) (gNames is)
theorem gNames_run : ∀ {is : List Nat} {vs : List V} {σ : L2.St} {H : Hp} {Q : L2.St → Hp → Prop}, is.length = vs.length → Q (setAllV is vs σ) H → gNames is vs σ H Q
  | [], [], _, _, _, _, q => ⟨rfl, q⟩
  | [], v :: vs, _, _, _, h, _ => by simp at h
  | i :: is, [], _, _, _, h, _ => by simp at h
  | i :: is, v :: vs, σ, H, Q, h, q => ⟨v, vs, rfl, gNames_run (by simpa using h) q⟩
theorem gn_nil : PGs X [] (gNames []) := pgs_nil
theorem gn_cons {i : Nat} {is : List Nat} {x : Str} {es : List Expr} (hN : X.N.Nodup) (hi : X.N[i]? = some x) (hx : Loc X.env.scope x) (h2 : PGs X es (gNames is)) (hf : X.fn x = true ∨ X.env.scope.names.lookup x = some .local := by first | exact .inl rfl | exact .inr rfl | assumption)
    (hs : (assignEach (.Name x pos :: es) X.env).map (·.2) = assign (.Name x pos) X.env :: (assignEach es X.env).map (·.2) := by rfl) : PGs X (.Name x pos :: es) (gNames (i :: is)) := pgs_cons (pg_name hN hi hx hf) h2 hs
/-- a real tuple, taken apart at once -/
theorem s_parT {is : List Nat} {es ts : List Expr} {fs : List (Bool × EF)} {kt k2 : Nat} {pt pt2 : Pos} {n : Nat} (hc : X.calm = true) (ha : ADg T CL W X es fs) (hg : PGs X ts (gNames is)) (hlen : is.length = n) (hfew : n ≤ 1000)
    (hn : (assignEach ts X.env).length = n := by rfl) (hst : (assignEach ts X.env).findIdx? (·.1) = none := by rfl)
    (hs : swapsWithSole [.Tuple ts kt pt] (.Tuple es k2 pt2) pos.line X.env = pure false := by rfl) (hw : swappedStores [.Tuple ts kt pt] (.Tuple es k2 pt2) X.env = pure none := by rfl)
    (h1 : (assignEach [.Tuple ts kt pt] X.env).map (·.2) = [assign (.Tuple ts kt pt) X.env] := by rfl) : SD T CL W X (.Assign [.Tuple ts kt pt] (.Tuple es k2 pt2) pos) (sMul is fs) := PS.imp (ps_asg (pe_tup ha) (pg_tup hc hg hn hst) hs hw h1) fun D σ H q => by
  obtain ⟨am, Oc, B, δ, h, x, q⟩ := q
  refine ⟨am, Oc, B, δ, h, x, ?_⟩
  unfold sMul at q
  revert q
  cases dGs fs δ h with
  | no => exact id
  | exc e h1 => exact fun q cls dd H' y z => q cls dd σ H' y z
  | ok ds h1 =>
    intro q vs H1 L x1 e1 fr gl
    simp only [Res.to] at q
    by_cases hl : is.length = ds.length
    · rw [if_pos hl] at q
      have hl' : is.length = vs.length := by rw [hl, gl.len]
      refine ⟨few_line (by omega), fun p hp => ?_⟩
      refine ⟨p, vs, rfl, .inl (.inl upd_same), by omega, gNames_run hl' ?_⟩
      have x2 := x1.same (same_upd (o := .tup vs) hp)
      have gl2 := gl.kp (Kp.eff0 (Eff.same (same_upd (o := .tup vs) hp)) x1.amO) fun a o _ e _ => same_upd (o := .tup vs) hp a o e
      exact q _ _ (gl2.fin x.amc hl' (fun _ z => z) x2)
    · rw [if_neg hl] at q; exact q.elim
/-! ### name op= e, ints -/
def sAug (i : Nat) (g : PyData → PyData → Option PyData) (f : EF) : SF := fun δ h => match δ[i]? with
  | some (.d d0) => (f δ h).to δ fun d h1 => match g d0 d with
    | some d' => .nx (δ.set i (.d d')) h1
    | none => .no
  | _ => .no
theorem s_aug {i : Nat} {x : Str} {op : Operator} {ti : TIp} {g : PyData → PyData → Option PyData} {pos' : Pos} (hN : X.N.Nodup) (hi : X.N[i]? = some x) (hx : Loc X.env.scope x) (he : ED T CL W X .L a fa) (ho : PIp X op ti) (u : VB T .D g (fun v w H Q => ti v w H Q)) (hf : X.fn x = true ∨ X.env.scope.names.lookup x = some .local := by first | exact .inl rfl | exact .inr rfl | assumption) :
    SD T CL W X (.AugAssign (.Name x pos') op a pos) (sAug i g fa) := PS.imp (ps_aug hN hi hx he ho hf) fun D σ H ⟨am, Oc, B, δ, h, x, q⟩ => by
  unfold sAug at q
  split at q
  · rename_i d0 e0
    obtain ⟨v0, e1, e2⟩ := x.sl i _ e0
    refine ⟨v0, e1, tE_of x (AftS.bindE x q fun d h1 v1 H1 x1 ef r1 q1 => ?_)⟩
    cases hg : g d0 d with
    | none => rw [hg] at q1; exact q1.elim
    | some d' =>
      rw [hg] at q1
      refine u am _ H1 h1 v0 v1 d0 d d' _ x1.domO x1.amO x1.wd (.inl (e2.kp (Kp.eff0 ef x.amO))) r1.2 hg fun v' H' s r => ?_
      exact q1 _ _ ((x1.same s).put (fun _ z => nomatch z) ⟨v', rfl, r.2⟩)
  · exact q.elim
end
end DL
/-! The data layer, part 15: what the printed terms use. -/
namespace DL
open PySem PySem.Spec PyProof.Rows L2
theorem hU1 {A : Around} {k : Nat} (hr : Room k A) : A.units + 1 < cLine := by have := hr.un; omega
theorem hU60 {A : Around} {k : Nat} (hr : Room k A) : A.units + 60 < cLine := by have := hr.un; omega
theorem hU64 {A : Around} {k : Nat} (hr : Room k A) : A.units + 64 < cLine := by have := hr.un; omega
theorem hU65 {A : Around} {k : Nat} (hr : Room k A) : A.units + 65 < cLine := by have := hr.un; omega
abbrev gIsNot (d e : PyData) : Option Bool := gNot (gIs d e)
abbrev gNotIn (d e : PyData) : Option Bool := gNot (gIn d e)
def gListN (d : PyData) : Option PyData := match d with
  | .dict _ => none
  | _ => gList d
abbrev mOf (f : EF) : MF := fun δ h => (f δ h).op fun d => some (d, δ)
section
variable {T : List (Addr × Str)} {CL : Str → Option Addr} {W : WX} {X : Cx} {pos : Pos} {a b c tg iter elt : Expr} {fa fb fc : EF}
theorem c_listN : CalR X T .N (.type "list") (g1 gListN) := c_list
theorem e_gint {x : Str} {i : Int} (hm : ∃ t, X.mg x = some (.int i t)) (hg : Gl X x := by rfl) (hd : (x == ("__debug__" : Str)) = false := by decide) : ED T CL W X .N (.Name x pos) (dC (.int i)) := by
  obtain ⟨t, hm⟩ := hm
  exact e_const (pe_glob (v := .int i) hg hm ⟨t, rfl⟩ hd) (fun _ _ => .int i) rfl
theorem e_gstr {x z : Str} (hm : ∃ t, X.mg x = some (.str z t)) (hg : Gl X x := by rfl) (hd : (x == ("__debug__" : Str)) = false := by decide) (ho : strOkL z = true := by decide +kernel) : ED T CL W X .N (.Name x pos) (dC (.str z)) := by
  obtain ⟨t, hm⟩ := hm
  exact e_const (pe_glob (v := .str z) hg hm ⟨t, rfl⟩ hd) (fun _ _ => .str z (strOkL_len ho) (strOkL_ok ho)) rfl
/-- hand[i] -/
def dHix (i : Nat) (fb : EF) : EF := fun δ h => match δ[i]? with
  | some .am => (fb δ h).bind fun d h1 => match (asI d).bind (atI h1) with
    | some x => .ok x h1
    | none => .no
  | _ => .no
theorem e_hix {i : Nat} {x : Str} {px : Pos} (hx : PE X (.Name x px) (tVar i)) (hb : ED T CL W X .L b fb) (hs : PlainIx b := by exact fun _ _ => rfl) : ED T CL W X .D (.Subscript (.Name x px) b pos) (dHix i fb) := PE.imp (pe_ix ix_list hx hb hs) fun σ H Q q => by
  obtain ⟨am, Oc, B, δ, h, x, q⟩ := of_tE q
  unfold dHix at q
  split at q
  · rename_i e
    obtain ⟨a, ea, e1⟩ := x.sl i _ e
    subst ea
    refine ⟨.ref a, e1, tE_of x (Aft.bind x q fun d1 h1 v1 H1 x1 ef r1 q1 => ?_)⟩
    split at q1
    · rename_i y hy
      obtain ⟨k, hk, hy⟩ := Option.bind_eq_some_iff.mp hy
      have hk := asI_eq hk
      subst hk
      obtain ⟨w1, ⟨us, w2, w3⟩, w4⟩ := x1.wd a rfl
      obtain ⟨v, e2, e3⟩ := w3.at hy
      exact ⟨a, us, k, v, rfl, r1.2.int, SqL.of w2, e2, q1 v H1 Eff.refl ⟨x1.wd, e3⟩⟩
    · exact q1.elim
  · exact q.elim
/-- name = [..] on one line, as data -/
theorem s_setLcD {i : Nat} {y : Str} {py spos : Pos} {ifs : List Expr} {scope : Scope} {own : List (Str × Nat)} {g : TG} {t : TF} {fi : IF} {tc : CF} {fe : EF} {L : List Nat} (hc : X.calm = true) (hN : X.N.Nodup) (hy : X.N[i]? = some y) (hyl : X.env.scope.names.lookup y = some .local)
    (hsw : swapsWith (.ListComp elt [⟨tg, iter, ifs, 0⟩] scope pos) (some (.Name y py)) spos.line X.env = pure true) (hi : ID T CL W X tg iter fi) (ok : BlkOk X.N X.env.scope scope own)
    (hg : ∀ (s : Shared) (H : Hp) (C : Addr) (cl : List (Str × Addr)) (fp : List Addr), GD T (X.blk s H scope (compEnvC scope cl C X.env) fp) L tg g t) (ht : ∀ (s : Shared) (H : Hp) (C : Addr) (cl : List (Str × Addr)) (fp : List Addr), PTs (X.blk s H scope (compEnvC scope cl C X.env) fp) ifs (tT T CL WF tc))
    (he : ∀ (s : Shared) (H : Hp) (C : Addr) (cl : List (Str × Addr)) (fp : List Addr), ED T CL WF (X.blk s H scope (compEnvC scope cl C X.env) fp) .D elt fe) (hL : ∀ j ∈ L, j ∈ own.map (·.2) := by decide) (hs : ∀ x, foldedSetIterable iter X.env x = pure x := by intro _; rfl) :
    SD T CL W X (.Assign [.Name y py] (.ListComp elt [⟨tg, iter, ifs, 0⟩] scope pos) spos) (sSet i (dLc (own.map (·.2)) t fi tc fe)) := ⟨fun pins s σ H D I q => by
  obtain ⟨wi, pi, ki⟩ := hi
  refine (ps_setLc hc hN hy hyl hsw pi ok (fun s H C cl fp => (hg s H C cl fp).1) ht he hs).run pins s σ H D I (lc_sound (hg s H 0 [] []).2 hL ki ?_)
  obtain ⟨am, Oc, B, δ, h, x, q⟩ := q
  refine tE_of x (AftS.bindE x q fun d h1 v1 H1 x1 e1 r1 q1 => ?_)
  exact q1 _ _ (x1.put (fun _ z => nomatch z) ⟨v1, rfl, (r1.N_D x.domO x.amO).2⟩)⟩
end
end DL
/-! The data layer, part 16: defs in names, caught errors, lambdas. -/
namespace DL
open PySem PySem.Spec PyProof.Rows L2
section
variable {T : List (Addr × Str)} {CL : Str → Option Addr} {W : WX} {X : Cx} {pos : Pos} {a b c tg iter elt : Expr} {fa fb fc : EF} {f g : SF}
/-! ### {} -/
def dDict0 : EF := fun _ h => .ok (.dict []) h
theorem e_dict0 : ED T CL W X .N (.Dict [] [] pos) dDict0 := PE.imp pe_dnewK fun σ H Q q => by
  obtain ⟨am, Oc, B, δ, h, x, q⟩ := of_tE q
  exact fun p hp => q _ _ (Eff.same (same_upd hp)) (Rl.new hp x.domO x.amO x.wd (.dic upd_same .nil))
/-! ### a def that a name holds -/
def dCallL (i : Nat) (tab : Nat → Option (Addr × Nat × (List PyData → Res0))) (fs : List EF) : EF := fun δ h => match δ[i]? with
  | some (.raw k (.ref f)) => match tab k with
    | some (f', n, den) => if f = f' ∧ fs.length = n then (dSeq fs δ h).bind fun ds h1 => (den ds).up h1 else .no
    | none => .no
  | _ => .no
theorem e_callL {i lv : Nat} {tab : Nat → Option (Addr × Nat × (List PyData → Res0))} {x : Str} {p : Pos} {e : Expr} {es : List Expr} {fs : List EF}
    (F : ∀ k f n den, tab k = some (f, n, den) → ∃ fd ps, FnOk X.prog X.w X.K X.mg X.base (L2N.CX X.prog X.w) lv f fd ps (sp0 CL n den) ∧ PySem.W.keepIn X.K (.ref f) = true ∧ Binds X.K fd ps []) (hr : Room lv X.A) (hx : PE X (.Name x p) (tVar i)) (tk : L2N.Takes X W) (ha : AD T CL W X .D (e :: es) (dSeq fs))
    (hs : starEach (e :: es) X.env = (false, eval e X.env) :: starEach es X.env := by rfl) (hpl : (backTo pos (starEach es X.env)).any (·.1) = false := by rfl) :
    ED T CL W X .D (.Call (.Name x p) (e :: es) [] pos) (dCallL i tab fs) := ⟨fun pins s σ H Q I q => by
  obtain ⟨am, Oc, B, δ, h, y, q⟩ := of_tE q
  unfold dCallL at q
  split at q
  · rename_i k f e0
    split at q
    · rename_i f' n den et
      by_cases hc : f = f' ∧ fs.length = n
      · rw [if_pos hc] at q
        obtain ⟨rfl, hn⟩ := hc
        obtain ⟨fd, ps, G, hk, hb⟩ := F k f n den et
        have hs0 : σ[i]? = some (some (.ref f)) := y.sl i _ e0
        refine wpAny_Call_Name_kw (thn (hx.run pins s σ H (fun v H1 => v = .ref f ∧ H1 = H) I ⟨.ref f, hs0, rfl, rfl⟩) fun u s1 ⟨v, H1, I1, r1, q1⟩ => ?_)
        obtain ⟨rfl, rfl⟩ := q1
        cases r1
        refine PySem.W.callWith_K (h₀ := X.base) I.ok.mod.kin hk (thn (ha.run pos pins s1 σ _ (fun vs H2 => sp0 CL n den vs H2 Q (fun cls d H' => W cls d σ H')) I1 ?_) fun us s2 ⟨vs, H2, I2, r, q⟩ => ⟨I2.kIn, run_fnS (E := fun σ cls d H' => W cls d σ H') G hr hb (L2N.passAt tk σ) I2 r q⟩) hs hpl
        refine tA_of y (Aft.bindA y q fun ds h1 vs H2 er x1 e1 r1 q1 => ?_)
        have t := dta_of r1
        refine ⟨OO Oc σ δ, ds, by rw [dSeq_len er, hn], x1.domO, t, ?_⟩
        cases hd : den ds with
        | ok d =>
          rw [hd] at q1
          exact fun v H' s z => q1 v H' (Eff.same s) ⟨x1.wd.same s (fun _ _ _ _ z => z) x1.amO, z⟩
        | exc y =>
          rw [hd] at q1
          exact fun cls dd H' s z => q1 cls dd H' (Eff.same s) (x1.wd.same s (fun _ _ _ _ z => z) x1.amO) z
        | no => rw [hd] at q1; exact q1
      · rw [if_neg hc] at q; exact q.elim
    · exact q.elim
  · exact q.elim⟩
/-- for name in (f, g, ..): defs -/
def dLoopR (i : Nat) (f : SF) : List (Nat × Addr) → SF
  | [], δ, h => .nx δ h
  | (k, a) :: r, δ, h => (f (δ.set i (.raw k (.ref a))) h).lp (dLoopR i f r)
def sForR (i : Nat) (ks : List (Nat × Addr)) (f : SF) : SF := dLoopR i f ks
def tRefs (ks : List (Nat × Addr)) : TA := fun _ H Q => Q (ks.map fun p => .ref p.2) H
theorem r_nil : PA X [] (tRefs []) := PA.imp pa_nil fun _ _ _ q => q
theorem r_cons {k : Nat} {ad : Addr} {ks : List (Nat × Addr)} {x : Str} {p : Pos} {es : List Expr} (hg : Gl X x) (hm : X.mg x = some (.ref ad)) (h2 : PA X es (tRefs ks)) (hd : (x == ("__debug__" : Str)) = false := by decide) (hs : starEach (.Name x p :: es) X.env = (false, eval (.Name x p) X.env) :: starEach es X.env := by rfl) :
    PA X (.Name x p :: es) (tRefs ((k, ad) :: ks)) := PA.imp (pa_cons (pe_glob (v := .ref ad) hg hm rfl hd) h2 hs) fun _ _ _ q => q
theorem s_forR {i : Nat} {x : Str} {px pt : Pos} {kt : Nat} {es : List Expr} {ks : List (Nat × Addr)} {body : List Stmt} (hp : PassesOwn (model X.prog X.w) X.A X.env X.xe) (hc : X.calm = true) (hN : X.N.Nodup) (hi : X.N[i]? = some x) (hx : Loc X.env.scope x) (ha : PA X es (tRefs ks)) (hk : ks.length ≤ 1000) (hb : SsD T CL W X body f)
    (hf : X.fn x = true ∨ X.env.scope.names.lookup x = some .local := by first | exact .inl rfl | exact .inr rfl | assumption) (hs : ∀ y, foldedSetIterable (.Tuple es kt pt) X.env y = pure y := by intro _; rfl) :
    SD T CL W X (.For (.Name x px) (.Tuple es kt pt) body [] pos) (sForR i ks f) := PS.imp (ps_for hp hc (pi_tup (pe_tup ha)) (pg_name hN hi hx hf) hb hs) fun D σ H ⟨am, Oc, B, δ, h, x, q⟩ => by
  refine ⟨few_line (by simpa using hk), fun p hpn => ?_⟩
  have x1 := x.same (same_upd (o := .tup (ks.map fun p => V.ref p.2)) hpn)
  have sq : SqT X.K (upd H p (.tup (ks.map fun p => V.ref p.2))) p (ks.map fun p => V.ref p.2) := .inl (.inl upd_same)
  have nOp : ¬ OO Oc σ δ p := fun z => by
    obtain ⟨o, e, _⟩ := x.domO p z
    rw [hpn] at e; cases e
  have q1 := AftS.anchor x1 q
  refine ⟨p, rfl, ⟨_, sq⟩, fun j m σ' H' => ∃ δ' h', At T am Oc (Bs.at σ δ (upd H p (.tup (ks.map fun p => V.ref p.2)))) σ' H' δ' h' ∧ m = ks.length - j ∧ j ≤ ks.length ∧ AftS T CL W D am Oc (Bs.at σ δ (upd H p (.tup (ks.map fun p => V.ref p.2)))) (dLoopR i f (ks.drop j) δ' h'), ⟨ks.length, δ, h, x1.anchor, by simp, Nat.zero_le _, q1⟩, ?_⟩
  rintro j m σ' H' ⟨δ', h', y, rfl, hle, qq⟩
  have sq' : SqT X.K H' p (ks.map fun p => V.ref p.2) := by
    have k := x1.kpB (fun b z => .inl z) y
    exact .inl (k.rd _ _ nOp (fun z => z) (.inl upd_same))
  by_cases hj : j < ks.length
  · have ej : (ks.map fun p => V.ref p.2)[j]? = some (.ref ks[j].2) := by rw [List.getElem?_map, List.getElem?_eq_getElem hj]; rfl
    rw [List.drop_eq_getElem_cons hj] at qq
    refine .inr ⟨⟨_, _, sq', ej⟩, fun σ2 H2 => ∃ δ2 h2, At T am Oc (Bs.at σ δ (upd H p (.tup (ks.map fun p => V.ref p.2)))) σ2 H2 δ2 h2 ∧ AftS T CL W D am Oc (Bs.at σ δ (upd H p (.tup (ks.map fun p => V.ref p.2)))) (dLoopR i f (ks.drop (j + 1)) δ2 h2), fun σ2 H2 ⟨δ2, h2, y2, q2⟩ => ⟨ks.length - (j + 1), by omega, δ2, h2, y2, rfl, hj, q2⟩, fun v H2 ⟨e2, yl⟩ => ?_⟩
    subst e2
    have := yl _ sq'
    rw [ej] at this
    cases this
    have y3 := y.put (i := i) (v := some (.ref ks[j].2)) (s := .raw ks[j].1 (.ref ks[j].2)) (fun _ z => nomatch z) rfl
    refine ⟨am, Oc, _, _, h', y3, ?_⟩
    revert qq
    show AftS T CL W D am Oc _ ((f (δ'.set i (.raw ks[j].1 (.ref ks[j].2))) h').lp _) → _
    cases f (δ'.set i (.raw ks[j].1 (.ref ks[j].2))) h' with
    | nx δ2 h2 => exact fun qq σ4 H4 y4 => ⟨δ2, h2, y4, qq⟩
    | ct δ2 h2 => exact fun qq σ4 H4 y4 => ⟨δ2, h2, y4, qq⟩
    | bk δ2 h2 => exact id
    | rt d h2 => exact id
    | exc e δ2 h2 => exact id
    | no => exact id
  · have : j = ks.length := by omega
    subst this
    refine .inl ⟨⟨_, sq', by simp⟩, ?_⟩
    rw [List.drop_length] at qq
    exact qq σ' H' y
/-! ### the caught error in its suite -/
def dIsE (i : Nat) (a : Addr) (b : Bool) : EF := fun δ h => match δ[i]? with
  | some (.raw _ (.ref c)) => if c = a then .ok (.bool b) h else .no
  | _ => .no
theorem isE_core {i : Nat} {ea D : Addr} {bb : Bool} {oe : Obj} {pn : List (Addr × Obj)} {x n : Str} {px p p2 : Pos} {cv : Value} {cl : V} (C : ExcC X.K D) (hz : Zc (.ref D) none oe) (hf : ∃ vs, oe.data = .fields vs)
    (hg : Gl (X.suite ea ((ea, oe) :: pn)) "isinstance") (hm : X.mg "isinstance" = none) (hx : PE (X.suite ea ((ea, oe) :: pn)) (.Name x px) (tVar i)) (hn : PE (X.suite ea ((ea, oe) :: pn)) (.Name n p2) (tC cl)) (hcv : ∀ u, RelV cl u → u = cv) (hk : PySem.W.kitOne X.K (.ref D) cv = some bb)
    (hs : starEach [.Name x px, .Name n p2] X.env = (false, eval (.Name x px) X.env) :: starEach [.Name n p2] X.env := by rfl) (hs2 : starEach [.Name n p2] X.env = (false, eval (.Name n p2) X.env) :: starEach [] X.env := by rfl)
    (hpl : (backTo pos (starEach [.Name n p2] X.env)).any (·.1) = false := by rfl) :
    ED T CL W (X.suite ea ((ea, oe) :: pn)) .N (.Call (.Name "isinstance" p) [.Name x px, .Name n p2] [] pos) (dIsE i ea bb) :=
  PE.imp (pe_callB (call_isE C hz hf) hg hm (by decide +kernel) (pa_cons hx (pa_cons hn pa_nil hs2) hs) (by decide) (by decide) hs hpl) fun σ H Q q => by
    obtain ⟨am, Oc, B, δ, h, y, q1⟩ := of_tE q
    unfold dIsE at q1
    revert q1
    split
    · rename_i k c e0
      intro q1
      by_cases hc : c = ea
      · rw [if_pos hc] at q1
        subst hc
        have hs0 : σ[i]? = some (some (.ref c)) := y.sl i _ e0
        exact ⟨.ref c, hs0, cl, cv, bb, rfl, hcv, hk, q1 _ H Eff.refl (.inl ⟨y.wd, .bl _, rfl⟩)⟩
      · rw [if_neg hc] at q1; exact q1.elim
    · exact fun q1 => q1.elim
/-- isinstance(error, an own class) -/
theorem e_isE {i : Nat} {ea D D2 : Addr} {bb : Bool} {oe : Obj} {pn : List (Addr × Obj)} {x n : Str} {px p p2 : Pos} (C : ExcC X.K D) (hz : Zc (.ref D) none oe) (hf : ∃ vs, oe.data = .fields vs)
    (hg : Gl (X.suite ea ((ea, oe) :: pn)) "isinstance") (hm : X.mg "isinstance" = none) (hx : PE (X.suite ea ((ea, oe) :: pn)) (.Name x px) (tVar i)) (hgn : Gl (X.suite ea ((ea, oe) :: pn)) n) (hmn : X.mg n = some (.ref D2)) (hk : PySem.W.kitOne X.K (.ref D) (.ref D2) = some bb) (hd : (n == ("__debug__" : Str)) = false := by decide)
    (hs : starEach [.Name x px, .Name n p2] X.env = (false, eval (.Name x px) X.env) :: starEach [.Name n p2] X.env := by rfl) (hs2 : starEach [.Name n p2] X.env = (false, eval (.Name n p2) X.env) :: starEach [] X.env := by rfl)
    (hpl : (backTo pos (starEach [.Name n p2] X.env)).any (·.1) = false := by rfl) :
    ED T CL W (X.suite ea ((ea, oe) :: pn)) .N (.Call (.Name "isinstance" p) [.Name x px, .Name n p2] [] pos) (dIsE i ea bb) :=
  isE_core C hz hf hg hm hx (pe_glob (v := .ref D2) hgn hmn rfl hd) (fun u r => r) hk hs hs2 hpl
/-- isinstance(error, a built-in class) -/
theorem e_isEb {i : Nat} {ea D : Addr} {bb : Bool} {oe : Obj} {pn : List (Addr × Obj)} {x n : Str} {ty : String} {px p p2 : Pos} (C : ExcC X.K D) (hz : Zc (.ref D) none oe) (hf : ∃ vs, oe.data = .fields vs)
    (hg : Gl (X.suite ea ((ea, oe) :: pn)) "isinstance") (hm : X.mg "isinstance" = none) (hx : PE (X.suite ea ((ea, oe) :: pn)) (.Name x px) (tVar i)) (hgn : Gl (X.suite ea ((ea, oe) :: pn)) n) (hmn : X.mg n = none) (hv : bootBuiltins n = some (.type ty)) (hk : PySem.W.kitOne X.K (.ref D) (.type ty) = some bb) (hnn : n ≠ "__name__" := by decide) (hd : (n == ("__debug__" : Str)) = false := by decide)
    (hs : starEach [.Name x px, .Name n p2] X.env = (false, eval (.Name x px) X.env) :: starEach [.Name n p2] X.env := by rfl) (hs2 : starEach [.Name n p2] X.env = (false, eval (.Name n p2) X.env) :: starEach [] X.env := by rfl)
    (hpl : (backTo pos (starEach [.Name n p2] X.env)).any (·.1) = false := by rfl) :
    ED T CL W (X.suite ea ((ea, oe) :: pn)) .N (.Call (.Name "isinstance" p) [.Name x px, .Name n p2] [] pos) (dIsE i ea bb) :=
  isE_core C hz hf hg hm hx (pe_bltn (v := .ty ty) hgn hmn hv rfl hnn hd) (fun u r => r) hk hs hs2 hpl
/-- nothing is known of the frame but the error -/
def envE (m ie : Nat) (a : Addr) : DEnv := (List.replicate m .no).set ie (.raw 0 (.ref a))
theorem at_err {H : Hp} {σ : L2.St} {ie : Nat} {ea : Addr} (h : σ[ie]? = some (some (.ref ea))) : At [] none (fun _ => False) ⟨H, fun _ => False⟩ σ H (envE σ.length ie ea) [] := by
  have hget : ∀ i s, (envE σ.length ie ea)[i]? = some s → s = .no ∨ (i = ie ∧ s = .raw 0 (.ref ea)) := fun i s e => by
    unfold envE at e
    by_cases hi : i = ie
    · subst hi
      have hl := (List.getElem?_eq_some_iff.mp h).1
      rw [List.getElem?_set_self (by simpa using hl)] at e
      exact .inr ⟨rfl, (Option.some.inj e).symm⟩
    · rw [List.getElem?_set_ne (Ne.symm hi)] at e
      exact .inl (List.eq_of_mem_replicate (List.mem_of_getElem? e))
  have hno : ∀ i a, ¬ OwnAt σ (envE σ.length ie ea) i a := fun i a ⟨⟨y, e⟩, _⟩ => by
    rcases hget _ _ e with z | ⟨_, z⟩ <;> cases z
  refine ⟨by unfold envE; simp, fun _ z => z.elim, Wd.none, (fun _ z => nomatch z), fun i s hs => ?_, fun i j a z => absurd z (hno i a), fun i a z => absurd z (hno i a), fun i a z => absurd z (hno i a), fun b o e _ _ => e⟩
  rcases hget i s hs with rfl | ⟨rfl, rfl⟩
  · trivial
  · exact h
/-! ### a def that calls what it is handed and tells by a word what is raised -/
def TTh (CL : Str → Option Addr) (s0 : Str) (wd : Str → Option Str) : (XK → Hp → VK → Prop) → Hp → VK → Prop := fun tl H Q =>
  tl (fun cls d H' => ∃ n C w, d = none ∧ cls = .ref C ∧ CL n = some C ∧ wd n = some w ∧ ∀ H'', Same H' H'' → Q (.str w) H'') H (fun _ H' => Q (.str s0) H')
end
end DL
/-! The data layer: a lambda handed to a def, where the context of what is raised is known to be None. -/
namespace DL
open PySem PySem.Spec PyProof.Rows L2
/-- the context of the lambda's body -/
abbrev lamK (X : Cx) (A : Around) (out : List Env) (s : Shared) (H : Hp) (E : XK) (sc : Scope) (f c' : Addr) : Cx :=
  (LamX.lamCx X A out s H E sc f c').wish fun e s' => wpAny (model X.prog X.w) (A.deeper (LamX.lamEnv X sc s.heap.objs.size f c')) (leaving (LamX.lamEnv X sc s.heap.objs.size f c') e)
    (fun _ t => L2N.CX X.prog X.w out H s E e t) (fun e' t => L2N.CX X.prog X.w out H s E e' t) s'
section
variable {X : Cx} {pins : List (Addr × Obj)} {σ : L2.St} {H : Hp} {s : Shared}
/-- the context of the def that got the lambda, in its try -/
abbrev gotX (X : Cx) (Ng : List Str) (x : Str) (sg : Scope) (g : Addr) (cdg : Value) (s : Shared) (H : Hp) (pn : List (Addr × Obj)) (xe : Value → Shared → Prop) : Cx := (cxOf C8.CX0 X.prog X.w X.K X.mg X.base Ng x sg g cdg X.A X.stack s H C8.E0).tr pn xe
theorem lam_act {Ng : List Str} {qg : Str} {sg : Scope} {g f c' : Addr} {cdg pm ctv : Value} {ps : Arguments} {bd : Expr} {sc : Scope} {k i : Nat} {a : Str} {pn : List (Addr × Obj)} {xe : Value → Shared → Prop} {W : WX} {E : XK} {tb : TE} {p1 p2 : Pos}
    (I : Inv X pins σ H s) (L : LamX.LamS X.env.scope sc)
    (hf : s.heap.get? f = some (PySem.W.kla_obj "<lambda>" (X.env.qual ++ "<lambda>") ps bd sc (cloFrom X.env.cells sc.names []) pm c' ctv)) (hn : H f = none) (hfr : f ∉ frs X.stack)
    (bind : bindArgs (PySem.W.kla_fn "<lambda>" (X.env.qual ++ "<lambda>") ps bd sc (cloFrom X.env.cells sc.names []) pm (.ref c') ctv) ⟨[], []⟩ = pure [])
    (tk : L2N.Takes (gotX X Ng qg sg g cdg s H pn xe) W) (hW : ∀ cls d σ' H', E cls d H' → W cls d σ' H') (r : Room (k + 1) (X.A.deeper (envOfC qg sg s.heap.objs.size g cdg)))
    (body : ∀ (A : Around) (out : List Env) (s : Shared) (H : Hp), Room k (A.deeper (LamX.lamEnv X sc s.heap.objs.size f c')) → PE (lamK X A out s H E sc f c') bd tb)
    (hN : Ng[i]? = some a) (hv : Vis sg a) (d1 : (a == ("__debug__" : Str)) = false := by decide) (d2 : (a == ("__classdict__" : Str)) = false := by decide) :
    PE (gotX X Ng qg sg g cdg s H pn xe) (.Call (.Name a p1) [] [] p2) (fun σZ HZ Q => σZ[i]? = some (some (.ref f)) ∧ HZ c' = some (LamX.CodeO c' (X.env.qual ++ "<lambda>")) ∧ tb σ HZ Q) := by
  constructor
  rintro pz sz σz Hz Q Iz ⟨h1, h2, h3⟩
  have look := (pe_var (X := gotX X Ng qg sg g cdg s H pn xe) (pos := p1) (i := i) hN hv d1 d2).run pz sz σz Hz (fun v G => v = .ref f ∧ G = Hz) Iz ⟨.ref f, h1, rfl, rfl⟩
  refine wpAny_Call_Name_kw (thn look fun u t ⟨v, G, J, rv, ev, eG⟩ => ?_)
  subst ev
  subst eG
  cases rv
  have at_f := J.base.keep f _ hf hn hfr (fun z => nomatch (show f ∈ ([] : List Addr) from z))
  refine PySem.W.callWith_F0 ⟨_, _, _, _, at_f⟩ (wpAny_call (codeAny_mono (R := CR (L2N.CX X.prog X.w) (envOfC qg sg s.heap.objs.size g cdg :: X.stack) X.prog X.w G t Q E) ?_ fun y t' hq => ?_))
  · obtain ⟨⟨oc, vs, tt, q1, q2, q3⟩, _, _⟩ := J.hok c' _ h2
    refine PySem.W.kla_callFunE r.depth at_f rfl L.co L.gen rfl ⟨c', oc, vs, tt, rfl, q1, q2, q3⟩ ?_
    rw [List.append_nil, bind]
    refine wpAny_pure (wpAny_newFunctionEnv (fun y hy => (L.own y hy).2) (fun y hy => absurd hy (by simp)) (fun hp ns sb => ⟨J.nolimit.fresh _ sb, ?_⟩) L.kind)
    have keeps : ∀ b o, t.heap.get? b = some o → hp.get? b = some o := fun b o e => sb.extBut b o (Nat.ne_of_lt (Heap.lt_size e)) (Heap.get?_push_of_some _ e)
    have J2 := LamX.lam_start2 (E := E) (f := f) (c' := c') (tk := t.toks + ([] : List (Str × Value)).length) I L J.env0 r.hd (show Un (frs X.stack) [] H G s.heap t.heap from J.base) ns keeps
    refine PySem.W.kla_codeExpr (wpAny_mono ((body _ _ t G (r.deeper _)).run [] _ _ G Q (J2.wish _) h3) (fun v t' ⟨y, G', J', rr, qq⟩ => ?_) fun _ _ hq => hq)
    exact ⟨y, G', J'.os, J'.bare, J'.base, J'.hok, rr, qq⟩
  · match y, hq with
    | .error e, hq => exact L2N.passes_call tk hW pz σz G t e t' J hq
    | .ok (.ret u), hq => exact J.after hq
/-- the def that calls what it got -/
def GivesN (X : Cx) (Ng : List Str) (x : Str) (sg : Scope) (g : Addr) (cdg : Value) (bg : List Stmt) (a : Str) (q : Str) (TT : (XK → Hp → VK → Prop) → Hp → VK → Prop) : Prop :=
  ∀ (f c' : Addr) (s : Shared) (H : Hp) (Q : VK) (tl : XK → Hp → VK → Prop),
    (∀ (W : WX) (pn : List (Addr × Obj)) (xe : Value → Shared → Prop) (E : XK) (p1 p2 : Pos), L2N.Takes (gotX X Ng x sg g cdg s H pn xe) W → (∀ cls d σ' H', E cls d H' → W cls d σ' H') →
      PE (gotX X Ng x sg g cdg s H pn xe) (.Call (.Name a p1) [] [] p2) (fun σZ HZ Q => σZ[0]? = some (some (.ref f)) ∧ HZ c' = some (LamX.CodeO c' q) ∧ tl E HZ Q)) →
    H c' = some (LamX.CodeO c' q) → TT tl H Q → ∃ t, PSs (cxOf C8.CX0 X.prog X.w X.K X.mg X.base Ng x sg g cdg X.A X.stack s H C8.E0).nox bg t ∧ t { nx := fun _ H' => Q .non H', rt := Q } (L2.start Ng [.ref f]) H
theorem call_lam {T : List (Addr × Str)} {TT : (XK → Hp → VK → Prop) → Hp → VK → Prop} {x a : Str} {g c P : Addr} {k : Nat} {pg : Arguments} {bg : List Stmt} {sg : Scope} {dV kV doc pm cdv ct oc : Value} {an od : Option Addr} {osl : Array (Option Value)} {Ng : List Str}
    {ps : Arguments} {bd : Expr} {sc : Scope} {t : XK → TE} {p lpos pos : Pos} (hg : Gl X x) (hm : X.mg x = some (.ref g)) (hk : PySem.W.keepIn X.K (.ref g) = true) (lk : X.K.lookup g = some ⟨oc, od, .func (PySem.W.fnOf x x pg bg sg dV kV doc pm an cdv ct), osl⟩) (hcg : PySem.W.codeIn X.K cdv x = true)
    (hb : L2.Binds X.K (PySem.W.fnOf x x pg bg sg dV kV doc pm an cdv ct) [a] []) (Sg : FnScope Ng [a] sg) (hNg : Ng[0]? = some a) (hva : Vis sg a) (hG : GivesN X Ng x sg g cdv bg a (X.env.qual ++ "<lambda>") TT)
    (TB : LamX.TabB X.base X.mg c P) (hcode : X.env.code = .ref c) (hmT : (P, X.env.qual ++ "<lambda>") ∈ T) (hu : ∀ p ∈ T, p.1 = P → p.2 = X.env.qual ++ "<lambda>") (hr : Room (k + 2) X.A) (L : LamX.LamS X.env.scope sc) (hdef : defaultsOf ps X.env = ([], []))
    (bind : ∀ (q : Str) (cl : List (Str × Addr)) (pm cv ctv : Value), bindArgs (PySem.W.kla_fn "<lambda>" q ps bd sc cl pm cv ctv) ⟨[], []⟩ = pure [])
    (body : ∀ (A : Around) (out : List Env) (s : Shared) (H : Hp) (E : XK) (f c' : Addr), Room k (A.deeper (LamX.lamEnv X sc s.heap.objs.size f c')) → PE (lamK X A out s H E sc f c') bd (t E))
    (hdb : (x == ("__debug__" : Str)) = false := by decide) (d1 : (a == ("__debug__" : Str)) = false := by decide) (d2 : (a == ("__classdict__" : Str)) = false := by decide) :
    PE X (.Call (.Name x p) [.Lambda ps bd sc lpos] [] pos) (LamX.tLam T TT t) := by
  constructor
  rintro pins s σ H Q I ⟨hT, h⟩
  refine wpAny_Call_Name_kw (ld_glob I hg hm (PySem.W.callWith_K (h₀ := X.base) I.ok.mod.kin hk ?_ (by rfl) (by rfl)) hdb)
  show wpAny _ _ (spliced ((false, eval (.Lambda ps bd sc lpos) X.env) :: backTo pos (starEach [] X.env))) _ _ s
  refine Calls.spliced_cons (LamX.lam_make2 I TB hcode hmT hu hT hdef (L.has I.ok) fun f c' pm' ctv G t' J eN T1 hf hfn hfr hco => Calls.spliced_nil ⟨J.kIn, ?_⟩)
  have run : codeAny (model X.prog X.w) X.A (.call (.ref g) ⟨[.ref f], []⟩) (CR C8.CX0 X.stack X.prog X.w G t' Q C8.E0) t' :=
    LamX.run_ofS (N := Ng) (ps := [a]) (us := [.ref f]) (vs := [.ref f]) lk hcg Sg hr J.env0 (hb t' [.ref f] J.kIn rfl) (.cons rfl .nil) rfl fun hr' => by
      obtain ⟨tt, h1, h2⟩ := hG f c' t' G Q (fun E H' Q' => t E σ H' Q') (fun W pn xe E p1 p2 tk hW => lam_act (i := 0) J L hf hfn hfr (bind _ _ _ _ _) tk hW hr' (fun A out s H r2 => body A out s H E f c' r2) hNg hva d1 d2) hco (h G eN T1)
      exact ⟨tt, h1.nox, h2⟩
  refine wpAny_call (codeAny_mono run fun y t2 hq => ?_)
  match y, hq with
  | .error e, hq => exact False.elim hq
  | .ok (.ret u), hq => exact J.after hq
end
end DL
/-! The data layer, part 17: a lambda handed to a def, defs whose code object is known, recursion. -/
namespace DL
open PySem PySem.Spec PyProof.Rows L2
/-- s0 where nothing is raised, else the error's word -/
def dHeard (i : Nat) (s0 : Str) (wd : Str → Option Str) (fb : EF) : EF := fun δ h => match δ[i]? with
  | some .am => match fb δ h with
    | .ok _ h' => .ok (.str s0) h'
    | .exc x h' => match x.pay, wd x.cls with
      | none, some w => .ok (.str w) h'
      | _, _ => .no
    | .no => .no
  | _ => .no
section
variable {T : List (Addr × Str)} {CL : Str → Option Addr} {W : WX} {X : Cx} {pos : Pos} {a b c tg iter elt : Expr} {fa fb fc : EF} {f g : SF}
theorem e_heard {i : Nat} {s0 : Str} {wd : Str → Option Str} {x ar : Str} {g c P : Addr} {k : Nat} {pg : Arguments} {bg : List Stmt} {sg : Scope} {dV kV doc pm cdv ct oc : Value} {an od : Option Addr} {osl : Array (Option Value)} {Ng : List Str}
    {params : Arguments} {body : Expr} {scope : Scope} {p lpos : Pos} (hg : Gl X x) (hm : X.mg x = some (.ref g)) (hk : PySem.W.keepIn X.K (.ref g) = true)
    (lk : X.K.lookup g = some ⟨oc, od, .func (PySem.W.fnOf x x pg bg sg dV kV doc pm an cdv ct), osl⟩) (hcg : PySem.W.codeIn X.K cdv x = true) (hb : L2.Binds X.K (PySem.W.fnOf x x pg bg sg dV kV doc pm an cdv ct) [ar] []) (Sg : FnScope Ng [ar] sg) (hNg : Ng[0]? = some ar) (hva : Vis sg ar)
    (hG : GivesN X Ng x sg g cdv bg ar (X.env.qual ++ "<lambda>") (TTh CL s0 wd))
    (TB : LamX.TabB X.base X.mg c P) (hcode : X.env.code = .ref c) (hmT : (P, X.env.qual ++ "<lambda>") ∈ T) (hu : ∀ p ∈ T, p.1 = P → p.2 = X.env.qual ++ "<lambda>") (hr : Room (k + 2) X.A) (L : LamX.LamS X.env.scope scope) (hdef : defaultsOf params X.env = ([], []))
    (hbind : ∀ (q : Str) (cl : List (Str × Addr)) (pm cv ctv : Value), bindArgs (PySem.W.kla_fn "<lambda>" q params body scope cl pm cv ctv) ⟨[], []⟩ = pure [])
    (hs0 : strOkL s0 = true) (hsw : ∀ n w, wd n = some w → strOkL w = true)
    (hbody : ∀ (A : Around) (outer : List Env) (s : Shared) (H : Hp) (E : XK) (f c' : Addr), Room k (A.deeper (LamX.lamEnv X scope s.heap.objs.size f c')) → ED T CL (fun cls d _ H' => E cls d H') (lamK X A outer s H E scope f c') .D body fb)
    (hdb : (x == ("__debug__" : Str)) = false := by decide) (hd : (ar == ("__debug__" : Str)) = false := by decide) (hcd : (ar == ("__classdict__" : Str)) = false := by decide) :
    ED T CL W X .N (.Call (.Name x p) [.Lambda params body scope lpos] [] pos) (dHeard i s0 wd fb) :=
  PE.imp (call_lam (T := T) (t := fun E => tE T CL (fun cls d _ H' => E cls d H') .D fb) hg hm hk lk hcg hb Sg hNg hva hG TB hcode hmT hu hr L hdef hbind hbody hdb hd hcd) fun σ H Q q => by
    obtain ⟨am, Oc, B, δ, h, y, q⟩ := of_tE q
    unfold dHeard at q
    revert q
    split
    · rename_i e0
      intro q
      obtain ⟨a, ea, _⟩ := y.sl i _ e0
      subst ea
      obtain ⟨w1, ⟨us, w2, w3⟩, w4⟩ := y.wd a rfl
      refine ⟨w4, fun H1 eN T1 => ?_⟩
      have ef : Eff (some a) H H1 := fun b o hb hc => eN b o hb fun ps z => (hc a rfl).2 (by rw [z]; trivial)
      have y1 := y.eff' ef (fun c hc => by
        cases hc
        exact ⟨w1, ⟨us, eN a _ w2 (fun _ z => nomatch z), w3.kp (Kp.eff0 ef y.amO)⟩, T1⟩ : Wd T (some a) (OO Oc σ δ) H1 h)
      unfold TTh
      refine tE_of y1 ?_
      revert q
      cases fb δ h with
      | no => exact fun z => z
      | ok d h' => exact fun q v H' e r => q _ H' (ef.trans e) (.inl ⟨r.1, .str _ (strOkL_len hs0) (strOkL_ok hs0), rfl⟩)
      | exc x h' =>
        simp only []
        cases hp : x.pay with
        | some p => exact fun z => z.elim
        | none =>
          cases hw : wd x.cls with
          | none => exact fun z => z.elim
          | some w =>
            intro q cls dd H' e wd' xr
            obtain ⟨C, hC, rfl, hdd⟩ := xr
            rw [hp] at hdd
            refine ⟨x.cls, C, w, hdd, rfl, hC, hw, fun H'' s2 => ?_⟩
            have ok := hsw _ _ hw
            exact q _ H'' ((ef.trans e).trans (Eff.same s2)) (.inl ⟨wd'.same s2 (fun _ _ _ _ z => z) y.amO, .str _ (strOkL_len ok) (strOkL_ok ok), rfl⟩)
    · exact fun z => z.elim
end
/-! ### a def whose code object is known -/
structure FunC (K : PySem.W.Frag) (x qual : Str) (st : Stmt) (f : Addr) (fd : FuncData) (c : Addr) : Prop where
  ex : ∃ (oc : Value) (od : Option Addr) (kV doc pm : Value) (an : Option Addr) (ct : Value) (osl : Array (Option Value)),
    fd = PySem.W.fnOf x qual (defArgs st) (defBody st) (defScope st) .none kV doc pm an (.ref c) ct ∧ K.lookup f = some ⟨oc, od, .func fd, osl⟩ ∧ PySem.W.codeIn K (.ref c) qual = true
  kp : PySem.W.keepIn K (.ref f) = true
theorem FunC.fun {K : PySem.W.Frag} {x qual : Str} {st : Stmt} {f : Addr} {fd : FuncData} {c : Addr} (F : FunC K x qual st f fd c) : Fun K x qual st f fd := by
  obtain ⟨oc, od, kV, doc, pm, an, ct, osl, h1, h2, h3⟩ := F.ex
  exact ⟨⟨oc, od, kV, doc, pm, an, _, ct, osl, h1, h2, h3⟩, F.kp⟩
section
variable {T : List (Addr × Str)} {CL : Str → Option Addr}
variable {P : Program} {w : World} {K : PySem.W.Frag} {mg : Str → Option Value} {base : Heap}
theorem ok1C {x qual : Str} {st : Stmt} {f c : Addr} {fd : FuncData} {N ps : List Str} {k n : Nat} {g : SF} (F : FunC K x qual st f fd c) (S : FnScope N ps (defScope st)) (hn : ps.length = n + 1)
    (hb : ∀ (A : Around) (outer : List Env) (s : Shared) (H : Hp) (E : XK), Room k (A.deeper (envOfC qual (defScope st) s.heap.objs.size f (.ref c))) →
      SsD T CL (fun cls d _ H' => E cls d H') (cxOf (L2N.CX P w) P w K mg base N qual (defScope st) f (.ref c) A outer s H E) (defBody st) g) : FnOk P w K mg base (L2N.CX P w) (k + 1) f fd ps (sp1 T CL n (den1 N.length g)) := by
  obtain ⟨oc, od, kV, doc, pm, an, ct, osl, rfl, lk, hcd⟩ := F.ex
  refine fn_of lk hcd S (fun vs H Q E h => by rw [sp1_len h, hn]) fun A outer s H vs Q E hr h => ⟨_, hb A outer s H E hr, ?_⟩
  obtain ⟨O, a, ws, ds, h0, h1, dm, oa, wd, rfl, t, q⟩ := h
  have hpl : ps.length ≤ N.length := by have := congrArg List.length S.pre; rw [List.length_take] at this; omega
  have hno : ∀ i b, ¬ OwnAt (L2.start N (.ref a :: ws)) (env1 N.length ds) i b := fun i b ⟨⟨y, e⟩, _⟩ => by
    rcases env1_at e with ⟨_, z⟩ | ⟨_, _, _, _, z⟩ | z <;> cases z
  have hO : ∀ b, OO O (L2.start N (.ref a :: ws)) (env1 N.length ds) b → O b := fun b z => z.elim id fun ⟨i, z⟩ => absurd z (hno i b)
  have kp : Kp O (OO O (L2.start N (.ref a :: ws)) (env1 N.length ds)) H H := ⟨fun _ _ _ _ r => r, fun _ _ _ r => r, fun b _ _ _ z => hO b z⟩
  refine ⟨some a, O, ⟨H, fun _ => False⟩, env1 N.length ds, h0, ⟨?_, dm, wd.same (Same.refl H) (fun b _ _ _ z => hO b z) (fun c e => by cases e; exact .inl oa), (fun c e => by cases e; exact oa), fun i s hs => ?_, fun i j b z => absurd z (hno i b), fun i b z => absurd z (hno i b), fun i b z => absurd z (hno i b), fun b o e _ _ => e⟩, ?_⟩
  · unfold L2.start env1
    simp [t.length]
    omega
  · rcases env1_at hs with ⟨rfl, rfl⟩ | ⟨j, d, rfl, e, rfl⟩ | rfl
    · exact ⟨a, rfl, rfl⟩
    · obtain ⟨v, e1, e2⟩ := t.get e
      exact ⟨v, get_map_some (.ref a :: ws) _ (j + 1) (by simpa using e1), e2.kp kp⟩
    · trivial
  · have eff : ∀ {H'}, EffN ⟨H, fun _ => False⟩ (some a) H' → Eff (some a) H H' := fun e b o hb hc => e b o hb (fun z => z) hc
    have wback : ∀ {σ H' δ h}, At T (some a) O ⟨H, fun _ => False⟩ σ H' δ h → Wd T (some a) O H' h := fun y => y.wd.sub (fun _ z => .inl z) y.amc
    unfold den1 at q
    revert q
    cases g (env1 N.length ds) h0 with
    | nx δ h => exact fun q σ H' y => q _ H' (eff y.eff) (wback y) .non
    | rt d h => exact fun q v H' e w t => q v H' (eff e) w t
    | exc x δ h => exact fun q cls dd σ H' y z => q cls dd H' (eff y.eff) (wback y) z
    | bk δ h => exact fun q => q.elim
    | ct δ h => exact fun q => q.elim
    | no => exact fun q => q.elim
/-! ### a def that calls itself, by how often -/
theorem ok_no {f : Addr} {fd : FuncData} {ps : List Str} {k n : Nat} (hn : ps.length = n) : FnOk P w K mg base (L2N.CX P w) k f fd ps (sp0 CL n fun _ => .no) :=
  ⟨fun vs H Q E h => by rw [sp0_len h, hn], fun A outer s H args us vs Q E _ _ _ _ h => by
    obtain ⟨O, ds, _, _, _, q⟩ := h
    exact q.elim⟩
def recD (n : Nat) (F : (List PyData → Res0) → SF) : Nat → List PyData → Res0
  | 0 => fun _ => .no
  | k + 1 => den0 n (F (recD n F k))
end
end DL
/-! The data layer: lists walked while an error is handled (its own context is None). -/
namespace DL
open PySem PySem.Spec PyProof.Rows L2
open HotX L2H
section
variable {P : Program} {w : World} {A : Around} {E : Value → Shared → Prop} {s : Shared}
theorem size_ne {h : Heap} {b : Addr} {o u : Obj} (e : h.get? b = some o) : (h.push u).objs.size ≠ b :=
  Nat.ne_of_gt (Nat.lt_of_lt_of_le (Heap.lt_size e) (Heap.size_push h u ▸ Nat.le_succ _))
/-- a list's end -/
theorem list_end_hot {it l x1 : Addr} {i : Nat} {items : Array Value} {Q : Option Value → Shared → Prop} (hot : HotAt A x1 s.heap) (hne : x1 ≠ it) (hit : s.heap.IsListIter it l i) (hl : s.heap.IsList l items) (hx : items[i]? = none)
    (hQ : ∀ h', Heap.ExtBut it s.heap h' → Q none { s with heap := h' }) : wpAny (model P w) A (pyNext (.ref it)) Q E s := by
  obtain ⟨hh, o1, vs1, g1, d1, c1⟩ := hot
  have ty := hit.typeIs
  obtain ⟨oi, gi, ci, di⟩ := id hit
  obtain ⟨ol, gl, _, nl, dl⟩ := hl
  unfold pyNext
  refine wpAny_bind (wpAny_attempt (wpAny_callSpecial?_slot (name := Str.ofString "__next__") ty slot_listiter_next (wpAny_call_entry slot_listiter_next ty entry_listiter_next ?_ (args_listiter_next _))))
  show wpAny _ _ (field (.ref it) 0 >>= _) _ _ s
  refine wpAny_bind (wpAny_field gi di (x := .ref l) rfl ?_)
  show wpAny _ _ (if (Value.ref l == Value.none) = true then _ else _) _ _ s
  rw [if_neg (show ¬ ((Value.ref l == Value.none) = true) from Bool.false_ne_true)]
  show wpAny _ _ (field (.ref it) 1 >>= _) _ _ s
  refine wpAny_bind (wpAny_field gi di (x := .int i 0) rfl ?_)
  show wpAny _ _ (seqItems? (.ref l) >>= _) _ _ s
  refine wpAny_bind (wpAny_seqItems gl dl ?_)
  simp only [Int.toNat_natCast, hx]
  refine wpAny_bind (wpAny_rule (wpAny_bind (wpAny_setField gi di (by simp) ?_)))
  have k1 : (s.heap.update it (Obj.mapFields (·.setIfInBounds 0 Value.none))).get? x1 = some o1 := by rw [Heap.get?_update_other _ _ (Ne.symm hne)]; exact g1
  show wpAny _ _ (newExc (.type "StopIteration") [] >>= _) _ _ _
  refine wpAny_bind ?_
  simp only [newExc, newTuple]
  refine wpAny_bind (wpAny_newObj_type ?_ (by size_fits))
  refine wpAny_bind (m := firstArgMember _ _) (wpAny_of_eq (a := Value.none) (by first | rfl | (simp only [firstArgMember]; rfl)) ?_)
  refine wpAny_newObj_type ?_ (by size_fits)
  refine raiseNew_hot ⟨hh, o1, vs1, Heap.get?_push_of_some _ (Heap.get?_push_of_some _ k1), d1, c1⟩ (Ne.symm (size_ne k1)) (Heap.get?_push_size _ rfl) rfl (by first | (simp; done) | (simp; omega) | (simp only [Array.size_append]; simp; omega)) ?_
  refine wpAny_bind (wpAny_isInstance (T := "StopIteration") (b := true) ⟨_, Heap.get?_update_self _ (Heap.get?_push_size _ rfl) rfl, rfl⟩ isSubtype_stop ?_)
  refine wpAny_pure (hQ _ fun b o nb e => ?_)
  have e1 : (s.heap.update it (Obj.mapFields (·.setIfInBounds 0 Value.none))).get? b = some o := by rw [Heap.get?_update_other _ _ (Ne.symm nb)]; exact e
  rw [Heap.get?_update_other _ _ (size_ne e1)]
  exact Heap.get?_push_of_some _ (Heap.get?_push_of_some _ e1)
end
/-- a tuple's end -/
theorem tup_end_hot {P : Program} {w : World} {A : Around} {E : Value → Shared → Prop} {s : Shared} {it l x1 : Addr} {i : Nat} {items : Array Value} {Q : Option Value → Shared → Prop} (hot : HotAt A x1 s.heap) (hne : x1 ≠ it) (hit : s.heap.IsTupleIter it l i) (hl : s.heap.IsTuple l items) (hx : items[i]? = none)
    (hQ : ∀ h', Heap.ExtBut it s.heap h' → Q none { s with heap := h' }) : wpAny (model P w) A (pyNext (.ref it)) Q E s := by
  obtain ⟨hh, o1, vs1, g1, d1, c1⟩ := hot
  have ty := hit.typeIs
  obtain ⟨oi, gi, ci, di⟩ := id hit
  obtain ⟨ol, gl, _, nl, dl⟩ := hl
  unfold pyNext
  refine wpAny_bind (wpAny_attempt (wpAny_callSpecial?_slot (name := Str.ofString "__next__") ty F.slot_tuple_iterator_next (wpAny_call_entry F.slot_tuple_iterator_next ty F.entry_tuple_iterator_next ?_ (F.args_tuple_iterator_next_1 _))))
  show wpAny _ _ (field (.ref it) 0 >>= _) _ _ s
  refine wpAny_bind (wpAny_field gi di (x := .ref l) rfl ?_)
  show wpAny _ _ (if (Value.ref l == Value.none) = true then _ else _) _ _ s
  rw [if_neg (show ¬ ((Value.ref l == Value.none) = true) from Bool.false_ne_true)]
  show wpAny _ _ (field (.ref it) 1 >>= _) _ _ s
  refine wpAny_bind (wpAny_field gi di (x := .int i 0) rfl ?_)
  show wpAny _ _ (seqItems? (.ref l) >>= _) _ _ s
  refine wpAny_bind (wpAny_seqItems gl dl ?_)
  simp only [Int.toNat_natCast, hx]
  refine wpAny_bind (wpAny_rule (wpAny_bind (wpAny_setField gi di (by simp) ?_)))
  have k1 : (s.heap.update it (Obj.mapFields (·.setIfInBounds 0 Value.none))).get? x1 = some o1 := by rw [Heap.get?_update_other _ _ (Ne.symm hne)]; exact g1
  show wpAny _ _ (newExc (.type "StopIteration") [] >>= _) _ _ _
  refine wpAny_bind ?_
  simp only [newExc, newTuple]
  refine wpAny_bind (wpAny_newObj_type ?_ (by size_fits))
  refine wpAny_bind (m := firstArgMember _ _) (wpAny_of_eq (a := Value.none) (by first | rfl | (simp only [firstArgMember]; rfl)) ?_)
  refine wpAny_newObj_type ?_ (by size_fits)
  refine raiseNew_hot ⟨hh, o1, vs1, Heap.get?_push_of_some _ (Heap.get?_push_of_some _ k1), d1, c1⟩ (Ne.symm (size_ne k1)) (Heap.get?_push_size _ rfl) rfl (by first | (simp; done) | (simp; omega) | (simp only [Array.size_append]; simp; omega)) ?_
  refine wpAny_bind (wpAny_isInstance (T := "StopIteration") (b := true) ⟨_, Heap.get?_update_self _ (Heap.get?_push_size _ rfl) rfl, rfl⟩ isSubtype_stop ?_)
  refine wpAny_pure (hQ _ fun b o nb e => ?_)
  have e1 : (s.heap.update it (Obj.mapFields (·.setIfInBounds 0 Value.none))).get? b = some o := by rw [Heap.get?_update_other _ _ (Ne.symm nb)]; exact e
  rw [Heap.get?_update_other _ _ (size_ne e1)]
  exact Heap.get?_push_of_some _ (Heap.get?_push_of_some _ e1)
theorem turn_listH {P : Program} {w : World} {K : PySem.W.Frag} {tg : Expr} (a it : Addr) : TurnH P w K tg (Itl K a) [it] it (fun i h => h.IsListIter it a i) where
  mem := (turn_list (P := P) (w := w) (K := K) (tg := tg) a it).mem
  obj := (turn_list (P := P) (w := w) (K := K) (tg := tg) a it).obj
  keep := (turn_list (P := P) (w := w) (K := K) (tg := tg) a it).keep
  self := (turn_list (P := P) (w := w) (K := K) (tg := tg) a it).self
  item := by
    rintro X rfl rfl rfl hc i pins s σ H E I hf st ⟨xs, x, hq, hx⟩
    obtain ⟨its, rv, p, hz⟩ := I.list hq
    obtain ⟨u, hu, ru⟩ := rv.get hx
    obtain ⟨f0, f1, f2, f3, f4, f5⟩ := hf it (by simp)
    refine wpAny_pyNext_list_item st p.isList (x := u) (by simpa using hu) fun h' st' sb => ?_
    obtain ⟨o, e, c, d⟩ := id st'
    have J : Inv X pins σ H { s with heap := h' } := I.turned (t' := s.toks) (fun b o hb e => (sb.2 b hb).trans e) f0 f1 f3 f4 f5
    exact ⟨u, rfl, go_of (s := { s with heap := h' }) e c d (by decide) ⟨x, H, J, ru, ⟨rfl, fun ys hy => I.list_inj hy hq ▸ hx⟩, st', fun b hb => (hf b hb).1⟩⟩
  done := by
    rintro X rfl rfl rfl hc i pins s σ H E I hf st ⟨xs, hq, hx⟩
    obtain ⟨its, rv, p, hz⟩ := I.list hq
    obtain ⟨f0, f1, f2, f3, f4, f5⟩ := hf it (by simp)
    obtain ⟨q, ⟨hh, v1, e1, c1⟩, hp⟩ := hc
    have hl := rv.length
    exact list_end_hot (x1 := q.1) ⟨hh, q.2, v1, (I.pin q (List.mem_append_left _ hp)).1, e1, c1⟩ (f5 q (List.mem_append_left _ hp)) st p.isList (by simp; omega) fun h' eb => ⟨rfl, I.turned (t' := s.toks) (fun b o hb e => eb b o hb e) f0 f1 f3 f4 f5⟩
theorem pi_listH {X : Cx} {tg l : Expr} {tl : TE} (hl : PE X l tl) : PIH X tg l (iList X.K tl) := by
  constructor
  intro pins s σ H R I h
  refine thn (hl.run pins s σ H _ I h) fun v s1 ⟨x, G, J, r1, a, e, ⟨xs, hq⟩, q⟩ => ?_
  subst e
  cases r1
  obtain ⟨its, rv, p, hz⟩ := J.list hq
  refine wpAny_pyIter_list p.isList ⟨s1.heap.objs.size, [s1.heap.objs.size], _, _, G, rfl, J.kept (t' := s1.toks) fun b o e => Heap.get?_push_of_some _ e, turn_listH a _, ⟨_, Heap.get?_push_size _ rfl, rfl, rfl⟩, fun b hb => ?_, q⟩
  rw [List.mem_singleton.mp hb]
  exact J.fpOk (Nat.le_refl _) (J.hok.fresh (Nat.le_refl _))
theorem turn_tupH {P : Program} {w : World} {K : PySem.W.Frag} {tg : Expr} (a it : Addr) : TurnH P w K tg (Itt K a) [it] it (fun i h => h.IsTupleIter it a i) where
  mem := (turn_tuple (P := P) (w := w) (K := K) (tg := tg) a it).mem
  obj := (turn_tuple (P := P) (w := w) (K := K) (tg := tg) a it).obj
  keep := (turn_tuple (P := P) (w := w) (K := K) (tg := tg) a it).keep
  self := (turn_tuple (P := P) (w := w) (K := K) (tg := tg) a it).self
  item := by
    rintro X rfl rfl rfl hc i pins s σ H E I hf st ⟨xs, x, hq, hx⟩
    obtain ⟨its, rv, p, hz⟩ := I.tuple hq
    obtain ⟨u, hu, ru⟩ := rv.get hx
    obtain ⟨f0, f1, f2, f3, f4, f5⟩ := hf it (by simp)
    refine wpAny_pyNext_tuple_item st (show s.heap.IsTuple a its.toArray from p) (x := u) (by simpa using hu) fun h' st' sb => ?_
    obtain ⟨o, e, c, d⟩ := id st'
    have J : Inv X pins σ H { s with heap := h' } := I.turned (t' := s.toks) (fun b o hb e => (sb.2 b hb).trans e) f0 f1 f3 f4 f5
    exact ⟨u, rfl, go_of (s := { s with heap := h' }) e c d (by decide) ⟨x, H, J, ru, ⟨rfl, fun ys hy => I.tuple_inj hy hq ▸ hx⟩, st', fun b hb => (hf b hb).1⟩⟩
  done := by
    rintro X rfl rfl rfl hc i pins s σ H E I hf st ⟨xs, hq, hx⟩
    obtain ⟨its, rv, p, hz⟩ := I.tuple hq
    obtain ⟨f0, f1, f2, f3, f4, f5⟩ := hf it (by simp)
    obtain ⟨q, ⟨hh, v1, e1, c1⟩, hp⟩ := hc
    have hl := rv.length
    exact tup_end_hot (x1 := q.1) ⟨hh, q.2, v1, (I.pin q (List.mem_append_left _ hp)).1, e1, c1⟩ (f5 q (List.mem_append_left _ hp)) st (show s.heap.IsTuple a its.toArray from p) (by simp; omega) fun h' eb => ⟨rfl, I.turned (t' := s.toks) (fun b o hb e => eb b o hb e) f0 f1 f3 f4 f5⟩
theorem pi_tupH {X : Cx} {tg l : Expr} {tl : TE} (hl : PE X l tl) : PIH X tg l (iTup X.K tl) := by
  constructor
  intro pins s σ H R I h
  refine thn (hl.run pins s σ H _ I h) fun v s1 ⟨x, G, J, r1, a, e, ⟨xs, hq⟩, q⟩ => ?_
  subst e
  cases r1
  obtain ⟨its, rv, p, hz⟩ := J.tuple hq
  refine wpAny_pyIter_tuple (show s1.heap.IsTuple a its.toArray from p) ⟨s1.heap.objs.size, [s1.heap.objs.size], _, _, G, rfl, J.kept (t' := s1.toks) fun b o e => Heap.get?_push_of_some _ e, turn_tupH a _, ⟨_, Heap.get?_push_size _ rfl, rfl, rfl⟩, fun b hb => ?_, q⟩
  rw [List.mem_singleton.mp hb]
  exact J.fpOk (Nat.le_refl _) (J.hok.fresh (Nat.le_refl _))
/-- a, b = a tuple, in the suite -/
theorem assign_tup_hot {P : Program} {w : World} {A : Around} {E : Value → Shared → Prop} {s : Shared} {env : Env} {elts : List Expr} {x1 : Nat} {pos : Pos} {t e1 : Addr} {items : Array Value} {Q : Unit → Shared → Prop} (hot : HotAt A e1 s.heap) (ht : IsTup s.heap t items)
    (hn : (assignEach elts env).length = items.size) (hstar : (assignEach elts env).findIdx? (·.1) = none)
    (h : ∀ h', Heap.ExtBut s.heap.objs.size s.heap h' → wpAny (model P w) A (assignInOrder ((assignEach elts env).map (·.2)) items.toList) Q E { s with heap := h' }) :
    wpAny (model P w) A (assign (.Tuple elts x1 pos) env (.ref t)) Q E s := by
  obtain ⟨hh, o1, vs1, g1, d1, c1⟩ := hot
  have tlt : t ≠ s.heap.objs.size := by
    obtain ⟨o, e, _⟩ := ht
    exact Nat.ne_of_lt (Heap.lt_size e)
  rw [assign_Tuple]
  refine wpAny_bind (wpAny_standAt ?_)
  unfold unpack
  rw [hn, hstar]
  refine wpAny_bind (wpAny_holding ?_)
  unfold unpackItems
  refine wpAny_bind ?_
  unfold notIterableAtAll
  refine wpAny_bind (wpAny_specialOf ht.typeIs slot_tuple_iter.lookup (wpAny_pure ?_))
  simp only [Bool.false_eq_true, if_false]
  refine wpAny_bind (wpAny_holding (iter_tuple ht ?_))
  refine wpAny_bind (wpAny_holding (draw_tuple tlt items.size 0 _ _ ⟨_, Heap.get?_push_size _ rfl, rfl, rfl⟩ (ht.push _) (by omega) fun g1' it1 sb => ?_))
  rw [List.drop_zero, List.take_of_length_le (by simp), if_neg (by simp)]
  have k1 : g1'.get? e1 = some o1 := sb.extBut e1 o1 (Nat.ne_of_lt (Heap.lt_size g1)) (Heap.get?_push_of_some _ g1)
  refine wpAny_bind (wpAny_holding (tup_end_hot (x1 := e1) ⟨hh, o1, vs1, k1, d1, c1⟩ (Nat.ne_of_lt (Heap.lt_size g1)) it1 ((ht.push _).extBut sb.extBut tlt) (by simp) fun g2 ex => ?_))
  simp only [Option.isSome_none, Bool.false_eq_true, if_false]
  exact wpAny_pure (h g2 fun b o hb e => ex b o hb (sb.extBut b o hb (Heap.get?_push_of_some _ e)))
theorem pg_tupH {X : Cx} {es : List Expr} {k : Nat} {t : TGs} {n : Nat} {pos : Pos} (hc : HotC X) (h : PGs X es t) (hn : (assignEach es X.env).length = n := by rfl) (hst : (assignEach es X.env).findIdx? (·.1) = none := by rfl) : PG X (.Tuple es k pos) (gTup X.K n t) := by
  constructor
  rintro pins s σ H v u Q I r ⟨a, xs, rfl, hq, hl, hw⟩
  cases r
  obtain ⟨its, rv, ht, hz⟩ := I.tuple hq
  obtain ⟨x1, hot⟩ := hc.at I
  refine assign_tup_hot hot ht (by simp [hn, ← hl, rv.length]) hst fun h' hx => ?_
  have J : Inv X pins σ H { s with heap := h' } := I.kept (t' := s.toks) fun b o e => hx b o (Nat.ne_of_lt (Heap.lt_size e)) e
  exact h.run pins _ σ H xs _ Q J (by simpa using rv) hw
end DL
/-! The data layer: a list comprehension over a list while an error is handled. -/
namespace DL
open PySem PySem.Spec PyProof.Rows L2
open HotX L2H
/-- the comprehension's block there -/
abbrev blkH (X : Cx) (s : Shared) (H : Hp) (sc : Scope) (ce : Env) (fp : List Addr) : Cx := (X.blk s H sc ce fp).tr X.pn fun _ _ => False
section
variable {X : Cx} {pins : List (Addr × Obj)} {σ : L2.St} {H : Hp} {s : Shared}
theorem blk_hot {sc : Scope} {own : List (Str × Nat)} {fp : List Addr} (I : Inv X pins σ H s) (hst : X.stack = X.env :: X.outer) (hfr : X.env.frame = some X.env.locals) (ok : BlkOk X.N X.env.scope sc own) (hN : X.N.Nodup) (f : ∀ b ∈ fp, FpOk X pins H b ∧ b < s.heap.objs.size) :
    Inv (blkH X s H sc (compEnvC sc (cellsFrom (s.heap.objs.size + 1) sc.names (cloFrom X.env.cells sc.names [])) s.heap.objs.size X.env) fp) [] (wipe σ (own.map (·.2))) H { s with heap := pushCells (s.heap.push { cls := .type "dict", data := .dict #[] }) sc.names } := by
  have J := block_start I ok hN f
  refine ⟨J.ok.toTry _ _, J.os, J.bare, J.base, J.loc, J.cell, J.free, J.freeC, fun p hp => ?_, J.hok, J.len⟩
  have hp : p ∈ X.pn := by simpa using hp
  obtain ⟨a1, a2, a3, a4, a5⟩ := I.pin p (List.mem_append_left _ hp)
  refine ⟨pushCells_keeps _ _ _ _ (Heap.get?_push_of_some _ a1), a2, Nat.ne_of_lt (Heap.lt_size a1), fun hm => ?_, a5⟩
  have hm : p.1 ∈ frs X.stack := hm
  rw [hst] at hm
  obtain ⟨e, he, q⟩ := List.mem_filterMap.mp hm
  rcases List.mem_cons.mp he with z | z
  · subst z
    rw [hfr] at q
    exact a3 (Option.some.inj q).symm
  · exact a4 (List.mem_filterMap.mpr ⟨e, z, q⟩)
theorem lc_hot {elt tg iter : Expr} {ifs : List Expr} {sc : Scope} {own : List (Str × Nat)} {pos pos' : Pos} {wi : TI} {g : TG} {tt : TT} {te : TE} {use : Option (Value → Sem Unit)} {Qf : Value → Shared → Prop} {Q : VK} (hc : HotC X) (hst : X.stack = X.env :: X.outer) (hfr : X.env.frame = some X.env.locals) (hN : X.N.Nodup) (hi : PIH X tg iter wi) (ok : BlkOk X.N X.env.scope sc own)
    (hg : ∀ (s : Shared) (H : Hp) (C : Addr) (cl : List (Str × Addr)) (fp : List Addr), PG (blkH X s H sc (compEnvC sc cl C X.env) fp) tg g)
    (ht : ∀ (s : Shared) (H : Hp) (C : Addr) (cl : List (Str × Addr)) (fp : List Addr), PTs (blkH X s H sc (compEnvC sc cl C X.env) fp) ifs tt)
    (he : ∀ (s : Shared) (H : Hp) (C : Addr) (cl : List (Str × Addr)) (fp : List Addr), PE (blkH X s H sc (compEnvC sc cl C X.env) fp) elt te) (hs : ∀ x, foldedSetIterable iter X.env x = pure x)
    (I : Inv X pins σ H s) (h : tLc wi g tt te (own.map (·.2)) σ H Q)
    (hR : ∀ (D C : Addr) (s' : Shared) (m : Str → Option Value) (H' : Hp), Inv X pins σ H' s' → Q (.ref D) H' → s'.heap.Ns C m → FpOk X pins H' C → compPost (model X.prog X.w) X.A X.xe use Qf (.ref D) C (.ok .next) s') :
    wpAny (model X.prog X.w) X.A (comprehension (.ListComp elt [⟨tg, iter, ifs, 0⟩] sc pos) sc X.env pos' (newList []) false (eval iter X.env) use) Qf X.xe s := by
  have free : ∀ y ∈ sc.names, y.2 = .free → ∃ c, X.env.cells.lookup y.1 = some c := fun y hy e => I.ok.has _ (ok.free y hy e)
  refine wpAny_comprehension_free (use := use) rfl hs (closure_ok free) ok.kind (fun y hy e => by rw [ok.uniq y hy, e]) (thn (hi.run pins s σ H _ I h) fun xv s1 hx => thn hx fun itv s2 ⟨it, fp, tn, J, G, e, I2, T, st2, f2, q⟩ => ?_)
  subst e
  refine wpAny_newObj_type (newEnv_comp ?_) (by show 0 ≤ sizeLine; decide)
  generalize eD : s2.heap.objs.size = D
  have gD : G D = none := I2.hok.fresh (Nat.le_of_eq eD)
  obtain ⟨W, ⟨m0, w0⟩, turn⟩ := q D gD
  generalize e3 : ({ s2 with heap := s2.heap.push { cls := .type "list", data := .seq ([] : List Value).toArray } } : Shared) = s3
  have I3 : Inv X pins σ (upd G D (.lst [])) s3 := by
    subst e3
    exact I2.laid (t' := s2.toks) (fun b o e => Heap.get?_push_of_some _ e) (Nat.le_of_eq eD) ⟨Nat.zero_le _, [], 0, .nil, eD ▸ Heap.get?_push_size _ rfl⟩
  have h3 : s3.heap = s2.heap.push { cls := .type "list", data := .seq ([] : List Value).toArray } := by subst e3; rfl
  have f3 : ∀ b ∈ fp, FpOk X pins (upd G D (.lst [])) b ∧ b < s3.heap.objs.size := fun b hb => by
    obtain ⟨o, eo, _⟩ := T.obj _ _ st2 b hb
    have lt := Heap.lt_size eo
    refine ⟨⟨?_, (f2 b hb).2⟩, by rw [h3, Heap.size_push]; exact Nat.lt_succ_of_lt lt⟩
    rw [upd_ne (eD ▸ Nat.ne_of_lt lt)]
    exact (f2 b hb).1
  have st3 : tn 0 s3.heap := T.keep _ _ _ st2 fun b _ o e => by rw [h3]; exact Heap.get?_push_of_some _ e
  have I4 := blk_hot I3 hst hfr ok hN f3
  have pg := hg s3 (upd G D (.lst [])) s3.heap.objs.size (cellsFrom (s3.heap.objs.size + 1) sc.names (cloFrom X.env.cells sc.names [])) fp
  have pt := ht s3 (upd G D (.lst [])) s3.heap.objs.size (cellsFrom (s3.heap.objs.size + 1) sc.names (cloFrom X.env.cells sc.names [])) fp
  have pe := he s3 (upd G D (.lst [])) s3.heap.objs.size (cellsFrom (s3.heap.objs.size + 1) sc.names (cloFrom X.env.cells sc.names [])) fp
  show codeAny _ _ (.compStart (.ListComp elt [⟨tg, iter, ifs, 0⟩] sc pos) 0 (.ref it) (.ref D) (compEnvC sc (cellsFrom (s3.heap.objs.size + 1) sc.names (cloFrom X.env.cells sc.names [])) s3.heap.objs.size X.env)) (compPost (model X.prog X.w) X.A X.xe use Qf (.ref D) s3.heap.objs.size) { s3 with heap := pushCells (s3.heap.push { cls := .type "dict", data := .dict #[] }) sc.names }
  generalize ec : compEnvC sc (cellsFrom (s3.heap.objs.size + 1) sc.names (cloFrom X.env.cells sc.names [])) s3.heap.objs.size X.env = ce at I4 pg pt pe ⊢
  have cL : ce.locals = s3.heap.objs.size := by subst ec; rfl
  generalize eG : upd G D (.lst []) = G3 at I3 I4 pg pt pe w0 f3
  generalize e4 : ({ s3 with heap := pushCells (s3.heap.push { cls := .type "dict", data := .dict #[] }) sc.names } : Shared) = s4 at I4 ⊢
  have st4 : tn 0 s4.heap := T.keep _ _ _ st3 fun b _ o e => by subst e4; exact pushCells_keeps _ _ _ _ (Heap.get?_push_of_some _ e)
  have stat : ∀ {σ' : L2.St} {H' : Hp} {s' : Shared}, Inv (blkH X s3 G3 sc ce fp) [] σ' H' s' → (∀ b ∈ fp, H' b = none) → ∀ b ∈ fp, FpOk (blkH X s3 G3 sc ce fp) [] H' b := fun {σ' H' s'} I' n b hb =>
    ⟨n b hb, (I'.ok.exf b hb).1, I'.ok.exfs b hb, .inl hb, (I'.ok.exf b hb).2, fun p hp => (f2 b hb).2.2.2.2.2 p (List.mem_append_left _ (by simpa using hp))⟩
  have hcb : HotC (blkH X s3 G3 sc ce fp) := hc
  have back : ∀ {H5 : Hp} {s6 : Shared}, Inv (blkH X s3 G3 sc ce fp) [] (wipe σ (own.map (·.2))) H5 s6 → Q (.ref D) H5 → compPost (model X.prog X.w) X.A X.xe use Qf (.ref D) s3.heap.objs.size (.ok .next) s6 := fun {H5 s6} I6 qq => by
    have I7 : Inv X pins σ H5 s6 := I3.call' (ch := fp) I6.os I6.base I6.hok I6.bare fun b hb => ⟨(f3 b hb).1.2.2.2.1, (f3 b hb).1.2.1, (f3 b hb).1.2.2.2.2.1, (f3 b hb).1.2.2.2.2.2⟩
    have nC : H5 s3.heap.objs.size = none := cL ▸ (show H5 ce.locals = none from I6.free)
    obtain ⟨m, hn, _⟩ := I6.loc
    exact hR D s3.heap.objs.size s6 m H5 I7 qq (cL ▸ (show s6.heap.Ns ce.locals m from hn)) (I3.fpOk (Nat.le_refl _) nC)
  have loop : codeAny (model X.prog X.w) X.A (.compLoop (.ListComp elt [⟨tg, iter, ifs, 0⟩] sc pos) 0 (.ref it) (.ref D) ce) (compPost (model X.prog X.w) X.A X.xe use Qf (.ref D) s3.heap.objs.size) s4 := by
    refine compLoop_any (fun n s' => ∃ i H', Inv (blkH X s3 G3 sc ce fp) [] (wipe σ (own.map (·.2))) H' s' ∧ tn i s'.heap ∧ (∀ b ∈ fp, H' b = none) ∧ W i n H') ?_ m0 ⟨0, G3, I4, st4, fun b hb => (f3 b hb).1.1, w0⟩
    rintro n s5 ⟨i, H5, I5, st5, n5, w5⟩
    rcases turn i n H5 w5 with ⟨stop, qq⟩ | ⟨go, Nx, hNx, step⟩
    · refine thnF (T.done (blkH X s3 G3 sc ce fp) rfl rfl rfl hcb i [] s5 _ H5 (fun _ _ => False) I5 (stat I5 n5) st5 stop) fun r s6 ⟨hr, I6⟩ => ?_
      subst hr
      exact back I6 qq
    · refine thnF (T.item (blkH X s3 G3 sc ce fp) rfl rfl rfl hcb i [] s5 _ H5 (fun _ _ => False) I5 (stat I5 n5) st5 go) fun r s6 ⟨u, hr, h6⟩ => ?_
      subst hr
      refine thnF h6 fun _ s7 ⟨x, H7, I7, r7, y7, st7, n7⟩ => ?_
      refine thnF (pg.run _ s7 _ H7 x u _ (I7.pinned (stat I7 n7) (T.obj _ _ st7)) r7 (step x H7 y7)) fun _ s8 ⟨σ8, H8, I8, hw8, q8⟩ => ?_
      refine thnF (pt.run _ s8 σ8 H8 _ I8 q8) fun b s9 ⟨H9, I9, q9⟩ => ?_
      have next : ∀ {s' : Shared} {H' : Hp}, Inv (blkH X s3 G3 sc ce fp) ([] ++ pinsAt fp s7.heap) σ8 H' s' → Nx H' → ∃ m, m < n ∧ ∃ i H', Inv (blkH X s3 G3 sc ce fp) [] (wipe σ (own.map (·.2))) H' s' ∧ tn i s'.heap ∧ (∀ b ∈ fp, H' b = none) ∧ W i m H' := fun {s' H'} I' nx => by
        obtain ⟨m', hm, w'⟩ := hNx H' nx
        have at' : ∀ b ∈ fp, ∀ o, s7.heap.get? b = some o → s'.heap.get? b = some o ∧ H' b = none := fun b hb o e =>
          have z := I'.pin (b, o) (List.mem_append_right _ (List.mem_append_right _ (mem_pinsAt hb e)))
          ⟨z.1, z.2.1⟩
        refine ⟨m', hm, i + 1, H', (I'.unpinned (pins := [])).weak (by rw [← hw8, wipe_length]) (fun j v e => ?_), T.keep _ _ _ st7 fun b hb o e => (at' b hb o e).1, fun b hb => ?_, w'⟩
        · rw [← hw8] at e
          exact (wipe_some e).1
        · obtain ⟨o, e, _⟩ := T.obj _ _ st7 b hb
          exact (at' b hb o e).2
      cases b with
      | false =>
        simp only [Bool.false_eq_true, if_false] at q9 ⊢
        exact next I9 q9
      | true =>
        simp only [if_true] at q9 ⊢
        refine thnF (pe.run _ s9 σ8 H9 _ I9 q9) fun z s10 ⟨yv, H10, I10, r10, acc, hD10, hz10, nx⟩ => ?_
        exact L2.app_ok (X := blkH X s3 G3 sc ce fp) I10 hD10 hz10 r10 fun s11 I11 => next I11 nx
  exact codeAny_compStart_list loop (T.self X.A 0 _ _ _ st4 loop)
section
variable {elt tg iter : Expr} {ifs : List Expr} {sc : Scope} {own : List (Str × Nat)} {pos : Pos} {wi : TI} {g : TG} {tt : TT} {te : TE}
theorem pe_lcH (hc : HotC X) (hst : X.stack = X.env :: X.outer) (hfr : X.env.frame = some X.env.locals) (hN : X.N.Nodup) (hi : PIH X tg iter wi) (ok : BlkOk X.N X.env.scope sc own)
    (hg : ∀ (s : Shared) (H : Hp) (C : Addr) (cl : List (Str × Addr)) (fp : List Addr), PG (blkH X s H sc (compEnvC sc cl C X.env) fp) tg g)
    (ht : ∀ (s : Shared) (H : Hp) (C : Addr) (cl : List (Str × Addr)) (fp : List Addr), PTs (blkH X s H sc (compEnvC sc cl C X.env) fp) ifs tt)
    (he : ∀ (s : Shared) (H : Hp) (C : Addr) (cl : List (Str × Addr)) (fp : List Addr), PE (blkH X s H sc (compEnvC sc cl C X.env) fp) elt te) (hs : ∀ x, foldedSetIterable iter X.env x = pure x := by intro _; rfl) :
    PE X (.ListComp elt [⟨tg, iter, ifs, 0⟩] sc pos) (tLc wi g tt te (own.map (·.2))) := by
  constructor
  intro pins s σ H Q I h
  rw [eval_ListComp]
  refine lc_hot hc hst hfr hN hi ok hg ht he hs I h fun D C s' m G J q hn f => ⟨m, hn, fun h2 sb => ?_⟩
  obtain ⟨a0, a1, a2, a3, a4, a5⟩ := f
  exact ⟨.ref D, G, J.turned (t' := s'.toks) (fun b o hb e => (sb.2 b hb).trans e) a0 a1 a3 a4 a5, rfl, q⟩
theorem ps_setLcH {i : Nat} {y : Str} {py spos : Pos} (hc : HotC X) (hst : X.stack = X.env :: X.outer) (hfr : X.env.frame = some X.env.locals) (hN : X.N.Nodup) (hy : X.N[i]? = some y) (hyl : X.env.scope.names.lookup y = some .local)
    (hsw : swapsWith (.ListComp elt [⟨tg, iter, ifs, 0⟩] sc pos) (some (.Name y py)) spos.line X.env = pure true) (hi : PIH X tg iter wi) (ok : BlkOk X.N X.env.scope sc own)
    (hg : ∀ (s : Shared) (H : Hp) (C : Addr) (cl : List (Str × Addr)) (fp : List Addr), PG (blkH X s H sc (compEnvC sc cl C X.env) fp) tg g)
    (ht : ∀ (s : Shared) (H : Hp) (C : Addr) (cl : List (Str × Addr)) (fp : List Addr), PTs (blkH X s H sc (compEnvC sc cl C X.env) fp) ifs tt)
    (he : ∀ (s : Shared) (H : Hp) (C : Addr) (cl : List (Str × Addr)) (fp : List Addr), PE (blkH X s H sc (compEnvC sc cl C X.env) fp) elt te) (hs : ∀ x, foldedSetIterable iter X.env x = pure x := by intro _; rfl) :
    PS X (.Assign [.Name y py] (.ListComp elt [⟨tg, iter, ifs, 0⟩] sc pos) spos) (tAsg (tLc wi g tt te (own.map (·.2))) (gName i)) := by
  constructor
  intro pins s σ H D I h
  rw [exec_Assign_Name_used _ _ _ _ hsw]
  refine wpAny_bind (wpAny_standAt (wpAny_bind (wpAny_bind (thn (lc_hot (use := some (assign (.Name y py) X.env)) (Qf := fun _ s' => SP X pins D .next s') hc hst hfr hN hi ok hg ht he hs I h fun L C s' m G J q hn f => ?_) fun _ s' hq => wpAny_pure (wpAny_pure hq)))))
  show wpAny _ _ (assign (.Name y py) X.env (.ref L)) _ _ _
  refine wpAny_assign_Name (store_ok2 (v := V.ref L) J hN hy (.inl hyl) rfl (fun s2 I2 ⟨a, sb, ha⟩ => ?_) (.inr hyl))
  obtain ⟨a0, a1, a2, a3, a4, a5⟩ := f
  have ne : C ≠ a := by
    rcases ha with z | z
    · exact z ▸ a1
    · exact fun e => a4 y a z e.symm
  exact ⟨m, hn.sameBut sb ne, fun h3 sb3 => ⟨_, G, I2.turned (t' := s2.toks) (fun b o hb e => (sb3.2 b hb).trans e) a0 a1 a3 a4 a5, q⟩⟩
end
end
end DL
/-! The data layer: except X as n, where n is a cell (a comprehension in the suite reads it). -/
namespace DL
open PySem PySem.Spec PyProof.Rows L2
open HotX L2H
section
variable {X : Cx} {pins : List (Addr × Obj)} {σ : L2.St} {H : Hp} {s : Shared}
/-- a name's cell loses what it held -/
theorem Inv.uncell {i : Nat} {n : Str} {c : Addr} {h' : Heap} {w0 : Option Value} {tk : Nat} (I : Inv X pins σ H s) (hN : X.N.Nodup) (hi : X.N[i]? = some n) (hl : X.env.kindOf n = some .cell) (hfn : X.fn n = true) (hc : X.env.cells.lookup n = some c) (z : s.heap.IsCell c w0) (z' : h'.IsCell c none) (sb : Heap.SameBut c s.heap h') :
    Inv X pins (σ.set i none) H { s with heap := h', toks := tk } := by
  have cL : c ≠ X.env.locals := (I.cne n c hc)
  have cS : X.s_0.heap.objs.size ≤ c := I.ok.cab n c hfn hc
  have old : ∀ {b : Addr} {o : Obj}, X.s_0.heap.get? b = some o → h'.get? b = s.heap.get? b := fun {b o} e => sb.2 b (Nat.ne_of_lt (Nat.lt_of_lt_of_le (Heap.lt_size e) cS))
  obtain ⟨m, hn, hlk⟩ := I.loc
  obtain ⟨oc, goc, doc⟩ := id z
  refine ⟨I.ok, I.os, I.bare, ⟨fun b o e n1 n2 n3 => (old e).trans (I.base.keep b o e n1 n2 n3), fun b o e n1 n2 n3 => ?_, I.base.free, fun b o e n1 => ?_, I.base.tups, I.base.frzs, I.base.tbls⟩, ⟨m, hn.sameBut sb (Ne.symm cL), fun j y v e1 e2 e3 => ?_⟩, fun y d e => ?_, I.free, I.freeC, fun p hp => ?_, fun b ob e => ?_, by simpa using I.len⟩
  · obtain ⟨sl, q⟩ := I.base.slot b o e n1 n2 n3
    exact ⟨sl, (old e).trans q⟩
  · obtain ⟨o2, q⟩ := I.base.there b o e n1
    exact ⟨o2, (old e).trans q⟩
  · have ij : i ≠ j := by
      intro h
      subst h
      by_cases hlt : i < σ.length
      · rw [List.getElem?_set_self hlt] at e2; cases e2
      · rw [List.getElem?_eq_none (by simpa using hlt)] at e2; cases e2
    rw [List.getElem?_set_ne ij] at e2
    obtain ⟨u, r, q⟩ := hlk j y v e1 e2 e3
    refine ⟨u, r, q.imp id fun ⟨k, d, e, zz⟩ => ⟨k, d, e, zz.sameBut sb ?_⟩⟩
    intro h
    subst h
    have yn := I.ok.inj _ _ _ e hc
    subst yn
    exact ij (nodup_ix hN hi e1)
  · by_cases h : d = c
    · subst h
      exact ⟨_, z'⟩
    · obtain ⟨v, q⟩ := I.cell y d e
      exact ⟨v, q.sameBut sb h⟩
  · obtain ⟨a1, a2, a3, a4, a5⟩ := I.pin p hp
    refine ⟨(sb.2 p.1 fun h => ?_).trans a1, a2, a3, a4, a5⟩
    rw [h, goc] at a1
    exact a5 _ (Option.some.inj a1 ▸ doc)
  · refine (I.hok b ob e).stay (fun d u hd q => (sb.2 d ?_).trans q) (fun _ q => q) fun _ _ q => q
    intro h
    subst h
    have fr := I.freeC n d hc
    rcases hd with hd | hd
    · rw [← hd, fr] at e; cases e
    · rw [fr] at hd; cases hd
theorem gone_cell {M : Model} {A : Around} {E : Value → Shared → Prop} {i : Nat} {n : Str} {pos : Pos} {Q : Unit → Shared → Prop} (I : Inv X pins σ H s) (hN : X.N.Nodup) (hi : X.N[i]? = some n) (hl : X.env.kindOf n = some .cell) (hfn : X.fn n = true)
    (h : ∀ s', Inv X pins (σ.set i none) H s' → Q () s') : wpAny M A (do bindName X.env n .none; unbindBehindTheSuite X.env n pos) Q E s := by
  obtain ⟨c, hc⟩ := I.ok.has n (.inl hl)
  obtain ⟨w0, z0⟩ := I.cell n c hc
  refine wpAny_bind (wpAny_bindName (wpAny_storeName_cell I.ok.kind hl hc z0 fun h1 z1 sb1 => ?_))
  unfold unbindBehindTheSuite
  refine wpAny_onRaise ?_
  unfold unbindName
  refine wpAny_bind (wpAny_point (wpAny_bind ?_))
  unfold deleteName
  simp only [hl]
  refine wpAny_bind (wpAny_cellOf hc (wpAny_bind (wpAny_cellGet z1 ?_)))
  simp only [Option.isSome_some, if_true]
  refine wpAny_cellSet z1 fun h2 z2 sb2 => ?_
  have J := Inv.uncell (s := s) (h' := h2) (tk := s.toks) I hN hi hl hfn hc z0 z2 (sb1.trans sb2)
  exact wpAny_point (h _ J)
variable {x n : Str} {c : Value} {i : Nat} {body suite : List Stmt} {b₀ : Stmt} {np pos pos' : Pos} {tb : WX → TS} {ts : Addr → Value → Option Addr → TS} {Wout : WX}
/-- try: body, except x as n: suite, n a cell -/
theorem ps_try_cell (hs : X.stack = X.env :: X.outer) (hf : X.env.frame = some X.env.locals) (hN : X.N.Nodup) (hi : X.N[i]? = some n) (hln : X.env.kindOf n = some .cell) (hfn : X.fn n = true) (hc : Names X x c) (tk : L2N.Takes X Wout)
    (hb : ∀ (W : WX) (pn : List (Addr × Obj)) (xe : Value → Shared → Prop), L2N.Takes (X.tr pn xe) W → PassesOwn (model X.prog X.w) X.A X.env xe → PSs (X.tr pn xe) body (tb W))
    (hsu : ∀ (a : Addr) (oe : Obj) (cls : Value) (d : Option Addr) (pn : List (Addr × Obj)), L2N.Zn cls d oe → (∃ vs, oe.data = .fields vs) → PSs (X.suite a ((a, oe) :: pn)) (b₀ :: suite) (ts a cls d)) :
    PS X (.Try body [.ExceptHandler (some (.Name x np)) (some n) (b₀ :: suite) pos'] [] [] pos) (fun D σ H => tb (wAs X.K c i ts Wout D) D σ H) := by
  constructor
  intro pins s σ H D I h
  have hfr : X.A.frames = some (X.env :: X.outer) := I.ok.frames.trans (congrArg some hs)
  refine wpAny_Try_except (wpAny_mono ((hb (wAs X.K c i ts Wout D) (X.pn ++ pins) (fun e t1 => wpAny (model X.prog X.w) X.A (noteFrame e X.env) (fun _ t2 => wpAny (model X.prog X.w) X.A (setFlight e none)
    (fun _ t3 => wpAny (model X.prog X.w) X.A (handleBy e X.env [.ExceptHandler (some (.Name x np)) (some n) (b₀ :: suite) pos']) (SP X pins D) X.xe t3) X.xe t2) X.xe t1) (fun u s' xx => ?_) PassesOwn.looking).run [] s σ H D (I.toTry _) h) (fun f s1 hsp => ?_) fun e s1 he => he)
  · obtain ⟨a, B, t0, pins', σ', G, cls, d, rfl, J', nb, up, sky, na, os, ag, b, hb1, hyes, hno⟩ := xx
    have J : Inv X pins σ' G t0 := J'.ofTry I.ok
    rw [show (X.tr (X.pn ++ pins) _).stack = X.env :: X.outer from hs] at sky
    show wpAny (model X.prog X.w) X.A (noteFrame (.ref a) X.env) _ _ _
    refine L2N.Sky.land L2N.Zn.steady hfr hf sky fun h3 fl3 up3 => ?_
    have J3 : Inv X pins σ' G { s' with heap := h3 } := J.landed nb fl3.1 (up.trans up3) os ag
    obtain ⟨o3, w3, g3, z3, d3⟩ := fl3.there
    have nfr : a ∉ frs (X.env :: X.outer) := fun hm => by
      obtain ⟨_, o', e', hnf⟩ := fl3.2.2.1.mem hm
      rw [g3] at e'
      cases e'
      exact hnf _ d3
    have nL : a ≠ X.env.locals := fun z => nfr (List.mem_filterMap.mpr ⟨X.env, List.mem_cons_self, hf.trans (congrArg some z.symm)⟩)
    have nF : a ∉ X.fs := fun hm => by
      obtain ⟨e, he, q⟩ := List.mem_filterMap.mp hm
      exact nfr (List.mem_filterMap.mpr ⟨e, List.mem_cons_of_mem _ he, q⟩)
    have S3 := J3.suite g3 d3 na nL nF
    refine wpAny_handleBy_cons (codeAny_handlers_test ?_) (by intro q; cases q)
    have tyOf : PySem.W.Looks (model X.prog X.w) h3 (typeOf (.ref a)) cls := fun A Q E s k q => wpAny_typeOf_ref (k _ _ g3) (by rw [z3.1]; exact q)
    have isC := PySem.W.exm_one (M := model X.prog X.w) (J3.kIn) tyOf hb1
    have nameC : ∀ {Q : Value → Shared → Prop} {E : Value → Shared → Prop}, Q c { s' with heap := h3 } → wpAny (model X.prog X.w) (X.A.mark (some (.ref a))) (eval (.Name x np) X.env) Q E { s' with heap := h3 } := fun {Q E} q => by
      obtain ⟨k1, k2, k3 | ⟨k3, k4, k5⟩⟩ := hc
      · exact ld_glob (X := X.suite a ((a, o3) :: (X.pn ++ pins))) S3 k1 k3 q k2
      · exact ld_blt (X := X.suite a ((a, o3) :: (X.pn ++ pins))) S3 k1 k3 k4 q k5 k2
    refine nameC (isC.here ?_)
    cases b with
    | true =>
      refine codeAny_handlers_suite_as (HandSPX.lands_againZ fl3 fun h4 fl4 up4 => ?_)
      have J4 : Inv X pins σ' G { s' with heap := h4 } := J.landed nb fl4.1 ((up.trans up3).trans up4) os ag
      obtain ⟨o4, w4, g4, z4, d4⟩ := fl4.there
      have S4 := J4.suite g4 d4 na nL nF
      refine store_ok (X := X.suite a ((a, o4) :: (X.pn ++ pins))) (v := .ref a) S4 hN hi (.inr hln) rfl (fun s5 S5 => ?_) (.inl hfn)
      refine wpAny_mono ((hsu a o4 cls d (X.pn ++ pins) z4 ⟨_, d4⟩).run [] s5 _ G _ S5 (hyes rfl a na)) (fun f s6 hsp => ?_) (fun _ _ z => False.elim z)
      have fin : ∀ {σ6 : L2.St} {H6 : Hp} {Q : Shared → Prop}, Inv (X.suite a ((a, o4) :: (X.pn ++ pins))) [] σ6 H6 s6 → (∀ s7, Inv X pins (σ6.set i none) H6 s7 → Q s7) →
          wpAny (model X.prog X.w) X.A (do bindName X.env n .none; unbindBehindTheSuite X.env n pos') (fun _ s7 => Q s7) X.xe s6 := fun {σ6 H6 Q} S6 hq => gone_cell (S6.unsuite I.ok) hN hi hln hfn hq
      match f, hsp with
      | .next, ⟨_, _, S6, q6⟩ => exact fin S6 fun s7 J7 => ⟨_, _, J7, q6⟩
      | .brk, ⟨_, _, S6, q6⟩ => exact fin S6 fun s7 J7 => ⟨_, _, J7, q6⟩
      | .cont, ⟨_, _, S6, q6⟩ => exact fin S6 fun s7 J7 => ⟨_, _, J7, q6⟩
      | .ret u, ⟨_, _, _, S6, r6, q6⟩ => exact fin S6 fun s7 J7 => ⟨_, _, _, J7, r6, q6⟩
    | false =>
      show wpAny _ X.A (handleBy (.ref a) X.env []) _ _ _
      refine wpAny_handleBy_nil ?_
      obtain ⟨k1, k2, k3, oe, vs, T, oT, ts', he, hz, hd, h1, hr⟩ := id fl3
      unfold PySem.passOn
      refine wpAny_bind (wpAny_field he hd h1 ?_)
      rw [if_neg (show ¬ ((Value.ref T == Value.none) = true) from by simp)]
      have out : wpAny (model X.prog X.w) X.A (setFlight (.ref a) X.env.frame) (fun _ s4 => wpAny (model X.prog X.w) X.A (throw (.ref a) : Sem Flow) (SP X pins D) X.xe s4) X.xe { s' with heap := h3 } := by
        rw [hf]
        exact HandSPX.setFlight_upZ fl3 fun h4 hh4 up4 => wpAny_throw (tk _ _ ⟨a, B, t0, pins, σ', G, cls, d, rfl, J, nb, (up.trans up3).trans up4, .inr (.inr (by rw [hs]; exact hh4)), na, os, ag, hno rfl⟩)
      first
        | exact wpAny_bind (wpAny_pure (wpAny_bind out))
        | exact wpAny_bind out
  · match f, hsp with
    | .next, ⟨_, _, J', q⟩ => exact wpAny_execs_nil ⟨_, _, J'.ofTry I.ok, q⟩
    | .brk, ⟨_, _, J', q⟩ => exact ⟨_, _, J'.ofTry I.ok, q⟩
    | .cont, ⟨_, _, J', q⟩ => exact ⟨_, _, J'.ofTry I.ok, q⟩
    | .ret u, ⟨_, _, _, J', r, q⟩ => exact ⟨_, _, _, J'.ofTry I.ok, r, q⟩
end
end DL
/-! The data layer: comprehensions and returns within an except suite. -/
namespace DL
open PySem PySem.Spec PyProof.Rows L2
open HotX L2H
section
variable {T : List (Addr × Str)} {CL : Str → Option Addr} {W : WX} {X : Cx} {pos : Pos} {a b c tg iter elt : Expr} {fa fb fc : EF}
theorem hot_suite {Y : Cx} {ea : Addr} {oe : Obj} {pn : List (Addr × Obj)} {cls : Value} {d : Option Addr} (z : L2N.Zn cls d oe) (hf : ∃ vs, oe.data = .fields vs) : HotC (Y.suite ea ((ea, oe) :: pn)) := by
  obtain ⟨vs, e⟩ := hf
  exact ⟨(ea, oe), ⟨rfl, vs, e, z.2.2 vs e⟩, List.mem_cons_self⟩
/-- what is walked there -/
def IDH (T : List (Addr × Str)) (CL : Str → Option Addr) (W : WX) (X : Cx) (tg iter : Expr) (fi : IF) : Prop := ∃ wi : TI, PIH X tg iter wi ∧ ∀ (am : Option Addr) (Oc : Addr → Prop) (B : Bs) (σ : L2.St) (H : Hp) (δ : DEnv) (h : HS) (R : It → Hp → Prop), At T am Oc B σ H δ h → AftI T CL W am Oc σ δ H R (fi δ h) → wi σ H R
def gItemsL : PyData → Option (List PyData)
  | .list l => some l
  | _ => none
def gItemsT : PyData → Option (List PyData)
  | .tuple l => some l
  | _ => none
def dItL (fa : EF) : IF := fun δ h => (fa δ h).op gItemsL
def dItT (fa : EF) : IF := fun δ h => (fa δ h).op gItemsT
theorem i_listD (ha : ED T CL W X .D a fa) : IDH T CL W X tg a (dItL fa) := ⟨_, pi_listH ha, fun am Oc B σ H δ h R x q => by
  refine tE_of x (AftI.bindE x q fun d1 h1 v1 H1 ds x1 r1 hg q1 => ?_)
  cases d1 with
  | list es =>
    cases hg
    cases r1.2 with
    | lst r n t => exact ⟨_, rfl, ⟨_, SqL.of r⟩, q1 _ (wk_list x1 r n t)⟩
  | _ => cases hg⟩
theorem i_tupD (ha : ED T CL W X .D a fa) : IDH T CL W X tg a (dItT fa) := ⟨_, pi_tupH ha, fun am Oc B σ H δ h R x q => by
  refine tE_of x (AftI.bindE x q fun d1 h1 v1 H1 ds x1 r1 hg q1 => ?_)
  cases d1 with
  | tuple es =>
    cases hg
    cases r1.2 with
    | tup r n t => exact ⟨_, rfl, ⟨_, .inl r⟩, q1 _ (wk_tup x1 r n t)⟩
  | _ => cases hg⟩
theorem gd_tupH {es : List Expr} {k : Nat} {gs : TGs} {ts : TFs} {n : Nat} {L : List Nat} (hc : HotC X) (h : GDs T X L es gs ts)
    (hn : (assignEach es X.env).length = n := by rfl) (hst : (assignEach es X.env).findIdx? (·.1) = none := by rfl) : GD T X L (.Tuple es k pos) (gTup X.K n gs) (tgTup n ts) := by
  obtain ⟨p, kk⟩ := h
  refine ⟨pg_tupH hc p hn hst, fun am Oc B σ H δ h v d δ' Q x dd e q => ?_⟩
  unfold tgTup at e
  cases d with
  | tuple ds =>
    simp only [Option.ite_none_right_eq_some] at e
    obtain ⟨e1, e2⟩ := e
    cases dd with
    | tup r no t => exact ⟨_, _, rfl, .inl r, by rw [t.length, e1], kk am Oc B σ H δ h _ ds δ' Q x t e2 q⟩
  | _ => cases e
theorem e_isEbH {Y : Cx} {s0 : Shared} {H0 : Hp} {sc : Scope} {ce : Env} {fp : List Addr} {i : Nat} {ea D : Addr} {bb : Bool} {oe : Obj} {pn : List (Addr × Obj)} {x n : Str} {ty : String} {px p p2 : Pos} (C : ExcC Y.K D) (hz : Zc (.ref D) none oe) (hf : ∃ vs, oe.data = .fields vs)
    (hg : Gl (blkH (Y.suite ea ((ea, oe) :: pn)) s0 H0 sc ce fp) "isinstance") (hm : Y.mg "isinstance" = none) (hx : PE (blkH (Y.suite ea ((ea, oe) :: pn)) s0 H0 sc ce fp) (.Name x px) (tVar i)) (hgn : Gl (blkH (Y.suite ea ((ea, oe) :: pn)) s0 H0 sc ce fp) n) (hmn : Y.mg n = none) (hv : bootBuiltins n = some (.type ty)) (hk : PySem.W.kitOne Y.K (.ref D) (.type ty) = some bb)
    (hnn : n ≠ "__name__" := by decide) (hd : (n == ("__debug__" : Str)) = false := by decide)
    (hs : starEach [.Name x px, .Name n p2] ce = (false, eval (.Name x px) ce) :: starEach [.Name n p2] ce := by rfl) (hs2 : starEach [.Name n p2] ce = (false, eval (.Name n p2) ce) :: starEach [] ce := by rfl)
    (hpl : (backTo pos (starEach [.Name n p2] ce)).any (·.1) = false := by rfl) :
    ED T CL W (blkH (Y.suite ea ((ea, oe) :: pn)) s0 H0 sc ce fp) .N (.Call (.Name "isinstance" p) [.Name x px, .Name n p2] [] pos) (dIsE i ea bb) :=
  e_isEb (X := Y.blk s0 H0 sc ce fp) (ea := ea) (oe := oe) (pn := pn) C hz hf hg hm hx hgn hmn hv hk hnn hd hs hs2 hpl
/-- name = [..] there, the name's list not changed -/
theorem s_setLcH {i : Nat} {y : Str} {py spos : Pos} {ifs : List Expr} {scope : Scope} {own : List (Str × Nat)} {g : TG} {t : TF} {fi : IF} {tc : CF} {fe : EF} {L : List Nat} (hc : HotC X) (hst : X.stack = X.env :: X.outer) (hfr : X.env.frame = some X.env.locals) (hN : X.N.Nodup) (hy : X.N[i]? = some y) (hyl : X.env.scope.names.lookup y = some .local)
    (hsw : swapsWith (.ListComp elt [⟨tg, iter, ifs, 0⟩] scope pos) (some (.Name y py)) spos.line X.env = pure true) (hi : IDH T CL W X tg iter fi) (ok : BlkOk X.N X.env.scope scope own)
    (hg : ∀ (s : Shared) (H : Hp) (C : Addr) (cl : List (Str × Addr)) (fp : List Addr), GD T (blkH X s H scope (compEnvC scope cl C X.env) fp) L tg g t) (ht : ∀ (s : Shared) (H : Hp) (C : Addr) (cl : List (Str × Addr)) (fp : List Addr), PTs (blkH X s H scope (compEnvC scope cl C X.env) fp) ifs (tT T CL WF tc))
    (he : ∀ (s : Shared) (H : Hp) (C : Addr) (cl : List (Str × Addr)) (fp : List Addr), ED T CL WF (blkH X s H scope (compEnvC scope cl C X.env) fp) .D elt fe) (hL : ∀ j ∈ L, j ∈ own.map (·.2) := by decide) (hs : ∀ x, foldedSetIterable iter X.env x = pure x := by intro _; rfl) :
    SD T CL W X (.Assign [.Name y py] (.ListComp elt [⟨tg, iter, ifs, 0⟩] scope pos) spos) (sSet i (dLc (own.map (·.2)) t fi tc fe)) := ⟨fun pins s σ H D I q => by
  obtain ⟨wi, pi, ki⟩ := hi
  refine (ps_setLcH hc hst hfr hN hy hyl hsw pi ok (fun s H C cl fp => (hg s H C cl fp).1) ht he hs).run pins s σ H D I (lc_sound (hg s H 0 [] []).2 hL ki ?_)
  obtain ⟨am, Oc, B, δ, h, x, q⟩ := q
  refine tE_of x (AftS.bindE x q fun d h1 v1 H1 x1 e1 r1 q1 => ?_)
  exact q1 _ _ (x1.put (fun _ z => nomatch z) ⟨v1, rfl, (r1.N_D x.domO x.amO).2⟩)⟩
/-! ### the def that calls what it is handed, returns in the suite -/
theorem heard_givesN {X : Cx} {Ng : List Str} {x a err q s0 ce : Str} {sg : Scope} {g CS : Addr} {cdg : Value} {j : Nat} {b₀ : Stmt} {suite : List Stmt} {ie : Nat} {wd : Str → Option Str} {fs : Addr → Str → SF} {p2 p4 p5 p6 p7 p8 p9 p10 : Pos}
    (hNn : Ng.Nodup) (hNe : Ng[ie]? = some err) (hle : sg.names.lookup err = some .cell) (hie : ie ≠ 0)
    (hge : sg.names.lookup ce = some .globalImplicit) (hme : X.mg ce = some (.ref CS)) (hde : (ce == ("__debug__" : Str)) = false) (h0 : ∀ f : Addr, (L2.start Ng [V.ref f])[0]? = some (some (V.ref f))) (hlen : ∀ f : Addr, (L2.start Ng [V.ref f]).length = Ng.length)
    (hex : ∀ n C w, CL n = some C → wd n = some w → PySem.W.exmOne X.K (.ref C) (.ref CS) = some true)
    (hJ : ∀ (s : Shared) (H : Hp) (ea : Addr) (oe : Obj) (C : Addr) (pn : List (Addr × Obj)) (n w : Str), CL n = some C → wd n = some w → L2N.Zn (.ref C) none oe → (∃ vs, oe.data = .fields vs) →
      SsD [] CL WF ((cxOf C8.CX0 X.prog X.w X.K X.mg X.base Ng x sg g cdg X.A X.stack s H C8.E0).nox.suite ea ((ea, oe) :: pn)) (b₀ :: suite) (fs ea n))
    (hden : ∀ ea n w, wd n = some w → fs ea n (envE Ng.length ie ea) [] = .rt (.str w) []) :
    GivesN X Ng x sg g cdg [.Try [.Expr (.Call (.Name a p4) [] [] p5) p6] [.ExceptHandler (some (.Name ce p7)) (some err) (b₀ :: suite) p8] [] [] p9, .Return (some (.Constant (.str s0) j p2)) p10] a q (TTh CL s0 wd) := by
  intro f c' s H Q tl act hc h
  have hgl : Gl (cxOf C8.CX0 X.prog X.w X.K X.mg X.base Ng x sg g cdg X.A X.stack s H C8.E0).nox ce := hge
  refine ⟨_, pss_cons (ps_try_cell (X := (cxOf C8.CX0 X.prog X.w X.K X.mg X.base Ng x sg g cdg X.A X.stack s H C8.E0).nox) (c := .ref CS) (i := ie) (Wout := fun _ _ _ _ => False)
      (tb := fun W D σ H => ∃ Ech : XK, (∀ cls d σ' H', Ech cls d H' → W cls d σ' H') ∧ σ[0]? = some (some (.ref f)) ∧ H c' = some (LamX.CodeO c' q) ∧ tl Ech H fun _ H1 => D.nx σ H1)
      (ts := fun a cls d D σ H => σ.length = Ng.length → (σ[ie]? = some (some (.ref a)) ∧ ∃ n C w, d = none ∧ cls = .ref C ∧ CL n = some C ∧ wd n = some w ∧ ∀ H2, Same H H2 → D.rt (.str w) H2))
      rfl rfl hNn hNe (show sg.names.lookup err = some .cell from hle) rfl ⟨hgl, hde, .inl hme⟩ takes0N (fun W pn xe tk _ => ?_) (fun a oe cls d pn hz hf => ?_))
    (pss_one (ps_ret pe_str)), ?_⟩
  · refine pss_one ⟨fun pins s' σ H' D I ⟨Ech, hW, h1, h2, h3⟩ => ?_⟩
    exact (ps_expr (pos := p6) (act W pn xe Ech p4 p5 tk hW)).run pins s' σ H' D I ⟨h1, h2, h3⟩
  · refine ⟨fun pins s' σ H' D I h' => ?_⟩
    obtain ⟨hsl, n, C, w, rfl, rfl, hn, hw, k⟩ := h' I.len
    refine (hJ s H a oe C pn n w hn hw hz hf).run pins s' σ H' D I ⟨none, _, _, _, [], at_err hsl, ?_⟩
    rw [show σ.length = Ng.length from I.len, hden a n w hw]
    intro v H2 ef wd' dt
    cases dt
    exact k H2 fun b o e => ef b o e (fun z => z) fun _ z => nomatch z
  · refine ⟨fun cls d H' => ∃ n C w, d = none ∧ cls = .ref C ∧ CL n = some C ∧ wd n = some w ∧ ∀ H'', Same H' H'' → Q (.str w) H'', ?_, h0 f, hc, h⟩
    rintro cls d σ' H' ⟨n, C, w, rfl, rfl, hn, hw, k⟩
    refine ⟨true, hex n C w hn hw, fun _ a _ hl => ?_, fun z => Bool.noConfusion z⟩
    rw [List.length_set] at hl
    exact ⟨List.getElem?_set_self (by rw [hl]; exact (List.getElem?_eq_some_iff.mp hNe).1), n, C, w, rfl, rfl, hn, hw, fun H2 s2 => k H2 s2⟩
end
end DL
/-! The data layer: how meanings are worked out. -/
namespace DL
open PySem PySem.Spec PyProof.Rows L2
theorem hU64m {A : Around} {k : Nat} {p : Option Value} (hr : Room k A) : (A.mark p).units + 64 < cLine := by have := hr.un; show A.units + 64 < cLine; omega
theorem hU65m {A : Around} {k : Nat} {p : Option Value} (hr : Room k A) : (A.mark p).units + 65 < cLine := by have := hr.un; show A.units + 65 < cLine; omega
theorem hU60m {A : Around} {k : Nat} {p : Option Value} (hr : Room k A) : (A.mark p).units + 60 < cLine := by have := hr.un; show A.units + 60 < cLine; omega
theorem hU1m {A : Around} {k : Nat} {p : Option Value} (hr : Room k A) : (A.mark p).units + 1 < cLine := by have := hr.un; show A.units + 1 < cLine; omega
section
variable {α β : Type} {δ : DEnv} {h : HS} {f g : SF} {fa fb fc : EF} {d e : PyData} {x : Exc}
@[simp] theorem ev_bind_ok {a : α} {k : α → HS → Res β} : (Res.ok a h).bind k = k a h := id rfl
@[simp] theorem ev_bind_exc {k : α → HS → Res β} : (Res.exc x h : Res α).bind k = .exc x h := id rfl
@[simp] theorem ev_bind_no {k : α → HS → Res β} : (Res.no : Res α).bind k = .no := id rfl
theorem ev_op_ok {a : α} {k : α → Option β} : (Res.ok a h).op k = match k a with | some b => .ok b h | none => .no := id rfl
@[simp] theorem ev_op_some {a : α} {b : β} {k : α → Option β} (e : k a = some b) : (Res.ok a h).op k = .ok b h := by unfold Res.op; simp only [e]
@[simp] theorem ev_op_exc {k : α → Option β} : (Res.exc x h : Res α).op k = .exc x h := id rfl
@[simp] theorem ev_op_no {k : α → Option β} : (Res.no : Res α).op k = .no := id rfl
@[simp] theorem ev_to_ok {a : α} {k : α → HS → SRes} : (Res.ok a h).to δ k = k a h := id rfl
@[simp] theorem ev_to_exc {k : α → HS → SRes} : (Res.exc x h : Res α).to δ k = .exc x δ h := id rfl
@[simp] theorem ev_to_no {k : α → HS → SRes} : (Res.no : Res α).to δ k = .no := id rfl
@[simp] theorem ev_sb_nx {k : SF} : (SRes.nx δ h).bind k = k δ h := id rfl
@[simp] theorem ev_sb_rt {k : SF} : (SRes.rt d h).bind k = .rt d h := id rfl
@[simp] theorem ev_sb_bk {k : SF} : (SRes.bk δ h).bind k = .bk δ h := id rfl
@[simp] theorem ev_sb_ct {k : SF} : (SRes.ct δ h).bind k = .ct δ h := id rfl
@[simp] theorem ev_sb_exc {k : SF} : (SRes.exc x δ h).bind k = .exc x δ h := id rfl
@[simp] theorem ev_sb_no {k : SF} : SRes.no.bind k = .no := id rfl
@[simp] theorem ev_lp_nx {k : SF} : (SRes.nx δ h).lp k = k δ h := id rfl
@[simp] theorem ev_lp_ct {k : SF} : (SRes.ct δ h).lp k = k δ h := id rfl
@[simp] theorem ev_lp_bk {k : SF} : (SRes.bk δ h).lp k = .nx δ h := id rfl
@[simp] theorem ev_lp_rt {k : SF} : (SRes.rt d h).lp k = .rt d h := id rfl
@[simp] theorem ev_lp_exc {k : SF} : (SRes.exc x δ h).lp k = .exc x δ h := id rfl
@[simp] theorem ev_fin0_rt : (SRes.rt d h).fin0 = .ok d := id rfl
@[simp] theorem ev_fin0_nx : (SRes.nx δ h).fin0 = .ok .none := id rfl
@[simp] theorem ev_fin0_exc : (SRes.exc x δ h).fin0 = .exc x := id rfl
@[simp] theorem ev_fin1_rt : (SRes.rt d h).fin1 = .ok d h := id rfl
@[simp] theorem ev_fin1_nx : (SRes.nx δ h).fin1 = .ok .none h := id rfl
@[simp] theorem ev_fin1_exc : (SRes.exc x δ h).fin1 = .exc x h := id rfl
@[simp] theorem ev_up_ok : (Res0.ok d).up h = .ok d h := id rfl
@[simp] theorem ev_up_exc : (Res0.exc x).up h = .exc x h := id rfl
/-! statements -/
@[simp] theorem ev_sNext : sNext δ h = .nx δ h := id rfl
@[simp] theorem ev_sSeq : sSeq f g δ h = (f δ h).bind g := id rfl
@[simp] theorem ev_sBreak : sBreak δ h = .bk δ h := id rfl
@[simp] theorem ev_sCont : sCont δ h = .ct δ h := id rfl
@[simp] theorem ev_sIf {c : CF} : sIf c f g δ h = (c δ h).to δ fun b h1 => if b then f δ h1 else g δ h1 := id rfl
@[simp] theorem ev_sDrop : sDrop fa δ h = (fa δ h).to δ fun _ h1 => .nx δ h1 := id rfl
@[simp] theorem ev_sRet : sRet fa δ h = (fa (δ.map frz) h).to (δ.map frz) fun d h1 => .rt d h1 := id rfl
@[simp] theorem ev_sRetN : sRetN δ h = .rt .none h := id rfl
@[simp] theorem ev_sSet {i : Nat} : sSet i fa δ h = (fa δ h).to δ fun d h1 => .nx (δ.set i (.d d)) h1 := id rfl
@[simp] theorem ev_sSetO {i : Nat} : sSetO i fa δ h = (fa δ h).to δ fun d h1 => .nx (δ.set i (mkO d)) h1 := id rfl
@[simp] theorem ev_sAsg {t : TF} : sAsg t fa δ h = (fa δ h).to δ fun d h1 => match t d δ with | some δ' => .nx δ' h1 | none => .no := id rfl
@[simp] theorem ev_sFor {t : TF} {fi : IF} : sFor t fi f δ h = (fi δ h).to δ fun ds h1 => dLoop t f ds δ h1 := id rfl
@[simp] theorem ev_sMul {is : List Nat} {fs : List (Bool × EF)} : sMul is fs δ h = (dGs fs δ h).to δ fun ds h1 => if is.length = ds.length then .nx (setAll is ds δ) h1 else .no := id rfl
@[simp] theorem ev_sDropM {m : MF} : sDropM m δ h = (m δ h).to δ fun p h1 => .nx p.2 h1 := id rfl
@[simp] theorem ev_sSetM {i : Nat} {m : MF} : sSetM i m δ h = (m δ h).to δ fun p h1 => .nx (p.2.set i (.d p.1)) h1 := id rfl
@[simp] theorem ev_sAsgM {t : TF} {m : MF} : sAsgM t m δ h = (m δ h).to δ fun p h1 => match t p.1 p.2 with | some δ' => .nx δ' h1 | none => .no := id rfl
@[simp] theorem ev_sRaise0 {n : Str} : sRaise0 n δ h = .exc ⟨n, none⟩ δ h := id rfl
@[simp] theorem ev_mkO_l {l : List PyData} : mkO (.list l) = .o (.list l) := id rfl
@[simp] theorem ev_frz_o : frz (.o d) = .d d := id rfl
@[simp] theorem ev_frz_d : frz (.d d) = .d d := id rfl
@[simp] theorem ev_frz_no : frz .no = .no := id rfl
@[simp] theorem ev_frz_am : frz .am = .am := id rfl
@[simp] theorem ev_frz_raw {k : Nat} {v : V} : frz (.raw k v) = .raw k v := id rfl
@[simp] theorem ev_thw_o : thw (.o d) = .d d := id rfl
@[simp] theorem ev_thw_d : thw (.d d) = .d d := id rfl
@[simp] theorem ev_thw_no : thw .no = .no := id rfl
@[simp] theorem ev_thw_am : thw .am = .no := id rfl
@[simp] theorem ev_thw_raw {k : Nat} {v : V} : thw (.raw k v) = .raw k v := id rfl
@[simp] theorem ev_loop_nil {t : TF} : dLoop t f [] δ h = .nx δ h := id rfl
@[simp] theorem ev_gs_nil : dGs [] δ h = .ok [] h := id rfl
@[simp] theorem ev_gs_cons {b : Bool} {fs : List (Bool × EF)} : dGs ((b, fa) :: fs) δ h = (fa δ h).bind fun d h1 => (dGs fs δ h1).op fun ds => some (mkB b d :: ds) := id rfl
@[simp] theorem ev_mkB_f : mkB false d = .d d := id rfl
@[simp] theorem ev_mkB_t : mkB true d = mkO d := id rfl
@[simp] theorem ev_setAll_nil {ds : List SV} : setAll [] ds δ = δ := by cases ds <;> rfl
@[simp] theorem ev_setAll_cons {i : Nat} {is : List Nat} {s : SV} {ds : List SV} : setAll (i :: is) (s :: ds) δ = setAll is ds (δ.set i s) := id rfl
/-! targets -/
@[simp] theorem ev_tgN {i : Nat} : tgN i d δ = some (δ.set i (.d d)) := id rfl
@[simp] theorem ev_tgNil : tgNil [] δ = some δ := id rfl
@[simp] theorem ev_tgCons {t : TF} {ts : TFs} {ds : List PyData} : tgCons t ts (d :: ds) δ = (t d δ).bind (ts ds) := id rfl
@[simp] theorem ev_tgTup {n : Nat} {ts : TFs} {ds : List PyData} : tgTup n ts (.tuple ds) δ = if ds.length = n then ts ds δ else none := id rfl
/-! values -/
theorem ev_dVar {i : Nat} : dVar i δ h = match δ[i]? with | some (.d x) => .ok x h | _ => .no := id rfl
@[simp] theorem ev_dVar_d {i : Nat} (e1 : δ[i]? = some (.d d)) : dVar i δ h = .ok d h := by unfold dVar; rw [e1]
@[simp] theorem ev_dOwn_d {i : Nat} (e1 : δ[i]? = some (.d d)) : dOwn i δ h = .ok d h := by unfold dOwn; rw [e1]
@[simp] theorem ev_dOwn_o {i : Nat} (e1 : δ[i]? = some (.o d)) : dOwn i δ h = .ok d h := by unfold dOwn; rw [e1]
@[simp] theorem ev_dC : dC d δ h = .ok d h := id rfl
@[simp] theorem ev_dBin {gg : PyData → PyData → Option PyData} : dBin gg fa fb δ h = (fa δ h).bind fun a h1 => (fb δ h1).op (gg a) := id rfl
@[simp] theorem ev_dUn {gg : PyData → Option PyData} : dUn gg fa δ h = (fa δ h).op gg := id rfl
@[simp] theorem ev_dCmp {gg : PyData → PyData → Option Bool} : dCmp gg fa fb δ h = (fa δ h).bind fun a h1 => (fb δ h1).op (gg a) := id rfl
@[simp] theorem ev_toB {c : CF} : toB c δ h = (c δ h).op fun b => some (.bool b) := id rfl
@[simp] theorem ev_dTru : dTru fa δ h = (fa δ h).op gTru := id rfl
@[simp] theorem ev_dNot {c : CF} : dNot c δ h = (c δ h).op fun b => some (!b) := id rfl
@[simp] theorem ev_dAnd {c c' : CF} : dAnd c c' δ h = (c δ h).bind fun b h1 => if b then c' δ h1 else .ok false h1 := by
  unfold dAnd; congr 1; funext b h1; cases b <;> rfl
@[simp] theorem ev_dOr {c c' : CF} : dOr c c' δ h = (c δ h).bind fun b h1 => if b then .ok true h1 else c' δ h1 := by
  unfold dOr; congr 1; funext b h1; cases b <;> rfl
@[simp] theorem ev_dIf {c : CF} : dIf c fa fb δ h = (c δ h).bind fun b h1 => if b then fa δ h1 else fb δ h1 := by
  unfold dIf; congr 1; funext b h1; cases b <;> rfl
@[simp] theorem ev_dSeq_nil : dSeq [] δ h = .ok [] h := id rfl
@[simp] theorem ev_dSeq_cons {fs : List EF} : dSeq (fa :: fs) δ h = (fa δ h).bind fun d h1 => (dSeq fs δ h1).op fun ds => some (d :: ds) := id rfl
@[simp] theorem ev_dTup {fs : List EF} : dTup fs δ h = (dSeq fs δ h).op fun ds => some (.tuple ds) := id rfl
@[simp] theorem ev_dLst {fs : List EF} : dLst fs δ h = (dSeq fs δ h).op fun ds => some (.list ds) := id rfl
@[simp] theorem ev_dBlt {gg : List PyData → Option PyData} {fs : List EF} : dBlt gg fs δ h = (dSeq fs δ h).op gg := id rfl
@[simp] theorem ev_dCall0 {den : List PyData → Res0} {fs : List EF} : dCall0 den fs δ h = (dSeq fs δ h).bind fun ds h1 => (den ds).up h1 := id rfl
@[simp] theorem ev_dCall1 {i : Nat} {den : List PyData → HS → Res PyData} {fs : List EF} (e1 : δ[i]? = some .am) : dCall1 i den fs δ h = (dSeq fs δ h).bind den := by unfold dCall1; rw [e1]
@[simp] theorem ev_dIsi {ty : String} : dIsi ty fa δ h = (fa δ h).op fun d => some (.bool (isaB (tyD d) ty)) := id rfl
@[simp] theorem ev_dIsi2 {ty ty2 : String} : dIsi2 ty ty2 fa δ h = (fa δ h).op fun d => some (.bool (isaB (tyD d) ty || isaB (tyD d) ty2)) := id rfl
@[simp] theorem ev_dBinP {p : PyData → Bool} {gg : PyData → PyData → Option PyData} : dBinP p gg fa fb δ h = (fa δ h).bind fun a h1 => if p a then (fb δ h1).op (gg a) else .no := id rfl
@[simp] theorem ev_dIt : dIt fa δ h = (fa δ h).op gItems := id rfl
@[simp] theorem ev_dRng {fs : List EF} : dRng fs δ h = (dSeq fs δ h).op gRng := id rfl
@[simp] theorem ev_dZipG {fs : List EF} : dZipG fs δ h = (dSeq fs δ h).op gZipG := id rfl
@[simp] theorem ev_dEnumG {fs : List EF} : dEnumG fs δ h = (dSeq fs δ h).op gEnumG := id rfl
@[simp] theorem ev_dYes : dYes δ h = .ok true h := id rfl
@[simp] theorem ev_dPart_none : dPart none δ h = .ok none h := id rfl
@[simp] theorem ev_dPart_some : dPart (some fa) δ h = (fa δ h).op fun d => match d with | .int i => some (some i) | _ => none := id rfl
@[simp] theorem ev_g1 {gg : PyData → Option PyData} : g1 gg [d] = gg d := id rfl
@[simp] theorem ev_g2 {gg : PyData → PyData → Option PyData} : g2 gg [d, e] = gg d e := id rfl
@[simp] theorem ev_dDict0 : dDict0 δ h = .ok (.dict []) h := id rfl
@[simp] theorem ev_isE {i k : Nat} {a : Addr} {b : Bool} (e1 : δ[i]? = some (.raw k (.ref a))) : dIsE i a b δ h = .ok (.bool b) h := by unfold dIsE; rw [e1]; simp
theorem ev_chain {gg g' : PyData → PyData → Option Bool} {a b : PyData} {h1 h2 : HS} (e1 : fa δ h = .ok a h1) (e2 : fb δ h1 = .ok b h2) : dChain gg g' fa fb fc δ h = match gg a b with
  | some true => (fc δ h2).op (g' b)
  | some false => .ok false h2
  | none => .no := by
  unfold dChain
  rw [e1, ev_bind_ok, e2, ev_bind_ok]
  all_goals
    cases gg a b with
    | none => rfl
    | some c => cases c <;> rfl
end
end DL
/-! The data layer: {k: v}, startswith, count of a text. -/
namespace DL
open PySem PySem.Spec PyProof.Rows L2
section
variable {T : List (Addr × Str)} {CL : Str → Option Addr} {W : WX} {X : Cx} {pos : Pos} {a b c o e : Expr} {fa fb fv : EF}
def dDict1 (k : PyData) (fv : EF) : EF := fun δ h => (fv δ h).op fun d => some (.dict [(k, d)])
theorem e_dict1 {ke v : Expr} {kc : Key} (hk : PE X ke (tC (kV kc))) (hv : ED T CL W X .D v fv) : ED T CL W X .N (.Dict [some ke] [v] pos) (dDict1 (kD kc) fv) := PE.imp (pe_disp (pps_cons hk hv pps_nil) rfl rfl (by simp) (by simp)) fun σ H Q q => by
  obtain ⟨am, Oc, B, δ, h, x, q⟩ := of_tE q
  intro p hp
  have s0 : Same H (upd H p (.dK [])) := same_upd hp
  have x1 : At T am (fun b => Oc b ∨ b = p) (Bs.at σ δ H) σ (upd H p (.dK [])) δ h := by
    refine x.anchor.grow (Eff.same s0) (Fsh.ofNone x hp) (x.wd.same s0 (fun b o e _ z => ?_) (fun c hc => .inl (x.amO c hc))) ⟨_, upd_same, fun z => z⟩
    rcases z with z | rfl
    · exact z
    · rw [hp] at e; cases e
  have pam : ∀ c, am = some c → p ≠ c := fun c hc z => by
    subst z
    obtain ⟨o, e1, _⟩ := x.dom p (x.amc p hc)
    rw [hp] at e1; cases e1
  show tE T CL W .D fv σ (upd H p (.dK [])) _
  refine tE_of x1 ?_
  unfold dDict1 at q
  revert q
  cases fv δ h with
  | no => exact id
  | exc e h1 => exact fun q cls dd H' e w z => q cls dd H' ((Eff.same s0).trans e) (w.sub (fun b z => oo_grow.mpr (.inl z)) x.amO) z
  | ok d h1 =>
    intro q v H2 e r
    have pe : H2 p = some (.dK []) := e p _ upd_same fun c hc => ⟨pam c hc, fun z => z⟩
    refine ⟨pe, [(kc, v)], rfl, by simp, ?_⟩
    have kp : Kp (fun b => OO Oc σ δ b ∨ b = p) (fun b => OO Oc σ δ b ∨ b = p) H2 (upd H2 p (.dK [(kc, v)])) := ⟨fun b u hb _ r => by
      unfold Rd at r ⊢
      rw [upd_ne (fun z => hb (.inr z))]
      exact r, fun b xs hb r => by rw [upd_ne (fun z => hb (.inr z))]; exact r, fun b _ _ _ z => z⟩
    have kg : Kp (OO (fun b => Oc b ∨ b = p) σ δ) (fun b => OO Oc σ δ b ∨ b = p) H2 H2 := ⟨fun _ _ _ _ r => r, fun _ _ _ r => r, fun b _ _ _ z => oo_grow.mpr z⟩
    refine q (.ref p) (upd H2 p (.dK [(kc, v)])) (fun b o hb hc => ?_) (.inr ⟨p, rfl, Fsh.ofNone x hp, fun c hc => ?_, .dic upd_same (.cons ((r.2.kp kg).kp kp) .nil)⟩)
    · rw [upd_ne (ne_of_none hb hp)]
      exact ((Eff.same s0).trans e) b o hb hc
    · obtain ⟨w1, ⟨vs, w2, w3⟩, w4⟩ := r.1 c hc
      exact ⟨.inl (x.amO c hc), ⟨vs, by rw [upd_ne (Ne.symm (pam c hc))]; exact w2, (w3.kp kg).kp kp⟩, tabs_upd w4 pe (fun z => z) (fun _ z => nomatch z)⟩
/-- a text begins with another one -/
def gStarts : PyData → PyData → Option PyData
  | .str x, .str y => some (.bool (Txt.startswith x y))
  | _, _ => none
theorem vb_starts : VB T .N gStarts (fun x y H Q => ∃ a b, x = .str a ∧ [y] = [V.str b] ∧ Q (.bl (Txt.startswith a b)) H) := fun am O H h v w d e d' Q dm ha wd lv lw hg q => by
  cases d with
  | str a =>
    obtain ⟨rfl, za, oa⟩ := lv.str
    cases e with
    | str b =>
      obtain ⟨rfl, zb, ob⟩ := lw.str
      cases hg
      exact ⟨a, b, rfl, rfl, fin_sc wd (.bl _) rfl q⟩
    | _ => cases hg
  | _ => cases hg
theorem e_starts {apos cpos : Pos} (ho : ED T CL W X .L o fa) (ha : ED T CL W X .L e fb) (hbase : attributeBase o "startswith" X.env (eval o X.env) = eval o X.env := by rfl)
    (hfew : ((backTo cpos (starEach [e] X.env)).all (fun x => !x.1) && (backToKw cpos (keywordEach [] X.env)).all (fun x => x.1.isSome)
      && decide ([e].length + ([] : List Keyword).length + (if ([] : List Keyword).isEmpty then 0 else 1) < 30)) = true := by rfl)
    (hline : (apos.endLine == cpos.line) = true := by rfl) (hs : starEach [e] X.env = (false, eval e X.env) :: starEach [] X.env := by rfl) (hplain : (backTo cpos (starEach [] X.env)).any (·.1) = false := by rfl) :
    ED T CL W X .N (.Call (.Attribute o "startswith" apos) [e] [] cpos) (dBinP isStrD gStarts fa fb) := e_meth1 PySem.F.plainAttrs_str tys_str PySem.F.slot_str_startswith PySem.F.type_str_startswith mt_startswith vb_starts ho ha hbase hfew hline hs hplain
/-- how often a text stands in another one -/
def gCountS : PyData → PyData → Option PyData
  | .str x, .str y => some (.int (Txt.count x y))
  | _, _ => none
theorem vb_countS : VB T .N gCountS (fun x y H Q => ∃ a b, x = .str a ∧ [y] = [V.str b] ∧ Q (.int (Txt.count a b)) H) := fun am O H h v w d e d' Q dm ha wd lv lw hg q => by
  cases d with
  | str a =>
    obtain ⟨rfl, za, oa⟩ := lv.str
    cases e with
    | str b =>
      obtain ⟨rfl, zb, ob⟩ := lw.str
      cases hg
      exact ⟨a, b, rfl, rfl, fin_sc wd (.int _) rfl q⟩
    | _ => cases hg
  | _ => cases hg
theorem e_countS {apos cpos : Pos} (ho : ED T CL W X .L o fa) (ha : ED T CL W X .L e fb) (hbase : attributeBase o "count" X.env (eval o X.env) = eval o X.env := by rfl)
    (hfew : ((backTo cpos (starEach [e] X.env)).all (fun x => !x.1) && (backToKw cpos (keywordEach [] X.env)).all (fun x => x.1.isSome)
      && decide ([e].length + ([] : List Keyword).length + (if ([] : List Keyword).isEmpty then 0 else 1) < 30)) = true := by rfl)
    (hline : (apos.endLine == cpos.line) = true := by rfl) (hs : starEach [e] X.env = (false, eval e X.env) :: starEach [] X.env := by rfl) (hplain : (backTo cpos (starEach [] X.env)).any (·.1) = false := by rfl) :
    ED T CL W X .N (.Call (.Attribute o "count" apos) [e] [] cpos) (dBinP isStrD gCountS fa fb) := e_meth1 PySem.F.plainAttrs_str tys_str PySem.F.slot_str_count PySem.F.type_str_count mt_count vb_countS ho ha hbase hfew hline hs hplain
end
theorem gEq_ii (a b : Int) : gEq (.int a) (.int b) = some (decide (a = b)) := by
  simp [gEq, SeqAt.shaped, PyData.canLay0, PyData.eqv, PyData.depth]
  rfl
theorem gNe_ii (a b : Int) : gNe (.int a) (.int b) = some (!decide (a = b)) := by
  simp [gNe, SeqAt.shaped, PyData.canLay0, PyData.eqv, PyData.depth]
  rfl
@[simp] theorem ev_dDict1 {k : PyData} {fv : EF} {δ : DEnv} {h : HS} : dDict1 k fv δ h = (fv δ h).op fun d => some (.dict [(k, d)]) := id rfl
end DL
/-! The data layer: _law_hand, law. -/
namespace DL
open PySem PySem.Spec PyProof.Rows L2
/-- what _law_hand tells of the script's numbers -/
def handL (c1 c2 : Int) (ns : List Int) : List PyData := [.list (ns.map fun i => .int (if i < 0 then -i else i)), .int 0, .int 0, .int (c1 + c2 * (ns.length : Nat)), .int 0]
def spH (K : PySem.W.Frag) (c1 c2 : Int) : Sp := fun vs H Q _ => ∃ (a : Addr) (ns : List Int), vs = [.ref a] ∧ SqL K H a (ns.map V.int) ∧ ns.length ≤ 63 ∧ ∀ (l : Addr) (H' : Hp), Same H H' → H l = none → Oo (fun b => b = l) H' l (.list (handL c1 c2 ns)) → Q (.ref l) H'
theorem at_no {σ : L2.St} {H : Hp} : At [] none (fun _ => False) ⟨H, fun _ => False⟩ σ H (List.replicate σ.length .no) [] := by
  have hno : ∀ i a, ¬ OwnAt σ (List.replicate σ.length .no) i a := fun i a ⟨⟨y, e⟩, _⟩ => by
    have := List.eq_of_mem_replicate (List.mem_of_getElem? e)
    cases this
  refine ⟨by simp, fun _ z => z.elim, Wd.none, (fun _ z => nomatch z), fun i s hs => ?_, fun i j a z => absurd z (hno i a), fun i a z => absurd z (hno i a), fun i a z => absurd z (hno i a), fun b o e _ _ => e⟩
  have := List.eq_of_mem_replicate (List.mem_of_getElem? hs)
  subst this
  trivial
def fScr (ns : List Int) : IF := fun _ h => .ok (ns.map .int) h
theorem cutV_all {xs : List V} (h : xs.length ≤ 63) : cutV xs none (some 63) = xs := by
  unfold cutV
  have e : HT.sIx xs.length xs.length (some 63) = xs.length := by
    have := HT.sIx_nat xs.length xs.length 63
    rw [show ((63 : Nat) : Int) = 63 from rfl] at this
    rw [this]
    omega
  rw [e, HT.sIx_none]
  simp
def dAbsInt (i : Nat) : EF := dBlt (g1 gAbs) [dBlt (g1 gInt) [dVar i]]
theorem lc_abs {δ0 : DEnv} {ic : Nat} (hi : ic < δ0.length) : ∀ (ns : List Int) (acc : List PyData) (h : HS), lcLoop (tgN ic) dYes (dAbsInt ic) δ0 (ns.map .int) acc h = .ok (acc ++ ns.map fun i => .int (if i < 0 then -i else i)) h
  | [], acc, h => by simp [lcLoop]
  | n :: ns, acc, h => by
    have e : (δ0.set ic (.d (.int n)))[ic]? = some (.d (.int n)) := List.getElem?_set_self hi
    have h1 : dAbsInt ic (δ0.set ic (.d (.int n))) h = .ok (.int (if n < 0 then -n else n)) h := by
      unfold dAbsInt
      simp [ev_dVar_d e, ev_op_ok, gInt, gAbs]
    rw [List.map_cons]
    unfold lcLoop
    simp only [ev_tgN, ev_dYes, ev_bind_ok, if_true, h1]
    rw [lc_abs hi ns]
    simp
section
variable {P : Program} {w : World} {K : PySem.W.Frag} {mg : Str → Option Value} {base : Heap} {CL : Str → Option Addr}
def fHand2 (c1 c2 : Int) : EF := dLst [dVar 1, dC (.int 0), dC (.int 0), dBin gAdd (dC (.int c1)) (dBin gMul (dC (.int c2)) (dBlt (g1 gLen) [dVar 1])), dC (.int 0)]
def tHand (CL : Str → Option Addr) (K : PySem.W.Frag) (c1 c2 : Int) (E : XK) : TS := tSeq (tAsg (tLc (iList K (tSl (rSlL K) (tVar 0) tNoPart (tPart (tC (.int 63))))) (gName 2) (tT [] CL WF dYes) (tE [] CL WF .D (dAbsInt 2)) [2]) (gName 1))
  (tRet (tE [] CL (fun cls d _ H' => E cls d H') .N (fHand2 c1 c2)))
/-- the two statements of _law_hand -/
theorem hand_ok {st : Stmt} {f : Addr} {fd : FuncData} {c1 c2 : Int} {x : Str} (F : Fun K x x st f fd) (S : FnScope ["script", "cells", "cell"] ["script"] (defScope st)) (hc : mulOk c2 63 = true) (hc2 : -(2 ^ 64) < c2 ∧ c2 < 2 ^ 64)
    (hb : ∀ (cdv : Value) (A : Around) (outer : List Env) (s : Shared) (H : Hp) (E : XK), Room 0 (A.deeper (envOfC x (defScope st) s.heap.objs.size f cdv)) →
      PSs (cxOf (L2N.CX P w) P w K mg base ["script", "cells", "cell"] x (defScope st) f cdv A outer s H E) (defBody st) (tHand CL K c1 c2 E)) : FnOk P w K mg base (L2N.CX P w) 1 f fd ["script"] (spH K c1 c2) := by
  refine okXN F S (fun vs H Q E h => ?_) fun cdv A outer s H vs Q E hr h => ⟨_, hb cdv A outer s H E hr, ?_⟩
  · obtain ⟨a, ns, rfl, _⟩ := h
    rfl
  · obtain ⟨a, ns, rfl, hS, hl, q⟩ := h
    have x0 : At [] none (fun _ => False) ⟨H, fun _ => False⟩ (L2.start ["script", "cells", "cell"] [V.ref a]) H [.no, .no, .no] [] := at_no
    have nOO : ∀ (σ : L2.St) (δ : DEnv), (∀ (i : Nat) (y : PyData), δ[i]? ≠ some (SV.o y)) → ∀ b, ¬ OO (fun _ => False) σ δ b := fun σ δ hn b z => by
      rcases z with z | ⟨i, ⟨y, e⟩, _⟩
      · exact z
      · exact hn i y e
    have gs2 : GS [] [2] (gName 2) (tgN 2) := fun am Oc B σ H δ h v d δ' Q x dd e q => by
      cases e
      exact q _ (x.put (fun _ z => nomatch z) ⟨v, rfl, dd⟩) (oo_put fun _ z => nomatch z) ⟨List.length_set .., fun j hj => List.getElem?_set_ne (by intro z; exact hj (by simp [z])), fun j hj => List.getElem?_set_ne (by intro z; exact hj (by simp [z]))⟩
    unfold tHand tSeq tAsg
    refine lc_sound0 (W := fun _ _ _ _ => True) (fi := fScr ns) (vs := [2]) gs2 (fun j hj => hj) x0 (fun R hR => ?_) ?_
    · refine ⟨_, rfl, ⟨63, rfl, a, ns.map V.int, rfl, hS, fun p hp => ?_⟩⟩
      rw [cutV_all (by simpa using hl)]
      have x1 := x0.same (same_upd (o := .lst (ns.map V.int)) hp)
      refine ⟨p, rfl, ⟨_, SqL.of upd_same⟩, hR _ _ (Eff.same (same_upd hp)) x1.wd (wk_list (X := cxOf (L2N.CX P w) P w K mg base ["script", "cells", "cell"] x (defScope st) f cdv A outer s H E) x1 upd_same (nOO _ _ (fun i y e => by
        match i, e with
        | 0, e => cases e
        | 1, e => cases e
        | 2, e => cases e) p) DtA.of_ints)⟩
    · have hd : dLc [2] (tgN 2) (fScr ns) dYes (dAbsInt 2) [.no, .no, .no] [] = .ok (.list (ns.map fun i => .int (if i < 0 then -i else i))) [] := by
        unfold dLc
        have e1 : ([2].any fun i => isO ([SV.no, SV.no, SV.no] : DEnv)[i]?) = false := rfl
        rw [e1, if_neg Bool.false_ne_true]
        unfold fScr
        rw [ev_bind_ok, if_pos (by rw [List.length_map]; exact few_line (by omega))]
        rw [lc_abs (by decide)]
        rfl
      rw [hd]
      intro v H1 e1 r1
      have d1 := (r1.N_D x0.domO x0.amO).2
      have y0 := x0.same e1.of_none
      have y1 := y0.put (i := 1) (v := some v) (s := .d (.list (ns.map fun i => .int (if i < 0 then -i else i)))) (fun _ z => nomatch z) ⟨v, rfl, d1⟩
      show tE [] CL (fun cls d _ H' => E cls d H') .N (fHand2 c1 c2) ((L2.start ["script", "cells", "cell"] [V.ref a]).set 1 (some v)) H1 Q
      refine tE_of y1 ?_
      have hv : fHand2 c1 c2 ([SV.no, SV.no, SV.no].set 1 (.d (.list (ns.map fun i => .int (if i < 0 then -i else i))))) [] = .ok (.list (handL c1 c2 ns)) [] := by
        unfold fHand2
        have hm : mulOk c2 (ns.length : Nat) = true := by
          unfold mulOk
          simp only [Bool.or_eq_true, decide_eq_true_eq]
          exact .inl (.inl hc2)
        simp [ev_op_ok, gLen, gMul, gAdd, hm, handL]
      rw [hv]
      intro v2 H2 e2 r2
      rcases r2 with ⟨_, _, z⟩ | ⟨l, rfl, fr, _, o⟩
      · cases z
      · have s01 : Same H H2 := (Eff.trans e1 e2).of_none
        have hOO := nOO ((L2.start ["script", "cells", "cell"] [V.ref a]).set 1 (some v)) ([SV.no, SV.no, SV.no].set 1 (.d (.list (ns.map fun i => .int (if i < 0 then -i else i))))) (fun i y e => by
          match i, e with
          | 0, e => cases e
          | 1, e => cases e
          | 2, e => cases e)
        refine q l H2 s01 (e1.of_none.free (fr.1 rfl)) (o.kp ⟨fun _ _ _ _ r => r, fun _ _ _ r => r, fun b _ _ _ z => .inr z⟩ fun _ q _ => q)
/-- law: the hand is the ambient list from its first statement on -/
def spL (K : PySem.W.Frag) (T : List (Addr × Str)) : Sp := fun vs H Q _ => ∃ (a : Addr) (ns : List Int), vs = [.ref a] ∧ SqL K H a (ns.map V.int) ∧ ns.length ≤ 63 ∧ (∀ p ∈ T, H p.1 = some (.tbl #[])) ∧ ∀ H', Q (.bl true) H'
def envL (m ih : Nat) : DEnv := (List.replicate m .no).set ih .am
theorem law_ok {T : List (Addr × Str)} {st : Stmt} {f : Addr} {fd : FuncData} {c1 c2 : Int} {x : Str} {N : List Str} {ih k : Nat} {fr : SF} (F : Fun K x x st f fd) (S : FnScope N ["script"] (defScope st)) (hi : ih < N.length)
    (hb : ∀ (cdv : Value) (A : Around) (outer : List Env) (s : Shared) (H : Hp) (E : XK), Room k (A.deeper (envOfC x (defScope st) s.heap.objs.size f cdv)) →
      PSs (cxOf (L2N.CX P w) P w K mg base N x (defScope st) f cdv A outer s H E) (defBody st) (tSeq (tAsg (tCallS (spH K c1 c2) (WE fun cls d _ H' => E cls d H') (tCons (tVar 0) tNil)) (gName ih)) (tS T CL (fun cls d _ H' => E cls d H') fr)))
    (hden : ∀ ns : List Int, ns.length ≤ 63 → ∃ h', fr (envL N.length ih) (handL c1 c2 ns) = .rt (.bool true) h') : FnOk P w K mg base (L2N.CX P w) (k + 1) f fd ["script"] (spL K T) := by
  refine okXN F S (fun vs H Q E h => ?_) fun cdv A outer s H vs Q E hr h => ⟨_, hb cdv A outer s H E hr, ?_⟩
  · obtain ⟨a, ns, rfl, _⟩ := h
    rfl
  · obtain ⟨a, ns, rfl, hS, hl, hT, q⟩ := h
    have hN : 0 < N.length := by omega
    have hlen : (L2.start N [V.ref a]).length = N.length := by
      unfold L2.start
      simp
      omega
    refine ⟨.ref a, rfl, a, ns, rfl, hS, hl, fun l H' s1 hn o => ?_⟩
    have hno : ∀ (σ : L2.St) i b, ¬ OwnAt σ (envL N.length ih) i b := fun σ i b ⟨⟨y, e⟩, _⟩ => by
      unfold envL at e
      by_cases hii : i = ih
      · subst hii
        rw [List.getElem?_set_self (by simpa using hi)] at e
        cases e
      · rw [List.getElem?_set_ne (Ne.symm hii)] at e
        have := List.eq_of_mem_replicate (List.mem_of_getElem? e)
        cases this
    have hO : ∀ (σ : L2.St) b, OO (fun b => b = l) σ (envL N.length ih) b → b = l := fun σ b z => z.elim id fun ⟨i, z⟩ => absurd z (hno σ i b)
    obtain ⟨vs, hv, ht⟩ : ∃ vs, H' l = some (.lst vs) ∧ DtA (fun b => b = l) H' vs (handL c1 c2 ns) := by
      cases o with
      | lst h1 h2 => exact ⟨_, h1, h2⟩
    have tabs : LamX.Tabs T H' := fun p hp => LamX.TabS.nil (s1 _ _ (hT p hp))
    obtain ⟨h', hd⟩ := hden ns hl
    refine ⟨some l, fun b => b = l, ⟨H', fun _ => False⟩, envL N.length ih, handL c1 c2 ns, ⟨?_, fun b hb => ?_, fun c hc => ?_, (fun c hc => by cases hc; rfl), fun i sv hs => ?_, fun i j b z => absurd z (hno _ i b), fun i b z => absurd z (hno _ i b), fun i b z => absurd z (hno _ i b), fun b o e _ _ => e⟩, ?_⟩
    · rw [List.length_set, hlen]; unfold envL; simp
    · subst hb; exact ⟨_, hv, fun z => z⟩
    · cases hc
      exact ⟨.inl rfl, ⟨vs, hv, ht.kp ⟨fun _ _ _ _ r => r, fun _ _ _ r => r, fun b _ _ _ z => hO _ b z⟩⟩, tabs⟩
    · unfold envL at hs
      by_cases hii : i = ih
      · subst hii
        rw [List.getElem?_set_self (by simpa using hi)] at hs
        cases hs
        exact ⟨l, rfl, List.getElem?_set_self (by rw [hlen]; exact hi)⟩
      · rw [List.getElem?_set_ne (Ne.symm hii)] at hs
        have := List.eq_of_mem_replicate (List.mem_of_getElem? hs)
        subst this
        trivial
    · rw [hd]
      intro v H2 _ _ dv
      cases dv
      exact q H2
end
end DL
namespace DL
open PySem PySem.Spec PyProof.Rows L2
@[simp] theorem vr0 {x : PyData} {δ : DEnv} {h : HS} : dVar 0 (.d x :: δ) h = .ok x h := id rfl
@[simp] theorem vw0 {x : PyData} {δ : DEnv} {h : HS} : dOwn 0 (.d x :: δ) h = .ok x h := id rfl
@[simp] theorem vo0 {x : PyData} {δ : DEnv} {h : HS} : dOwn 0 (.o x :: δ) h = .ok x h := id rfl
@[simp] theorem vr1 {s0 : SV} {x : PyData} {δ : DEnv} {h : HS} : dVar 1 (s0 :: .d x :: δ) h = .ok x h := id rfl
@[simp] theorem vw1 {s0 : SV} {x : PyData} {δ : DEnv} {h : HS} : dOwn 1 (s0 :: .d x :: δ) h = .ok x h := id rfl
@[simp] theorem vo1 {s0 : SV} {x : PyData} {δ : DEnv} {h : HS} : dOwn 1 (s0 :: .o x :: δ) h = .ok x h := id rfl
@[simp] theorem vr2 {s0 s1 : SV} {x : PyData} {δ : DEnv} {h : HS} : dVar 2 (s0 :: s1 :: .d x :: δ) h = .ok x h := id rfl
@[simp] theorem vw2 {s0 s1 : SV} {x : PyData} {δ : DEnv} {h : HS} : dOwn 2 (s0 :: s1 :: .d x :: δ) h = .ok x h := id rfl
@[simp] theorem vo2 {s0 s1 : SV} {x : PyData} {δ : DEnv} {h : HS} : dOwn 2 (s0 :: s1 :: .o x :: δ) h = .ok x h := id rfl
@[simp] theorem vr3 {s0 s1 s2 : SV} {x : PyData} {δ : DEnv} {h : HS} : dVar 3 (s0 :: s1 :: s2 :: .d x :: δ) h = .ok x h := id rfl
@[simp] theorem vw3 {s0 s1 s2 : SV} {x : PyData} {δ : DEnv} {h : HS} : dOwn 3 (s0 :: s1 :: s2 :: .d x :: δ) h = .ok x h := id rfl
@[simp] theorem vo3 {s0 s1 s2 : SV} {x : PyData} {δ : DEnv} {h : HS} : dOwn 3 (s0 :: s1 :: s2 :: .o x :: δ) h = .ok x h := id rfl
@[simp] theorem vr4 {s0 s1 s2 s3 : SV} {x : PyData} {δ : DEnv} {h : HS} : dVar 4 (s0 :: s1 :: s2 :: s3 :: .d x :: δ) h = .ok x h := id rfl
@[simp] theorem vw4 {s0 s1 s2 s3 : SV} {x : PyData} {δ : DEnv} {h : HS} : dOwn 4 (s0 :: s1 :: s2 :: s3 :: .d x :: δ) h = .ok x h := id rfl
@[simp] theorem vo4 {s0 s1 s2 s3 : SV} {x : PyData} {δ : DEnv} {h : HS} : dOwn 4 (s0 :: s1 :: s2 :: s3 :: .o x :: δ) h = .ok x h := id rfl
@[simp] theorem vr5 {s0 s1 s2 s3 s4 : SV} {x : PyData} {δ : DEnv} {h : HS} : dVar 5 (s0 :: s1 :: s2 :: s3 :: s4 :: .d x :: δ) h = .ok x h := id rfl
@[simp] theorem vw5 {s0 s1 s2 s3 s4 : SV} {x : PyData} {δ : DEnv} {h : HS} : dOwn 5 (s0 :: s1 :: s2 :: s3 :: s4 :: .d x :: δ) h = .ok x h := id rfl
@[simp] theorem vo5 {s0 s1 s2 s3 s4 : SV} {x : PyData} {δ : DEnv} {h : HS} : dOwn 5 (s0 :: s1 :: s2 :: s3 :: s4 :: .o x :: δ) h = .ok x h := id rfl
@[simp] theorem vr6 {s0 s1 s2 s3 s4 s5 : SV} {x : PyData} {δ : DEnv} {h : HS} : dVar 6 (s0 :: s1 :: s2 :: s3 :: s4 :: s5 :: .d x :: δ) h = .ok x h := id rfl
@[simp] theorem vw6 {s0 s1 s2 s3 s4 s5 : SV} {x : PyData} {δ : DEnv} {h : HS} : dOwn 6 (s0 :: s1 :: s2 :: s3 :: s4 :: s5 :: .d x :: δ) h = .ok x h := id rfl
@[simp] theorem vo6 {s0 s1 s2 s3 s4 s5 : SV} {x : PyData} {δ : DEnv} {h : HS} : dOwn 6 (s0 :: s1 :: s2 :: s3 :: s4 :: s5 :: .o x :: δ) h = .ok x h := id rfl
@[simp] theorem vr7 {s0 s1 s2 s3 s4 s5 s6 : SV} {x : PyData} {δ : DEnv} {h : HS} : dVar 7 (s0 :: s1 :: s2 :: s3 :: s4 :: s5 :: s6 :: .d x :: δ) h = .ok x h := id rfl
@[simp] theorem vw7 {s0 s1 s2 s3 s4 s5 s6 : SV} {x : PyData} {δ : DEnv} {h : HS} : dOwn 7 (s0 :: s1 :: s2 :: s3 :: s4 :: s5 :: s6 :: .d x :: δ) h = .ok x h := id rfl
@[simp] theorem vo7 {s0 s1 s2 s3 s4 s5 s6 : SV} {x : PyData} {δ : DEnv} {h : HS} : dOwn 7 (s0 :: s1 :: s2 :: s3 :: s4 :: s5 :: s6 :: .o x :: δ) h = .ok x h := id rfl
@[simp] theorem vr8 {s0 s1 s2 s3 s4 s5 s6 s7 : SV} {x : PyData} {δ : DEnv} {h : HS} : dVar 8 (s0 :: s1 :: s2 :: s3 :: s4 :: s5 :: s6 :: s7 :: .d x :: δ) h = .ok x h := id rfl
@[simp] theorem vw8 {s0 s1 s2 s3 s4 s5 s6 s7 : SV} {x : PyData} {δ : DEnv} {h : HS} : dOwn 8 (s0 :: s1 :: s2 :: s3 :: s4 :: s5 :: s6 :: s7 :: .d x :: δ) h = .ok x h := id rfl
@[simp] theorem vo8 {s0 s1 s2 s3 s4 s5 s6 s7 : SV} {x : PyData} {δ : DEnv} {h : HS} : dOwn 8 (s0 :: s1 :: s2 :: s3 :: s4 :: s5 :: s6 :: s7 :: .o x :: δ) h = .ok x h := id rfl
@[simp] theorem vr9 {s0 s1 s2 s3 s4 s5 s6 s7 s8 : SV} {x : PyData} {δ : DEnv} {h : HS} : dVar 9 (s0 :: s1 :: s2 :: s3 :: s4 :: s5 :: s6 :: s7 :: s8 :: .d x :: δ) h = .ok x h := id rfl
@[simp] theorem vw9 {s0 s1 s2 s3 s4 s5 s6 s7 s8 : SV} {x : PyData} {δ : DEnv} {h : HS} : dOwn 9 (s0 :: s1 :: s2 :: s3 :: s4 :: s5 :: s6 :: s7 :: s8 :: .d x :: δ) h = .ok x h := id rfl
@[simp] theorem vo9 {s0 s1 s2 s3 s4 s5 s6 s7 s8 : SV} {x : PyData} {δ : DEnv} {h : HS} : dOwn 9 (s0 :: s1 :: s2 :: s3 :: s4 :: s5 :: s6 :: s7 :: s8 :: .o x :: δ) h = .ok x h := id rfl
@[simp] theorem vr10 {s0 s1 s2 s3 s4 s5 s6 s7 s8 s9 : SV} {x : PyData} {δ : DEnv} {h : HS} : dVar 10 (s0 :: s1 :: s2 :: s3 :: s4 :: s5 :: s6 :: s7 :: s8 :: s9 :: .d x :: δ) h = .ok x h := id rfl
@[simp] theorem vw10 {s0 s1 s2 s3 s4 s5 s6 s7 s8 s9 : SV} {x : PyData} {δ : DEnv} {h : HS} : dOwn 10 (s0 :: s1 :: s2 :: s3 :: s4 :: s5 :: s6 :: s7 :: s8 :: s9 :: .d x :: δ) h = .ok x h := id rfl
@[simp] theorem vo10 {s0 s1 s2 s3 s4 s5 s6 s7 s8 s9 : SV} {x : PyData} {δ : DEnv} {h : HS} : dOwn 10 (s0 :: s1 :: s2 :: s3 :: s4 :: s5 :: s6 :: s7 :: s8 :: s9 :: .o x :: δ) h = .ok x h := id rfl
@[simp] theorem vr11 {s0 s1 s2 s3 s4 s5 s6 s7 s8 s9 s10 : SV} {x : PyData} {δ : DEnv} {h : HS} : dVar 11 (s0 :: s1 :: s2 :: s3 :: s4 :: s5 :: s6 :: s7 :: s8 :: s9 :: s10 :: .d x :: δ) h = .ok x h := id rfl
@[simp] theorem vw11 {s0 s1 s2 s3 s4 s5 s6 s7 s8 s9 s10 : SV} {x : PyData} {δ : DEnv} {h : HS} : dOwn 11 (s0 :: s1 :: s2 :: s3 :: s4 :: s5 :: s6 :: s7 :: s8 :: s9 :: s10 :: .d x :: δ) h = .ok x h := id rfl
@[simp] theorem vo11 {s0 s1 s2 s3 s4 s5 s6 s7 s8 s9 s10 : SV} {x : PyData} {δ : DEnv} {h : HS} : dOwn 11 (s0 :: s1 :: s2 :: s3 :: s4 :: s5 :: s6 :: s7 :: s8 :: s9 :: s10 :: .o x :: δ) h = .ok x h := id rfl
@[simp] theorem vr12 {s0 s1 s2 s3 s4 s5 s6 s7 s8 s9 s10 s11 : SV} {x : PyData} {δ : DEnv} {h : HS} : dVar 12 (s0 :: s1 :: s2 :: s3 :: s4 :: s5 :: s6 :: s7 :: s8 :: s9 :: s10 :: s11 :: .d x :: δ) h = .ok x h := id rfl
@[simp] theorem vw12 {s0 s1 s2 s3 s4 s5 s6 s7 s8 s9 s10 s11 : SV} {x : PyData} {δ : DEnv} {h : HS} : dOwn 12 (s0 :: s1 :: s2 :: s3 :: s4 :: s5 :: s6 :: s7 :: s8 :: s9 :: s10 :: s11 :: .d x :: δ) h = .ok x h := id rfl
@[simp] theorem vo12 {s0 s1 s2 s3 s4 s5 s6 s7 s8 s9 s10 s11 : SV} {x : PyData} {δ : DEnv} {h : HS} : dOwn 12 (s0 :: s1 :: s2 :: s3 :: s4 :: s5 :: s6 :: s7 :: s8 :: s9 :: s10 :: s11 :: .o x :: δ) h = .ok x h := id rfl
@[simp] theorem vr13 {s0 s1 s2 s3 s4 s5 s6 s7 s8 s9 s10 s11 s12 : SV} {x : PyData} {δ : DEnv} {h : HS} : dVar 13 (s0 :: s1 :: s2 :: s3 :: s4 :: s5 :: s6 :: s7 :: s8 :: s9 :: s10 :: s11 :: s12 :: .d x :: δ) h = .ok x h := id rfl
@[simp] theorem vw13 {s0 s1 s2 s3 s4 s5 s6 s7 s8 s9 s10 s11 s12 : SV} {x : PyData} {δ : DEnv} {h : HS} : dOwn 13 (s0 :: s1 :: s2 :: s3 :: s4 :: s5 :: s6 :: s7 :: s8 :: s9 :: s10 :: s11 :: s12 :: .d x :: δ) h = .ok x h := id rfl
@[simp] theorem vo13 {s0 s1 s2 s3 s4 s5 s6 s7 s8 s9 s10 s11 s12 : SV} {x : PyData} {δ : DEnv} {h : HS} : dOwn 13 (s0 :: s1 :: s2 :: s3 :: s4 :: s5 :: s6 :: s7 :: s8 :: s9 :: s10 :: s11 :: s12 :: .o x :: δ) h = .ok x h := id rfl
@[simp] theorem vr14 {s0 s1 s2 s3 s4 s5 s6 s7 s8 s9 s10 s11 s12 s13 : SV} {x : PyData} {δ : DEnv} {h : HS} : dVar 14 (s0 :: s1 :: s2 :: s3 :: s4 :: s5 :: s6 :: s7 :: s8 :: s9 :: s10 :: s11 :: s12 :: s13 :: .d x :: δ) h = .ok x h := id rfl
@[simp] theorem vw14 {s0 s1 s2 s3 s4 s5 s6 s7 s8 s9 s10 s11 s12 s13 : SV} {x : PyData} {δ : DEnv} {h : HS} : dOwn 14 (s0 :: s1 :: s2 :: s3 :: s4 :: s5 :: s6 :: s7 :: s8 :: s9 :: s10 :: s11 :: s12 :: s13 :: .d x :: δ) h = .ok x h := id rfl
@[simp] theorem vo14 {s0 s1 s2 s3 s4 s5 s6 s7 s8 s9 s10 s11 s12 s13 : SV} {x : PyData} {δ : DEnv} {h : HS} : dOwn 14 (s0 :: s1 :: s2 :: s3 :: s4 :: s5 :: s6 :: s7 :: s8 :: s9 :: s10 :: s11 :: s12 :: s13 :: .o x :: δ) h = .ok x h := id rfl
@[simp] theorem vr15 {s0 s1 s2 s3 s4 s5 s6 s7 s8 s9 s10 s11 s12 s13 s14 : SV} {x : PyData} {δ : DEnv} {h : HS} : dVar 15 (s0 :: s1 :: s2 :: s3 :: s4 :: s5 :: s6 :: s7 :: s8 :: s9 :: s10 :: s11 :: s12 :: s13 :: s14 :: .d x :: δ) h = .ok x h := id rfl
@[simp] theorem vw15 {s0 s1 s2 s3 s4 s5 s6 s7 s8 s9 s10 s11 s12 s13 s14 : SV} {x : PyData} {δ : DEnv} {h : HS} : dOwn 15 (s0 :: s1 :: s2 :: s3 :: s4 :: s5 :: s6 :: s7 :: s8 :: s9 :: s10 :: s11 :: s12 :: s13 :: s14 :: .d x :: δ) h = .ok x h := id rfl
@[simp] theorem vo15 {s0 s1 s2 s3 s4 s5 s6 s7 s8 s9 s10 s11 s12 s13 s14 : SV} {x : PyData} {δ : DEnv} {h : HS} : dOwn 15 (s0 :: s1 :: s2 :: s3 :: s4 :: s5 :: s6 :: s7 :: s8 :: s9 :: s10 :: s11 :: s12 :: s13 :: s14 :: .o x :: δ) h = .ok x h := id rfl
@[simp] theorem vr16 {s0 s1 s2 s3 s4 s5 s6 s7 s8 s9 s10 s11 s12 s13 s14 s15 : SV} {x : PyData} {δ : DEnv} {h : HS} : dVar 16 (s0 :: s1 :: s2 :: s3 :: s4 :: s5 :: s6 :: s7 :: s8 :: s9 :: s10 :: s11 :: s12 :: s13 :: s14 :: s15 :: .d x :: δ) h = .ok x h := id rfl
@[simp] theorem vw16 {s0 s1 s2 s3 s4 s5 s6 s7 s8 s9 s10 s11 s12 s13 s14 s15 : SV} {x : PyData} {δ : DEnv} {h : HS} : dOwn 16 (s0 :: s1 :: s2 :: s3 :: s4 :: s5 :: s6 :: s7 :: s8 :: s9 :: s10 :: s11 :: s12 :: s13 :: s14 :: s15 :: .d x :: δ) h = .ok x h := id rfl
@[simp] theorem vo16 {s0 s1 s2 s3 s4 s5 s6 s7 s8 s9 s10 s11 s12 s13 s14 s15 : SV} {x : PyData} {δ : DEnv} {h : HS} : dOwn 16 (s0 :: s1 :: s2 :: s3 :: s4 :: s5 :: s6 :: s7 :: s8 :: s9 :: s10 :: s11 :: s12 :: s13 :: s14 :: s15 :: .o x :: δ) h = .ok x h := id rfl
@[simp] theorem vr17 {s0 s1 s2 s3 s4 s5 s6 s7 s8 s9 s10 s11 s12 s13 s14 s15 s16 : SV} {x : PyData} {δ : DEnv} {h : HS} : dVar 17 (s0 :: s1 :: s2 :: s3 :: s4 :: s5 :: s6 :: s7 :: s8 :: s9 :: s10 :: s11 :: s12 :: s13 :: s14 :: s15 :: s16 :: .d x :: δ) h = .ok x h := id rfl
@[simp] theorem vw17 {s0 s1 s2 s3 s4 s5 s6 s7 s8 s9 s10 s11 s12 s13 s14 s15 s16 : SV} {x : PyData} {δ : DEnv} {h : HS} : dOwn 17 (s0 :: s1 :: s2 :: s3 :: s4 :: s5 :: s6 :: s7 :: s8 :: s9 :: s10 :: s11 :: s12 :: s13 :: s14 :: s15 :: s16 :: .d x :: δ) h = .ok x h := id rfl
@[simp] theorem vo17 {s0 s1 s2 s3 s4 s5 s6 s7 s8 s9 s10 s11 s12 s13 s14 s15 s16 : SV} {x : PyData} {δ : DEnv} {h : HS} : dOwn 17 (s0 :: s1 :: s2 :: s3 :: s4 :: s5 :: s6 :: s7 :: s8 :: s9 :: s10 :: s11 :: s12 :: s13 :: s14 :: s15 :: s16 :: .o x :: δ) h = .ok x h := id rfl
@[simp] theorem vr18 {s0 s1 s2 s3 s4 s5 s6 s7 s8 s9 s10 s11 s12 s13 s14 s15 s16 s17 : SV} {x : PyData} {δ : DEnv} {h : HS} : dVar 18 (s0 :: s1 :: s2 :: s3 :: s4 :: s5 :: s6 :: s7 :: s8 :: s9 :: s10 :: s11 :: s12 :: s13 :: s14 :: s15 :: s16 :: s17 :: .d x :: δ) h = .ok x h := id rfl
@[simp] theorem vw18 {s0 s1 s2 s3 s4 s5 s6 s7 s8 s9 s10 s11 s12 s13 s14 s15 s16 s17 : SV} {x : PyData} {δ : DEnv} {h : HS} : dOwn 18 (s0 :: s1 :: s2 :: s3 :: s4 :: s5 :: s6 :: s7 :: s8 :: s9 :: s10 :: s11 :: s12 :: s13 :: s14 :: s15 :: s16 :: s17 :: .d x :: δ) h = .ok x h := id rfl
@[simp] theorem vo18 {s0 s1 s2 s3 s4 s5 s6 s7 s8 s9 s10 s11 s12 s13 s14 s15 s16 s17 : SV} {x : PyData} {δ : DEnv} {h : HS} : dOwn 18 (s0 :: s1 :: s2 :: s3 :: s4 :: s5 :: s6 :: s7 :: s8 :: s9 :: s10 :: s11 :: s12 :: s13 :: s14 :: s15 :: s16 :: s17 :: .o x :: δ) h = .ok x h := id rfl
@[simp] theorem vr19 {s0 s1 s2 s3 s4 s5 s6 s7 s8 s9 s10 s11 s12 s13 s14 s15 s16 s17 s18 : SV} {x : PyData} {δ : DEnv} {h : HS} : dVar 19 (s0 :: s1 :: s2 :: s3 :: s4 :: s5 :: s6 :: s7 :: s8 :: s9 :: s10 :: s11 :: s12 :: s13 :: s14 :: s15 :: s16 :: s17 :: s18 :: .d x :: δ) h = .ok x h := id rfl
@[simp] theorem vw19 {s0 s1 s2 s3 s4 s5 s6 s7 s8 s9 s10 s11 s12 s13 s14 s15 s16 s17 s18 : SV} {x : PyData} {δ : DEnv} {h : HS} : dOwn 19 (s0 :: s1 :: s2 :: s3 :: s4 :: s5 :: s6 :: s7 :: s8 :: s9 :: s10 :: s11 :: s12 :: s13 :: s14 :: s15 :: s16 :: s17 :: s18 :: .d x :: δ) h = .ok x h := id rfl
@[simp] theorem vo19 {s0 s1 s2 s3 s4 s5 s6 s7 s8 s9 s10 s11 s12 s13 s14 s15 s16 s17 s18 : SV} {x : PyData} {δ : DEnv} {h : HS} : dOwn 19 (s0 :: s1 :: s2 :: s3 :: s4 :: s5 :: s6 :: s7 :: s8 :: s9 :: s10 :: s11 :: s12 :: s13 :: s14 :: s15 :: s16 :: s17 :: s18 :: .o x :: δ) h = .ok x h := id rfl
@[simp] theorem vr20 {s0 s1 s2 s3 s4 s5 s6 s7 s8 s9 s10 s11 s12 s13 s14 s15 s16 s17 s18 s19 : SV} {x : PyData} {δ : DEnv} {h : HS} : dVar 20 (s0 :: s1 :: s2 :: s3 :: s4 :: s5 :: s6 :: s7 :: s8 :: s9 :: s10 :: s11 :: s12 :: s13 :: s14 :: s15 :: s16 :: s17 :: s18 :: s19 :: .d x :: δ) h = .ok x h := id rfl
@[simp] theorem vw20 {s0 s1 s2 s3 s4 s5 s6 s7 s8 s9 s10 s11 s12 s13 s14 s15 s16 s17 s18 s19 : SV} {x : PyData} {δ : DEnv} {h : HS} : dOwn 20 (s0 :: s1 :: s2 :: s3 :: s4 :: s5 :: s6 :: s7 :: s8 :: s9 :: s10 :: s11 :: s12 :: s13 :: s14 :: s15 :: s16 :: s17 :: s18 :: s19 :: .d x :: δ) h = .ok x h := id rfl
@[simp] theorem vo20 {s0 s1 s2 s3 s4 s5 s6 s7 s8 s9 s10 s11 s12 s13 s14 s15 s16 s17 s18 s19 : SV} {x : PyData} {δ : DEnv} {h : HS} : dOwn 20 (s0 :: s1 :: s2 :: s3 :: s4 :: s5 :: s6 :: s7 :: s8 :: s9 :: s10 :: s11 :: s12 :: s13 :: s14 :: s15 :: s16 :: s17 :: s18 :: s19 :: .o x :: δ) h = .ok x h := id rfl
@[simp] theorem vr21 {s0 s1 s2 s3 s4 s5 s6 s7 s8 s9 s10 s11 s12 s13 s14 s15 s16 s17 s18 s19 s20 : SV} {x : PyData} {δ : DEnv} {h : HS} : dVar 21 (s0 :: s1 :: s2 :: s3 :: s4 :: s5 :: s6 :: s7 :: s8 :: s9 :: s10 :: s11 :: s12 :: s13 :: s14 :: s15 :: s16 :: s17 :: s18 :: s19 :: s20 :: .d x :: δ) h = .ok x h := id rfl
@[simp] theorem vw21 {s0 s1 s2 s3 s4 s5 s6 s7 s8 s9 s10 s11 s12 s13 s14 s15 s16 s17 s18 s19 s20 : SV} {x : PyData} {δ : DEnv} {h : HS} : dOwn 21 (s0 :: s1 :: s2 :: s3 :: s4 :: s5 :: s6 :: s7 :: s8 :: s9 :: s10 :: s11 :: s12 :: s13 :: s14 :: s15 :: s16 :: s17 :: s18 :: s19 :: s20 :: .d x :: δ) h = .ok x h := id rfl
@[simp] theorem vo21 {s0 s1 s2 s3 s4 s5 s6 s7 s8 s9 s10 s11 s12 s13 s14 s15 s16 s17 s18 s19 s20 : SV} {x : PyData} {δ : DEnv} {h : HS} : dOwn 21 (s0 :: s1 :: s2 :: s3 :: s4 :: s5 :: s6 :: s7 :: s8 :: s9 :: s10 :: s11 :: s12 :: s13 :: s14 :: s15 :: s16 :: s17 :: s18 :: s19 :: s20 :: .o x :: δ) h = .ok x h := id rfl
@[simp] theorem vr22 {s0 s1 s2 s3 s4 s5 s6 s7 s8 s9 s10 s11 s12 s13 s14 s15 s16 s17 s18 s19 s20 s21 : SV} {x : PyData} {δ : DEnv} {h : HS} : dVar 22 (s0 :: s1 :: s2 :: s3 :: s4 :: s5 :: s6 :: s7 :: s8 :: s9 :: s10 :: s11 :: s12 :: s13 :: s14 :: s15 :: s16 :: s17 :: s18 :: s19 :: s20 :: s21 :: .d x :: δ) h = .ok x h := id rfl
@[simp] theorem vw22 {s0 s1 s2 s3 s4 s5 s6 s7 s8 s9 s10 s11 s12 s13 s14 s15 s16 s17 s18 s19 s20 s21 : SV} {x : PyData} {δ : DEnv} {h : HS} : dOwn 22 (s0 :: s1 :: s2 :: s3 :: s4 :: s5 :: s6 :: s7 :: s8 :: s9 :: s10 :: s11 :: s12 :: s13 :: s14 :: s15 :: s16 :: s17 :: s18 :: s19 :: s20 :: s21 :: .d x :: δ) h = .ok x h := id rfl
@[simp] theorem vo22 {s0 s1 s2 s3 s4 s5 s6 s7 s8 s9 s10 s11 s12 s13 s14 s15 s16 s17 s18 s19 s20 s21 : SV} {x : PyData} {δ : DEnv} {h : HS} : dOwn 22 (s0 :: s1 :: s2 :: s3 :: s4 :: s5 :: s6 :: s7 :: s8 :: s9 :: s10 :: s11 :: s12 :: s13 :: s14 :: s15 :: s16 :: s17 :: s18 :: s19 :: s20 :: s21 :: .o x :: δ) h = .ok x h := id rfl
@[simp] theorem vr23 {s0 s1 s2 s3 s4 s5 s6 s7 s8 s9 s10 s11 s12 s13 s14 s15 s16 s17 s18 s19 s20 s21 s22 : SV} {x : PyData} {δ : DEnv} {h : HS} : dVar 23 (s0 :: s1 :: s2 :: s3 :: s4 :: s5 :: s6 :: s7 :: s8 :: s9 :: s10 :: s11 :: s12 :: s13 :: s14 :: s15 :: s16 :: s17 :: s18 :: s19 :: s20 :: s21 :: s22 :: .d x :: δ) h = .ok x h := id rfl
@[simp] theorem vw23 {s0 s1 s2 s3 s4 s5 s6 s7 s8 s9 s10 s11 s12 s13 s14 s15 s16 s17 s18 s19 s20 s21 s22 : SV} {x : PyData} {δ : DEnv} {h : HS} : dOwn 23 (s0 :: s1 :: s2 :: s3 :: s4 :: s5 :: s6 :: s7 :: s8 :: s9 :: s10 :: s11 :: s12 :: s13 :: s14 :: s15 :: s16 :: s17 :: s18 :: s19 :: s20 :: s21 :: s22 :: .d x :: δ) h = .ok x h := id rfl
@[simp] theorem vo23 {s0 s1 s2 s3 s4 s5 s6 s7 s8 s9 s10 s11 s12 s13 s14 s15 s16 s17 s18 s19 s20 s21 s22 : SV} {x : PyData} {δ : DEnv} {h : HS} : dOwn 23 (s0 :: s1 :: s2 :: s3 :: s4 :: s5 :: s6 :: s7 :: s8 :: s9 :: s10 :: s11 :: s12 :: s13 :: s14 :: s15 :: s16 :: s17 :: s18 :: s19 :: s20 :: s21 :: s22 :: .o x :: δ) h = .ok x h := id rfl
@[simp] theorem vr24 {s0 s1 s2 s3 s4 s5 s6 s7 s8 s9 s10 s11 s12 s13 s14 s15 s16 s17 s18 s19 s20 s21 s22 s23 : SV} {x : PyData} {δ : DEnv} {h : HS} : dVar 24 (s0 :: s1 :: s2 :: s3 :: s4 :: s5 :: s6 :: s7 :: s8 :: s9 :: s10 :: s11 :: s12 :: s13 :: s14 :: s15 :: s16 :: s17 :: s18 :: s19 :: s20 :: s21 :: s22 :: s23 :: .d x :: δ) h = .ok x h := id rfl
@[simp] theorem vw24 {s0 s1 s2 s3 s4 s5 s6 s7 s8 s9 s10 s11 s12 s13 s14 s15 s16 s17 s18 s19 s20 s21 s22 s23 : SV} {x : PyData} {δ : DEnv} {h : HS} : dOwn 24 (s0 :: s1 :: s2 :: s3 :: s4 :: s5 :: s6 :: s7 :: s8 :: s9 :: s10 :: s11 :: s12 :: s13 :: s14 :: s15 :: s16 :: s17 :: s18 :: s19 :: s20 :: s21 :: s22 :: s23 :: .d x :: δ) h = .ok x h := id rfl
@[simp] theorem vo24 {s0 s1 s2 s3 s4 s5 s6 s7 s8 s9 s10 s11 s12 s13 s14 s15 s16 s17 s18 s19 s20 s21 s22 s23 : SV} {x : PyData} {δ : DEnv} {h : HS} : dOwn 24 (s0 :: s1 :: s2 :: s3 :: s4 :: s5 :: s6 :: s7 :: s8 :: s9 :: s10 :: s11 :: s12 :: s13 :: s14 :: s15 :: s16 :: s17 :: s18 :: s19 :: s20 :: s21 :: s22 :: s23 :: .o x :: δ) h = .ok x h := id rfl
@[simp] theorem vr25 {s0 s1 s2 s3 s4 s5 s6 s7 s8 s9 s10 s11 s12 s13 s14 s15 s16 s17 s18 s19 s20 s21 s22 s23 s24 : SV} {x : PyData} {δ : DEnv} {h : HS} : dVar 25 (s0 :: s1 :: s2 :: s3 :: s4 :: s5 :: s6 :: s7 :: s8 :: s9 :: s10 :: s11 :: s12 :: s13 :: s14 :: s15 :: s16 :: s17 :: s18 :: s19 :: s20 :: s21 :: s22 :: s23 :: s24 :: .d x :: δ) h = .ok x h := id rfl
@[simp] theorem vw25 {s0 s1 s2 s3 s4 s5 s6 s7 s8 s9 s10 s11 s12 s13 s14 s15 s16 s17 s18 s19 s20 s21 s22 s23 s24 : SV} {x : PyData} {δ : DEnv} {h : HS} : dOwn 25 (s0 :: s1 :: s2 :: s3 :: s4 :: s5 :: s6 :: s7 :: s8 :: s9 :: s10 :: s11 :: s12 :: s13 :: s14 :: s15 :: s16 :: s17 :: s18 :: s19 :: s20 :: s21 :: s22 :: s23 :: s24 :: .d x :: δ) h = .ok x h := id rfl
@[simp] theorem vo25 {s0 s1 s2 s3 s4 s5 s6 s7 s8 s9 s10 s11 s12 s13 s14 s15 s16 s17 s18 s19 s20 s21 s22 s23 s24 : SV} {x : PyData} {δ : DEnv} {h : HS} : dOwn 25 (s0 :: s1 :: s2 :: s3 :: s4 :: s5 :: s6 :: s7 :: s8 :: s9 :: s10 :: s11 :: s12 :: s13 :: s14 :: s15 :: s16 :: s17 :: s18 :: s19 :: s20 :: s21 :: s22 :: s23 :: s24 :: .o x :: δ) h = .ok x h := id rfl
@[simp] theorem vr26 {s0 s1 s2 s3 s4 s5 s6 s7 s8 s9 s10 s11 s12 s13 s14 s15 s16 s17 s18 s19 s20 s21 s22 s23 s24 s25 : SV} {x : PyData} {δ : DEnv} {h : HS} : dVar 26 (s0 :: s1 :: s2 :: s3 :: s4 :: s5 :: s6 :: s7 :: s8 :: s9 :: s10 :: s11 :: s12 :: s13 :: s14 :: s15 :: s16 :: s17 :: s18 :: s19 :: s20 :: s21 :: s22 :: s23 :: s24 :: s25 :: .d x :: δ) h = .ok x h := id rfl
@[simp] theorem vw26 {s0 s1 s2 s3 s4 s5 s6 s7 s8 s9 s10 s11 s12 s13 s14 s15 s16 s17 s18 s19 s20 s21 s22 s23 s24 s25 : SV} {x : PyData} {δ : DEnv} {h : HS} : dOwn 26 (s0 :: s1 :: s2 :: s3 :: s4 :: s5 :: s6 :: s7 :: s8 :: s9 :: s10 :: s11 :: s12 :: s13 :: s14 :: s15 :: s16 :: s17 :: s18 :: s19 :: s20 :: s21 :: s22 :: s23 :: s24 :: s25 :: .d x :: δ) h = .ok x h := id rfl
@[simp] theorem vo26 {s0 s1 s2 s3 s4 s5 s6 s7 s8 s9 s10 s11 s12 s13 s14 s15 s16 s17 s18 s19 s20 s21 s22 s23 s24 s25 : SV} {x : PyData} {δ : DEnv} {h : HS} : dOwn 26 (s0 :: s1 :: s2 :: s3 :: s4 :: s5 :: s6 :: s7 :: s8 :: s9 :: s10 :: s11 :: s12 :: s13 :: s14 :: s15 :: s16 :: s17 :: s18 :: s19 :: s20 :: s21 :: s22 :: s23 :: s24 :: s25 :: .o x :: δ) h = .ok x h := id rfl
@[simp] theorem vr27 {s0 s1 s2 s3 s4 s5 s6 s7 s8 s9 s10 s11 s12 s13 s14 s15 s16 s17 s18 s19 s20 s21 s22 s23 s24 s25 s26 : SV} {x : PyData} {δ : DEnv} {h : HS} : dVar 27 (s0 :: s1 :: s2 :: s3 :: s4 :: s5 :: s6 :: s7 :: s8 :: s9 :: s10 :: s11 :: s12 :: s13 :: s14 :: s15 :: s16 :: s17 :: s18 :: s19 :: s20 :: s21 :: s22 :: s23 :: s24 :: s25 :: s26 :: .d x :: δ) h = .ok x h := id rfl
@[simp] theorem vw27 {s0 s1 s2 s3 s4 s5 s6 s7 s8 s9 s10 s11 s12 s13 s14 s15 s16 s17 s18 s19 s20 s21 s22 s23 s24 s25 s26 : SV} {x : PyData} {δ : DEnv} {h : HS} : dOwn 27 (s0 :: s1 :: s2 :: s3 :: s4 :: s5 :: s6 :: s7 :: s8 :: s9 :: s10 :: s11 :: s12 :: s13 :: s14 :: s15 :: s16 :: s17 :: s18 :: s19 :: s20 :: s21 :: s22 :: s23 :: s24 :: s25 :: s26 :: .d x :: δ) h = .ok x h := id rfl
@[simp] theorem vo27 {s0 s1 s2 s3 s4 s5 s6 s7 s8 s9 s10 s11 s12 s13 s14 s15 s16 s17 s18 s19 s20 s21 s22 s23 s24 s25 s26 : SV} {x : PyData} {δ : DEnv} {h : HS} : dOwn 27 (s0 :: s1 :: s2 :: s3 :: s4 :: s5 :: s6 :: s7 :: s8 :: s9 :: s10 :: s11 :: s12 :: s13 :: s14 :: s15 :: s16 :: s17 :: s18 :: s19 :: s20 :: s21 :: s22 :: s23 :: s24 :: s25 :: s26 :: .o x :: δ) h = .ok x h := id rfl
@[simp] theorem vr28 {s0 s1 s2 s3 s4 s5 s6 s7 s8 s9 s10 s11 s12 s13 s14 s15 s16 s17 s18 s19 s20 s21 s22 s23 s24 s25 s26 s27 : SV} {x : PyData} {δ : DEnv} {h : HS} : dVar 28 (s0 :: s1 :: s2 :: s3 :: s4 :: s5 :: s6 :: s7 :: s8 :: s9 :: s10 :: s11 :: s12 :: s13 :: s14 :: s15 :: s16 :: s17 :: s18 :: s19 :: s20 :: s21 :: s22 :: s23 :: s24 :: s25 :: s26 :: s27 :: .d x :: δ) h = .ok x h := id rfl
@[simp] theorem vw28 {s0 s1 s2 s3 s4 s5 s6 s7 s8 s9 s10 s11 s12 s13 s14 s15 s16 s17 s18 s19 s20 s21 s22 s23 s24 s25 s26 s27 : SV} {x : PyData} {δ : DEnv} {h : HS} : dOwn 28 (s0 :: s1 :: s2 :: s3 :: s4 :: s5 :: s6 :: s7 :: s8 :: s9 :: s10 :: s11 :: s12 :: s13 :: s14 :: s15 :: s16 :: s17 :: s18 :: s19 :: s20 :: s21 :: s22 :: s23 :: s24 :: s25 :: s26 :: s27 :: .d x :: δ) h = .ok x h := id rfl
@[simp] theorem vo28 {s0 s1 s2 s3 s4 s5 s6 s7 s8 s9 s10 s11 s12 s13 s14 s15 s16 s17 s18 s19 s20 s21 s22 s23 s24 s25 s26 s27 : SV} {x : PyData} {δ : DEnv} {h : HS} : dOwn 28 (s0 :: s1 :: s2 :: s3 :: s4 :: s5 :: s6 :: s7 :: s8 :: s9 :: s10 :: s11 :: s12 :: s13 :: s14 :: s15 :: s16 :: s17 :: s18 :: s19 :: s20 :: s21 :: s22 :: s23 :: s24 :: s25 :: s26 :: s27 :: .o x :: δ) h = .ok x h := id rfl
@[simp] theorem vr29 {s0 s1 s2 s3 s4 s5 s6 s7 s8 s9 s10 s11 s12 s13 s14 s15 s16 s17 s18 s19 s20 s21 s22 s23 s24 s25 s26 s27 s28 : SV} {x : PyData} {δ : DEnv} {h : HS} : dVar 29 (s0 :: s1 :: s2 :: s3 :: s4 :: s5 :: s6 :: s7 :: s8 :: s9 :: s10 :: s11 :: s12 :: s13 :: s14 :: s15 :: s16 :: s17 :: s18 :: s19 :: s20 :: s21 :: s22 :: s23 :: s24 :: s25 :: s26 :: s27 :: s28 :: .d x :: δ) h = .ok x h := id rfl
@[simp] theorem vw29 {s0 s1 s2 s3 s4 s5 s6 s7 s8 s9 s10 s11 s12 s13 s14 s15 s16 s17 s18 s19 s20 s21 s22 s23 s24 s25 s26 s27 s28 : SV} {x : PyData} {δ : DEnv} {h : HS} : dOwn 29 (s0 :: s1 :: s2 :: s3 :: s4 :: s5 :: s6 :: s7 :: s8 :: s9 :: s10 :: s11 :: s12 :: s13 :: s14 :: s15 :: s16 :: s17 :: s18 :: s19 :: s20 :: s21 :: s22 :: s23 :: s24 :: s25 :: s26 :: s27 :: s28 :: .d x :: δ) h = .ok x h := id rfl
@[simp] theorem vo29 {s0 s1 s2 s3 s4 s5 s6 s7 s8 s9 s10 s11 s12 s13 s14 s15 s16 s17 s18 s19 s20 s21 s22 s23 s24 s25 s26 s27 s28 : SV} {x : PyData} {δ : DEnv} {h : HS} : dOwn 29 (s0 :: s1 :: s2 :: s3 :: s4 :: s5 :: s6 :: s7 :: s8 :: s9 :: s10 :: s11 :: s12 :: s13 :: s14 :: s15 :: s16 :: s17 :: s18 :: s19 :: s20 :: s21 :: s22 :: s23 :: s24 :: s25 :: s26 :: s27 :: s28 :: .o x :: δ) h = .ok x h := id rfl
@[simp] theorem vr30 {s0 s1 s2 s3 s4 s5 s6 s7 s8 s9 s10 s11 s12 s13 s14 s15 s16 s17 s18 s19 s20 s21 s22 s23 s24 s25 s26 s27 s28 s29 : SV} {x : PyData} {δ : DEnv} {h : HS} : dVar 30 (s0 :: s1 :: s2 :: s3 :: s4 :: s5 :: s6 :: s7 :: s8 :: s9 :: s10 :: s11 :: s12 :: s13 :: s14 :: s15 :: s16 :: s17 :: s18 :: s19 :: s20 :: s21 :: s22 :: s23 :: s24 :: s25 :: s26 :: s27 :: s28 :: s29 :: .d x :: δ) h = .ok x h := id rfl
@[simp] theorem vw30 {s0 s1 s2 s3 s4 s5 s6 s7 s8 s9 s10 s11 s12 s13 s14 s15 s16 s17 s18 s19 s20 s21 s22 s23 s24 s25 s26 s27 s28 s29 : SV} {x : PyData} {δ : DEnv} {h : HS} : dOwn 30 (s0 :: s1 :: s2 :: s3 :: s4 :: s5 :: s6 :: s7 :: s8 :: s9 :: s10 :: s11 :: s12 :: s13 :: s14 :: s15 :: s16 :: s17 :: s18 :: s19 :: s20 :: s21 :: s22 :: s23 :: s24 :: s25 :: s26 :: s27 :: s28 :: s29 :: .d x :: δ) h = .ok x h := id rfl
@[simp] theorem vo30 {s0 s1 s2 s3 s4 s5 s6 s7 s8 s9 s10 s11 s12 s13 s14 s15 s16 s17 s18 s19 s20 s21 s22 s23 s24 s25 s26 s27 s28 s29 : SV} {x : PyData} {δ : DEnv} {h : HS} : dOwn 30 (s0 :: s1 :: s2 :: s3 :: s4 :: s5 :: s6 :: s7 :: s8 :: s9 :: s10 :: s11 :: s12 :: s13 :: s14 :: s15 :: s16 :: s17 :: s18 :: s19 :: s20 :: s21 :: s22 :: s23 :: s24 :: s25 :: s26 :: s27 :: s28 :: s29 :: .o x :: δ) h = .ok x h := id rfl
@[simp] theorem vr31 {s0 s1 s2 s3 s4 s5 s6 s7 s8 s9 s10 s11 s12 s13 s14 s15 s16 s17 s18 s19 s20 s21 s22 s23 s24 s25 s26 s27 s28 s29 s30 : SV} {x : PyData} {δ : DEnv} {h : HS} : dVar 31 (s0 :: s1 :: s2 :: s3 :: s4 :: s5 :: s6 :: s7 :: s8 :: s9 :: s10 :: s11 :: s12 :: s13 :: s14 :: s15 :: s16 :: s17 :: s18 :: s19 :: s20 :: s21 :: s22 :: s23 :: s24 :: s25 :: s26 :: s27 :: s28 :: s29 :: s30 :: .d x :: δ) h = .ok x h := id rfl
@[simp] theorem vw31 {s0 s1 s2 s3 s4 s5 s6 s7 s8 s9 s10 s11 s12 s13 s14 s15 s16 s17 s18 s19 s20 s21 s22 s23 s24 s25 s26 s27 s28 s29 s30 : SV} {x : PyData} {δ : DEnv} {h : HS} : dOwn 31 (s0 :: s1 :: s2 :: s3 :: s4 :: s5 :: s6 :: s7 :: s8 :: s9 :: s10 :: s11 :: s12 :: s13 :: s14 :: s15 :: s16 :: s17 :: s18 :: s19 :: s20 :: s21 :: s22 :: s23 :: s24 :: s25 :: s26 :: s27 :: s28 :: s29 :: s30 :: .d x :: δ) h = .ok x h := id rfl
@[simp] theorem vo31 {s0 s1 s2 s3 s4 s5 s6 s7 s8 s9 s10 s11 s12 s13 s14 s15 s16 s17 s18 s19 s20 s21 s22 s23 s24 s25 s26 s27 s28 s29 s30 : SV} {x : PyData} {δ : DEnv} {h : HS} : dOwn 31 (s0 :: s1 :: s2 :: s3 :: s4 :: s5 :: s6 :: s7 :: s8 :: s9 :: s10 :: s11 :: s12 :: s13 :: s14 :: s15 :: s16 :: s17 :: s18 :: s19 :: s20 :: s21 :: s22 :: s23 :: s24 :: s25 :: s26 :: s27 :: s28 :: s29 :: s30 :: .o x :: δ) h = .ok x h := id rfl
@[simp] theorem vr32 {s0 s1 s2 s3 s4 s5 s6 s7 s8 s9 s10 s11 s12 s13 s14 s15 s16 s17 s18 s19 s20 s21 s22 s23 s24 s25 s26 s27 s28 s29 s30 s31 : SV} {x : PyData} {δ : DEnv} {h : HS} : dVar 32 (s0 :: s1 :: s2 :: s3 :: s4 :: s5 :: s6 :: s7 :: s8 :: s9 :: s10 :: s11 :: s12 :: s13 :: s14 :: s15 :: s16 :: s17 :: s18 :: s19 :: s20 :: s21 :: s22 :: s23 :: s24 :: s25 :: s26 :: s27 :: s28 :: s29 :: s30 :: s31 :: .d x :: δ) h = .ok x h := id rfl
@[simp] theorem vw32 {s0 s1 s2 s3 s4 s5 s6 s7 s8 s9 s10 s11 s12 s13 s14 s15 s16 s17 s18 s19 s20 s21 s22 s23 s24 s25 s26 s27 s28 s29 s30 s31 : SV} {x : PyData} {δ : DEnv} {h : HS} : dOwn 32 (s0 :: s1 :: s2 :: s3 :: s4 :: s5 :: s6 :: s7 :: s8 :: s9 :: s10 :: s11 :: s12 :: s13 :: s14 :: s15 :: s16 :: s17 :: s18 :: s19 :: s20 :: s21 :: s22 :: s23 :: s24 :: s25 :: s26 :: s27 :: s28 :: s29 :: s30 :: s31 :: .d x :: δ) h = .ok x h := id rfl
@[simp] theorem vo32 {s0 s1 s2 s3 s4 s5 s6 s7 s8 s9 s10 s11 s12 s13 s14 s15 s16 s17 s18 s19 s20 s21 s22 s23 s24 s25 s26 s27 s28 s29 s30 s31 : SV} {x : PyData} {δ : DEnv} {h : HS} : dOwn 32 (s0 :: s1 :: s2 :: s3 :: s4 :: s5 :: s6 :: s7 :: s8 :: s9 :: s10 :: s11 :: s12 :: s13 :: s14 :: s15 :: s16 :: s17 :: s18 :: s19 :: s20 :: s21 :: s22 :: s23 :: s24 :: s25 :: s26 :: s27 :: s28 :: s29 :: s30 :: s31 :: .o x :: δ) h = .ok x h := id rfl
@[simp] theorem vr33 {s0 s1 s2 s3 s4 s5 s6 s7 s8 s9 s10 s11 s12 s13 s14 s15 s16 s17 s18 s19 s20 s21 s22 s23 s24 s25 s26 s27 s28 s29 s30 s31 s32 : SV} {x : PyData} {δ : DEnv} {h : HS} : dVar 33 (s0 :: s1 :: s2 :: s3 :: s4 :: s5 :: s6 :: s7 :: s8 :: s9 :: s10 :: s11 :: s12 :: s13 :: s14 :: s15 :: s16 :: s17 :: s18 :: s19 :: s20 :: s21 :: s22 :: s23 :: s24 :: s25 :: s26 :: s27 :: s28 :: s29 :: s30 :: s31 :: s32 :: .d x :: δ) h = .ok x h := id rfl
@[simp] theorem vw33 {s0 s1 s2 s3 s4 s5 s6 s7 s8 s9 s10 s11 s12 s13 s14 s15 s16 s17 s18 s19 s20 s21 s22 s23 s24 s25 s26 s27 s28 s29 s30 s31 s32 : SV} {x : PyData} {δ : DEnv} {h : HS} : dOwn 33 (s0 :: s1 :: s2 :: s3 :: s4 :: s5 :: s6 :: s7 :: s8 :: s9 :: s10 :: s11 :: s12 :: s13 :: s14 :: s15 :: s16 :: s17 :: s18 :: s19 :: s20 :: s21 :: s22 :: s23 :: s24 :: s25 :: s26 :: s27 :: s28 :: s29 :: s30 :: s31 :: s32 :: .d x :: δ) h = .ok x h := id rfl
@[simp] theorem vo33 {s0 s1 s2 s3 s4 s5 s6 s7 s8 s9 s10 s11 s12 s13 s14 s15 s16 s17 s18 s19 s20 s21 s22 s23 s24 s25 s26 s27 s28 s29 s30 s31 s32 : SV} {x : PyData} {δ : DEnv} {h : HS} : dOwn 33 (s0 :: s1 :: s2 :: s3 :: s4 :: s5 :: s6 :: s7 :: s8 :: s9 :: s10 :: s11 :: s12 :: s13 :: s14 :: s15 :: s16 :: s17 :: s18 :: s19 :: s20 :: s21 :: s22 :: s23 :: s24 :: s25 :: s26 :: s27 :: s28 :: s29 :: s30 :: s31 :: s32 :: .o x :: δ) h = .ok x h := id rfl
@[simp] theorem vr34 {s0 s1 s2 s3 s4 s5 s6 s7 s8 s9 s10 s11 s12 s13 s14 s15 s16 s17 s18 s19 s20 s21 s22 s23 s24 s25 s26 s27 s28 s29 s30 s31 s32 s33 : SV} {x : PyData} {δ : DEnv} {h : HS} : dVar 34 (s0 :: s1 :: s2 :: s3 :: s4 :: s5 :: s6 :: s7 :: s8 :: s9 :: s10 :: s11 :: s12 :: s13 :: s14 :: s15 :: s16 :: s17 :: s18 :: s19 :: s20 :: s21 :: s22 :: s23 :: s24 :: s25 :: s26 :: s27 :: s28 :: s29 :: s30 :: s31 :: s32 :: s33 :: .d x :: δ) h = .ok x h := id rfl
@[simp] theorem vw34 {s0 s1 s2 s3 s4 s5 s6 s7 s8 s9 s10 s11 s12 s13 s14 s15 s16 s17 s18 s19 s20 s21 s22 s23 s24 s25 s26 s27 s28 s29 s30 s31 s32 s33 : SV} {x : PyData} {δ : DEnv} {h : HS} : dOwn 34 (s0 :: s1 :: s2 :: s3 :: s4 :: s5 :: s6 :: s7 :: s8 :: s9 :: s10 :: s11 :: s12 :: s13 :: s14 :: s15 :: s16 :: s17 :: s18 :: s19 :: s20 :: s21 :: s22 :: s23 :: s24 :: s25 :: s26 :: s27 :: s28 :: s29 :: s30 :: s31 :: s32 :: s33 :: .d x :: δ) h = .ok x h := id rfl
@[simp] theorem vo34 {s0 s1 s2 s3 s4 s5 s6 s7 s8 s9 s10 s11 s12 s13 s14 s15 s16 s17 s18 s19 s20 s21 s22 s23 s24 s25 s26 s27 s28 s29 s30 s31 s32 s33 : SV} {x : PyData} {δ : DEnv} {h : HS} : dOwn 34 (s0 :: s1 :: s2 :: s3 :: s4 :: s5 :: s6 :: s7 :: s8 :: s9 :: s10 :: s11 :: s12 :: s13 :: s14 :: s15 :: s16 :: s17 :: s18 :: s19 :: s20 :: s21 :: s22 :: s23 :: s24 :: s25 :: s26 :: s27 :: s28 :: s29 :: s30 :: s31 :: s32 :: s33 :: .o x :: δ) h = .ok x h := id rfl
@[simp] theorem vr35 {s0 s1 s2 s3 s4 s5 s6 s7 s8 s9 s10 s11 s12 s13 s14 s15 s16 s17 s18 s19 s20 s21 s22 s23 s24 s25 s26 s27 s28 s29 s30 s31 s32 s33 s34 : SV} {x : PyData} {δ : DEnv} {h : HS} : dVar 35 (s0 :: s1 :: s2 :: s3 :: s4 :: s5 :: s6 :: s7 :: s8 :: s9 :: s10 :: s11 :: s12 :: s13 :: s14 :: s15 :: s16 :: s17 :: s18 :: s19 :: s20 :: s21 :: s22 :: s23 :: s24 :: s25 :: s26 :: s27 :: s28 :: s29 :: s30 :: s31 :: s32 :: s33 :: s34 :: .d x :: δ) h = .ok x h := id rfl
@[simp] theorem vw35 {s0 s1 s2 s3 s4 s5 s6 s7 s8 s9 s10 s11 s12 s13 s14 s15 s16 s17 s18 s19 s20 s21 s22 s23 s24 s25 s26 s27 s28 s29 s30 s31 s32 s33 s34 : SV} {x : PyData} {δ : DEnv} {h : HS} : dOwn 35 (s0 :: s1 :: s2 :: s3 :: s4 :: s5 :: s6 :: s7 :: s8 :: s9 :: s10 :: s11 :: s12 :: s13 :: s14 :: s15 :: s16 :: s17 :: s18 :: s19 :: s20 :: s21 :: s22 :: s23 :: s24 :: s25 :: s26 :: s27 :: s28 :: s29 :: s30 :: s31 :: s32 :: s33 :: s34 :: .d x :: δ) h = .ok x h := id rfl
@[simp] theorem vo35 {s0 s1 s2 s3 s4 s5 s6 s7 s8 s9 s10 s11 s12 s13 s14 s15 s16 s17 s18 s19 s20 s21 s22 s23 s24 s25 s26 s27 s28 s29 s30 s31 s32 s33 s34 : SV} {x : PyData} {δ : DEnv} {h : HS} : dOwn 35 (s0 :: s1 :: s2 :: s3 :: s4 :: s5 :: s6 :: s7 :: s8 :: s9 :: s10 :: s11 :: s12 :: s13 :: s14 :: s15 :: s16 :: s17 :: s18 :: s19 :: s20 :: s21 :: s22 :: s23 :: s24 :: s25 :: s26 :: s27 :: s28 :: s29 :: s30 :: s31 :: s32 :: s33 :: s34 :: .o x :: δ) h = .ok x h := id rfl
@[simp] theorem vr36 {s0 s1 s2 s3 s4 s5 s6 s7 s8 s9 s10 s11 s12 s13 s14 s15 s16 s17 s18 s19 s20 s21 s22 s23 s24 s25 s26 s27 s28 s29 s30 s31 s32 s33 s34 s35 : SV} {x : PyData} {δ : DEnv} {h : HS} : dVar 36 (s0 :: s1 :: s2 :: s3 :: s4 :: s5 :: s6 :: s7 :: s8 :: s9 :: s10 :: s11 :: s12 :: s13 :: s14 :: s15 :: s16 :: s17 :: s18 :: s19 :: s20 :: s21 :: s22 :: s23 :: s24 :: s25 :: s26 :: s27 :: s28 :: s29 :: s30 :: s31 :: s32 :: s33 :: s34 :: s35 :: .d x :: δ) h = .ok x h := id rfl
@[simp] theorem vw36 {s0 s1 s2 s3 s4 s5 s6 s7 s8 s9 s10 s11 s12 s13 s14 s15 s16 s17 s18 s19 s20 s21 s22 s23 s24 s25 s26 s27 s28 s29 s30 s31 s32 s33 s34 s35 : SV} {x : PyData} {δ : DEnv} {h : HS} : dOwn 36 (s0 :: s1 :: s2 :: s3 :: s4 :: s5 :: s6 :: s7 :: s8 :: s9 :: s10 :: s11 :: s12 :: s13 :: s14 :: s15 :: s16 :: s17 :: s18 :: s19 :: s20 :: s21 :: s22 :: s23 :: s24 :: s25 :: s26 :: s27 :: s28 :: s29 :: s30 :: s31 :: s32 :: s33 :: s34 :: s35 :: .d x :: δ) h = .ok x h := id rfl
@[simp] theorem vo36 {s0 s1 s2 s3 s4 s5 s6 s7 s8 s9 s10 s11 s12 s13 s14 s15 s16 s17 s18 s19 s20 s21 s22 s23 s24 s25 s26 s27 s28 s29 s30 s31 s32 s33 s34 s35 : SV} {x : PyData} {δ : DEnv} {h : HS} : dOwn 36 (s0 :: s1 :: s2 :: s3 :: s4 :: s5 :: s6 :: s7 :: s8 :: s9 :: s10 :: s11 :: s12 :: s13 :: s14 :: s15 :: s16 :: s17 :: s18 :: s19 :: s20 :: s21 :: s22 :: s23 :: s24 :: s25 :: s26 :: s27 :: s28 :: s29 :: s30 :: s31 :: s32 :: s33 :: s34 :: s35 :: .o x :: δ) h = .ok x h := id rfl
@[simp] theorem vr37 {s0 s1 s2 s3 s4 s5 s6 s7 s8 s9 s10 s11 s12 s13 s14 s15 s16 s17 s18 s19 s20 s21 s22 s23 s24 s25 s26 s27 s28 s29 s30 s31 s32 s33 s34 s35 s36 : SV} {x : PyData} {δ : DEnv} {h : HS} : dVar 37 (s0 :: s1 :: s2 :: s3 :: s4 :: s5 :: s6 :: s7 :: s8 :: s9 :: s10 :: s11 :: s12 :: s13 :: s14 :: s15 :: s16 :: s17 :: s18 :: s19 :: s20 :: s21 :: s22 :: s23 :: s24 :: s25 :: s26 :: s27 :: s28 :: s29 :: s30 :: s31 :: s32 :: s33 :: s34 :: s35 :: s36 :: .d x :: δ) h = .ok x h := id rfl
@[simp] theorem vw37 {s0 s1 s2 s3 s4 s5 s6 s7 s8 s9 s10 s11 s12 s13 s14 s15 s16 s17 s18 s19 s20 s21 s22 s23 s24 s25 s26 s27 s28 s29 s30 s31 s32 s33 s34 s35 s36 : SV} {x : PyData} {δ : DEnv} {h : HS} : dOwn 37 (s0 :: s1 :: s2 :: s3 :: s4 :: s5 :: s6 :: s7 :: s8 :: s9 :: s10 :: s11 :: s12 :: s13 :: s14 :: s15 :: s16 :: s17 :: s18 :: s19 :: s20 :: s21 :: s22 :: s23 :: s24 :: s25 :: s26 :: s27 :: s28 :: s29 :: s30 :: s31 :: s32 :: s33 :: s34 :: s35 :: s36 :: .d x :: δ) h = .ok x h := id rfl
@[simp] theorem vo37 {s0 s1 s2 s3 s4 s5 s6 s7 s8 s9 s10 s11 s12 s13 s14 s15 s16 s17 s18 s19 s20 s21 s22 s23 s24 s25 s26 s27 s28 s29 s30 s31 s32 s33 s34 s35 s36 : SV} {x : PyData} {δ : DEnv} {h : HS} : dOwn 37 (s0 :: s1 :: s2 :: s3 :: s4 :: s5 :: s6 :: s7 :: s8 :: s9 :: s10 :: s11 :: s12 :: s13 :: s14 :: s15 :: s16 :: s17 :: s18 :: s19 :: s20 :: s21 :: s22 :: s23 :: s24 :: s25 :: s26 :: s27 :: s28 :: s29 :: s30 :: s31 :: s32 :: s33 :: s34 :: s35 :: s36 :: .o x :: δ) h = .ok x h := id rfl
@[simp] theorem vr38 {s0 s1 s2 s3 s4 s5 s6 s7 s8 s9 s10 s11 s12 s13 s14 s15 s16 s17 s18 s19 s20 s21 s22 s23 s24 s25 s26 s27 s28 s29 s30 s31 s32 s33 s34 s35 s36 s37 : SV} {x : PyData} {δ : DEnv} {h : HS} : dVar 38 (s0 :: s1 :: s2 :: s3 :: s4 :: s5 :: s6 :: s7 :: s8 :: s9 :: s10 :: s11 :: s12 :: s13 :: s14 :: s15 :: s16 :: s17 :: s18 :: s19 :: s20 :: s21 :: s22 :: s23 :: s24 :: s25 :: s26 :: s27 :: s28 :: s29 :: s30 :: s31 :: s32 :: s33 :: s34 :: s35 :: s36 :: s37 :: .d x :: δ) h = .ok x h := id rfl
@[simp] theorem vw38 {s0 s1 s2 s3 s4 s5 s6 s7 s8 s9 s10 s11 s12 s13 s14 s15 s16 s17 s18 s19 s20 s21 s22 s23 s24 s25 s26 s27 s28 s29 s30 s31 s32 s33 s34 s35 s36 s37 : SV} {x : PyData} {δ : DEnv} {h : HS} : dOwn 38 (s0 :: s1 :: s2 :: s3 :: s4 :: s5 :: s6 :: s7 :: s8 :: s9 :: s10 :: s11 :: s12 :: s13 :: s14 :: s15 :: s16 :: s17 :: s18 :: s19 :: s20 :: s21 :: s22 :: s23 :: s24 :: s25 :: s26 :: s27 :: s28 :: s29 :: s30 :: s31 :: s32 :: s33 :: s34 :: s35 :: s36 :: s37 :: .d x :: δ) h = .ok x h := id rfl
@[simp] theorem vo38 {s0 s1 s2 s3 s4 s5 s6 s7 s8 s9 s10 s11 s12 s13 s14 s15 s16 s17 s18 s19 s20 s21 s22 s23 s24 s25 s26 s27 s28 s29 s30 s31 s32 s33 s34 s35 s36 s37 : SV} {x : PyData} {δ : DEnv} {h : HS} : dOwn 38 (s0 :: s1 :: s2 :: s3 :: s4 :: s5 :: s6 :: s7 :: s8 :: s9 :: s10 :: s11 :: s12 :: s13 :: s14 :: s15 :: s16 :: s17 :: s18 :: s19 :: s20 :: s21 :: s22 :: s23 :: s24 :: s25 :: s26 :: s27 :: s28 :: s29 :: s30 :: s31 :: s32 :: s33 :: s34 :: s35 :: s36 :: s37 :: .o x :: δ) h = .ok x h := id rfl
@[simp] theorem vr39 {s0 s1 s2 s3 s4 s5 s6 s7 s8 s9 s10 s11 s12 s13 s14 s15 s16 s17 s18 s19 s20 s21 s22 s23 s24 s25 s26 s27 s28 s29 s30 s31 s32 s33 s34 s35 s36 s37 s38 : SV} {x : PyData} {δ : DEnv} {h : HS} : dVar 39 (s0 :: s1 :: s2 :: s3 :: s4 :: s5 :: s6 :: s7 :: s8 :: s9 :: s10 :: s11 :: s12 :: s13 :: s14 :: s15 :: s16 :: s17 :: s18 :: s19 :: s20 :: s21 :: s22 :: s23 :: s24 :: s25 :: s26 :: s27 :: s28 :: s29 :: s30 :: s31 :: s32 :: s33 :: s34 :: s35 :: s36 :: s37 :: s38 :: .d x :: δ) h = .ok x h := id rfl
@[simp] theorem vw39 {s0 s1 s2 s3 s4 s5 s6 s7 s8 s9 s10 s11 s12 s13 s14 s15 s16 s17 s18 s19 s20 s21 s22 s23 s24 s25 s26 s27 s28 s29 s30 s31 s32 s33 s34 s35 s36 s37 s38 : SV} {x : PyData} {δ : DEnv} {h : HS} : dOwn 39 (s0 :: s1 :: s2 :: s3 :: s4 :: s5 :: s6 :: s7 :: s8 :: s9 :: s10 :: s11 :: s12 :: s13 :: s14 :: s15 :: s16 :: s17 :: s18 :: s19 :: s20 :: s21 :: s22 :: s23 :: s24 :: s25 :: s26 :: s27 :: s28 :: s29 :: s30 :: s31 :: s32 :: s33 :: s34 :: s35 :: s36 :: s37 :: s38 :: .d x :: δ) h = .ok x h := id rfl
@[simp] theorem vo39 {s0 s1 s2 s3 s4 s5 s6 s7 s8 s9 s10 s11 s12 s13 s14 s15 s16 s17 s18 s19 s20 s21 s22 s23 s24 s25 s26 s27 s28 s29 s30 s31 s32 s33 s34 s35 s36 s37 s38 : SV} {x : PyData} {δ : DEnv} {h : HS} : dOwn 39 (s0 :: s1 :: s2 :: s3 :: s4 :: s5 :: s6 :: s7 :: s8 :: s9 :: s10 :: s11 :: s12 :: s13 :: s14 :: s15 :: s16 :: s17 :: s18 :: s19 :: s20 :: s21 :: s22 :: s23 :: s24 :: s25 :: s26 :: s27 :: s28 :: s29 :: s30 :: s31 :: s32 :: s33 :: s34 :: s35 :: s36 :: s37 :: s38 :: .o x :: δ) h = .ok x h := id rfl
section
variable {a b : Int}
@[simp] theorem gAdd_ii : gAdd (.int a) (.int b) = some (.int (a + b)) := id rfl
@[simp] theorem gSub_ii : DL.gSub (.int a) (.int b) = some (.int (a - b)) := id rfl
theorem gMul_ii (h : mulOk a b = true) : gMul (.int a) (.int b) = some (.int (a * b)) := if_pos h
theorem gFdiv_ii (h : divOk b = true) : gFdiv (.int a) (.int b) = some (.int (a.fdiv b)) := if_pos h
theorem gMod_ii (h : b ≠ 0) : gMod (.int a) (.int b) = some (.int (a.fmod b)) := if_pos h
@[simp] theorem gNeg_i : gNeg (.int a) = some (.int (-a)) := id rfl
@[simp] theorem gLt_ii : gLt (.int a) (.int b) = some (decide (a < b)) := id rfl
@[simp] theorem gLe_ii : gLe (.int a) (.int b) = some (decide (a ≤ b)) := id rfl
@[simp] theorem gGt_ii : gGt (.int a) (.int b) = some (decide (b < a)) := id rfl
@[simp] theorem gGe_ii : gGe (.int a) (.int b) = some (decide (b ≤ a)) := id rfl
end
end DL
namespace K79
open PySem PySem.Spec PyProof.Rows L2 DL
def wd__law_heard : Str → Option Str := fun n => if n = "BadBits" then some "bits" else if n = "BadNumber" then some "number" else if n = "BadShare" then some "share" else if n = "BadWeights" then some "weights" else none
theorem wd_ok__law_heard : ∀ n w, wd__law_heard n = some w → strOkL w = true := fun n w h => by
  unfold wd__law_heard at h
  split at h
  · cases h; decide +kernel
  split at h
  · cases h; decide +kernel
  split at h
  · cases h; decide +kernel
  split at h
  · cases h; decide +kernel
  cases h
noncomputable def s_is_integer : SF := sRet (dAndV (dIsi "int" (dVar 0)) (toB (dNot (dTru (dIsi "bool" (dVar 0))))))
noncomputable def d_is_integer : List PyData → Res0 := den0 1 s_is_integer
noncomputable def s_is_within : SF := sRet (dAndV (dCall0 d_is_integer [dVar 0]) (toB (dChain gLe gLe (dVar 1) (dVar 0) (dVar 2))))
noncomputable def d_is_within : List PyData → Res0 := den0 3 s_is_within
noncomputable def s_is_tuple_of : SF := sRet (dAndV (dIsi "tuple" (dVar 0)) (toB (dCmp gEq (dBlt (g1 gLen) [dVar 0]) (dVar 1))))
noncomputable def d_is_tuple_of : List PyData → Res0 := den0 2 s_is_tuple_of
noncomputable def s_are_integers : SF := sRet (dAndV (dIsi "tuple" (dVar 0)) (dBlt (g1 gAll) [dLc [1] (tgN 1) (dIt (dVar 0)) (dYes) (dCall0 d_is_integer [dVar 1])]))
noncomputable def d_are_integers : List PyData → Res0 := den0 2 s_are_integers
noncomputable def s_are_counts : SF := sRet (dAndV (dCall0 d_are_integers [dVar 0]) (dBlt (g1 gAll) [dLc [1] (tgN 1) (dIt (dVar 0)) (dYes) (toB (dCmp gGe (dVar 1) (dC (.int 0))))]))
noncomputable def d_are_counts : List PyData → Res0 := den0 2 s_are_counts
noncomputable def s_common : SF := sSeq (sMul [0, 1] [(false, dBlt (g1 gAbs) [dVar 0]), (false, dBlt (g1 gAbs) [dVar 1])]) (sSeq (sWhile (dCmp gGt (dVar 1) (dC (.int 0))) (sMul [0, 1] [(false, dVar 1), (false, dBin gMod (dVar 0) (dVar 1))])) (sRet (dVar 0)))
noncomputable def d_common : List PyData → Res0 := den0 2 s_common
noncomputable def s_frac : SF := sSeq (sSet 2 (dCall0 d_common [dVar 0, dVar 1])) (sSeq (sIf (dCmp gLt (dVar 1) (dC (.int 0))) (sSet 2 (dUn gNeg (dVar 2))) (sNext)) (sRet (dTup [dBin gFdiv (dVar 0) (dVar 2), dBin gFdiv (dVar 1) (dVar 2)])))
noncomputable def d_frac : List PyData → Res0 := den0 3 s_frac
noncomputable def s_is_fraction : SF := sSeq (sIf (dOr (dNot (dTru (dCall0 d_is_tuple_of [dVar 0, dC (.int 2)]))) (dOr (dNot (dTru (dCall0 d_is_integer [dBin gIx (dVar 0) (dC (.int 0))]))) (dNot (dTru (dCall0 d_is_integer [dBin gIx (dVar 0) (dC (.int 1))]))))) (sRet (dC (.bool false))) (sNext)) (sRet (dAndV (toB (dCmp gGe (dBin gIx (dVar 0) (dC (.int 1))) (dC (.int 1)))) (toB (dCmp gEq (dCall0 d_common [dBin gIx (dVar 0) (dC (.int 0)), dBin gIx (dVar 0) (dC (.int 1))]) (dC (.int 1))))))
noncomputable def d_is_fraction : List PyData → Res0 := den0 1 s_is_fraction
noncomputable def s_plus : SF := sRet (dCall0 d_frac [dBin gAdd (dBin gMul (dBin gIx (dVar 0) (dC (.int 0))) (dBin gIx (dVar 1) (dC (.int 1)))) (dBin gMul (dBin gIx (dVar 1) (dC (.int 0))) (dBin gIx (dVar 0) (dC (.int 1)))), dBin gMul (dBin gIx (dVar 0) (dC (.int 1))) (dBin gIx (dVar 1) (dC (.int 1)))])
noncomputable def d_plus : List PyData → Res0 := den0 2 s_plus
noncomputable def s_less : SF := sRet (toB (dCmp gLt (dBin gMul (dBin gIx (dVar 0) (dC (.int 0))) (dBin gIx (dVar 1) (dC (.int 1)))) (dBin gMul (dBin gIx (dVar 1) (dC (.int 0))) (dBin gIx (dVar 0) (dC (.int 1))))))
noncomputable def d_less : List PyData → Res0 := den0 2 s_less
noncomputable def s_bits_of : SF := sSeq (sSetO 1 (dLst [])) (sSeq (sWhile (dCmp gGt (dVar 0) (dC (.int 0))) (sSeq (sDropM (mMeth1 1 gApp (mOf (dIf (dCmp gEq (dBin gMod (dVar 0) (dC (.int 2))) (dC (.int 1))) (dC (.str "1")) (dC (.str "0")))))) (sSet 0 (dBin gFdiv (dVar 0) (dC (.int 2)))))) (sRet (dBinP isStrD gJoinRev (dC (.str "")) (dOwn 1))))
noncomputable def d_bits_of : List PyData → Res0 := den0 2 s_bits_of
noncomputable def s_wide_bits : SF := sSeq (sSet 2 (dCall0 d_bits_of [dVar 0])) (sRet (dBin gAdd (dBin gMul (dC (.str "0")) (dBin gSub (dVar 1) (dBlt (g1 gLen) [dVar 2]))) (dVar 2)))
noncomputable def d_wide_bits : List PyData → Res0 := den0 3 s_wide_bits
noncomputable def s_check_weights : SF := sSeq (sIf (dOr (dNot (dTru (dCall0 d_are_counts [dVar 0]))) (dNot (dChain gLe gLe (dC (.int 1)) (dBlt (g1 gLen) [dVar 0]) (dC (.int 200))))) (sRaise0 "BadWeights") (sNext)) (sIf (dNot (dTru (dBlt (g1 gAll) [dLc [1] (tgN 1) (dIt (dVar 0)) (dYes) (toB (dChain gLe gLe (dC (.int 1)) (dVar 1) (dBin gPow (dC (.int 10)) (dC (.int 12)))))]))) (sRaise0 "BadWeights") (sNext))
noncomputable def d_check_weights : List PyData → Res0 := den0 2 s_check_weights
noncomputable def s_middles : SF := sSeq (sDrop (dCall0 d_check_weights [dVar 0])) (sSeq (sMul [1, 2, 3] [(false, dBin gMul (dC (.int 2)) (dBlt (g1 gSum) [dVar 0])), (false, dC (.int 0)), (true, dLst [])]) (sSeq (sFor (tgN 4) (dIt (dVar 0)) (sSeq (sDropM (mMeth1 3 gApp (mOf (dCall0 d_frac [dBin gAdd (dBin gMul (dC (.int 2)) (dVar 2)) (dVar 4), dVar 1])))) (sSet 2 (dBin gAdd (dVar 2) (dVar 4))))) (sRet (dBlt (g1 gTuple) [dOwn 3]))))
noncomputable def d_middles : List PyData → Res0 := den0 5 s_middles
noncomputable def s_first_bits : SF := sRet (dIf (dCmp gGt (dVar 1) (dC (.int 0))) (dCall0 d_wide_bits [dBin gFdiv (dBin gShl (dBin gIx (dVar 0) (dC (.int 0))) (dVar 1)) (dBin gIx (dVar 0) (dC (.int 1))), dVar 1]) (dC (.str "")))
noncomputable def d_first_bits : List PyData → Res0 := den0 2 s_first_bits
noncomputable def s_point_bits : SF := sSeq (sIf (dOr (dNot (dTru (dCall0 d_is_fraction [dVar 0]))) (dNot (dChain gLe gLt (dC (.int 0)) (dBin gIx (dVar 0) (dC (.int 0))) (dBin gIx (dVar 0) (dC (.int 1)))))) (sRaise0 "BadShare") (sNext)) (sSeq (sIf (dNot (dTru (dCall0 d_is_within [dVar 1, dC (.int 0), dC (.int 400)]))) (sRaise0 "BadNumber") (sNext)) (sRet (dCall0 d_first_bits [dVar 0, dVar 1])))
noncomputable def d_point_bits : List PyData → Res0 := den0 2 s_point_bits
noncomputable def s_middle_words : SF := sSeq (sDrop (dCall0 d_check_weights [dVar 0])) (sSeq (sMul [1, 2] [(false, dBlt (g1 gSum) [dVar 0]), (true, dLst [])]) (sSeq (sFor (tgTup 2 (tgCons (tgN 3) (tgCons (tgN 4) (tgNil)))) (dZipG [dVar 0, dCall0 d_middles [dVar 0]]) (sSeq (sSet 5 (dC (.int 1))) (sSeq (sWhile (dCmp gLt (dBin gShl (dVar 3) (dBin gSub (dVar 5) (dC (.int 1)))) (dVar 1)) (sSet 5 (dBin gAdd (dVar 5) (dC (.int 1))))) (sDropM (mMeth1 2 gApp (mOf (dCall0 d_first_bits [dVar 4, dVar 5]))))))) (sRet (dBlt (g1 gTuple) [dOwn 2]))))
noncomputable def d_middle_words : List PyData → Res0 := den0 6 s_middle_words
noncomputable def s_check_bits : SF := sIf (dOr (dNot (dTru (dIsi "str" (dVar 0)))) (dOr (dCmp gGt (dBlt (g1 gLen) [dVar 0]) (dC (.int 400))) (dNot (dTru (dBlt (g1 gAll) [dLc [1] (tgN 1) (dIt (dVar 0)) (dYes) (toB (dCmp gIn (dVar 1) (dC (.str "01"))))]))))) (sRaise0 "BadBits") (sNext)
noncomputable def d_check_bits : List PyData → Res0 := den0 2 s_check_bits
noncomputable def s_point_of : SF := sSeq (sDrop (dCall0 d_check_bits [dVar 0])) (sSeq (sSet 1 (dC (.int 0))) (sSeq (sFor (tgN 2) (dIt (dVar 0)) (sSet 1 (dBin gAdd (dBin gMul (dC (.int 2)) (dVar 1)) (dIf (dCmp gEq (dVar 2) (dC (.str "1"))) (dC (.int 1)) (dC (.int 0)))))) (sRet (dCall0 d_frac [dVar 1, dBin gShl (dC (.int 1)) (dBlt (g1 gLen) [dVar 0])]))))
noncomputable def d_point_of : List PyData → Res0 := den0 3 s_point_of
noncomputable def s_span_of : SF := sSeq (sSet 1 (dCall0 d_point_of [dVar 0])) (sRet (dTup [dVar 1, dCall0 d_plus [dVar 1, dCall0 d_frac [dC (.int 1), dBin gShl (dC (.int 1)) (dBlt (g1 gLen) [dVar 0])]]]))
noncomputable def d_span_of : List PyData → Res0 := den0 2 s_span_of
noncomputable def s_least_words : SF := sSeq (sDrop (dCall0 d_check_weights [dVar 0])) (sSeq (sMul [1, 2, 3] [(false, dBlt (g1 gSum) [dVar 0]), (false, dC (.int 0)), (true, dLst [])]) (sSeq (sFor (tgN 4) (dIt (dVar 0)) (sSeq (sSet 5 (dC (.int 0))) (sSeq (sWhile (dCmp gGt (dBin gMul (dBin gAdd (dUn gNeg (dBin gFdiv (dUn gNeg (dBin gShl (dVar 2) (dVar 5))) (dVar 1))) (dC (.int 1))) (dVar 1)) (dBin gShl (dBin gAdd (dVar 2) (dVar 4)) (dVar 5))) (sSet 5 (dBin gAdd (dVar 5) (dC (.int 1))))) (sSeq (sDropM (mMeth1 3 gApp (mOf (dIf (dCmp gGt (dVar 5) (dC (.int 0))) (dCall0 d_wide_bits [dUn gNeg (dBin gFdiv (dUn gNeg (dBin gShl (dVar 2) (dVar 5))) (dVar 1)), dVar 5]) (dC (.str "")))))) (sSet 2 (dBin gAdd (dVar 2) (dVar 4))))))) (sRet (dBlt (g1 gTuple) [dOwn 3]))))
noncomputable def d_least_words : List PyData → Res0 := den0 6 s_least_words
noncomputable def s_are_in_order : SF := sSeq (sIf (dOr (dNot (dTru (dIsi "tuple" (dVar 0)))) (dCmp gGt (dBlt (g1 gLen) [dVar 0]) (dC (.int 200)))) (sRet (dC (.bool false))) (sNext)) (sSeq (sIf (dNot (dTru (dBlt (g1 gAll) [dLc [3] (tgN 3) (dIt (dVar 0)) (dYes) (dAndV (dIsi "str" (dVar 3)) (dAndV (toB (dCmp gLe (dBlt (g1 gLen) [dVar 3]) (dC (.int 400)))) (dBlt (g1 gAll) [dLc [4] (tgN 4) (dIt (dVar 3)) (dYes) (toB (dCmp gIn (dVar 4) (dC (.str "01"))))])))]))) (sRet (dC (.bool false))) (sNext)) (sSeq (sFor (tgTup 2 (tgCons (tgN 1) (tgCons (tgN 2) (tgNil)))) (dZipG [dVar 0, dSl (dVar 0) (some (dC (.int 1))) none]) (sIf (dOr (dCmp gGe (dVar 1) (dVar 2)) (dCmp gEq (dSl (dVar 2) none (some (dBlt (g1 gLen) [dVar 1]))) (dVar 1))) (sRet (dC (.bool false))) (sNext))) (sRet (dC (.bool true)))))
noncomputable def d_are_in_order : List PyData → Res0 := den0 5 s_are_in_order
noncomputable def s_place_in : SF := sSeq (sDrop (dCall0 d_check_weights [dVar 0])) (sSeq (sIf (dOr (dNot (dTru (dCall0 d_is_fraction [dVar 1]))) (dNot (dChain gLe gLt (dC (.int 0)) (dBin gIx (dVar 1) (dC (.int 0))) (dBin gIx (dVar 1) (dC (.int 1)))))) (sRaise0 "BadShare") (sNext)) (sSeq (sMul [2, 3] [(false, dBlt (g1 gSum) [dVar 0]), (false, dC (.int 0))]) (sSeq (sFor (tgTup 2 (tgCons (tgN 4) (tgCons (tgN 5) (tgNil)))) (dEnumG [dVar 0]) (sSeq (sSet 3 (dBin gAdd (dVar 3) (dVar 5))) (sIf (dTru (dCall0 d_less [dVar 1, dCall0 d_frac [dVar 3, dVar 2]])) (sRet (dVar 4)) (sNext)))) (sRet (dBin gSub (dBlt (g1 gLen) [dVar 0]) (dC (.int 1)))))))
noncomputable def d_place_in : List PyData → Res0 := den0 6 s_place_in
noncomputable def s__law_draw : SF := sSeq (sIf (dAnd (dCmp gEq (dHix 0 (dC (.int 2))) (dC (.int 0))) (dCmp gLt (dHix 0 (dC (.int 1))) (dBlt (g1 gLen) [dHix 0 (dC (.int 0))]))) (sSeq (sSet 2 (dBin gIx (dHix 0 (dC (.int 0))) (dHix 0 (dC (.int 1))))) (sSeq (sStore 0 (dC (.int 1)) (dBin gAdd (dHix 0 (dC (.int 1))) (dC (.int 1)))) (sSeq (sStore 0 (dC (.int 3)) (dBin gMod (dBlt (g1 gInt) [dBin gAdd (dBin gAdd (dBin gMul (dHix 0 (dC (.int 3))) (dC (.int 69621))) (dBin gMul (dVar 2) (dC (.int 40692)))) (dC (.int 23))]) (dC (.int 2147483629)))) (sIf (dCmp gGe (dVar 2) (dBin gPow (dC (.int 10)) (dC (.int 18)))) (sStore 0 (dC (.int 2)) (dVar 2)) (sNext))))) (sNext)) (sSeq (sIf (dCmp gGt (dHix 0 (dC (.int 2))) (dC (.int 0))) (sSeq (sSet 3 (dBin gMod (dBlt (g1 gInt) [dHix 0 (dC (.int 2))]) (dVar 1))) (sSeq (sStore 0 (dC (.int 2)) (dBin gFdiv (dHix 0 (dC (.int 2))) (dVar 1))) (sRet (dVar 3)))) (sNext)) (sSeq (sStore 0 (dC (.int 4)) (dBin gAdd (dHix 0 (dC (.int 4))) (dC (.int 1)))) (sSeq (sSet 4 (dBin gMod (dBlt (g1 gInt) [dBin gMul (dBlt (g1 gInt) [dBin gAdd (dHix 0 (dC (.int 3))) (dBin gMul (dC (.int 7919)) (dHix 0 (dC (.int 4))))]) (dC (.int 48271))]) (dC (.int 2147483647)))) (sSeq (sSet 4 (dBin gMod (dBlt (g1 gInt) [dBin gMul (dVar 4) (dBin gAdd (dBin gFdiv (dVar 4) (dC (.int 1009))) (dC (.int 69621)))]) (dC (.int 2147483647)))) (sSeq (sSet 4 (dBin gMod (dBlt (g1 gInt) [dBin gMul (dVar 4) (dBin gAdd (dBin gFdiv (dVar 4) (dC (.int 2003))) (dC (.int 40014)))]) (dC (.int 2147483563)))) (sRet (dBin gMod (dBlt (g1 gInt) [dBin gFdiv (dVar 4) (dC (.int 16))]) (dVar 1))))))))
noncomputable def d__law_draw : List PyData → HS → Res PyData := den1 5 s__law_draw
noncomputable def s__law_any : SF := sRet (dBin gIx (dVar 1) (dCall1 0 d__law_draw [dBlt (g1 gLen) [dVar 1]]))
noncomputable def d__law_any : List PyData → HS → Res PyData := den1 2 s__law_any
def s__law_is (rec : List PyData → Res0) : SF := sSeq (sIf (dTru (dIsi2 "tuple" "list" (dVar 1))) (sSeq (sIf (dOr (dCmp gNe (dIsi "tuple" (dVar 0)) (dIsi "tuple" (dVar 1))) (dCmp gNe (dIsi "list" (dVar 0)) (dIsi "list" (dVar 1)))) (sRet (dC (.bool false))) (sNext)) (sSeq (sIf (dCmp gNe (dBlt (g1 gLen) [dVar 0]) (dBlt (g1 gLen) [dVar 1])) (sRet (dC (.bool false))) (sNext)) (sRet (dBlt (g1 gAll) [dLc [2, 3] (tgTup 2 (tgCons (tgN 2) (tgCons (tgN 3) (tgNil)))) (dZipG [dVar 0, dVar 1]) (dYes) (dCall0 rec [dVar 2, dVar 3])])))) (sNext)) (sSeq (sIf (dOr (dCmp gIs (dVar 1) (dC .none)) (dCmp gIs (dVar 0) (dC .none))) (sRet (dAndV (toB (dCmp gIs (dVar 1) (dC .none))) (toB (dCmp gIs (dVar 0) (dC .none))))) (sNext)) (sSeq (sIf (dOr (dCmp gNe (dIsi "bool" (dVar 0)) (dIsi "bool" (dVar 1))) (dCmp gNe (dIsi "int" (dVar 0)) (dIsi "int" (dVar 1)))) (sRet (dC (.bool false))) (sNext)) (sRet (dAndV (toB (dCmp gEq (dIsi "str" (dVar 0)) (dIsi "str" (dVar 1)))) (toB (dCmp gEq (dVar 0) (dVar 1)))))))
def d__law_is : List PyData → Res0 := recD 4 s__law_is 8
noncomputable def s__law_deep : SF := sSeq (sSet 1 (dC (.str "?"))) (sSeq (sFor (tgN 2) (dRng [dBin gAdd (dC (.int 1)) (dCall1 0 d__law_draw [dC (.int 29)])]) (sSet 1 (dBin gIx (dLst [dTup [dVar 1], dLst [dVar 1], dDict1 (.int 0) (dVar 1)]) (dCall1 0 d__law_draw [dC (.int 3)])))) (sRet (dVar 1)))
noncomputable def d__law_deep : List PyData → HS → Res PyData := den1 3 s__law_deep
noncomputable def s__law_frac : SF := sSeq (sMul [2, 3] [(false, dBlt (g1 gAbs) [dVar 0]), (false, dVar 1)]) (sSeq (sWhile (dCmp gGt (dVar 2) (dC (.int 0))) (sMul [2, 3] [(false, dBin gMod (dBlt (g1 gInt) [dVar 3]) (dVar 2)), (false, dVar 2)])) (sRet (dTup [dBin gFdiv (dVar 0) (dVar 3), dBin gFdiv (dVar 1) (dVar 3)])))
noncomputable def d__law_frac : List PyData → Res0 := den0 4 s__law_frac
noncomputable def s__law_add : SF := sRet (dCall0 d__law_frac [dBin gAdd (dBin gMul (dBin gIx (dVar 0) (dC (.int 0))) (dBin gIx (dVar 1) (dC (.int 1)))) (dBin gMul (dBin gIx (dVar 1) (dC (.int 0))) (dBin gIx (dVar 0) (dC (.int 1)))), dBin gMul (dBin gIx (dVar 0) (dC (.int 1))) (dBin gIx (dVar 1) (dC (.int 1)))])
noncomputable def d__law_add : List PyData → Res0 := den0 2 s__law_add
noncomputable def s__law_mul : SF := sRet (dCall0 d__law_frac [dBin gMul (dBin gIx (dVar 0) (dC (.int 0))) (dBin gIx (dVar 1) (dC (.int 0))), dBin gMul (dBin gIx (dVar 0) (dC (.int 1))) (dBin gIx (dVar 1) (dC (.int 1)))])
noncomputable def d__law_mul : List PyData → Res0 := den0 2 s__law_mul
noncomputable def s__law_less : SF := sRet (toB (dCmp gLt (dBin gMul (dBin gIx (dVar 0) (dC (.int 0))) (dBin gIx (dVar 1) (dC (.int 1)))) (dBin gMul (dBin gIx (dVar 1) (dC (.int 0))) (dBin gIx (dVar 0) (dC (.int 1))))))
noncomputable def d__law_less : List PyData → Res0 := den0 2 s__law_less
noncomputable def s__law_weights : SF := sSeq (sSet 3 (dCall1 0 d__law_any [dLst [dC (.int 1), dC (.int 3), dC (.int 20), dBin gSub (dBin gPow (dC (.int 10)) (dC (.int 12))) (dC (.int 1))]])) (sRet (dBlt (g1 gTuple) [dLc [4] (tgN 4) (dRng [dBin gAdd (dC (.int 1)) (dCall1 0 d__law_draw [dVar 1])]) (dYes) (dBin gAdd (dVar 2) (dCall1 0 d__law_draw [dVar 3]))]))
noncomputable def d__law_weights : List PyData → HS → Res PyData := den1 5 s__law_weights
noncomputable def s__law_shares : SF := sSeq (sMul [1, 2, 3] [(true, dLst []), (false, dC (.int 0)), (false, dBlt (g1 gSum) [dVar 0])]) (sSeq (sFor (tgN 4) (dIt (dVar 0)) (sSeq (sDropM (mMeth1 1 gApp (mOf (dTup [dCall0 d__law_frac [dVar 2, dVar 3], dCall0 d__law_frac [dBin gAdd (dVar 2) (dVar 4), dVar 3]])))) (sSet 2 (dBin gAdd (dVar 2) (dVar 4))))) (sRet (dVar 1)))
noncomputable def d__law_shares : List PyData → Res0 := den0 5 s__law_shares
noncomputable def s__law_first_bits : SF := sSeq (sAsg (tgTup 2 (tgCons (tgN 2) (tgCons (tgTup 2 (tgCons (tgN 3) (tgCons (tgN 4) (tgNil)))) (tgNil)))) (dTup [dC (.str ""), dVar 0])) (sSeq (sFor (tgN 5) (dRng [dVar 1]) (sSeq (sSet 3 (dBin gMul (dC (.int 2)) (dVar 3))) (sSeq (sSet 2 (dBin gAdd (dVar 2) (dBlt (g1 gStr) [dBin gFdiv (dVar 3) (dVar 4)]))) (sSet 3 (dBin gMod (dBlt (g1 gInt) [dVar 3]) (dVar 4)))))) (sRet (dVar 2)))
noncomputable def d__law_first_bits : List PyData → Res0 := den0 6 s__law_first_bits
noncomputable def s__law_value : SF := sSeq (sSet 1 (dC (.int 0))) (sSeq (sFor (tgN 2) (dIt (dVar 0)) (sSet 1 (dBin gAdd (dBin gMul (dC (.int 2)) (dVar 1)) (dBlt (g1 gInt) [dVar 2])))) (sRet (dVar 1)))
noncomputable def d__law_value : List PyData → Res0 := den0 3 s__law_value
noncomputable def s__law_span : SF := sSeq (sSet 1 (dC (.int 1))) (sSeq (sFor (tgN 2) (dIt (dVar 0)) (sSet 1 (dBin gMul (dC (.int 2)) (dVar 1)))) (sRet (dTup [dCall0 d__law_frac [dCall0 d__law_value [dVar 0], dVar 1], dCall0 d__law_frac [dBin gAdd (dCall0 d__law_value [dVar 0]) (dC (.int 1)), dVar 1]])))
noncomputable def d__law_span : List PyData → Res0 := den0 3 s__law_span
noncomputable def s__law_least_word : SF := sSeq (sAsg (tgTup 2 (tgCons (tgN 1) (tgCons (tgN 2) (tgNil)))) (dVar 0)) (sSeq (sFor (tgN 3) (dRng [dC (.int 60)]) (sSeq (sSet 4 (dC (.int 1))) (sSeq (sFor (tgN 5) (dRng [dVar 3]) (sSet 4 (dBin gMul (dC (.int 2)) (dVar 4)))) (sSeq (sSet 6 (dBin gFdiv (dBin gSub (dBin gAdd (dBin gMul (dBin gIx (dVar 1) (dC (.int 0))) (dVar 4)) (dBin gIx (dVar 1) (dC (.int 1)))) (dC (.int 1))) (dBin gIx (dVar 1) (dC (.int 1))))) (sIf (dCmp gLe (dBin gMul (dBin gAdd (dVar 6) (dC (.int 1))) (dBin gIx (dVar 2) (dC (.int 1)))) (dBin gMul (dBin gIx (dVar 2) (dC (.int 0))) (dVar 4))) (sSeq (sSet 7 (dC (.str ""))) (sSeq (sFor (tgN 5) (dRng [dVar 3]) (sMul [7, 6] [(false, dBin gAdd (dBlt (g1 gStr) [dBin gMod (dBlt (g1 gInt) [dVar 6]) (dC (.int 2))]) (dVar 7)), (false, dBin gFdiv (dVar 6) (dC (.int 2)))])) (sRet (dVar 7)))) (sNext)))))) (sRet (dC .none)))
noncomputable def d__law_least_word : List PyData → Res0 := den0 8 s__law_least_word
noncomputable def s__law_are_weights_right : SF := sSeq (sMul [2, 3] [(false, dCall0 d__law_shares [dVar 1]), (false, dBlt (g1 gSum) [dVar 1])]) (sSeq (sSet 4 (dBlt (g1 gTuple) [dLc [12, 13] (tgTup 2 (tgCons (tgN 12) (tgCons (tgN 13) (tgNil)))) (dIt (dVar 2)) (dYes) (dCall0 d__law_mul [dTup [dC (.int 1), dC (.int 2)], dCall0 d__law_add [dVar 12, dVar 13]])])) (sSeq (sSetO 5 (dLst [])) (sSeq (sFor (tgTup 2 (tgCons (tgN 6) (tgCons (tgN 7) (tgNil)))) (dZipG [dVar 1, dVar 4]) (sSeq (sMul [8, 9] [(false, dC (.int 1)), (false, dC (.int 1))]) (sSeq (sWhile (dCmp gLt (dBin gMul (dVar 9) (dVar 6)) (dVar 3)) (sMul [8, 9] [(false, dBin gAdd (dVar 8) (dC (.int 1))), (false, dBin gMul (dC (.int 2)) (dVar 9))])) (sDropM (mMeth1 5 gApp (mOf (dCall0 d__law_first_bits [dVar 7, dVar 8]))))))) (sSeq (sSet 10 (dBlt (g1 gTuple) [dLc [17] (tgN 17) (dIt (dVar 2)) (dYes) (dCall0 d__law_least_word [dVar 17])])) (sSeq (sIf (dNot (dTru (dCall0 d__law_is [dLst [dCall0 d_middles [dVar 1], dCall0 d_middle_words [dVar 1], dCall0 d_least_words [dVar 1]], dLst [dVar 4, dBlt (g1 gTuple) [dOwn 5], dVar 10]]))) (sRet (dC (.bool false))) (sNext)) (sSeq (sIf (dOr (dCmp gIsNot (dCall0 d_are_in_order [dBlt (g1 gTuple) [dOwn 5]]) (dC (.bool true))) (dCmp gIsNot (dCall0 d_are_in_order [dVar 10]) (dC (.bool true)))) (sRet (dC (.bool false))) (sNext)) (sSeq (sIf (dTru (dThaw (dBlt (g1 gAny) [dLc [18, 19] (tgTup 2 (tgCons (tgN 18) (tgCons (tgN 19) (tgNil)))) (dZipG [dVar 10, dVar 5]) (dYes) (toB (dCmp gGt (dBlt (g1 gLen) [dVar 18]) (dBlt (g1 gLen) [dVar 19])))]))) (sRet (dC (.bool false))) (sNext)) (sSeq (sFor (tgTup 2 (tgCons (tgN 11) (tgCons (tgTup 2 (tgCons (tgN 12) (tgCons (tgN 13) (tgNil)))) (tgNil)))) (dEnumG [dVar 2]) (sSeq (sIf (dNot (dTru (dCall0 d__law_is [dLst [dCall0 d_place_in [dVar 1, dBin gIx (dVar 4) (dVar 11)], dCall0 d_place_in [dVar 1, dVar 12]], dLst [dVar 11, dVar 11]]))) (sRet (dC (.bool false))) (sNext)) (sSeq (sSet 14 (dCall0 d_span_of [dBin gIx (dOwn 5) (dVar 11)])) (sIf (dOr (dTru (dCall0 d__law_less [dBin gIx (dVar 14) (dC (.int 0)), dVar 12])) (dTru (dCall0 d__law_less [dVar 13, dBin gIx (dVar 14) (dC (.int 1))]))) (sRet (dC (.bool false))) (sNext))))) (sSeq (sSet 15 (dCall0 d__law_frac [dCall1 0 d__law_draw [dC (.int 1000)], dC (.int 1000)])) (sSeq (sSet 16 (dLc [11, 12, 13] (tgTup 2 (tgCons (tgN 11) (tgCons (tgTup 2 (tgCons (tgN 12) (tgCons (tgN 13) (tgNil)))) (tgNil)))) (dEnumG [dVar 2]) (dTru (dCall0 d__law_less [dVar 15, dVar 13])) (dVar 11))) (sRet (dCall0 d__law_is [dCall0 d_place_in [dVar 1, dVar 15], dBin gIx (dVar 16) (dC (.int 0))]))))))))))))
noncomputable def d__law_are_weights_right : List PyData → HS → Res PyData := den1 20 s__law_are_weights_right
noncomputable def s__law_are_points_right : SF := sSeq (sSet 1 (dBin gAdd (dC (.int 1)) (dCall1 0 d__law_draw [dCall1 0 d__law_any [dLst [dC (.int 4), dC (.int 1000)]]]))) (sSeq (sMul [2, 3] [(false, dCall0 d__law_frac [dCall1 0 d__law_draw [dVar 1], dVar 1]), (false, dCall1 0 d__law_any [dLst [dC (.int 0), dC (.int 1), dCall1 0 d__law_draw [dC (.int 60)]]])]) (sSeq (sSet 4 (dCall0 d__law_first_bits [dVar 2, dVar 3])) (sSeq (sIf (dNot (dTru (dCall0 d__law_is [dCall0 d_point_bits [dVar 2, dVar 3], dVar 4]))) (sRet (dC (.bool false))) (sNext)) (sSeq (sSet 5 (dBinP isStrD gJoin (dC (.str "")) (dLc [10] (tgN 10) (dRng [dCall1 0 d__law_draw [dC (.int 20)]]) (dYes) (dCall1 0 d__law_any [dLst [dC (.str "0"), dC (.str "1")]])))) (sSeq (sFor (tgN 6) (dIt (dTup [dVar 4, dVar 5, dC (.str "")])) (sSeq (sSet 7 (dCall0 d__law_span [dVar 6])) (sIf (dNot (dTru (dCall0 d__law_is [dLst [dCall0 d_span_of [dVar 6], dCall0 d_point_of [dVar 6]], dLst [dVar 7, dBin gIx (dVar 7) (dC (.int 0))]]))) (sRet (dC (.bool false))) (sNext)))) (sSeq (sAsg (tgTup 2 (tgCons (tgN 8) (tgCons (tgN 9) (tgNil)))) (dCall0 d__law_span [dVar 4])) (sRet (dAndV (toB (dNot (dTru (dCall0 d__law_less [dVar 2, dVar 8])))) (dCall0 d__law_less [dVar 2, dVar 9])))))))))
noncomputable def d__law_are_points_right : List PyData → HS → Res PyData := den1 11 s__law_are_points_right
noncomputable def tab__law_are_refused_call (ad : Nat → Addr) : Nat → Option (Addr × Nat × (List PyData → Res0)) := fun k => if k = 13 then some (ad 13, 1, d_middles) else if k = 16 then some (ad 16, 1, d_middle_words) else if k = 20 then some (ad 20, 1, d_least_words) else none
noncomputable def s__law_are_refused (ad : Nat → Addr) : SF := sSeq (sSet 1 (dLst [dC .none, dC (.int 0), dTup [], dLst [dC (.int 1)], dTup [dC (.int 0)], dTup [dUn gNeg (dC (.int 1))], dTup [dBin gAdd (dBin gPow (dC (.int 10)) (dC (.int 12))) (dC (.int 1))], dTup [dC (.bool true)], dTup [dC .none], dTup [dC (.str "?")], dBin gMul (dTup [dC (.int 1)]) (dC (.int 201)), dDict0, dC (.str "?")])) (sSeq (sSet 2 (dCall1 0 d__law_any [dBin gAdd (dVar 1) (dLst [dCall1 0 d__law_deep []])])) (sSeq (sSet 3 (dCall1 0 d__law_any [dLst [dC .none, dC (.int 0), dTup [dC (.int 1), dC (.int 1)], dTup [dUn gNeg (dC (.int 1)), dC (.int 2)], dTup [dC (.int 2), dC (.int 4)], dTup [dC (.int 3), dC (.int 2)], dTup [dC (.int 1), dC (.int 0)], dLst [dC (.int 1), dC (.int 2)], dTup [dC (.bool true), dC (.int 2)], dTup [dC (.int 1)], dDict0, dC (.str "?")]])) (sSeq (sSet 4 (dCall1 0 d__law_any [dLst [dC .none, dC (.int 0), dC (.str "2"), dC (.str "0 1"), dC (.str "a"), dTup [dC (.str "0")], dLst [dC (.str "1")], dC (.bool true), dDict0, dBin gMul (dC (.str "0")) (dC (.int 401))]])) (sSeq (sSet 5 (dCall1 0 d__law_any [dLst [dUn gNeg (dC (.int 1)), dC (.int 401), dC .none, dC (.bool true), dC (.str "?"), dTup [dC (.int 1)]]])) (sSeq (sSetO 6 (dLst [])) (sSeq (sForR 7 [(13, ad 13), (16, ad 16), (20, ad 20)] (sDropM (mMeth1 6 gApp (mOf (dHeard 0 "let" wd__law_heard (dCallL 7 (tab__law_are_refused_call ad) [dVar 2])))))) (sSeq (sDropM (mMeth1 6 gApp (mOf (dHeard 0 "let" wd__law_heard (dCall0 d_place_in [dVar 2, dTup [dC (.int 0), dC (.int 1)]]))))) (sSeq (sDropM (mMeth1 6 gApp (mOf (dHeard 0 "let" wd__law_heard (dCall0 d_place_in [dTup [dC (.int 1), dC (.int 2)], dVar 3]))))) (sSeq (sDropM (mMeth1 6 gApp (mOf (dHeard 0 "let" wd__law_heard (dCall0 d_point_bits [dVar 3, dC (.int 5)]))))) (sSeq (sDropM (mMeth1 6 gApp (mOf (dHeard 0 "let" wd__law_heard (dCall0 d_point_bits [dTup [dC (.int 1), dC (.int 2)], dVar 5]))))) (sSeq (sDropM (mMeth1 6 gApp (mOf (dHeard 0 "let" wd__law_heard (dCall0 d_point_of [dVar 4]))))) (sSeq (sDropM (mMeth1 6 gApp (mOf (dHeard 0 "let" wd__law_heard (dCall0 d_span_of [dVar 4]))))) (sRet (toB (dCmp gEq (dOwn 6) (dBin gAdd (dBin gAdd (dBin gAdd (dBin gMul (dLst [dC (.str "weights")]) (dC (.int 4))) (dBin gMul (dLst [dC (.str "share")]) (dC (.int 2)))) (dLst [dC (.str "number")])) (dBin gMul (dLst [dC (.str "bits")]) (dC (.int 2)))))))))))))))))))
noncomputable def d__law_are_refused (ad : Nat → Addr) : List PyData → HS → Res PyData := den1 8 (s__law_are_refused ad)
noncomputable def s_law (ad : Nat → Addr) : SF := sSeq (sSet 2 (dLst [dCall0 d_middles [dTup [dC (.int 1), dC (.int 3)]], dCall0 d_middle_words [dTup [dC (.int 1), dC (.int 3)]], dCall0 d_least_words [dTup [dC (.int 1), dC (.int 3)]], dCall0 d_place_in [dTup [dC (.int 1), dC (.int 3)], dTup [dC (.int 1), dC (.int 4)]]])) (sSeq (sSet 2 (dBin gAdd (dVar 2) (dLst [dCall0 d_point_bits [dTup [dC (.int 1), dC (.int 3)], dC (.int 4)], dCall0 d_span_of [dC (.str "01")], dCall0 d_least_words [dTup [dC (.int 7)]], dCall0 d_middle_words [dTup [dC (.int 7)]]]))) (sSeq (sSet 3 (dLst [dTup [dTup [dC (.int 1), dC (.int 8)], dTup [dC (.int 5), dC (.int 8)]], dTup [dC (.str "001"), dC (.str "10")], dTup [dC (.str "00"), dC (.str "1")], dC (.int 1), dC (.str "0101"), dTup [dTup [dC (.int 1), dC (.int 4)], dTup [dC (.int 1), dC (.int 2)]], dTup [dC (.str "")], dTup [dC (.str "1")]])) (sSeq (sIf (dNot (dTru (dCall0 d__law_is [dVar 2, dVar 3]))) (sRet (dC (.bool false))) (sNext)) (sSeq (sFor (tgN 4) (dRng [dC (.int 3)]) (sSeq (sIf (dOr (dNot (dTru (dCall1 1 d__law_are_weights_right [dCall1 1 d__law_weights [dC (.int 12), dC (.int 1)]]))) (dNot (dTru (dCall1 1 d__law_are_points_right [])))) (sRet (dC (.bool false))) (sNext)) (sIf (dNot (dTru (dCall1 1 (d__law_are_refused ad) []))) (sRet (dC (.bool false))) (sNext)))) (sRet (dC (.bool true)))))))
noncomputable def fs__law_heard (ea : Addr) (n : Str) : SF := if n = "BadBits" then (sSeq (sSetO 2 (dLst [])) (sSeq (sDropM (mMeth1 2 gApp (mOf (dTup [dC (.str "weights"), dIsE 1 ea false])))) (sSeq (sDropM (mMeth1 2 gApp (mOf (dTup [dC (.str "share"), dIsE 1 ea false])))) (sSeq (sDropM (mMeth1 2 gApp (mOf (dTup [dC (.str "bits"), dIsE 1 ea true])))) (sSeq (sDropM (mMeth1 2 gApp (mOf (dTup [dC (.str "number"), dIsE 1 ea false])))) (sFrz1 2 (sSeq (sSet 3 (dLc [4, 5] (tgTup 2 (tgCons (tgN 4) (tgCons (tgN 5) (tgNil)))) (dItL (dVar 2)) (dAnd (dTru (dVar 5)) (dTru (dIsE 1 ea true))) (dVar 4))) (sSeq (sIf (dCmp gNe (dBlt (g1 gLen) [dVar 3]) (dC (.int 1))) (sRet (dC (.str "odd"))) (sNext)) (sRet (dBin gIx (dVar 3) (dC (.int 0)))))))))))) else if n = "BadNumber" then (sSeq (sSetO 2 (dLst [])) (sSeq (sDropM (mMeth1 2 gApp (mOf (dTup [dC (.str "weights"), dIsE 1 ea false])))) (sSeq (sDropM (mMeth1 2 gApp (mOf (dTup [dC (.str "share"), dIsE 1 ea false])))) (sSeq (sDropM (mMeth1 2 gApp (mOf (dTup [dC (.str "bits"), dIsE 1 ea false])))) (sSeq (sDropM (mMeth1 2 gApp (mOf (dTup [dC (.str "number"), dIsE 1 ea true])))) (sFrz1 2 (sSeq (sSet 3 (dLc [4, 5] (tgTup 2 (tgCons (tgN 4) (tgCons (tgN 5) (tgNil)))) (dItL (dVar 2)) (dAnd (dTru (dVar 5)) (dTru (dIsE 1 ea true))) (dVar 4))) (sSeq (sIf (dCmp gNe (dBlt (g1 gLen) [dVar 3]) (dC (.int 1))) (sRet (dC (.str "odd"))) (sNext)) (sRet (dBin gIx (dVar 3) (dC (.int 0)))))))))))) else if n = "BadShare" then (sSeq (sSetO 2 (dLst [])) (sSeq (sDropM (mMeth1 2 gApp (mOf (dTup [dC (.str "weights"), dIsE 1 ea false])))) (sSeq (sDropM (mMeth1 2 gApp (mOf (dTup [dC (.str "share"), dIsE 1 ea true])))) (sSeq (sDropM (mMeth1 2 gApp (mOf (dTup [dC (.str "bits"), dIsE 1 ea false])))) (sSeq (sDropM (mMeth1 2 gApp (mOf (dTup [dC (.str "number"), dIsE 1 ea false])))) (sFrz1 2 (sSeq (sSet 3 (dLc [4, 5] (tgTup 2 (tgCons (tgN 4) (tgCons (tgN 5) (tgNil)))) (dItL (dVar 2)) (dAnd (dTru (dVar 5)) (dTru (dIsE 1 ea true))) (dVar 4))) (sSeq (sIf (dCmp gNe (dBlt (g1 gLen) [dVar 3]) (dC (.int 1))) (sRet (dC (.str "odd"))) (sNext)) (sRet (dBin gIx (dVar 3) (dC (.int 0)))))))))))) else if n = "BadWeights" then (sSeq (sSetO 2 (dLst [])) (sSeq (sDropM (mMeth1 2 gApp (mOf (dTup [dC (.str "weights"), dIsE 1 ea true])))) (sSeq (sDropM (mMeth1 2 gApp (mOf (dTup [dC (.str "share"), dIsE 1 ea false])))) (sSeq (sDropM (mMeth1 2 gApp (mOf (dTup [dC (.str "bits"), dIsE 1 ea false])))) (sSeq (sDropM (mMeth1 2 gApp (mOf (dTup [dC (.str "number"), dIsE 1 ea false])))) (sFrz1 2 (sSeq (sSet 3 (dLc [4, 5] (tgTup 2 (tgCons (tgN 4) (tgCons (tgN 5) (tgNil)))) (dItL (dVar 2)) (dAnd (dTru (dVar 5)) (dTru (dIsE 1 ea true))) (dVar 4))) (sSeq (sIf (dCmp gNe (dBlt (g1 gLen) [dVar 3]) (dC (.int 1))) (sRet (dC (.str "odd"))) (sNext)) (sRet (dBin gIx (dVar 3) (dC (.int 0)))))))))))) else sNext
theorem fs_den__law_heard : ∀ ea n w, wd__law_heard n = some w → fs__law_heard ea n (envE 6 1 ea) [] = .rt (.str w) [] := fun ea n w h => by
  unfold wd__law_heard at h
  unfold fs__law_heard
  split at h
  · rename_i hn; cases h; subst hn
    simp [*, mOf, envE, ev_op_ok, sFrz1, mMeth1, ownL, gApp, sizeLine_eq, dLc, lcLoop, wipeD, isO, dItL, gItemsL, dAndV, gTru, gLen, gNe_ii, gIx, atI, ixN]
  split at h
  · rename_i hn; cases h; subst hn
    simp [*, mOf, envE, ev_op_ok, sFrz1, mMeth1, ownL, gApp, sizeLine_eq, dLc, lcLoop, wipeD, isO, dItL, gItemsL, dAndV, gTru, gLen, gNe_ii, gIx, atI, ixN]
  split at h
  · rename_i hn; cases h; subst hn
    simp [*, mOf, envE, ev_op_ok, sFrz1, mMeth1, ownL, gApp, sizeLine_eq, dLc, lcLoop, wipeD, isO, dItL, gItemsL, dAndV, gTru, gLen, gNe_ii, gIx, atI, ixN]
  split at h
  · rename_i hn; cases h; subst hn
    simp [*, mOf, envE, ev_op_ok, sFrz1, mMeth1, ownL, gApp, sizeLine_eq, dLc, lcLoop, wipeD, isO, dItL, gItemsL, dAndV, gTru, gLen, gNe_ii, gIx, atI, ixN]
  cases h
end K79
namespace K79
open PySem PySem.Spec PyProof.Rows L2 DL
def top (i : Nat) : Stmt := PySem.Challenge.pw_shorterhouse_k79_whole_middle_words.main.body.getD i (.Pass ⟨0, 0, 0, 0⟩)
abbrev t_is_integer : Stmt := top 1
abbrev t_is_within : Stmt := top 2
abbrev t_is_tuple_of : Stmt := top 3
abbrev t_are_integers : Stmt := top 4
abbrev t_are_counts : Stmt := top 5
abbrev t_common : Stmt := top 6
abbrev t_frac : Stmt := top 7
abbrev t_is_fraction : Stmt := top 8
abbrev t_plus : Stmt := top 9
abbrev t_less : Stmt := top 10
abbrev t_bits_of : Stmt := top 11
abbrev t_wide_bits : Stmt := top 12
abbrev t_check_weights : Stmt := top 21
abbrev t_middles : Stmt := top 22
abbrev t_point_bits : Stmt := top 23
abbrev t_first_bits : Stmt := top 24
abbrev t_middle_words : Stmt := top 25
abbrev t_point_of : Stmt := top 26
abbrev t_check_bits : Stmt := top 27
abbrev t_span_of : Stmt := top 28
abbrev t_least_words : Stmt := top 29
abbrev t_are_in_order : Stmt := top 30
abbrev t_place_in : Stmt := top 31
abbrev t__law_hand : Stmt := top 33
abbrev t__law_draw : Stmt := top 34
abbrev t__law_any : Stmt := top 35
abbrev t__law_is : Stmt := top 36
abbrev t__law_deep : Stmt := top 37
abbrev t__law_frac : Stmt := top 38
abbrev t__law_add : Stmt := top 39
abbrev t__law_mul : Stmt := top 40
abbrev t__law_less : Stmt := top 41
abbrev t__law_weights : Stmt := top 42
abbrev t__law_heard : Stmt := top 43
abbrev t__law_shares : Stmt := top 44
abbrev t__law_first_bits : Stmt := top 45
abbrev t__law_value : Stmt := top 46
abbrev t__law_span : Stmt := top 47
abbrev t__law_least_word : Stmt := top 48
abbrev t__law_are_weights_right : Stmt := top 49
abbrev t__law_are_points_right : Stmt := top 50
abbrev t__law_are_refused : Stmt := top 51
abbrev t_law : Stmt := top 52
/-- what the top has written: defs at ad, classes at ca -/
structure Txt (K : PySem.W.Frag) (mg : Str → Option Value) (base : Heap) (ad : Nat → Addr) (fd : Nat → FuncData) (ca cc tp : Nat → Addr) (CL : Str → Option Addr) : Prop where
  f_is_integer : Fun K "is_integer" "is_integer" t_is_integer (ad 0) (fd 0)
  g_is_integer : mg "is_integer" = some (.ref (ad 0))
  k_is_integer : PySem.W.keepIn K (.ref (ad 0)) = true
  b_is_integer : Binds K (fd 0) ["thing"] []
  f_is_within : Fun K "is_within" "is_within" t_is_within (ad 1) (fd 1)
  g_is_within : mg "is_within" = some (.ref (ad 1))
  k_is_within : PySem.W.keepIn K (.ref (ad 1)) = true
  b_is_within : Binds K (fd 1) ["thing", "low", "high"] []
  f_is_tuple_of : Fun K "is_tuple_of" "is_tuple_of" t_is_tuple_of (ad 2) (fd 2)
  g_is_tuple_of : mg "is_tuple_of" = some (.ref (ad 2))
  k_is_tuple_of : PySem.W.keepIn K (.ref (ad 2)) = true
  b_is_tuple_of : Binds K (fd 2) ["thing", "many"] []
  f_are_integers : Fun K "are_integers" "are_integers" t_are_integers (ad 3) (fd 3)
  g_are_integers : mg "are_integers" = some (.ref (ad 3))
  k_are_integers : PySem.W.keepIn K (.ref (ad 3)) = true
  b_are_integers : Binds K (fd 3) ["thing"] []
  f_are_counts : Fun K "are_counts" "are_counts" t_are_counts (ad 4) (fd 4)
  g_are_counts : mg "are_counts" = some (.ref (ad 4))
  k_are_counts : PySem.W.keepIn K (.ref (ad 4)) = true
  b_are_counts : Binds K (fd 4) ["thing"] []
  f_common : Fun K "common" "common" t_common (ad 5) (fd 5)
  g_common : mg "common" = some (.ref (ad 5))
  k_common : PySem.W.keepIn K (.ref (ad 5)) = true
  b_common : Binds K (fd 5) ["one", "other"] []
  f_frac : Fun K "frac" "frac" t_frac (ad 6) (fd 6)
  g_frac : mg "frac" = some (.ref (ad 6))
  k_frac : PySem.W.keepIn K (.ref (ad 6)) = true
  b_frac : Binds K (fd 6) ["top", "bottom"] []
  f_is_fraction : Fun K "is_fraction" "is_fraction" t_is_fraction (ad 7) (fd 7)
  g_is_fraction : mg "is_fraction" = some (.ref (ad 7))
  k_is_fraction : PySem.W.keepIn K (.ref (ad 7)) = true
  b_is_fraction : Binds K (fd 7) ["thing"] []
  f_plus : Fun K "plus" "plus" t_plus (ad 8) (fd 8)
  g_plus : mg "plus" = some (.ref (ad 8))
  k_plus : PySem.W.keepIn K (.ref (ad 8)) = true
  b_plus : Binds K (fd 8) ["one", "other"] []
  f_less : Fun K "less" "less" t_less (ad 9) (fd 9)
  g_less : mg "less" = some (.ref (ad 9))
  k_less : PySem.W.keepIn K (.ref (ad 9)) = true
  b_less : Binds K (fd 9) ["one", "other"] []
  f_bits_of : Fun K "bits_of" "bits_of" t_bits_of (ad 10) (fd 10)
  g_bits_of : mg "bits_of" = some (.ref (ad 10))
  k_bits_of : PySem.W.keepIn K (.ref (ad 10)) = true
  b_bits_of : Binds K (fd 10) ["number"] []
  f_wide_bits : Fun K "wide_bits" "wide_bits" t_wide_bits (ad 11) (fd 11)
  g_wide_bits : mg "wide_bits" = some (.ref (ad 11))
  k_wide_bits : PySem.W.keepIn K (.ref (ad 11)) = true
  b_wide_bits : Binds K (fd 11) ["number", "width"] []
  f_check_weights : Fun K "check_weights" "check_weights" t_check_weights (ad 12) (fd 12)
  g_check_weights : mg "check_weights" = some (.ref (ad 12))
  k_check_weights : PySem.W.keepIn K (.ref (ad 12)) = true
  b_check_weights : Binds K (fd 12) ["weights"] []
  f_middles : Fun K "middles" "middles" t_middles (ad 13) (fd 13)
  g_middles : mg "middles" = some (.ref (ad 13))
  k_middles : PySem.W.keepIn K (.ref (ad 13)) = true
  b_middles : Binds K (fd 13) ["weights"] []
  f_point_bits : Fun K "point_bits" "point_bits" t_point_bits (ad 14) (fd 14)
  g_point_bits : mg "point_bits" = some (.ref (ad 14))
  k_point_bits : PySem.W.keepIn K (.ref (ad 14)) = true
  b_point_bits : Binds K (fd 14) ["point", "size"] []
  f_first_bits : Fun K "first_bits" "first_bits" t_first_bits (ad 15) (fd 15)
  g_first_bits : mg "first_bits" = some (.ref (ad 15))
  k_first_bits : PySem.W.keepIn K (.ref (ad 15)) = true
  b_first_bits : Binds K (fd 15) ["point", "size"] []
  f_middle_words : Fun K "middle_words" "middle_words" t_middle_words (ad 16) (fd 16)
  g_middle_words : mg "middle_words" = some (.ref (ad 16))
  k_middle_words : PySem.W.keepIn K (.ref (ad 16)) = true
  b_middle_words : Binds K (fd 16) ["weights"] []
  f_point_of : Fun K "point_of" "point_of" t_point_of (ad 17) (fd 17)
  g_point_of : mg "point_of" = some (.ref (ad 17))
  k_point_of : PySem.W.keepIn K (.ref (ad 17)) = true
  b_point_of : Binds K (fd 17) ["bits"] []
  f_check_bits : Fun K "check_bits" "check_bits" t_check_bits (ad 18) (fd 18)
  g_check_bits : mg "check_bits" = some (.ref (ad 18))
  k_check_bits : PySem.W.keepIn K (.ref (ad 18)) = true
  b_check_bits : Binds K (fd 18) ["bits"] []
  f_span_of : Fun K "span_of" "span_of" t_span_of (ad 19) (fd 19)
  g_span_of : mg "span_of" = some (.ref (ad 19))
  k_span_of : PySem.W.keepIn K (.ref (ad 19)) = true
  b_span_of : Binds K (fd 19) ["bits"] []
  f_least_words : Fun K "least_words" "least_words" t_least_words (ad 20) (fd 20)
  g_least_words : mg "least_words" = some (.ref (ad 20))
  k_least_words : PySem.W.keepIn K (.ref (ad 20)) = true
  b_least_words : Binds K (fd 20) ["weights"] []
  f_are_in_order : Fun K "are_in_order" "are_in_order" t_are_in_order (ad 21) (fd 21)
  g_are_in_order : mg "are_in_order" = some (.ref (ad 21))
  k_are_in_order : PySem.W.keepIn K (.ref (ad 21)) = true
  b_are_in_order : Binds K (fd 21) ["thing"] []
  f_place_in : Fun K "place_in" "place_in" t_place_in (ad 22) (fd 22)
  g_place_in : mg "place_in" = some (.ref (ad 22))
  k_place_in : PySem.W.keepIn K (.ref (ad 22)) = true
  b_place_in : Binds K (fd 22) ["weights", "point"] []
  f__law_hand : Fun K "_law_hand" "_law_hand" t__law_hand (ad 23) (fd 23)
  g__law_hand : mg "_law_hand" = some (.ref (ad 23))
  k__law_hand : PySem.W.keepIn K (.ref (ad 23)) = true
  b__law_hand : Binds K (fd 23) ["script"] []
  f__law_draw : Fun K "_law_draw" "_law_draw" t__law_draw (ad 24) (fd 24)
  g__law_draw : mg "_law_draw" = some (.ref (ad 24))
  k__law_draw : PySem.W.keepIn K (.ref (ad 24)) = true
  b__law_draw : Binds K (fd 24) ["hand", "many"] []
  f__law_any : Fun K "_law_any" "_law_any" t__law_any (ad 25) (fd 25)
  g__law_any : mg "_law_any" = some (.ref (ad 25))
  k__law_any : PySem.W.keepIn K (.ref (ad 25)) = true
  b__law_any : Binds K (fd 25) ["hand", "some"] []
  f__law_is : Fun K "_law_is" "_law_is" t__law_is (ad 26) (fd 26)
  g__law_is : mg "_law_is" = some (.ref (ad 26))
  k__law_is : PySem.W.keepIn K (.ref (ad 26)) = true
  b__law_is : Binds K (fd 26) ["said", "due"] []
  f__law_deep : Fun K "_law_deep" "_law_deep" t__law_deep (ad 27) (fd 27)
  g__law_deep : mg "_law_deep" = some (.ref (ad 27))
  k__law_deep : PySem.W.keepIn K (.ref (ad 27)) = true
  b__law_deep : Binds K (fd 27) ["hand"] []
  f__law_frac : Fun K "_law_frac" "_law_frac" t__law_frac (ad 28) (fd 28)
  g__law_frac : mg "_law_frac" = some (.ref (ad 28))
  k__law_frac : PySem.W.keepIn K (.ref (ad 28)) = true
  b__law_frac : Binds K (fd 28) ["top", "bottom"] []
  f__law_add : Fun K "_law_add" "_law_add" t__law_add (ad 29) (fd 29)
  g__law_add : mg "_law_add" = some (.ref (ad 29))
  k__law_add : PySem.W.keepIn K (.ref (ad 29)) = true
  b__law_add : Binds K (fd 29) ["one", "other"] []
  f__law_mul : Fun K "_law_mul" "_law_mul" t__law_mul (ad 30) (fd 30)
  g__law_mul : mg "_law_mul" = some (.ref (ad 30))
  k__law_mul : PySem.W.keepIn K (.ref (ad 30)) = true
  b__law_mul : Binds K (fd 30) ["one", "other"] []
  f__law_less : Fun K "_law_less" "_law_less" t__law_less (ad 31) (fd 31)
  g__law_less : mg "_law_less" = some (.ref (ad 31))
  k__law_less : PySem.W.keepIn K (.ref (ad 31)) = true
  b__law_less : Binds K (fd 31) ["one", "other"] []
  f__law_weights : Fun K "_law_weights" "_law_weights" t__law_weights (ad 32) (fd 32)
  g__law_weights : mg "_law_weights" = some (.ref (ad 32))
  k__law_weights : PySem.W.keepIn K (.ref (ad 32)) = true
  b__law_weights : Binds K (fd 32) ["hand", "most", "low"] []
  f__law_heard : Fun K "_law_heard" "_law_heard" t__law_heard (ad 33) (fd 33)
  g__law_heard : mg "_law_heard" = some (.ref (ad 33))
  k__law_heard : PySem.W.keepIn K (.ref (ad 33)) = true
  b__law_heard : Binds K (fd 33) ["call"] []
  f__law_shares : Fun K "_law_shares" "_law_shares" t__law_shares (ad 34) (fd 34)
  g__law_shares : mg "_law_shares" = some (.ref (ad 34))
  k__law_shares : PySem.W.keepIn K (.ref (ad 34)) = true
  b__law_shares : Binds K (fd 34) ["weights"] []
  f__law_first_bits : Fun K "_law_first_bits" "_law_first_bits" t__law_first_bits (ad 35) (fd 35)
  g__law_first_bits : mg "_law_first_bits" = some (.ref (ad 35))
  k__law_first_bits : PySem.W.keepIn K (.ref (ad 35)) = true
  b__law_first_bits : Binds K (fd 35) ["point", "size"] []
  f__law_value : Fun K "_law_value" "_law_value" t__law_value (ad 36) (fd 36)
  g__law_value : mg "_law_value" = some (.ref (ad 36))
  k__law_value : PySem.W.keepIn K (.ref (ad 36)) = true
  b__law_value : Binds K (fd 36) ["bits"] []
  f__law_span : Fun K "_law_span" "_law_span" t__law_span (ad 37) (fd 37)
  g__law_span : mg "_law_span" = some (.ref (ad 37))
  k__law_span : PySem.W.keepIn K (.ref (ad 37)) = true
  b__law_span : Binds K (fd 37) ["bits"] []
  f__law_least_word : Fun K "_law_least_word" "_law_least_word" t__law_least_word (ad 38) (fd 38)
  g__law_least_word : mg "_law_least_word" = some (.ref (ad 38))
  k__law_least_word : PySem.W.keepIn K (.ref (ad 38)) = true
  b__law_least_word : Binds K (fd 38) ["share"] []
  f__law_are_weights_right : Fun K "_law_are_weights_right" "_law_are_weights_right" t__law_are_weights_right (ad 39) (fd 39)
  g__law_are_weights_right : mg "_law_are_weights_right" = some (.ref (ad 39))
  k__law_are_weights_right : PySem.W.keepIn K (.ref (ad 39)) = true
  b__law_are_weights_right : Binds K (fd 39) ["hand", "weights"] []
  f__law_are_points_right : Fun K "_law_are_points_right" "_law_are_points_right" t__law_are_points_right (ad 40) (fd 40)
  g__law_are_points_right : mg "_law_are_points_right" = some (.ref (ad 40))
  k__law_are_points_right : PySem.W.keepIn K (.ref (ad 40)) = true
  b__law_are_points_right : Binds K (fd 40) ["hand"] []
  f__law_are_refused : Fun K "_law_are_refused" "_law_are_refused" t__law_are_refused (ad 41) (fd 41)
  fc__law_are_refused : FunC K "_law_are_refused" "_law_are_refused" t__law_are_refused (ad 41) (fd 41) (cc 0)
  tb__law_are_refused : LamX.TabB base mg (cc 0) (tp 0)
  g__law_are_refused : mg "_law_are_refused" = some (.ref (ad 41))
  k__law_are_refused : PySem.W.keepIn K (.ref (ad 41)) = true
  b__law_are_refused : Binds K (fd 41) ["hand"] []
  f_law : Fun K "law" "law" t_law (ad 42) (fd 42)
  g_law : mg "law" = some (.ref (ad 42))
  k_law : PySem.W.keepIn K (.ref (ad 42)) = true
  b_law : Binds K (fd 42) ["script"] []
  n_ValueError : mg "ValueError" = none
  n_abs : mg "abs" = none
  n_all : mg "all" = none
  n_any : mg "any" = none
  n_bool : mg "bool" = none
  n_enumerate : mg "enumerate" = none
  n_int : mg "int" = none
  n_isinstance : mg "isinstance" = none
  n_len : mg "len" = none
  n_list : mg "list" = none
  n_range : mg "range" = none
  n_reversed : mg "reversed" = none
  n_str : mg "str" = none
  n_sum : mg "sum" = none
  n_tuple : mg "tuple" = none
  n_zip : mg "zip" = none
  m_MOST_SIGNS : ∃ t, mg "MOST_SIGNS" = some (.int 200 t)
  x_BadBits : PySem.W.excIn K (ca 1) [.type "ValueError", .type "Exception", .type "BaseException", .type "object"] "ValueError.__new__" = true
  c_BadBits : mg "BadBits" = some (.ref (ca 1))
  kc_BadBits : PySem.W.keepIn K (.ref (ca 1)) = true
  e_BadBits : PySem.W.subIn K (.ref (ca 1)) (.type "BaseException") = some true
  y_BadBits : PySem.W.typeIn K (.ref (ca 1)) = some (.type "type")
  l_BadBits : CL "BadBits" = some (ca 1)
  x_BadNumber : PySem.W.excIn K (ca 2) [.type "ValueError", .type "Exception", .type "BaseException", .type "object"] "ValueError.__new__" = true
  c_BadNumber : mg "BadNumber" = some (.ref (ca 2))
  kc_BadNumber : PySem.W.keepIn K (.ref (ca 2)) = true
  e_BadNumber : PySem.W.subIn K (.ref (ca 2)) (.type "BaseException") = some true
  y_BadNumber : PySem.W.typeIn K (.ref (ca 2)) = some (.type "type")
  l_BadNumber : CL "BadNumber" = some (ca 2)
  x_BadShare : PySem.W.excIn K (ca 3) [.type "ValueError", .type "Exception", .type "BaseException", .type "object"] "ValueError.__new__" = true
  c_BadShare : mg "BadShare" = some (.ref (ca 3))
  kc_BadShare : PySem.W.keepIn K (.ref (ca 3)) = true
  e_BadShare : PySem.W.subIn K (.ref (ca 3)) (.type "BaseException") = some true
  y_BadShare : PySem.W.typeIn K (.ref (ca 3)) = some (.type "type")
  l_BadShare : CL "BadShare" = some (ca 3)
  x_BadWeights : PySem.W.excIn K (ca 4) [.type "ValueError", .type "Exception", .type "BaseException", .type "object"] "ValueError.__new__" = true
  c_BadWeights : mg "BadWeights" = some (.ref (ca 4))
  kc_BadWeights : PySem.W.keepIn K (.ref (ca 4)) = true
  e_BadWeights : PySem.W.subIn K (.ref (ca 4)) (.type "BaseException") = some true
  y_BadWeights : PySem.W.typeIn K (.ref (ca 4)) = some (.type "type")
  l_BadWeights : CL "BadWeights" = some (ca 4)
  ec_BadBits : ExcC K (ca 1)
  ec_BadNumber : ExcC K (ca 2)
  ec_BadShare : ExcC K (ca 3)
  ec_BadWeights : ExcC K (ca 4)
  ki_BadBits_BadBits : PySem.W.kitOne K (.ref (ca 1)) (.ref (ca 1)) = some true
  ki_BadBits_BadNumber : PySem.W.kitOne K (.ref (ca 1)) (.ref (ca 2)) = some false
  ki_BadBits_BadShare : PySem.W.kitOne K (.ref (ca 1)) (.ref (ca 3)) = some false
  ki_BadBits_BadWeights : PySem.W.kitOne K (.ref (ca 1)) (.ref (ca 4)) = some false
  ki_BadNumber_BadBits : PySem.W.kitOne K (.ref (ca 2)) (.ref (ca 1)) = some false
  ki_BadNumber_BadNumber : PySem.W.kitOne K (.ref (ca 2)) (.ref (ca 2)) = some true
  ki_BadNumber_BadShare : PySem.W.kitOne K (.ref (ca 2)) (.ref (ca 3)) = some false
  ki_BadNumber_BadWeights : PySem.W.kitOne K (.ref (ca 2)) (.ref (ca 4)) = some false
  ki_BadShare_BadBits : PySem.W.kitOne K (.ref (ca 3)) (.ref (ca 1)) = some false
  ki_BadShare_BadNumber : PySem.W.kitOne K (.ref (ca 3)) (.ref (ca 2)) = some false
  ki_BadShare_BadShare : PySem.W.kitOne K (.ref (ca 3)) (.ref (ca 3)) = some true
  ki_BadShare_BadWeights : PySem.W.kitOne K (.ref (ca 3)) (.ref (ca 4)) = some false
  ki_BadWeights_BadBits : PySem.W.kitOne K (.ref (ca 4)) (.ref (ca 1)) = some false
  ki_BadWeights_BadNumber : PySem.W.kitOne K (.ref (ca 4)) (.ref (ca 2)) = some false
  ki_BadWeights_BadShare : PySem.W.kitOne K (.ref (ca 4)) (.ref (ca 3)) = some false
  ki_BadWeights_BadWeights : PySem.W.kitOne K (.ref (ca 4)) (.ref (ca 4)) = some true
  kb_BadBits_ValueError : PySem.W.kitOne K (.ref (ca 1)) (.type "ValueError") = some true
  kb_BadNumber_ValueError : PySem.W.kitOne K (.ref (ca 2)) (.type "ValueError") = some true
  kb_BadShare_ValueError : PySem.W.kitOne K (.ref (ca 3)) (.type "ValueError") = some true
  kb_BadWeights_ValueError : PySem.W.kitOne K (.ref (ca 4)) (.type "ValueError") = some true
  xm__law_heard_BadBits : PySem.W.exmOne K (.ref (ca 1)) (.ref (ca 0)) = some true
  xm__law_heard_BadNumber : PySem.W.exmOne K (.ref (ca 2)) (.ref (ca 0)) = some true
  xm__law_heard_BadShare : PySem.W.exmOne K (.ref (ca 3)) (.ref (ca 0)) = some true
  xm__law_heard_BadWeights : PySem.W.exmOne K (.ref (ca 4)) (.ref (ca 0)) = some true
  ct__law_heard : mg "ShortError" = some (.ref (ca 0))
section
variable {P : Program} {w : World} {K : PySem.W.Frag} {mg : Str → Option Value} {base : Heap} {ad : Nat → Addr} {fd : Nat → FuncData} {ca cc tp : Nat → Addr} {CL : Str → Option Addr} {TL : List (Addr × Str)}
theorem mem_0 : ((tp 0, (("_law_are_refused" : Str) ++ ".<locals>.") ++ "<lambda>") : Addr × Str) ∈ [(tp 0, (("_law_are_refused" : Str) ++ ".<locals>.") ++ "<lambda>")] := by simp
theorem hu_0 (T : Txt K mg base ad fd ca cc tp CL) : ∀ p ∈ ([(tp 0, (("_law_are_refused" : Str) ++ ".<locals>.") ++ "<lambda>")] : List (Addr × Str)), p.1 = tp 0 → p.2 = (("_law_are_refused" : Str) ++ ".<locals>.") ++ "<lambda>" := by
  intro p hp e
  simp only [List.mem_cons, List.not_mem_nil, or_false] at hp
  rw [hp]
theorem sc_is_integer : FnScope ["thing"] ["thing"] (defScope t_is_integer) := ⟨rfl, rfl, rfl, by decide +kernel, rfl, by decide +kernel, by decide +kernel⟩
theorem ok_is_integer (T : Txt K mg base ad fd ca cc tp CL) : FnOk P w K mg base (L2N.CX P w) 1 (ad 0) (fd 0) ["thing"] (sp0 CL 1 d_is_integer) := ok0 (T := []) T.f_is_integer sc_is_integer rfl fun cdv A outer s H E hr => by
  have S := sc_is_integer
  exact (ss_one (s_ret (e_and (ED.n_d (e_isi (ty := "int") (by decide) rfl T.n_isinstance rfl T.n_int (by decide +kernel) (ED.d_l (e_var (pv 0))))) (e_one (ED.n_d (e_not (ED.n_l (e_isi (ty := "bool") (by decide) rfl T.n_isinstance rfl T.n_bool (by decide +kernel) (ED.d_l (e_var (pv 0)))))))))))
theorem sc_is_within : FnScope ["thing", "low", "high"] ["thing", "low", "high"] (defScope t_is_within) := ⟨rfl, rfl, rfl, by decide +kernel, rfl, by decide +kernel, by decide +kernel⟩
theorem ok_is_within (T : Txt K mg base ad fd ca cc tp CL) : FnOk P w K mg base (L2N.CX P w) 2 (ad 1) (fd 1) ["thing", "low", "high"] (sp0 CL 3 d_is_within) := ok0 (T := []) T.f_is_within sc_is_within rfl fun cdv A outer s H E hr => by
  have S := sc_is_within
  exact (ss_one (s_ret (e_and (e_call0 (ok_is_integer T) (hr.mono (by decide)) rfl T.g_is_integer T.k_is_integer T.b_is_integer (L2N.takes_of rfl rfl rfl rfl) (a_cons (e_var (pv 0)) a_nil) rfl) (e_one (ED.n_d (e_chain cLe cLe (ED.d_l (e_var (pv 1))) (ED.d_l (e_var (pv 0))) (ED.d_l (e_var (pv 2)))))))))
theorem sc_is_tuple_of : FnScope ["thing", "many"] ["thing", "many"] (defScope t_is_tuple_of) := ⟨rfl, rfl, rfl, by decide +kernel, rfl, by decide +kernel, by decide +kernel⟩
theorem ok_is_tuple_of (T : Txt K mg base ad fd ca cc tp CL) : FnOk P w K mg base (L2N.CX P w) 1 (ad 2) (fd 2) ["thing", "many"] (sp0 CL 2 d_is_tuple_of) := ok0 (T := []) T.f_is_tuple_of sc_is_tuple_of rfl fun cdv A outer s H E hr => by
  have S := sc_is_tuple_of
  exact (ss_one (s_ret (e_and (ED.n_d (e_isi (ty := "tuple") (by decide) rfl T.n_isinstance rfl T.n_tuple (by decide +kernel) (ED.d_l (e_var (pv 0))))) (e_one (ED.n_d (e_cmp (cEq (hU64 hr)) (ED.n_l (e_blt c_len rfl T.n_len (by decide +kernel) (a_cons (ED.d_l (e_var (pv 0))) a_nil))) (ED.d_l (e_var (pv 1))) (by with_unfolding_all rfl)))))))
theorem sc_are_integers : FnScope ["thing", "item"] ["thing"] (defScope t_are_integers) := ⟨rfl, rfl, rfl, by decide +kernel, rfl, by decide +kernel, by decide +kernel⟩
theorem ok_are_integers (T : Txt K mg base ad fd ca cc tp CL) : FnOk P w K mg base (L2N.CX P w) 2 (ad 3) (fd 3) ["thing"] (sp0 CL 1 d_are_integers) := ok0 (T := []) T.f_are_integers sc_are_integers rfl fun cdv A outer s H E hr => by
  have S := sc_are_integers
  exact (ss_one (s_ret (e_and (ED.n_d (e_isi (ty := "tuple") (by decide) rfl T.n_isinstance rfl T.n_tuple (by decide +kernel) (ED.d_l (e_var (pv 0))))) (e_one (ED.n_d (e_blt (c_all rfl) rfl T.n_all (by decide +kernel) (a_cons (ED.n_l (e_lc (own := [("item", 1)]) (L := [1]) (g := gName 1) (t := tgN 1) rfl S.nd (i_any (e_var (pv 0))) (blkOk_by (by kernel_rfl)) (fun _ _ _ _ _ => (gd_name (i := 1) S.nd rfl (Or.inl rfl))) (fun _ _ _ _ _ => ts_nil) (fun _ _ _ _ _ => (e_call0 (ok_is_integer T) (hr.mono (by decide)) rfl T.g_is_integer T.k_is_integer T.b_is_integer takes0N (a_cons (e_var (pv 1)) a_nil) rfl)))) a_nil)))))))
theorem sc_are_counts : FnScope ["thing", "item"] ["thing"] (defScope t_are_counts) := ⟨rfl, rfl, rfl, by decide +kernel, rfl, by decide +kernel, by decide +kernel⟩
theorem ok_are_counts (T : Txt K mg base ad fd ca cc tp CL) : FnOk P w K mg base (L2N.CX P w) 3 (ad 4) (fd 4) ["thing"] (sp0 CL 1 d_are_counts) := ok0 (T := []) T.f_are_counts sc_are_counts rfl fun cdv A outer s H E hr => by
  have S := sc_are_counts
  exact (ss_one (s_ret (e_and (e_call0 (ok_are_integers T) (hr.mono (by decide)) rfl T.g_are_integers T.k_are_integers T.b_are_integers (L2N.takes_of rfl rfl rfl rfl) (a_cons (e_var (pv 0)) a_nil) rfl) (e_one (ED.n_d (e_blt (c_all rfl) rfl T.n_all (by decide +kernel) (a_cons (ED.n_l (e_lc (own := [("item", 1)]) (L := [1]) (g := gName 1) (t := tgN 1) rfl S.nd (i_any (e_var (pv 0))) (blkOk_by (by kernel_rfl)) (fun _ _ _ _ _ => (gd_name (i := 1) S.nd rfl (Or.inl rfl))) (fun _ _ _ _ _ => ts_nil) (fun _ _ _ _ _ => (ED.n_d (e_cmp cGe (ED.d_l (e_var (pv 1))) (ED.n_l e_int) (by with_unfolding_all rfl)))))) a_nil)))))))
theorem sc_common : FnScope ["one", "other"] ["one", "other"] (defScope t_common) := ⟨rfl, rfl, rfl, by decide +kernel, rfl, by decide +kernel, by decide +kernel⟩
theorem ok_common (T : Txt K mg base ad fd ca cc tp CL) : FnOk P w K mg base (L2N.CX P w) 1 (ad 5) (fd 5) ["one", "other"] (sp0 CL 2 d_common) := ok0 (T := []) T.f_common sc_common rfl fun cdv A outer s H E hr => by
  have S := sc_common
  exact (ss_cons (s_par (i := 0) (j := 1) rfl S.nd rfl rfl (by decide) rfl rfl (ag_d (ED.n_d (e_blt c_abs rfl T.n_abs (by decide +kernel) (a_cons (ED.d_l (e_var (pv 0))) a_nil))) (ag_d (ED.n_d (e_blt c_abs rfl T.n_abs (by decide +kernel) (a_cons (ED.d_l (e_var (pv 1))) a_nil))) ag_nil)) rfl) (ss_cons (s_while (passes_of rfl) (t_cmp cGt (ED.d_l (e_var (pv 1))) (ED.n_l e_int) (by with_unfolding_all rfl)) (ss_one (s_par (i := 0) (j := 1) rfl S.nd rfl rfl (by decide) rfl rfl (ag_d (e_var (pv 1)) (ag_d (ED.n_d (e_mod (ED.d_l (e_var (pv 0))) (ED.d_l (e_var (pv 1))))) ag_nil)) rfl))) (ss_one (s_ret (e_var (pv 0))))))
theorem sc_frac : FnScope ["top", "bottom", "divisor"] ["top", "bottom"] (defScope t_frac) := ⟨rfl, rfl, rfl, by decide +kernel, rfl, by decide +kernel, by decide +kernel⟩
theorem ok_frac (T : Txt K mg base ad fd ca cc tp CL) : FnOk P w K mg base (L2N.CX P w) 2 (ad 6) (fd 6) ["top", "bottom"] (sp0 CL 2 d_frac) := ok0 (T := []) T.f_frac sc_frac rfl fun cdv A outer s H E hr => by
  have S := sc_frac
  exact (ss_cons (s_set (i := 2) S.nd rfl (Or.inl rfl) (e_call0 (ok_common T) (hr.mono (by decide)) rfl T.g_common T.k_common T.b_common (L2N.takes_of rfl rfl rfl rfl) (a_cons (e_var (pv 0)) (a_cons (e_var (pv 1)) a_nil)) rfl)) (ss_cons (s_if (t_cmp cLt (ED.d_l (e_var (pv 1))) (ED.n_l e_int) (by with_unfolding_all rfl)) (ss_one (s_set (i := 2) S.nd rfl (Or.inl rfl) (ED.n_d (e_neg (ED.d_l (e_var (pv 2))))))) ss_nil) (ss_one (s_ret (ED.n_d (e_tup (a_cons (ED.n_d (e_fdiv (ED.d_l (e_var (pv 0))) (ED.d_l (e_var (pv 2))))) (a_cons (ED.n_d (e_fdiv (ED.d_l (e_var (pv 1))) (ED.d_l (e_var (pv 2))))) a_nil))))))))
theorem sc_is_fraction : FnScope ["thing"] ["thing"] (defScope t_is_fraction) := ⟨rfl, rfl, rfl, by decide +kernel, rfl, by decide +kernel, by decide +kernel⟩
theorem ok_is_fraction (T : Txt K mg base ad fd ca cc tp CL) : FnOk P w K mg base (L2N.CX P w) 2 (ad 7) (fd 7) ["thing"] (sp0 CL 1 d_is_fraction) := ok0 (T := []) T.f_is_fraction sc_is_fraction rfl fun cdv A outer s H E hr => by
  have S := sc_is_fraction
  exact (ss_cons (s_if (t_w (w_or (t_not (t_val (ED.d_l (e_call0 (ok_is_tuple_of T) (hr.mono (by decide)) rfl T.g_is_tuple_of T.k_is_tuple_of T.b_is_tuple_of (L2N.takes_of rfl rfl rfl rfl) (a_cons (e_var (pv 0)) (a_cons (ED.n_d e_int) a_nil)) rfl)))) (w_or (t_not (t_val (ED.d_l (e_call0 (ok_is_integer T) (hr.mono (by decide)) rfl T.g_is_integer T.k_is_integer T.b_is_integer (L2N.takes_of rfl rfl rfl rfl) (a_cons (e_ix (hU1 hr) (ED.d_l (e_var (pv 0))) (ED.n_l e_int)) a_nil) rfl)))) (w_or1 (t_not (t_val (ED.d_l (e_call0 (ok_is_integer T) (hr.mono (by decide)) rfl T.g_is_integer T.k_is_integer T.b_is_integer (L2N.takes_of rfl rfl rfl rfl) (a_cons (e_ix (hU1 hr) (ED.d_l (e_var (pv 0))) (ED.n_l e_int)) a_nil) rfl)))))))) (ss_one (s_ret (ED.n_d e_bl))) ss_nil) (ss_one (s_ret (e_and (ED.n_d (e_cmp cGe (ED.d_l (e_ix (hU1 hr) (ED.d_l (e_var (pv 0))) (ED.n_l e_int))) (ED.n_l e_int) (by with_unfolding_all rfl))) (e_one (ED.n_d (e_cmp (cEq (hU64 hr)) (ED.d_l (e_call0 (ok_common T) (hr.mono (by decide)) rfl T.g_common T.k_common T.b_common (L2N.takes_of rfl rfl rfl rfl) (a_cons (e_ix (hU1 hr) (ED.d_l (e_var (pv 0))) (ED.n_l e_int)) (a_cons (e_ix (hU1 hr) (ED.d_l (e_var (pv 0))) (ED.n_l e_int)) a_nil)) rfl)) (ED.n_l e_int) (by with_unfolding_all rfl))))))))
theorem sc_plus : FnScope ["one", "other"] ["one", "other"] (defScope t_plus) := ⟨rfl, rfl, rfl, by decide +kernel, rfl, by decide +kernel, by decide +kernel⟩
theorem ok_plus (T : Txt K mg base ad fd ca cc tp CL) : FnOk P w K mg base (L2N.CX P w) 3 (ad 8) (fd 8) ["one", "other"] (sp0 CL 2 d_plus) := ok0 (T := []) T.f_plus sc_plus rfl fun cdv A outer s H E hr => by
  have S := sc_plus
  exact (ss_one (s_ret (e_call0 (ok_frac T) (hr.mono (by decide)) rfl T.g_frac T.k_frac T.b_frac (L2N.takes_of rfl rfl rfl rfl) (a_cons (ED.n_d (e_add (ED.n_l (e_mul (ED.d_l (e_ix (hU1 hr) (ED.d_l (e_var (pv 0))) (ED.n_l e_int))) (ED.d_l (e_ix (hU1 hr) (ED.d_l (e_var (pv 1))) (ED.n_l e_int))))) (ED.n_l (e_mul (ED.d_l (e_ix (hU1 hr) (ED.d_l (e_var (pv 1))) (ED.n_l e_int))) (ED.d_l (e_ix (hU1 hr) (ED.d_l (e_var (pv 0))) (ED.n_l e_int))))))) (a_cons (ED.n_d (e_mul (ED.d_l (e_ix (hU1 hr) (ED.d_l (e_var (pv 0))) (ED.n_l e_int))) (ED.d_l (e_ix (hU1 hr) (ED.d_l (e_var (pv 1))) (ED.n_l e_int))))) a_nil)) rfl)))
theorem sc_less : FnScope ["one", "other"] ["one", "other"] (defScope t_less) := ⟨rfl, rfl, rfl, by decide +kernel, rfl, by decide +kernel, by decide +kernel⟩
theorem ok_less (T : Txt K mg base ad fd ca cc tp CL) : FnOk P w K mg base (L2N.CX P w) 1 (ad 9) (fd 9) ["one", "other"] (sp0 CL 2 d_less) := ok0 (T := []) T.f_less sc_less rfl fun cdv A outer s H E hr => by
  have S := sc_less
  exact (ss_one (s_ret (ED.n_d (e_cmp cLt (ED.n_l (e_mul (ED.d_l (e_ix (hU1 hr) (ED.d_l (e_var (pv 0))) (ED.n_l e_int))) (ED.d_l (e_ix (hU1 hr) (ED.d_l (e_var (pv 1))) (ED.n_l e_int))))) (ED.n_l (e_mul (ED.d_l (e_ix (hU1 hr) (ED.d_l (e_var (pv 1))) (ED.n_l e_int))) (ED.d_l (e_ix (hU1 hr) (ED.d_l (e_var (pv 0))) (ED.n_l e_int))))) (by with_unfolding_all rfl)))))
theorem sc_bits_of : FnScope ["number", "found"] ["number"] (defScope t_bits_of) := ⟨rfl, rfl, rfl, by decide +kernel, rfl, by decide +kernel, by decide +kernel⟩
theorem ok_bits_of (T : Txt K mg base ad fd ca cc tp CL) : FnOk P w K mg base (L2N.CX P w) 1 (ad 10) (fd 10) ["number"] (sp0 CL 1 d_bits_of) := ok0 (T := []) T.f_bits_of sc_bits_of rfl fun cdv A outer s H E hr => by
  have S := sc_bits_of
  exact (ss_cons (s_setO (i := 1) S.nd rfl (Or.inl rfl) (e_lst a_nil)) (ss_cons (s_while (passes_of rfl) (t_cmp cGt (ED.d_l (e_var (pv 0))) (ED.n_l e_int) (by with_unfolding_all rfl)) (ss_cons (s_dropM (m_meth1 PySem.F.slot_list_append PySem.F.type_list_append mt_append mut_append (pv 1) (m_of (ED.n_d (e_if (t_cmp (cEq (hU64 hr)) (ED.n_l (e_mod (ED.d_l (e_var (pv 0))) (ED.n_l e_int))) (ED.n_l e_int) (by with_unfolding_all rfl)) e_str e_str))))) (ss_one (s_set (i := 0) S.nd rfl (Or.inl rfl) (ED.n_d (e_fdiv (ED.d_l (e_var (pv 0))) (ED.n_l e_int))))))) (ss_one (s_ret (ED.n_d (e_joinRev rfl (ED.n_l e_str) rfl T.n_reversed (e_own (pv 1))))))))
theorem sc_wide_bits : FnScope ["number", "width", "found"] ["number", "width"] (defScope t_wide_bits) := ⟨rfl, rfl, rfl, by decide +kernel, rfl, by decide +kernel, by decide +kernel⟩
theorem ok_wide_bits (T : Txt K mg base ad fd ca cc tp CL) : FnOk P w K mg base (L2N.CX P w) 2 (ad 11) (fd 11) ["number", "width"] (sp0 CL 2 d_wide_bits) := ok0 (T := []) T.f_wide_bits sc_wide_bits rfl fun cdv A outer s H E hr => by
  have S := sc_wide_bits
  exact (ss_cons (s_set (i := 2) S.nd rfl (Or.inl rfl) (e_call0 (ok_bits_of T) (hr.mono (by decide)) rfl T.g_bits_of T.k_bits_of T.b_bits_of (L2N.takes_of rfl rfl rfl rfl) (a_cons (e_var (pv 0)) a_nil) rfl)) (ss_one (s_ret (ED.n_d (e_add (ED.n_l (e_mul (ED.n_l e_str) (ED.n_l (e_sub (ED.d_l (e_var (pv 1))) (ED.n_l (e_blt c_len rfl T.n_len (by decide +kernel) (a_cons (ED.d_l (e_var (pv 2))) a_nil))))))) (ED.d_l (e_var (pv 2))))))))
theorem sc_check_weights : FnScope ["weights", "one"] ["weights"] (defScope t_check_weights) := ⟨rfl, rfl, rfl, by decide +kernel, rfl, by decide +kernel, by decide +kernel⟩
theorem ok_check_weights (T : Txt K mg base ad fd ca cc tp CL) : FnOk P w K mg base (L2N.CX P w) 4 (ad 12) (fd 12) ["weights"] (sp0 CL 1 d_check_weights) := ok0 (T := []) T.f_check_weights sc_check_weights rfl fun cdv A outer s H E hr => by
  have S := sc_check_weights
  exact (ss_cons (s_if (t_w (w_or (t_not (t_val (ED.d_l (e_call0 (ok_are_counts T) (hr.mono (by decide)) rfl T.g_are_counts T.k_are_counts T.b_are_counts (L2N.takes_of rfl rfl rfl rfl) (a_cons (e_var (pv 0)) a_nil) rfl)))) (w_or1 (t_not (t_chain cLe cLe (ED.n_l e_int) (ED.n_l (e_blt c_len rfl T.n_len (by decide +kernel) (a_cons (ED.d_l (e_var (pv 0))) a_nil))) (ED.n_l (e_gint T.m_MOST_SIGNS))))))) (ss_one (s_raise0 rfl (L2N.takes_of rfl rfl rfl rfl) PySem.F.excBase_ValueError T.x_BadWeights T.c_BadWeights T.kc_BadWeights (raises_own T.e_BadWeights T.y_BadWeights) rfl T.l_BadWeights)) ss_nil) (ss_one (s_if (t_not (t_val (ED.n_l (e_blt (c_all rfl) rfl T.n_all (by decide +kernel) (a_cons (ED.n_l (e_lc (own := [("one", 1)]) (L := [1]) (g := gName 1) (t := tgN 1) rfl S.nd (i_any (e_var (pv 0))) (blkOk_by (by kernel_rfl)) (fun _ _ _ _ _ => (gd_name (i := 1) S.nd rfl (Or.inl rfl))) (fun _ _ _ _ _ => ts_nil) (fun _ _ _ _ _ => (ED.n_d (e_chain cLe cLe (ED.n_l e_int) (ED.d_l (e_var (pv 1))) (ED.n_l (e_pow (ED.n_l e_int) (ED.n_l e_int)))))))) a_nil))))) (ss_one (s_raise0 rfl (L2N.takes_of rfl rfl rfl rfl) PySem.F.excBase_ValueError T.x_BadWeights T.c_BadWeights T.kc_BadWeights (raises_own T.e_BadWeights T.y_BadWeights) rfl T.l_BadWeights)) ss_nil)))
theorem sc_middles : FnScope ["weights", "total", "here", "found", "one"] ["weights"] (defScope t_middles) := ⟨rfl, rfl, rfl, by decide +kernel, rfl, by decide +kernel, by decide +kernel⟩
theorem ok_middles (T : Txt K mg base ad fd ca cc tp CL) : FnOk P w K mg base (L2N.CX P w) 5 (ad 13) (fd 13) ["weights"] (sp0 CL 1 d_middles) := ok0 (T := []) T.f_middles sc_middles rfl fun cdv A outer s H E hr => by
  have S := sc_middles
  exact (ss_cons (s_drop (e_call0 (ok_check_weights T) (hr.mono (by decide)) rfl T.g_check_weights T.k_check_weights T.b_check_weights (L2N.takes_of rfl rfl rfl rfl) (a_cons (e_var (pv 0)) a_nil) rfl)) (ss_cons (s_par3 (i := 1) (j := 2) (l := 3) rfl S.nd rfl rfl rfl (by decide) (by decide) (by decide) rfl rfl rfl (ag_d (ED.n_d (e_mul (ED.n_l e_int) (ED.n_l (e_blt (c_sum rfl) rfl T.n_sum (by decide +kernel) (a_cons (ED.d_l (e_var (pv 0))) a_nil))))) (ag_d (ED.n_d e_int) (ag_o (e_lst a_nil) ag_nil))) rfl) (ss_cons (s_for (passes_of rfl) rfl (i_any (e_var (pv 0))) (gd_name (i := 4) S.nd rfl (Or.inl rfl)) (ss_cons (s_dropM (m_meth1 PySem.F.slot_list_append PySem.F.type_list_append mt_append mut_append (pv 3) (m_of (e_call0 (ok_frac T) (hr.mono (by decide)) rfl T.g_frac T.k_frac T.b_frac (L2N.takes_of rfl rfl rfl rfl) (a_cons (ED.n_d (e_add (ED.n_l (e_mul (ED.n_l e_int) (ED.d_l (e_var (pv 2))))) (ED.d_l (e_var (pv 4))))) (a_cons (e_var (pv 1)) a_nil)) rfl)))) (ss_one (s_set (i := 2) S.nd rfl (Or.inl rfl) (ED.n_d (e_add (ED.d_l (e_var (pv 2))) (ED.d_l (e_var (pv 4))))))))) (ss_one (s_ret (ED.n_d (e_bty c_tuple rfl T.n_tuple (by decide +kernel) (a_cons (e_own (pv 3)) a_nil))))))))
theorem sc_first_bits : FnScope ["point", "size"] ["point", "size"] (defScope t_first_bits) := ⟨rfl, rfl, rfl, by decide +kernel, rfl, by decide +kernel, by decide +kernel⟩
theorem ok_first_bits (T : Txt K mg base ad fd ca cc tp CL) : FnOk P w K mg base (L2N.CX P w) 3 (ad 15) (fd 15) ["point", "size"] (sp0 CL 2 d_first_bits) := ok0 (T := []) T.f_first_bits sc_first_bits rfl fun cdv A outer s H E hr => by
  have S := sc_first_bits
  exact (ss_one (s_ret (e_if (t_cmp cGt (ED.d_l (e_var (pv 1))) (ED.n_l e_int) (by with_unfolding_all rfl)) (e_call0 (ok_wide_bits T) (hr.mono (by decide)) rfl T.g_wide_bits T.k_wide_bits T.b_wide_bits (L2N.takes_of rfl rfl rfl rfl) (a_cons (ED.n_d (e_fdiv (ED.n_l (e_shl (ED.d_l (e_ix (hU1 hr) (ED.d_l (e_var (pv 0))) (ED.n_l e_int))) (ED.d_l (e_var (pv 1))))) (ED.d_l (e_ix (hU1 hr) (ED.d_l (e_var (pv 0))) (ED.n_l e_int))))) (a_cons (e_var (pv 1)) a_nil)) rfl) (ED.n_d e_str))))
theorem sc_point_bits : FnScope ["point", "size"] ["point", "size"] (defScope t_point_bits) := ⟨rfl, rfl, rfl, by decide +kernel, rfl, by decide +kernel, by decide +kernel⟩
theorem ok_point_bits (T : Txt K mg base ad fd ca cc tp CL) : FnOk P w K mg base (L2N.CX P w) 4 (ad 14) (fd 14) ["point", "size"] (sp0 CL 2 d_point_bits) := ok0 (T := []) T.f_point_bits sc_point_bits rfl fun cdv A outer s H E hr => by
  have S := sc_point_bits
  exact (ss_cons (s_if (t_w (w_or (t_not (t_val (ED.d_l (e_call0 (ok_is_fraction T) (hr.mono (by decide)) rfl T.g_is_fraction T.k_is_fraction T.b_is_fraction (L2N.takes_of rfl rfl rfl rfl) (a_cons (e_var (pv 0)) a_nil) rfl)))) (w_or1 (t_not (t_chain cLe cLt (ED.n_l e_int) (ED.d_l (e_ix (hU1 hr) (ED.d_l (e_var (pv 0))) (ED.n_l e_int))) (ED.d_l (e_ix (hU1 hr) (ED.d_l (e_var (pv 0))) (ED.n_l e_int)))))))) (ss_one (s_raise0 rfl (L2N.takes_of rfl rfl rfl rfl) PySem.F.excBase_ValueError T.x_BadShare T.c_BadShare T.kc_BadShare (raises_own T.e_BadShare T.y_BadShare) rfl T.l_BadShare)) ss_nil) (ss_cons (s_if (t_not (t_val (ED.d_l (e_call0 (ok_is_within T) (hr.mono (by decide)) rfl T.g_is_within T.k_is_within T.b_is_within (L2N.takes_of rfl rfl rfl rfl) (a_cons (e_var (pv 1)) (a_cons (ED.n_d e_int) (a_cons (ED.n_d e_int) a_nil))) rfl)))) (ss_one (s_raise0 rfl (L2N.takes_of rfl rfl rfl rfl) PySem.F.excBase_ValueError T.x_BadNumber T.c_BadNumber T.kc_BadNumber (raises_own T.e_BadNumber T.y_BadNumber) rfl T.l_BadNumber)) ss_nil) (ss_one (s_ret (e_call0 (ok_first_bits T) (hr.mono (by decide)) rfl T.g_first_bits T.k_first_bits T.b_first_bits (L2N.takes_of rfl rfl rfl rfl) (a_cons (e_var (pv 0)) (a_cons (e_var (pv 1)) a_nil)) rfl)))))
theorem sc_middle_words : FnScope ["weights", "total", "found", "one", "middle", "size"] ["weights"] (defScope t_middle_words) := ⟨rfl, rfl, rfl, by decide +kernel, rfl, by decide +kernel, by decide +kernel⟩
theorem ok_middle_words (T : Txt K mg base ad fd ca cc tp CL) : FnOk P w K mg base (L2N.CX P w) 6 (ad 16) (fd 16) ["weights"] (sp0 CL 1 d_middle_words) := ok0 (T := []) T.f_middle_words sc_middle_words rfl fun cdv A outer s H E hr => by
  have S := sc_middle_words
  exact (ss_cons (s_drop (e_call0 (ok_check_weights T) (hr.mono (by decide)) rfl T.g_check_weights T.k_check_weights T.b_check_weights (L2N.takes_of rfl rfl rfl rfl) (a_cons (e_var (pv 0)) a_nil) rfl)) (ss_cons (s_par (i := 1) (j := 2) rfl S.nd rfl rfl (by decide) rfl rfl (ag_d (ED.n_d (e_blt (c_sum rfl) rfl T.n_sum (by decide +kernel) (a_cons (ED.d_l (e_var (pv 0))) a_nil))) (ag_o (e_lst a_nil) ag_nil)) rfl) (ss_cons (s_for (passes_of rfl) rfl (i_zipG rfl T.n_zip (a_cons (e_var (pv 0)) (a_cons (e_call0 (ok_middles T) (hr.mono (by decide)) rfl T.g_middles T.k_middles T.b_middles (L2N.takes_of rfl rfl rfl rfl) (a_cons (e_var (pv 0)) a_nil) rfl) a_nil))) (gd_tup rfl (gds_cons (gd_name (i := 3) S.nd rfl (Or.inl rfl)) (gds_cons (gd_name (i := 4) S.nd rfl (Or.inl rfl)) gds_nil))) (ss_cons (s_set (i := 5) S.nd rfl (Or.inl rfl) (ED.n_d e_int)) (ss_cons (s_while (passes_of rfl) (t_cmp cLt (ED.n_l (e_shl (ED.d_l (e_var (pv 3))) (ED.n_l (e_sub (ED.d_l (e_var (pv 5))) (ED.n_l e_int))))) (ED.d_l (e_var (pv 1))) (by with_unfolding_all rfl)) (ss_one (s_set (i := 5) S.nd rfl (Or.inl rfl) (ED.n_d (e_add (ED.d_l (e_var (pv 5))) (ED.n_l e_int)))))) (ss_one (s_dropM (m_meth1 PySem.F.slot_list_append PySem.F.type_list_append mt_append mut_append (pv 2) (m_of (e_call0 (ok_first_bits T) (hr.mono (by decide)) rfl T.g_first_bits T.k_first_bits T.b_first_bits (L2N.takes_of rfl rfl rfl rfl) (a_cons (e_var (pv 4)) (a_cons (e_var (pv 5)) a_nil)) rfl)))))))) (ss_one (s_ret (ED.n_d (e_bty c_tuple rfl T.n_tuple (by decide +kernel) (a_cons (e_own (pv 2)) a_nil))))))))
theorem sc_check_bits : FnScope ["bits", "bit"] ["bits"] (defScope t_check_bits) := ⟨rfl, rfl, rfl, by decide +kernel, rfl, by decide +kernel, by decide +kernel⟩
theorem ok_check_bits (T : Txt K mg base ad fd ca cc tp CL) : FnOk P w K mg base (L2N.CX P w) 1 (ad 18) (fd 18) ["bits"] (sp0 CL 1 d_check_bits) := ok0 (T := []) T.f_check_bits sc_check_bits rfl fun cdv A outer s H E hr => by
  have S := sc_check_bits
  exact (ss_one (s_if (t_w (w_or (t_not (t_val (ED.n_l (e_isi (ty := "str") (by decide) rfl T.n_isinstance rfl T.n_str (by decide +kernel) (ED.d_l (e_var (pv 0))))))) (w_or (t_cmp cGt (ED.n_l (e_blt c_len rfl T.n_len (by decide +kernel) (a_cons (ED.d_l (e_var (pv 0))) a_nil))) (ED.n_l e_int) (by with_unfolding_all rfl)) (w_or1 (t_not (t_val (ED.n_l (e_blt (c_all rfl) rfl T.n_all (by decide +kernel) (a_cons (ED.n_l (e_lc (own := [("bit", 1)]) (L := [1]) (g := gName 1) (t := tgN 1) rfl S.nd (i_any (e_var (pv 0))) (blkOk_by (by kernel_rfl)) (fun _ _ _ _ _ => (gd_name (i := 1) S.nd rfl (Or.inl rfl))) (fun _ _ _ _ _ => ts_nil) (fun _ _ _ _ _ => (ED.n_d (e_cmp (cIn (hU65 hr)) (ED.d_l (e_var (pv 1))) (ED.n_l e_str) (by with_unfolding_all rfl)))))) a_nil))))))))) (ss_one (s_raise0 rfl (L2N.takes_of rfl rfl rfl rfl) PySem.F.excBase_ValueError T.x_BadBits T.c_BadBits T.kc_BadBits (raises_own T.e_BadBits T.y_BadBits) rfl T.l_BadBits)) ss_nil))
theorem sc_point_of : FnScope ["bits", "found", "bit"] ["bits"] (defScope t_point_of) := ⟨rfl, rfl, rfl, by decide +kernel, rfl, by decide +kernel, by decide +kernel⟩
theorem ok_point_of (T : Txt K mg base ad fd ca cc tp CL) : FnOk P w K mg base (L2N.CX P w) 3 (ad 17) (fd 17) ["bits"] (sp0 CL 1 d_point_of) := ok0 (T := []) T.f_point_of sc_point_of rfl fun cdv A outer s H E hr => by
  have S := sc_point_of
  exact (ss_cons (s_drop (e_call0 (ok_check_bits T) (hr.mono (by decide)) rfl T.g_check_bits T.k_check_bits T.b_check_bits (L2N.takes_of rfl rfl rfl rfl) (a_cons (e_var (pv 0)) a_nil) rfl)) (ss_cons (s_set (i := 1) S.nd rfl (Or.inl rfl) (ED.n_d e_int)) (ss_cons (s_for (passes_of rfl) rfl (i_any (e_var (pv 0))) (gd_name (i := 2) S.nd rfl (Or.inl rfl)) (ss_one (s_set (i := 1) S.nd rfl (Or.inl rfl) (ED.n_d (e_add (ED.n_l (e_mul (ED.n_l e_int) (ED.d_l (e_var (pv 1))))) (ED.n_l (e_if (t_cmp (cEq (hU64 hr)) (ED.d_l (e_var (pv 2))) (ED.n_l e_str) (by with_unfolding_all rfl)) e_int e_int))))))) (ss_one (s_ret (e_call0 (ok_frac T) (hr.mono (by decide)) rfl T.g_frac T.k_frac T.b_frac (L2N.takes_of rfl rfl rfl rfl) (a_cons (e_var (pv 1)) (a_cons (ED.n_d (e_shl (ED.n_l e_int) (ED.n_l (e_blt c_len rfl T.n_len (by decide +kernel) (a_cons (ED.d_l (e_var (pv 0))) a_nil))))) a_nil)) rfl))))))
theorem sc_span_of : FnScope ["bits", "low"] ["bits"] (defScope t_span_of) := ⟨rfl, rfl, rfl, by decide +kernel, rfl, by decide +kernel, by decide +kernel⟩
theorem ok_span_of (T : Txt K mg base ad fd ca cc tp CL) : FnOk P w K mg base (L2N.CX P w) 4 (ad 19) (fd 19) ["bits"] (sp0 CL 1 d_span_of) := ok0 (T := []) T.f_span_of sc_span_of rfl fun cdv A outer s H E hr => by
  have S := sc_span_of
  exact (ss_cons (s_set (i := 1) S.nd rfl (Or.inl rfl) (e_call0 (ok_point_of T) (hr.mono (by decide)) rfl T.g_point_of T.k_point_of T.b_point_of (L2N.takes_of rfl rfl rfl rfl) (a_cons (e_var (pv 0)) a_nil) rfl)) (ss_one (s_ret (ED.n_d (e_tup (a_cons (e_var (pv 1)) (a_cons (e_call0 (ok_plus T) (hr.mono (by decide)) rfl T.g_plus T.k_plus T.b_plus (L2N.takes_of rfl rfl rfl rfl) (a_cons (e_var (pv 1)) (a_cons (e_call0 (ok_frac T) (hr.mono (by decide)) rfl T.g_frac T.k_frac T.b_frac (L2N.takes_of rfl rfl rfl rfl) (a_cons (ED.n_d e_int) (a_cons (ED.n_d (e_shl (ED.n_l e_int) (ED.n_l (e_blt c_len rfl T.n_len (by decide +kernel) (a_cons (ED.d_l (e_var (pv 0))) a_nil))))) a_nil)) rfl) a_nil)) rfl) a_nil)))))))
theorem sc_least_words : FnScope ["weights", "total", "here", "found", "one", "size"] ["weights"] (defScope t_least_words) := ⟨rfl, rfl, rfl, by decide +kernel, rfl, by decide +kernel, by decide +kernel⟩
theorem ok_least_words (T : Txt K mg base ad fd ca cc tp CL) : FnOk P w K mg base (L2N.CX P w) 5 (ad 20) (fd 20) ["weights"] (sp0 CL 1 d_least_words) := ok0 (T := []) T.f_least_words sc_least_words rfl fun cdv A outer s H E hr => by
  have S := sc_least_words
  exact (ss_cons (s_drop (e_call0 (ok_check_weights T) (hr.mono (by decide)) rfl T.g_check_weights T.k_check_weights T.b_check_weights (L2N.takes_of rfl rfl rfl rfl) (a_cons (e_var (pv 0)) a_nil) rfl)) (ss_cons (s_par3 (i := 1) (j := 2) (l := 3) rfl S.nd rfl rfl rfl (by decide) (by decide) (by decide) rfl rfl rfl (ag_d (ED.n_d (e_blt (c_sum rfl) rfl T.n_sum (by decide +kernel) (a_cons (ED.d_l (e_var (pv 0))) a_nil))) (ag_d (ED.n_d e_int) (ag_o (e_lst a_nil) ag_nil))) rfl) (ss_cons (s_for (passes_of rfl) rfl (i_any (e_var (pv 0))) (gd_name (i := 4) S.nd rfl (Or.inl rfl)) (ss_cons (s_set (i := 5) S.nd rfl (Or.inl rfl) (ED.n_d e_int)) (ss_cons (s_while (passes_of rfl) (t_cmp cGt (ED.n_l (e_mul (ED.n_l (e_add (ED.n_l (e_neg (ED.n_l (e_fdiv (ED.n_l (e_neg (ED.n_l (e_shl (ED.d_l (e_var (pv 2))) (ED.d_l (e_var (pv 5))))))) (ED.d_l (e_var (pv 1))))))) (ED.n_l e_int))) (ED.d_l (e_var (pv 1))))) (ED.n_l (e_shl (ED.n_l (e_add (ED.d_l (e_var (pv 2))) (ED.d_l (e_var (pv 4))))) (ED.d_l (e_var (pv 5))))) (by with_unfolding_all rfl)) (ss_one (s_set (i := 5) S.nd rfl (Or.inl rfl) (ED.n_d (e_add (ED.d_l (e_var (pv 5))) (ED.n_l e_int)))))) (ss_cons (s_dropM (m_meth1 PySem.F.slot_list_append PySem.F.type_list_append mt_append mut_append (pv 3) (m_of (e_if (t_cmp cGt (ED.d_l (e_var (pv 5))) (ED.n_l e_int) (by with_unfolding_all rfl)) (e_call0 (ok_wide_bits T) (hr.mono (by decide)) rfl T.g_wide_bits T.k_wide_bits T.b_wide_bits (L2N.takes_of rfl rfl rfl rfl) (a_cons (ED.n_d (e_neg (ED.n_l (e_fdiv (ED.n_l (e_neg (ED.n_l (e_shl (ED.d_l (e_var (pv 2))) (ED.d_l (e_var (pv 5))))))) (ED.d_l (e_var (pv 1))))))) (a_cons (e_var (pv 5)) a_nil)) rfl) (ED.n_d e_str))))) (ss_one (s_set (i := 2) S.nd rfl (Or.inl rfl) (ED.n_d (e_add (ED.d_l (e_var (pv 2))) (ED.d_l (e_var (pv 4))))))))))) (ss_one (s_ret (ED.n_d (e_bty c_tuple rfl T.n_tuple (by decide +kernel) (a_cons (e_own (pv 3)) a_nil))))))))
theorem sc_are_in_order : FnScope ["thing", "one", "other", "word", "bit"] ["thing"] (defScope t_are_in_order) := ⟨rfl, rfl, rfl, by decide +kernel, rfl, by decide +kernel, by decide +kernel⟩
theorem ok_are_in_order (T : Txt K mg base ad fd ca cc tp CL) : FnOk P w K mg base (L2N.CX P w) 1 (ad 21) (fd 21) ["thing"] (sp0 CL 1 d_are_in_order) := ok0 (T := []) T.f_are_in_order sc_are_in_order rfl fun cdv A outer s H E hr => by
  have S := sc_are_in_order
  exact (ss_cons (s_if (t_w (w_or (t_not (t_val (ED.n_l (e_isi (ty := "tuple") (by decide) rfl T.n_isinstance rfl T.n_tuple (by decide +kernel) (ED.d_l (e_var (pv 0))))))) (w_or1 (t_cmp cGt (ED.n_l (e_blt c_len rfl T.n_len (by decide +kernel) (a_cons (ED.d_l (e_var (pv 0))) a_nil))) (ED.n_l (e_gint T.m_MOST_SIGNS)) (by with_unfolding_all rfl))))) (ss_one (s_ret (ED.n_d e_bl))) ss_nil) (ss_cons (s_if (t_not (t_val (ED.n_l (e_blt (c_all rfl) rfl T.n_all (by decide +kernel) (a_cons (ED.n_l (e_lc (own := [("word", 3)]) (L := [3]) (g := gName 3) (t := tgN 3) rfl S.nd (i_any (e_var (pv 0))) (blkOk_by (by kernel_rfl)) (fun _ _ _ _ _ => (gd_name (i := 3) S.nd rfl (Or.inl rfl))) (fun _ _ _ _ _ => ts_nil) (fun _ _ _ _ _ => (e_and (ED.n_d (e_isi (ty := "str") (by decide) rfl T.n_isinstance rfl T.n_str (by decide +kernel) (ED.d_l (e_var (pv 3))))) (e_and (ED.n_d (e_cmp cLe (ED.n_l (e_blt c_len rfl T.n_len (by decide +kernel) (a_cons (ED.d_l (e_var (pv 3))) a_nil))) (ED.n_l e_int) (by with_unfolding_all rfl))) (e_one (ED.n_d (e_blt (c_all rfl) rfl T.n_all (by decide +kernel) (a_cons (ED.n_l (e_lc (own := [("bit", 4)]) (L := [4]) (g := gName 4) (t := tgN 4) rfl S.nd (i_any (e_var (pv 3))) (blkOk_by (by kernel_rfl)) (fun _ _ _ _ _ => (gd_name (i := 4) S.nd rfl (Or.inl rfl))) (fun _ _ _ _ _ => ts_nil) (fun _ _ _ _ _ => (ED.n_d (e_cmp (cIn (hU65 hr)) (ED.d_l (e_var (pv 4))) (ED.n_l e_str) (by with_unfolding_all rfl)))))) a_nil))))))))) a_nil))))) (ss_one (s_ret (ED.n_d e_bl))) ss_nil) (ss_cons (s_for (passes_of rfl) rfl (i_zipG rfl T.n_zip (a_cons (e_var (pv 0)) (a_cons (ED.n_d (e_sl (ED.d_l (e_var (pv 0))) (o_some (ED.n_l e_int)) o_none)) a_nil))) (gd_tup rfl (gds_cons (gd_name (i := 1) S.nd rfl (Or.inl rfl)) (gds_cons (gd_name (i := 2) S.nd rfl (Or.inl rfl)) gds_nil))) (ss_one (s_if (t_w (w_or (t_cmp cGe (ED.d_l (e_var (pv 1))) (ED.d_l (e_var (pv 2))) (by with_unfolding_all rfl)) (w_or1 (t_cmp (cEq (hU64 hr)) (ED.n_l (e_sl (ED.d_l (e_var (pv 2))) o_none (o_some (ED.n_l (e_blt c_len rfl T.n_len (by decide +kernel) (a_cons (ED.d_l (e_var (pv 1))) a_nil)))))) (ED.d_l (e_var (pv 1))) (by with_unfolding_all rfl))))) (ss_one (s_ret (ED.n_d e_bl))) ss_nil))) (ss_one (s_ret (ED.n_d e_bl))))))
theorem sc_place_in : FnScope ["weights", "point", "total", "here", "at", "one"] ["weights", "point"] (defScope t_place_in) := ⟨rfl, rfl, rfl, by decide +kernel, rfl, by decide +kernel, by decide +kernel⟩
theorem ok_place_in (T : Txt K mg base ad fd ca cc tp CL) : FnOk P w K mg base (L2N.CX P w) 5 (ad 22) (fd 22) ["weights", "point"] (sp0 CL 2 d_place_in) := ok0 (T := []) T.f_place_in sc_place_in rfl fun cdv A outer s H E hr => by
  have S := sc_place_in
  exact (ss_cons (s_drop (e_call0 (ok_check_weights T) (hr.mono (by decide)) rfl T.g_check_weights T.k_check_weights T.b_check_weights (L2N.takes_of rfl rfl rfl rfl) (a_cons (e_var (pv 0)) a_nil) rfl)) (ss_cons (s_if (t_w (w_or (t_not (t_val (ED.d_l (e_call0 (ok_is_fraction T) (hr.mono (by decide)) rfl T.g_is_fraction T.k_is_fraction T.b_is_fraction (L2N.takes_of rfl rfl rfl rfl) (a_cons (e_var (pv 1)) a_nil) rfl)))) (w_or1 (t_not (t_chain cLe cLt (ED.n_l e_int) (ED.d_l (e_ix (hU1 hr) (ED.d_l (e_var (pv 1))) (ED.n_l e_int))) (ED.d_l (e_ix (hU1 hr) (ED.d_l (e_var (pv 1))) (ED.n_l e_int)))))))) (ss_one (s_raise0 rfl (L2N.takes_of rfl rfl rfl rfl) PySem.F.excBase_ValueError T.x_BadShare T.c_BadShare T.kc_BadShare (raises_own T.e_BadShare T.y_BadShare) rfl T.l_BadShare)) ss_nil) (ss_cons (s_par (i := 2) (j := 3) rfl S.nd rfl rfl (by decide) rfl rfl (ag_d (ED.n_d (e_blt (c_sum rfl) rfl T.n_sum (by decide +kernel) (a_cons (ED.d_l (e_var (pv 0))) a_nil))) (ag_d (ED.n_d e_int) ag_nil)) rfl) (ss_cons (s_for (passes_of rfl) rfl (i_enumG rfl T.n_enumerate (a_cons (e_var (pv 0)) a_nil)) (gd_tup rfl (gds_cons (gd_name (i := 4) S.nd rfl (Or.inl rfl)) (gds_cons (gd_name (i := 5) S.nd rfl (Or.inl rfl)) gds_nil))) (ss_cons (s_set (i := 3) S.nd rfl (Or.inl rfl) (ED.n_d (e_add (ED.d_l (e_var (pv 3))) (ED.d_l (e_var (pv 5)))))) (ss_one (s_if (t_val (ED.d_l (e_call0 (ok_less T) (hr.mono (by decide)) rfl T.g_less T.k_less T.b_less (L2N.takes_of rfl rfl rfl rfl) (a_cons (e_var (pv 1)) (a_cons (e_call0 (ok_frac T) (hr.mono (by decide)) rfl T.g_frac T.k_frac T.b_frac (L2N.takes_of rfl rfl rfl rfl) (a_cons (e_var (pv 3)) (a_cons (e_var (pv 2)) a_nil)) rfl) a_nil)) rfl))) (ss_one (s_ret (e_var (pv 4)))) ss_nil)))) (ss_one (s_ret (ED.n_d (e_sub (ED.n_l (e_blt c_len rfl T.n_len (by decide +kernel) (a_cons (ED.d_l (e_var (pv 0))) a_nil))) (ED.n_l e_int)))))))))
theorem sc__law_hand : FnScope ["script", "cells", "cell"] ["script"] (defScope t__law_hand) := ⟨rfl, rfl, rfl, by decide +kernel, rfl, by decide +kernel, by decide +kernel⟩
theorem ok__law_hand (T : Txt K mg base ad fd ca cc tp CL) : FnOk P w K mg base (L2N.CX P w) 1 (ad 23) (fd 23) ["script"] (spH K 1433 7) := by
  have S := sc__law_hand
  refine hand_ok (CL := CL) (c1 := 1433) (c2 := 7) T.f__law_hand S (by decide) (by decide) fun cdv A outer s H E hr => ?_
  exact pss_cons (ps_setLc (i := 1) (own := [("cell", 2)]) (g := gName 2) (tt := tT [] CL WF dYes) (te := tE [] CL WF .D (dAbsInt 2)) rfl S.nd rfl rfl (sw_true rfl rfl rfl (by decide +kernel)) (pi_list (pe_slice sl_list (pv 0) po_none (po_some pe_int))) (blkOk_by (by kernel_rfl)) (fun _ _ _ _ _ => pg_name (i := 2) S.nd rfl (Or.inl rfl)) (fun _ _ _ _ _ => ts_nil) (fun _ _ _ _ _ => ED.n_d (e_blt c_abs rfl T.n_abs (by decide +kernel) (a_cons (ED.n_l (e_bty c_int rfl T.n_int (by decide +kernel) (a_cons (ED.d_l (e_var (pv 2))) a_nil))) a_nil)))) (pss_one (ps_ret (e_lst (a_cons (e_var (pv 1)) (a_cons (ED.n_d e_int) (a_cons (ED.n_d e_int) (a_cons (ED.n_d (e_add (ED.n_l e_int) (ED.n_l (e_mul (ED.n_l e_int) (ED.n_l (e_blt c_len rfl T.n_len (by decide +kernel) (a_cons (ED.d_l (e_var (pv 1))) a_nil))))))) (a_cons (ED.n_d e_int) a_nil))))))))
theorem sc__law_draw : FnScope ["hand", "many", "cell", "digit", "number"] ["hand", "many"] (defScope t__law_draw) := ⟨rfl, rfl, rfl, by decide +kernel, rfl, by decide +kernel, by decide +kernel⟩
theorem ok__law_draw (T : Txt K mg base ad fd ca cc tp CL) : FnOk P w K mg base (L2N.CX P w) 1 (ad 24) (fd 24) ["hand", "many"] (sp1 TL CL 1 d__law_draw) := ok1 T.f__law_draw sc__law_draw rfl fun cdv A outer s H E hr => by
  have S := sc__law_draw
  exact (ss_cons (s_if (t_w (w_and (t_cmp (cEq (hU64 hr)) (ED.d_l (e_hix (pv 0) (ED.n_l e_int))) (ED.n_l e_int) (by with_unfolding_all rfl)) (w_and1 (t_cmp cLt (ED.d_l (e_hix (pv 0) (ED.n_l e_int))) (ED.n_l (e_blt c_len rfl T.n_len (by decide +kernel) (a_cons (ED.d_l (e_hix (pv 0) (ED.n_l e_int))) a_nil))) (by with_unfolding_all rfl))))) (ss_cons (s_set (i := 2) S.nd rfl (Or.inl rfl) (e_ix (hU1 hr) (ED.d_l (e_hix (pv 0) (ED.n_l e_int))) (ED.d_l (e_hix (pv 0) (ED.n_l e_int))))) (ss_cons (s_store (pv 0) (ED.n_l e_int) (ED.n_d (e_add (ED.d_l (e_hix (pv 0) (ED.n_l e_int))) (ED.n_l e_int)))) (ss_cons (s_store (pv 0) (ED.n_l e_int) (ED.n_d (e_mod (ED.n_l (e_bty c_int rfl T.n_int (by decide +kernel) (a_cons (ED.n_l (e_add (ED.n_l (e_add (ED.n_l (e_mul (ED.d_l (e_hix (pv 0) (ED.n_l e_int))) (ED.n_l e_int))) (ED.n_l (e_mul (ED.d_l (e_var (pv 2))) (ED.n_l e_int))))) (ED.n_l e_int))) a_nil))) (ED.n_l e_int)))) (ss_one (s_if (t_cmp cGe (ED.d_l (e_var (pv 2))) (ED.n_l (e_pow (ED.n_l e_int) (ED.n_l e_int))) (by with_unfolding_all rfl)) (ss_one (s_store (pv 0) (ED.n_l e_int) (e_var (pv 2)))) ss_nil))))) ss_nil) (ss_cons (s_if (t_cmp cGt (ED.d_l (e_hix (pv 0) (ED.n_l e_int))) (ED.n_l e_int) (by with_unfolding_all rfl)) (ss_cons (s_set (i := 3) S.nd rfl (Or.inl rfl) (ED.n_d (e_mod (ED.n_l (e_bty c_int rfl T.n_int (by decide +kernel) (a_cons (ED.d_l (e_hix (pv 0) (ED.n_l e_int))) a_nil))) (ED.d_l (e_var (pv 1)))))) (ss_cons (s_store (pv 0) (ED.n_l e_int) (ED.n_d (e_fdiv (ED.d_l (e_hix (pv 0) (ED.n_l e_int))) (ED.d_l (e_var (pv 1)))))) (ss_one (s_ret (e_var (pv 3)))))) ss_nil) (ss_cons (s_store (pv 0) (ED.n_l e_int) (ED.n_d (e_add (ED.d_l (e_hix (pv 0) (ED.n_l e_int))) (ED.n_l e_int)))) (ss_cons (s_set (i := 4) S.nd rfl (Or.inl rfl) (ED.n_d (e_mod (ED.n_l (e_bty c_int rfl T.n_int (by decide +kernel) (a_cons (ED.n_l (e_mul (ED.n_l (e_bty c_int rfl T.n_int (by decide +kernel) (a_cons (ED.n_l (e_add (ED.d_l (e_hix (pv 0) (ED.n_l e_int))) (ED.n_l (e_mul (ED.n_l e_int) (ED.d_l (e_hix (pv 0) (ED.n_l e_int))))))) a_nil))) (ED.n_l e_int))) a_nil))) (ED.n_l e_int)))) (ss_cons (s_set (i := 4) S.nd rfl (Or.inl rfl) (ED.n_d (e_mod (ED.n_l (e_bty c_int rfl T.n_int (by decide +kernel) (a_cons (ED.n_l (e_mul (ED.d_l (e_var (pv 4))) (ED.n_l (e_add (ED.n_l (e_fdiv (ED.d_l (e_var (pv 4))) (ED.n_l e_int))) (ED.n_l e_int))))) a_nil))) (ED.n_l e_int)))) (ss_cons (s_set (i := 4) S.nd rfl (Or.inl rfl) (ED.n_d (e_mod (ED.n_l (e_bty c_int rfl T.n_int (by decide +kernel) (a_cons (ED.n_l (e_mul (ED.d_l (e_var (pv 4))) (ED.n_l (e_add (ED.n_l (e_fdiv (ED.d_l (e_var (pv 4))) (ED.n_l e_int))) (ED.n_l e_int))))) a_nil))) (ED.n_l e_int)))) (ss_one (s_ret (ED.n_d (e_mod (ED.n_l (e_bty c_int rfl T.n_int (by decide +kernel) (a_cons (ED.n_l (e_fdiv (ED.d_l (e_var (pv 4))) (ED.n_l e_int))) a_nil))) (ED.d_l (e_var (pv 1)))))))))))))
theorem sc__law_any : FnScope ["hand", "some"] ["hand", "some"] (defScope t__law_any) := ⟨rfl, rfl, rfl, by decide +kernel, rfl, by decide +kernel, by decide +kernel⟩
theorem ok__law_any (T : Txt K mg base ad fd ca cc tp CL) : FnOk P w K mg base (L2N.CX P w) 2 (ad 25) (fd 25) ["hand", "some"] (sp1 TL CL 1 d__law_any) := ok1 T.f__law_any sc__law_any rfl fun cdv A outer s H E hr => by
  have S := sc__law_any
  exact (ss_one (s_ret (e_ix (hU1 hr) (ED.d_l (e_var (pv 1))) (ED.d_l (e_call1 (ok__law_draw T) (hr.mono (by decide)) rfl T.g__law_draw T.k__law_draw T.b__law_draw (L2N.takes_of rfl rfl rfl rfl) (pv 0) (a_cons (ED.n_d (e_blt c_len rfl T.n_len (by decide +kernel) (a_cons (ED.d_l (e_var (pv 1))) a_nil))) a_nil) rfl)))))
theorem sc__law_is : FnScope ["said", "due", "one", "other"] ["said", "due"] (defScope t__law_is) := ⟨rfl, rfl, rfl, by decide +kernel, rfl, by decide +kernel, by decide +kernel⟩
theorem okr__law_is (T : Txt K mg base ad fd ca cc tp CL) : ∀ j : Nat, FnOk P w K mg base (L2N.CX P w) (j + 0) (ad 26) (fd 26) ["said", "due"] (sp0 CL 2 (recD 4 s__law_is j))
  | 0 => ok_no rfl
  | j + 1 => by
    have ih : FnOk P w K mg base (L2N.CX P w) (j + 0) (ad 26) (fd 26) ["said", "due"] (sp0 CL 2 (recD 4 s__law_is j)) := okr__law_is T j
    have S := sc__law_is
    exact ok0 (T := []) (k := j + 0) T.f__law_is sc__law_is rfl fun cdv A outer s H E hr => (ss_cons (s_if (t_val (ED.n_l (e_isi2 (ty := "tuple") (ty2 := "list") (by decide) (by decide) rfl T.n_isinstance rfl T.n_tuple (by decide +kernel) rfl T.n_list (by decide +kernel) (ED.d_l (e_var (pv 1)))))) (ss_cons (s_if (t_w (w_or (t_cmp (cNe (hU64 hr)) (ED.n_l (e_isi (ty := "tuple") (by decide) rfl T.n_isinstance rfl T.n_tuple (by decide +kernel) (ED.d_l (e_var (pv 0))))) (ED.n_l (e_isi (ty := "tuple") (by decide) rfl T.n_isinstance rfl T.n_tuple (by decide +kernel) (ED.d_l (e_var (pv 1))))) (by with_unfolding_all rfl)) (w_or1 (t_cmp (cNe (hU64 hr)) (ED.n_l (e_isi (ty := "list") (by decide) rfl T.n_isinstance rfl T.n_list (by decide +kernel) (ED.d_l (e_var (pv 0))))) (ED.n_l (e_isi (ty := "list") (by decide) rfl T.n_isinstance rfl T.n_list (by decide +kernel) (ED.d_l (e_var (pv 1))))) (by with_unfolding_all rfl))))) (ss_one (s_ret (ED.n_d e_bl))) ss_nil) (ss_cons (s_if (t_cmp (cNe (hU64 hr)) (ED.n_l (e_blt c_len rfl T.n_len (by decide +kernel) (a_cons (ED.d_l (e_var (pv 0))) a_nil))) (ED.n_l (e_blt c_len rfl T.n_len (by decide +kernel) (a_cons (ED.d_l (e_var (pv 1))) a_nil))) (by with_unfolding_all rfl)) (ss_one (s_ret (ED.n_d e_bl))) ss_nil) (ss_one (s_ret (ED.n_d (e_blt (c_all rfl) rfl T.n_all (by decide +kernel) (a_cons (ED.n_l (e_lc (own := [("one", 2), ("other", 3)]) (L := [2, 3]) (g := gTup K 2 (gCons (gName 2) (gCons (gName 3) (gNil)))) (t := tgTup 2 (tgCons (tgN 2) (tgCons (tgN 3) (tgNil)))) rfl S.nd (i_zipG rfl T.n_zip (a_cons (e_var (pv 0)) (a_cons (e_var (pv 1)) a_nil))) (blkOk_by (by kernel_rfl)) (fun _ _ _ _ _ => (gd_tup rfl (gds_cons (gd_name (i := 2) S.nd rfl (Or.inl rfl)) (gds_cons (gd_name (i := 3) S.nd rfl (Or.inl rfl)) gds_nil)))) (fun _ _ _ _ _ => ts_nil) (fun _ _ _ _ _ => (e_call0 ih hr rfl T.g__law_is T.k__law_is T.b__law_is takes0N (a_cons (e_var (pv 2)) (a_cons (e_var (pv 3)) a_nil)) rfl)))) a_nil))))))) ss_nil) (ss_cons (s_if (t_w (w_or (t_cmp cIs (ED.d_l (e_var (pv 1))) (ED.n_l e_non) (by with_unfolding_all rfl)) (w_or1 (t_cmp cIs (ED.d_l (e_var (pv 0))) (ED.n_l e_non) (by with_unfolding_all rfl))))) (ss_one (s_ret (e_and (ED.n_d (e_cmp cIs (ED.d_l (e_var (pv 1))) (ED.n_l e_non) (by with_unfolding_all rfl))) (e_one (ED.n_d (e_cmp cIs (ED.d_l (e_var (pv 0))) (ED.n_l e_non) (by with_unfolding_all rfl))))))) ss_nil) (ss_cons (s_if (t_w (w_or (t_cmp (cNe (hU64 hr)) (ED.n_l (e_isi (ty := "bool") (by decide) rfl T.n_isinstance rfl T.n_bool (by decide +kernel) (ED.d_l (e_var (pv 0))))) (ED.n_l (e_isi (ty := "bool") (by decide) rfl T.n_isinstance rfl T.n_bool (by decide +kernel) (ED.d_l (e_var (pv 1))))) (by with_unfolding_all rfl)) (w_or1 (t_cmp (cNe (hU64 hr)) (ED.n_l (e_isi (ty := "int") (by decide) rfl T.n_isinstance rfl T.n_int (by decide +kernel) (ED.d_l (e_var (pv 0))))) (ED.n_l (e_isi (ty := "int") (by decide) rfl T.n_isinstance rfl T.n_int (by decide +kernel) (ED.d_l (e_var (pv 1))))) (by with_unfolding_all rfl))))) (ss_one (s_ret (ED.n_d e_bl))) ss_nil) (ss_one (s_ret (e_and (ED.n_d (e_cmp (cEq (hU64 hr)) (ED.n_l (e_isi (ty := "str") (by decide) rfl T.n_isinstance rfl T.n_str (by decide +kernel) (ED.d_l (e_var (pv 0))))) (ED.n_l (e_isi (ty := "str") (by decide) rfl T.n_isinstance rfl T.n_str (by decide +kernel) (ED.d_l (e_var (pv 1))))) (by with_unfolding_all rfl))) (e_one (ED.n_d (e_cmp (cEq (hU64 hr)) (ED.d_l (e_var (pv 0))) (ED.d_l (e_var (pv 1))) (by with_unfolding_all rfl))))))))))
theorem ok__law_is (T : Txt K mg base ad fd ca cc tp CL) : FnOk P w K mg base (L2N.CX P w) 8 (ad 26) (fd 26) ["said", "due"] (sp0 CL 2 d__law_is) := okr__law_is T 8
theorem sc__law_deep : FnScope ["hand", "found", "turn"] ["hand"] (defScope t__law_deep) := ⟨rfl, rfl, rfl, by decide +kernel, rfl, by decide +kernel, by decide +kernel⟩
theorem ok__law_deep (T : Txt K mg base ad fd ca cc tp CL) : FnOk P w K mg base (L2N.CX P w) 2 (ad 27) (fd 27) ["hand"] (sp1 TL CL 0 d__law_deep) := ok1 T.f__law_deep sc__law_deep rfl fun cdv A outer s H E hr => by
  have S := sc__law_deep
  exact (ss_cons (s_set (i := 1) S.nd rfl (Or.inl rfl) (ED.n_d e_str)) (ss_cons (s_for (passes_of rfl) rfl (i_range1 rfl T.n_range (a_cons (ED.n_l (e_add (ED.n_l e_int) (ED.d_l (e_call1 (ok__law_draw T) (hr.mono (by decide)) rfl T.g__law_draw T.k__law_draw T.b__law_draw (L2N.takes_of rfl rfl rfl rfl) (pv 0) (a_cons (ED.n_d e_int) a_nil) rfl)))) a_nil)) (gd_name (i := 2) S.nd rfl (Or.inl rfl)) (ss_one (s_set (i := 1) S.nd rfl (Or.inl rfl) (e_ix (hU1 hr) (ED.n_l (e_lst (a_cons (ED.n_d (e_tup (a_cons (e_var (pv 1)) a_nil))) (a_cons (ED.n_d (e_lst (a_cons (e_var (pv 1)) a_nil))) (a_cons (ED.n_d (e_dict1 (kc := .inl 0) pe_int (e_var (pv 1)))) a_nil))))) (ED.d_l (e_call1 (ok__law_draw T) (hr.mono (by decide)) rfl T.g__law_draw T.k__law_draw T.b__law_draw (L2N.takes_of rfl rfl rfl rfl) (pv 0) (a_cons (ED.n_d e_int) a_nil) rfl)))))) (ss_one (s_ret (e_var (pv 1))))))
theorem sc__law_frac : FnScope ["top", "bottom", "one", "other"] ["top", "bottom"] (defScope t__law_frac) := ⟨rfl, rfl, rfl, by decide +kernel, rfl, by decide +kernel, by decide +kernel⟩
theorem ok__law_frac (T : Txt K mg base ad fd ca cc tp CL) : FnOk P w K mg base (L2N.CX P w) 1 (ad 28) (fd 28) ["top", "bottom"] (sp0 CL 2 d__law_frac) := ok0 (T := []) T.f__law_frac sc__law_frac rfl fun cdv A outer s H E hr => by
  have S := sc__law_frac
  exact (ss_cons (s_par (i := 2) (j := 3) rfl S.nd rfl rfl (by decide) rfl rfl (ag_d (ED.n_d (e_blt c_abs rfl T.n_abs (by decide +kernel) (a_cons (ED.d_l (e_var (pv 0))) a_nil))) (ag_d (e_var (pv 1)) ag_nil)) rfl) (ss_cons (s_while (passes_of rfl) (t_cmp cGt (ED.d_l (e_var (pv 2))) (ED.n_l e_int) (by with_unfolding_all rfl)) (ss_one (s_par (i := 2) (j := 3) rfl S.nd rfl rfl (by decide) rfl rfl (ag_d (ED.n_d (e_mod (ED.n_l (e_bty c_int rfl T.n_int (by decide +kernel) (a_cons (ED.d_l (e_var (pv 3))) a_nil))) (ED.d_l (e_var (pv 2))))) (ag_d (e_var (pv 2)) ag_nil)) rfl))) (ss_one (s_ret (ED.n_d (e_tup (a_cons (ED.n_d (e_fdiv (ED.d_l (e_var (pv 0))) (ED.d_l (e_var (pv 3))))) (a_cons (ED.n_d (e_fdiv (ED.d_l (e_var (pv 1))) (ED.d_l (e_var (pv 3))))) a_nil))))))))
theorem sc__law_add : FnScope ["one", "other"] ["one", "other"] (defScope t__law_add) := ⟨rfl, rfl, rfl, by decide +kernel, rfl, by decide +kernel, by decide +kernel⟩
theorem ok__law_add (T : Txt K mg base ad fd ca cc tp CL) : FnOk P w K mg base (L2N.CX P w) 2 (ad 29) (fd 29) ["one", "other"] (sp0 CL 2 d__law_add) := ok0 (T := []) T.f__law_add sc__law_add rfl fun cdv A outer s H E hr => by
  have S := sc__law_add
  exact (ss_one (s_ret (e_call0 (ok__law_frac T) (hr.mono (by decide)) rfl T.g__law_frac T.k__law_frac T.b__law_frac (L2N.takes_of rfl rfl rfl rfl) (a_cons (ED.n_d (e_add (ED.n_l (e_mul (ED.d_l (e_ix (hU1 hr) (ED.d_l (e_var (pv 0))) (ED.n_l e_int))) (ED.d_l (e_ix (hU1 hr) (ED.d_l (e_var (pv 1))) (ED.n_l e_int))))) (ED.n_l (e_mul (ED.d_l (e_ix (hU1 hr) (ED.d_l (e_var (pv 1))) (ED.n_l e_int))) (ED.d_l (e_ix (hU1 hr) (ED.d_l (e_var (pv 0))) (ED.n_l e_int))))))) (a_cons (ED.n_d (e_mul (ED.d_l (e_ix (hU1 hr) (ED.d_l (e_var (pv 0))) (ED.n_l e_int))) (ED.d_l (e_ix (hU1 hr) (ED.d_l (e_var (pv 1))) (ED.n_l e_int))))) a_nil)) rfl)))
theorem sc__law_mul : FnScope ["one", "other"] ["one", "other"] (defScope t__law_mul) := ⟨rfl, rfl, rfl, by decide +kernel, rfl, by decide +kernel, by decide +kernel⟩
theorem ok__law_mul (T : Txt K mg base ad fd ca cc tp CL) : FnOk P w K mg base (L2N.CX P w) 2 (ad 30) (fd 30) ["one", "other"] (sp0 CL 2 d__law_mul) := ok0 (T := []) T.f__law_mul sc__law_mul rfl fun cdv A outer s H E hr => by
  have S := sc__law_mul
  exact (ss_one (s_ret (e_call0 (ok__law_frac T) (hr.mono (by decide)) rfl T.g__law_frac T.k__law_frac T.b__law_frac (L2N.takes_of rfl rfl rfl rfl) (a_cons (ED.n_d (e_mul (ED.d_l (e_ix (hU1 hr) (ED.d_l (e_var (pv 0))) (ED.n_l e_int))) (ED.d_l (e_ix (hU1 hr) (ED.d_l (e_var (pv 1))) (ED.n_l e_int))))) (a_cons (ED.n_d (e_mul (ED.d_l (e_ix (hU1 hr) (ED.d_l (e_var (pv 0))) (ED.n_l e_int))) (ED.d_l (e_ix (hU1 hr) (ED.d_l (e_var (pv 1))) (ED.n_l e_int))))) a_nil)) rfl)))
theorem sc__law_less : FnScope ["one", "other"] ["one", "other"] (defScope t__law_less) := ⟨rfl, rfl, rfl, by decide +kernel, rfl, by decide +kernel, by decide +kernel⟩
theorem ok__law_less (T : Txt K mg base ad fd ca cc tp CL) : FnOk P w K mg base (L2N.CX P w) 1 (ad 31) (fd 31) ["one", "other"] (sp0 CL 2 d__law_less) := ok0 (T := []) T.f__law_less sc__law_less rfl fun cdv A outer s H E hr => by
  have S := sc__law_less
  exact (ss_one (s_ret (ED.n_d (e_cmp cLt (ED.n_l (e_mul (ED.d_l (e_ix (hU1 hr) (ED.d_l (e_var (pv 0))) (ED.n_l e_int))) (ED.d_l (e_ix (hU1 hr) (ED.d_l (e_var (pv 1))) (ED.n_l e_int))))) (ED.n_l (e_mul (ED.d_l (e_ix (hU1 hr) (ED.d_l (e_var (pv 1))) (ED.n_l e_int))) (ED.d_l (e_ix (hU1 hr) (ED.d_l (e_var (pv 0))) (ED.n_l e_int))))) (by with_unfolding_all rfl)))))
theorem sc__law_weights : FnScope ["hand", "most", "low", "top", "one"] ["hand", "most", "low"] (defScope t__law_weights) := ⟨rfl, rfl, rfl, by decide +kernel, rfl, by decide +kernel, by decide +kernel⟩
theorem ok__law_weights (T : Txt K mg base ad fd ca cc tp CL) : FnOk P w K mg base (L2N.CX P w) 3 (ad 32) (fd 32) ["hand", "most", "low"] (sp1 TL CL 2 d__law_weights) := ok1 T.f__law_weights sc__law_weights rfl fun cdv A outer s H E hr => by
  have S := sc__law_weights
  exact (ss_cons (s_set (i := 3) S.nd rfl (Or.inr rfl) (e_call1 (ok__law_any T) (hr.mono (by decide)) rfl T.g__law_any T.k__law_any T.b__law_any (L2N.takes_of rfl rfl rfl rfl) (pv 0) (a_cons (ED.n_d (e_lst (a_cons (ED.n_d e_int) (a_cons (ED.n_d e_int) (a_cons (ED.n_d e_int) (a_cons (ED.n_d (e_sub (ED.n_l (e_pow (ED.n_l e_int) (ED.n_l e_int))) (ED.n_l e_int))) a_nil)))))) a_nil) rfl)) (ss_one (s_ret (ED.n_d (e_bty c_tuple rfl T.n_tuple (by decide +kernel) (a_cons (ED.n_l (e_lc (own := [("one", 4)]) (L := [4]) (g := gName 4) (t := tgN 4) rfl S.nd (i_range1 rfl T.n_range (a_cons (ED.n_l (e_add (ED.n_l e_int) (ED.d_l (e_call1 (ok__law_draw T) (hr.mono (by decide)) rfl T.g__law_draw T.k__law_draw T.b__law_draw (L2N.takes_of rfl rfl rfl rfl) (pv 0) (a_cons (e_var (pv 1)) a_nil) rfl)))) a_nil)) (blkOk_by (by kernel_rfl)) (fun _ _ _ _ _ => (gd_name (i := 4) S.nd rfl (Or.inl rfl))) (fun _ _ _ _ _ => ts_nil) (fun _ _ _ _ _ => (ED.n_d (e_add (ED.d_l (e_var (pv 2))) (ED.d_l (e_call1 (ok__law_draw T) (hr.mono (by decide)) rfl T.g__law_draw T.k__law_draw T.b__law_draw takes0N (pv 0) (a_cons (e_var (pv 3)) a_nil) rfl))))))) a_nil))))))
theorem sc__law_heard : FnScope ["call", "error", "some", "said", "word", "is_one"] ["call"] (defScope t__law_heard) := ⟨rfl, rfl, rfl, by decide +kernel, rfl, by decide +kernel, by decide +kernel⟩
theorem gives__law_heard {X : Cx} {cdg : Value} (hK : X.K = K) (hmg : X.mg = mg) (T : Txt K mg base ad fd ca cc tp CL) (hr : Room 1 X.A) (qn : Str) : GivesN X ["call", "error", "some", "said", "word", "is_one"] "_law_heard" (defScope t__law_heard) (ad 33) cdg (defBody t__law_heard) "call" qn (TTh CL "let" wd__law_heard) := by
  subst hK; subst hmg
  refine heard_givesN (ie := 1) (err := "error") (ce := "ShortError") (fs := fs__law_heard) (CS := ca 0) (by decide +kernel) rfl rfl (by decide) rfl T.ct__law_heard (by decide) (fun _ => rfl) (fun _ => rfl) (fun n C w hC hw => ?_) (fun s H ea oe C pn n w hC hw hz hf => ?_) fs_den__law_heard
  · unfold wd__law_heard at hw
    split at hw
    · rename_i hn; subst hn; rw [T.l_BadBits] at hC; cases hC; exact T.xm__law_heard_BadBits
    split at hw
    · rename_i hn; subst hn; rw [T.l_BadNumber] at hC; cases hC; exact T.xm__law_heard_BadNumber
    split at hw
    · rename_i hn; subst hn; rw [T.l_BadShare] at hC; cases hC; exact T.xm__law_heard_BadShare
    split at hw
    · rename_i hn; subst hn; rw [T.l_BadWeights] at hC; cases hC; exact T.xm__law_heard_BadWeights
    cases hw
  · have hr := hr.deeper (envOfC "_law_heard" (defScope t__law_heard) s.heap.objs.size (ad 33) cdg)
    have S := sc__law_heard
    have hcs := hot_suite (ea := ea) (Y := (cxOf C8.CX0 X.prog X.w X.K X.mg X.base ["call", "error", "some", "said", "word", "is_one"] "_law_heard" (defScope t__law_heard) (ad 33) cdg X.A X.stack s H C8.E0).nox) (pn := pn) hz hf
    unfold wd__law_heard at hw
    unfold fs__law_heard
    split at hw
    · rename_i hn; subst hn; rw [T.l_BadBits] at hC; cases hC; rw [if_pos rfl]; exact (ss_cons (s_setO (i := 2) S.nd rfl (Or.inl rfl) (e_lst a_nil)) (ss_cons (s_dropM (m_meth1 PySem.F.slot_list_append PySem.F.type_list_append mt_append mut_append (pv 2) (m_of (ED.n_d (e_tup (a_cons (ED.n_d e_str) (a_cons (ED.n_d (e_isE T.ec_BadBits hz.zc hf rfl T.n_isinstance (pv 1) rfl T.c_BadWeights T.ki_BadBits_BadWeights)) a_nil))))))) (ss_cons (s_dropM (m_meth1 PySem.F.slot_list_append PySem.F.type_list_append mt_append mut_append (pv 2) (m_of (ED.n_d (e_tup (a_cons (ED.n_d e_str) (a_cons (ED.n_d (e_isE T.ec_BadBits hz.zc hf rfl T.n_isinstance (pv 1) rfl T.c_BadShare T.ki_BadBits_BadShare)) a_nil))))))) (ss_cons (s_dropM (m_meth1 PySem.F.slot_list_append PySem.F.type_list_append mt_append mut_append (pv 2) (m_of (ED.n_d (e_tup (a_cons (ED.n_d e_str) (a_cons (ED.n_d (e_isE T.ec_BadBits hz.zc hf rfl T.n_isinstance (pv 1) rfl T.c_BadBits T.ki_BadBits_BadBits)) a_nil))))))) (ss_cons (s_dropM (m_meth1 PySem.F.slot_list_append PySem.F.type_list_append mt_append mut_append (pv 2) (m_of (ED.n_d (e_tup (a_cons (ED.n_d e_str) (a_cons (ED.n_d (e_isE T.ec_BadBits hz.zc hf rfl T.n_isinstance (pv 1) rfl T.c_BadNumber T.ki_BadBits_BadNumber)) a_nil))))))) (ss_frz1 (i := 2) (ss_cons (s_setLcH (i := 3) (own := [("word", 4), ("is_one", 5)]) (L := [4, 5]) (g := gTup X.K 2 (gCons (gName 4) (gCons (gName 5) (gNil)))) (t := tgTup 2 (tgCons (tgN 4) (tgCons (tgN 5) (tgNil)))) hcs rfl rfl S.nd rfl rfl (sw_true rfl rfl rfl (by decide +kernel)) (i_listD (e_var (pv 2))) (blkOk_by (by kernel_rfl)) (fun _ _ _ _ _ => (gd_tupH hcs (gds_cons (gd_name (i := 4) S.nd rfl (Or.inl rfl)) (gds_cons (gd_name (i := 5) S.nd rfl (Or.inl rfl)) gds_nil)))) (fun _ _ _ _ _ => (ts_one (t_w (w_and (t_val (ED.d_l (e_var (pv 5)))) (w_and1 (t_val (ED.n_l (e_isEbH (ty := "ValueError") T.ec_BadBits hz.zc hf rfl T.n_isinstance (pv 1) rfl T.n_ValueError (by decide +kernel) T.kb_BadBits_ValueError)))))))) (fun _ _ _ _ _ => (e_var (pv 4)))) (ss_cons (s_if (t_cmp (cNe (hU64m hr)) (ED.n_l (e_blt c_len rfl T.n_len (by decide +kernel) (a_cons (ED.d_l (e_var (pv 3))) a_nil))) (ED.n_l e_int) (by with_unfolding_all rfl)) (ss_one (s_ret (ED.n_d e_str))) ss_nil) (ss_one (s_ret (e_ix (hU1m hr) (ED.d_l (e_var (pv 3))) (ED.n_l e_int))))))))))))
    rename_i hx; rw [if_neg hx]; clear hx
    split at hw
    · rename_i hn; subst hn; rw [T.l_BadNumber] at hC; cases hC; rw [if_pos rfl]; exact (ss_cons (s_setO (i := 2) S.nd rfl (Or.inl rfl) (e_lst a_nil)) (ss_cons (s_dropM (m_meth1 PySem.F.slot_list_append PySem.F.type_list_append mt_append mut_append (pv 2) (m_of (ED.n_d (e_tup (a_cons (ED.n_d e_str) (a_cons (ED.n_d (e_isE T.ec_BadNumber hz.zc hf rfl T.n_isinstance (pv 1) rfl T.c_BadWeights T.ki_BadNumber_BadWeights)) a_nil))))))) (ss_cons (s_dropM (m_meth1 PySem.F.slot_list_append PySem.F.type_list_append mt_append mut_append (pv 2) (m_of (ED.n_d (e_tup (a_cons (ED.n_d e_str) (a_cons (ED.n_d (e_isE T.ec_BadNumber hz.zc hf rfl T.n_isinstance (pv 1) rfl T.c_BadShare T.ki_BadNumber_BadShare)) a_nil))))))) (ss_cons (s_dropM (m_meth1 PySem.F.slot_list_append PySem.F.type_list_append mt_append mut_append (pv 2) (m_of (ED.n_d (e_tup (a_cons (ED.n_d e_str) (a_cons (ED.n_d (e_isE T.ec_BadNumber hz.zc hf rfl T.n_isinstance (pv 1) rfl T.c_BadBits T.ki_BadNumber_BadBits)) a_nil))))))) (ss_cons (s_dropM (m_meth1 PySem.F.slot_list_append PySem.F.type_list_append mt_append mut_append (pv 2) (m_of (ED.n_d (e_tup (a_cons (ED.n_d e_str) (a_cons (ED.n_d (e_isE T.ec_BadNumber hz.zc hf rfl T.n_isinstance (pv 1) rfl T.c_BadNumber T.ki_BadNumber_BadNumber)) a_nil))))))) (ss_frz1 (i := 2) (ss_cons (s_setLcH (i := 3) (own := [("word", 4), ("is_one", 5)]) (L := [4, 5]) (g := gTup X.K 2 (gCons (gName 4) (gCons (gName 5) (gNil)))) (t := tgTup 2 (tgCons (tgN 4) (tgCons (tgN 5) (tgNil)))) hcs rfl rfl S.nd rfl rfl (sw_true rfl rfl rfl (by decide +kernel)) (i_listD (e_var (pv 2))) (blkOk_by (by kernel_rfl)) (fun _ _ _ _ _ => (gd_tupH hcs (gds_cons (gd_name (i := 4) S.nd rfl (Or.inl rfl)) (gds_cons (gd_name (i := 5) S.nd rfl (Or.inl rfl)) gds_nil)))) (fun _ _ _ _ _ => (ts_one (t_w (w_and (t_val (ED.d_l (e_var (pv 5)))) (w_and1 (t_val (ED.n_l (e_isEbH (ty := "ValueError") T.ec_BadNumber hz.zc hf rfl T.n_isinstance (pv 1) rfl T.n_ValueError (by decide +kernel) T.kb_BadNumber_ValueError)))))))) (fun _ _ _ _ _ => (e_var (pv 4)))) (ss_cons (s_if (t_cmp (cNe (hU64m hr)) (ED.n_l (e_blt c_len rfl T.n_len (by decide +kernel) (a_cons (ED.d_l (e_var (pv 3))) a_nil))) (ED.n_l e_int) (by with_unfolding_all rfl)) (ss_one (s_ret (ED.n_d e_str))) ss_nil) (ss_one (s_ret (e_ix (hU1m hr) (ED.d_l (e_var (pv 3))) (ED.n_l e_int))))))))))))
    rename_i hx; rw [if_neg hx]; clear hx
    split at hw
    · rename_i hn; subst hn; rw [T.l_BadShare] at hC; cases hC; rw [if_pos rfl]; exact (ss_cons (s_setO (i := 2) S.nd rfl (Or.inl rfl) (e_lst a_nil)) (ss_cons (s_dropM (m_meth1 PySem.F.slot_list_append PySem.F.type_list_append mt_append mut_append (pv 2) (m_of (ED.n_d (e_tup (a_cons (ED.n_d e_str) (a_cons (ED.n_d (e_isE T.ec_BadShare hz.zc hf rfl T.n_isinstance (pv 1) rfl T.c_BadWeights T.ki_BadShare_BadWeights)) a_nil))))))) (ss_cons (s_dropM (m_meth1 PySem.F.slot_list_append PySem.F.type_list_append mt_append mut_append (pv 2) (m_of (ED.n_d (e_tup (a_cons (ED.n_d e_str) (a_cons (ED.n_d (e_isE T.ec_BadShare hz.zc hf rfl T.n_isinstance (pv 1) rfl T.c_BadShare T.ki_BadShare_BadShare)) a_nil))))))) (ss_cons (s_dropM (m_meth1 PySem.F.slot_list_append PySem.F.type_list_append mt_append mut_append (pv 2) (m_of (ED.n_d (e_tup (a_cons (ED.n_d e_str) (a_cons (ED.n_d (e_isE T.ec_BadShare hz.zc hf rfl T.n_isinstance (pv 1) rfl T.c_BadBits T.ki_BadShare_BadBits)) a_nil))))))) (ss_cons (s_dropM (m_meth1 PySem.F.slot_list_append PySem.F.type_list_append mt_append mut_append (pv 2) (m_of (ED.n_d (e_tup (a_cons (ED.n_d e_str) (a_cons (ED.n_d (e_isE T.ec_BadShare hz.zc hf rfl T.n_isinstance (pv 1) rfl T.c_BadNumber T.ki_BadShare_BadNumber)) a_nil))))))) (ss_frz1 (i := 2) (ss_cons (s_setLcH (i := 3) (own := [("word", 4), ("is_one", 5)]) (L := [4, 5]) (g := gTup X.K 2 (gCons (gName 4) (gCons (gName 5) (gNil)))) (t := tgTup 2 (tgCons (tgN 4) (tgCons (tgN 5) (tgNil)))) hcs rfl rfl S.nd rfl rfl (sw_true rfl rfl rfl (by decide +kernel)) (i_listD (e_var (pv 2))) (blkOk_by (by kernel_rfl)) (fun _ _ _ _ _ => (gd_tupH hcs (gds_cons (gd_name (i := 4) S.nd rfl (Or.inl rfl)) (gds_cons (gd_name (i := 5) S.nd rfl (Or.inl rfl)) gds_nil)))) (fun _ _ _ _ _ => (ts_one (t_w (w_and (t_val (ED.d_l (e_var (pv 5)))) (w_and1 (t_val (ED.n_l (e_isEbH (ty := "ValueError") T.ec_BadShare hz.zc hf rfl T.n_isinstance (pv 1) rfl T.n_ValueError (by decide +kernel) T.kb_BadShare_ValueError)))))))) (fun _ _ _ _ _ => (e_var (pv 4)))) (ss_cons (s_if (t_cmp (cNe (hU64m hr)) (ED.n_l (e_blt c_len rfl T.n_len (by decide +kernel) (a_cons (ED.d_l (e_var (pv 3))) a_nil))) (ED.n_l e_int) (by with_unfolding_all rfl)) (ss_one (s_ret (ED.n_d e_str))) ss_nil) (ss_one (s_ret (e_ix (hU1m hr) (ED.d_l (e_var (pv 3))) (ED.n_l e_int))))))))))))
    rename_i hx; rw [if_neg hx]; clear hx
    split at hw
    · rename_i hn; subst hn; rw [T.l_BadWeights] at hC; cases hC; rw [if_pos rfl]; exact (ss_cons (s_setO (i := 2) S.nd rfl (Or.inl rfl) (e_lst a_nil)) (ss_cons (s_dropM (m_meth1 PySem.F.slot_list_append PySem.F.type_list_append mt_append mut_append (pv 2) (m_of (ED.n_d (e_tup (a_cons (ED.n_d e_str) (a_cons (ED.n_d (e_isE T.ec_BadWeights hz.zc hf rfl T.n_isinstance (pv 1) rfl T.c_BadWeights T.ki_BadWeights_BadWeights)) a_nil))))))) (ss_cons (s_dropM (m_meth1 PySem.F.slot_list_append PySem.F.type_list_append mt_append mut_append (pv 2) (m_of (ED.n_d (e_tup (a_cons (ED.n_d e_str) (a_cons (ED.n_d (e_isE T.ec_BadWeights hz.zc hf rfl T.n_isinstance (pv 1) rfl T.c_BadShare T.ki_BadWeights_BadShare)) a_nil))))))) (ss_cons (s_dropM (m_meth1 PySem.F.slot_list_append PySem.F.type_list_append mt_append mut_append (pv 2) (m_of (ED.n_d (e_tup (a_cons (ED.n_d e_str) (a_cons (ED.n_d (e_isE T.ec_BadWeights hz.zc hf rfl T.n_isinstance (pv 1) rfl T.c_BadBits T.ki_BadWeights_BadBits)) a_nil))))))) (ss_cons (s_dropM (m_meth1 PySem.F.slot_list_append PySem.F.type_list_append mt_append mut_append (pv 2) (m_of (ED.n_d (e_tup (a_cons (ED.n_d e_str) (a_cons (ED.n_d (e_isE T.ec_BadWeights hz.zc hf rfl T.n_isinstance (pv 1) rfl T.c_BadNumber T.ki_BadWeights_BadNumber)) a_nil))))))) (ss_frz1 (i := 2) (ss_cons (s_setLcH (i := 3) (own := [("word", 4), ("is_one", 5)]) (L := [4, 5]) (g := gTup X.K 2 (gCons (gName 4) (gCons (gName 5) (gNil)))) (t := tgTup 2 (tgCons (tgN 4) (tgCons (tgN 5) (tgNil)))) hcs rfl rfl S.nd rfl rfl (sw_true rfl rfl rfl (by decide +kernel)) (i_listD (e_var (pv 2))) (blkOk_by (by kernel_rfl)) (fun _ _ _ _ _ => (gd_tupH hcs (gds_cons (gd_name (i := 4) S.nd rfl (Or.inl rfl)) (gds_cons (gd_name (i := 5) S.nd rfl (Or.inl rfl)) gds_nil)))) (fun _ _ _ _ _ => (ts_one (t_w (w_and (t_val (ED.d_l (e_var (pv 5)))) (w_and1 (t_val (ED.n_l (e_isEbH (ty := "ValueError") T.ec_BadWeights hz.zc hf rfl T.n_isinstance (pv 1) rfl T.n_ValueError (by decide +kernel) T.kb_BadWeights_ValueError)))))))) (fun _ _ _ _ _ => (e_var (pv 4)))) (ss_cons (s_if (t_cmp (cNe (hU64m hr)) (ED.n_l (e_blt c_len rfl T.n_len (by decide +kernel) (a_cons (ED.d_l (e_var (pv 3))) a_nil))) (ED.n_l e_int) (by with_unfolding_all rfl)) (ss_one (s_ret (ED.n_d e_str))) ss_nil) (ss_one (s_ret (e_ix (hU1m hr) (ED.d_l (e_var (pv 3))) (ED.n_l e_int))))))))))))
    cases hw
theorem sc__law_shares : FnScope ["weights", "found", "here", "whole", "weight"] ["weights"] (defScope t__law_shares) := ⟨rfl, rfl, rfl, by decide +kernel, rfl, by decide +kernel, by decide +kernel⟩
theorem ok__law_shares (T : Txt K mg base ad fd ca cc tp CL) : FnOk P w K mg base (L2N.CX P w) 2 (ad 34) (fd 34) ["weights"] (sp0 CL 1 d__law_shares) := ok0 (T := []) T.f__law_shares sc__law_shares rfl fun cdv A outer s H E hr => by
  have S := sc__law_shares
  exact (ss_cons (s_par3 (i := 1) (j := 2) (l := 3) rfl S.nd rfl rfl rfl (by decide) (by decide) (by decide) rfl rfl rfl (ag_o (e_lst a_nil) (ag_d (ED.n_d e_int) (ag_d (ED.n_d (e_blt (c_sum rfl) rfl T.n_sum (by decide +kernel) (a_cons (ED.d_l (e_var (pv 0))) a_nil))) ag_nil))) rfl) (ss_cons (s_for (passes_of rfl) rfl (i_any (e_var (pv 0))) (gd_name (i := 4) S.nd rfl (Or.inl rfl)) (ss_cons (s_dropM (m_meth1 PySem.F.slot_list_append PySem.F.type_list_append mt_append mut_append (pv 1) (m_of (ED.n_d (e_tup (a_cons (e_call0 (ok__law_frac T) (hr.mono (by decide)) rfl T.g__law_frac T.k__law_frac T.b__law_frac (L2N.takes_of rfl rfl rfl rfl) (a_cons (e_var (pv 2)) (a_cons (e_var (pv 3)) a_nil)) rfl) (a_cons (e_call0 (ok__law_frac T) (hr.mono (by decide)) rfl T.g__law_frac T.k__law_frac T.b__law_frac (L2N.takes_of rfl rfl rfl rfl) (a_cons (ED.n_d (e_add (ED.d_l (e_var (pv 2))) (ED.d_l (e_var (pv 4))))) (a_cons (e_var (pv 3)) a_nil)) rfl) a_nil))))))) (ss_one (s_set (i := 2) S.nd rfl (Or.inl rfl) (ED.n_d (e_add (ED.d_l (e_var (pv 2))) (ED.d_l (e_var (pv 4))))))))) (ss_one (s_ret (e_var (pv 1))))))
theorem sc__law_first_bits : FnScope ["point", "size", "found", "top", "bottom", "turn"] ["point", "size"] (defScope t__law_first_bits) := ⟨rfl, rfl, rfl, by decide +kernel, rfl, by decide +kernel, by decide +kernel⟩
theorem ok__law_first_bits (T : Txt K mg base ad fd ca cc tp CL) : FnOk P w K mg base (L2N.CX P w) 1 (ad 35) (fd 35) ["point", "size"] (sp0 CL 2 d__law_first_bits) := ok0 (T := []) T.f__law_first_bits sc__law_first_bits rfl fun cdv A outer s H E hr => by
  have S := sc__law_first_bits
  exact (ss_cons (s_asg (ED.n_d (e_tup (a_cons (ED.n_d e_str) (a_cons (e_var (pv 0)) a_nil)))) (gd_tup rfl (gds_cons (gd_name (i := 2) S.nd rfl (Or.inl rfl)) (gds_cons (gd_tup rfl (gds_cons (gd_name (i := 3) S.nd rfl (Or.inl rfl)) (gds_cons (gd_name (i := 4) S.nd rfl (Or.inl rfl)) gds_nil))) gds_nil)))) (ss_cons (s_for (passes_of rfl) rfl (i_range1 rfl T.n_range (a_cons (ED.d_l (e_var (pv 1))) a_nil)) (gd_name (i := 5) S.nd rfl (Or.inl rfl)) (ss_cons (s_set (i := 3) S.nd rfl (Or.inl rfl) (ED.n_d (e_mul (ED.n_l e_int) (ED.d_l (e_var (pv 3)))))) (ss_cons (s_set (i := 2) S.nd rfl (Or.inl rfl) (ED.n_d (e_add (ED.d_l (e_var (pv 2))) (ED.n_l (e_bty c_str rfl T.n_str (by decide +kernel) (a_cons (ED.n_l (e_fdiv (ED.d_l (e_var (pv 3))) (ED.d_l (e_var (pv 4))))) a_nil)))))) (ss_one (s_set (i := 3) S.nd rfl (Or.inl rfl) (ED.n_d (e_mod (ED.n_l (e_bty c_int rfl T.n_int (by decide +kernel) (a_cons (ED.d_l (e_var (pv 3))) a_nil))) (ED.d_l (e_var (pv 4)))))))))) (ss_one (s_ret (e_var (pv 2))))))
theorem sc__law_value : FnScope ["bits", "found", "bit"] ["bits"] (defScope t__law_value) := ⟨rfl, rfl, rfl, by decide +kernel, rfl, by decide +kernel, by decide +kernel⟩
theorem ok__law_value (T : Txt K mg base ad fd ca cc tp CL) : FnOk P w K mg base (L2N.CX P w) 1 (ad 36) (fd 36) ["bits"] (sp0 CL 1 d__law_value) := ok0 (T := []) T.f__law_value sc__law_value rfl fun cdv A outer s H E hr => by
  have S := sc__law_value
  exact (ss_cons (s_set (i := 1) S.nd rfl (Or.inl rfl) (ED.n_d e_int)) (ss_cons (s_for (passes_of rfl) rfl (i_any (e_var (pv 0))) (gd_name (i := 2) S.nd rfl (Or.inl rfl)) (ss_one (s_set (i := 1) S.nd rfl (Or.inl rfl) (ED.n_d (e_add (ED.n_l (e_mul (ED.n_l e_int) (ED.d_l (e_var (pv 1))))) (ED.n_l (e_bty c_int rfl T.n_int (by decide +kernel) (a_cons (ED.d_l (e_var (pv 2))) a_nil)))))))) (ss_one (s_ret (e_var (pv 1))))))
theorem sc__law_span : FnScope ["bits", "size", "bit"] ["bits"] (defScope t__law_span) := ⟨rfl, rfl, rfl, by decide +kernel, rfl, by decide +kernel, by decide +kernel⟩
theorem ok__law_span (T : Txt K mg base ad fd ca cc tp CL) : FnOk P w K mg base (L2N.CX P w) 2 (ad 37) (fd 37) ["bits"] (sp0 CL 1 d__law_span) := ok0 (T := []) T.f__law_span sc__law_span rfl fun cdv A outer s H E hr => by
  have S := sc__law_span
  exact (ss_cons (s_set (i := 1) S.nd rfl (Or.inl rfl) (ED.n_d e_int)) (ss_cons (s_for (passes_of rfl) rfl (i_any (e_var (pv 0))) (gd_name (i := 2) S.nd rfl (Or.inl rfl)) (ss_one (s_set (i := 1) S.nd rfl (Or.inl rfl) (ED.n_d (e_mul (ED.n_l e_int) (ED.d_l (e_var (pv 1)))))))) (ss_one (s_ret (ED.n_d (e_tup (a_cons (e_call0 (ok__law_frac T) (hr.mono (by decide)) rfl T.g__law_frac T.k__law_frac T.b__law_frac (L2N.takes_of rfl rfl rfl rfl) (a_cons (e_call0 (ok__law_value T) (hr.mono (by decide)) rfl T.g__law_value T.k__law_value T.b__law_value (L2N.takes_of rfl rfl rfl rfl) (a_cons (e_var (pv 0)) a_nil) rfl) (a_cons (e_var (pv 1)) a_nil)) rfl) (a_cons (e_call0 (ok__law_frac T) (hr.mono (by decide)) rfl T.g__law_frac T.k__law_frac T.b__law_frac (L2N.takes_of rfl rfl rfl rfl) (a_cons (ED.n_d (e_add (ED.d_l (e_call0 (ok__law_value T) (hr.mono (by decide)) rfl T.g__law_value T.k__law_value T.b__law_value (L2N.takes_of rfl rfl rfl rfl) (a_cons (e_var (pv 0)) a_nil) rfl)) (ED.n_l e_int))) (a_cons (e_var (pv 1)) a_nil)) rfl) a_nil))))))))
theorem sc__law_least_word : FnScope ["share", "low", "high", "size", "many", "turn", "first", "found"] ["share"] (defScope t__law_least_word) := ⟨rfl, rfl, rfl, by decide +kernel, rfl, by decide +kernel, by decide +kernel⟩
theorem ok__law_least_word (T : Txt K mg base ad fd ca cc tp CL) : FnOk P w K mg base (L2N.CX P w) 1 (ad 38) (fd 38) ["share"] (sp0 CL 1 d__law_least_word) := ok0 (T := []) T.f__law_least_word sc__law_least_word rfl fun cdv A outer s H E hr => by
  have S := sc__law_least_word
  exact (ss_cons (s_asg (e_var (pv 0)) (gd_tup rfl (gds_cons (gd_name (i := 1) S.nd rfl (Or.inl rfl)) (gds_cons (gd_name (i := 2) S.nd rfl (Or.inl rfl)) gds_nil)))) (ss_cons (s_for (passes_of rfl) rfl (i_range1 rfl T.n_range (a_cons (ED.n_l e_int) a_nil)) (gd_name (i := 3) S.nd rfl (Or.inl rfl)) (ss_cons (s_set (i := 4) S.nd rfl (Or.inl rfl) (ED.n_d e_int)) (ss_cons (s_for (passes_of rfl) rfl (i_range1 rfl T.n_range (a_cons (ED.d_l (e_var (pv 3))) a_nil)) (gd_name (i := 5) S.nd rfl (Or.inl rfl)) (ss_one (s_set (i := 4) S.nd rfl (Or.inl rfl) (ED.n_d (e_mul (ED.n_l e_int) (ED.d_l (e_var (pv 4)))))))) (ss_cons (s_set (i := 6) S.nd rfl (Or.inl rfl) (ED.n_d (e_fdiv (ED.n_l (e_sub (ED.n_l (e_add (ED.n_l (e_mul (ED.d_l (e_ix (hU1 hr) (ED.d_l (e_var (pv 1))) (ED.n_l e_int))) (ED.d_l (e_var (pv 4))))) (ED.d_l (e_ix (hU1 hr) (ED.d_l (e_var (pv 1))) (ED.n_l e_int))))) (ED.n_l e_int))) (ED.d_l (e_ix (hU1 hr) (ED.d_l (e_var (pv 1))) (ED.n_l e_int)))))) (ss_one (s_if (t_cmp cLe (ED.n_l (e_mul (ED.n_l (e_add (ED.d_l (e_var (pv 6))) (ED.n_l e_int))) (ED.d_l (e_ix (hU1 hr) (ED.d_l (e_var (pv 2))) (ED.n_l e_int))))) (ED.n_l (e_mul (ED.d_l (e_ix (hU1 hr) (ED.d_l (e_var (pv 2))) (ED.n_l e_int))) (ED.d_l (e_var (pv 4))))) (by with_unfolding_all rfl)) (ss_cons (s_set (i := 7) S.nd rfl (Or.inl rfl) (ED.n_d e_str)) (ss_cons (s_for (passes_of rfl) rfl (i_range1 rfl T.n_range (a_cons (ED.d_l (e_var (pv 3))) a_nil)) (gd_name (i := 5) S.nd rfl (Or.inl rfl)) (ss_one (s_par (i := 7) (j := 6) rfl S.nd rfl rfl (by decide) rfl rfl (ag_d (ED.n_d (e_add (ED.n_l (e_bty c_str rfl T.n_str (by decide +kernel) (a_cons (ED.n_l (e_mod (ED.n_l (e_bty c_int rfl T.n_int (by decide +kernel) (a_cons (ED.d_l (e_var (pv 6))) a_nil))) (ED.n_l e_int))) a_nil))) (ED.d_l (e_var (pv 7))))) (ag_d (ED.n_d (e_fdiv (ED.d_l (e_var (pv 6))) (ED.n_l e_int))) ag_nil)) rfl))) (ss_one (s_ret (e_var (pv 7)))))) ss_nil)))))) (ss_one (s_ret (ED.n_d e_non)))))
theorem sc__law_are_weights_right : FnScope ["hand", "weights", "shares", "whole", "due", "words", "weight", "middle", "size", "many", "least", "place", "low", "high", "span", "point", "inside", "share", "word", "other"] ["hand", "weights"] (defScope t__law_are_weights_right) := ⟨rfl, rfl, rfl, by decide +kernel, rfl, by decide +kernel, by decide +kernel⟩
theorem ok__law_are_weights_right (T : Txt K mg base ad fd ca cc tp CL) : FnOk P w K mg base (L2N.CX P w) 9 (ad 39) (fd 39) ["hand", "weights"] (sp1 TL CL 1 d__law_are_weights_right) := ok1 T.f__law_are_weights_right sc__law_are_weights_right rfl fun cdv A outer s H E hr => by
  have S := sc__law_are_weights_right
  exact (ss_cons (s_par (i := 2) (j := 3) rfl S.nd rfl rfl (by decide) rfl rfl (ag_d (e_call0 (ok__law_shares T) (hr.mono (by decide)) rfl T.g__law_shares T.k__law_shares T.b__law_shares (L2N.takes_of rfl rfl rfl rfl) (a_cons (e_var (pv 1)) a_nil) rfl) (ag_d (ED.n_d (e_blt (c_sum rfl) rfl T.n_sum (by decide +kernel) (a_cons (ED.d_l (e_var (pv 1))) a_nil))) ag_nil)) rfl) (ss_cons (s_set (i := 4) S.nd rfl (Or.inl rfl) (ED.n_d (e_bty c_tuple rfl T.n_tuple (by decide +kernel) (a_cons (ED.n_l (e_lc (own := [("low", 12), ("high", 13)]) (L := [12, 13]) (g := gTup K 2 (gCons (gName 12) (gCons (gName 13) (gNil)))) (t := tgTup 2 (tgCons (tgN 12) (tgCons (tgN 13) (tgNil)))) rfl S.nd (i_any (e_var (pv 2))) (blkOk_by (by kernel_rfl)) (fun _ _ _ _ _ => (gd_tup rfl (gds_cons (gd_name (i := 12) S.nd rfl (Or.inl rfl)) (gds_cons (gd_name (i := 13) S.nd rfl (Or.inl rfl)) gds_nil)))) (fun _ _ _ _ _ => ts_nil) (fun _ _ _ _ _ => (e_call0 (ok__law_mul T) (hr.mono (by decide)) rfl T.g__law_mul T.k__law_mul T.b__law_mul takes0N (a_cons (ED.n_d (e_tup (a_cons (ED.n_d e_int) (a_cons (ED.n_d e_int) a_nil)))) (a_cons (e_call0 (ok__law_add T) (hr.mono (by decide)) rfl T.g__law_add T.k__law_add T.b__law_add takes0N (a_cons (e_var (pv 12)) (a_cons (e_var (pv 13)) a_nil)) rfl) a_nil)) rfl)))) a_nil)))) (ss_cons (s_setO (i := 5) S.nd rfl (Or.inl rfl) (e_lst a_nil)) (ss_cons (s_for (passes_of rfl) rfl (i_zipG rfl T.n_zip (a_cons (e_var (pv 1)) (a_cons (e_var (pv 4)) a_nil))) (gd_tup rfl (gds_cons (gd_name (i := 6) S.nd rfl (Or.inl rfl)) (gds_cons (gd_name (i := 7) S.nd rfl (Or.inl rfl)) gds_nil))) (ss_cons (s_parT rfl (ag_d (ED.n_d e_int) (ag_d (ED.n_d e_int) ag_nil)) (gn_cons (i := 8) S.nd rfl (Or.inl rfl) (gn_cons (i := 9) S.nd rfl (Or.inl rfl) gn_nil)) rfl (by decide)) (ss_cons (s_while (passes_of rfl) (t_cmp cLt (ED.n_l (e_mul (ED.d_l (e_var (pv 9))) (ED.d_l (e_var (pv 6))))) (ED.d_l (e_var (pv 3))) (by with_unfolding_all rfl)) (ss_one (s_par (i := 8) (j := 9) rfl S.nd rfl rfl (by decide) rfl rfl (ag_d (ED.n_d (e_add (ED.d_l (e_var (pv 8))) (ED.n_l e_int))) (ag_d (ED.n_d (e_mul (ED.n_l e_int) (ED.d_l (e_var (pv 9))))) ag_nil)) rfl))) (ss_one (s_dropM (m_meth1 PySem.F.slot_list_append PySem.F.type_list_append mt_append mut_append (pv 5) (m_of (e_call0 (ok__law_first_bits T) (hr.mono (by decide)) rfl T.g__law_first_bits T.k__law_first_bits T.b__law_first_bits (L2N.takes_of rfl rfl rfl rfl) (a_cons (e_var (pv 7)) (a_cons (e_var (pv 8)) a_nil)) rfl)))))))) (ss_cons (s_set (i := 10) S.nd rfl (Or.inl rfl) (ED.n_d (e_bty c_tuple rfl T.n_tuple (by decide +kernel) (a_cons (ED.n_l (e_lc (own := [("share", 17)]) (L := [17]) (g := gName 17) (t := tgN 17) rfl S.nd (i_any (e_var (pv 2))) (blkOk_by (by kernel_rfl)) (fun _ _ _ _ _ => (gd_name (i := 17) S.nd rfl (Or.inl rfl))) (fun _ _ _ _ _ => ts_nil) (fun _ _ _ _ _ => (e_call0 (ok__law_least_word T) (hr.mono (by decide)) rfl T.g__law_least_word T.k__law_least_word T.b__law_least_word takes0N (a_cons (e_var (pv 17)) a_nil) rfl)))) a_nil)))) (ss_cons (s_if (t_not (t_val (ED.d_l (e_call0 (ok__law_is T) (hr.mono (by decide)) rfl T.g__law_is T.k__law_is T.b__law_is (L2N.takes_of rfl rfl rfl rfl) (a_cons (ED.n_d (e_lst (a_cons (e_call0 (ok_middles T) (hr.mono (by decide)) rfl T.g_middles T.k_middles T.b_middles (L2N.takes_of rfl rfl rfl rfl) (a_cons (e_var (pv 1)) a_nil) rfl) (a_cons (e_call0 (ok_middle_words T) (hr.mono (by decide)) rfl T.g_middle_words T.k_middle_words T.b_middle_words (L2N.takes_of rfl rfl rfl rfl) (a_cons (e_var (pv 1)) a_nil) rfl) (a_cons (e_call0 (ok_least_words T) (hr.mono (by decide)) rfl T.g_least_words T.k_least_words T.b_least_words (L2N.takes_of rfl rfl rfl rfl) (a_cons (e_var (pv 1)) a_nil) rfl) a_nil))))) (a_cons (ED.n_d (e_lst (a_cons (e_var (pv 4)) (a_cons (ED.n_d (e_bty c_tuple rfl T.n_tuple (by decide +kernel) (a_cons (e_own (pv 5)) a_nil))) (a_cons (e_var (pv 10)) a_nil))))) a_nil)) rfl)))) (ss_one (s_ret (ED.n_d e_bl))) ss_nil) (ss_cons (s_if (t_w (w_or (t_cmp cIsNot (ED.d_l (e_call0 (ok_are_in_order T) (hr.mono (by decide)) rfl T.g_are_in_order T.k_are_in_order T.b_are_in_order (L2N.takes_of rfl rfl rfl rfl) (a_cons (ED.n_d (e_bty c_tuple rfl T.n_tuple (by decide +kernel) (a_cons (e_own (pv 5)) a_nil))) a_nil) rfl)) (ED.n_l e_bl) (by with_unfolding_all rfl)) (w_or1 (t_cmp cIsNot (ED.d_l (e_call0 (ok_are_in_order T) (hr.mono (by decide)) rfl T.g_are_in_order T.k_are_in_order T.b_are_in_order (L2N.takes_of rfl rfl rfl rfl) (a_cons (e_var (pv 10)) a_nil) rfl)) (ED.n_l e_bl) (by with_unfolding_all rfl))))) (ss_one (s_ret (ED.n_d e_bl))) ss_nil) (ss_cons (s_if (t_val (ED.n_l (e_thaw (e_blt (c_any rfl) rfl T.n_any (by decide +kernel) (a_cons (ED.n_l (e_lc (own := [("word", 18), ("other", 19)]) (L := [18, 19]) (g := gTup K 2 (gCons (gName 18) (gCons (gName 19) (gNil)))) (t := tgTup 2 (tgCons (tgN 18) (tgCons (tgN 19) (tgNil)))) rfl S.nd (i_zipG rfl T.n_zip (a_cons (e_var (pv 10)) (a_cons (e_var (pv 5)) a_nil))) (blkOk_by (by kernel_rfl)) (fun _ _ _ _ _ => (gd_tup rfl (gds_cons (gd_name (i := 18) S.nd rfl (Or.inl rfl)) (gds_cons (gd_name (i := 19) S.nd rfl (Or.inl rfl)) gds_nil)))) (fun _ _ _ _ _ => ts_nil) (fun _ _ _ _ _ => (ED.n_d (e_cmp cGt (ED.n_l (e_blt c_len rfl T.n_len (by decide +kernel) (a_cons (ED.d_l (e_var (pv 18))) a_nil))) (ED.n_l (e_blt c_len rfl T.n_len (by decide +kernel) (a_cons (ED.d_l (e_var (pv 19))) a_nil))) (by with_unfolding_all rfl)))))) a_nil))))) (ss_one (s_ret (ED.n_d e_bl))) ss_nil) (ss_cons (s_for (passes_of rfl) rfl (i_enumG rfl T.n_enumerate (a_cons (e_var (pv 2)) a_nil)) (gd_tup rfl (gds_cons (gd_name (i := 11) S.nd rfl (Or.inl rfl)) (gds_cons (gd_tup rfl (gds_cons (gd_name (i := 12) S.nd rfl (Or.inl rfl)) (gds_cons (gd_name (i := 13) S.nd rfl (Or.inl rfl)) gds_nil))) gds_nil))) (ss_cons (s_if (t_not (t_val (ED.d_l (e_call0 (ok__law_is T) (hr.mono (by decide)) rfl T.g__law_is T.k__law_is T.b__law_is (L2N.takes_of rfl rfl rfl rfl) (a_cons (ED.n_d (e_lst (a_cons (e_call0 (ok_place_in T) (hr.mono (by decide)) rfl T.g_place_in T.k_place_in T.b_place_in (L2N.takes_of rfl rfl rfl rfl) (a_cons (e_var (pv 1)) (a_cons (e_ix (hU1 hr) (ED.d_l (e_var (pv 4))) (ED.d_l (e_var (pv 11)))) a_nil)) rfl) (a_cons (e_call0 (ok_place_in T) (hr.mono (by decide)) rfl T.g_place_in T.k_place_in T.b_place_in (L2N.takes_of rfl rfl rfl rfl) (a_cons (e_var (pv 1)) (a_cons (e_var (pv 12)) a_nil)) rfl) a_nil)))) (a_cons (ED.n_d (e_lst (a_cons (e_var (pv 11)) (a_cons (e_var (pv 11)) a_nil)))) a_nil)) rfl)))) (ss_one (s_ret (ED.n_d e_bl))) ss_nil) (ss_cons (s_set (i := 14) S.nd rfl (Or.inl rfl) (e_call0 (ok_span_of T) (hr.mono (by decide)) rfl T.g_span_of T.k_span_of T.b_span_of (L2N.takes_of rfl rfl rfl rfl) (a_cons (e_ix (hU1 hr) (e_own (pv 5)) (ED.d_l (e_var (pv 11)))) a_nil) rfl)) (ss_one (s_if (t_w (w_or (t_val (ED.d_l (e_call0 (ok__law_less T) (hr.mono (by decide)) rfl T.g__law_less T.k__law_less T.b__law_less (L2N.takes_of rfl rfl rfl rfl) (a_cons (e_ix (hU1 hr) (ED.d_l (e_var (pv 14))) (ED.n_l e_int)) (a_cons (e_var (pv 12)) a_nil)) rfl))) (w_or1 (t_val (ED.d_l (e_call0 (ok__law_less T) (hr.mono (by decide)) rfl T.g__law_less T.k__law_less T.b__law_less (L2N.takes_of rfl rfl rfl rfl) (a_cons (e_var (pv 13)) (a_cons (e_ix (hU1 hr) (ED.d_l (e_var (pv 14))) (ED.n_l e_int)) a_nil)) rfl)))))) (ss_one (s_ret (ED.n_d e_bl))) ss_nil))))) (ss_cons (s_set (i := 15) S.nd rfl (Or.inr rfl) (e_call0 (ok__law_frac T) (hr.mono (by decide)) rfl T.g__law_frac T.k__law_frac T.b__law_frac (L2N.takes_of rfl rfl rfl rfl) (a_cons (e_call1 (ok__law_draw T) (hr.mono (by decide)) rfl T.g__law_draw T.k__law_draw T.b__law_draw (L2N.takes_of rfl rfl rfl rfl) (pv 0) (a_cons (ED.n_d e_int) a_nil) rfl) (a_cons (ED.n_d e_int) a_nil)) rfl)) (ss_cons (s_setLcD (i := 16) (own := [("place", 11), ("low", 12), ("high", 13)]) (L := [11, 12, 13]) (g := gTup K 2 (gCons (gName 11) (gCons (gTup K 2 (gCons (gName 12) (gCons (gName 13) (gNil)))) (gNil)))) (t := tgTup 2 (tgCons (tgN 11) (tgCons (tgTup 2 (tgCons (tgN 12) (tgCons (tgN 13) (tgNil)))) (tgNil)))) rfl S.nd rfl rfl (sw_true rfl rfl rfl (by decide +kernel)) (i_enumG rfl T.n_enumerate (a_cons (e_var (pv 2)) a_nil)) (blkOk_by (by kernel_rfl)) (fun _ _ _ _ _ => (gd_tup rfl (gds_cons (gd_name (i := 11) S.nd rfl (Or.inl rfl)) (gds_cons (gd_tup rfl (gds_cons (gd_name (i := 12) S.nd rfl (Or.inl rfl)) (gds_cons (gd_name (i := 13) S.nd rfl (Or.inl rfl)) gds_nil))) gds_nil)))) (fun _ _ _ _ _ => (ts_one (t_val (ED.d_l (e_call0 (ok__law_less T) (hr.mono (by decide)) rfl T.g__law_less T.k__law_less T.b__law_less takes0N (a_cons (e_var (pv 15)) (a_cons (e_var (pv 13)) a_nil)) rfl))))) (fun _ _ _ _ _ => (e_var (pv 11)))) (ss_one (s_ret (e_call0 (ok__law_is T) (hr.mono (by decide)) rfl T.g__law_is T.k__law_is T.b__law_is (L2N.takes_of rfl rfl rfl rfl) (a_cons (e_call0 (ok_place_in T) (hr.mono (by decide)) rfl T.g_place_in T.k_place_in T.b_place_in (L2N.takes_of rfl rfl rfl rfl) (a_cons (e_var (pv 1)) (a_cons (e_var (pv 15)) a_nil)) rfl) (a_cons (e_ix (hU1 hr) (ED.d_l (e_var (pv 16))) (ED.n_l e_int)) a_nil)) rfl))))))))))))))
theorem sc__law_are_points_right : FnScope ["hand", "bottom", "point", "size", "bits", "drawn", "row", "span", "low", "high", "bit"] ["hand"] (defScope t__law_are_points_right) := ⟨rfl, rfl, rfl, by decide +kernel, rfl, by decide +kernel, by decide +kernel⟩
theorem ok__law_are_points_right (T : Txt K mg base ad fd ca cc tp CL) : FnOk P w K mg base (L2N.CX P w) 9 (ad 40) (fd 40) ["hand"] (sp1 TL CL 0 d__law_are_points_right) := ok1 T.f__law_are_points_right sc__law_are_points_right rfl fun cdv A outer s H E hr => by
  have S := sc__law_are_points_right
  exact (ss_cons (s_set (i := 1) S.nd rfl (Or.inl rfl) (ED.n_d (e_add (ED.n_l e_int) (ED.d_l (e_call1 (ok__law_draw T) (hr.mono (by decide)) rfl T.g__law_draw T.k__law_draw T.b__law_draw (L2N.takes_of rfl rfl rfl rfl) (pv 0) (a_cons (e_call1 (ok__law_any T) (hr.mono (by decide)) rfl T.g__law_any T.k__law_any T.b__law_any (L2N.takes_of rfl rfl rfl rfl) (pv 0) (a_cons (ED.n_d (e_lst (a_cons (ED.n_d e_int) (a_cons (ED.n_d e_int) a_nil)))) a_nil) rfl) a_nil) rfl))))) (ss_cons (s_par (i := 2) (j := 3) rfl S.nd rfl rfl (by decide) rfl rfl (ag_d (e_call0 (ok__law_frac T) (hr.mono (by decide)) rfl T.g__law_frac T.k__law_frac T.b__law_frac (L2N.takes_of rfl rfl rfl rfl) (a_cons (e_call1 (ok__law_draw T) (hr.mono (by decide)) rfl T.g__law_draw T.k__law_draw T.b__law_draw (L2N.takes_of rfl rfl rfl rfl) (pv 0) (a_cons (e_var (pv 1)) a_nil) rfl) (a_cons (e_var (pv 1)) a_nil)) rfl) (ag_d (e_call1 (ok__law_any T) (hr.mono (by decide)) rfl T.g__law_any T.k__law_any T.b__law_any (L2N.takes_of rfl rfl rfl rfl) (pv 0) (a_cons (ED.n_d (e_lst (a_cons (ED.n_d e_int) (a_cons (ED.n_d e_int) (a_cons (e_call1 (ok__law_draw T) (hr.mono (by decide)) rfl T.g__law_draw T.k__law_draw T.b__law_draw (L2N.takes_of rfl rfl rfl rfl) (pv 0) (a_cons (ED.n_d e_int) a_nil) rfl) a_nil))))) a_nil) rfl) ag_nil)) rfl) (ss_cons (s_set (i := 4) S.nd rfl (Or.inl rfl) (e_call0 (ok__law_first_bits T) (hr.mono (by decide)) rfl T.g__law_first_bits T.k__law_first_bits T.b__law_first_bits (L2N.takes_of rfl rfl rfl rfl) (a_cons (e_var (pv 2)) (a_cons (e_var (pv 3)) a_nil)) rfl)) (ss_cons (s_if (t_not (t_val (ED.d_l (e_call0 (ok__law_is T) (hr.mono (by decide)) rfl T.g__law_is T.k__law_is T.b__law_is (L2N.takes_of rfl rfl rfl rfl) (a_cons (e_call0 (ok_point_bits T) (hr.mono (by decide)) rfl T.g_point_bits T.k_point_bits T.b_point_bits (L2N.takes_of rfl rfl rfl rfl) (a_cons (e_var (pv 2)) (a_cons (e_var (pv 3)) a_nil)) rfl) (a_cons (e_var (pv 4)) a_nil)) rfl)))) (ss_one (s_ret (ED.n_d e_bl))) ss_nil) (ss_cons (s_set (i := 5) S.nd rfl (Or.inl rfl) (ED.n_d (e_join (ED.n_l e_str) (ED.n_l (e_lc (own := [("bit", 10)]) (L := [10]) (g := gName 10) (t := tgN 10) rfl S.nd (i_range1 rfl T.n_range (a_cons (ED.d_l (e_call1 (ok__law_draw T) (hr.mono (by decide)) rfl T.g__law_draw T.k__law_draw T.b__law_draw (L2N.takes_of rfl rfl rfl rfl) (pv 0) (a_cons (ED.n_d e_int) a_nil) rfl)) a_nil)) (blkOk_by (by kernel_rfl)) (fun _ _ _ _ _ => (gd_name (i := 10) S.nd rfl (Or.inl rfl))) (fun _ _ _ _ _ => ts_nil) (fun _ _ _ _ _ => (e_call1 (ok__law_any T) (hr.mono (by decide)) rfl T.g__law_any T.k__law_any T.b__law_any takes0N (pv 0) (a_cons (ED.n_d (e_lst (a_cons (ED.n_d e_str) (a_cons (ED.n_d e_str) a_nil)))) a_nil) rfl))))))) (ss_cons (s_for (passes_of rfl) rfl (i_any (ED.n_d (e_tup (a_cons (e_var (pv 4)) (a_cons (e_var (pv 5)) (a_cons (ED.n_d e_str) a_nil)))))) (gd_name (i := 6) S.nd rfl (Or.inl rfl)) (ss_cons (s_set (i := 7) S.nd rfl (Or.inl rfl) (e_call0 (ok__law_span T) (hr.mono (by decide)) rfl T.g__law_span T.k__law_span T.b__law_span (L2N.takes_of rfl rfl rfl rfl) (a_cons (e_var (pv 6)) a_nil) rfl)) (ss_one (s_if (t_not (t_val (ED.d_l (e_call0 (ok__law_is T) (hr.mono (by decide)) rfl T.g__law_is T.k__law_is T.b__law_is (L2N.takes_of rfl rfl rfl rfl) (a_cons (ED.n_d (e_lst (a_cons (e_call0 (ok_span_of T) (hr.mono (by decide)) rfl T.g_span_of T.k_span_of T.b_span_of (L2N.takes_of rfl rfl rfl rfl) (a_cons (e_var (pv 6)) a_nil) rfl) (a_cons (e_call0 (ok_point_of T) (hr.mono (by decide)) rfl T.g_point_of T.k_point_of T.b_point_of (L2N.takes_of rfl rfl rfl rfl) (a_cons (e_var (pv 6)) a_nil) rfl) a_nil)))) (a_cons (ED.n_d (e_lst (a_cons (e_var (pv 7)) (a_cons (e_ix (hU1 hr) (ED.d_l (e_var (pv 7))) (ED.n_l e_int)) a_nil)))) a_nil)) rfl)))) (ss_one (s_ret (ED.n_d e_bl))) ss_nil)))) (ss_cons (s_asg (e_call0 (ok__law_span T) (hr.mono (by decide)) rfl T.g__law_span T.k__law_span T.b__law_span (L2N.takes_of rfl rfl rfl rfl) (a_cons (e_var (pv 4)) a_nil) rfl) (gd_tup rfl (gds_cons (gd_name (i := 8) S.nd rfl (Or.inl rfl)) (gds_cons (gd_name (i := 9) S.nd rfl (Or.inl rfl)) gds_nil)))) (ss_one (s_ret (e_and (ED.n_d (e_not (ED.d_l (e_call0 (ok__law_less T) (hr.mono (by decide)) rfl T.g__law_less T.k__law_less T.b__law_less (L2N.takes_of rfl rfl rfl rfl) (a_cons (e_var (pv 2)) (a_cons (e_var (pv 8)) a_nil)) rfl)))) (e_one (e_call0 (ok__law_less T) (hr.mono (by decide)) rfl T.g__law_less T.k__law_less T.b__law_less (L2N.takes_of rfl rfl rfl rfl) (a_cons (e_var (pv 2)) (a_cons (e_var (pv 9)) a_nil)) rfl))))))))))))
theorem F__law_are_refused_call (T : Txt K mg base ad fd ca cc tp CL) : ∀ k f n den, tab__law_are_refused_call ad k = some (f, n, den) → ∃ fd ps, FnOk P w K mg base (L2N.CX P w) 6 f fd ps (sp0 CL n den) ∧ PySem.W.keepIn K (.ref f) = true ∧ Binds K fd ps [] := fun k f n den h => by
  unfold tab__law_are_refused_call at h
  split at h
  · cases h; exact ⟨_, _, (ok_middles T).mono (by decide), T.k_middles, T.b_middles⟩
  split at h
  · cases h; exact ⟨_, _, (ok_middle_words T).mono (by decide), T.k_middle_words, T.b_middle_words⟩
  split at h
  · cases h; exact ⟨_, _, (ok_least_words T).mono (by decide), T.k_least_words, T.b_least_words⟩
  cases h
theorem sc__law_are_refused : FnScope ["hand", "some", "bad", "spot", "odd", "size", "heard", "call"] ["hand"] (defScope t__law_are_refused) := ⟨rfl, rfl, rfl, by decide +kernel, rfl, by decide +kernel, by decide +kernel⟩
theorem ok__law_are_refused (T : Txt K mg base ad fd ca cc tp CL) : FnOk P w K mg base (L2N.CX P w) 9 (ad 41) (fd 41) ["hand"] (sp1 [(tp 0, (("_law_are_refused" : Str) ++ ".<locals>.") ++ "<lambda>")] CL 0 (d__law_are_refused ad)) := by
  obtain ⟨_, _, _, _, _, _, _, _, _, hfd__law_heard, lk__law_heard, cd__law_heard⟩ := T.f__law_heard.ex
  have bw__law_heard := T.b__law_heard
  rw [hfd__law_heard] at lk__law_heard bw__law_heard
  have S := sc__law_are_refused
  exact ok1C (T := [(tp 0, (("_law_are_refused" : Str) ++ ".<locals>.") ++ "<lambda>")]) T.fc__law_are_refused sc__law_are_refused rfl fun A outer s H E hr => (ss_cons (s_set (i := 1) S.nd rfl (Or.inl rfl) (ED.n_d (e_lst (a_cons (ED.n_d e_non) (a_cons (ED.n_d e_int) (a_cons (ED.n_d (e_tup a_nil)) (a_cons (ED.n_d (e_lst (a_cons (ED.n_d e_int) a_nil))) (a_cons (ED.n_d (e_tup (a_cons (ED.n_d e_int) a_nil))) (a_cons (ED.n_d (e_tup (a_cons (ED.n_d (e_neg (ED.n_l e_int))) a_nil))) (a_cons (ED.n_d (e_tup (a_cons (ED.n_d (e_add (ED.n_l (e_pow (ED.n_l e_int) (ED.n_l e_int))) (ED.n_l e_int))) a_nil))) (a_cons (ED.n_d (e_tup (a_cons (ED.n_d e_bl) a_nil))) (a_cons (ED.n_d (e_tup (a_cons (ED.n_d e_non) a_nil))) (a_cons (ED.n_d (e_tup (a_cons (ED.n_d e_str) a_nil))) (a_cons (ED.n_d (e_mul (ED.n_l (e_tup (a_cons (ED.n_d e_int) a_nil))) (ED.n_l e_int))) (a_cons (ED.n_d e_dict0) (a_cons (ED.n_d e_str) a_nil)))))))))))))))) (ss_cons (s_set (i := 2) S.nd rfl (Or.inr rfl) (e_call1 (ok__law_any T) (hr.mono (by decide)) rfl T.g__law_any T.k__law_any T.b__law_any (L2N.takes_of rfl rfl rfl rfl) (pv 0) (a_cons (ED.n_d (e_add (ED.d_l (e_var (pv 1))) (ED.n_l (e_lst (a_cons (e_call1 (ok__law_deep T) (hr.mono (by decide)) rfl T.g__law_deep T.k__law_deep T.b__law_deep (L2N.takes_of rfl rfl rfl rfl) (pv 0) a_nil rfl) a_nil))))) a_nil) rfl)) (ss_cons (s_set (i := 3) S.nd rfl (Or.inr rfl) (e_call1 (ok__law_any T) (hr.mono (by decide)) rfl T.g__law_any T.k__law_any T.b__law_any (L2N.takes_of rfl rfl rfl rfl) (pv 0) (a_cons (ED.n_d (e_lst (a_cons (ED.n_d e_non) (a_cons (ED.n_d e_int) (a_cons (ED.n_d (e_tup (a_cons (ED.n_d e_int) (a_cons (ED.n_d e_int) a_nil)))) (a_cons (ED.n_d (e_tup (a_cons (ED.n_d (e_neg (ED.n_l e_int))) (a_cons (ED.n_d e_int) a_nil)))) (a_cons (ED.n_d (e_tup (a_cons (ED.n_d e_int) (a_cons (ED.n_d e_int) a_nil)))) (a_cons (ED.n_d (e_tup (a_cons (ED.n_d e_int) (a_cons (ED.n_d e_int) a_nil)))) (a_cons (ED.n_d (e_tup (a_cons (ED.n_d e_int) (a_cons (ED.n_d e_int) a_nil)))) (a_cons (ED.n_d (e_lst (a_cons (ED.n_d e_int) (a_cons (ED.n_d e_int) a_nil)))) (a_cons (ED.n_d (e_tup (a_cons (ED.n_d e_bl) (a_cons (ED.n_d e_int) a_nil)))) (a_cons (ED.n_d (e_tup (a_cons (ED.n_d e_int) a_nil))) (a_cons (ED.n_d e_dict0) (a_cons (ED.n_d e_str) a_nil)))))))))))))) a_nil) rfl)) (ss_cons (s_set (i := 4) S.nd rfl (Or.inr rfl) (e_call1 (ok__law_any T) (hr.mono (by decide)) rfl T.g__law_any T.k__law_any T.b__law_any (L2N.takes_of rfl rfl rfl rfl) (pv 0) (a_cons (ED.n_d (e_lst (a_cons (ED.n_d e_non) (a_cons (ED.n_d e_int) (a_cons (ED.n_d e_str) (a_cons (ED.n_d e_str) (a_cons (ED.n_d e_str) (a_cons (ED.n_d (e_tup (a_cons (ED.n_d e_str) a_nil))) (a_cons (ED.n_d (e_lst (a_cons (ED.n_d e_str) a_nil))) (a_cons (ED.n_d e_bl) (a_cons (ED.n_d e_dict0) (a_cons (ED.n_d (e_mul (ED.n_l e_str) (ED.n_l e_int))) a_nil)))))))))))) a_nil) rfl)) (ss_cons (s_set (i := 5) S.nd rfl (Or.inr rfl) (e_call1 (ok__law_any T) (hr.mono (by decide)) rfl T.g__law_any T.k__law_any T.b__law_any (L2N.takes_of rfl rfl rfl rfl) (pv 0) (a_cons (ED.n_d (e_lst (a_cons (ED.n_d (e_neg (ED.n_l e_int))) (a_cons (ED.n_d e_int) (a_cons (ED.n_d e_non) (a_cons (ED.n_d e_bl) (a_cons (ED.n_d e_str) (a_cons (ED.n_d (e_tup (a_cons (ED.n_d e_int) a_nil))) a_nil)))))))) a_nil) rfl)) (ss_cons (s_setO (i := 6) S.nd rfl (Or.inl rfl) (e_lst a_nil)) (ss_cons (s_forR (i := 7) (passes_of rfl) rfl S.nd rfl (Or.inr rfl) (r_cons (k := 13) rfl T.g_middles (r_cons (k := 16) rfl T.g_middle_words (r_cons (k := 20) rfl T.g_least_words r_nil))) (Nat.le_of_ble_eq_true rfl) (ss_one (s_dropM (m_meth1 PySem.F.slot_list_append PySem.F.type_list_append mt_append mut_append (pv 6) (m_of (ED.n_d (e_heard (P := tp 0) (k := 6) rfl T.g__law_heard T.k__law_heard lk__law_heard cd__law_heard bw__law_heard sc__law_heard rfl (Or.inl rfl) (gives__law_heard rfl rfl T (hr.mono (by decide)) _) T.tb__law_are_refused rfl (mem_0) (hu_0 T) (hr.mono (by decide)) (LamX.lamS_by (by kernel_rfl)) rfl (fun _ _ _ _ _ => rfl) (by decide +kernel) wd_ok__law_heard (fun A outer s H E f c hr => (e_callL (F__law_are_refused_call T) (hr.mono (by decide)) (pv 7) (L2N.takes_of rfl rfl rfl rfl) (a_cons (e_var (pv 2)) a_nil)))))))))) (ss_cons (s_dropM (m_meth1 PySem.F.slot_list_append PySem.F.type_list_append mt_append mut_append (pv 6) (m_of (ED.n_d (e_heard (P := tp 0) (k := 5) rfl T.g__law_heard T.k__law_heard lk__law_heard cd__law_heard bw__law_heard sc__law_heard rfl (Or.inl rfl) (gives__law_heard rfl rfl T (hr.mono (by decide)) _) T.tb__law_are_refused rfl (mem_0) (hu_0 T) (hr.mono (by decide)) (LamX.lamS_by (by kernel_rfl)) rfl (fun _ _ _ _ _ => rfl) (by decide +kernel) wd_ok__law_heard (fun A outer s H E f c hr => (e_call0 (ok_place_in T) (hr.mono (by decide)) rfl T.g_place_in T.k_place_in T.b_place_in (L2N.takes_of rfl rfl rfl rfl) (a_cons (e_var (pv 2)) (a_cons (ED.n_d (e_tup (a_cons (ED.n_d e_int) (a_cons (ED.n_d e_int) a_nil)))) a_nil)) rfl))))))) (ss_cons (s_dropM (m_meth1 PySem.F.slot_list_append PySem.F.type_list_append mt_append mut_append (pv 6) (m_of (ED.n_d (e_heard (P := tp 0) (k := 5) rfl T.g__law_heard T.k__law_heard lk__law_heard cd__law_heard bw__law_heard sc__law_heard rfl (Or.inl rfl) (gives__law_heard rfl rfl T (hr.mono (by decide)) _) T.tb__law_are_refused rfl (mem_0) (hu_0 T) (hr.mono (by decide)) (LamX.lamS_by (by kernel_rfl)) rfl (fun _ _ _ _ _ => rfl) (by decide +kernel) wd_ok__law_heard (fun A outer s H E f c hr => (e_call0 (ok_place_in T) (hr.mono (by decide)) rfl T.g_place_in T.k_place_in T.b_place_in (L2N.takes_of rfl rfl rfl rfl) (a_cons (ED.n_d (e_tup (a_cons (ED.n_d e_int) (a_cons (ED.n_d e_int) a_nil)))) (a_cons (e_var (pv 3)) a_nil)) rfl))))))) (ss_cons (s_dropM (m_meth1 PySem.F.slot_list_append PySem.F.type_list_append mt_append mut_append (pv 6) (m_of (ED.n_d (e_heard (P := tp 0) (k := 4) rfl T.g__law_heard T.k__law_heard lk__law_heard cd__law_heard bw__law_heard sc__law_heard rfl (Or.inl rfl) (gives__law_heard rfl rfl T (hr.mono (by decide)) _) T.tb__law_are_refused rfl (mem_0) (hu_0 T) (hr.mono (by decide)) (LamX.lamS_by (by kernel_rfl)) rfl (fun _ _ _ _ _ => rfl) (by decide +kernel) wd_ok__law_heard (fun A outer s H E f c hr => (e_call0 (ok_point_bits T) (hr.mono (by decide)) rfl T.g_point_bits T.k_point_bits T.b_point_bits (L2N.takes_of rfl rfl rfl rfl) (a_cons (e_var (pv 3)) (a_cons (ED.n_d e_int) a_nil)) rfl))))))) (ss_cons (s_dropM (m_meth1 PySem.F.slot_list_append PySem.F.type_list_append mt_append mut_append (pv 6) (m_of (ED.n_d (e_heard (P := tp 0) (k := 4) rfl T.g__law_heard T.k__law_heard lk__law_heard cd__law_heard bw__law_heard sc__law_heard rfl (Or.inl rfl) (gives__law_heard rfl rfl T (hr.mono (by decide)) _) T.tb__law_are_refused rfl (mem_0) (hu_0 T) (hr.mono (by decide)) (LamX.lamS_by (by kernel_rfl)) rfl (fun _ _ _ _ _ => rfl) (by decide +kernel) wd_ok__law_heard (fun A outer s H E f c hr => (e_call0 (ok_point_bits T) (hr.mono (by decide)) rfl T.g_point_bits T.k_point_bits T.b_point_bits (L2N.takes_of rfl rfl rfl rfl) (a_cons (ED.n_d (e_tup (a_cons (ED.n_d e_int) (a_cons (ED.n_d e_int) a_nil)))) (a_cons (e_var (pv 5)) a_nil)) rfl))))))) (ss_cons (s_dropM (m_meth1 PySem.F.slot_list_append PySem.F.type_list_append mt_append mut_append (pv 6) (m_of (ED.n_d (e_heard (P := tp 0) (k := 3) rfl T.g__law_heard T.k__law_heard lk__law_heard cd__law_heard bw__law_heard sc__law_heard rfl (Or.inl rfl) (gives__law_heard rfl rfl T (hr.mono (by decide)) _) T.tb__law_are_refused rfl (mem_0) (hu_0 T) (hr.mono (by decide)) (LamX.lamS_by (by kernel_rfl)) rfl (fun _ _ _ _ _ => rfl) (by decide +kernel) wd_ok__law_heard (fun A outer s H E f c hr => (e_call0 (ok_point_of T) (hr.mono (by decide)) rfl T.g_point_of T.k_point_of T.b_point_of (L2N.takes_of rfl rfl rfl rfl) (a_cons (e_var (pv 4)) a_nil) rfl))))))) (ss_cons (s_dropM (m_meth1 PySem.F.slot_list_append PySem.F.type_list_append mt_append mut_append (pv 6) (m_of (ED.n_d (e_heard (P := tp 0) (k := 4) rfl T.g__law_heard T.k__law_heard lk__law_heard cd__law_heard bw__law_heard sc__law_heard rfl (Or.inl rfl) (gives__law_heard rfl rfl T (hr.mono (by decide)) _) T.tb__law_are_refused rfl (mem_0) (hu_0 T) (hr.mono (by decide)) (LamX.lamS_by (by kernel_rfl)) rfl (fun _ _ _ _ _ => rfl) (by decide +kernel) wd_ok__law_heard (fun A outer s H E f c hr => (e_call0 (ok_span_of T) (hr.mono (by decide)) rfl T.g_span_of T.k_span_of T.b_span_of (L2N.takes_of rfl rfl rfl rfl) (a_cons (e_var (pv 4)) a_nil) rfl))))))) (ss_one (s_ret (ED.n_d (e_cmp (cEq (hU64 hr)) (e_own (pv 6)) (ED.n_l (e_add (ED.n_l (e_add (ED.n_l (e_add (ED.n_l (e_mul (ED.n_l (e_lst (a_cons (ED.n_d e_str) a_nil))) (ED.n_l e_int))) (ED.n_l (e_mul (ED.n_l (e_lst (a_cons (ED.n_d e_str) a_nil))) (ED.n_l e_int))))) (ED.n_l (e_lst (a_cons (ED.n_d e_str) a_nil))))) (ED.n_l (e_mul (ED.n_l (e_lst (a_cons (ED.n_d e_str) a_nil))) (ED.n_l e_int))))) (by with_unfolding_all rfl))))))))))))))))))
theorem sc_law : FnScope ["script", "hand", "said", "due", "turn"] ["script"] (defScope t_law) := ⟨rfl, rfl, rfl, by decide +kernel, rfl, by decide +kernel, by decide +kernel⟩
theorem ok_law (T : Txt K mg base ad fd ca cc tp CL) (hden : ∀ ns : List Int, ns.length ≤ 63 → ∃ h', s_law ad (envL 5 1) (handL 1433 7 ns) = .rt (.bool true) h') : FnOk P w K mg base (L2N.CX P w) 10 (ad 42) (fd 42) ["script"] (spL K [(tp 0, (("_law_are_refused" : Str) ++ ".<locals>.") ++ "<lambda>")]) := by
  have S := sc_law
  refine law_ok (CL := CL) (c1 := 1433) (c2 := 7) (ih := 1) (k := 9) T.f_law S (by decide) (fun cdv A outer s H E hr => ?_) hden
  exact pss_cons (ps_set (i := 1) S.nd rfl (Or.inl rfl) (pe_callS (E := WE fun cls d _ H' => E cls d H') (ok__law_hand T) (hr.mono (by decide)) rfl T.g__law_hand T.k__law_hand T.b__law_hand (fun σ => L2N.passAt (L2N.takes_of rfl rfl rfl rfl) σ) (pa_cons (pv 0) pa_nil))) (ss_cons (s_set (i := 2) S.nd rfl (Or.inl rfl) (ED.n_d (e_lst (a_cons (e_call0 (ok_middles T) (hr.mono (by decide)) rfl T.g_middles T.k_middles T.b_middles (L2N.takes_of rfl rfl rfl rfl) (a_cons (ED.n_d (e_tup (a_cons (ED.n_d e_int) (a_cons (ED.n_d e_int) a_nil)))) a_nil) rfl) (a_cons (e_call0 (ok_middle_words T) (hr.mono (by decide)) rfl T.g_middle_words T.k_middle_words T.b_middle_words (L2N.takes_of rfl rfl rfl rfl) (a_cons (ED.n_d (e_tup (a_cons (ED.n_d e_int) (a_cons (ED.n_d e_int) a_nil)))) a_nil) rfl) (a_cons (e_call0 (ok_least_words T) (hr.mono (by decide)) rfl T.g_least_words T.k_least_words T.b_least_words (L2N.takes_of rfl rfl rfl rfl) (a_cons (ED.n_d (e_tup (a_cons (ED.n_d e_int) (a_cons (ED.n_d e_int) a_nil)))) a_nil) rfl) (a_cons (e_call0 (ok_place_in T) (hr.mono (by decide)) rfl T.g_place_in T.k_place_in T.b_place_in (L2N.takes_of rfl rfl rfl rfl) (a_cons (ED.n_d (e_tup (a_cons (ED.n_d e_int) (a_cons (ED.n_d e_int) a_nil)))) (a_cons (ED.n_d (e_tup (a_cons (ED.n_d e_int) (a_cons (ED.n_d e_int) a_nil)))) a_nil)) rfl) a_nil))))))) (ss_cons (s_set (i := 2) S.nd rfl (Or.inl rfl) (ED.n_d (e_add (ED.d_l (e_var (pv 2))) (ED.n_l (e_lst (a_cons (e_call0 (ok_point_bits T) (hr.mono (by decide)) rfl T.g_point_bits T.k_point_bits T.b_point_bits (L2N.takes_of rfl rfl rfl rfl) (a_cons (ED.n_d (e_tup (a_cons (ED.n_d e_int) (a_cons (ED.n_d e_int) a_nil)))) (a_cons (ED.n_d e_int) a_nil)) rfl) (a_cons (e_call0 (ok_span_of T) (hr.mono (by decide)) rfl T.g_span_of T.k_span_of T.b_span_of (L2N.takes_of rfl rfl rfl rfl) (a_cons (ED.n_d e_str) a_nil) rfl) (a_cons (e_call0 (ok_least_words T) (hr.mono (by decide)) rfl T.g_least_words T.k_least_words T.b_least_words (L2N.takes_of rfl rfl rfl rfl) (a_cons (ED.n_d (e_tup (a_cons (ED.n_d e_int) a_nil))) a_nil) rfl) (a_cons (e_call0 (ok_middle_words T) (hr.mono (by decide)) rfl T.g_middle_words T.k_middle_words T.b_middle_words (L2N.takes_of rfl rfl rfl rfl) (a_cons (ED.n_d (e_tup (a_cons (ED.n_d e_int) a_nil))) a_nil) rfl) a_nil))))))))) (ss_cons (s_set (i := 3) S.nd rfl (Or.inl rfl) (ED.n_d (e_lst (a_cons (ED.n_d (e_tup (a_cons (ED.n_d (e_tup (a_cons (ED.n_d e_int) (a_cons (ED.n_d e_int) a_nil)))) (a_cons (ED.n_d (e_tup (a_cons (ED.n_d e_int) (a_cons (ED.n_d e_int) a_nil)))) a_nil)))) (a_cons (ED.n_d (e_tup (a_cons (ED.n_d e_str) (a_cons (ED.n_d e_str) a_nil)))) (a_cons (ED.n_d (e_tup (a_cons (ED.n_d e_str) (a_cons (ED.n_d e_str) a_nil)))) (a_cons (ED.n_d e_int) (a_cons (ED.n_d e_str) (a_cons (ED.n_d (e_tup (a_cons (ED.n_d (e_tup (a_cons (ED.n_d e_int) (a_cons (ED.n_d e_int) a_nil)))) (a_cons (ED.n_d (e_tup (a_cons (ED.n_d e_int) (a_cons (ED.n_d e_int) a_nil)))) a_nil)))) (a_cons (ED.n_d (e_tup (a_cons (ED.n_d e_str) a_nil))) (a_cons (ED.n_d (e_tup (a_cons (ED.n_d e_str) a_nil))) a_nil))))))))))) (ss_cons (s_if (t_not (t_val (ED.d_l (e_call0 (ok__law_is T) (hr.mono (by decide)) rfl T.g__law_is T.k__law_is T.b__law_is (L2N.takes_of rfl rfl rfl rfl) (a_cons (e_var (pv 2)) (a_cons (e_var (pv 3)) a_nil)) rfl)))) (ss_one (s_ret (ED.n_d e_bl))) ss_nil) (ss_cons (s_for (passes_of rfl) rfl (i_range1 rfl T.n_range (a_cons (ED.n_l e_int) a_nil)) (gd_name (i := 4) S.nd rfl (Or.inl rfl)) (ss_cons (s_if (t_w (w_or (t_not (t_val (ED.d_l (e_call1 (ok__law_are_weights_right T) (hr.mono (by decide)) rfl T.g__law_are_weights_right T.k__law_are_weights_right T.b__law_are_weights_right (L2N.takes_of rfl rfl rfl rfl) (pv 1) (a_cons (e_call1 (ok__law_weights T) (hr.mono (by decide)) rfl T.g__law_weights T.k__law_weights T.b__law_weights (L2N.takes_of rfl rfl rfl rfl) (pv 1) (a_cons (ED.n_d e_int) (a_cons (ED.n_d e_int) a_nil)) rfl) a_nil) rfl)))) (w_or1 (t_not (t_val (ED.d_l (e_call1 (ok__law_are_points_right T) (hr.mono (by decide)) rfl T.g__law_are_points_right T.k__law_are_points_right T.b__law_are_points_right (L2N.takes_of rfl rfl rfl rfl) (pv 1) a_nil rfl))))))) (ss_one (s_ret (ED.n_d e_bl))) ss_nil) (ss_one (s_if (t_not (t_val (ED.d_l (e_call1 (ok__law_are_refused T) (hr.mono (by decide)) rfl T.g__law_are_refused T.k__law_are_refused T.b__law_are_refused (L2N.takes_of rfl rfl rfl rfl) (pv 1) a_nil rfl)))) (ss_one (s_ret (ED.n_d e_bl))) ss_nil)))) (ss_one (s_ret (ED.n_d e_bl))))))))
end
end K79
namespace DL
open PySem PySem.Spec PyProof.Rows L2
open SX (S)
theorem while_ind {c : CF} {f : SF} {h : HS} (I : Nat → DEnv → Prop) (post : DEnv → Prop)
    (step : ∀ n δ, I n δ → (c δ h = .ok false h ∧ post δ) ∨ (c δ h = .ok true h ∧ ∃ δ2 m, m < n ∧ (f δ h = .nx δ2 h ∨ f δ h = .ct δ2 h) ∧ I m δ2)) : ∀ n δ, I n δ → ∃ δ', sWhile c f δ h = .nx δ' h ∧ post δ' := by
  intro n
  induction n using Nat.strongRecOn with
  | _ n ih =>
    intro δ hi
    rcases step n δ hi with ⟨e, p⟩ | ⟨e, δ2, m, hm, e2, i2⟩
    · exact ⟨δ, by rw [sWhile_eq, e, ev_to_ok, if_neg Bool.false_ne_true], p⟩
    · obtain ⟨δ', w, p⟩ := ih m hm δ2 i2
      refine ⟨δ', ?_, p⟩
      rw [sWhile_eq, e, ev_to_ok, if_pos rfl]
      rcases e2 with e2 | e2 <;> rw [e2]
      · exact w
      · exact w
theorem loop_ind {t : TF} {f : SF} {h : HS} (I : Nat → DEnv → Prop) : ∀ (ds : List PyData) (k : Nat) (δ : DEnv), I k δ →
    (∀ j d δ, ds[j]? = some d → I (k + j) δ → ∃ δ1 δ2, t d δ = some δ1 ∧ (f δ1 h = .nx δ2 h ∨ f δ1 h = .ct δ2 h) ∧ I (k + j + 1) δ2) → ∃ δ', dLoop t f ds δ h = .nx δ' h ∧ I (k + ds.length) δ'
  | [], k, δ, hi, _ => ⟨δ, rfl, hi⟩
  | d :: ds, k, δ, hi, step => by
    obtain ⟨δ1, δ2, e1, e2, i2⟩ := step 0 d δ rfl hi
    obtain ⟨δ', w, p⟩ := loop_ind I ds (k + 1) δ2 (by simpa using i2) fun j d' δ' e i => by
      have := step (j + 1) d' δ' (by simpa using e) (by rw [show k + (j + 1) = k + 1 + j by omega]; exact i)
      rw [show k + (j + 1) + 1 = k + 1 + j + 1 by omega] at this
      exact this
    refine ⟨δ', ?_, by rw [List.length_cons, show k + (ds.length + 1) = k + 1 + ds.length by omega]; exact p⟩
    rw [dLoop, e1]
    rcases e2 with e2 | e2 <;> (simp only [e2]; exact w)
theorem loop_ret {t : TF} {f : SF} {h : HS} (I : Nat → DEnv → Prop) (post : PyData → Prop) : ∀ (ds : List PyData) (k : Nat) (δ : DEnv), I k δ →
    (∀ j d δ, ds[j]? = some d → I (k + j) δ → ∃ δ1, t d δ = some δ1 ∧ ((∃ δ2, (f δ1 h = .nx δ2 h ∨ f δ1 h = .ct δ2 h) ∧ I (k + j + 1) δ2) ∨ ∃ r, f δ1 h = .rt r h ∧ post r)) → (∃ δ', dLoop t f ds δ h = .nx δ' h ∧ I (k + ds.length) δ') ∨ ∃ r, dLoop t f ds δ h = .rt r h ∧ post r
  | [], k, δ, hi, _ => .inl ⟨δ, rfl, hi⟩
  | d :: ds, k, δ, hi, step => by
    obtain ⟨δ1, e1, ⟨δ2, e2, i2⟩ | ⟨r, e2, p⟩⟩ := step 0 d δ rfl hi
    · have w := loop_ret I post ds (k + 1) δ2 (by simpa using i2) fun j d' δ' e i => by
        have := step (j + 1) d' δ' (by simpa using e) (by rw [show k + (j + 1) = k + 1 + j by omega]; exact i)
        rw [show k + (j + 1) + 1 = k + 1 + j + 1 by omega] at this
        exact this
      have e3 : dLoop t f (d :: ds) δ h = dLoop t f ds δ2 h := by
        rw [dLoop, e1]
        rcases e2 with e2 | e2 <;> (simp only [e2]; rfl)
      rw [e3, List.length_cons, show k + (ds.length + 1) = k + 1 + ds.length by omega]
      exact w
    · refine .inr ⟨r, ?_, p⟩
      rw [dLoop, e1]
      simp only [e2]
      rfl
theorem lc_map {t : TF} {fc : CF} {fe : EF} {δ0 : DEnv} {h : HS} (g : PyData → PyData) : ∀ (ds acc : List PyData), (∀ d ∈ ds, ∃ δ1, t d δ0 = some δ1 ∧ fc δ1 h = .ok true h ∧ fe δ1 h = .ok (g d) h) → lcLoop t fc fe δ0 ds acc h = .ok (acc ++ ds.map g) h
  | [], acc, _ => by simp [lcLoop]
  | d :: ds, acc, k => by
    obtain ⟨δ1, e1, e2, e3⟩ := k d (List.mem_cons_self ..)
    rw [lcLoop, e1]
    simp only [e2, ev_bind_ok, if_true, e3]
    rw [lc_map g ds _ fun d' hd => k d' (List.mem_cons_of_mem _ hd)]
    simp
theorem lc_dLc {vs : List Nat} {t : TF} {fi : IF} {fc : CF} {fe : EF} {δ : DEnv} {h h1 : HS} (g : PyData → PyData) {ds : List PyData} (hv : (vs.any fun i => isO δ[i]?) = false) (hi : fi δ h = .ok ds h1) (hl : ds.length ≤ sizeLine) (k : ∀ d ∈ ds, ∃ δ1, t d (wipeD δ vs) = some δ1 ∧ fc δ1 h1 = .ok true h1 ∧ fe δ1 h1 = .ok (g d) h1) :
    dLc vs t fi fc fe δ h = .ok (.list (ds.map g)) h1 := by
  unfold dLc
  rw [hv, if_neg Bool.false_ne_true, hi, ev_bind_ok, if_pos hl, lc_map g ds [] k]
  simp
theorem lc_of {α : Type} {vs : List Nat} {t : TF} {fi : IF} {fc : CF} {fe : EF} {δ : DEnv} {h h1 : HS} (mk : α → PyData) (g : α → PyData) {ns : List α} (hi : fi δ h = .ok (ns.map mk) h1) (hl : ns.length ≤ sizeLine) (hv : (vs.any fun i => isO δ[i]?) = false := by rfl)
    (k : ∀ n ∈ ns, ∃ δ1, t (mk n) (wipeD δ vs) = some δ1 ∧ fc δ1 h1 = .ok true h1 ∧ fe δ1 h1 = .ok (g n) h1) :
    dLc vs t fi fc fe δ h = .ok (.list (ns.map g)) h1 := by
  have key : ∀ (ms : List α) (acc : List PyData), (∀ n ∈ ms, n ∈ ns) → lcLoop t fc fe (wipeD δ vs) (ms.map mk) acc h1 = .ok (acc ++ ms.map g) h1 := by
    intro ms
    induction ms with
    | nil => intro acc _; simp [lcLoop]
    | cons n ms ih =>
      intro acc hs
      obtain ⟨δ1, e1, e2, e3⟩ := k n (hs n (List.mem_cons_self ..))
      rw [List.map_cons, lcLoop, e1]
      simp only [e2, ev_bind_ok, if_true, e3]
      rw [ih _ fun m hm => hs m (List.mem_cons_of_mem _ hm)]
      simp
  unfold dLc
  rw [hv, if_neg Bool.false_ne_true, hi, ev_bind_ok, if_pos (by simpa using hl), key ns [] fun n hn => hn]
  simp
@[simp] theorem asBools_of {α : Type} (g : α → Bool) : ∀ l : List α, asBools (l.map fun x => .bool (g x)) = some (l.map g)
  | [] => rfl
  | x :: l => by simp [asBools, asBools_of g l]
@[simp] theorem asBools_of' {α : Type} (g : α → Bool) (l : List α) : asBools (l.map (PyData.bool ∘ g)) = some (l.map g) := asBools_of g l
theorem asInts_of : ∀ l : List Int, asInts (l.map .int) = some l
  | [] => rfl
  | x :: l => by simp [asInts, asInts_of l]
theorem app_ok {i : Nat} {fa : EF} {δ : DEnv} {h h1 : HS} {d : PyData} {ds : List PyData} (e : fa δ h = .ok d h1) (o : δ[i]? = some (.o (.list ds))) (l : ds.length ≤ 1000000) : sDropM (mMeth1 i gApp (mOf fa)) δ h = .nx (δ.set i (.o (.list (ds ++ [d])))) h1 := by
  have l : ds.length < sizeLine := Nat.lt_of_le_of_lt l (by decide)
  have o1 : ownL δ i = some ds := by unfold ownL; rw [o]
  unfold sDropM mMeth1
  rw [o1]
  show (Res.to (Res.op (Res.op (fa δ h) _) _) δ _) = _
  rw [e]
  simp [ev_op_ok, o1, gApp, l]
theorem sL {n : Nat} (h : n ≤ 1000000) : n ≤ sizeLine := Nat.le_trans h (by decide)
end DL
namespace K79
open PySem PySem.Spec PyProof.Rows L2 DL
open SX (S)
@[simp] theorem is_integer_int (n : Int) : d_is_integer [.int n] = .ok (.bool true) := by
  simp [d_is_integer, s_is_integer, den0, env0, dAndV, ev_dVar, ev_op_ok, tyD, isaB, gTru]
theorem natAbs_if (a : Int) : (if a < 0 then -a else a) = (a.natAbs : Int) := by split <;> omega
theorem common_loop (x y : Nat) : sWhile (dCmp gGt (dVar 1) (dC (PyData.int 0))) (sMul [0, 1] [(false, dVar 1), (false, dBin gMod (dVar 0) (dVar 1))]) [.d (.int x), .d (.int y)] [] = .nx [.d (.int (Nat.gcd x y)), .d (.int 0)] [] := by
  induction y using Nat.strongRecOn generalizing x with
  | _ y ih =>
    rw [sWhile_eq]
    by_cases hy : y = 0
    · subst hy
      simp [ev_dVar, ev_op_ok, gGt]
    · have h1 : 0 < y := by omega
      have := ih (x % y) (Nat.mod_lt _ (by omega)) y
      have e2 : ((x : Int).fmod y) = ((x % y : Nat) : Int) := by rw [Int.fmod_eq_emod_of_nonneg _ (by omega)]; rfl
      simp [ev_dVar, ev_op_ok, gGt, gMod, hy, h1, e2, this, -Int.natCast_emod]
      rw [Nat.gcd_comm x y, Nat.gcd_rec y x, Nat.gcd_comm]
theorem common_ok (a b : Int) : d_common [.int a, .int b] = .ok (.int (Int.gcd a b)) := by
  simp [d_common, s_common, den0, env0, ev_dVar, ev_op_ok, gAbs, natAbs_if, common_loop, Int.gcd]
def fr (a b : Int) : PyData := .tuple [.int (a / (Int.gcd a b : Nat)), .int (b / (Int.gcd a b : Nat))]
theorem div_ok {j : Int} (h : 0 < j) (h2 : j < 2 ^ 8999) : divOk j = true := by
  unfold divOk
  rw [Bool.or_eq_true]
  refine .inr (decide_eq_true ⟨h, ?_⟩)
  have : j.natAbs < 2 ^ 8999 := by
    have : ((j.natAbs : Nat) : Int) < ((2 ^ 8999 : Nat) : Int) := by rw [Int.natAbs_of_nonneg (by omega)]; exact_mod_cast h2
    exact_mod_cast this
  have := (Nat.log2_lt (by omega)).mpr this
  omega
theorem gcd_le {a b : Int} (h : 0 < b) : (0 : Int) < (Int.gcd a b : Nat) ∧ ((Int.gcd a b : Nat) : Int) ≤ b := by
  have h1 : 0 < Int.gcd a b := Int.gcd_pos_of_ne_zero_right _ (by omega)
  have h2 := Int.le_of_dvd h (Int.gcd_dvd_right (a := a) (b := b))
  omega
theorem frac_ok (a b : Int) (h : 0 < b) (h2 : b < 2 ^ 8999) : d_frac [.int a, .int b] = .ok (fr a b) := by
  have g := gcd_le (a := a) h
  have d := div_ok g.1 (Int.lt_of_le_of_lt g.2 h2)
  have e1 : ¬ b < 0 := by omega
  simp [d_frac, s_frac, den0, env0, ev_dVar, ev_op_ok, common_ok, gLt, e1, gFdiv, d, fr, Int.fdiv_eq_ediv_of_nonneg _ (Int.le_of_lt g.1)]
theorem are_integers_ok (ns : List Int) (hl : ns.length ≤ 1000000) : d_are_integers [.tuple (ns.map .int)] = .ok (.bool true) := by
  have e := lc_of (vs := [1]) (t := tgN 1) (fi := dIt (dVar 0)) (fc := dYes) (fe := dCall0 d_is_integer [dVar 1]) (δ := [.d (.tuple (ns.map .int)), .no]) (h := []) (h1 := []) PyData.int (fun _ => .bool true) (ns := ns)
    (by simp [ev_dVar, ev_op_ok, gItems]) (sL hl) rfl (fun n hn => ⟨_, rfl, rfl, by simp [ev_dVar, ev_op_ok, wipeD]⟩)
  simp [d_are_integers, s_are_integers, den0, env0, dAndV, ev_dVar, ev_op_ok, tyD, isaB, gTru, e, gAll]
theorem are_counts_ok (ns : List Int) (hl : ns.length ≤ 1000000) (hp : ∀ n ∈ ns, 0 ≤ n) : d_are_counts [.tuple (ns.map .int)] = .ok (.bool true) := by
  have e := lc_of (vs := [1]) (t := tgN 1) (fi := dIt (dVar 0)) (fc := dYes) (fe := toB (dCmp gGe (dVar 1) (dC (.int 0)))) (δ := [.d (.tuple (ns.map .int)), .no]) (h := []) (h1 := []) PyData.int (fun _ => .bool true) (ns := ns)
    (by simp [ev_dVar, ev_op_ok, gItems]) (sL hl) rfl (fun n hn => ⟨_, rfl, rfl, by simp [ev_dVar, ev_op_ok, wipeD, gGe, hp n hn]⟩)
  simp [d_are_counts, s_are_counts, den0, env0, dAndV, ev_dVar, ev_op_ok, are_integers_ok ns hl, gTru, e, gAll]
structure Ws (ns : List Int) : Prop where
  l1 : 1 ≤ ns.length
  l2 : ns.length ≤ 200
  p : ∀ n ∈ ns, 1 ≤ n ∧ n ≤ 1000000000000
theorem check_weights_ok (ns : List Int) (W : Ws ns) : d_check_weights [.tuple (ns.map .int)] = .ok .none := by
  have hl : ns.length ≤ 1000000 := Nat.le_trans W.l2 (by decide)
  have e := lc_of (vs := [1]) (t := tgN 1) (fi := dIt (dVar 0)) (fc := dYes) (fe := toB (dChain gLe gLe (dC (.int 1)) (dVar 1) (dBin gPow (dC (.int 10)) (dC (.int 12))))) (δ := [.d (.tuple (ns.map .int)), .no]) (h := []) (h1 := []) PyData.int (fun _ => .bool true) (ns := ns)
    (by simp [ev_dVar, ev_op_ok, gItems]) (sL hl) rfl (fun n hn => ⟨_, rfl, rfl, by
      have := W.p n hn
      simp [ev_dVar, ev_op_ok, wipeD, gLe, dChain, gPow, this.1, this.2]⟩)
  have h1 : (1 : Int) ≤ ns.length := by exact_mod_cast W.l1
  have h2 : (ns.length : Int) ≤ 200 := by exact_mod_cast W.l2
  have := asBools_of (fun _ : Int => true) ns
  simp [d_check_weights, s_check_weights, den0, env0, ev_dVar, ev_op_ok, are_counts_ok ns hl (fun n hn => by have := W.p n hn; omega), gTru, e, gAll, dChain, gLe, gLen, h1, h2, this]
end K79
namespace DL
open PySem PySem.Spec PyProof.Rows L2
open SX (S)
theorem lit_e : Str.ofString "" = S [] := by decide +kernel
theorem lit_0 : Str.ofString "0" = S [48] := by decide +kernel
theorem lit_1 : Str.ofString "1" = S [49] := by decide +kernel
theorem lit_01 : Str.ofString "01" = S [48, 49] := by decide +kernel
theorem gAdd_S {a b : List Nat} (h : a.length + b.length ≤ 1000000) : gAdd (.str (S a)) (.str (S b)) = some (.str (S (a ++ b))) := by
  show (if (S a).length + (S b).length ≤ sizeLine then some (PyData.str (S a ++ S b)) else none) = _
  rw [if_pos (by rw [SX.S_len, SX.S_len]; exact sL h), SX.S_cat]
@[simp] theorem gLen_S {a : List Nat} : gLen (.str (S a)) = some (.int a.length) := by simp [gLen, SX.S_len]
@[simp] theorem gItems_S {a : List Nat} : gItems (.str (S a)) = some (a.map fun c => .str (S [c])) := rfl
theorem gSl_S_to {a : List Nat} {n : Nat} : gSl none (some (n : Int)) (.str (S a)) = some (.str (S (a.take n))) := by
  show some (PyData.str (cutS (S a) none (some (n : Int)))) = _
  rw [C8.cutS_slice, SX.slice_to (by omega), Int.toNat_natCast]
theorem okS {a : List Nat} (h : ∀ c ∈ a, c < 1114112) : PyData.strOk (S a) = true := by
  unfold PyData.strOk
  rw [← Array.all_toList, List.all_eq_true]
  exact fun c hc => decide_eq_true (h c hc)
theorem gEq_S {a b : List Nat} (ha : ∀ c ∈ a, c < 1114112) (hb : ∀ c ∈ b, c < 1114112) : gEq (.str (S a)) (.str (S b)) = some (decide (a = b)) := by
  simp [gEq, SeqAt.shaped, PyData.canLay0, PyData.eqv, PyData.depth, SX.S_beq_eq, okS ha, okS hb]
theorem gNe_S {a b : List Nat} (ha : ∀ c ∈ a, c < 1114112) (hb : ∀ c ∈ b, c < 1114112) : gNe (.str (S a)) (.str (S b)) = some (!decide (a = b)) := by
  simp [gNe, SeqAt.shaped, PyData.canLay0, PyData.eqv, PyData.depth, SX.S_beq_eq, okS ha, okS hb]
@[simp] theorem gLt_S {a b : List Nat} : gLt (.str (S a)) (.str (S b)) = some (decide (a < b)) := rfl
@[simp] theorem gGe_S {a b : List Nat} : gGe (.str (S a)) (.str (S b)) = some (!decide (a < b)) := rfl
@[simp] theorem gIn_S {c : Nat} {b : List Nat} : gIn (.str (S [c])) (.str (S b)) = some (decide (c ∈ b)) := by simp [gIn]
@[simp] theorem gStr_0 : gStr (.int 0) = some (.str (S [48])) := congrArg (fun x : Str => some (PyData.str x)) (by decide +kernel : Str.ofString (toString (0 : Int)) = S [48])
@[simp] theorem gStr_1 : gStr (.int 1) = some (.str (S [49])) := congrArg (fun x : Str => some (PyData.str x)) (by decide +kernel : Str.ofString (toString (1 : Int)) = S [49])
@[simp] theorem gInt_0 : gInt (.str (S [48])) = some (.int 0) := congrArg (fun x : Option Int => x.map PyData.int) (by decide +kernel : PySem.intText? (S [48]) = some 0)
@[simp] theorem gInt_1 : gInt (.str (S [49])) = some (.int 1) := congrArg (fun x : Option Int => x.map PyData.int) (by decide +kernel : PySem.intText? (S [49]) = some 1)
def lsb : Nat → Nat → List Nat
  | 0, _ => []
  | k + 1, n => (48 + n % 2) :: lsb k (n / 2)
def bitsL (k n : Nat) : List Nat := (lsb k n).reverse
@[simp] theorem lsb_len : ∀ k n, (lsb k n).length = k
  | 0, _ => rfl
  | k + 1, n => by simp [lsb, lsb_len k]
@[simp] theorem bitsL_len (k n : Nat) : (bitsL k n).length = k := by simp [bitsL]
theorem lsb_snoc : ∀ k n, lsb (k + 1) n = lsb k n ++ [48 + n / 2 ^ k % 2]
  | 0, n => by simp [lsb]
  | k + 1, n => by
    rw [lsb, lsb_snoc k (n / 2), lsb]
    rw [Nat.div_div_eq_div_mul, Nat.pow_succ, Nat.mul_comm 2]
    rfl
theorem bitsL_cons (k n : Nat) : bitsL (k + 1) n = (48 + n / 2 ^ k % 2) :: bitsL k n := by
  unfold bitsL
  rw [lsb_snoc]
  simp
theorem bitsL_snoc (k n : Nat) : bitsL (k + 1) n = bitsL k (n / 2) ++ [48 + n % 2] := by simp [bitsL, lsb]
def isBits (l : List Nat) : Prop := ∀ c ∈ l, c = 48 ∨ c = 49
theorem lsb_bits : ∀ k n, isBits (lsb k n)
  | 0, _ => fun _ z => nomatch z
  | k + 1, n => fun c hc => by
    rcases List.mem_cons.mp hc with e | e
    · omega
    · exact lsb_bits k _ c e
theorem bitsL_bits (k n : Nat) : isBits (bitsL k n) := fun c hc => lsb_bits k n c (List.mem_reverse.mp hc)
def valL : List Nat → Nat := fun l => l.foldl (fun v c => 2 * v + (c - 48)) 0
theorem valL_snoc (l : List Nat) (c : Nat) : valL (l ++ [c]) = 2 * valL l + (c - 48) := by simp [valL]
end DL
namespace K79
open PySem PySem.Spec PyProof.Rows L2 DL
open SX (S)
theorem small_ok {k : Nat} (h : k ≤ 1000000) : small62 (k : Int) = true := by
  unfold small62
  rw [decide_eq_true_eq]
  have : (2 : Int) ^ 62 = 4611686018427387904 := by decide
  omega
theorem rng_ok {k : Nat} (h : k ≤ 1000000) : gRng [.int k] = some ((List.range k).map fun i => .int (i : Nat)) := by
  simp [gRng, small_ok h]
theorem mul2_ok (x : Int) : mulOk 2 x = true := by
  unfold mulOk
  rw [Bool.or_eq_true, decide_eq_true_eq]
  exact .inl (.inl ⟨by decide, by decide⟩)
theorem mod2 (n : Nat) : (n : Int).fmod 2 = ((n % 2 : Nat) : Int) := by rw [Int.fmod_eq_emod_of_nonneg _ (by omega)]; rfl
theorem div2 (n : Nat) : (n : Int).fdiv 2 = ((n / 2 : Nat) : Int) := by rw [Int.fdiv_eq_ediv_of_nonneg _ (by omega)]; rfl
theorem dv2 : divOk 2 = true := by decide
theorem digS (n : Nat) : gStr (.int ((n % 2 : Nat) : Int)) = some (.str (S [48 + n % 2])) := by
  rcases Nat.mod_two_eq_zero_or_one n with e | e <;> rw [e]
  · exact gStr_0
  · exact gStr_1
theorem bo_step (x : Nat) (acc : List Nat) (hl : acc.length ≤ 1000000) : sSeq (sDropM (mMeth1 1 gApp (mOf (dIf (dCmp gEq (dBin gMod (dVar 0) (dC (.int 2))) (dC (.int 1))) (dC (.str "1")) (dC (.str "0")))))) (sSet 0 (dBin gFdiv (dVar 0) (dC (.int 2))))
    [.d (.int x), .o (.list (acc.map fun c => .str (S [c])))] [] = .nx [.d (.int ((x / 2 : Nat) : Int)), .o (.list ((acc ++ [48 + x % 2]).map fun c => .str (S [c])))] [] := by
  have e : (dIf (dCmp gEq (dBin gMod (dVar 0) (dC (.int 2))) (dC (.int 1))) (dC (.str "1")) (dC (.str "0"))) [.d (.int x), .o (.list (acc.map fun c => .str (S [c])))] [] = .ok (.str (S [48 + x % 2])) [] := by
    rcases Nat.mod_two_eq_zero_or_one x with q | q <;> simp [lit_0, lit_1, ev_dVar, ev_op_ok, gEq, SeqAt.shaped, PyData.canLay0, PyData.eqv, PyData.depth, gMod, mod2, q, -Int.natCast_emod]
  rw [ev_sSeq, app_ok e rfl (by simpa using hl)]
  simp [ev_dVar, ev_op_ok, gFdiv, dv2, div2, -Int.natCast_ediv]
theorem bits_loop (x : Nat) (acc : List Nat) (h : acc.length + x.log2 + 1 ≤ 100000 ∨ x = 0) : ∃ k, (x < 2 ^ k ∧ ∀ w, x < 2 ^ w → k ≤ w) ∧ sWhile (dCmp gGt (dVar 0) (dC (.int 0))) (sSeq (sDropM (mMeth1 1 gApp (mOf (dIf (dCmp gEq (dBin gMod (dVar 0) (dC (.int 2))) (dC (.int 1))) (dC (.str "1")) (dC (.str "0")))))) (sSet 0 (dBin gFdiv (dVar 0) (dC (.int 2)))))
    [.d (.int x), .o (.list (acc.map fun c => .str (S [c])))] [] = .nx [.d (.int 0), .o (.list ((acc ++ lsb k x).map fun c => .str (S [c])))] [] := by
  induction x using Nat.strongRecOn generalizing acc with
  | _ x ih =>
    rw [sWhile_eq]
    by_cases hx : x = 0
    · subst hx
      exact ⟨0, ⟨by decide, fun w _ => Nat.zero_le w⟩, by simp [ev_dVar, ev_op_ok, gGt, lsb]⟩
    · have h1 : 0 < x := by omega
      have hl : acc.length + x.log2 + 1 ≤ 100000 := h.elim id fun z => absurd z hx
      obtain ⟨k, ⟨k1, k2⟩, e⟩ := ih (x / 2) (by omega) (acc ++ [48 + x % 2]) (by
        by_cases hz : x / 2 = 0
        · exact .inr hz
        · refine .inl ?_
          have : (x / 2).log2 + 1 = x.log2 := by
            rw [Nat.log2_def x, if_pos (by omega)]
          simp
          omega)
      refine ⟨k + 1, ⟨by rw [Nat.pow_succ]; omega, fun w hw => ?_⟩, ?_⟩
      · cases w with
        | zero => simp at hw; omega
        | succ w =>
          have := k2 w (by rw [Nat.pow_succ] at hw; omega)
          omega
      · have c : dCmp gGt (dVar 0) (dC (.int 0)) [.d (.int x), .o (.list (acc.map fun c => .str (S [c])))] [] = .ok true [] := by simp [ev_dVar, ev_op_ok, gGt, h1]
        rw [c, ev_to_ok, if_pos rfl, bo_step x acc (by omega), ev_lp_nx, e]
        simp [lsb]
theorem glue_one : ∀ l : List Nat, Txt.join (S []) (l.map fun c => S [c]) = S l := fun l => by
  have := SX.join_S [] (l.map fun c => [c])
  rw [List.map_map] at this
  refine this.trans (congrArg S ?_)
  clear this
  induction l with
  | nil => rfl
  | cons c l ih =>
    cases l with
    | nil => rfl
    | cons d l => simp [TL.joinL] at ih ⊢; exact ih
theorem asStrs_of {α : Type} (g : α → Str) : ∀ l : List α, asStrs (l.map fun x => .str (g x)) = some (l.map g)
  | [] => rfl
  | x :: l => by simp [asStrs, asStrs_of g l]
theorem bits_of_ok (x : Nat) (h : x.log2 ≤ 99999) : ∃ k, (x < 2 ^ k ∧ ∀ w, x < 2 ^ w → k ≤ w) ∧ d_bits_of [.int x] = .ok (.str (S (bitsL k x))) := by
  obtain ⟨k, k1, e⟩ := bits_loop x [] (.inl (by simp; omega))
  refine ⟨k, k1, ?_⟩
  have kl : k ≤ 100000 := k1.2 _ (Nat.lt_of_lt_of_le (Nat.lt_log2_self (n := x)) (Nat.pow_le_pow_right (by decide) (by omega)))
  rw [List.map_nil] at e
  have hj : joinFit (S []) ((lsb k x).map fun c => S [c]).reverse = true := by
    unfold joinFit
    rw [decide_eq_true_eq]
    have : ∀ l : List Nat, ((l.map fun c => S [c]).map (·.length)).sum = l.length := fun l => by
      induction l with
      | nil => rfl
      | cons c l ih => simp [SX.S_len] at ih ⊢; omega
    rw [← List.map_reverse, this]
    simp [SX.S_len]
    omega
  simp [d_bits_of, s_bits_of, den0, env0, ev_dVar, ev_op_ok, e, isStrD, gJoinRev, asStrs_of, lit_e, hj]
  rw [← List.map_reverse, glue_one]
  rfl
theorem mul_S1 {c n : Nat} (h : n ≤ 99999) : gMul (.str (S [c])) (.int n) = some (.str (S (List.replicate n c))) := by
  have e : Txt.mul (S [c]) (n : Int) = S (List.replicate n c) := TL.ext_tl ((mul_one_list c n).trans (by simp))
  have h1 : (0 : Int) ≤ n ∧ (S [c]).length * (n : Int).toNat ≤ 1000000 ∧ (n : Int) < 1000000 := by
    rw [SX.S_len]
    simp
    omega
  show (if (0 : Int) ≤ n ∧ (S [c]).length * (n : Int).toNat ≤ 1000000 ∧ (n : Int) < 1000000 then some (PyData.str (Txt.mul (S [c]) n)) else none) = _
  rw [if_pos h1, e]
theorem lsb_zero : ∀ j, lsb j 0 = List.replicate j 48
  | 0 => rfl
  | j + 1 => by rw [lsb, Nat.zero_div, lsb_zero j]; rfl
theorem lsb_pad : ∀ (k x j : Nat), x < 2 ^ k → lsb (k + j) x = lsb k x ++ List.replicate j 48
  | 0, x, j, h => by
    have : x = 0 := by simpa using h
    subst this
    rw [Nat.zero_add, lsb_zero]
    rfl
  | k + 1, x, j, h => by
    rw [show k + 1 + j = (k + j) + 1 by omega, lsb, lsb_pad k (x / 2) j (by rw [Nat.pow_succ] at h; omega)]
    rfl
theorem wide_bits_ok (x w : Nat) (h : x < 2 ^ w) (hw : w ≤ 99999) : d_wide_bits [.int x, .int w] = .ok (.str (S (bitsL w x))) := by
  have hl : x.log2 ≤ 99999 := by
    by_cases hx : x = 0
    · subst hx; decide
    · have := (Nat.log2_lt hx).mpr h
      omega
  obtain ⟨k, ⟨k1, k2⟩, e⟩ := bits_of_ok x hl
  have hk := k2 w h
  have e1 : (w : Int) - (k : Int) = ((w - k : Nat) : Int) := by omega
  have e2 : List.replicate (w - k) 48 ++ bitsL k x = bitsL w x := by
    have := congrArg List.reverse (lsb_pad k x (w - k) k1)
    rw [show k + (w - k) = w by omega] at this
    simpa [bitsL] using this.symm
  simp [d_wide_bits, s_wide_bits, den0, env0, ev_dVar, ev_op_ok, e, DL.gSub, e1, mul_S1 (c := 48) (show w - k ≤ 99999 by omega), lit_0, gAdd_S, -Int.natCast_sub]
  rw [gAdd_S (by simp; omega), e2]
  rfl
end K79
namespace DL
open PySem PySem.Spec PyProof.Rows L2
open SX (S)
def HandOk (h : HS) : Prop := ∃ (cs : List Int) (i c s n : Int), h = [.list (cs.map .int), .int i, .int c, .int s, .int n] ∧ 0 ≤ i
theorem hand0 (c1 c2 : Int) (ns : List Int) : HandOk (handL c1 c2 ns) := by
  refine ⟨ns.map fun i => if i < 0 then -i else i, 0, 0, c1 + c2 * (ns.length : Nat), 0, ?_, by decide⟩
  unfold handL
  rw [List.map_map]
  rfl
theorem gEq_i (a b : Int) : gEq (.int a) (.int b) = some (decide (a = b)) := by
  simp [gEq, SeqAt.shaped, PyData.canLay0, PyData.eqv, PyData.depth]
  rfl
theorem mulOk_r {a b : Int} (h : -(2 ^ 64) < b ∧ b < 2 ^ 64) : mulOk a b = true := by
  unfold mulOk
  rw [Bool.or_eq_true, decide_eq_true_eq]
  exact .inl (.inr h)
theorem mulOk_l {a b : Int} (h : -(2 ^ 64) < a ∧ a < 2 ^ 64) : mulOk a b = true := by
  unfold mulOk
  rw [Bool.or_eq_true, decide_eq_true_eq]
  exact .inl (.inl h)
@[simp] theorem asI_int (i : Int) : asI (.int i) = some i := rfl
@[simp] theorem hand_at0 (a b c d e : PyData) : atI [a, b, c, d, e] 0 = some a := rfl
@[simp] theorem hand_at1 (a b c d e : PyData) : atI [a, b, c, d, e] 1 = some b := rfl
@[simp] theorem hand_at2 (a b c d e : PyData) : atI [a, b, c, d, e] 2 = some c := rfl
@[simp] theorem hand_at3 (a b c d e : PyData) : atI [a, b, c, d, e] 3 = some d := rfl
@[simp] theorem hand_at4 (a b c d e : PyData) : atI [a, b, c, d, e] 4 = some e := rfl
theorem store_hand {k : Int} {j : Nat} {fe : EF} {δ : DEnv} {h h1 : HS} {d : PyData} (e : fe (.am :: δ) h = .ok d h1) (hj : ixN h1.length k = some j) : sStore 0 (dC (.int k)) fe (.am :: δ) h = .nx (.am :: δ) (h1.set j d) := by
  unfold sStore
  rw [e]
  simp [hj]
def okD : Nat → PyData → Prop
  | 0, _ => False
  | n + 1, .none => True
  | n + 1, .bool _ => True
  | n + 1, .int _ => True
  | n + 1, .str x => PyData.strOk x = true
  | n + 1, .list l => l.length ≤ 1000000 ∧ ∀ x ∈ l, okD n x
  | n + 1, .tuple l => l.length ≤ 1000000 ∧ ∀ x ∈ l, okD n x
  | n + 1, .dict _ => False
theorem gEq_lit (a b : Bool) : gEq (.bool a) (.bool b) = some (a == b) := by
  simp [gEq, SeqAt.shaped, PyData.canLay0, PyData.eqv, PyData.depth]
theorem gNe_lit (a b : Bool) : gNe (.bool a) (.bool b) = some (!(a == b)) := by
  simp [gNe, SeqAt.shaped, PyData.canLay0, PyData.eqv, PyData.depth]
theorem gNe_i (a b : Int) : gNe (.int a) (.int b) = some (!decide (a = b)) := by
  simp [gNe, SeqAt.shaped, PyData.canLay0, PyData.eqv, PyData.depth]
  rfl
theorem loop_cons {t : TF} {f : SF} {d : PyData} {ds : List PyData} {δ δ1 δ2 : DEnv} {h h2 : HS} (e1 : t d δ = some δ1) (e2 : f δ1 h = .nx δ2 h2) : dLoop t f (d :: ds) δ h = dLoop t f ds δ2 h2 := by
  rw [dLoop, e1]
  simp only [e2]
  rfl
def nI (n : Nat) : PyData := .int (n : Int)
def tI (ws : List Nat) : PyData := .tuple (ws.map nI)
end DL
namespace K79
open PySem PySem.Spec PyProof.Rows L2 DL
open SX (S)
theorem ws_ints (ws : List Nat) : tI ws = .tuple ((ws.map fun w : Nat => (w : Int)).map .int) := by
  unfold tI
  rw [List.map_map]
  rfl
structure Wn (ws : List Nat) : Prop where
  l1 : 1 ≤ ws.length
  l2 : ws.length ≤ 200
  p : ∀ n ∈ ws, 1 ≤ n ∧ n ≤ 1000000000000
theorem Wn.ws {ws : List Nat} (W : Wn ws) : Ws (ws.map fun w : Nat => (w : Int)) := ⟨by simpa using W.l1, by simpa using W.l2, fun n hn => by
  obtain ⟨m, hm, rfl⟩ := List.mem_map.mp hn
  have := W.p m hm
  omega⟩
theorem weights_ok {ws : List Nat} (W : Wn ws) : d_check_weights [tI ws] = .ok .none := by rw [ws_ints]; exact check_weights_ok _ W.ws
theorem sum_ints (ws : List Nat) : gSum (tI ws) = some (.int (ws.sum : Nat)) := by
  rw [ws_ints]
  show (asInts ((ws.map fun w : Nat => (w : Int)).map .int)).map (fun is => PyData.int is.sum) = _
  rw [asInts_of]
  have : (ws.map fun w : Nat => (w : Int)).sum = ((ws.sum : Nat) : Int) := by
    induction ws with
    | nil => rfl
    | cons w ws ih => simp [ih]
  simp [this]
theorem sum_le {ws : List Nat} {b : Nat} (h : ∀ n ∈ ws, n ≤ b) : ws.sum ≤ ws.length * b := by
  induction ws with
  | nil => simp
  | cons w ws ih =>
    have := h w (List.mem_cons_self ..)
    have := ih fun n hn => h n (List.mem_cons_of_mem _ hn)
    rw [List.sum_cons, List.length_cons, Nat.add_mul]
    omega
theorem Wn.sum {ws : List Nat} (W : Wn ws) : 1 ≤ ws.sum ∧ ws.sum ≤ 200000000000000 := by
  constructor
  · obtain ⟨w, ws', rfl⟩ := List.exists_cons_of_length_pos W.l1
    have := W.p w (List.mem_cons_self ..)
    rw [List.sum_cons]
    omega
  · have := sum_le fun n hn => (W.p n hn).2
    have := W.l2
    omega
def frN (a b : Nat) : PyData := .tuple [.int ((a / Nat.gcd a b : Nat) : Int), .int ((b / Nat.gcd a b : Nat) : Int)]
theorem frN_eq (a b : Nat) : fr a b = frN a b := by
  unfold fr frN
  rw [show Int.gcd (a : Int) b = Nat.gcd a b from rfl]
  rfl
theorem big (b : Nat) (h : b < 2 ^ 200) : (b : Int) < 2 ^ 8999 := by
  have h1 : (b : Int) < 2 ^ 200 := by exact_mod_cast h
  exact Int.lt_trans h1 (by decide)
theorem frac_okN (a b : Nat) (h : 0 < b) (h2 : b < 2 ^ 200) : d_frac [.int a, .int b] = .ok (frN a b) := by rw [frac_ok a b (by omega) (big b h2), frN_eq]
def midsL (T : Nat) : Nat → List Nat → List PyData
  | _, [] => []
  | g, w :: ws => frN (2 * g + w) (2 * T) :: midsL T (g + w) ws
theorem midsL_len (T : Nat) : ∀ (g : Nat) (ws : List Nat), (midsL T g ws).length = ws.length
  | _, [] => rfl
  | g, w :: ws => by simp [midsL, midsL_len T (g + w) ws]
theorem mids_loop (x : PyData) (T : Nat) (h : 0 < T) (h2 : 2 * T < 2 ^ 200) : ∀ (ws : List Nat) (g : Nat) (acc : List PyData) (v : SV), acc.length + ws.length ≤ 1000000 → ∃ v',
    dLoop (tgN 4) (sSeq (sDropM (mMeth1 3 gApp (mOf (dCall0 d_frac [dBin gAdd (dBin gMul (dC (.int 2)) (dVar 2)) (dVar 4), dVar 1])))) (sSet 2 (dBin gAdd (dVar 2) (dVar 4)))) (ws.map nI) [.d x, .d (.int ((2 * T : Nat) : Int)), .d (.int (g : Int)), .o (.list acc), v] []
      = .nx [.d x, .d (.int ((2 * T : Nat) : Int)), .d (.int ((g + ws.sum : Nat) : Int)), .o (.list (acc ++ midsL T g ws)), v'] []
  | [], g, acc, v, _ => ⟨v, by simp [midsL]⟩
  | w :: ws, g, acc, v, hl => by
    obtain ⟨v', e⟩ := mids_loop x T h h2 ws (g + w) (acc ++ [frN (2 * g + w) (2 * T)]) (.d (nI w)) (by simp at hl ⊢; omega)
    refine ⟨v', ?_⟩
    have e1 : (dCall0 d_frac [dBin gAdd (dBin gMul (dC (.int 2)) (dVar 2)) (dVar 4), dVar 1]) [.d x, .d (.int ((2 * T : Nat) : Int)), .d (.int (g : Int)), .o (.list acc), .d (nI w)] [] = .ok (frN (2 * g + w) (2 * T)) [] := by
      have := frac_okN (2 * g + w) (2 * T) (by omega) h2
      rw [show ((2 * g + w : Nat) : Int) = 2 * (g : Int) + w by omega] at this
      simp [ev_dVar, ev_op_ok, nI, gMul, mul2_ok, gAdd, this, -Int.natCast_mul]
    rw [List.map_cons, loop_cons rfl (δ2 := [.d x, .d (.int ((2 * T : Nat) : Int)), .d (.int ((g + w : Nat) : Int)), .o (.list (acc ++ [frN (2 * g + w) (2 * T)])), .d (nI w)]) (h2 := []), e]
    · simp [midsL, Nat.add_assoc]
    · show sSeq _ _ [.d x, .d (.int ((2 * T : Nat) : Int)), .d (.int (g : Int)), .o (.list acc), .d (nI w)] [] = _
      rw [ev_sSeq, app_ok e1 rfl (by simp at hl; omega)]
      simp [ev_dVar, ev_op_ok, nI, gAdd]
theorem middles_ok {ws : List Nat} (W : Wn ws) : d_middles [tI ws] = .ok (.tuple (midsL ws.sum 0 ws)) := by
  have hs := W.sum
  obtain ⟨v', e⟩ := mids_loop (tI ws) ws.sum (by omega) (by omega) ws 0 [] .no (by have := W.l2; simp; omega)
  have hi : gItems (tI ws) = some (ws.map nI) := rfl
  have hm : (2 : Int) * (ws.sum : Nat) = ((2 * ws.sum : Nat) : Int) := by omega
  simp [d_middles, s_middles, den0, env0, ev_dVar, ev_op_ok, weights_ok W, sum_ints, gMul, mul2_ok, hi, hm, -Int.natCast_mul]
  rw [show (0 : Int) = ((0 : Nat) : Int) from rfl, e]
  simp [gTuple]
def pq (p q : Nat) : PyData := .tuple [.int (p : Int), .int (q : Int)]
theorem bits_le (p k : Nat) (hp : p < 2 ^ 200) (hk : k ≤ 100000) : (Builtin.Int.intBits (p : Int) : Int) + k ≤ 2 ^ 27 := by
  have : Builtin.Int.intBits (p : Int) ≤ 201 := by
    unfold Builtin.Int.intBits
    split
    · omega
    · rename_i hne
      have h0 : p ≠ 0 := fun z => hne (by rw [z]; rfl)
      have := (Nat.log2_lt h0).mpr hp
      rw [Int.natAbs_natCast]
      omega
  have e : (2 : Int) ^ 27 = 134217728 := by decide
  omega
theorem shl_ok (p k : Nat) (hp : p < 2 ^ 200) (hk : k ≤ 100000) : gShl (.int (p : Int)) (.int (k : Int)) = some (.int ((p * 2 ^ k : Nat) : Int)) := by
  have := bits_le p k hp hk
  simp only [gShl]
  rw [if_pos ⟨by omega, this⟩]
  simp
theorem fdivN (a b : Nat) (hb : 0 < b) (h2 : b < 2 ^ 200) : gFdiv (.int (a : Int)) (.int (b : Int)) = some (.int ((a / b : Nat) : Int)) := by
  simp only [gFdiv]
  rw [if_pos (div_ok (by omega) (big b h2)), Int.fdiv_eq_ediv_of_nonneg _ (by omega)]
  rfl
theorem first_bits_ok (p q k : Nat) (h : p < q) (hq : q < 2 ^ 200) (hk : k ≤ 99999) : d_first_bits [pq p q, .int (k : Int)] = .ok (.str (S (bitsL k (p * 2 ^ k / q)))) := by
  by_cases h0 : k = 0
  · subst h0
    simp [d_first_bits, s_first_bits, den0, env0, ev_dVar, ev_op_ok, gGt, lit_e, bitsL, lsb]
  · have k0 : 0 < k := by omega
    have lt : p * 2 ^ k / q < 2 ^ k := by
      rw [Nat.div_lt_iff_lt_mul (by omega), Nat.mul_comm (2 ^ k)]
      exact Nat.mul_lt_mul_of_pos_right h (Nat.two_pow_pos k)
    have e := wide_bits_ok _ k lt hk
    have i0 : gIx (pq p q) (.int 0) = some (.int p) := rfl
    have i1 : gIx (pq p q) (.int 1) = some (.int q) := rfl
    simp [d_first_bits, s_first_bits, den0, env0, ev_dVar, ev_op_ok, gGt, k0, i0, i1, shl_ok p k (by omega) (by omega), fdivN _ q (by omega) hq, e, -Int.natCast_mul, -Int.natCast_pow, -Int.natCast_ediv]
def szG (T w : Nat) : Nat → Nat → Nat
  | 0, j => j
  | n + 1, j => if w * 2 ^ j < T then szG T w n (j + 1) else j
def sz (T w : Nat) : Nat := szG T w 60 0
theorem szG_le (T w : Nat) : ∀ n j, j ≤ szG T w n j ∧ szG T w n j ≤ j + n
  | 0, j => by simp [szG]
  | n + 1, j => by
    rw [szG]
    split
    · have := szG_le T w n (j + 1); omega
    · omega
theorem szG_ok (T w : Nat) : ∀ n j, T ≤ w * 2 ^ (j + n) → T ≤ w * 2 ^ szG T w n j
  | 0, j, h => h
  | n + 1, j, h => by
    rw [szG]
    split
    · exact szG_ok T w n (j + 1) (by rw [show j + 1 + n = j + (n + 1) by omega]; exact h)
    · omega
theorem sz_min (T w : Nat) : ∀ n j i, j ≤ i → i < szG T w n j → w * 2 ^ i < T
  | 0, j, i, h, h2 => by simp [szG] at h2; omega
  | n + 1, j, i, h, h2 => by
    rw [szG] at h2
    split at h2
    · rename_i hc
      by_cases e : i = j
      · rw [e]; exact hc
      · exact sz_min T w n (j + 1) i (by omega) h2
    · omega
theorem up_loop {c : CF} {f : SF} {h : HS} (E : Nat → DEnv) (T w : Nat) (hc : ∀ j, j ≤ 60 → c (E j) h = .ok (decide (w * 2 ^ j < T)) h) (hf : ∀ j, j ≤ 60 → f (E j) h = .nx (E (j + 1)) h) : ∀ n j, j + n = 60 → T ≤ w * 2 ^ 60 → sWhile c f (E j) h = .nx (E (szG T w n j)) h
  | 0, j, e, hT => by
    rw [sWhile_eq, hc j (by omega)]
    have : ¬ w * 2 ^ j < T := by rw [show j = 60 by omega]; omega
    simp [this, szG]
  | n + 1, j, e, hT => by
    rw [sWhile_eq, hc j (by omega), szG]
    by_cases q : w * 2 ^ j < T
    · rw [if_pos q, decide_eq_true q, ev_to_ok, if_pos rfl, hf j (by omega), ev_lp_nx, up_loop E T w hc hf n (j + 1) (by omega) hT]
    · rw [if_neg q, decide_eq_false q, ev_to_ok, if_neg Bool.false_ne_true]
def mwL (T : Nat) : Nat → List Nat → List PyData
  | _, [] => []
  | g, w :: ws => .str (S (bitsL (sz T w + 1) ((2 * g + w) / Nat.gcd (2 * g + w) (2 * T) * 2 ^ (sz T w + 1) / (2 * T / Nat.gcd (2 * g + w) (2 * T))))) :: mwL T (g + w) ws
theorem gcd_half {a b : Nat} (h : a < b) (hb : b < 2 ^ 200) : a / Nat.gcd a b < b / Nat.gcd a b ∧ b / Nat.gcd a b < 2 ^ 200 ∧ 0 < b / Nat.gcd a b := by
  have g : 0 < Nat.gcd a b := Nat.gcd_pos_of_pos_right _ (by omega)
  have hd := Nat.gcd_dvd_right a b
  refine ⟨Nat.div_lt_div_of_lt_of_dvd hd h, Nat.lt_of_le_of_lt (Nat.div_le_self _ _) hb, Nat.div_pos (Nat.le_of_dvd (by omega) hd) g⟩
theorem mw_loop (x : PyData) (T : Nat) (h2 : T < 2 ^ 60) : ∀ (ws : List Nat) (g : Nat) (acc : List PyData) (v1 v2 v3 : SV), g + ws.sum ≤ T → (∀ w ∈ ws, 1 ≤ w) → acc.length + ws.length ≤ 1000000 → ∃ v1' v2' v3',
    dLoop (tgTup 2 (tgCons (tgN 3) (tgCons (tgN 4) (tgNil)))) (sSeq (sSet 5 (dC (.int 1))) (sSeq (sWhile (dCmp gLt (dBin gShl (dVar 3) (dBin DL.gSub (dVar 5) (dC (.int 1)))) (dVar 1)) (sSet 5 (dBin gAdd (dVar 5) (dC (.int 1))))) (sDropM (mMeth1 2 gApp (mOf (dCall0 d_first_bits [dVar 4, dVar 5]))))))
      (List.zipWith (fun x y => .tuple [x, y]) (ws.map nI) (midsL T g ws)) [.d x, .d (.int (T : Int)), .o (.list acc), v1, v2, v3] []
      = .nx [.d x, .d (.int (T : Int)), .o (.list (acc ++ mwL T g ws)), v1', v2', v3'] []
  | [], g, acc, v1, v2, v3, _, _, _ => ⟨v1, v2, v3, by simp [mwL, midsL]⟩
  | w :: ws, g, acc, v1, v2, v3, hs, hw, hl => by
    have w1 := hw w (List.mem_cons_self ..)
    rw [List.sum_cons] at hs
    obtain ⟨p, q, hpq⟩ : ∃ p q, p = (2 * g + w) / Nat.gcd (2 * g + w) (2 * T) ∧ q = 2 * T / Nat.gcd (2 * g + w) (2 * T) := ⟨_, _, rfl, rfl⟩
    have hh := gcd_half (a := 2 * g + w) (b := 2 * T) (by omega) (by omega)
    rw [← hpq.1, ← hpq.2] at hh
    have em : frN (2 * g + w) (2 * T) = pq p q := by rw [hpq.1, hpq.2]; rfl
    obtain ⟨v1', v2', v3', e⟩ := mw_loop x T h2 ws (g + w) (acc ++ [.str (S (bitsL (sz T w + 1) (p * 2 ^ (sz T w + 1) / q)))]) (.d (nI w)) (.d (pq p q)) (.d (.int ((sz T w + 1 : Nat) : Int))) (by omega) (fun n hn => hw n (List.mem_cons_of_mem _ hn)) (by simp at hl ⊢; omega)
    refine ⟨v1', v2', v3', ?_⟩
    have szl : sz T w ≤ 60 := by have := szG_le T w 60 0; unfold sz; omega
    have loop := up_loop (c := dCmp gLt (dBin gShl (dVar 3) (dBin DL.gSub (dVar 5) (dC (.int 1)))) (dVar 1)) (f := sSet 5 (dBin gAdd (dVar 5) (dC (.int 1)))) (h := []) (fun j => [.d x, .d (.int (T : Int)), .o (.list acc), .d (nI w), .d (pq p q), .d (.int ((j + 1 : Nat) : Int))]) T w
      (fun j hj => by
        have := shl_ok w j (by omega) (by omega)
        simp [ev_dVar, ev_op_ok, DL.gSub, nI, this, gLt, -Int.natCast_mul, -Int.natCast_pow])
      (fun j hj => by simp [ev_dVar, ev_op_ok, gAdd]) 60 0 rfl (by
        have : 1 * 2 ^ 60 ≤ w * 2 ^ 60 := Nat.mul_le_mul_right _ w1
        omega)
    have e1 : (dCall0 d_first_bits [dVar 4, dVar 5]) [.d x, .d (.int (T : Int)), .o (.list acc), .d (nI w), .d (pq p q), .d (.int ((sz T w + 1 : Nat) : Int))] [] = .ok (.str (S (bitsL (sz T w + 1) (p * 2 ^ (sz T w + 1) / q)))) [] := by
      have := first_bits_ok p q (sz T w + 1) hh.1 hh.2.1 (by omega)
      simp [ev_dVar, ev_op_ok, this, -Int.natCast_add]
    rw [List.map_cons, midsL, List.zipWith_cons_cons, em, loop_cons (δ1 := [.d x, .d (.int (T : Int)), .o (.list acc), .d (nI w), .d (pq p q), v3]) rfl (δ2 := [.d x, .d (.int (T : Int)), .o (.list (acc ++ [.str (S (bitsL (sz T w + 1) (p * 2 ^ (sz T w + 1) / q)))])), .d (nI w), .d (pq p q), .d (.int ((sz T w + 1 : Nat) : Int))]) (h2 := []), e]
    · rw [mwL, ← hpq.1, ← hpq.2]
      simp
    · rw [ev_sSeq, ev_sSet, ev_dC, ev_to_ok, ev_sb_nx, ev_sSeq]
      show ((sWhile _ _ [.d x, .d (.int (T : Int)), .o (.list acc), .d (nI w), .d (pq p q), .d (.int ((0 + 1 : Nat) : Int))] []).bind _) = _
      rw [loop, ev_sb_nx]
      show sDropM _ [.d x, .d (.int (T : Int)), .o (.list acc), .d (nI w), .d (pq p q), .d (.int ((sz T w + 1 : Nat) : Int))] [] = _
      rw [app_ok e1 rfl (by simp at hl; omega)]
      rfl
theorem middle_words_ok {ws : List Nat} (W : Wn ws) : d_middle_words [tI ws] = .ok (.tuple (mwL ws.sum 0 ws)) := by
  have hs := W.sum
  obtain ⟨v1, v2, v3, e⟩ := mw_loop (tI ws) ws.sum (by omega) ws 0 [] .no .no .no (by omega) (fun n hn => (W.p n hn).1) (by have := W.l2; simp; omega)
  have hi : gItems (tI ws) = some (ws.map nI) := rfl
  have hj : ∀ l, gItems (.tuple l) = some l := fun _ => rfl
  simp [d_middle_words, s_middle_words, den0, env0, ev_dVar, ev_op_ok, weights_ok W, sum_ints, middles_ok W, gZipG, hi, hj, e, gTuple]
end K79
namespace DL
open PySem PySem.Spec PyProof.Rows L2
open SX (S)
def upG (p : Nat → Bool) : Nat → Nat → Nat
  | 0, j => j
  | n + 1, j => if p j then upG p n (j + 1) else j
theorem upG_le (p : Nat → Bool) : ∀ n j, j ≤ upG p n j ∧ upG p n j ≤ j + n
  | 0, j => by simp [upG]
  | n + 1, j => by
    rw [upG]
    split
    · have := upG_le p n (j + 1); omega
    · omega
theorem upG_stop (p : Nat → Bool) : ∀ n j, p (j + n) = false → p (upG p n j) = false
  | 0, j, h => h
  | n + 1, j, h => by
    rw [upG]
    split
    · exact upG_stop p n (j + 1) (by rw [show j + 1 + n = j + (n + 1) by omega]; exact h)
    · rename_i q
      simpa using q
theorem up_loopP {c : CF} {f : SF} {h : HS} (E : Nat → DEnv) (p : Nat → Bool) (m : Nat) (hc : ∀ j, j ≤ m → c (E j) h = .ok (p j) h) (hf : ∀ j, j ≤ m → f (E j) h = .nx (E (j + 1)) h) (hm : p m = false) : ∀ n j, j + n = m → sWhile c f (E j) h = .nx (E (upG p n j)) h
  | 0, j, e => by
    have e : j = m := e
    subst e
    rw [sWhile_eq, hc j (Nat.le_refl _), hm]
    simp [upG]
  | n + 1, j, e => by
    rw [sWhile_eq, hc j (by omega), upG]
    by_cases q : p j = true
    · rw [if_pos q, q, ev_to_ok, if_pos rfl, hf j (by omega), ev_lp_nx, up_loopP E p m hc hf hm n (j + 1) (by omega)]
    · have q' : p j = false := by simpa using q
      rw [if_neg q, q', ev_to_ok, if_neg Bool.false_ne_true]
variable {c : CF} {fa fb : EF} {f g : SF} {δ δ1 : DEnv} {h h1 : HS} {d : PyData} {i : Nat}
theorem dif_t (e : c δ h = .ok true h1) : dIf c fa fb δ h = fa δ h1 := by rw [ev_dIf, e]; rfl
theorem dif_f (e : c δ h = .ok false h1) : dIf c fa fb δ h = fb δ h1 := by rw [ev_dIf, e]; rfl
theorem sif_t (e : c δ h = .ok true h1) : sIf c f g δ h = f δ h1 := by rw [ev_sIf, e]; rfl
theorem sif_f (e : c δ h = .ok false h1) : sIf c f g δ h = g δ h1 := by rw [ev_sIf, e]; rfl
theorem seq_nx (e : f δ h = .nx δ1 h1) : sSeq f g δ h = g δ1 h1 := by rw [ev_sSeq, e]; rfl
theorem seq_set (e : fa δ h = .ok d h1) : sSeq (sSet i fa) g δ h = g (δ.set i (.d d)) h1 := by rw [ev_sSeq, ev_sSet, e]; rfl
theorem seq_setO (e : fa δ h = .ok d h1) : sSeq (sSetO i fa) g δ h = g (δ.set i (mkO d)) h1 := by rw [ev_sSeq, ev_sSetO, e]; rfl
theorem seq_if_t (e : c δ h = .ok true h1) {k : SF} : sSeq (sIf c f g) k δ h = sSeq f k δ h1 := by rw [ev_sSeq, sif_t e]; rfl
theorem seq_if_f (e : c δ h = .ok false h1) {k : SF} : sSeq (sIf c f g) k δ h = sSeq g k δ h1 := by rw [ev_sSeq, sif_f e]; rfl
theorem seq_next : sSeq sNext g δ h = g δ h := id rfl
def cl (x t : Nat) : Nat := (x + t - 1) / t
theorem cl_eq (x t : Nat) (h : 0 < t) : -((-(x : Int)).fdiv (t : Int)) = (cl x t : Nat) := by
  unfold cl
  rw [Int.fdiv_eq_ediv_of_nonneg _ (by omega)]
  have h1 : (x + t - 1) / t * t ≤ x + t - 1 := Nat.div_mul_le_self _ _
  have h2 : x + t - 1 < ((x + t - 1) / t + 1) * t := by
    have := Nat.lt_div_mul_add (a := x + t - 1) h
    rw [Nat.add_mul]
    omega
  obtain ⟨c, hc⟩ : ∃ c, c = (x + t - 1) / t := ⟨_, rfl⟩
  rw [← hc] at h1 h2 ⊢
  have e : (t : Int) * (-(c : Int)) = -((c * t : Nat) : Int) := by rw [Int.mul_neg, Int.mul_comm]; rfl
  rw [Nat.add_mul] at h2
  have := ((Int.ediv_emod_unique (a := -(x : Int)) (b := (t : Int)) (q := -(c : Int)) (r := ((c * t : Nat) : Int) - x) (by omega)).mpr ⟨by rw [e]; omega, by omega, by omega⟩).1
  rw [this]
  omega
theorem cl_bd (x t : Nat) (h : 0 < t) : x ≤ cl x t * t ∧ cl x t * t < x + t := by
  unfold cl
  have h1 : (x + t - 1) / t * t ≤ x + t - 1 := Nat.div_mul_le_self _ _
  have h2 := Nat.lt_div_mul_add (a := x + t - 1) h
  omega
end DL
namespace K79
open PySem PySem.Spec PyProof.Rows L2 DL
open SX (S)
def lwP (T g w : Nat) (k : Nat) : Bool := decide ((g + w) * 2 ^ k < (cl (g * 2 ^ k) T + 1) * T)
def lwK (T g w : Nat) : Nat := upG (lwP T g w) 62 0
def lwL (T : Nat) : Nat → List Nat → List PyData
  | _, [] => []
  | g, w :: ws => .str (S (bitsL (lwK T g w) (cl (g * 2 ^ lwK T g w) T))) :: lwL T (g + w) ws
theorem lwP_end (T g w : Nat) (hT : 0 < T) (h2 : T < 2 ^ 60) (hw : 1 ≤ w) : lwP T g w 62 = false := by
  unfold lwP
  rw [decide_eq_false_iff_not]
  have := (cl_bd (g * 2 ^ 62) T hT).2
  have : (cl (g * 2 ^ 62) T + 1) * T = cl (g * 2 ^ 62) T * T + T := by rw [Nat.add_mul]; omega
  have : (g + w) * 2 ^ 62 = g * 2 ^ 62 + w * 2 ^ 62 := Nat.add_mul ..
  omega
theorem lwK_lt (T g w : Nat) (hT : 0 < T) (h2 : T < 2 ^ 60) (hw : 1 ≤ w) (hg : g + w ≤ T) : lwK T g w ≤ 62 ∧ cl (g * 2 ^ lwK T g w) T < 2 ^ lwK T g w := by
  have h1 := upG_le (lwP T g w) 62 0
  have h3 := upG_stop (lwP T g w) 62 0 (lwP_end T g w hT h2 hw)
  refine ⟨by unfold lwK; omega, ?_⟩
  change lwP T g w (lwK T g w) = false at h3
  generalize lwK T g w = k at h3 ⊢
  unfold lwP at h3
  rw [decide_eq_false_iff_not] at h3
  have : (g + w) * 2 ^ k ≤ T * 2 ^ k := Nat.mul_le_mul_right _ hg
  have : (cl (g * 2 ^ k) T + 1) * T ≤ 2 ^ k * T := by rw [Nat.mul_comm (2 ^ k)]; omega
  have := Nat.le_of_mul_le_mul_right this hT
  omega
def lwEc : EF := dUn gNeg (dBin gFdiv (dUn gNeg (dBin gShl (dVar 2) (dVar 5))) (dVar 1))
theorem lw_ec (x a : SV) (T g w k : Nat) (hT : 0 < T) (h2 : T < 2 ^ 60) (hg : g ≤ T) (hk : k ≤ 62) : lwEc [x, .d (.int (T : Int)), .d (.int (g : Int)), a, .d (nI w), .d (.int ((k : Nat) : Int))] [] = .ok (.int ((cl (g * 2 ^ k) T : Nat) : Int)) [] := by
  have h0 := shl_ok g k (by omega) (by omega)
  have d := div_ok (show (0 : Int) < (T : Nat) by omega) (big T (by omega))
  have h1 := cl_eq (g * 2 ^ k) T hT
  unfold lwEc
  simp only [ev_dUn, ev_dBin, vr1, vr2, vr5, ev_bind_ok, ev_op_ok, h0, gNeg_i, gFdiv_ii d, h1]
theorem lw_test (x a : SV) (T g w k : Nat) (hT : 0 < T) (h2 : T < 2 ^ 60) (hg : g + w ≤ T) (hk : k ≤ 62) : dCmp gGt (dBin gMul (dBin gAdd lwEc (dC (.int 1))) (dVar 1)) (dBin gShl (dBin gAdd (dVar 2) (dVar 4)) (dVar 5)) [x, .d (.int (T : Int)), .d (.int (g : Int)), a, .d (nI w), .d (.int ((k : Nat) : Int))] [] = .ok (lwP T g w k) [] := by
  have h1 := lw_ec x a T g w k hT h2 (by omega) hk
  have h3 := shl_ok (g + w) k (by omega) (by omega)
  have h4 : mulOk ((cl (g * 2 ^ k) T : Int) + 1) (T : Int) = true := mulOk_r ⟨by omega, by omega⟩
  rw [Int.natCast_add] at h3
  rw [ev_dCmp, ev_dBin, ev_dBin, h1]
  simp only [ev_bind_ok, ev_op_ok, ev_dC, gAdd_ii, vr1, gMul_ii h4, ev_dBin, vr2, vr4, vr5, nI, h3, gGt_ii, lwP]
  refine congrArg (fun b => Res.ok b []) (decide_eq_decide.mpr ?_)
  rw [← Int.ofNat_lt]
  simp
theorem lw_word (x a : SV) (T g w k : Nat) (hT : 0 < T) (h2 : T < 2 ^ 60) (hg : g ≤ T) (hk : k ≤ 62) (hc : cl (g * 2 ^ k) T < 2 ^ k) : (dIf (dCmp gGt (dVar 5) (dC (.int 0))) (dCall0 d_wide_bits [lwEc, dVar 5]) (dC (.str ""))) [x, .d (.int (T : Int)), .d (.int (g : Int)), a, .d (nI w), .d (.int ((k : Nat) : Int))] [] = .ok (.str (S (bitsL k (cl (g * 2 ^ k) T)))) [] := by
  have h1 := lw_ec x a T g w k hT h2 hg hk
  have h3 := wide_bits_ok _ _ hc (by omega)
  by_cases hk : k = 0
  · subst hk
    simp [ev_dVar, ev_op_ok, gGt, bitsL, lsb, lit_e]
  · have hk2 : 0 < k := by omega
    rw [dif_t (h1 := []) (by simp [ev_dVar, ev_op_ok, gGt, hk2]), ev_dCall0, ev_dSeq_cons, h1]
    simp [ev_dVar, ev_op_ok, h3]
theorem lw_body (x : SV) (T g w : Nat) (acc : List PyData) (v : SV) (hT : 0 < T) (h2 : T < 2 ^ 60) (hw : 1 ≤ w) (hg : g + w ≤ T) (hl : acc.length ≤ 1000000) :
    (sSeq (sSet 5 (dC (.int 0))) (sSeq (sWhile (dCmp gGt (dBin gMul (dBin gAdd lwEc (dC (.int 1))) (dVar 1)) (dBin gShl (dBin gAdd (dVar 2) (dVar 4)) (dVar 5))) (sSet 5 (dBin gAdd (dVar 5) (dC (.int 1))))) (sSeq (sDropM (mMeth1 3 gApp (mOf (dIf (dCmp gGt (dVar 5) (dC (.int 0))) (dCall0 d_wide_bits [lwEc, dVar 5]) (dC (.str "")))))) (sSet 2 (dBin gAdd (dVar 2) (dVar 4))))))
      [x, .d (.int (T : Int)), .d (.int (g : Int)), .o (.list acc), .d (nI w), v] [] = .nx [x, .d (.int (T : Int)), .d (.int ((g + w : Nat) : Int)), .o (.list (acc ++ [.str (S (bitsL (lwK T g w) (cl (g * 2 ^ lwK T g w) T)))])), .d (nI w), .d (.int ((lwK T g w : Nat) : Int))] [] := by
  have L := lwK_lt T g w hT h2 hw hg
  have loop := up_loopP (h := []) (f := sSet 5 (dBin gAdd (dVar 5) (dC (.int 1)))) (fun j => [x, .d (.int (T : Int)), .d (.int (g : Int)), .o (.list acc), .d (nI w), .d (.int ((j : Nat) : Int))]) (lwP T g w) 62
    (fun k hk => lw_test x (.o (.list acc)) T g w k hT h2 hg hk)
    (fun j hj => by simp [ev_dVar, ev_op_ok, gAdd]) (lwP_end T g w hT h2 hw) 62 0 rfl
  have ek : upG (lwP T g w) 62 0 = lwK T g w := rfl
  rw [ek, show ((0 : Nat) : Int) = 0 from rfl] at loop
  generalize lwK T g w = k at *
  have e1 := lw_word x (.o (.list acc)) T g w k hT h2 (by omega) L.1 L.2
  rw [seq_set (ev_dC), List.set_cons_succ, List.set_cons_succ, List.set_cons_succ, List.set_cons_succ, List.set_cons_succ, List.set_cons_zero, seq_nx loop, ev_sSeq, app_ok e1 rfl hl]
  simp [ev_dVar, ev_op_ok, nI, gAdd]
theorem lw_loop (x : PyData) (T : Nat) (hT : 0 < T) (h2 : T < 2 ^ 60) : ∀ (ws : List Nat) (g : Nat) (acc : List PyData) (v1 v2 : SV), g + ws.sum ≤ T → (∀ w ∈ ws, 1 ≤ w) → acc.length + ws.length ≤ 1000000 → ∃ v1' v2',
    dLoop (tgN 4) (sSeq (sSet 5 (dC (.int 0))) (sSeq (sWhile (dCmp gGt (dBin gMul (dBin gAdd lwEc (dC (.int 1))) (dVar 1)) (dBin gShl (dBin gAdd (dVar 2) (dVar 4)) (dVar 5))) (sSet 5 (dBin gAdd (dVar 5) (dC (.int 1))))) (sSeq (sDropM (mMeth1 3 gApp (mOf (dIf (dCmp gGt (dVar 5) (dC (.int 0))) (dCall0 d_wide_bits [lwEc, dVar 5]) (dC (.str "")))))) (sSet 2 (dBin gAdd (dVar 2) (dVar 4))))))
      (ws.map nI) [.d x, .d (.int (T : Int)), .d (.int (g : Int)), .o (.list acc), v1, v2] []
      = .nx [.d x, .d (.int (T : Int)), .d (.int ((g + ws.sum : Nat) : Int)), .o (.list (acc ++ lwL T g ws)), v1', v2'] []
  | [], g, acc, v1, v2, _, _, _ => ⟨v1, v2, by simp [lwL]⟩
  | w :: ws, g, acc, v1, v2, hs, hw, hl => by
    have w1 := hw w (List.mem_cons_self ..)
    rw [List.sum_cons] at hs
    rw [List.length_cons] at hl
    obtain ⟨v1', v2', e⟩ := lw_loop x T hT h2 ws (g + w) (acc ++ [.str (S (bitsL (lwK T g w) (cl (g * 2 ^ lwK T g w) T)))]) (.d (nI w)) (.d (.int ((lwK T g w : Nat) : Int))) (by omega) (fun n hn => hw n (List.mem_cons_of_mem _ hn)) (by rw [List.length_append, List.length_singleton]; omega)
    refine ⟨v1', v2', ?_⟩
    rw [List.map_cons, loop_cons (δ1 := [.d x, .d (.int (T : Int)), .d (.int (g : Int)), .o (.list acc), .d (nI w), v2]) rfl (lw_body (.d x) T g w acc v2 hT h2 w1 (by omega) (by omega)), e, lwL, List.sum_cons, Nat.add_assoc, List.append_assoc]
    rfl
theorem least_words_ok {ws : List Nat} (W : Wn ws) : d_least_words [tI ws] = .ok (.tuple (lwL ws.sum 0 ws)) := by
  have hs := W.sum
  obtain ⟨v1, v2, e⟩ := lw_loop (tI ws) ws.sum (by omega) (by omega) ws 0 [] .no .no (by omega) (fun n hn => (W.p n hn).1) (by have := W.l2; simp; omega)
  have hi : gItems (tI ws) = some (ws.map nI) := rfl
  unfold lwEc at e
  simp [d_least_words, s_least_words, den0, env0, ev_dVar, ev_op_ok, weights_ok W, sum_ints, hi]
  rw [show ((0 : Nat) : Int) = 0 from rfl] at e
  rw [e]
  simp [gTuple]
end K79
namespace DL
open PySem PySem.Spec PyProof.Rows L2
open SX (S)
def sB (l : List Nat) : PyData := .str (S l)
theorem lsb_mod : ∀ k n c, lsb k (n + c * 2 ^ k) = lsb k n
  | 0, n, c => rfl
  | k + 1, n, c => by
    have e : c * 2 ^ (k + 1) = 2 * (c * 2 ^ k) := by rw [Nat.pow_succ]; simp [Nat.mul_comm, Nat.mul_left_comm, Nat.mul_assoc]
    rw [lsb, lsb, e, show (n + 2 * (c * 2 ^ k)) % 2 = n % 2 by omega, show (n + 2 * (c * 2 ^ k)) / 2 = n / 2 + c * 2 ^ k by omega, lsb_mod k]
theorem bits_lt : ∀ k1 k2 x1 x2, (x1 % 2 ^ k1 + 1) * 2 ^ k2 ≤ (x2 % 2 ^ k2) * 2 ^ k1 → bitsL k1 x1 < bitsL k2 x2 ∧ (bitsL k2 x2).take k1 ≠ bitsL k1 x1
  | 0, k2, x1, x2, h => by
    have := Nat.mod_lt x2 (Nat.two_pow_pos k2)
    rw [Nat.pow_zero, Nat.mod_one, Nat.mul_one, Nat.zero_add, Nat.one_mul] at h
    omega
  | k1 + 1, 0, x1, x2, h => by
    simp [Nat.mod_one] at h
  | k1 + 1, k2 + 1, x1, x2, h => by
    rw [bitsL_cons, bitsL_cons]
    rw [Nat.mod_pow_succ, Nat.mod_pow_succ] at h
    have l1 := Nat.mod_lt x1 (Nat.two_pow_pos k1)
    have l2 := Nat.mod_lt x2 (Nat.two_pow_pos k2)
    have ih := bits_lt k1 k2 x1 x2
    generalize x1 % 2 ^ k1 = r1 at *
    generalize x2 % 2 ^ k2 = r2 at *
    have p1 : 2 ^ (k1 + 1) = 2 * 2 ^ k1 := by rw [Nat.pow_succ, Nat.mul_comm]
    have p2 : 2 ^ (k2 + 1) = 2 * 2 ^ k2 := by rw [Nat.pow_succ, Nat.mul_comm]
    rw [p1, p2] at h
    generalize 2 ^ k1 = A at *
    generalize 2 ^ k2 = B at *
    have c1 : x1 / A % 2 = 0 ∨ x1 / A % 2 = 1 := by omega
    have c2 : x2 / B % 2 = 0 ∨ x2 / B % 2 = 1 := by omega
    have e1 : ∀ y, y * (2 * B) = 2 * (y * B) := fun y => Nat.mul_left_comm _ _ _
    have e2 : ∀ y, y * (2 * A) = 2 * (y * A) := fun y => Nat.mul_left_comm _ _ _
    rw [e1, e2] at h
    have h := Nat.le_of_mul_le_mul_left h (by decide : 0 < 2)
    rw [List.cons_lt_cons_iff, List.take_succ_cons]
    rcases c1 with c1 | c1 <;> rcases c2 with c2 | c2 <;> rw [c1, c2] at h ⊢
    · simp only [Nat.mul_zero, Nat.add_zero] at h
      obtain ⟨i1, i2⟩ := ih h
      exact ⟨.inr ⟨rfl, i1⟩, fun z => i2 (List.cons.inj z).2⟩
    · exact ⟨.inl (by decide), fun z => by have := (List.cons.inj z).1; simp at this⟩
    · exfalso
      simp only [Nat.mul_zero, Nat.add_zero, Nat.mul_one] at h
      have q1 : (r1 + A + 1) * B = r1 * B + A * B + B := by simp [Nat.add_mul]
      have q2 : r2 * A < B * A := Nat.mul_lt_mul_of_pos_right l2 (by omega)
      rw [Nat.mul_comm B A] at q2
      omega
    · simp only [Nat.mul_one] at h
      have q1 : (r1 + A + 1) * B = (r1 + 1) * B + A * B := by simp [Nat.add_mul]; omega
      have q2 : (r2 + B) * A = r2 * A + A * B := by rw [Nat.add_mul, Nat.mul_comm B A]
      obtain ⟨i1, i2⟩ := ih (by omega)
      exact ⟨.inr ⟨rfl, i1⟩, fun z => i2 (List.cons.inj z).2⟩
theorem bits_lt' {k1 k2 x1 x2 : Nat} (h1 : x1 < 2 ^ k1) (h2 : x2 < 2 ^ k2) (h : (x1 + 1) * 2 ^ k2 ≤ x2 * 2 ^ k1) : bitsL k1 x1 < bitsL k2 x2 ∧ (bitsL k2 x2).take k1 ≠ bitsL k1 x1 := bits_lt k1 k2 x1 x2 (by rwa [Nat.mod_eq_of_lt h1, Nat.mod_eq_of_lt h2])
def ordP (p : List Nat × List Nat) : Bool := decide (p.1 < p.2) && !decide (p.2.take p.1.length = p.1)
def pairsL (ls : List (List Nat)) : List (List Nat × List Nat) := ls.zip (ls.drop 1)
def ordB (ls : List (List Nat)) : Bool := (pairsL ls).all ordP
theorem ordB_cons (a b : List Nat) (r : List (List Nat)) : ordB (a :: b :: r) = (ordP (a, b) && ordB (b :: r)) := rfl
def pB (p : List Nat × List Nat) : PyData := .tuple [sB p.1, sB p.2]
theorem zip_pairs : ∀ ls : List (List Nat), List.zipWith (fun x y => PyData.tuple [x, y]) (ls.map sB) ((ls.map sB).drop 1) = (pairsL ls).map pB
  | [] => rfl
  | [a] => rfl
  | a :: b :: r => by
    have := zip_pairs (b :: r)
    simp [pairsL] at this ⊢
    exact ⟨rfl, this⟩
theorem loop_all {α : Type} {t : TF} {f : SF} {h : HS} (mk : α → PyData) (p : α → Bool) (r : PyData) (I : DEnv → Prop) : ∀ (xs : List α) (δ : DEnv), I δ →
    (∀ x ∈ xs, ∀ δ, I δ → ∃ δ1, t (mk x) δ = some δ1 ∧ if p x then ∃ δ2, (f δ1 h = .nx δ2 h ∨ f δ1 h = .ct δ2 h) ∧ I δ2 else f δ1 h = .rt r h) → if xs.all p then ∃ δ', dLoop t f (xs.map mk) δ h = .nx δ' h ∧ I δ' else dLoop t f (xs.map mk) δ h = .rt r h
  | [], δ, i, _ => by simpa using i
  | x :: xs, δ, i, k => by
    obtain ⟨δ1, e1, e2⟩ := k x (List.mem_cons_self ..) δ i
    by_cases hp : p x = true
    · rw [if_pos hp] at e2
      obtain ⟨δ2, e2, i2⟩ := e2
      have ih := loop_all mk p r I xs δ2 i2 fun y hy => k y (List.mem_cons_of_mem _ hy)
      have e3 : dLoop t f ((x :: xs).map mk) δ h = dLoop t f (xs.map mk) δ2 h := by
        rw [List.map_cons, dLoop, e1]
        rcases e2 with e2 | e2 <;> (simp only [e2]; rfl)
      rw [e3, List.all_cons, hp, Bool.true_and]
      exact ih
    · rw [if_neg hp] at e2
      have hp : p x = false := by simpa using hp
      rw [List.all_cons, hp, Bool.false_and, if_neg Bool.false_ne_true, List.map_cons, dLoop, e1]
      simp only [e2]
      rfl
theorem bits_code {l : List Nat} (h : isBits l) : ∀ c ∈ l, c < 1114112 := fun c hc => by
  rcases h c hc with e | e <;> rw [e] <;> decide
theorem isBits.take {l : List Nat} (h : isBits l) (n : Nat) : isBits (l.take n) := fun c hc => h c (List.mem_of_mem_take hc)
theorem isBits.append {l m : List Nat} (h : isBits l) (h2 : isBits m) : isBits (l ++ m) := fun c hc => (List.mem_append.mp hc).elim (h c) (h2 c)
theorem gEq_B {a b : List Nat} (ha : isBits a) (hb : isBits b) : gEq (sB a) (sB b) = some (decide (a = b)) := gEq_S (bits_code ha) (bits_code hb)
theorem gNe_B {a b : List Nat} (ha : isBits a) (hb : isBits b) : gNe (sB a) (sB b) = some (!decide (a = b)) := gNe_S (bits_code ha) (bits_code hb)
@[simp] theorem gLen_sB {a : List Nat} : gLen (sB a) = some (.int a.length) := gLen_S
@[simp] theorem tyD_sB {a : List Nat} : tyD (sB a) = "str" := rfl
@[simp] theorem gLt_sB {a b : List Nat} : gLt (sB a) (sB b) = some (decide (a < b)) := rfl
@[simp] theorem gGe_sB {a b : List Nat} : gGe (sB a) (sB b) = some (!decide (a < b)) := rfl
@[simp] theorem gItems_sB {a : List Nat} : gItems (sB a) = some (a.map fun c => .str (S [c])) := rfl
theorem gSl_sB {a : List Nat} {n : Nat} : gSl none (some (n : Int)) (sB a) = some (sB (a.take n)) := gSl_S_to
@[simp] theorem gLen_tup {l : List PyData} : gLen (.tuple l) = some (.int l.length) := rfl
@[simp] theorem gItems_tup {l : List PyData} : gItems (.tuple l) = some l := rfl
@[simp] theorem gItems_list {l : List PyData} : gItems (.list l) = some l := rfl
theorem gIn01 {c : Nat} (h : c = 48 ∨ c = 49) : gIn (.str (S [c])) (.str "01") = some true := by
  rw [show ("01" : Str) = S [48, 49] from lit_01, gIn_S]
  rcases h with rfl | rfl <;> rfl
theorem gIn01t {c : Nat} (h : c = 48 ∨ c = 49) : gIn (.str (S [c])) (.tuple [.str "0", .str "1"]) = some true := by
  rw [show ("0" : Str) = S [48] from lit_0, show ("1" : Str) = S [49] from lit_1]
  rcases h with rfl | rfl <;> decide +kernel
theorem gSl_from1 {l : List PyData} : gSl (some 1) none (.tuple l) = some (.tuple (l.drop 1)) := by
  show some (PyData.tuple (cutD l (some 1) none)) = _
  unfold cutD
  rw [HT.sIx_none, show (1 : Int) = ((1 : Nat) : Int) from rfl, HT.sIx_nat]
  cases l with
  | nil => rfl
  | cons x l =>
    rw [show min 1 (x :: l).length = 1 by simp]
    refine congrArg (fun z => some (PyData.tuple z)) (List.take_of_length_le ?_)
    simp
theorem gAll_of {α : Type} (g : α → Bool) (l : List α) : gAll (.list (l.map fun x => .bool (g x))) = some (.bool (l.all g)) := by
  simp [gAll]
theorem gAny_of {α : Type} (g : α → Bool) (l : List α) : gAny (.list (l.map fun x => .bool (g x))) = some (.bool (l.any g)) := by
  simp [gAny]
theorem all_true {α : Type} (l : List α) : (l.all fun _ => true) = true := by simp
end DL
namespace K79
open PySem PySem.Spec PyProof.Rows L2 DL
open SX (S)
structure Row (ls : List (List Nat)) : Prop where
  n : ls.length ≤ 200
  b : ∀ l ∈ ls, isBits l
  l : ∀ l ∈ ls, l.length ≤ 400
theorem pairs_mem {ls : List (List Nat)} {p : List Nat × List Nat} (h : p ∈ pairsL ls) : p.1 ∈ ls ∧ p.2 ∈ ls := by
  have := List.of_mem_zip h
  exact ⟨this.1, List.mem_of_mem_drop this.2⟩
theorem are_in_order_ok {ls : List (List Nat)} (R : Row ls) : d_are_in_order [.tuple (ls.map sB)] = .ok (.bool (ordB ls)) := by
  have hl : ls.length ≤ sizeLine := sL (by have := R.n; omega)
  have e := lc_of (vs := [3]) (t := tgN 3) (fi := dIt (dVar 0)) (fc := dYes) (fe := dAndV (dIsi "str" (dVar 3)) (dAndV (toB (dCmp gLe (dBlt (g1 gLen) [dVar 3]) (dC (.int 400)))) (dBlt (g1 gAll) [dLc [4] (tgN 4) (dIt (dVar 3)) (dYes) (toB (dCmp gIn (dVar 4) (dC (.str "01"))))]))) (δ := [.d (.tuple (ls.map sB)), .no, .no, .no, .no]) (h := []) (h1 := []) sB (fun _ => .bool true) (ns := ls)
    (by simp [ev_op_ok]) hl rfl (fun l hm => ⟨_, rfl, rfl, by
      have e1 := lc_of (vs := [4]) (t := tgN 4) (fi := dIt (dVar 3)) (fc := dYes) (fe := toB (dCmp gIn (dVar 4) (dC (.str "01")))) (δ := [.d (.tuple (ls.map sB)), .no, .no, .d (sB l), .no]) (h := []) (h1 := []) (fun c => PyData.str (S [c])) (fun _ => .bool true) (ns := l)
        (by simp [ev_op_ok]) (sL (by have := R.l l hm; omega)) rfl (fun c hc => ⟨_, rfl, rfl, by simp [wipeD, ev_op_ok, gIn01 (R.b l hm c hc)]⟩)
      have l4 : (l.length : Int) ≤ 400 := by exact_mod_cast R.l l hm
      have a1 := gAll_of (fun _ : Nat => true) l
      simp [wipeD, dAndV, ev_op_ok, isaB, gTru, l4, e1, a1]⟩)
  have a2 := gAll_of (fun _ : List Nat => true) ls
  have n2 : ¬ (200 : Int) < ls.length := by have := R.n; omega
  have lp := loop_all (t := tgTup 2 (tgCons (tgN 1) (tgCons (tgN 2) (tgNil)))) (f := sIf (dOr (dCmp gGe (dVar 1) (dVar 2)) (dCmp gEq (dSl (dVar 2) none (some (dBlt (g1 gLen) [dVar 1]))) (dVar 1))) (sRet (dC (.bool false))) (sNext)) (h := []) pB ordP (.bool false)
    (fun δ => ∃ v1 v2, δ = [.d (.tuple (ls.map sB)), v1, v2, .no, .no]) (pairsL ls) [.d (.tuple (ls.map sB)), .no, .no, .no, .no] ⟨_, _, rfl⟩ (fun p hp δ ⟨v1, v2, e⟩ => by
      subst e
      obtain ⟨h1, h2⟩ := pairs_mem hp
      refine ⟨[.d (.tuple (ls.map sB)), .d (sB p.1), .d (sB p.2), .no, .no], rfl, ?_⟩
      have g1 := gEq_B ((R.b _ h2).take p.1.length) (R.b _ h1)
      have g2 := gSl_sB (a := p.2) (n := p.1.length)
      have g3 := gEq_B (R.b _ h1) (R.b _ h1)
      by_cases c1 : p.1 < p.2 <;> by_cases c2 : p.2.take p.1.length = p.1 <;> simp [ordP, c1, c2, ev_op_ok, dSl, dPart, g2, g1, g3] <;> first | exact ⟨_, _, rfl⟩ | rfl)
  have z := zip_pairs ls
  rw [List.drop_one] at z
  simp [d_are_in_order, s_are_in_order, den0, env0, ev_op_ok, isaB, tyD, gTru, n2, e, a2]
  rw [show (dSl (dVar 0) (some (dC (.int 1))) none) [.d (.tuple (ls.map sB)), .no, .no, .no, .no] [] = .ok (.tuple ((ls.map sB).drop 1)) [] by simp [dSl, dPart, ev_op_ok, gSl_from1]]
  simp [ev_op_ok, gZipG, z]
  by_cases c : ordB ls = true
  · rw [show (pairsL ls).all ordP = ordB ls from rfl, if_pos c] at lp
    obtain ⟨δ', e1, _⟩ := lp
    rw [e1, c]
    simp
  · have c : ordB ls = false := by simpa using c
    rw [if_neg (by rw [show (pairsL ls).all ordP = ordB ls from rfl, c]; exact Bool.false_ne_true)] at lp
    rw [lp, c]
    simp
def mwW (T : Nat) : Nat → List Nat → List (List Nat)
  | _, [] => []
  | g, w :: ws => bitsL (sz T w + 1) ((2 * g + w) * 2 ^ (sz T w + 1) / (2 * T)) :: mwW T (g + w) ws
theorem mw_val (P Q m : Nat) (hQ : 0 < Q) : P / Nat.gcd P Q * m / (Q / Nat.gcd P Q) = P * m / Q := by
  have hg : 0 < Nat.gcd P Q := Nat.gcd_pos_of_pos_right _ hQ
  obtain ⟨p, hp⟩ := Nat.gcd_dvd_left P Q
  obtain ⟨q, hq⟩ := Nat.gcd_dvd_right P Q
  generalize Nat.gcd P Q = d at *
  subst hp hq
  rw [Nat.mul_div_cancel_left _ hg, Nat.mul_div_cancel_left _ hg, Nat.mul_assoc, Nat.mul_div_mul_left _ _ hg]
theorem mwL_eq (T : Nat) (hT : 0 < T) : ∀ (g : Nat) (ws : List Nat), mwL T g ws = (mwW T g ws).map sB
  | _, [] => rfl
  | g, w :: ws => by
    rw [mwL, mwW, mwL_eq T hT (g + w) ws, mw_val _ _ _ (by omega)]
    rfl
theorem mwW_len (T : Nat) : ∀ (g : Nat) (ws : List Nat), (mwW T g ws).length = ws.length
  | _, [] => rfl
  | g, w :: ws => by simp [mwW, mwW_len T (g + w) ws]
theorem sz_le (T w : Nat) : sz T w ≤ 60 := by have := (szG_le T w 60 0).2; unfold sz; omega
theorem mwW_mem (T : Nat) : ∀ (g : Nat) (ws : List Nat) (l : List Nat), l ∈ mwW T g ws → isBits l ∧ l.length ≤ 61
  | _, [], l, h => nomatch h
  | g, w :: ws, l, h => by
    rw [mwW, List.mem_cons] at h
    rcases h with rfl | h
    · refine ⟨bitsL_bits _ _, ?_⟩
      rw [bitsL_len]
      have := sz_le T w
      omega
    · exact mwW_mem T (g + w) ws l h
theorem mid_in (T g w : Nat) (hT : 0 < T) (h2 : T < 2 ^ 60) (hw : 1 ≤ w) (hg : g + w ≤ T) : g * 2 ^ (sz T w + 1) < (2 * g + w) * 2 ^ (sz T w + 1) / (2 * T) * T ∧ ((2 * g + w) * 2 ^ (sz T w + 1) / (2 * T) + 1) * T ≤ (g + w) * 2 ^ (sz T w + 1) := by
  have h3 : T ≤ w * 2 ^ sz T w := szG_ok T w 60 0 (by
    have : 1 * 2 ^ 60 ≤ w * 2 ^ 60 := Nat.mul_le_mul_right _ hw
    rw [Nat.zero_add]
    omega)
  have e : ∀ y, y * 2 ^ (sz T w + 1) = 2 * (y * 2 ^ sz T w) := fun y => by rw [Nat.pow_succ, Nat.mul_comm _ 2, Nat.mul_left_comm]
  rw [e, e, e, Nat.mul_div_mul_left _ _ (by decide)]
  generalize 2 ^ sz T w = A at *
  have q1 : (2 * g + w) * A / T * T ≤ (2 * g + w) * A := Nat.div_mul_le_self _ _
  have q2 : (2 * g + w) * A < (2 * g + w) * A / T * T + T := Nat.lt_div_mul_add hT
  have q3 : (2 * g + w) * A = 2 * (g * A) + w * A := by rw [Nat.add_mul, Nat.mul_assoc]
  have q4 : (g + w) * A = g * A + w * A := Nat.add_mul ..
  generalize (2 * g + w) * A / T = X at *
  rw [show (X + 1) * T = X * T + T by rw [Nat.add_mul, Nat.one_mul]]
  omega
theorem mwW_order (T : Nat) (hT : 0 < T) (h2 : T < 2 ^ 60) : ∀ (g : Nat) (ws : List Nat), g + ws.sum ≤ T → (∀ w ∈ ws, 1 ≤ w) → ordB (mwW T g ws) = true
  | _, [], _, _ => rfl
  | _, [_], _, _ => rfl
  | g, w :: v :: ws, hs, hw => by
    have ih := mwW_order T hT h2 (g + w) (v :: ws) (by simp only [List.sum_cons] at hs ⊢; omega) (fun n hn => hw n (List.mem_cons_of_mem _ hn))
    have w1 := hw w (List.mem_cons_self ..)
    have v1 := hw v (List.mem_cons_of_mem _ (List.mem_cons_self ..))
    simp only [List.sum_cons] at hs
    have a := mid_in T g w hT h2 w1 (by omega)
    have b := mid_in T (g + w) v hT h2 v1 (by omega)
    rw [mwW] at ih
    rw [mwW, mwW, ordB_cons, ih, Bool.and_true]
    generalize (2 * g + w) * 2 ^ (sz T w + 1) / (2 * T) = x1 at *
    generalize (2 * (g + w) + v) * 2 ^ (sz T v + 1) / (2 * T) = x2 at *
    have p1 : 0 < 2 ^ (sz T w + 1) := Nat.two_pow_pos _
    have p2 : 0 < 2 ^ (sz T v + 1) := Nat.two_pow_pos _
    have key := bits_lt' (k1 := sz T w + 1) (k2 := sz T v + 1) (x1 := x1) (x2 := x2)
    unfold ordP
    rw [bitsL_len]
    generalize sz T w + 1 = k1 at *
    generalize sz T v + 1 = k2 at *
    have c1 : x1 < 2 ^ k1 := by
      have : (g + w) * 2 ^ k1 ≤ T * 2 ^ k1 := Nat.mul_le_mul_right _ (by omega)
      have : (x1 + 1) * T ≤ 2 ^ k1 * T := by rw [Nat.mul_comm (2 ^ k1)]; omega
      have := Nat.le_of_mul_le_mul_right this hT
      omega
    have c2 : x2 < 2 ^ k2 := by
      have : (g + w + v) * 2 ^ k2 ≤ T * 2 ^ k2 := Nat.mul_le_mul_right _ (by omega)
      have : (x2 + 1) * T ≤ 2 ^ k2 * T := by rw [Nat.mul_comm (2 ^ k2)]; omega
      have := Nat.le_of_mul_le_mul_right this hT
      omega
    have k := key c1 c2 (by
      have m1 := Nat.mul_le_mul_right (2 ^ k2) a.2
      have m2 := Nat.mul_le_mul_right (2 ^ k1) (Nat.le_of_lt b.1)
      have e1 : (x1 + 1) * T * 2 ^ k2 = (x1 + 1) * 2 ^ k2 * T := by simp only [Nat.mul_assoc, Nat.mul_comm, Nat.mul_left_comm]
      have e2 : x2 * T * 2 ^ k1 = x2 * 2 ^ k1 * T := by simp only [Nat.mul_assoc, Nat.mul_comm, Nat.mul_left_comm]
      have e3 : (g + w) * 2 ^ k1 * 2 ^ k2 = (g + w) * 2 ^ k2 * 2 ^ k1 := by simp only [Nat.mul_assoc, Nat.mul_comm, Nat.mul_left_comm]
      rw [e1] at m1
      rw [e2] at m2
      exact Nat.le_of_mul_le_mul_right (by omega : (x1 + 1) * 2 ^ k2 * T ≤ x2 * 2 ^ k1 * T) hT)
    rw [Bool.and_eq_true, decide_eq_true_eq, Bool.not_eq_true', decide_eq_false_iff_not]
    exact k
theorem middle_row {ws : List Nat} (W : Wn ws) : Row (mwW ws.sum 0 ws) := ⟨by rw [mwW_len]; exact W.l2, fun l h => (mwW_mem _ _ _ l h).1, fun l h => by have := (mwW_mem _ _ _ l h).2; omega⟩
theorem middle_order {ws : List Nat} (W : Wn ws) : d_are_in_order [.tuple (mwL ws.sum 0 ws)] = .ok (.bool true) := by
  have hs := W.sum
  rw [mwL_eq _ (by omega), are_in_order_ok (middle_row W), mwW_order _ (by omega) (by omega) 0 ws (by omega) (fun n hn => (W.p n hn).1)]
theorem common_N (p q : Nat) : d_common [.int p, .int q] = .ok (.int (Nat.gcd p q : Nat)) := common_ok p q
theorem is_fraction_ok (p q : Nat) (hq : 0 < q) (hc : Nat.gcd p q = 1) : d_is_fraction [pq p q] = .ok (.bool true) := by
  have e1 : gIx (pq p q) (.int 0) = some (.int p) := rfl
  have e2 : gIx (pq p q) (.int 1) = some (.int q) := rfl
  have e3 : gLen (pq p q) = some (.int 2) := rfl
  have e4 : isaB (tyD (pq p q)) "tuple" = true := rfl
  have e5 : (1 : Int) ≤ q := by omega
  have c := common_N p q
  rw [hc] at c
  have t : d_is_tuple_of [pq p q, .int 2] = .ok (.bool true) := by
    simp [d_is_tuple_of, s_is_tuple_of, den0, env0, dAndV, ev_op_ok, e3, e4, gTru, gEq_i]
  simp [d_is_fraction, s_is_fraction, den0, env0, dAndV, ev_op_ok, e1, e2, t, gTru, e5, c, gEq_i]
theorem is_within_ok (x a b : Int) : d_is_within [.int x, .int a, .int b] = .ok (.bool (decide (a ≤ x) && decide (x ≤ b))) := by
  by_cases h : a ≤ x <;> simp [d_is_within, s_is_within, den0, env0, dAndV, ev_op_ok, gTru, dChain, h]
theorem point_bits_ok (p q k : Nat) (hq : 0 < q) (hc : Nat.gcd p q = 1) (hp : p < q) (hq2 : q < 2 ^ 200) (hk : k ≤ 400) : d_point_bits [pq p q, .int (k : Int)] = .ok (.str (S (bitsL k (p * 2 ^ k / q)))) := by
  have e1 : gIx (pq p q) (.int 0) = some (.int p) := rfl
  have e2 : gIx (pq p q) (.int 1) = some (.int q) := rfl
  have f := is_fraction_ok p q hq hc
  have fb := first_bits_ok p q k hp hq2 (by omega)
  have w := is_within_ok k 0 400
  have k1 : (k : Int) ≤ 400 := by omega
  simp [d_point_bits, s_point_bits, den0, env0, ev_op_ok, f, gTru, dChain, e1, e2, hp, w, k1, fb]
theorem check_bits_ok {l : List Nat} (hb : isBits l) (hl : l.length ≤ 400) : d_check_bits [sB l] = .ok .none := by
  have e := lc_of (vs := [1]) (t := tgN 1) (fi := dIt (dVar 0)) (fc := dYes) (fe := toB (dCmp gIn (dVar 1) (dC (.str "01")))) (δ := [.d (sB l), .no]) (h := []) (h1 := []) (fun c => PyData.str (S [c])) (fun _ => .bool true) (ns := l)
    (by simp [ev_op_ok]) (sL (by omega)) rfl (fun c hc => ⟨_, rfl, rfl, by simp [wipeD, ev_op_ok, gIn01 (hb c hc)]⟩)
  have a := gAll_of (fun _ : Nat => true) l
  have h4 : ¬ (400 : Int) < l.length := by omega
  simp [d_check_bits, s_check_bits, den0, env0, ev_op_ok, isaB, gTru, h4, e, a]
theorem gShl_1 (k : Nat) (h : k ≤ 100000) : gShl (.int 1) (.int (k : Int)) = some (.int ((2 ^ k : Nat) : Int)) := by
  have := shl_ok 1 k (by decide) h
  rw [Nat.one_mul] at this
  exact this
theorem point_of_ok {l : List Nat} (hb : isBits l) (hl : l.length ≤ 150) : d_point_of [sB l] = .ok (frN (valL l) (2 ^ l.length)) := by
  obtain ⟨δ, e, v, hv⟩ := loop_ind (t := tgN 2) (f := sSet 1 (dBin gAdd (dBin gMul (dC (.int 2)) (dVar 1)) (dIf (dCmp gEq (dVar 2) (dC (.str "1"))) (dC (.int 1)) (dC (.int 0))))) (h := [])
    (fun j δ => ∃ v, δ = [.d (sB l), .d (.int (valL (l.take j) : Nat)), v]) (l.map fun c => .str (S [c])) 0 [.d (sB l), .d (.int 0), .no] ⟨.no, by simp [valL]⟩ (fun j d δ hd ⟨v, e⟩ => by
    subst e
    rw [List.getElem?_map] at hd
    obtain ⟨c, hc, rfl⟩ := Option.map_eq_some_iff.mp hd
    have hj := (List.getElem?_eq_some_iff.mp hc).1
    have ec := (List.getElem?_eq_some_iff.mp hc).2
    refine ⟨_, _, rfl, .inl ?_, .d (.str (S [c])), rfl⟩
    have e2 : l.take (0 + j + 1) = l.take (0 + j) ++ [c] := by rw [Nat.zero_add, List.take_succ_eq_append_getElem hj, ec]
    rw [e2, valL_snoc]
    have q := gEq_B (a := [c]) (b := [49]) (fun x hx => by rw [List.mem_singleton.mp hx]; exact hb c (List.mem_of_getElem? hc)) (fun x hx => by rw [List.mem_singleton.mp hx]; exact .inr rfl)
    rw [show sB [49] = .str "1" from congrArg PyData.str lit_1.symm] at q
    change gEq (.str (S [c])) (.str "1") = _ at q
    rcases hb c (List.mem_of_getElem? hc) with rfl | rfl
    · simp [ev_op_ok, gMul_ii (mul2_ok _), q]
    · simp [ev_op_ok, gMul_ii (mul2_ok _), q])
  have f := frac_okN (valL l) (2 ^ l.length) (Nat.two_pow_pos _) (Nat.pow_lt_pow_right (by decide) (by omega))
  have s := gShl_1 l.length (by omega)
  rw [Nat.zero_add, List.length_map, List.take_length] at hv
  subst hv
  have cb := check_bits_ok hb (by omega)
  simp only [d_point_of, s_point_of, den0, env0]
  simp [ev_op_ok, cb, e, s, -Int.natCast_pow]
  rw [f]
  rfl
theorem bitsL_val : ∀ (k n : Nat), n < 2 ^ k → valL (bitsL k n) = n
  | 0, n, h => by simp at h; subst h; rfl
  | k + 1, n, h => by
    rw [bitsL_snoc, valL_snoc, bitsL_val k (n / 2) (by rw [Nat.pow_succ] at h; omega)]
    omega
end K79
namespace DL
open PySem PySem.Spec PyProof.Rows L2
open SX (S)
theorem mulOk_lN {a : Nat} {b : Int} (h : a < 2 ^ 64) : mulOk (a : Int) b = true := mulOk_l ⟨by omega, by omega⟩
theorem mulOk_rN {a : Int} {b : Nat} (h : b < 2 ^ 64) : mulOk a (b : Int) = true := mulOk_r ⟨by omega, by omega⟩
theorem loop_rt {t : TF} {f : SF} {d r : PyData} {ds : List PyData} {δ δ1 : DEnv} {h h2 : HS} (e1 : t d δ = some δ1) (e2 : f δ1 h = .rt r h2) : dLoop t f (d :: ds) δ h = .rt r h2 := by
  rw [dLoop, e1]
  simp only [e2]
  rfl
def enL : Nat → List PyData → List PyData
  | _, [] => []
  | k, w :: ws => .tuple [.int (k : Nat), w] :: enL (k + 1) ws
theorem enum_enL (ws : List PyData) : (ws.mapIdx fun i x => PyData.tuple [.int (i : Nat), x]) = enL 0 ws := by
  have : ∀ (k : Nat) (ws : List PyData), (ws.mapIdx fun i x => PyData.tuple [.int ((k + i : Nat) : Int), x]) = enL k ws := by
    intro k ws
    induction ws generalizing k with
    | nil => rfl
    | cons w ws ih =>
      rw [List.mapIdx_cons, enL, ← ih (k + 1)]
      congr 1
      apply List.mapIdx_eq_mapIdx_iff.mpr
      intro i hi
      simp only [Nat.add_assoc, Nat.add_comm 1]
  have := this 0 ws
  simp only [Nat.zero_add] at this
  exact this
end DL
namespace K79
open PySem PySem.Spec PyProof.Rows L2 DL
open SX (S)
theorem frN_mul (a b c : Nat) (hc : 0 < c) : frN (a * c) (b * c) = frN a b := by
  unfold frN
  rw [Nat.gcd_mul_right, Nat.mul_div_mul_right _ _ hc, Nat.mul_div_mul_right _ _ hc]
theorem frN_one (b : Nat) : frN 1 b = pq 1 b := by
  unfold frN pq
  rw [Nat.gcd_one_left, Nat.div_one, Nat.div_one]
theorem plus_ok (a b : Nat) (hb : 0 < b) (ha : a < 2 ^ 32) (hb2 : b < 2 ^ 32) : d_plus [frN a b, pq 1 b] = .ok (frN (a + 1) b) := by
  have hg : 0 < Nat.gcd a b := Nat.gcd_pos_of_pos_right _ hb
  obtain ⟨p, hp⟩ := Nat.gcd_dvd_left a b
  obtain ⟨q, hq⟩ := Nat.gcd_dvd_right a b
  have e0 : frN a b = pq p q := by
    unfold frN pq
    rw [Nat.div_eq_of_eq_mul_right hg hp, Nat.div_eq_of_eq_mul_right hg hq]
  have hpa : p ≤ a := by rw [hp]; exact Nat.le_mul_of_pos_left _ hg
  have hqb : q ≤ b := by have := Nat.le_mul_of_pos_left q hg; omega
  have hq0 : 0 < q := Nat.pos_of_mul_pos_left (a := Nat.gcd a b) (by omega)
  have e1 : frN (p * b + 1 * q) (q * b) = frN (a + 1) b := by
    rw [← frN_mul (p * b + 1 * q) (q * b) (Nat.gcd a b) hg]
    have x1 : (p * b + 1 * q) * Nat.gcd a b = (a + 1) * b := by
      rw [Nat.one_mul, Nat.add_mul, Nat.add_mul, Nat.one_mul, Nat.mul_comm q, ← hq, Nat.mul_comm (p * b), ← Nat.mul_assoc, ← hp]
    have x2 : q * b * Nat.gcd a b = b * b := by
      rw [Nat.mul_comm (q * b), ← Nat.mul_assoc, ← hq]
    rw [x1, x2, frN_mul _ _ _ hb]
  have hD : q * b < 2 ^ 200 := by
    have : q * b ≤ 2 ^ 32 * 2 ^ 32 := Nat.mul_le_mul (by omega) (by omega)
    omega
  have f := frac_okN (p * b + 1 * q) (q * b) (Nat.mul_pos hq0 hb) hD
  rw [e1] at f
  push_cast at f
  have i0 : gIx (pq p q) (.int 0) = some (.int p) := rfl
  have i1 : gIx (pq p q) (.int 1) = some (.int q) := rfl
  have i2 : gIx (pq 1 b) (.int 0) = some (.int 1) := rfl
  have i3 : gIx (pq 1 b) (.int 1) = some (.int b) := rfl
  have m1 : mulOk (p : Int) (b : Int) = true := mulOk_lN (by omega)
  have m2 : mulOk (q : Int) (b : Int) = true := mulOk_lN (by omega)
  have m3 : mulOk 1 (q : Int) = true := mulOk_rN (by omega)
  rw [e0]
  simp only [d_plus, s_plus, den0, env0]
  simp [ev_op_ok, i0, i1, i2, i3, gMul_ii m1, gMul_ii m2, gMul_ii m3] at f ⊢
  rw [f]
  rfl
theorem valL_lt : ∀ (l : List Nat), isBits l → valL l < 2 ^ l.length := by
  intro l hb
  rw [← List.reverse_reverse l] at hb ⊢
  generalize l.reverse = m at *
  induction m with
  | nil => decide
  | cons c m ih =>
    rw [List.reverse_cons, valL_snoc, List.length_append, List.length_singleton, Nat.pow_succ]
    have := ih fun x hx => hb x (by rw [List.reverse_cons]; exact List.mem_append_left _ hx)
    have := hb c (by simp)
    omega
theorem span_of_ok {l : List Nat} (hb : isBits l) (hl : l.length ≤ 30) : d_span_of [sB l] = .ok (.tuple [frN (valL l) (2 ^ l.length), frN (valL l + 1) (2 ^ l.length)]) := by
  have p := point_of_ok hb (by omega)
  have s := gShl_1 l.length (by omega)
  have lt : 2 ^ l.length < 2 ^ 32 := Nat.pow_lt_pow_right (by decide) (by omega)
  have f := frac_okN 1 (2 ^ l.length) (Nat.two_pow_pos _) (by omega)
  rw [frN_one] at f
  have pl := plus_ok (valL l) (2 ^ l.length) (Nat.two_pow_pos _) (by have := valL_lt l hb; omega) lt
  generalize 2 ^ l.length = b at *
  simp only [d_span_of, s_span_of, den0, env0]
  simp [ev_op_ok, p, s]
  rw [show ((1 : Nat) : Int) = 1 from rfl] at f
  rw [f]
  simp [ev_op_ok, pl]
def plc (p q T : Nat) : Nat → Nat → List Nat → Nat
  | _, k, [] => k
  | g, k, w :: ws => if p * T < (g + w) * q then k else plc p q T (g + w) (k + 1) ws
theorem plc_le (p q T : Nat) : ∀ (g k : Nat) (ws : List Nat), k ≤ plc p q T g k ws
  | _, k, [] => Nat.le_refl _
  | g, k, w :: ws => by
    rw [plc]
    split
    · exact Nat.le_refl _
    · have := plc_le p q T (g + w) (k + 1) ws
      omega
theorem less_ok (p q a T : Nat) (hT : 0 < T) (h2 : T < 2 ^ 60) (ha : a ≤ T) : d_less [pq p q, frN a T] = .ok (.bool (decide (p * T < a * q))) := by
  have hg : 0 < Nat.gcd a T := Nat.gcd_pos_of_pos_right _ hT
  obtain ⟨x, hx⟩ := Nat.gcd_dvd_left a T
  obtain ⟨y, hy⟩ := Nat.gcd_dvd_right a T
  have e0 : frN a T = pq x y := by
    unfold frN pq
    rw [Nat.div_eq_of_eq_mul_right hg hx, Nat.div_eq_of_eq_mul_right hg hy]
  have hpa : x ≤ a := by rw [hx]; exact Nat.le_mul_of_pos_left _ hg
  have hqb : y ≤ T := by have := Nat.le_mul_of_pos_left y hg; omega
  have i0 : gIx (pq p q) (.int 0) = some (.int p) := rfl
  have i1 : gIx (pq p q) (.int 1) = some (.int q) := rfl
  have i2 : gIx (pq x y) (.int 0) = some (.int x) := rfl
  have i3 : gIx (pq x y) (.int 1) = some (.int y) := rfl
  have m1 : mulOk (p : Int) (y : Int) = true := mulOk_rN (by omega)
  have m2 : mulOk (x : Int) (q : Int) = true := mulOk_lN (by omega)
  rw [e0]
  simp only [d_less, s_less, den0, env0]
  simp [ev_op_ok, i0, i1, i2, i3, gMul_ii m1, gMul_ii m2]
  have k1 : p * T = Nat.gcd a T * (p * y) := by rw (occs := .pos [1]) [hy]; exact Nat.mul_left_comm _ _ _
  have k2 : a * q = Nat.gcd a T * (x * q) := by rw (occs := .pos [1]) [hx]; exact Nat.mul_assoc _ _ _
  rw [k1, k2, Nat.mul_lt_mul_left hg, ← Int.natCast_mul, ← Int.natCast_mul, Int.ofNat_lt]
theorem place_loop (x : PyData) (p q T : Nat) (hT : 0 < T) (h2 : T < 2 ^ 60) : ∀ (ws : List Nat) (g k : Nat) (v4 v5 : SV), p * T < (g + ws.sum) * q → g + ws.sum ≤ T → ws ≠ [] →
    dLoop (tgTup 2 (tgCons (tgN 4) (tgCons (tgN 5) (tgNil)))) (sSeq (sSet 3 (dBin gAdd (dVar 3) (dVar 5))) (sIf (dTru (dCall0 d_less [dVar 1, dCall0 d_frac [dVar 3, dVar 2]])) (sRet (dVar 4)) (sNext)))
      (enL k (ws.map nI)) [.d x, .d (pq p q), .d (.int (T : Int)), .d (.int (g : Int)), v4, v5] [] = .rt (.int (plc p q T g k ws : Nat)) []
  | [], _, _, _, _, _, _, h => absurd rfl h
  | w :: ws, g, k, v4, v5, h, hs, _ => by
    rw [List.sum_cons, ← Nat.add_assoc] at h hs
    have f := frac_okN (g + w) T hT (by omega)
    have l := less_ok p q (g + w) T hT h2 (by omega)
    rw [List.map_cons, enL, plc]
    have s1 : sSeq (sSet 3 (dBin gAdd (dVar 3) (dVar 5))) (sIf (dTru (dCall0 d_less [dVar 1, dCall0 d_frac [dVar 3, dVar 2]])) (sRet (dVar 4)) (sNext)) [.d x, .d (pq p q), .d (.int (T : Int)), .d (.int (g : Int)), .d (.int (k : Nat)), .d (nI w)] [] = if p * T < (g + w) * q then .rt (.int (k : Nat)) [] else .nx [.d x, .d (pq p q), .d (.int (T : Int)), .d (.int ((g + w : Nat) : Int)), .d (.int (k : Nat)), .d (nI w)] [] := by
      rw [Int.natCast_add] at f
      by_cases c : p * T < (g + w) * q <;> simp [ev_op_ok, nI, f, l, c, gTru]
    by_cases c : p * T < (g + w) * q
    · rw [if_pos c] at s1 ⊢
      exact loop_rt rfl s1
    · rw [if_neg c] at s1 ⊢
      cases ws with
      | nil => simp at h; exact absurd h c
      | cons v ws => rw [loop_cons rfl s1, place_loop x p q T hT h2 (v :: ws) (g + w) (k + 1) _ _ h hs (by simp)]
theorem place_in_ok {ws : List Nat} (W : Wn ws) (p q : Nat) (hq : 0 < q) (hc : Nat.gcd p q = 1) (hp : p < q) : d_place_in [tI ws, pq p q] = .ok (.int (plc p q ws.sum 0 0 ws : Nat)) := by
  have hs := W.sum
  have f := is_fraction_ok p q hq hc
  have i0 : gIx (pq p q) (.int 0) = some (.int p) := rfl
  have i1 : gIx (pq p q) (.int 1) = some (.int q) := rfl
  have hi : gItems (tI ws) = some (ws.map nI) := rfl
  have hne : ws ≠ [] := fun z => by have := W.l1; rw [z] at this; exact absurd this (by decide)
  have hen : (ws.map nI).mapIdx (fun i x => PyData.tuple [.int (i : Nat), x]) = enL 0 (ws.map nI) := enum_enL _
  have e := place_loop (tI ws) p q ws.sum (by omega) (by omega) ws 0 0 .no .no (by rw [Nat.zero_add, Nat.mul_comm p]; exact Nat.mul_lt_mul_of_pos_left hp (by omega)) (by omega) hne
  rw [show ((0 : Nat) : Int) = 0 from rfl] at e
  simp [d_place_in, s_place_in, den0, env0, ev_op_ok, weights_ok W, f, gTru, dChain, i0, i1, hp, sum_ints, gEnumG, hi, hen, e]
end K79
namespace DL
open PySem PySem.Spec PyProof.Rows L2
open SX (S)
theorem shaped_row : ∀ {ls : List (List Nat)}, (∀ l ∈ ls, isBits l) → SeqAt.shaped (.list (ls.map sB)) = true := by
  intro ls hb
  have h1 : PyData.canLayAll0 (ls.map sB) = true ∧ PyData.depthAll (ls.map sB) = 0 := by
    induction ls with
    | nil => exact ⟨rfl, rfl⟩
    | cons l ls ih =>
      obtain ⟨i1, i2⟩ := ih fun x hx => hb x (List.mem_cons_of_mem _ hx)
      have o := okS (bits_code (hb l (List.mem_cons_self ..)))
      refine ⟨?_, ?_⟩
      · simp [PyData.canLayAll0, i1, sB, PyData.canLay0, o]
      · simp [PyData.depthAll, i2, sB, PyData.depth]
  simp [SeqAt.shaped, PyData.canLay0, PyData.depth, h1.1, h1.2]
theorem gNe_nil {ls : List (List Nat)} (hb : ∀ l ∈ ls, isBits l) : gNe (.list (ls.map sB)) (.list []) = some (!ls.isEmpty) := by
  have h2 : SeqAt.shaped (.list []) = true := by decide +kernel
  unfold gNe
  rw [shaped_row hb, h2]
  cases ls with
  | nil => simp [PyData.eqv, PyData.eqvAll]
  | cons l ls => simp [PyData.eqv, PyData.eqvAll]
theorem gPop_snoc {l : List PyData} {x : PyData} : gPop (l ++ [x]) = some (x, l) := by
  simp [gPop]
theorem gIn_row {l : List Nat} {ls : List (List Nat)} : gIn (sB l) (.tuple (ls.map sB)) = some (decide (l ∈ ls)) := by
  have h : (ls.map sB).all flatD = true := by simp [List.all_eq_true, sB, flatD]
  show (if flatD (sB l) && (ls.map sB).all flatD then _ else _) = _
  rw [h, show flatD (sB l) = true from rfl]
  rw [Bool.and_self, if_pos rfl, List.any_map]
  congr 1
  induction ls with
  | nil => rfl
  | cons m ls ih =>
    have ih := ih (by simp [List.all_eq_true, sB, flatD])
    rw [List.any_cons, ih]
    have : (PyData.eqv (sB m) (sB l)) = decide (m = l) := by simp [PyData.eqv, sB, SX.S_beq_eq]
    change (PyData.eqv (sB m) (.str (S l))) = decide (m = l) at this
    simp [this, List.mem_cons, eq_comm]
def srt (ws : List (List Nat)) : List (List Nat) := ws.mergeSort fun a b => !decide (b < a)
theorem sort_ok {ws : List (List Nat)} (h : ws.length ≤ 1000) : gSort (.list (ws.map sB)) = some (.list ((srt ws).map sB)) := by
  have ok : sortOk (ws.map sB) = true := by
    unfold sortOk
    rw [Bool.and_eq_true, Bool.and_eq_true, Bool.and_eq_true]
    refine ⟨⟨⟨?_, ?_⟩, ?_⟩, ?_⟩
    · simp [List.all_eq_true, sB, PySem.W.alike]
    · rw [Bool.or_eq_true]
      right
      simp [List.all_eq_true, sB, isOth]
    · simp [List.all_eq_true, sB, PyData.depth]
    · simp; omega
  have e : gSort (.list (ws.map sB)) = if sortOk (ws.map sB) then some (.list (sortD (ws.map sB))) else none := rfl
  rw [e, ok, if_pos rfl]
  unfold sortD srt
  rw [List.map_mergeSort (s := PySem.W.dataLe false id) (r := fun a b => !decide (b < a)) (f := sB)]
  intro a _ b _
  rw [PySem.W.dataLe_eq]
  show (!decide (b < a)) = !PySem.W.dataLt (sB b) (sB a)
  unfold sB
  rw [PySem.W.dataLt_str]
theorem srt_perm (ws : List (List Nat)) : (srt ws).Perm ws := List.mergeSort_perm _ _
theorem srt_len (ws : List (List Nat)) : (srt ws).length = ws.length := (srt_perm ws).length_eq
def apart (a b : List Nat) : Prop := a.take b.length ≠ b ∧ b.take a.length ≠ a
theorem srt_order {ws : List (List Nat)} (h : ws.Pairwise apart) : ordB (srt ws) = true := by
  have h1 : (srt ws).Pairwise apart := ((srt_perm ws).pairwise_iff fun h => ⟨h.2, h.1⟩).mpr h
  have h2 : (srt ws).Pairwise fun a b => (!decide (b < a)) = true := List.pairwise_mergeSort (fun a b c p q => by
    simp only [Bool.not_eq_true', decide_eq_false_iff_not] at p q ⊢
    exact List.not_lt.mpr (List.le_trans (List.not_lt.mp p) (List.not_lt.mp q))) (fun a b => by
    by_cases c : b < a
    · have := List.lt_asymm c
      simp [c, this]
    · simp [c]) ws
  generalize srt ws = ls at h1 h2
  induction ls with
  | nil => rfl
  | cons a ls ih =>
    cases ls with
    | nil => rfl
    | cons b ls =>
      rw [ordB_cons, ih (List.pairwise_cons.mp h1).2 (List.pairwise_cons.mp h2).2, Bool.and_true]
      have p := (List.pairwise_cons.mp h1).1 b (List.mem_cons_self ..)
      have q := (List.pairwise_cons.mp h2).1 b (List.mem_cons_self ..)
      unfold ordP
      simp only [Bool.not_eq_true', decide_eq_false_iff_not] at q
      have lt : a < b := by
        rcases List.le_iff_lt_or_eq.mp (List.not_lt.mp q) with z | z
        · exact z
        · exact absurd (by rw [z, List.take_length]) p.1
      simp [lt, p.2]
end DL
namespace K79
open PySem PySem.Spec PyProof.Rows L2 DL
open SX (S)
theorem bad_weights : ∀ x ∈ ([.none, .tuple [], .list [.int 1], .tuple [.int 0], .tuple [.int (-1)], .tuple [.bool true], .tuple [.int 1000000000001], .tuple (List.replicate 201 (.int 1)), .int 5, .str "1"] : List PyData), d_check_weights [x] = .exc ⟨"BadWeights", none⟩ := by
  intro x hx
  simp only [List.mem_cons, List.not_mem_nil, or_false] at hx
  rcases hx with rfl | rfl | rfl | rfl | rfl | rfl | rfl | rfl | rfl | rfl
  · simp [d_check_weights, s_check_weights, den0, env0, ev_op_ok, d_are_counts, s_are_counts, d_are_integers, s_are_integers, dAndV, isaB, tyD, gTru]
  · simp [d_check_weights, s_check_weights, den0, env0, ev_op_ok, d_are_counts, s_are_counts, d_are_integers, s_are_integers, dAndV, isaB, tyD, gTru, dLc, lcLoop, wipeD, isO, gAll, asBools, dChain]
  · simp [d_check_weights, s_check_weights, den0, env0, ev_op_ok, d_are_counts, s_are_counts, d_are_integers, s_are_integers, dAndV, isaB, tyD, gTru]
  · simp [d_check_weights, s_check_weights, den0, env0, ev_op_ok, d_are_counts, s_are_counts, d_are_integers, s_are_integers, dAndV, isaB, tyD, gTru, dLc, lcLoop, wipeD, isO, gAll, asBools, dChain, sizeLine_eq, gPow]
  · simp [d_check_weights, s_check_weights, den0, env0, ev_op_ok, d_are_counts, s_are_counts, d_are_integers, s_are_integers, dAndV, isaB, tyD, gTru, dLc, lcLoop, wipeD, isO, gAll, asBools, dChain, sizeLine_eq, gPow]
  · simp [d_check_weights, s_check_weights, den0, env0, ev_op_ok, d_are_counts, s_are_counts, d_are_integers, s_are_integers, d_is_integer, s_is_integer, dAndV, isaB, tyD, gTru, dLc, lcLoop, wipeD, isO, gAll, asBools, dChain, sizeLine_eq, gPow]
  · simp [d_check_weights, s_check_weights, den0, env0, ev_op_ok, d_are_counts, s_are_counts, d_are_integers, s_are_integers, dAndV, isaB, tyD, gTru, dLc, lcLoop, wipeD, isO, gAll, asBools, dChain, sizeLine_eq, gPow]
  · have c := are_counts_ok (List.replicate 201 1) (by simp) (fun n hn => by rw [List.eq_of_mem_replicate hn]; decide)
    rw [List.map_replicate] at c
    simp [d_check_weights, s_check_weights, den0, env0, ev_op_ok, c, gTru, dChain, -List.reduceReplicate]
  · simp [d_check_weights, s_check_weights, den0, env0, ev_op_ok, d_are_counts, s_are_counts, d_are_integers, s_are_integers, dAndV, isaB, tyD, gTru]
  · simp [d_check_weights, s_check_weights, den0, env0, ev_op_ok, d_are_counts, s_are_counts, d_are_integers, s_are_integers, dAndV, isaB, tyD, gTru]
theorem bad_middles {x : PyData} (h : d_check_weights [x] = .exc ⟨"BadWeights", none⟩) : d_middles [x] = .exc ⟨"BadWeights", none⟩ := by
  simp [d_middles, s_middles, den0, env0, h]
theorem bad_middle_words {x : PyData} (h : d_check_weights [x] = .exc ⟨"BadWeights", none⟩) : d_middle_words [x] = .exc ⟨"BadWeights", none⟩ := by
  simp [d_middle_words, s_middle_words, den0, env0, h]
theorem bad_least_words {x : PyData} (h : d_check_weights [x] = .exc ⟨"BadWeights", none⟩) : d_least_words [x] = .exc ⟨"BadWeights", none⟩ := by
  simp [d_least_words, s_least_words, den0, env0, h]
theorem bad_place_in {x y : PyData} (h : d_check_weights [x] = .exc ⟨"BadWeights", none⟩) : d_place_in [x, y] = .exc ⟨"BadWeights", none⟩ := by
  simp [d_place_in, s_place_in, den0, env0, h]
theorem bad_point : ∀ x ∈ ([.none, .tuple [.int 1, .int 1], .tuple [.int (-1), .int 2], .tuple [.int 2, .int 4], .tuple [.int 3, .int 2], .list [.int 1, .int 2], .tuple [.int 1, .int 0], .int 0, .tuple [.bool true, .int 2]] : List PyData),
    (∀ w, d_check_weights [w] = .ok .none → d_place_in [w, x] = .exc ⟨"BadShare", none⟩) ∧ d_point_bits [x, .int 3] = .exc ⟨"BadShare", none⟩ := by
  have g24 : Int.gcd 2 4 = 2 := by decide +kernel
  intro x hx
  simp only [List.mem_cons, List.not_mem_nil, or_false] at hx
  rcases hx with rfl | rfl | rfl | rfl | rfl | rfl | rfl | rfl | rfl <;> refine ⟨fun w hw => ?_, ?_⟩ <;>
    simp [*, d_place_in, s_place_in, d_point_bits, s_point_bits, den0, env0, ev_op_ok, d_is_fraction, s_is_fraction, d_is_tuple_of, s_is_tuple_of, d_is_integer, s_is_integer, dAndV, isaB, tyD, gTru, dChain, gIx, atI, ixN, gLen, gEq_i, common_ok, sizeLine_eq]
theorem bad_size : ∀ x ∈ ([.int 401, .int (-1), .none, .bool true, .str "1"] : List PyData), d_point_bits [.tuple [.int 1, .int 2], x] = .exc ⟨"BadNumber", none⟩ := by
  have f := is_fraction_ok 1 2 (by decide) (by decide)
  rw [show pq 1 2 = .tuple [.int 1, .int 2] from rfl] at f
  intro x hx
  simp only [List.mem_cons, List.not_mem_nil, or_false] at hx
  rcases hx with rfl | rfl | rfl | rfl | rfl <;>
    simp [*, d_point_bits, s_point_bits, den0, env0, ev_op_ok, d_is_within, s_is_within, d_is_integer, s_is_integer, dAndV, isaB, tyD, gTru, dChain, gIx, atI, ixN]
end K79
namespace DL
open PySem PySem.Spec PyProof.Rows L2
open SX (S)
theorem zip_self (l : List PyData) : List.zipWith (fun x y => PyData.tuple [x, y]) l l = l.map fun x => .tuple [x, x] := by
  induction l with
  | nil => rfl
  | cons x l ih => simp [ih]
theorem frz1_o {i : Nat} {f : SF} {δ : DEnv} {h : HS} {d : PyData} (e : δ[i]? = some (.o d)) : sFrz1 i f δ h = f (δ.set i (.d d)) h := by
  unfold sFrz1
  rw [e]
  rfl
theorem loop_hand {t : TF} {f : SF} (I : Nat → DEnv → Prop) : ∀ (ds : List PyData) (k : Nat) (δ : DEnv) (h : HS), I k δ → HandOk h →
    (∀ j d δ h, ds[j]? = some d → I (k + j) δ → HandOk h → ∃ δ1 δ2 h2, t d δ = some δ1 ∧ (f δ1 h = .nx δ2 h2 ∨ f δ1 h = .ct δ2 h2) ∧ I (k + j + 1) δ2 ∧ HandOk h2) → ∃ δ' h', dLoop t f ds δ h = .nx δ' h' ∧ I (k + ds.length) δ' ∧ HandOk h'
  | [], k, δ, h, hi, H, _ => ⟨δ, h, rfl, hi, H⟩
  | d :: ds, k, δ, h, hi, H, step => by
    obtain ⟨δ1, δ2, h2, e1, e2, i2, H2⟩ := step 0 d δ h rfl hi H
    obtain ⟨δ', h', w, p, H'⟩ := loop_hand I ds (k + 1) δ2 h2 (by simpa using i2) H2 fun j d' δ' h e i H => by
      have := step (j + 1) d' δ' h (by simpa using e) (by rw [show k + (j + 1) = k + 1 + j by omega]; exact i) H
      rw [show k + (j + 1) + 1 = k + 1 + j + 1 by omega] at this
      exact this
    refine ⟨δ', h', ?_, by rw [List.length_cons, show k + (ds.length + 1) = k + 1 + ds.length by omega]; exact p, H'⟩
    rw [dLoop, e1]
    rcases e2 with e2 | e2 <;> (simp only [e2]; exact w)
theorem lc_hand {t : TF} {fc : CF} {fe : EF} {δ0 : DEnv} (P : PyData → Prop) : ∀ (ds acc : List PyData) (h : HS), HandOk h → (∀ d ∈ ds, ∀ h, HandOk h → ∃ δ1 y h2, t d δ0 = some δ1 ∧ fc δ1 h = .ok true h ∧ fe δ1 h = .ok y h2 ∧ P y ∧ HandOk h2) →
    ∃ ys h2, lcLoop t fc fe δ0 ds acc h = .ok (acc ++ ys) h2 ∧ ys.length = ds.length ∧ (∀ y ∈ ys, P y) ∧ HandOk h2
  | [], acc, h, H, _ => ⟨[], h, by simp [lcLoop], rfl, fun _ z => (nomatch z), H⟩
  | d :: ds, acc, h, H, k => by
    obtain ⟨δ1, y, h2, e1, e2, e3, py, H2⟩ := k d (List.mem_cons_self ..) h H
    obtain ⟨ys, h3, e4, l, p, H3⟩ := lc_hand P ds (acc ++ [y]) h2 H2 fun d' hd => k d' (List.mem_cons_of_mem _ hd)
    refine ⟨y :: ys, h3, ?_, by simp [l], fun z hz => ?_, H3⟩
    · rw [lcLoop, e1]
      simp only [e2, ev_bind_ok, if_true, e3, e4]
      simp
    · rcases List.mem_cons.mp hz with rfl | hz
      · exact py
      · exact p z hz
theorem dlc_hand {vs : List Nat} {t : TF} {fi : IF} {fc : CF} {fe : EF} {δ : DEnv} {h h1 : HS} {ds : List PyData} (P : PyData → Prop) (hi : fi δ h = .ok ds h1) (H1 : HandOk h1) (hl : ds.length ≤ 1000000) (hv : (vs.any fun i => isO δ[i]?) = false)
    (k : ∀ d ∈ ds, ∀ h, HandOk h → ∃ δ1 y h2, t d (wipeD δ vs) = some δ1 ∧ fc δ1 h = .ok true h ∧ fe δ1 h = .ok y h2 ∧ P y ∧ HandOk h2) : ∃ ys h2, dLc vs t fi fc fe δ h = .ok (.list ys) h2 ∧ ys.length = ds.length ∧ (∀ y ∈ ys, P y) ∧ HandOk h2 := by
  obtain ⟨ys, h2, e, l, p, H2⟩ := lc_hand P ds [] h1 H1 k
  refine ⟨ys, h2, ?_, l, p, H2⟩
  unfold dLc
  rw [hv, if_neg Bool.false_ne_true, hi, ev_bind_ok, if_pos (sL hl), e]
  simp
end DL
namespace K79
open PySem PySem.Spec PyProof.Rows L2 DL
open SX (S)
theorem draw_ok (h : HS) (H : HandOk h) (m : Nat) (hm : 1 ≤ m) (hm2 : m < 2 ^ 62) : ∃ d h', d__law_draw [.int m] h = .ok (.int ((d : Nat) : Int)) h' ∧ d < m ∧ HandOk h' := by
  obtain ⟨cs, i, c, s, n, rfl, hi⟩ := H
  obtain ⟨v, i, c, s, hi, e1⟩ : ∃ (v : SV) (i' c' s' : Int), 0 ≤ i' ∧ (sIf (dAnd (dCmp gEq (dHix 0 (dC (.int 2))) (dC (.int 0))) (dCmp gLt (dHix 0 (dC (.int 1))) (dBlt (g1 gLen) [dHix 0 (dC (.int 0))]))) (sSeq (sSet 2 (dBin gIx (dHix 0 (dC (.int 0))) (dHix 0 (dC (.int 1))))) (sSeq (sStore 0 (dC (.int 1)) (dBin gAdd (dHix 0 (dC (.int 1))) (dC (.int 1)))) (sSeq (sStore 0 (dC (.int 3)) (dBin gMod (dBlt (g1 gInt) [dBin gAdd (dBin gAdd (dBin gMul (dHix 0 (dC (.int 3))) (dC (.int 69621))) (dBin gMul (dVar 2) (dC (.int 40692)))) (dC (.int 23))]) (dC (.int 2147483629)))) (sIf (dCmp gGe (dVar 2) (dBin gPow (dC (.int 10)) (dC (.int 18)))) (sStore 0 (dC (.int 2)) (dVar 2)) (sNext))))) (sNext))
      [.am, .d (.int m), .no, .no, .no] [.list (cs.map .int), .int i, .int c, .int s, .int n] = .nx [.am, .d (.int m), v, .no, .no] [.list (cs.map .int), .int i', .int c', .int s', .int n] := by
    by_cases hc : c = 0 ∧ i < cs.length
    · obtain ⟨h1, h2⟩ := hc
      subst h1
      obtain ⟨j, rfl⟩ := Int.eq_ofNat_of_zero_le hi
      have hj : j < cs.length := by exact_mod_cast h2
      have hix : gIx (.list (cs.map PyData.int)) (.int (j : Int)) = some (.int cs[j]) := by
        simp [gIx, atI, ixN, hj]
      have mo : mulOk s 69621 = true := mulOk_r ⟨by decide, by decide⟩
      have mo2 : ∀ x : Int, mulOk x 40692 = true := fun x => mulOk_r ⟨by decide, by decide⟩
      by_cases hb : (1000000000000000000 : Int) ≤ cs[j]
      · refine ⟨.d (.int cs[j]), j + 1, cs[j], (s * 69621 + cs[j] * 40692 + 23).fmod 2147483629, by omega, ?_⟩
        simp [ev_dVar, ev_op_ok, dHix, sStore, ixN, gEq_i, gLt, gLen, hj, hix, gAdd, gMul, mo, mo2, gInt, gMod, gGe, gPow, hb]
      · refine ⟨.d (.int cs[j]), j + 1, 0, (s * 69621 + cs[j] * 40692 + 23).fmod 2147483629, by omega, ?_⟩
        simp [ev_dVar, ev_op_ok, dHix, sStore, ixN, gEq_i, gLt, gLen, hj, hix, gAdd, gMul, mo, mo2, gInt, gMod, gGe, gPow, hb]
    · refine ⟨.no, i, c, s, hi, ?_⟩
      by_cases h1 : c = 0
      · have h2 : ¬ i < cs.length := fun z => hc ⟨h1, z⟩
        subst h1
        simp [ev_dVar, ev_op_ok, dHix, gEq_i, gLt, gLen, h2]
      · simp [ev_dVar, ev_op_ok, dHix, gEq_i, h1]
  unfold d__law_draw s__law_draw den1 env1
  simp only [List.map_cons, List.map_nil, List.length_cons, List.length_nil, List.replicate, List.cons_append, List.nil_append, ev_sSeq, e1, ev_sb_nx]
  have mo : ¬ m = 0 := by omega
  have mp : (0 : Int) < m := by omega
  have fm : ∀ x : Int, ∃ d : Nat, x.fmod m = d ∧ d < m := fun x => by
    refine ⟨(x.fmod m).toNat, ?_, ?_⟩
    · rw [Int.toNat_of_nonneg (Int.fmod_nonneg_of_pos _ mp)]
    · have := Int.fmod_lt_of_pos x mp
      have := Int.fmod_nonneg_of_pos x mp
      omega
  by_cases hc : 0 < c
  · obtain ⟨d, hd, hl⟩ := fm c
    refine ⟨d, _, ?_, hl, ⟨cs, i, c.fdiv m, s, n, rfl, hi⟩⟩
    have dv : divOk (m : Int) = true := div_ok mp (Int.lt_of_lt_of_le (show (m : Int) < 2 ^ 62 by exact_mod_cast hm2) (by decide))
    simp [ev_dVar, ev_op_ok, dHix, sStore, ixN, gGt, hc, gInt, gMod, mo, hd, gFdiv, dv]
  · have dk : ∀ k : Int, 0 < k → k < 4294967296 → divOk k = true := fun k h1 h2 => div_ok h1 (Int.lt_of_lt_of_le h2 (by decide))
    have bd : ∀ x : Int, x.fmod 2147483647 < 2147483647 ∧ 0 ≤ x.fmod 2147483647 := fun x => ⟨Int.fmod_lt_of_pos x (by decide), Int.fmod_nonneg_of_pos x (by decide)⟩
    have ml : ∀ x y : Int, mulOk (x.fmod 2147483647) y = true := fun x y => mulOk_l ⟨by have := bd x; omega, by have := bd x; omega⟩
    have m1 : ∀ x : Int, mulOk 7919 x = true := fun x => mulOk_l ⟨by decide, by decide⟩
    have m2 : ∀ x : Int, mulOk x 48271 = true := fun x => mulOk_r ⟨by decide, by decide⟩
    obtain ⟨r, hr⟩ : ∃ r : Int, r = ((((s + 7919 * (n + 1)) * 48271).fmod 2147483647 * (((s + 7919 * (n + 1)) * 48271).fmod 2147483647).fdiv 1009 + 69621 : Int)) := ⟨_, rfl⟩
    obtain ⟨x1, hx1⟩ : ∃ x1 : Int, x1 = ((s + 7919 * (n + 1)) * 48271).fmod 2147483647 := ⟨_, rfl⟩
    obtain ⟨x2, hx2⟩ : ∃ x2 : Int, x2 = (x1 * (x1.fdiv 1009 + 69621)).fmod 2147483647 := ⟨_, rfl⟩
    obtain ⟨x3, hx3⟩ : ∃ x3 : Int, x3 = (x2 * (x2.fdiv 2003 + 40014)).fmod 2147483563 := ⟨_, rfl⟩
    obtain ⟨d, hd, hl⟩ := fm (x3.fdiv 16)
    refine ⟨d, _, ?_, hl, ⟨cs, i, c, s, n + 1, rfl, hi⟩⟩
    have q1 : ∀ y, mulOk x1 y = true := fun y => by rw [hx1]; exact ml _ y
    have q2 : ∀ y, mulOk x2 y = true := fun y => by rw [hx2]; exact ml _ y
    simp [ev_dVar, ev_op_ok, dHix, sStore, ixN, gGt, hc, gInt, gMod, mo, gFdiv, gAdd, gMul, m1, m2, ← hx1, q1, ← hx2, q2, ← hx3, dk 1009 (by decide) (by decide), dk 2003 (by decide) (by decide), dk 16 (by decide) (by decide), hd]
theorem is_refl : ∀ (n : Nat) (d : PyData), okD n d → recD 4 s__law_is n [d, d] = .ok (.bool true)
  | 0, _, h => h.elim
  | n + 1, d, h => by
    have key : ∀ l : List PyData, l.length ≤ 1000000 → (∀ x ∈ l, okD n x) → ∀ d, gItems d = some l → dLc [2, 3] (tgTup 2 (tgCons (tgN 2) (tgCons (tgN 3) (tgNil)))) (dZipG [dVar 0, dVar 1]) (dYes) (dCall0 (recD 4 s__law_is n) [dVar 2, dVar 3]) [.d d, .d d, .no, .no] [] = .ok (.list (l.map fun _ => .bool true)) [] := fun l hl ho d hd =>
      lc_of (vs := [2, 3]) (fun x => PyData.tuple [x, x]) (fun _ => .bool true) (by simp [ev_dVar, ev_op_ok, gZipG, hd, zip_self]) (sL hl) rfl (fun x hx => ⟨_, rfl, rfl, by simp [ev_dVar, ev_op_ok, wipeD, is_refl n x (ho x hx)]⟩)
    have ab : ∀ l : List PyData, asBools (l.map fun _ => .bool true) = some (l.map fun _ => true) := fun l => asBools_of (fun _ => true) l
    show den0 4 (s__law_is (recD 4 s__law_is n)) [d, d] = _
    cases d with
    | none => simp [s__law_is, den0, env0, ev_dVar, ev_op_ok, tyD, isaB, gTru, gIs, isNonD, dAndV]
    | bool b => simp [s__law_is, den0, env0, ev_dVar, ev_op_ok, tyD, isaB, gTru, gIs, isNonD, dAndV, gNe_lit, gEq_lit]
    | int b => simp [s__law_is, den0, env0, ev_dVar, ev_op_ok, tyD, isaB, gTru, gIs, isNonD, dAndV, gNe_lit, gEq_lit, gEq_i]
    | str x =>
      have : gEq (.str x) (.str x) = some true := by
        simp [gEq, SeqAt.shaped, PyData.canLay0, PyData.eqv, PyData.depth]
        exact h
      simp [s__law_is, den0, env0, ev_dVar, ev_op_ok, tyD, isaB, gTru, gIs, isNonD, dAndV, gNe_lit, gEq_lit, this]
    | list l =>
      have kl := key l h.1 h.2 (.list l) rfl
      simp [s__law_is, den0, env0, ev_dVar, ev_op_ok, tyD, isaB, gTru, gIs, isNonD, dAndV, gNe_lit, gEq_lit, gLen, gNe_i, kl, gAll, ab]
    | tuple l =>
      have kl := key l h.1 h.2 (.tuple l) rfl
      simp [s__law_is, den0, env0, ev_dVar, ev_op_ok, tyD, isaB, gTru, gIs, isNonD, dAndV, gNe_lit, gEq_lit, gLen, gNe_i, kl, gAll, ab]
    | dict l => exact h.elim
theorem law_is_ok (d : PyData) (h : okD 8 d) : d__law_is [d, d] = .ok (.bool true) := is_refl 8 d h
theorem any_ok (l : List PyData) (h : HS) (H : HandOk h) (hl : 1 ≤ l.length) (hl2 : l.length ≤ 1000000) : ∃ x h', d__law_any [.list l] h = .ok x h' ∧ x ∈ l ∧ HandOk h' := by
  obtain ⟨d, h', e, hd, H'⟩ := draw_ok h H l.length hl (by omega)
  refine ⟨l[d], h', ?_, List.getElem_mem _, H'⟩
  have hix : gIx (.list l) (.int (d : Int)) = some l[d] := by simp [gIx, atI, ixN, hd]
  simp [d__law_any, s__law_any, den1, env1, ev_dVar, ev_op_ok, gLen, e, hix]
theorem draw_call {h h1 : HS} (H : HandOk h1) (m : Nat) (hm : 1 ≤ m) (hm2 : m < 2 ^ 62) {δ : DEnv} {fe : EF} (e : fe (.am :: δ) h = .ok (.int (m : Int)) h1) : ∃ (d : Nat) (h' : HS), dCall1 0 d__law_draw [fe] (.am :: δ) h = .ok (.int (d : Int)) h' ∧ d < m ∧ HandOk h' := by
  obtain ⟨x, h', e1, hx, H'⟩ := draw_ok h1 H m hm hm2
  refine ⟨x, h', ?_, hx, H'⟩
  rw [ev_dCall1 rfl, ev_dSeq_cons, e]
  exact e1
theorem any_call {l : List PyData} {h h1 : HS} (H : HandOk h1) (hl : 1 ≤ l.length) (hl2 : l.length ≤ 1000000) {δ : DEnv} {fe : EF} (e : fe (.am :: δ) h = .ok (.list l) h1) : ∃ x h', dCall1 0 d__law_any [fe] (.am :: δ) h = .ok x h' ∧ x ∈ l ∧ HandOk h' := by
  obtain ⟨x, h', e1, hx, H'⟩ := any_ok l h1 H hl hl2
  refine ⟨x, h', ?_, hx, H'⟩
  rw [ev_dCall1 rfl, ev_dSeq_cons, e]
  exact e1
theorem is_same {fa fb : EF} {δ : DEnv} {h h1 : HS} {d : PyData} (e1 : fa δ h = .ok d h1) (e2 : fb δ h1 = .ok d h1) (o : okD 8 d) : (dNot (dTru (dCall0 d__law_is [fa, fb]))) δ h = .ok false h1 := by
  simp only [ev_dNot, ev_dTru, ev_dCall0, ev_dSeq_cons, ev_dSeq_nil, e1, e2, ev_bind_ok, ev_op_ok, law_is_ok d o, ev_up_ok, gTru]
  rfl
theorem okD_sB {n : Nat} {l : List Nat} (h : isBits l) : okD (n + 1) (sB l) := okS (bits_code h)
theorem okD_row {n : Nat} {ls : List (List Nat)} (h : ∀ l ∈ ls, isBits l) : ∀ x ∈ ls.map sB, okD (n + 1) x := fun x hx => by
  obtain ⟨l, hl, rfl⟩ := List.mem_map.mp hx
  exact okD_sB (h l hl)
theorem call0_1 {f : List PyData → Res0} {fa : EF} {δ : DEnv} {h h1 : HS} {a d : PyData} (e : fa δ h = .ok a h1) (e2 : f [a] = .ok d) : dCall0 f [fa] δ h = .ok d h1 := by
  simp only [ev_dCall0, ev_dSeq_cons, ev_dSeq_nil, e, ev_bind_ok, ev_op_ok, e2, ev_up_ok]
theorem call0_2 {f : List PyData → Res0} {fa fb : EF} {δ : DEnv} {h h1 h2 : HS} {a b d : PyData} (e : fa δ h = .ok a h1) (e1 : fb δ h1 = .ok b h2) (e2 : f [a, b] = .ok d) : dCall0 f [fa, fb] δ h = .ok d h2 := by
  simp only [ev_dCall0, ev_dSeq_cons, ev_dSeq_nil, e, e1, ev_bind_ok, ev_op_ok, e2, ev_up_ok]
theorem blt1 {g : PyData → Option PyData} {fa : EF} {δ : DEnv} {h h1 : HS} {a d : PyData} (e : fa δ h = .ok a h1) (e2 : g a = some d) : dBlt (g1 g) [fa] δ h = .ok d h1 := by
  simp only [ev_dBlt, ev_dSeq_cons, ev_dSeq_nil, e, ev_bind_ok, ev_op_ok, ev_g1, e2]
theorem bin2 {g : PyData → PyData → Option PyData} {fa fb : EF} {δ : DEnv} {h h1 h2 : HS} {a b d : PyData} (e : fa δ h = .ok a h1) (e1 : fb δ h1 = .ok b h2) (e2 : g a b = some d) : dBin g fa fb δ h = .ok d h2 := by
  simp only [ev_dBin, e, e1, ev_bind_ok, ev_op_ok, e2]
theorem lst1 {fa : EF} {δ : DEnv} {h h1 : HS} {a : PyData} (e : fa δ h = .ok a h1) : dLst [fa] δ h = .ok (.list [a]) h1 := by
  simp only [ev_dLst, ev_dSeq_cons, ev_dSeq_nil, e, ev_bind_ok, ev_op_ok]
theorem tup2 {fa fb : EF} {δ : DEnv} {h h1 h2 : HS} {a b : PyData} (e : fa δ h = .ok a h1) (e1 : fb δ h1 = .ok b h2) : dTup [fa, fb] δ h = .ok (.tuple [a, b]) h2 := by
  simp only [ev_dTup, ev_dSeq_cons, ev_dSeq_nil, e, e1, ev_bind_ok, ev_op_ok]
/-- what is nested: a tuple of one, a list, a dict -/
inductive Deep : PyData → Prop
  | s : Deep (.str "?")
  | t {d : PyData} : Deep d → Deep (.tuple [d])
  | l {d : PyData} : Deep d → Deep (.list [d])
  | m {d : PyData} : Deep d → Deep (.dict [(.int 0, d)])
theorem deep_ok (h : HS) (H : HandOk h) : ∃ d h', d__law_deep [] h = .ok d h' ∧ Deep d ∧ (∀ x, d ≠ .str x) ∧ HandOk h' := by
  obtain ⟨n, h1, e1, hn, H1⟩ := draw_call H 29 (by decide) (by decide) (δ := [.no, .no]) (fe := dC (.int 29)) rfl
  have hr : (dRng [dBin gAdd (dC (.int 1)) (dCall1 0 d__law_draw [dC (.int 29)])]) [.am, .d (.str "?"), .no] h = .ok ((List.range (1 + n)).map fun i => .int (i : Nat)) h1 := by
    obtain ⟨m, hm, e1', hn', H1'⟩ := draw_call H 29 (by decide) (by decide) (δ := [.d (.str "?"), .no]) (fe := dC (.int 29)) rfl
    have same : dCall1 0 d__law_draw [dC (.int 29)] [.am, .d (.str "?"), .no] h = dCall1 0 d__law_draw [dC (.int 29)] [.am, .no, .no] h := rfl
    have rn := rng_ok (k := 1 + n) (by omega)
    rw [Int.natCast_add] at rn
    rw [ev_dRng, ev_dSeq_cons, ev_dBin, ev_dC, ev_bind_ok, same, e1]
    simp only [ev_op_ok, gAdd_ii, ev_bind_ok, ev_dSeq_nil]
    rw [show (1 : Int) = ((1 : Nat) : Int) from rfl, rn]
  obtain ⟨δ', h', e, ⟨d, v, rfl, hd, hk⟩, H'⟩ := loop_hand (t := tgN 2) (f := sSet 1 (dBin gIx (dLst [dTup [dVar 1], dLst [dVar 1], dDict1 (.int 0) (dVar 1)]) (dCall1 0 d__law_draw [dC (.int 3)]))) (fun j δ => ∃ d v, δ = [.am, .d d, v] ∧ Deep d ∧ (0 < j → ∀ x, d ≠ .str x)) ((List.range (1 + n)).map fun i => .int (i : Nat)) 0 [.am, .d (.str "?"), .no] h1 ⟨_, _, rfl, .s, fun z => absurd z (Nat.lt_irrefl _)⟩ H1 (fun j d δ h _ ⟨x, v, e, hx, _⟩ H => by
    subst e
    obtain ⟨k, h2, e2, hk, H2⟩ := draw_call H 3 (by decide) (by decide) (δ := [.d x, .d d]) (fe := dC (.int 3)) rfl
    have l3 : (dLst [dTup [dVar 1], dLst [dVar 1], dDict1 (.int 0) (dVar 1)]) [.am, .d x, .d d] h = .ok (.list [.tuple [x], .list [x], .dict [(.int 0, x)]]) h := by simp [ev_op_ok]
    have : ∃ y, gIx (.list [.tuple [x], .list [x], .dict [(.int 0, x)]]) (.int (k : Int)) = some y ∧ Deep y ∧ ∀ z, y ≠ .str z := by
      match k, hk with
      | 0, _ => exact ⟨.tuple [x], rfl, .t hx, fun _ z => nomatch z⟩
      | 1, _ => exact ⟨.list [x], rfl, .l hx, fun _ z => nomatch z⟩
      | 2, _ => exact ⟨.dict [(.int 0, x)], rfl, .m hx, fun _ z => nomatch z⟩
    obtain ⟨y, ey, dy, ny⟩ := this
    refine ⟨_, [.am, .d y, .d d], h2, rfl, .inl ?_, ⟨y, _, rfl, dy, fun _ => ny⟩, H2⟩
    rw [ev_sSet]
    show (Res.to (dBin _ _ _ [.am, .d x, .d d] h) _ _) = _
    rw [bin2 l3 e2 ey]
    rfl)
  refine ⟨d, h', ?_, hd, hk (by simp; omega), H'⟩
  unfold d__law_deep s__law_deep den1
  rw [show env1 3 [] = [.am, .no, .no] from rfl, seq_set ev_dC]
  simp only [List.set_cons_succ, List.set_cons_zero]
  rw [seq_nx (by rw [ev_sFor, hr, ev_to_ok]; exact e)]
  simp
end K79
namespace K79
open PySem PySem.Spec PyProof.Rows L2 DL
open SX (S)
/-! ### the law's fractions -/
theorem frac_loop (v0 v1 : SV) (x y : Nat) : sWhile (dCmp gGt (dVar 2) (dC (.int 0))) (sMul [2, 3] [(false, dBin gMod (dBlt (g1 gInt) [dVar 3]) (dVar 2)), (false, dVar 2)]) [v0, v1, .d (.int x), .d (.int y)] [] = .nx [v0, v1, .d (.int 0), .d (.int (Nat.gcd x y))] [] := by
  induction x using Nat.strongRecOn generalizing y with
  | _ x ih =>
    rw [sWhile_eq]
    by_cases hx : x = 0
    · subst hx
      simp [ev_dVar, ev_op_ok, gGt]
    · have h1 : 0 < x := by omega
      have := ih (y % x) (Nat.mod_lt _ (by omega)) x
      have e2 : ((y : Int).fmod x) = ((y % x : Nat) : Int) := by rw [Int.fmod_eq_emod_of_nonneg _ (by omega)]; rfl
      simp [ev_dVar, ev_op_ok, gGt, gMod, hx, h1, e2, this, gInt, -Int.natCast_emod]
      rw [← Nat.gcd_rec]
theorem law_frac_ok (a b : Nat) (h : 0 < b) (h2 : b < 2 ^ 200) : d__law_frac [.int a, .int b] = .ok (frN a b) := by
  have hg : 0 < Nat.gcd a b := Nat.gcd_pos_of_pos_right _ h
  have hl : Nat.gcd a b < 2 ^ 200 := Nat.lt_of_le_of_lt (Nat.le_of_dvd h (Nat.gcd_dvd_right a b)) h2
  have f1 := fdivN a _ hg hl
  have f2 := fdivN b _ hg hl
  have ga : gAbs (.int (a : Int)) = some (.int (a : Int)) := by
    show some (PyData.int (if (a : Int) < 0 then -(a : Int) else (a : Int))) = _
    rw [if_neg (by omega)]
  have lp := frac_loop (.d (.int a)) (.d (.int b)) a b
  simp only [d__law_frac, s__law_frac, den0, env0]
  simp [ev_op_ok, ga] at lp ⊢
  rw [lp]
  simp [ev_op_ok, f1, f2, frN]
theorem frN_cross {a b c d : Nat} (hb : 0 < b) (hd : 0 < d) (h : a * d = c * b) : frN a b = frN c d := by
  rw [← frN_mul a b d hd, h, Nat.mul_comm b d, frN_mul c d b hb]
theorem frN_low (a b : Nat) (hb : 0 < b) : ∃ p q g : Nat, frN a b = pq p q ∧ 0 < g ∧ a = p * g ∧ b = q * g ∧ 0 < q := by
  have hg : 0 < Nat.gcd a b := Nat.gcd_pos_of_pos_right _ hb
  obtain ⟨p, hp⟩ := Nat.gcd_dvd_left a b
  obtain ⟨q, hq⟩ := Nat.gcd_dvd_right a b
  refine ⟨p, q, Nat.gcd a b, ?_, hg, by rw [Nat.mul_comm]; exact hp, by rw [Nat.mul_comm]; exact hq, Nat.pos_of_mul_pos_left (a := Nat.gcd a b) (by omega)⟩
  unfold frN pq
  rw [Nat.div_eq_of_eq_mul_right hg hp, Nat.div_eq_of_eq_mul_right hg hq]
theorem pq_0 (p q : Nat) : gIx (pq p q) (.int 0) = some (.int p) := rfl
theorem pq_1 (p q : Nat) : gIx (pq p q) (.int 1) = some (.int q) := rfl
theorem law_add_ok {a b c d : Nat} (hb : 0 < b) (hd : 0 < d) (la : a < 2 ^ 62) (lb : b < 2 ^ 62) (lc : c < 2 ^ 62) (ld : d < 2 ^ 62) : d__law_add [frN a b, frN c d] = .ok (frN (a * d + c * b) (b * d)) := by
  obtain ⟨p, q, g, e1, hg, ea, eb, hq⟩ := frN_low a b hb
  obtain ⟨r, s, k, e2, hk, ec, ed, hs⟩ := frN_low c d hd
  have pa : p ≤ a := by rw [ea]; exact Nat.le_mul_of_pos_right _ hg
  have qb : q ≤ b := by rw [eb]; exact Nat.le_mul_of_pos_right _ hg
  have rc : r ≤ c := by rw [ec]; exact Nat.le_mul_of_pos_right _ hk
  have sd : s ≤ d := by rw [ed]; exact Nat.le_mul_of_pos_right _ hk
  have key : frN (p * s + r * q) (q * s) = frN (a * d + c * b) (b * d) := by
    rw [← frN_mul _ _ (g * k) (Nat.mul_pos hg hk)]
    congr 1
    · rw [ea, ed, ec, eb]
      simp only [Nat.mul_add, Nat.add_mul, Nat.mul_assoc, Nat.mul_comm, Nat.mul_left_comm]
    · rw [eb, ed]
      simp only [Nat.mul_assoc, Nat.mul_comm, Nat.mul_left_comm]
  have hD : q * s < 2 ^ 200 := by
    have : q * s ≤ 2 ^ 62 * 2 ^ 62 := Nat.mul_le_mul (by omega) (by omega)
    omega
  have f := law_frac_ok (p * s + r * q) (q * s) (Nat.mul_pos hq hs) hD
  rw [key] at f
  push_cast at f
  have m1 : mulOk (p : Int) (s : Int) = true := mulOk_lN (by omega)
  have m2 : mulOk (r : Int) (q : Int) = true := mulOk_lN (by omega)
  have m3 : mulOk (q : Int) (s : Int) = true := mulOk_lN (by omega)
  rw [e1, e2]
  simp only [d__law_add, s__law_add, den0, env0]
  simp [ev_op_ok, pq_0, pq_1, gMul_ii m1, gMul_ii m2, gMul_ii m3] at f ⊢
  rw [f]
  rfl
theorem plus_ok2 (a b : Nat) (hb : 0 < b) (ha : a < 2 ^ 62) (hb2 : b < 2 ^ 62) : d_plus [frN a b, pq 1 b] = .ok (frN (a + 1) b) := by
  have hg : 0 < Nat.gcd a b := Nat.gcd_pos_of_pos_right _ hb
  obtain ⟨p, hp⟩ := Nat.gcd_dvd_left a b
  obtain ⟨q, hq⟩ := Nat.gcd_dvd_right a b
  have e0 : frN a b = pq p q := by
    unfold frN pq
    rw [Nat.div_eq_of_eq_mul_right hg hp, Nat.div_eq_of_eq_mul_right hg hq]
  have hpa : p ≤ a := by rw [hp]; exact Nat.le_mul_of_pos_left _ hg
  have hqb : q ≤ b := by have := Nat.le_mul_of_pos_left q hg; omega
  have hq0 : 0 < q := Nat.pos_of_mul_pos_left (a := Nat.gcd a b) (by omega)
  have e1 : frN (p * b + 1 * q) (q * b) = frN (a + 1) b := by
    rw [← frN_mul (p * b + 1 * q) (q * b) (Nat.gcd a b) hg]
    have x1 : (p * b + 1 * q) * Nat.gcd a b = (a + 1) * b := by
      rw [Nat.one_mul, Nat.add_mul, Nat.add_mul, Nat.one_mul, Nat.mul_comm q, ← hq, Nat.mul_comm (p * b), ← Nat.mul_assoc, ← hp]
    have x2 : q * b * Nat.gcd a b = b * b := by
      rw [Nat.mul_comm (q * b), ← Nat.mul_assoc, ← hq]
    rw [x1, x2, frN_mul _ _ _ hb]
  have hD : q * b < 2 ^ 200 := by
    have : q * b ≤ 2 ^ 62 * 2 ^ 62 := Nat.mul_le_mul (by omega) (by omega)
    omega
  have f := frac_okN (p * b + 1 * q) (q * b) (Nat.mul_pos hq0 hb) hD
  rw [e1] at f
  push_cast at f
  have i0 : gIx (pq p q) (.int 0) = some (.int p) := rfl
  have i1 : gIx (pq p q) (.int 1) = some (.int q) := rfl
  have i2 : gIx (pq 1 b) (.int 0) = some (.int 1) := rfl
  have i3 : gIx (pq 1 b) (.int 1) = some (.int b) := rfl
  have m1 : mulOk (p : Int) (b : Int) = true := mulOk_lN (by omega)
  have m2 : mulOk (q : Int) (b : Int) = true := mulOk_lN (by omega)
  have m3 : mulOk 1 (q : Int) = true := mulOk_rN (by omega)
  rw [e0]
  simp only [d_plus, s_plus, den0, env0]
  simp [ev_op_ok, i0, i1, i2, i3, gMul_ii m1, gMul_ii m2, gMul_ii m3] at f ⊢
  rw [f]
  rfl
theorem span_of_ok2 {l : List Nat} (hb : isBits l) (hl : l.length ≤ 60) : d_span_of [sB l] = .ok (.tuple [frN (valL l) (2 ^ l.length), frN (valL l + 1) (2 ^ l.length)]) := by
  have p := point_of_ok hb (by omega)
  have s := gShl_1 l.length (by omega)
  have lt : 2 ^ l.length < 2 ^ 62 := Nat.pow_lt_pow_right (by decide) (by omega)
  have f := frac_okN 1 (2 ^ l.length) (Nat.two_pow_pos _) (by omega)
  rw [frN_one] at f
  have pl := plus_ok2 (valL l) (2 ^ l.length) (Nat.two_pow_pos _) (by have := valL_lt l hb; omega) lt
  generalize 2 ^ l.length = b at *
  simp only [d_span_of, s_span_of, den0, env0]
  simp [ev_op_ok, p, s]
  rw [show ((1 : Nat) : Int) = 1 from rfl] at f
  rw [f]
  simp [ev_op_ok, pl]

theorem law_mul_ok {a b : Nat} (hb : 0 < b) (la : a < 2 ^ 62) (lb : b < 2 ^ 62) : d__law_mul [pq 1 2, frN a b] = .ok (frN a (2 * b)) := by
  obtain ⟨p, q, g, e1, hg, ea, eb, hq⟩ := frN_low a b hb
  have qb : q ≤ b := by rw [eb]; exact Nat.le_mul_of_pos_right _ hg
  have pa : p ≤ a := by rw [ea]; exact Nat.le_mul_of_pos_right _ hg
  have f := law_frac_ok p (2 * q) (by omega) (by omega)
  have key : frN p (2 * q) = frN a (2 * b) := by
    rw [← frN_mul _ _ g hg, ← ea, Nat.mul_assoc, ← eb]
  rw [key] at f
  push_cast at f
  have m1 : mulOk 1 (p : Int) = true := mulOk_rN (by omega)
  have m2 : mulOk 2 (q : Int) = true := mulOk_rN (by omega)
  have i0 : gIx (pq 1 2) (.int 0) = some (.int 1) := rfl
  have i1 : gIx (pq 1 2) (.int 1) = some (.int 2) := rfl
  rw [e1]
  simp only [d__law_mul, s__law_mul, den0, env0]
  simp [ev_op_ok, pq_0, pq_1, i0, i1, gMul_ii m1, gMul_ii m2] at f ⊢
  rw [f]
  rfl
theorem law_less_ok {a b c d : Nat} (hb : 0 < b) (hd : 0 < d) (la : a < 2 ^ 62) (lb : b < 2 ^ 62) (lc : c < 2 ^ 62) (ld : d < 2 ^ 62) : d__law_less [frN a b, frN c d] = .ok (.bool (decide (a * d < c * b))) := by
  obtain ⟨p, q, g, e1, hg, ea, eb, hq⟩ := frN_low a b hb
  obtain ⟨r, s, k, e2, hk, ec, ed, hs⟩ := frN_low c d hd
  have pa : p ≤ a := by rw [ea]; exact Nat.le_mul_of_pos_right _ hg
  have qb : q ≤ b := by rw [eb]; exact Nat.le_mul_of_pos_right _ hg
  have rc : r ≤ c := by rw [ec]; exact Nat.le_mul_of_pos_right _ hk
  have sd : s ≤ d := by rw [ed]; exact Nat.le_mul_of_pos_right _ hk
  have x1 : a * d = p * s * (g * k) := by
    rw [ea, ed]
    simp only [Nat.mul_assoc, Nat.mul_comm, Nat.mul_left_comm]
  have x2 : c * b = r * q * (g * k) := by
    rw [ec, eb]
    simp only [Nat.mul_assoc, Nat.mul_comm, Nat.mul_left_comm]
  have m1 : mulOk (p : Int) (s : Int) = true := mulOk_lN (by omega)
  have m2 : mulOk (r : Int) (q : Int) = true := mulOk_lN (by omega)
  rw [e1, e2, x1, x2]
  simp only [d__law_less, s__law_less, den0, env0]
  simp [ev_op_ok, pq_0, pq_1, gMul_ii m1, gMul_ii m2]
  rw [Nat.mul_lt_mul_right (Nat.mul_pos hg hk), ← Int.natCast_mul, ← Int.natCast_mul, Int.ofNat_lt]
/-! shares -/
def shL (T : Nat) : Nat → List Nat → List PyData
  | _, [] => []
  | g, w :: ws => .tuple [frN g T, frN (g + w) T] :: shL T (g + w) ws
theorem sh_loop (x : PyData) (T : Nat) (h : 0 < T) (h2 : T < 2 ^ 200) : ∀ (ws : List Nat) (g : Nat) (acc : List PyData) (v : SV), acc.length + ws.length ≤ 1000000 → ∃ v',
    dLoop (tgN 4) (sSeq (sDropM (mMeth1 1 gApp (mOf (dTup [dCall0 d__law_frac [dVar 2, dVar 3], dCall0 d__law_frac [dBin gAdd (dVar 2) (dVar 4), dVar 3]])))) (sSet 2 (dBin gAdd (dVar 2) (dVar 4)))) (ws.map nI) [.d x, .o (.list acc), .d (.int (g : Int)), .d (.int (T : Int)), v] []
      = .nx [.d x, .o (.list (acc ++ shL T g ws)), .d (.int ((g + ws.sum : Nat) : Int)), .d (.int (T : Int)), v'] []
  | [], g, acc, v, _ => ⟨v, by simp [shL]⟩
  | w :: ws, g, acc, v, hl => by
    obtain ⟨v', e⟩ := sh_loop x T h h2 ws (g + w) (acc ++ [.tuple [frN g T, frN (g + w) T]]) (.d (nI w)) (by simp at hl ⊢; omega)
    refine ⟨v', ?_⟩
    have e1 : (dTup [dCall0 d__law_frac [dVar 2, dVar 3], dCall0 d__law_frac [dBin gAdd (dVar 2) (dVar 4), dVar 3]]) [.d x, .o (.list acc), .d (.int (g : Int)), .d (.int (T : Int)), .d (nI w)] [] = .ok (.tuple [frN g T, frN (g + w) T]) [] :=
      tup2 (call0_2 vr2 vr3 (law_frac_ok g T h h2)) (call0_2 (bin2 vr2 vr4 (show gAdd (.int (g : Int)) (nI w) = some (.int ((g + w : Nat) : Int)) from rfl)) vr3 (law_frac_ok (g + w) T h h2))
    rw [List.map_cons, loop_cons rfl (δ2 := [.d x, .o (.list (acc ++ [.tuple [frN g T, frN (g + w) T]])), .d (.int ((g + w : Nat) : Int)), .d (.int (T : Int)), .d (nI w)]) (h2 := []), e]
    · simp [shL, Nat.add_assoc]
    · show sSeq _ _ [.d x, .o (.list acc), .d (.int (g : Int)), .d (.int (T : Int)), .d (nI w)] [] = _
      rw [ev_sSeq, app_ok e1 rfl (by simp at hl; omega)]
      simp [ev_dVar, ev_op_ok, nI, gAdd]
theorem law_shares_ok {ws : List Nat} (W : Wn ws) : d__law_shares [tI ws] = .ok (.list (shL ws.sum 0 ws)) := by
  have hs := W.sum
  obtain ⟨v', e⟩ := sh_loop (tI ws) ws.sum (by omega) (by omega) ws 0 [] .no (by have := W.l2; simp; omega)
  have hi : gItems (tI ws) = some (ws.map nI) := rfl
  simp [d__law_shares, s__law_shares, den0, env0, ev_dVar, ev_op_ok, sum_ints, hi]
  rw [show (0 : Int) = ((0 : Nat) : Int) from rfl, e]
  simp
/-! first bits -/
theorem dig (a q : Nat) (hq : 0 < q) : 2 * a / q = 2 * (a / q) + 2 * (a % q) / q ∧ 2 * (a % q) / q < 2 ∧ 2 * a % q = 2 * (a % q) % q := by
  have e : 2 * a = 2 * (a % q) + q * (2 * (a / q)) := by
    have := Nat.div_add_mod a q
    rw [Nat.mul_left_comm]
    omega
  refine ⟨?_, ?_, ?_⟩
  · rw [e, Nat.add_mul_div_left _ _ hq]
    omega
  · have := Nat.mod_lt a hq
    exact (Nat.div_lt_iff_lt_mul hq).mpr (by omega)
  · rw [e, Nat.add_mul_mod_self_left]
theorem half2 {n d : Nat} (h : d < 2) : (2 * n + d) / 2 = n ∧ (2 * n + d) % 2 = d := by omega
theorem digS2 {d : Nat} (h : d < 2) : gStr (.int (d : Int)) = some (sB [48 + d]) := by
  have := digS d
  rw [Nat.mod_eq_of_lt h] at this
  exact this
theorem fmodN (y x : Nat) : ((y : Int).fmod x) = ((y % x : Nat) : Int) := by rw [Int.fmod_eq_emod_of_nonneg _ (by omega)]; rfl
theorem law_first_ok (p q k : Nat) (hp : p < q) (hq2 : q < 2 ^ 100) (hk : k ≤ 400) : d__law_first_bits [pq p q, .int (k : Int)] = .ok (sB (bitsL k (p * 2 ^ k / q))) := by
  have hq : 0 < q := by omega
  have rn := rng_ok (k := k) (by omega)
  obtain ⟨δ', e, v5, rfl⟩ := loop_ind (t := tgN 5) (f := sSeq (sSet 3 (dBin gMul (dC (.int 2)) (dVar 3))) (sSeq (sSet 2 (dBin gAdd (dVar 2) (dBlt (g1 gStr) [dBin gFdiv (dVar 3) (dVar 4)]))) (sSet 3 (dBin gMod (dBlt (g1 gInt) [dVar 3]) (dVar 4))))) (h := []) (fun j δ => ∃ v5, δ = [.d (pq p q), .d (.int (k : Int)), .d (sB (bitsL j (p * 2 ^ j / q))), .d (.int ((p * 2 ^ j % q : Nat) : Int)), .d (.int (q : Int)), v5]) ((List.range k).map fun i => .int (i : Nat)) 0 [.d (pq p q), .d (.int (k : Int)), .d (sB []), .d (.int (p : Int)), .d (.int (q : Int)), .no] ⟨.no, by
      rw [Nat.pow_zero, Nat.mul_one, Nat.mod_eq_of_lt hp]
      rfl⟩ (fun j d δ hj ⟨v5, eδ⟩ => by
    rw [Nat.zero_add] at eδ
    subst eδ
    have hjk : j < k := by
      have := (List.getElem?_eq_some_iff.mp hj).1
      simpa using this
    obtain ⟨d1, d2, d3⟩ := dig (p * 2 ^ j) q hq
    have e2 : p * 2 ^ (j + 1) = 2 * (p * 2 ^ j) := by rw [Nat.pow_succ, ← Nat.mul_assoc, Nat.mul_comm]
    have rl := Nat.mod_lt (p * 2 ^ j) hq
    refine ⟨[.d (pq p q), .d (.int (k : Int)), .d (sB (bitsL j (p * 2 ^ j / q))), .d (.int ((p * 2 ^ j % q : Nat) : Int)), .d (.int (q : Int)), .d d], [.d (pq p q), .d (.int (k : Int)), .d (sB (bitsL (j + 1) (p * 2 ^ (j + 1) / q))), .d (.int ((p * 2 ^ (j + 1) % q : Nat) : Int)), .d (.int (q : Int)), .d d], rfl, .inl ?_, .d d, by rw [Nat.zero_add]⟩
    rw [e2, d3, bitsL_snoc, d1, (half2 d2).1, (half2 d2).2]
    generalize p * 2 ^ j % q = r at *
    generalize p * 2 ^ j / q = n at *
    have m1 : (dBin gMul (dC (.int 2)) (dVar 3)) [.d (pq p q), .d (.int (k : Int)), .d (sB (bitsL j n)), .d (.int (r : Int)), .d (.int (q : Int)), .d d] [] = .ok (.int ((2 * r : Nat) : Int)) [] := by
      rw [bin2 ev_dC vr3 (gMul_ii (mul2_ok _))]
      push_cast
      rfl
    have fd := fdivN (2 * r) q hq (by omega)
    rw [seq_set m1]
    simp only [List.set_cons_succ, List.set_cons_zero]
    have a1 : (dBin gAdd (dVar 2) (dBlt (g1 gStr) [dBin gFdiv (dVar 3) (dVar 4)])) [.d (pq p q), .d (.int (k : Int)), .d (sB (bitsL j n)), .d (.int ((2 * r : Nat) : Int)), .d (.int (q : Int)), .d d] [] = .ok (sB (bitsL j n ++ [48 + 2 * r / q])) [] :=
      bin2 vr2 (blt1 (bin2 vr3 vr4 fd) (digS2 d2)) (gAdd_S (by rw [bitsL_len]; simp; omega))
    rw [seq_set a1]
    simp only [List.set_cons_succ, List.set_cons_zero]
    have a2 : (dBin gMod (dBlt (g1 gInt) [dVar 3]) (dVar 4)) [.d (pq p q), .d (.int (k : Int)), .d (sB (bitsL j n ++ [48 + 2 * r / q])), .d (.int ((2 * r : Nat) : Int)), .d (.int (q : Int)), .d d] [] = .ok (.int ((2 * r % q : Nat) : Int)) [] := by
      rw [bin2 (blt1 vr3 (show gInt (.int ((2 * r : Nat) : Int)) = some (.int ((2 * r : Nat) : Int)) from rfl)) vr4 (gMod_ii (by omega)), fmodN]
    rw [ev_sSet, a2]
    rfl)
  rw [List.length_map, List.length_range, Nat.zero_add] at e
  simp only [d__law_first_bits, s__law_first_bits, den0]
  rw [show env0 6 [pq p q, .int (k : Int)] = [.d (pq p q), .d (.int (k : Int)), .no, .no, .no, .no] from rfl]
  rw [seq_nx (f := sAsg _ _) (δ1 := [.d (pq p q), .d (.int (k : Int)), .d (sB []), .d (.int (p : Int)), .d (.int (q : Int)), .no]) (h1 := []) (by
    rw [ev_sAsg, tup2 ev_dC vr0, lit_e]
    rfl)]
  rw [seq_nx (by
    rw [ev_sFor, ev_dRng, ev_dSeq_cons, vr1, ev_bind_ok, ev_dSeq_nil]
    simp only [ev_op_ok]
    rw [rn]
    exact e)]
  rfl
/-! value and span -/
theorem intB {c : Nat} (h : c = 48 ∨ c = 49) : gInt (.str (S [c])) = some (.int ((c - 48 : Nat) : Int)) := by
  rcases h with rfl | rfl
  · exact gInt_0
  · exact gInt_1
theorem law_value_ok {l : List Nat} (hb : isBits l) : d__law_value [sB l] = .ok (.int (valL l : Nat)) := by
  have lp : ∀ (m : List Nat) (x : Nat) (v : SV), isBits m → ∃ v', dLoop (tgN 2) (sSet 1 (dBin gAdd (dBin gMul (dC (.int 2)) (dVar 1)) (dBlt (g1 gInt) [dVar 2]))) (m.map fun c => .str (S [c])) [.d (sB l), .d (.int (x : Int)), v] [] = .nx [.d (sB l), .d (.int ((m.foldl (fun v c => 2 * v + (c - 48)) x : Nat) : Int)), v'] [] := fun m => by
    induction m with
    | nil => exact fun x v _ => ⟨v, rfl⟩
    | cons c m ih =>
      intro x v hm
      obtain ⟨v', e⟩ := ih (2 * x + (c - 48)) (.d (.str (S [c]))) fun d hd => hm d (List.mem_cons_of_mem _ hd)
      refine ⟨v', ?_⟩
      have ic := intB (hm c (List.mem_cons_self ..))
      have st : (sSet 1 (dBin gAdd (dBin gMul (dC (.int 2)) (dVar 1)) (dBlt (g1 gInt) [dVar 2]))) [.d (sB l), .d (.int (x : Int)), .d (.str (S [c]))] [] = .nx [.d (sB l), .d (.int ((2 * x + (c - 48) : Nat) : Int)), .d (.str (S [c]))] [] := by
        rw [ev_sSet, bin2 (bin2 ev_dC vr1 (gMul_ii (mul2_ok _))) (blt1 vr2 ic) gAdd_ii]
        rfl
      rw [List.map_cons, loop_cons (δ1 := [.d (sB l), .d (.int (x : Int)), .d (.str (S [c]))]) rfl st, e]
      rfl
  obtain ⟨v', e⟩ := lp l 0 .no hb
  simp only [d__law_value, s__law_value, den0]
  rw [show env0 3 [sB l] = [.d (sB l), .no, .no] from rfl, seq_set ev_dC]
  simp only [List.set_cons_succ, List.set_cons_zero]
  rw [seq_nx (by
    rw [ev_sFor, ev_dIt, vr0]
    simp only [ev_op_ok, gItems_sB]
    exact e)]
  rfl
theorem law_span_ok {l : List Nat} (hb : isBits l) (hl : l.length ≤ 100) : d__law_span [sB l] = .ok (.tuple [frN (valL l) (2 ^ l.length), frN (valL l + 1) (2 ^ l.length)]) := by
  have lp : ∀ (m : List Nat) (x : Nat) (v : SV), ∃ v', dLoop (tgN 2) (sSet 1 (dBin gMul (dC (.int 2)) (dVar 1))) (m.map fun c => .str (S [c])) [.d (sB l), .d (.int (x : Int)), v] [] = .nx [.d (sB l), .d (.int ((x * 2 ^ m.length : Nat) : Int)), v'] [] := fun m => by
    induction m with
    | nil => exact fun x v => ⟨v, by simp⟩
    | cons c m ih =>
      intro x v
      obtain ⟨v', e⟩ := ih (2 * x) (.d (.str (S [c])))
      refine ⟨v', ?_⟩
      have st : (sSet 1 (dBin gMul (dC (.int 2)) (dVar 1))) [.d (sB l), .d (.int (x : Int)), .d (.str (S [c]))] [] = .nx [.d (sB l), .d (.int ((2 * x : Nat) : Int)), .d (.str (S [c]))] [] := by
        rw [ev_sSet, bin2 ev_dC vr1 (gMul_ii (mul2_ok _))]
        rfl
      rw [List.map_cons, loop_cons (δ1 := [.d (sB l), .d (.int (x : Int)), .d (.str (S [c]))]) rfl st, e, List.length_cons, show x * 2 ^ (m.length + 1) = 2 * x * 2 ^ m.length by rw [Nat.pow_succ]; simp only [Nat.mul_assoc, Nat.mul_comm, Nat.mul_left_comm]]
  obtain ⟨v', e⟩ := lp l 1 .no
  rw [Nat.one_mul] at e
  have p2 := Nat.two_pow_pos l.length
  have pl : 2 ^ l.length < 2 ^ 200 := Nat.pow_lt_pow_right (by decide) (by omega)
  have va := law_value_ok hb
  have f1 := law_frac_ok (valL l) (2 ^ l.length) p2 pl
  have f2 := law_frac_ok (valL l + 1) (2 ^ l.length) p2 pl
  simp only [d__law_span, s__law_span, den0]
  rw [show env0 3 [sB l] = [.d (sB l), .no, .no] from rfl, seq_set ev_dC]
  simp only [List.set_cons_succ, List.set_cons_zero]
  rw [seq_nx (by
    rw [ev_sFor, ev_dIt, vr0]
    simp only [ev_op_ok, gItems_sB]
    exact e)]
  rw [ev_sRet]
  show (Res.to (dTup _ [.d (sB l), .d (.int ((2 ^ l.length : Nat) : Int)), frz v'] []) _ _).fin0 = _
  rw [tup2 (call0_2 (call0_1 vr0 va) vr1 f1) (call0_2 (bin2 (call0_1 vr0 va) ev_dC (show gAdd (.int ((valL l : Nat) : Int)) (.int 1) = some (.int ((valL l + 1 : Nat) : Int)) from rfl)) vr1 f2)]
  rfl
end K79
namespace K79
open PySem PySem.Spec PyProof.Rows L2 DL
open SX (S)
theorem mul2 {i j : Nat} {fa fb : EF} {δ : DEnv} {h h1 h2 : HS} {a b : PyData} (e1 : fa δ h = .ok a h1) (e2 : fb δ h1 = .ok b h2) : sMul [i, j] [(false, fa), (false, fb)] δ h = .nx ((δ.set i (.d a)).set j (.d b)) h2 := by
  simp [ev_op_ok, e1, e2]
theorem upG_eq (p : Nat → Bool) : ∀ (m n n' j : Nat), m ≤ n → m ≤ n' → p (j + m) = false → upG p n j = upG p n' j
  | 0, n, n', j, _, _, h => by
    rw [Nat.add_zero] at h
    have e : ∀ n, upG p n j = j := fun n => by
      cases n with
      | zero => rfl
      | succ n => rw [upG, h, if_neg Bool.false_ne_true]
    rw [e, e]
  | m + 1, 0, _, _, h, _, _ => by omega
  | m + 1, _, 0, _, _, h, _ => by omega
  | m + 1, n + 1, n' + 1, j, h1, h2, h => by
    rw [upG, upG, upG_eq p m n n' (j + 1) (by omega) (by omega) (by rw [Nat.add_right_comm]; exact h)]
theorem cl_unique {x t k : Nat} (ht : 0 < t) (h1 : x ≤ k * t) (h2 : k * t < x + t) : k = cl x t := by
  have b := cl_bd x t ht
  generalize cl x t = c at *
  apply Nat.le_antisymm
  · apply Decidable.byContradiction
    intro z
    have : (c + 1) * t ≤ k * t := Nat.mul_le_mul_right _ (by omega)
    rw [Nat.add_mul, Nat.one_mul] at this
    omega
  · apply Decidable.byContradiction
    intro z
    have : (k + 1) * t ≤ c * t := Nat.mul_le_mul_right _ (by omega)
    rw [Nat.add_mul, Nat.one_mul] at this
    omega
theorem cl_scale {x t G : Nat} (ht : 0 < t) (hG : 0 < G) : cl (x * G) (t * G) = cl x t := by
  refine (cl_unique (Nat.mul_pos ht hG) ?_ ?_).symm
  · have := (cl_bd x t ht).1
    rw [← Nat.mul_assoc]
    exact Nat.mul_le_mul_right _ this
  · have := (cl_bd x t ht).2
    rw [← Nat.mul_assoc, ← Nat.add_mul]
    exact Nat.mul_lt_mul_of_pos_right this hG
theorem lwP_end2 (T g w m : Nat) (hT : 0 < T) (hw : 1 ≤ w) (hm : 2 * T ≤ 2 ^ m) : lwP T g w m = false := by
  unfold lwP
  rw [decide_eq_false_iff_not]
  have := (cl_bd (g * 2 ^ m) T hT).2
  have : (cl (g * 2 ^ m) T + 1) * T = cl (g * 2 ^ m) T * T + T := by rw [Nat.add_mul]; omega
  have : (g + w) * 2 ^ m = g * 2 ^ m + w * 2 ^ m := Nat.add_mul ..
  have : 1 * 2 ^ m ≤ w * 2 ^ m := Nat.mul_le_mul_right _ hw
  omega
def wE (x lo hi v3 v4 v5 v6 v7 : SV) : DEnv := [x, lo, hi, v3, v4, v5, v6, v7]
theorem dbl_loop {x lo hi v3 v6 v7 : SV} : ∀ (n a : Nat) (ds : List PyData) (v5 : SV), ds.length = n → ∃ v5', dLoop (tgN 5) (sSet 4 (dBin gMul (dC (.int 2)) (dVar 4))) ds (wE x lo hi v3 (.d (.int (a : Int))) v5 v6 v7) [] = .nx (wE x lo hi v3 (.d (.int ((a * 2 ^ n : Nat) : Int))) v5' v6 v7) []
  | 0, a, ds, v5, h => by
    rw [List.eq_nil_of_length_eq_zero h, Nat.pow_zero, Nat.mul_one]
    exact ⟨v5, rfl⟩
  | n + 1, a, [], v5, h => by cases h
  | n + 1, a, d :: ds, v5, h => by
    obtain ⟨v5', e⟩ := dbl_loop (x := x) (lo := lo) (hi := hi) (v3 := v3) (v6 := v6) (v7 := v7) n (2 * a) ds (.d d) (by simpa using h)
    refine ⟨v5', ?_⟩
    have st : (sSet 4 (dBin gMul (dC (.int 2)) (dVar 4))) (wE x lo hi v3 (.d (.int (a : Int))) (.d d) v6 v7) [] = .nx (wE x lo hi v3 (.d (.int ((2 * a : Nat) : Int))) (.d d) v6 v7) [] := by
      unfold wE
      rw [ev_sSet, bin2 ev_dC vr4 (gMul_ii (mul2_ok _))]
      rfl
    rw [loop_cons (δ1 := wE x lo hi v3 (.d (.int (a : Int))) (.d d) v6 v7) rfl st, e, show a * 2 ^ (n + 1) = 2 * a * 2 ^ n by rw [Nat.pow_succ]; simp only [Nat.mul_assoc, Nat.mul_comm, Nat.mul_left_comm]]
theorem wd_loop {x lo hi v3 v4 : SV} (F : Nat) : ∀ (n i : Nat) (ds : List PyData) (v5 : SV), ds.length = n → i + n ≤ 1000 → ∃ v5', dLoop (tgN 5) (sMul [7, 6] [(false, dBin gAdd (dBlt (g1 gStr) [dBin gMod (dBlt (g1 gInt) [dVar 6]) (dC (.int 2))]) (dVar 7)), (false, dBin gFdiv (dVar 6) (dC (.int 2)))]) ds (wE x lo hi v3 v4 v5 (.d (.int ((F / 2 ^ i : Nat) : Int))) (.d (sB (bitsL i F)))) [] = .nx (wE x lo hi v3 v4 v5' (.d (.int ((F / 2 ^ (i + n) : Nat) : Int))) (.d (sB (bitsL (i + n) F)))) []
  | 0, i, ds, v5, h, _ => by
    rw [List.eq_nil_of_length_eq_zero h]
    exact ⟨v5, rfl⟩
  | n + 1, i, [], v5, h, _ => by cases h
  | n + 1, i, d :: ds, v5, h, hn => by
    obtain ⟨v5', e⟩ := wd_loop (x := x) (lo := lo) (hi := hi) (v3 := v3) (v4 := v4) F n (i + 1) ds (.d d) (by simpa using h) (by omega)
    refine ⟨v5', ?_⟩
    have st : (sMul [7, 6] [(false, dBin gAdd (dBlt (g1 gStr) [dBin gMod (dBlt (g1 gInt) [dVar 6]) (dC (.int 2))]) (dVar 7)), (false, dBin gFdiv (dVar 6) (dC (.int 2)))]) (wE x lo hi v3 v4 (.d d) (.d (.int ((F / 2 ^ i : Nat) : Int))) (.d (sB (bitsL i F)))) [] = .nx (wE x lo hi v3 v4 (.d d) (.d (.int ((F / 2 ^ (i + 1) : Nat) : Int))) (.d (sB (bitsL (i + 1) F)))) [] := by
      have gi : gInt (.int ((F / 2 ^ i : Nat) : Int)) = some (.int ((F / 2 ^ i : Nat) : Int)) := rfl
      have gm : gMod (.int ((F / 2 ^ i : Nat) : Int)) (.int 2) = some (.int ((F / 2 ^ i % 2 : Nat) : Int)) := by rw [gMod_ii (by decide), mod2]
      have ga : gAdd (sB [48 + F / 2 ^ i % 2]) (sB (bitsL i F)) = some (sB (bitsL (i + 1) F)) := by
        have := gAdd_S (a := [48 + F / 2 ^ i % 2]) (b := bitsL i F) (by rw [bitsL_len]; simp; omega)
        rw [bitsL_cons]
        exact this
      have gf : gFdiv (.int ((F / 2 ^ i : Nat) : Int)) (.int 2) = some (.int ((F / 2 ^ (i + 1) : Nat) : Int)) := by
        rw [gFdiv_ii dv2, div2, Nat.div_div_eq_div_mul, Nat.pow_succ]
      have a1 : (dBin gAdd (dBlt (g1 gStr) [dBin gMod (dBlt (g1 gInt) [dVar 6]) (dC (.int 2))]) (dVar 7)) (wE x lo hi v3 v4 (.d d) (.d (.int ((F / 2 ^ i : Nat) : Int))) (.d (sB (bitsL i F)))) [] = .ok (sB (bitsL (i + 1) F)) [] := bin2 (blt1 (bin2 (blt1 vr6 gi) ev_dC gm) (digS _)) vr7 ga
      have a2 : (dBin gFdiv (dVar 6) (dC (.int 2))) (wE x lo hi v3 v4 (.d d) (.d (.int ((F / 2 ^ i : Nat) : Int))) (.d (sB (bitsL i F)))) [] = .ok (.int ((F / 2 ^ (i + 1) : Nat) : Int)) [] := bin2 vr6 ev_dC gf
      exact mul2 a1 a2
    rw [loop_cons (δ1 := wE x lo hi v3 v4 (.d d) (.d (.int ((F / 2 ^ i : Nat) : Int))) (.d (sB (bitsL i F)))) rfl st, e, show i + 1 + n = i + (n + 1) by omega]
theorem size_step {T g w a b c d G H j : Nat} {x : SV} {v4 v5 v6 v7 : SV} (hT : 0 < T) (h2 : T < 2 ^ 60) (hg : g + w ≤ T) (hj : j ≤ 60) (hG : 0 < G) (hH : 0 < H) (ea : g = a * G) (eb : T = b * G) (ec : g + w = c * H) (ed : T = d * H) (hb : 0 < b) (hd : 0 < d) :
    ∃ v5', (sSeq (sSet 4 (dC (.int 1))) (sSeq (sFor (tgN 5) (dRng [dVar 3]) (sSet 4 (dBin gMul (dC (.int 2)) (dVar 4)))) (sSeq (sSet 6 (dBin gFdiv (dBin gSub (dBin gAdd (dBin gMul (dBin gIx (dVar 1) (dC (.int 0))) (dVar 4)) (dBin gIx (dVar 1) (dC (.int 1)))) (dC (.int 1))) (dBin gIx (dVar 1) (dC (.int 1))))) (sIf (dCmp gLe (dBin gMul (dBin gAdd (dVar 6) (dC (.int 1))) (dBin gIx (dVar 2) (dC (.int 1)))) (dBin gMul (dBin gIx (dVar 2) (dC (.int 0))) (dVar 4))) (sSeq (sSet 7 (dC (.str ""))) (sSeq (sFor (tgN 5) (dRng [dVar 3]) (sMul [7, 6] [(false, dBin gAdd (dBlt (g1 gStr) [dBin gMod (dBlt (g1 gInt) [dVar 6]) (dC (.int 2))]) (dVar 7)), (false, dBin gFdiv (dVar 6) (dC (.int 2)))])) (sRet (dVar 7)))) (sNext))))) (wE x (.d (pq a b)) (.d (pq c d)) (.d (.int (j : Int))) v4 v5 v6 v7) [] = if lwP T g w j then .nx (wE x (.d (pq a b)) (.d (pq c d)) (.d (.int (j : Int))) (.d (.int ((2 ^ j : Nat) : Int))) v5' (.d (.int ((cl (g * 2 ^ j) T : Nat) : Int))) v7) [] else .rt (sB (bitsL j (cl (g * 2 ^ j) T))) [] := by
  have rn := rng_ok (k := j) (by omega)
  obtain ⟨v5', e1⟩ := dbl_loop (x := x) (lo := .d (pq a b)) (hi := .d (pq c d)) (v3 := .d (.int (j : Int))) (v6 := v6) (v7 := v7) j 1 ((List.range j).map fun i => .int (i : Nat)) v5 (by simp)
  rw [Nat.one_mul] at e1
  have hbT : b ≤ T := by rw [eb]; exact Nat.le_mul_of_pos_right _ hG
  have hdT : d ≤ T := by rw [ed]; exact Nat.le_mul_of_pos_right _ hH
  have haT : a ≤ T := by have := Nat.le_mul_of_pos_right a hG; omega
  have hcT : c ≤ T := by have := Nat.le_mul_of_pos_right c hH; omega
  have p2 : 2 ^ j ≤ 2 ^ 60 := Nat.pow_le_pow_right (by decide) hj
  have ecl : (a * 2 ^ j + b - 1) / b = cl (g * 2 ^ j) T := by
    show cl (a * 2 ^ j) b = _
    rw [ea, eb, Nat.mul_right_comm, cl_scale hb hG]
  have hcl : cl (g * 2 ^ j) T ≤ 2 ^ 121 := by
    have := (cl_bd (g * 2 ^ j) T hT).2
    have h3 : cl (g * 2 ^ j) T ≤ cl (g * 2 ^ j) T * T := Nat.le_mul_of_pos_right _ hT
    have h4 : g * 2 ^ j ≤ 2 ^ 60 * 2 ^ 60 := Nat.mul_le_mul (by omega) p2
    omega
  have fd := fdivN (a * 2 ^ j + b - 1) b hb (by omega)
  have et : decide ((cl (g * 2 ^ j) T + 1) * d ≤ c * 2 ^ j) = !lwP T g w j := by
    unfold lwP
    have x1 : (g + w) * 2 ^ j = c * 2 ^ j * H := by rw [ec, Nat.mul_right_comm]
    have x2 : (cl (g * 2 ^ j) T + 1) * T = (cl (g * 2 ^ j) T + 1) * d * H := by rw (occs := .pos [2]) [ed]; rw [Nat.mul_assoc]
    rw [x1, x2, Bool.eq_iff_iff, Bool.not_eq_true', decide_eq_true_eq, decide_eq_false_iff_not, Nat.not_lt]
    exact ⟨fun h => Nat.mul_le_mul_right _ h, fun h => Nat.le_of_mul_le_mul_right h hH⟩
  have hlt : lwP T g w j = false → cl (g * 2 ^ j) T < 2 ^ j := fun h3 => by
    unfold lwP at h3
    rw [decide_eq_false_iff_not] at h3
    have : (g + w) * 2 ^ j ≤ T * 2 ^ j := Nat.mul_le_mul_right _ hg
    have : (cl (g * 2 ^ j) T + 1) * T ≤ 2 ^ j * T := by rw [Nat.mul_comm (2 ^ j)]; omega
    have := Nat.le_of_mul_le_mul_right this hT
    omega
  generalize cl (g * 2 ^ j) T = F at *
  generalize hm : 2 ^ j = m at *
  have m1 : mulOk (a : Int) (m : Int) = true := mulOk_lN (by omega)
  have m2 : mulOk ((F + 1 : Nat) : Int) (d : Int) = true := mulOk_rN (by omega)
  have m3 : mulOk (c : Int) (m : Int) = true := mulOk_lN (by omega)
  obtain ⟨v5'', e2⟩ := wd_loop (x := x) (lo := .d (pq a b)) (hi := .d (pq c d)) (v3 := .d (.int (j : Int))) (v4 := .d (.int (m : Int))) F j 0 ((List.range j).map fun i => .int (i : Nat)) v5' (by simp) (by omega)
  rw [Nat.pow_zero, Nat.div_one, Nat.zero_add] at e2
  refine ⟨v5', ?_⟩
  rw [seq_set ev_dC]
  show sSeq _ _ (wE x (.d (pq a b)) (.d (pq c d)) (.d (.int (j : Int))) (.d (.int ((1 : Nat) : Int))) v5 v6 v7) [] = _
  rw [seq_nx (by
    rw [ev_sFor, ev_dRng, ev_dSeq_cons]
    simp only [wE, vr3, ev_bind_ok, ev_dSeq_nil, ev_op_ok]
    rw [rn]
    exact e1)]
  have e6 : (dBin gFdiv (dBin gSub (dBin gAdd (dBin gMul (dBin gIx (dVar 1) (dC (.int 0))) (dVar 4)) (dBin gIx (dVar 1) (dC (.int 1)))) (dC (.int 1))) (dBin gIx (dVar 1) (dC (.int 1)))) (wE x (.d (pq a b)) (.d (pq c d)) (.d (.int (j : Int))) (.d (.int (m : Int))) v5' v6 v7) [] = .ok (.int (F : Int)) [] := by
    refine bin2 (d := .int (F : Int)) (bin2 (d := .int ((a * m + b - 1 : Nat) : Int)) (bin2 (d := .int ((a * m + b : Nat) : Int)) (bin2 (bin2 vr1 ev_dC (pq_0 a b)) vr4 (gMul_ii m1)) (bin2 vr1 ev_dC (pq_1 a b)) ?_) ev_dC ?_) (bin2 vr1 ev_dC (pq_1 a b)) ?_
    · rw [gAdd_ii]
      push_cast
      rfl
    · rw [gSub_ii, Int.natCast_sub (by omega)]
      rfl
    · rw [fd, ecl]
  rw [seq_set e6]
  show (sIf _ _ _) (wE x (.d (pq a b)) (.d (pq c d)) (.d (.int (j : Int))) (.d (.int (m : Int))) v5' (.d (.int (F : Int))) v7) [] = _
  have e7 : (dCmp gLe (dBin gMul (dBin gAdd (dVar 6) (dC (.int 1))) (dBin gIx (dVar 2) (dC (.int 1)))) (dBin gMul (dBin gIx (dVar 2) (dC (.int 0))) (dVar 4))) (wE x (.d (pq a b)) (.d (pq c d)) (.d (.int (j : Int))) (.d (.int (m : Int))) v5' (.d (.int (F : Int))) v7) [] = .ok (!lwP T g w j) [] := by
    have l1 : (dBin gMul (dBin gAdd (dVar 6) (dC (.int 1))) (dBin gIx (dVar 2) (dC (.int 1)))) (wE x (.d (pq a b)) (.d (pq c d)) (.d (.int (j : Int))) (.d (.int (m : Int))) v5' (.d (.int (F : Int))) v7) [] = .ok (.int (((F + 1) * d : Nat) : Int)) [] := by
      unfold wE
      rw [bin2 (bin2 vr6 ev_dC (show gAdd (.int (F : Int)) (.int 1) = some (.int ((F + 1 : Nat) : Int)) from rfl)) (bin2 vr2 ev_dC (pq_1 c d)) (gMul_ii m2), Int.natCast_mul]
    have l2 : (dBin gMul (dBin gIx (dVar 2) (dC (.int 0))) (dVar 4)) (wE x (.d (pq a b)) (.d (pq c d)) (.d (.int (j : Int))) (.d (.int (m : Int))) v5' (.d (.int (F : Int))) v7) [] = .ok (.int ((c * m : Nat) : Int)) [] := by
      unfold wE
      rw [bin2 (bin2 vr2 ev_dC (pq_0 c d)) vr4 (gMul_ii m3), Int.natCast_mul]
    rw [ev_dCmp, l1, ev_bind_ok, l2, ev_op_ok, gLe_ii, ← et]
    rw [show decide ((((F + 1) * d : Nat) : Int) ≤ ((c * m : Nat) : Int)) = decide ((F + 1) * d ≤ c * m) from by simp only [decide_eq_decide, Int.ofNat_le]]
  cases hP : lwP T g w j with
  | true =>
    rw [hP] at e7
    rw [sif_f e7, if_pos rfl]
    rfl
  | false =>
    rw [hP] at e7
    rw [sif_t e7, if_neg Bool.false_ne_true, seq_set ev_dC]
    show sSeq _ _ (wE x (.d (pq a b)) (.d (pq c d)) (.d (.int (j : Int))) (.d (.int (m : Int))) v5' (.d (.int (F : Int))) (.d (.str ""))) [] = _
    rw [seq_nx (by
      rw [ev_sFor, ev_dRng, ev_dSeq_cons]
      simp only [wE, vr3, ev_bind_ok, ev_dSeq_nil, ev_op_ok]
      rw [rn]
      rw [show Str.ofString "" = S [] from lit_e]
      exact e2)]
    rfl
theorem size_loop {T g w a b c d G H : Nat} {x : SV} (hT : 0 < T) (h2 : T < 2 ^ 60) (hg : g + w ≤ T) (hG : 0 < G) (hH : 0 < H) (ea : g = a * G) (eb : T = b * G) (ec : g + w = c * H) (ed : T = d * H) (hb : 0 < b) (hd : 0 < d) :
    ∀ (n j : Nat) (v3 v4 v5 v6 v7 : SV), j + n = 60 → (∃ m, j ≤ m ∧ m < 60 ∧ lwP T g w m = false) → dLoop (tgN 3) (sSeq (sSet 4 (dC (.int 1))) (sSeq (sFor (tgN 5) (dRng [dVar 3]) (sSet 4 (dBin gMul (dC (.int 2)) (dVar 4)))) (sSeq (sSet 6 (dBin gFdiv (dBin gSub (dBin gAdd (dBin gMul (dBin gIx (dVar 1) (dC (.int 0))) (dVar 4)) (dBin gIx (dVar 1) (dC (.int 1)))) (dC (.int 1))) (dBin gIx (dVar 1) (dC (.int 1))))) (sIf (dCmp gLe (dBin gMul (dBin gAdd (dVar 6) (dC (.int 1))) (dBin gIx (dVar 2) (dC (.int 1)))) (dBin gMul (dBin gIx (dVar 2) (dC (.int 0))) (dVar 4))) (sSeq (sSet 7 (dC (.str ""))) (sSeq (sFor (tgN 5) (dRng [dVar 3]) (sMul [7, 6] [(false, dBin gAdd (dBlt (g1 gStr) [dBin gMod (dBlt (g1 gInt) [dVar 6]) (dC (.int 2))]) (dVar 7)), (false, dBin gFdiv (dVar 6) (dC (.int 2)))])) (sRet (dVar 7)))) (sNext))))) ((List.range' j n).map fun i => .int (i : Nat)) (wE x (.d (pq a b)) (.d (pq c d)) v3 v4 v5 v6 v7) [] = .rt (sB (bitsL (upG (lwP T g w) n j) (cl (g * 2 ^ upG (lwP T g w) n j) T))) []
  | 0, j, v3, v4, v5, v6, v7, hj, ⟨m, h1, h3, _⟩ => by omega
  | n + 1, j, v3, v4, v5, v6, v7, hj, ⟨m, h1, h3, hm⟩ => by
    obtain ⟨v5', e⟩ := size_step (x := x) (v4 := v4) (v5 := v5) (v6 := v6) (v7 := v7) (j := j) hT h2 hg (by omega) hG hH ea eb ec ed hb hd
    rw [List.range'_succ, List.map_cons, upG]
    cases hP : lwP T g w j with
    | false =>
      rw [hP, if_neg Bool.false_ne_true] at e
      rw [loop_rt (δ1 := wE x (.d (pq a b)) (.d (pq c d)) (.d (.int (j : Int))) v4 v5 v6 v7) rfl e, if_neg Bool.false_ne_true]
    | true =>
      rw [hP, if_pos rfl] at e
      rw [loop_cons (δ1 := wE x (.d (pq a b)) (.d (pq c d)) (.d (.int (j : Int))) v4 v5 v6 v7) rfl e, if_pos rfl]
      refine size_loop hT h2 hg hG hH ea eb ec ed hb hd n (j + 1) _ _ _ _ _ (by omega) ⟨m, ?_, h3, hm⟩
      rcases Nat.lt_or_eq_of_le h1 with z | z
      · exact z
      · subst z
        rw [hP] at hm
        cases hm
theorem law_least_ok (T g w : Nat) (hT : 0 < T) (h2 : T < 2 ^ 50) (hw : 1 ≤ w) (hg : g + w ≤ T) : d__law_least_word [.tuple [frN g T, frN (g + w) T]] = .ok (sB (bitsL (lwK T g w) (cl (g * 2 ^ lwK T g w) T))) := by
  obtain ⟨a, b, G, e1, hG, ea, eb, hb⟩ := frN_low g T hT
  obtain ⟨c, d, H, e2, hH, ec, ed, hd⟩ := frN_low (g + w) T hT
  have pe := lwP_end2 T g w 51 hT hw (by omega)
  have lp := size_loop (x := .d (.tuple [pq a b, pq c d])) hT (by omega) hg hG hH ea eb ec ed hb hd 60 0 .no .no .no .no .no rfl ⟨51, by omega, by omega, pe⟩
  have ue : upG (lwP T g w) 60 0 = lwK T g w := upG_eq _ 51 60 62 0 (by omega) (by omega) (by rw [Nat.zero_add]; exact pe)
  rw [ue, ← List.range_eq_range'] at lp
  have rn := rng_ok (k := 60) (by decide)
  rw [show ((60 : Nat) : Int) = 60 from rfl] at rn
  rw [e1, e2]
  simp only [d__law_least_word, s__law_least_word, den0]
  rw [show env0 8 [.tuple [pq a b, pq c d]] = wE (.d (.tuple [pq a b, pq c d])) .no .no .no .no .no .no .no from rfl]
  rw [seq_nx (f := sAsg _ _) (δ1 := wE (.d (.tuple [pq a b, pq c d])) (.d (pq a b)) (.d (pq c d)) .no .no .no .no .no) (h1 := []) (by
    rw [ev_sAsg]
    simp only [wE, vr0, ev_to_ok]
    rfl)]
  have lp2 : (sFor (tgN 3) (dRng [dC (.int 60)]) (sSeq (sSet 4 (dC (.int 1))) (sSeq (sFor (tgN 5) (dRng [dVar 3]) (sSet 4 (dBin gMul (dC (.int 2)) (dVar 4)))) (sSeq (sSet 6 (dBin gFdiv (dBin gSub (dBin gAdd (dBin gMul (dBin gIx (dVar 1) (dC (.int 0))) (dVar 4)) (dBin gIx (dVar 1) (dC (.int 1)))) (dC (.int 1))) (dBin gIx (dVar 1) (dC (.int 1))))) (sIf (dCmp gLe (dBin gMul (dBin gAdd (dVar 6) (dC (.int 1))) (dBin gIx (dVar 2) (dC (.int 1)))) (dBin gMul (dBin gIx (dVar 2) (dC (.int 0))) (dVar 4))) (sSeq (sSet 7 (dC (.str ""))) (sSeq (sFor (tgN 5) (dRng [dVar 3]) (sMul [7, 6] [(false, dBin gAdd (dBlt (g1 gStr) [dBin gMod (dBlt (g1 gInt) [dVar 6]) (dC (.int 2))]) (dVar 7)), (false, dBin gFdiv (dVar 6) (dC (.int 2)))])) (sRet (dVar 7)))) (sNext)))))) (wE (.d (.tuple [pq a b, pq c d])) (.d (pq a b)) (.d (pq c d)) .no .no .no .no .no) [] = .rt (sB (bitsL (lwK T g w) (cl (g * 2 ^ lwK T g w) T))) [] := by
    have dr : (dRng [dC (.int 60)]) (wE (.d (.tuple [pq a b, pq c d])) (.d (pq a b)) (.d (pq c d)) .no .no .no .no .no) [] = .ok ((List.range 60).map fun i => .int (i : Nat)) [] := by
      rw [ev_dRng, ev_dSeq_cons, ev_dC, ev_bind_ok, ev_dSeq_nil]
      simp only [ev_op_ok]
      rw [rn]
    rw [ev_sFor, dr, ev_to_ok, lp]
  rw [ev_sSeq, lp2]
  rfl
end K79
namespace K79
open PySem PySem.Spec PyProof.Rows L2 DL
open SX (S)
/-! ### the shares' low ends and widths -/
def gw : Nat → List Nat → List (Nat × Nat)
  | _, [] => []
  | g, w :: ws => (g, w) :: gw (g + w) ws
theorem gw_len : ∀ (g : Nat) (ws : List Nat), (gw g ws).length = ws.length
  | _, [] => rfl
  | g, w :: ws => by rw [gw, List.length_cons, gw_len, List.length_cons]
theorem gw_mem {T : Nat} : ∀ (g : Nat) (ws : List Nat), g + ws.sum ≤ T → (∀ w ∈ ws, 1 ≤ w) → ∀ p ∈ gw g ws, g ≤ p.1 ∧ 1 ≤ p.2 ∧ p.1 + p.2 ≤ T
  | _, [], _, _, _, h => nomatch h
  | g, w :: ws, hs, hw, p, h => by
    rw [List.sum_cons] at hs
    rcases List.mem_cons.mp h with rfl | h
    · exact ⟨Nat.le_refl _, hw w (List.mem_cons_self ..), by dsimp only; omega⟩
    · have := gw_mem (T := T) (g + w) ws (by omega) (fun v hv => hw v (List.mem_cons_of_mem _ hv)) p h
      exact ⟨by omega, this.2⟩
def shT (T : Nat) (p : Nat × Nat) : PyData := .tuple [frN p.1 T, frN (p.1 + p.2) T]
def miT (T : Nat) (p : Nat × Nat) : PyData := frN (2 * p.1 + p.2) (2 * T)
def mwT (T : Nat) (p : Nat × Nat) : List Nat := bitsL (sz T p.2 + 1) ((2 * p.1 + p.2) * 2 ^ (sz T p.2 + 1) / (2 * T))
def lwT (T : Nat) (p : Nat × Nat) : List Nat := bitsL (lwK T p.1 p.2) (cl (p.1 * 2 ^ lwK T p.1 p.2) T)
theorem sh_gw (T : Nat) : ∀ (g : Nat) (ws : List Nat), shL T g ws = (gw g ws).map (shT T)
  | _, [] => rfl
  | g, w :: ws => by rw [shL, gw, List.map_cons, sh_gw T]; rfl
theorem mi_gw (T : Nat) : ∀ (g : Nat) (ws : List Nat), midsL T g ws = (gw g ws).map (miT T)
  | _, [] => rfl
  | g, w :: ws => by rw [midsL, gw, List.map_cons, mi_gw T]; rfl
theorem mw_gw (T : Nat) : ∀ (g : Nat) (ws : List Nat), mwW T g ws = (gw g ws).map (mwT T)
  | _, [] => rfl
  | g, w :: ws => by rw [mwW, gw, List.map_cons, mw_gw T]; rfl
theorem lw_gw (T : Nat) : ∀ (g : Nat) (ws : List Nat), lwL T g ws = (gw g ws).map fun p => sB (lwT T p)
  | _, [] => rfl
  | g, w :: ws => by rw [lwL, gw, List.map_cons, lw_gw T]; rfl
theorem nI_gw : ∀ (g : Nat) (ws : List Nat), ws.map nI = (gw g ws).map fun p => nI p.2
  | _, [] => rfl
  | g, w :: ws => by rw [gw, List.map_cons, List.map_cons, nI_gw (g + w)]
theorem zip_gw {α β : Type} (f : α → PyData) (k : α → PyData) : ∀ l : List α, List.zipWith (fun x y => PyData.tuple [x, y]) (l.map f) (l.map k) = l.map fun p => .tuple [f p, k p]
  | [] => rfl
  | p :: l => by rw [List.map_cons, List.map_cons, List.zipWith_cons_cons, zip_gw (β := β) f k l]; rfl
/-! least words lie in order -/
theorem lw_in (T g w : Nat) (hT : 0 < T) (h2 : T < 2 ^ 60) (hw : 1 ≤ w) : g * 2 ^ lwK T g w ≤ cl (g * 2 ^ lwK T g w) T * T ∧ (cl (g * 2 ^ lwK T g w) T + 1) * T ≤ (g + w) * 2 ^ lwK T g w := by
  have h3 := upG_stop (lwP T g w) 62 0 (lwP_end T g w hT h2 hw)
  change lwP T g w (lwK T g w) = false at h3
  refine ⟨(cl_bd _ T hT).1, ?_⟩
  unfold lwP at h3
  rw [decide_eq_false_iff_not, Nat.not_lt] at h3
  exact h3
theorem lw_order (T : Nat) (hT : 0 < T) (h2 : T < 2 ^ 60) : ∀ (g : Nat) (ws : List Nat), g + ws.sum ≤ T → (∀ w ∈ ws, 1 ≤ w) → ordB ((gw g ws).map (lwT T)) = true
  | _, [], _, _ => rfl
  | _, [_], _, _ => rfl
  | g, w :: v :: ws, hs, hw => by
    have ih := lw_order T hT h2 (g + w) (v :: ws) (by simp only [List.sum_cons] at hs ⊢; omega) (fun n hn => hw n (List.mem_cons_of_mem _ hn))
    have w1 := hw w (List.mem_cons_self ..)
    have v1 := hw v (List.mem_cons_of_mem _ (List.mem_cons_self ..))
    simp only [List.sum_cons] at hs
    have a := lw_in T g w hT h2 w1
    have b := lw_in T (g + w) v hT h2 v1
    have c1 := (lwK_lt T g w hT h2 w1 (by omega)).2
    have c2 := (lwK_lt T (g + w) v hT h2 v1 (by omega)).2
    rw [gw, gw, List.map_cons, List.map_cons, ordB_cons]
    rw [gw, List.map_cons] at ih
    rw [ih, Bool.and_true]
    unfold lwT
    dsimp only
    generalize cl (g * 2 ^ lwK T g w) T = x1 at *
    generalize cl ((g + w) * 2 ^ lwK T (g + w) v) T = x2 at *
    have key := bits_lt' (k1 := lwK T g w) (k2 := lwK T (g + w) v) (x1 := x1) (x2 := x2)
    unfold ordP
    rw [bitsL_len]
    generalize lwK T g w = k1 at *
    generalize lwK T (g + w) v = k2 at *
    have k := key c1 c2 (by
      have m1 := Nat.mul_le_mul_right (2 ^ k2) a.2
      have m2 := Nat.mul_le_mul_right (2 ^ k1) b.1
      have e1 : (x1 + 1) * T * 2 ^ k2 = (x1 + 1) * 2 ^ k2 * T := by simp only [Nat.mul_assoc, Nat.mul_comm, Nat.mul_left_comm]
      have e2 : x2 * T * 2 ^ k1 = x2 * 2 ^ k1 * T := by simp only [Nat.mul_assoc, Nat.mul_comm, Nat.mul_left_comm]
      have e3 : (g + w) * 2 ^ k1 * 2 ^ k2 = (g + w) * 2 ^ k2 * 2 ^ k1 := by simp only [Nat.mul_assoc, Nat.mul_comm, Nat.mul_left_comm]
      rw [e1] at m1
      rw [e2] at m2
      exact Nat.le_of_mul_le_mul_right (by omega : (x1 + 1) * 2 ^ k2 * T ≤ x2 * 2 ^ k1 * T) hT)
    rw [Bool.and_eq_true, decide_eq_true_eq, Bool.not_eq_true', decide_eq_false_iff_not]
    exact k
/-! no longer than middle words -/
theorem upG_min (p : Nat → Bool) : ∀ n m j, p (j + m) = false → upG p n j ≤ j + m
  | 0, m, j, _ => by rw [upG]; omega
  | n + 1, m, j, h => by
    rw [upG]
    cases m with
    | zero =>
      rw [Nat.add_zero] at h
      rw [h, if_neg Bool.false_ne_true]
      omega
    | succ m =>
      split
      · have := upG_min p n m (j + 1) (by rw [Nat.add_right_comm]; exact h)
        omega
      · omega
theorem lw_short (T g w : Nat) (hT : 0 < T) (h2 : T < 2 ^ 60) (hw : 1 ≤ w) (hg : g + w ≤ T) : lwK T g w ≤ sz T w + 1 := by
  have m := mid_in T g w hT h2 hw hg
  have f : lwP T g w (sz T w + 1) = false := by
    unfold lwP
    rw [decide_eq_false_iff_not, Nat.not_lt]
    generalize (2 * g + w) * 2 ^ (sz T w + 1) / (2 * T) = X at *
    generalize 2 ^ (sz T w + 1) = M at *
    have b := cl_bd (g * M) T hT
    generalize cl (g * M) T = c at *
    have : c ≤ X := by
      apply Decidable.byContradiction
      intro z
      have : (X + 1) * T ≤ c * T := Nat.mul_le_mul_right _ (by omega)
      have : (X + 1) * T = X * T + T := by rw [Nat.add_mul, Nat.one_mul]
      omega
    have : (c + 1) * T ≤ (X + 1) * T := Nat.mul_le_mul_right _ (by omega)
    omega
  have := upG_min (lwP T g w) 62 (sz T w + 1) 0 (by rw [Nat.zero_add]; exact f)
  unfold lwK
  omega
/-! places -/
theorem plc_at {p q T : Nat} (hT : 0 < T) : ∀ (ws : List Nat) (g k i : Nat) (x : Nat × Nat), g + ws.sum ≤ T → (∀ w ∈ ws, 1 ≤ w) → (gw g ws)[i]? = some x → x.1 * q ≤ p * T → p * T < (x.1 + x.2) * q → plc p q T g k ws = k + i
  | [], g, k, i, x, _, _, h, _, _ => by simp [gw] at h
  | w :: ws, g, k, 0, x, _, _, h, h1, h2 => by
    rw [gw, List.getElem?_cons_zero, Option.some.injEq] at h
    subst h
    rw [plc, if_pos h2]
    rfl
  | w :: ws, g, k, i + 1, x, hs, hw, h, h1, h2 => by
    rw [List.sum_cons] at hs
    rw [gw, List.getElem?_cons_succ] at h
    have m := gw_mem (T := T) (g + w) ws (by omega) (fun v hv => hw v (List.mem_cons_of_mem _ hv)) x (List.mem_of_getElem? h)
    have : (g + w) * q ≤ x.1 * q := Nat.mul_le_mul_right _ m.1
    rw [plc, if_neg (by omega), plc_at hT ws (g + w) (k + 1) i x (by omega) (fun v hv => hw v (List.mem_cons_of_mem _ hv)) h h1 h2]
    omega
theorem plc_scale {p q T c : Nat} (hc : 0 < c) : ∀ (ws : List Nat) (g k : Nat), plc (p * c) (q * c) T g k ws = plc p q T g k ws
  | [], _, _ => rfl
  | w :: ws, g, k => by
    have e1 : p * c * T = p * T * c := Nat.mul_right_comm _ _ _
    have e2 : (g + w) * (q * c) = (g + w) * q * c := (Nat.mul_assoc _ _ _).symm
    have : (p * c * T < (g + w) * (q * c)) ↔ (p * T < (g + w) * q) := by
      rw [e1, e2]
      exact Nat.mul_lt_mul_right hc
    rw [plc, plc, plc_scale hc]
    simp only [this]
/-- place_in, of any fraction below 1 -/
theorem place_frN {ws : List Nat} (W : Wn ws) (a b : Nat) (hb : 0 < b) (hab : a < b) : d_place_in [tI ws, frN a b] = .ok (.int (plc a b ws.sum 0 0 ws : Nat)) := by
  have hg : 0 < Nat.gcd a b := Nat.gcd_pos_of_pos_right _ hb
  have hp : a / Nat.gcd a b * Nat.gcd a b = a := Nat.div_mul_cancel (Nat.gcd_dvd_left a b)
  have hq : b / Nat.gcd a b * Nat.gcd a b = b := Nat.div_mul_cancel (Nat.gcd_dvd_right a b)
  have hc : Nat.gcd (a / Nat.gcd a b) (b / Nat.gcd a b) = 1 := by
    first
      | exact Nat.gcd_div_gcd_div_gcd_of_pos_right hb
      | exact Nat.coprime_div_gcd_div_gcd hg
      | rw [Nat.gcd_div (Nat.gcd_dvd_left a b) (Nat.gcd_dvd_right a b), Nat.div_self hg]
  have q0 : 0 < b / Nat.gcd a b := Nat.div_gcd_pos_of_pos_right _ hb
  have lt : a / Nat.gcd a b < b / Nat.gcd a b := Nat.lt_of_mul_lt_mul_right (a := Nat.gcd a b) (by rw [hp, hq]; exact hab)
  have e := place_in_ok W _ _ q0 hc lt
  have s := plc_scale (p := a / Nat.gcd a b) (q := b / Nat.gcd a b) (T := ws.sum) hg ws 0 0
  rw [hp, hq] at s
  rw [s]
  exact e
/-- the first share whose high end lies beyond the point -/
def insL (p q T : Nat) : Nat → Nat → List Nat → List Nat
  | _, _, [] => []
  | g, k, w :: ws => if p * T < (g + w) * q then k :: insL p q T (g + w) (k + 1) ws else insL p q T (g + w) (k + 1) ws
theorem ins_head (p q T : Nat) : ∀ (ws : List Nat) (g k : Nat), p * T < (g + ws.sum) * q → ws ≠ [] → (insL p q T g k ws)[0]? = some (plc p q T g k ws)
  | [], g, k, _, h => absurd rfl h
  | w :: ws, g, k, h, _ => by
    rw [insL, plc]
    split
    · rfl
    · rename_i c
      rw [List.sum_cons, ← Nat.add_assoc] at h
      refine ins_head p q T ws (g + w) (k + 1) h ?_
      intro z
      subst z
      exact c h
end K79
namespace K79
open PySem PySem.Spec PyProof.Rows L2 DL
open SX (S)
theorem lc_filter {α : Type} {t : TF} {fc : CF} {fe : EF} {δ0 : DEnv} {h : HS} (mk : α → PyData) (p : α → Bool) (g : α → PyData) : ∀ (xs : List α) (acc : List PyData), (∀ x ∈ xs, ∃ δ1, t (mk x) δ0 = some δ1 ∧ fc δ1 h = .ok (p x) h ∧ fe δ1 h = .ok (g x) h) → lcLoop t fc fe δ0 (xs.map mk) acc h = .ok (acc ++ (xs.filter p).map g) h
  | [], acc, _ => by simp [lcLoop]
  | x :: xs, acc, k => by
    obtain ⟨δ1, e1, e2, e3⟩ := k x (List.mem_cons_self ..)
    rw [List.map_cons, lcLoop, e1]
    simp only [e2, ev_bind_ok]
    cases c : p x with
    | true =>
      simp only [if_true, e3, ev_bind_ok]
      rw [lc_filter mk p g xs _ fun y hy => k y (List.mem_cons_of_mem _ hy), List.filter_cons_of_pos c]
      simp
    | false =>
      simp only [Bool.false_eq_true, if_false]
      rw [lc_filter mk p g xs _ fun y hy => k y (List.mem_cons_of_mem _ hy), List.filter_cons_of_neg (by rw [c]; exact Bool.false_ne_true)]
def eP {α : Type} : Nat → List α → List (Nat × α)
  | _, [] => []
  | k, p :: ps => (k, p) :: eP (k + 1) ps
theorem eP_enL {α : Type} (f : α → PyData) : ∀ (k : Nat) (ps : List α), enL k (ps.map f) = (eP k ps).map fun q => .tuple [.int (q.1 : Nat), f q.2]
  | _, [] => rfl
  | k, p :: ps => by rw [List.map_cons, enL, eP, List.map_cons, eP_enL f]
theorem eP_mem {α : Type} : ∀ (k : Nat) (ps : List α) (q : Nat × α), q ∈ eP k ps → k ≤ q.1 ∧ ps[q.1 - k]? = some q.2
  | _, [], _, h => nomatch h
  | k, p :: ps, q, h => by
    rcases List.mem_cons.mp h with rfl | h
    · exact ⟨Nat.le_refl _, by rw [Nat.sub_self]; rfl⟩
    · have := eP_mem (k + 1) ps q h
      refine ⟨by omega, ?_⟩
      rw [show q.1 - k = (q.1 - (k + 1)) + 1 by omega, List.getElem?_cons_succ]
      exact this.2
theorem eP_len {α : Type} : ∀ (k : Nat) (ps : List α), (eP k ps).length = ps.length
  | _, [] => rfl
  | k, p :: ps => by rw [eP, List.length_cons, eP_len, List.length_cons]
theorem ins_eP (d B T : Nat) : ∀ (ws : List Nat) (g k : Nat), ((eP k (gw g ws)).filter fun q => decide (d * T < (q.2.1 + q.2.2) * B)).map (fun q => q.1) = insL d B T g k ws
  | [], _, _ => rfl
  | w :: ws, g, k => by
    rw [gw, eP, insL]
    by_cases c : d * T < (g + w) * B
    · rw [List.filter_cons_of_pos (by simpa using c), List.map_cons, ins_eP d B T ws, if_pos c]
    · rw [List.filter_cons_of_neg (by simpa using c), ins_eP d B T ws, if_neg c]
theorem gIx_tup {l : List PyData} {i : Nat} {x : PyData} (h : l[i]? = some x) : gIx (.tuple l) (.int (i : Int)) = some x := by
  obtain ⟨hi, e⟩ := List.getElem?_eq_some_iff.mp h
  show atI l (i : Int) = _
  simp [atI, ixN, hi, e]
theorem gIx_lst {l : List PyData} {i : Nat} {x : PyData} (h : l[i]? = some x) : gIx (.list l) (.int (i : Int)) = some x := gIx_tup (l := l) h
theorem sz50 {T w : Nat} (h2 : T < 2 ^ 50) (hw : 1 ≤ w) : sz T w ≤ 50 := by
  apply Decidable.byContradiction
  intro z
  have := sz_min T w 60 0 50 (by omega) (by unfold sz at z; omega)
  have : 1 * 2 ^ 50 ≤ w * 2 ^ 50 := Nat.mul_le_mul_right _ hw
  omega
theorem law_first_frN (P Q k : Nat) (h : P < Q) (hQ : Q < 2 ^ 100) (hk : k ≤ 400) : d__law_first_bits [frN P Q, .int (k : Int)] = .ok (sB (bitsL k (P * 2 ^ k / Q))) := by
  have g := gcd_half h (by omega)
  have e := law_first_ok (P / Nat.gcd P Q) (Q / Nat.gcd P Q) k g.1 (by have := Nat.div_le_self Q (Nat.gcd P Q); omega) hk
  rw [mw_val P Q _ (by omega)] at e
  exact e
section
variable {ws : List Nat} {T : Nat} {P : List (Nat × Nat)} (hT : 0 < T) (h2 : T < 2 ^ 50) (hP : ∀ p ∈ P, 1 ≤ p.2 ∧ p.1 + p.2 ≤ T) (hn : P.length ≤ 200)
def rE (ws : List Nat) (T : Nat) (P : List (Nat × Nat)) (v3 v4 v5 v6 v7 v8 v9 v10 v11 v12 v13 v14 v15 v16 : SV) : DEnv := [.am, .d (tI ws), .d (.list (P.map (shT T))), v3, v4, v5, v6, v7, v8, v9, v10, v11, v12, v13, v14, v15, v16, .no, .no, .no]
include hT h2 hP
include hn in
theorem due_ok {h : HS} : (dBlt (g1 gTuple) [dLc [12, 13] (tgTup 2 (tgCons (tgN 12) (tgCons (tgN 13) (tgNil)))) (dIt (dVar 2)) (dYes) (dCall0 d__law_mul [dTup [dC (.int 1), dC (.int 2)], dCall0 d__law_add [dVar 12, dVar 13]])]) (rE ws T P (.d (.int (T : Int))) .no .no .no .no .no .no .no .no .no .no .no .no .no) h = .ok (.tuple (P.map (miT T))) h := by
  have e := lc_of (vs := [12, 13]) (t := tgTup 2 (tgCons (tgN 12) (tgCons (tgN 13) (tgNil)))) (fi := dIt (dVar 2)) (fc := dYes) (fe := dCall0 d__law_mul [dTup [dC (.int 1), dC (.int 2)], dCall0 d__law_add [dVar 12, dVar 13]]) (δ := rE ws T P (.d (.int (T : Int))) .no .no .no .no .no .no .no .no .no .no .no .no .no) (h := h) (h1 := h) (shT T) (miT T) (ns := P)
    (by
      unfold rE
      simp only [ev_dIt, vr2, ev_op_ok, gItems_list]) (sL (by omega)) rfl (fun p hp => ⟨rE ws T P (.d (.int (T : Int))) .no .no .no .no .no .no .no .no (.d (frN p.1 T)) (.d (frN (p.1 + p.2) T)) .no .no .no, rfl, rfl, by
        have q := hP p hp
        have a := law_add_ok (a := p.1) (b := T) (c := p.1 + p.2) (d := T) hT hT (by omega) (by omega) (by omega) (by omega)
        rw [frN_cross (a := p.1 * T + (p.1 + p.2) * T) (b := T * T) (c := 2 * p.1 + p.2) (d := T) (Nat.mul_pos hT hT) hT (by
          rw [← Nat.add_mul, Nat.mul_assoc, show p.1 + (p.1 + p.2) = 2 * p.1 + p.2 by omega])] at a
        have m := law_mul_ok (a := 2 * p.1 + p.2) (b := T) hT (by omega) (by omega)
        exact call0_2 (tup2 ev_dC ev_dC) (call0_2 vr12 vr13 a) m⟩)
  exact blt1 e rfl
theorem words_turn {p : Nat × Nat} (hp : p ∈ P) {acc : List PyData} (hl : acc.length ≤ 200) {v4 v8 v9 : SV} {h : HS} : ∃ v8' v9', (sSeq (sMul [8, 9] [(false, dC (.int 1)), (false, dC (.int 1))]) (sSeq (sWhile (dCmp gLt (dBin gMul (dVar 9) (dVar 6)) (dVar 3)) (sMul [8, 9] [(false, dBin gAdd (dVar 8) (dC (.int 1))), (false, dBin gMul (dC (.int 2)) (dVar 9))])) (sDropM (mMeth1 5 gApp (mOf (dCall0 d__law_first_bits [dVar 7, dVar 8])))))) (rE ws T P (.d (.int (T : Int))) v4 (.o (.list acc)) (.d (.int (p.2 : Int))) (.d (miT T p)) v8 v9 .no .no .no .no .no .no .no) h = .nx (rE ws T P (.d (.int (T : Int))) v4 (.o (.list (acc ++ [sB (mwT T p)]))) (.d (.int (p.2 : Int))) (.d (miT T p)) v8' v9' .no .no .no .no .no .no .no) h := by
  have q := hP p hp
  have z := sz50 h2 q.1
  have up := up_loop (c := dCmp gLt (dBin gMul (dVar 9) (dVar 6)) (dVar 3)) (f := sMul [8, 9] [(false, dBin gAdd (dVar 8) (dC (.int 1))), (false, dBin gMul (dC (.int 2)) (dVar 9))]) (h := h) (fun j => rE ws T P (.d (.int (T : Int))) v4 (.o (.list acc)) (.d (.int (p.2 : Int))) (.d (miT T p)) (.d (.int ((j + 1 : Nat) : Int))) (.d (.int ((2 ^ j : Nat) : Int))) .no .no .no .no .no .no .no) T p.2 (fun j hj => by
    have m1 : mulOk ((2 ^ j : Nat) : Int) (p.2 : Int) = true := mulOk_rN (by omega)
    unfold rE
    rw [ev_dCmp, bin2 vr9 vr6 (gMul_ii m1), ev_bind_ok, vr3, ev_op_ok, gLt_ii, ← Int.natCast_mul, Nat.mul_comm]
    rw [show decide (((p.2 * 2 ^ j : Nat) : Int) < (T : Int)) = decide (p.2 * 2 ^ j < T) from by simp only [decide_eq_decide, Int.ofNat_lt]]) (fun j hj => by
    have a2 : (dBin gMul (dC (.int 2)) (dVar 9)) (rE ws T P (.d (.int (T : Int))) v4 (.o (.list acc)) (.d (.int (p.2 : Int))) (.d (miT T p)) (.d (.int ((j + 1 : Nat) : Int))) (.d (.int ((2 ^ j : Nat) : Int))) .no .no .no .no .no .no .no) h = .ok (.int ((2 ^ (j + 1) : Nat) : Int)) h := by
      unfold rE
      rw [bin2 ev_dC vr9 (gMul_ii (mul2_ok _)), Nat.pow_succ, Nat.mul_comm (2 ^ j), Int.natCast_mul]
      rfl
    have a1 : (dBin gAdd (dVar 8) (dC (.int 1))) (rE ws T P (.d (.int (T : Int))) v4 (.o (.list acc)) (.d (.int (p.2 : Int))) (.d (miT T p)) (.d (.int ((j + 1 : Nat) : Int))) (.d (.int ((2 ^ j : Nat) : Int))) .no .no .no .no .no .no .no) h = .ok (.int ((j + 1 + 1 : Nat) : Int)) h := bin2 vr8 ev_dC rfl
    exact mul2 a1 a2) 60 0 rfl (by
    have : 1 * 2 ^ 60 ≤ p.2 * 2 ^ 60 := Nat.mul_le_mul_right _ q.1
    omega)
  have fb := law_first_frN (2 * p.1 + p.2) (2 * T) (sz T p.2 + 1) (by omega) (by omega) (by omega)
  refine ⟨.d (.int ((sz T p.2 + 1 : Nat) : Int)), .d (.int ((2 ^ sz T p.2 : Nat) : Int)), ?_⟩
  rw [seq_nx (mul2 (a := .int 1) (b := .int 1) ev_dC ev_dC)]
  show sSeq _ _ (rE ws T P (.d (.int (T : Int))) v4 (.o (.list acc)) (.d (.int (p.2 : Int))) (.d (miT T p)) (.d (.int ((0 + 1 : Nat) : Int))) (.d (.int ((2 ^ 0 : Nat) : Int))) .no .no .no .no .no .no .no) h = _
  rw [seq_nx up]
  exact app_ok (call0_2 vr7 vr8 fb) rfl (by omega)
end
end K79
namespace K79
open PySem PySem.Spec PyProof.Rows L2 DL
open SX (S)
section
variable {ws : List Nat} {T : Nat} {P : List (Nat × Nat)} (hT : 0 < T) (h2 : T < 2 ^ 50) (hP : ∀ p ∈ P, 1 ≤ p.2 ∧ p.1 + p.2 ≤ T) (hn : P.length ≤ 200)
include hT h2 hP
theorem words_loop {v4 : SV} {h : HS} : ∀ (ps : List (Nat × Nat)) (acc : List PyData) (v6 v7 v8 v9 : SV), (∀ p ∈ ps, p ∈ P) → acc.length + ps.length ≤ 200 → ∃ v6' v7' v8' v9', dLoop (tgTup 2 (tgCons (tgN 6) (tgCons (tgN 7) (tgNil)))) (sSeq (sMul [8, 9] [(false, dC (.int 1)), (false, dC (.int 1))]) (sSeq (sWhile (dCmp gLt (dBin gMul (dVar 9) (dVar 6)) (dVar 3)) (sMul [8, 9] [(false, dBin gAdd (dVar 8) (dC (.int 1))), (false, dBin gMul (dC (.int 2)) (dVar 9))])) (sDropM (mMeth1 5 gApp (mOf (dCall0 d__law_first_bits [dVar 7, dVar 8])))))) (ps.map fun p => .tuple [nI p.2, miT T p]) (rE ws T P (.d (.int (T : Int))) v4 (.o (.list acc)) v6 v7 v8 v9 .no .no .no .no .no .no .no) h = .nx (rE ws T P (.d (.int (T : Int))) v4 (.o (.list (acc ++ ps.map fun p => sB (mwT T p)))) v6' v7' v8' v9' .no .no .no .no .no .no .no) h
  | [], acc, v6, v7, v8, v9, _, _ => ⟨v6, v7, v8, v9, by rw [List.map_nil, List.map_nil, List.append_nil]; rfl⟩
  | p :: ps, acc, v6, v7, v8, v9, hp, hl => by
    rw [List.length_cons] at hl
    obtain ⟨u8, u9, e1⟩ := words_turn (ws := ws) hT h2 hP (hp p (List.mem_cons_self ..)) (acc := acc) (v4 := v4) (v8 := v8) (v9 := v9) (h := h) (by omega)
    obtain ⟨w6, w7, w8, w9, e⟩ := words_loop (v4 := v4) (h := h) ps (acc ++ [sB (mwT T p)]) (.d (.int (p.2 : Int))) (.d (miT T p)) u8 u9 (fun x hx => hp x (List.mem_cons_of_mem _ hx)) (by rw [List.length_append, List.length_singleton]; omega)
    refine ⟨w6, w7, w8, w9, ?_⟩
    rw [List.map_cons, loop_cons rfl e1, e, List.map_cons, List.append_assoc]
    rfl
include hn in
theorem least_ok {v4 v5 v6 v7 v8 v9 : SV} {h : HS} : (dBlt (g1 gTuple) [dLc [17] (tgN 17) (dIt (dVar 2)) (dYes) (dCall0 d__law_least_word [dVar 17])]) (rE ws T P (.d (.int (T : Int))) v4 v5 v6 v7 v8 v9 .no .no .no .no .no .no .no) h = .ok (.tuple (P.map fun p => sB (lwT T p))) h := by
  have e := lc_of (vs := [17]) (t := tgN 17) (fi := dIt (dVar 2)) (fc := dYes) (fe := dCall0 d__law_least_word [dVar 17]) (δ := rE ws T P (.d (.int (T : Int))) v4 v5 v6 v7 v8 v9 .no .no .no .no .no .no .no) (h := h) (h1 := h) (shT T) (fun p => sB (lwT T p)) (ns := P)
    (by
      unfold rE
      simp only [ev_dIt, vr2, ev_op_ok, gItems_list]) (sL (by omega)) rfl (fun p hp => ⟨_, rfl, rfl, call0_1 vr17 (law_least_ok T p.1 p.2 hT h2 (hP p hp).1 (hP p hp).2)⟩)
  exact blt1 e rfl
include hn in
theorem any_ok7 {v4 v6 v7 v8 v9 : SV} {h : HS} : (dTru (dThaw (dBlt (g1 gAny) [dLc [18, 19] (tgTup 2 (tgCons (tgN 18) (tgCons (tgN 19) (tgNil)))) (dZipG [dVar 10, dVar 5]) (dYes) (toB (dCmp gGt (dBlt (g1 gLen) [dVar 18]) (dBlt (g1 gLen) [dVar 19])))]))) (rE ws T P (.d (.int (T : Int))) v4 (.o (.list (P.map fun p => sB (mwT T p)))) v6 v7 v8 v9 (.d (.tuple (P.map fun p => sB (lwT T p)))) .no .no .no .no .no .no) h = .ok false h := by
  have e := lc_of (vs := [18, 19]) (t := tgTup 2 (tgCons (tgN 18) (tgCons (tgN 19) (tgNil)))) (fi := dZipG [dVar 10, dVar 5]) (fc := dYes) (fe := toB (dCmp gGt (dBlt (g1 gLen) [dVar 18]) (dBlt (g1 gLen) [dVar 19]))) (δ := (rE ws T P (.d (.int (T : Int))) v4 (.o (.list (P.map fun p => sB (mwT T p)))) v6 v7 v8 v9 (.d (.tuple (P.map fun p => sB (lwT T p)))) .no .no .no .no .no .no).map thw) (h := []) (h1 := []) (fun p => .tuple [sB (lwT T p), sB (mwT T p)]) (fun _ => .bool false) (ns := P)
    (by
      show (dSeq [dVar 10, dVar 5] [.no, .d (tI ws), .d (.list (P.map (shT T))), .d (.int (T : Int)), thw v4, .d (.list (P.map fun p => sB (mwT T p))), thw v6, thw v7, thw v8, thw v9, .d (.tuple (P.map fun p => sB (lwT T p))), .no, .no, .no, .no, .no, .no, .no, .no, .no] []).op gZipG = _
      simp only [ev_dSeq_cons, ev_dSeq_nil, vr10, vr5, ev_bind_ok, ev_op_ok, gZipG, gItems_tup, gItems_list, Option.bind, Option.map]
      rw [zip_gw (β := Nat)]) (sL (by omega)) rfl (fun p hp => ⟨[.no, .d (tI ws), .d (.list (P.map (shT T))), .d (.int (T : Int)), thw v4, .d (.list (P.map fun p => sB (mwT T p))), thw v6, thw v7, thw v8, thw v9, .d (.tuple (P.map fun p => sB (lwT T p))), .no, .no, .no, .no, .no, .no, .no, .d (sB (lwT T p)), .d (sB (mwT T p))], rfl, rfl, by
        have s := lw_short T p.1 p.2 hT (by omega) (hP p hp).1 (hP p hp).2
        have l1 : (lwT T p).length = lwK T p.1 p.2 := bitsL_len _ _
        have l2 : (mwT T p).length = sz T p.2 + 1 := bitsL_len _ _
        have z : ¬ ((mwT T p).length : Int) < ((lwT T p).length : Int) := by omega
        rw [ev_toB, ev_dCmp, blt1 vr18 gLen_sB, ev_bind_ok, blt1 vr19 gLen_sB, ev_op_ok, gGt_ii, decide_eq_false z]
        rfl⟩)
  have a := gAny_of (fun _ : Nat × Nat => false) P
  have b := blt1 e a
  have c : (P.any fun _ => false) = false := by rw [List.any_eq_false]; exact fun _ _ => Bool.false_ne_true
  rw [c] at b
  rw [ev_dTru]
  unfold dThaw
  rw [b]
  rfl
/-- one share looked at -/
theorem look_ok (W : Wn ws) (hTs : ws.sum = T) (hPs : gw 0 ws = P) {q : Nat × Nat × Nat} (hq : q ∈ eP 0 P) {v6 v7 v8 v9 v10 v14 : SV} {h : HS} :
    (sSeq (sIf (dNot (dTru (dCall0 d__law_is [dLst [dCall0 d_place_in [dVar 1, dBin gIx (dVar 4) (dVar 11)], dCall0 d_place_in [dVar 1, dVar 12]], dLst [dVar 11, dVar 11]]))) (sRet (dC (.bool false))) (sNext)) (sSeq (sSet 14 (dCall0 d_span_of [dBin gIx (dOwn 5) (dVar 11)])) (sIf (dOr (dTru (dCall0 d__law_less [dBin gIx (dVar 14) (dC (.int 0)), dVar 12])) (dTru (dCall0 d__law_less [dVar 13, dBin gIx (dVar 14) (dC (.int 1))]))) (sRet (dC (.bool false))) (sNext)))) (rE ws T P (.d (.int (T : Int))) (.d (.tuple (P.map (miT T)))) (.o (.list (P.map fun p => sB (mwT T p)))) v6 v7 v8 v9 v10 (.d (.int (q.1 : Int))) (.d (frN q.2.1 T)) (.d (frN (q.2.1 + q.2.2) T)) v14 .no .no) h
      = .nx (rE ws T P (.d (.int (T : Int))) (.d (.tuple (P.map (miT T)))) (.o (.list (P.map fun p => sB (mwT T p)))) v6 v7 v8 v9 v10 (.d (.int (q.1 : Int))) (.d (frN q.2.1 T)) (.d (frN (q.2.1 + q.2.2) T)) (.d (.tuple [frN (valL (mwT T q.2)) (2 ^ (sz T q.2.2 + 1)), frN (valL (mwT T q.2) + 1) (2 ^ (sz T q.2.2 + 1))])) .no .no) h := by
  obtain ⟨i, p⟩ := q
  have m := (eP_mem 0 P _ hq).2
  rw [Nat.sub_zero] at m
  dsimp only at m ⊢
  have hp : p ∈ P := List.mem_of_getElem? m
  have b := hP p hp
  have pl : ∀ x q, p.1 * q ≤ x * T → x * T < (p.1 + p.2) * q → plc x q T 0 0 ws = i := fun x q a1 a2 => by
    rw [plc_at hT ws 0 0 i p (by omega) (fun w hw => (W.p w hw).1) (by rw [hPs]; exact m) a1 a2, Nat.zero_add]
  have p1 := place_frN W (2 * p.1 + p.2) (2 * T) (by omega) (by omega)
  have p2 := place_frN W p.1 T hT (by omega)
  rw [hTs, pl _ _ (by rw [Nat.mul_left_comm, ← Nat.mul_assoc]; exact Nat.mul_le_mul_right _ (by omega)) (by
    rw [show (p.1 + p.2) * (2 * T) = (2 * (p.1 + p.2)) * T by rw [Nat.mul_left_comm, Nat.mul_assoc]]
    exact Nat.mul_lt_mul_of_pos_right (by omega) hT)] at p1
  rw [hTs, pl _ _ (Nat.le_refl _) (Nat.mul_lt_mul_of_pos_right (by omega) hT)] at p2
  have gm : gIx (.tuple (P.map (miT T))) (.int (i : Int)) = some (miT T p) := gIx_tup (by rw [List.getElem?_map, m]; rfl)
  have gw : gIx (.list (P.map fun p => sB (mwT T p))) (.int (i : Int)) = some (sB (mwT T p)) := gIx_lst (by rw [List.getElem?_map, m]; rfl)
  have z := sz50 h2 b.1
  have len : (mwT T p).length = sz T p.2 + 1 := bitsL_len _ _
  have sp := span_of_ok2 (l := mwT T p) (bitsL_bits _ _) (by omega)
  rw [len] at sp
  have mi := mid_in T p.1 p.2 hT (by omega) b.1 b.2
  have hX : (2 * p.1 + p.2) * 2 ^ (sz T p.2 + 1) / (2 * T) < 2 ^ (sz T p.2 + 1) := by
    have : (p.1 + p.2) * 2 ^ (sz T p.2 + 1) ≤ T * 2 ^ (sz T p.2 + 1) := Nat.mul_le_mul_right _ b.2
    have : ((2 * p.1 + p.2) * 2 ^ (sz T p.2 + 1) / (2 * T) + 1) * T ≤ 2 ^ (sz T p.2 + 1) * T := by rw [Nat.mul_comm (2 ^ (sz T p.2 + 1))]; omega
    have := Nat.le_of_mul_le_mul_right this hT
    omega
  have va : valL (mwT T p) = (2 * p.1 + p.2) * 2 ^ (sz T p.2 + 1) / (2 * T) := bitsL_val _ _ hX
  have pk : 2 ^ (sz T p.2 + 1) ≤ 2 ^ 51 := Nat.pow_le_pow_right (by decide) (by omega)
  have pk0 : 0 < 2 ^ (sz T p.2 + 1) := Nat.two_pow_pos _
  rw [va] at sp ⊢
  generalize (2 * p.1 + p.2) * 2 ^ (sz T p.2 + 1) / (2 * T) = X at *
  generalize 2 ^ (sz T p.2 + 1) = M at *
  have q1 := law_less_ok (a := X) (b := M) (c := p.1) (d := T) pk0 hT (by omega) (by omega) (by omega) (by omega)
  have q2 := law_less_ok (a := p.1 + p.2) (b := T) (c := X + 1) (d := M) hT pk0 (by omega) (by omega) (by omega) (by omega)
  rw [decide_eq_false (by omega)] at q1
  rw [decide_eq_false (by omega)] at q2
  rw [seq_if_f (is_same (d := .list [.int (i : Int), .int (i : Int)]) (h1 := h) (by
    unfold rE
    rw [ev_dLst, ev_dSeq_cons, call0_2 vr1 (bin2 vr4 vr11 gm) p1, ev_bind_ok, ev_dSeq_cons, call0_2 vr1 vr12 p2, ev_bind_ok, ev_dSeq_nil]
    rfl) (by
    unfold rE
    simp only [ev_dLst, ev_dSeq_cons, ev_dSeq_nil, vr11, ev_bind_ok, ev_op_ok]) ⟨by simp, fun x hx => by
      simp only [List.mem_cons, List.not_mem_nil, or_false, or_self] at hx
      subst hx
      trivial⟩), seq_next]
  rw [seq_set (d := .tuple [frN X M, frN (X + 1) M]) (h1 := h) (by
    unfold rE
    exact call0_1 (bin2 vo5 vr11 gw) sp)]
  show (sIf _ _ _) (rE ws T P (.d (.int (T : Int))) (.d (.tuple (P.map (miT T)))) (.o (.list (P.map fun p => sB (mwT T p)))) v6 v7 v8 v9 v10 (.d (.int (i : Int))) (.d (frN p.1 T)) (.d (frN (p.1 + p.2) T)) (.d (.tuple [frN X M, frN (X + 1) M])) .no .no) h = _
  have i0 : gIx (.tuple [frN X M, frN (X + 1) M]) (.int 0) = some (frN X M) := rfl
  have i1 : gIx (.tuple [frN X M, frN (X + 1) M]) (.int 1) = some (frN (X + 1) M) := rfl
  rw [sif_f (h1 := h) (by
    unfold rE
    rw [ev_dOr, ev_dTru, call0_2 (bin2 vr14 ev_dC i0) vr12 q1]
    simp only [ev_op_ok, gTru, ev_bind_ok, Bool.false_eq_true, if_false]
    rw [ev_dTru, call0_2 vr13 (bin2 vr14 ev_dC i1) q2]
    rfl)]
  rfl
end
theorem wn_P {ws : List Nat} (W : Wn ws) : ∀ p ∈ gw 0 ws, 1 ≤ p.2 ∧ p.1 + p.2 ≤ ws.sum := fun p hp => (gw_mem (T := ws.sum) 0 ws (by omega) (fun w hw => (W.p w hw).1) p hp).2
theorem okD_frN {n a b : Nat} : okD (n + 2) (frN a b) := ⟨by simp, fun x hx => by
  simp only [List.mem_cons, List.not_mem_nil, or_false] at hx
  rcases hx with rfl | rfl <;> trivial⟩
theorem weights_right_ok {ws : List Nat} (W : Wn ws) (h50 : ws.sum < 2 ^ 50) (h : HS) (H : HandOk h) : ∃ h', d__law_are_weights_right [tI ws] h = .ok (.bool true) h' ∧ HandOk h' := by
  have hT : 0 < ws.sum := W.sum.1
  have hP := wn_P W
  have hn : (gw 0 ws).length ≤ 200 := by rw [gw_len]; exact W.l2
  have sh := law_shares_ok W
  have mi := middles_ok W
  have mw := middle_words_ok W
  have lw := least_words_ok W
  have mo := middle_order W
  have nz := nI_gw 0 ws
  have rowl : Row ((gw 0 ws).map (lwT ws.sum)) := ⟨by rw [List.length_map]; exact hn, fun l hl => by
    obtain ⟨p, _, rfl⟩ := List.mem_map.mp hl
    exact bitsL_bits _ _, fun l hl => by
    obtain ⟨p, hp, rfl⟩ := List.mem_map.mp hl
    have := (lwK_lt ws.sum p.1 p.2 hT (by omega) (hP p hp).1 (hP p hp).2).1
    unfold lwT
    rw [bitsL_len]
    omega⟩
  have lo := are_in_order_ok rowl
  rw [lw_order ws.sum hT (by omega) 0 ws (by omega) fun w hw => (W.p w hw).1, List.map_map] at lo
  have pla := place_frN W
  rw [mwL_eq ws.sum hT, mw_gw, List.map_map] at mw mo
  rw [mi_gw] at mi
  rw [lw_gw] at lw
  rw [sh_gw] at sh
  have hlk : ∀ (q : Nat × Nat × Nat), q ∈ eP 0 (gw 0 ws) → ∀ (v6 v7 v8 v9 v10 v14 : SV) (h : HS), _ := fun q hq v6 v7 v8 v9 v10 v14 h => look_ok hT h50 hP W rfl rfl hq (v6 := v6) (v7 := v7) (v8 := v8) (v9 := v9) (v10 := v10) (v14 := v14) (h := h)
  have head : ∀ d : Nat, d < 1000 → (insL d 1000 ws.sum 0 0 ws)[0]? = some (plc d 1000 ws.sum 0 0 ws) := fun d hd => ins_head d 1000 ws.sum ws 0 0 (by
    rw [Nat.zero_add, Nat.mul_comm]
    exact Nat.mul_lt_mul_of_pos_left hd hT) (fun z => by have := W.l1; rw [z] at this; exact absurd this (by decide))
  have ins : ∀ d, _ := fun d => ins_eP d 1000 ws.sum ws 0 0
  have suN := sum_ints ws
  generalize hPP : gw 0 ws = P at *
  generalize hTT : ws.sum = T at *
  obtain ⟨d, h', e15, hd, H'⟩ := draw_ok h H 1000 (by decide) (by decide)
  rw [show ((1000 : Nat) : Int) = 1000 from rfl] at e15
  have f15 := law_frac_ok d 1000 (by decide) (by decide)
  rw [show ((1000 : Nat) : Int) = 1000 from rfl] at f15
  have lo2 : d_are_in_order [.tuple (P.map fun p => sB (lwT T p))] = .ok (.bool true) := lo
  refine ⟨h', ?_, H'⟩
  obtain ⟨v6, v7, v8, v9, wl⟩ := words_loop (ws := ws) hT h50 hP (v4 := .d (.tuple (P.map (miT T)))) (h := h) P [] .no .no .no .no (fun _ h => h) (by simp; omega)
  rw [List.nil_append] at wl
  have le := least_ok (ws := ws) hT h50 hP hn (v4 := .d (.tuple (P.map (miT T)))) (v5 := .o (.list (P.map fun p => sB (mwT T p)))) (v6 := v6) (v7 := v7) (v8 := v8) (v9 := v9) (h := h)
  have a7 := any_ok7 (ws := ws) hT h50 hP hn (v4 := .d (.tuple (P.map (miT T)))) (v6 := v6) (v7 := v7) (v8 := v8) (v9 := v9) (h := h)
  unfold d__law_are_weights_right s__law_are_weights_right den1
  rw [show env1 20 [tI ws] = [.am, .d (tI ws), .no, .no, .no, .no, .no, .no, .no, .no, .no, .no, .no, .no, .no, .no, .no, .no, .no, .no] from rfl]
  rw [seq_nx (mul2 (call0_1 vr1 sh) (blt1 vr1 suN))]
  show (sSeq _ _ (rE ws T P (.d (.int (T : Int))) .no .no .no .no .no .no .no .no .no .no .no .no .no) h).fin1 = _
  rw [seq_set (due_ok hT h50 hP hn)]
  show (sSeq _ _ (rE ws T P (.d (.int (T : Int))) (.d (.tuple (P.map (miT T)))) .no .no .no .no .no .no .no .no .no .no .no .no) h).fin1 = _
  rw [seq_setO (d := .list []) (h1 := h) rfl]
  show (sSeq _ _ (rE ws T P (.d (.int (T : Int))) (.d (.tuple (P.map (miT T)))) (.o (.list [])) .no .no .no .no .no .no .no .no .no .no .no) h).fin1 = _
  rw [seq_nx (by
    have it : (dZipG [dVar 1, dVar 4]) (rE ws T P (.d (.int (T : Int))) (.d (.tuple (P.map (miT T)))) (.o (.list [])) .no .no .no .no .no .no .no .no .no .no .no) h = .ok (P.map fun p => .tuple [nI p.2, miT T p]) h := by
      unfold rE
      simp only [ev_dZipG, ev_dSeq_cons, ev_dSeq_nil, vr1, vr4, ev_bind_ok, ev_op_ok, gZipG, tI, gItems_tup, Option.bind, Option.map]
      rw [nz, zip_gw (β := Nat)]
    rw [ev_sFor, it, ev_to_ok]
    exact wl)]
  rw [seq_set le]
  show (sSeq _ _ (rE ws T P (.d (.int (T : Int))) (.d (.tuple (P.map (miT T)))) (.o (.list (P.map fun p => sB (mwT T p)))) v6 v7 v8 v9 (.d (.tuple (P.map fun p => sB (lwT T p)))) .no .no .no .no .no .no) h).fin1 = _
  have ok5 : okD 8 (.list [.tuple (P.map (miT T)), .tuple (P.map fun p => sB (mwT T p)), .tuple (P.map fun p => sB (lwT T p))]) := ⟨by simp, fun x hx => by
    simp only [List.mem_cons, List.not_mem_nil, or_false] at hx
    rcases hx with rfl | rfl | rfl
    · exact ⟨by rw [List.length_map]; omega, fun x hx => by
        obtain ⟨p, _, rfl⟩ := List.mem_map.mp hx
        exact okD_frN⟩
    · exact ⟨by rw [List.length_map]; omega, fun x hx => by
        obtain ⟨p, _, rfl⟩ := List.mem_map.mp hx
        exact okD_sB (bitsL_bits _ _)⟩
    · exact ⟨by rw [List.length_map]; omega, fun x hx => by
        obtain ⟨p, _, rfl⟩ := List.mem_map.mp hx
        exact okD_sB (bitsL_bits _ _)⟩⟩
  have gt5 : gTuple (.list (P.map fun p => sB (mwT T p))) = some (.tuple (P.map fun p => sB (mwT T p))) := rfl
  rw [seq_if_f (is_same (h1 := h) (by
    unfold rE
    rw [ev_dLst, ev_dSeq_cons, call0_1 vr1 mi, ev_bind_ok, ev_dSeq_cons, call0_1 vr1 mw, ev_bind_ok, ev_dSeq_cons, call0_1 vr1 lw, ev_bind_ok, ev_dSeq_nil]
    rfl) (by
    unfold rE
    rw [ev_dLst, ev_dSeq_cons, vr4, ev_bind_ok, ev_dSeq_cons, blt1 vo5 gt5, ev_bind_ok, ev_dSeq_cons, vr10, ev_bind_ok, ev_dSeq_nil]
    rfl) ok5), seq_next]
  rw [seq_if_f (c := dOr _ _) (h1 := h) (by
    unfold rE
    rw [ev_dOr, ev_dCmp, call0_1 (blt1 vo5 gt5) mo, ev_bind_ok]
    show (dCmp _ _ _) _ h = _
    rw [ev_dCmp, call0_1 vr10 lo2]
    rfl), seq_next]
  rw [seq_if_f a7, seq_next]
  have it8 : (dEnumG [dVar 2]) (rE ws T P (.d (.int (T : Int))) (.d (.tuple (P.map (miT T)))) (.o (.list (P.map fun p => sB (mwT T p)))) v6 v7 v8 v9 (.d (.tuple (P.map fun p => sB (lwT T p)))) .no .no .no .no .no .no) h = .ok ((eP 0 P).map fun q => .tuple [.int (q.1 : Nat), shT T q.2]) h := by
    unfold rE
    simp only [ev_dEnumG, ev_dSeq_cons, ev_dSeq_nil, vr2, ev_bind_ok, ev_op_ok, gEnumG, gItems_list, Option.map]
    rw [enum_enL, eP_enL]
  obtain ⟨δ', e8, v11, v12, v13, v14, rfl, o1, o2, o3⟩ := loop_ind (t := tgTup 2 (tgCons (tgN 11) (tgCons (tgTup 2 (tgCons (tgN 12) (tgCons (tgN 13) (tgNil)))) (tgNil)))) (f := sSeq (sIf (dNot (dTru (dCall0 d__law_is [dLst [dCall0 d_place_in [dVar 1, dBin gIx (dVar 4) (dVar 11)], dCall0 d_place_in [dVar 1, dVar 12]], dLst [dVar 11, dVar 11]]))) (sRet (dC (.bool false))) (sNext)) (sSeq (sSet 14 (dCall0 d_span_of [dBin gIx (dOwn 5) (dVar 11)])) (sIf (dOr (dTru (dCall0 d__law_less [dBin gIx (dVar 14) (dC (.int 0)), dVar 12])) (dTru (dCall0 d__law_less [dVar 13, dBin gIx (dVar 14) (dC (.int 1))]))) (sRet (dC (.bool false))) (sNext)))) (h := h) (fun _ δ => ∃ v11 v12 v13 v14, δ = rE ws T P (.d (.int (T : Int))) (.d (.tuple (P.map (miT T)))) (.o (.list (P.map fun p => sB (mwT T p)))) v6 v7 v8 v9 (.d (.tuple (P.map fun p => sB (lwT T p)))) v11 v12 v13 v14 .no .no ∧ isO (some v11) = false ∧ isO (some v12) = false ∧ isO (some v13) = false) ((eP 0 P).map fun q => .tuple [.int (q.1 : Nat), shT T q.2]) 0 (rE ws T P (.d (.int (T : Int))) (.d (.tuple (P.map (miT T)))) (.o (.list (P.map fun p => sB (mwT T p)))) v6 v7 v8 v9 (.d (.tuple (P.map fun p => sB (lwT T p)))) .no .no .no .no .no .no) ⟨_, _, _, _, rfl, rfl, rfl, rfl⟩ (fun j d δ hj ⟨v11, v12, v13, v14, eδ, _⟩ => by
    subst eδ
    obtain ⟨q, hq, rfl⟩ := List.mem_map.mp (List.mem_of_getElem? hj)
    exact ⟨_, _, rfl, .inl (hlk q hq v6 v7 v8 v9 _ v14 h), _, _, _, _, rfl, rfl, rfl, rfl⟩)
  rw [seq_nx (by
    rw [ev_sFor, it8, ev_to_ok]
    exact e8)]
  have s15 : (dCall0 d__law_frac [dCall1 0 d__law_draw [dC (.int 1000)], dC (.int 1000)]) (rE ws T P (.d (.int (T : Int))) (.d (.tuple (P.map (miT T)))) (.o (.list (P.map fun p => sB (mwT T p)))) v6 v7 v8 v9 (.d (.tuple (P.map fun p => sB (lwT T p)))) v11 v12 v13 v14 .no .no) h = .ok (frN d 1000) h' := by
    refine call0_2 (b := .int 1000) (h2 := h') ?_ ev_dC f15
    rw [ev_dCall1 rfl, ev_dSeq_cons, ev_dC, ev_bind_ok, ev_dSeq_nil]
    exact e15
  rw [seq_set s15]
  show (sSeq _ _ (rE ws T P (.d (.int (T : Int))) (.d (.tuple (P.map (miT T)))) (.o (.list (P.map fun p => sB (mwT T p)))) v6 v7 v8 v9 (.d (.tuple (P.map fun p => sB (lwT T p)))) v11 v12 v13 v14 (.d (frN d 1000)) .no) h').fin1 = _
  have lc10 : (dLc [11, 12, 13] (tgTup 2 (tgCons (tgN 11) (tgCons (tgTup 2 (tgCons (tgN 12) (tgCons (tgN 13) (tgNil)))) (tgNil)))) (dEnumG [dVar 2]) (dTru (dCall0 d__law_less [dVar 15, dVar 13])) (dVar 11)) (rE ws T P (.d (.int (T : Int))) (.d (.tuple (P.map (miT T)))) (.o (.list (P.map fun p => sB (mwT T p)))) v6 v7 v8 v9 (.d (.tuple (P.map fun p => sB (lwT T p)))) v11 v12 v13 v14 (.d (frN d 1000)) .no) h' = .ok (.list ((insL d 1000 T 0 0 ws).map nI)) h' := by
    have it10 : (dEnumG [dVar 2]) (rE ws T P (.d (.int (T : Int))) (.d (.tuple (P.map (miT T)))) (.o (.list (P.map fun p => sB (mwT T p)))) v6 v7 v8 v9 (.d (.tuple (P.map fun p => sB (lwT T p)))) v11 v12 v13 v14 (.d (frN d 1000)) .no) h' = .ok ((eP 0 P).map fun q => .tuple [.int (q.1 : Nat), shT T q.2]) h' := by
      unfold rE
      simp only [ev_dEnumG, ev_dSeq_cons, ev_dSeq_nil, vr2, ev_bind_ok, ev_op_ok, gEnumG, gItems_list, Option.map]
      rw [enum_enL, eP_enL]
    have fl := lc_filter (t := tgTup 2 (tgCons (tgN 11) (tgCons (tgTup 2 (tgCons (tgN 12) (tgCons (tgN 13) (tgNil)))) (tgNil)))) (fc := dTru (dCall0 d__law_less [dVar 15, dVar 13])) (fe := dVar 11) (δ0 := rE ws T P (.d (.int (T : Int))) (.d (.tuple (P.map (miT T)))) (.o (.list (P.map fun p => sB (mwT T p)))) v6 v7 v8 v9 (.d (.tuple (P.map fun p => sB (lwT T p)))) .no .no .no v14 (.d (frN d 1000)) .no) (h := h') (fun q : Nat × Nat × Nat => .tuple [.int (q.1 : Nat), shT T q.2]) (fun q => decide (d * T < (q.2.1 + q.2.2) * 1000)) (fun q => .int (q.1 : Nat)) (eP 0 P) [] (fun q hq => by
      obtain ⟨i, p⟩ := q
      have m := (eP_mem 0 P _ hq).2
      have b := hP p (List.mem_of_getElem? m)
      have ls := law_less_ok (a := d) (b := 1000) (c := p.1 + p.2) (d := T) (by decide) hT (by omega) (by decide) (by omega) (by omega)
      refine ⟨rE ws T P (.d (.int (T : Int))) (.d (.tuple (P.map (miT T)))) (.o (.list (P.map fun p => sB (mwT T p)))) v6 v7 v8 v9 (.d (.tuple (P.map fun p => sB (lwT T p)))) (.d (.int (i : Nat))) (.d (frN p.1 T)) (.d (frN (p.1 + p.2) T)) v14 (.d (frN d 1000)) .no, rfl, ?_, rfl⟩
      unfold rE
      rw [ev_dTru, call0_2 vr15 vr13 ls]
      rfl)
    unfold dLc
    rw [show ([11, 12, 13].any fun i => isO ((rE ws T P (.d (.int (T : Int))) (.d (.tuple (P.map (miT T)))) (.o (.list (P.map fun p => sB (mwT T p)))) v6 v7 v8 v9 (.d (.tuple (P.map fun p => sB (lwT T p)))) v11 v12 v13 v14 (.d (frN d 1000)) .no)[i]?)) = false from by
      show (isO (some v11) || (isO (some v12) || (isO (some v13) || false))) = false
      rw [o1, o2, o3]
      rfl, if_neg Bool.false_ne_true, it10, ev_bind_ok, if_pos (sL (by rw [List.length_map, eP_len]; omega))]
    show (match lcLoop _ _ _ (rE ws T P (.d (.int (T : Int))) (.d (.tuple (P.map (miT T)))) (.o (.list (P.map fun p => sB (mwT T p)))) v6 v7 v8 v9 (.d (.tuple (P.map fun p => sB (lwT T p)))) .no .no .no v14 (.d (frN d 1000)) .no) _ [] h' with | .ok acc h2 => (Res.ok (PyData.list acc) h2 : Res PyData) | _ => .no) = _
    rw [fl, ← ins d, List.map_map, List.nil_append]
    rfl
  rw [seq_set lc10]
  show (sRet _ (rE ws T P (.d (.int (T : Int))) (.d (.tuple (P.map (miT T)))) (.o (.list (P.map fun p => sB (mwT T p)))) v6 v7 v8 v9 (.d (.tuple (P.map fun p => sB (lwT T p)))) v11 v12 v13 v14 (.d (frN d 1000)) (.d (.list ((insL d 1000 T 0 0 ws).map nI)))) h').fin1 = _
  have pp := pla d 1000 (by decide) hd
  have g0 : gIx (.list ((insL d 1000 T 0 0 ws).map nI)) (.int ((0 : Nat) : Int)) = some (.int (plc d 1000 T 0 0 ws : Nat)) := gIx_lst (by rw [List.getElem?_map, head d hd]; rfl)
  rw [show ((0 : Nat) : Int) = 0 from rfl] at g0
  have li := law_is_ok (.int (plc d 1000 T 0 0 ws : Nat)) trivial
  rw [ev_sRet]
  show (Res.to (dCall0 d__law_is [dCall0 d_place_in [dVar 1, dVar 15], dBin gIx (dVar 16) (dC (.int 0))] [.am, .d (tI ws), .d (.list (P.map (shT T))), .d (.int (T : Int)), .d (.tuple (P.map (miT T))), .d (.list (P.map fun p => sB (mwT T p))), frz v6, frz v7, frz v8, frz v9, .d (.tuple (P.map fun p => sB (lwT T p))), frz v11, frz v12, frz v13, frz v14, .d (frN d 1000), .d (.list ((insL d 1000 T 0 0 ws).map nI)), .no, .no, .no] h') _ _).fin1 = _
  rw [call0_2 (call0_2 vr1 vr15 pp) (bin2 vr16 ev_dC g0) li]
  rfl
end K79
namespace K79
open PySem PySem.Spec PyProof.Rows L2 DL
open SX (S)
theorem join_bits {cs : List Nat} (hl : cs.length ≤ 1000) : gJoin (.str (S [])) (.list (cs.map fun c => .str (S [c]))) = some (sB cs) := by
  have hj : joinFit (S []) (cs.map fun c => S [c]) = true := by
    unfold joinFit
    rw [decide_eq_true_eq]
    have : ∀ l : List Nat, ((l.map fun c => S [c]).map (·.length)).sum = l.length := fun l => by
      induction l with
      | nil => rfl
      | cons c l ih => simp [SX.S_len] at ih ⊢; omega
    rw [this]
    simp [SX.S_len]
    omega
  show ((asStrs _).bind fun ys => if joinFit (S []) ys then some (PyData.str (Txt.join (S []) ys)) else none) = _
  rw [asStrs_of (fun c => S [c])]
  show (if joinFit (S []) (cs.map fun c => S [c]) then _ else _) = _
  rw [if_pos hj, glue_one]
  rfl
theorem bits_of_ys : ∀ {ys : List PyData}, (∀ y ∈ ys, y = sB [48] ∨ y = sB [49]) → ∃ cs : List Nat, ys = cs.map (fun c => .str (S [c])) ∧ isBits cs
  | [], _ => ⟨[], rfl, fun _ h => nomatch h⟩
  | y :: ys, h => by
    obtain ⟨cs, e, b⟩ := bits_of_ys (fun z hz => h z (List.mem_cons_of_mem _ hz))
    rcases h y (List.mem_cons_self ..) with rfl | rfl
    · exact ⟨48 :: cs, by rw [e]; rfl, fun c hc => by
        rcases List.mem_cons.mp hc with rfl | hc
        · exact .inl rfl
        · exact b c hc⟩
    · exact ⟨49 :: cs, by rw [e]; rfl, fun c hc => by
        rcases List.mem_cons.mp hc with rfl | hc
        · exact .inr rfl
        · exact b c hc⟩

/-! drawn weights -/
theorem ws_of_ys : ∀ {ys : List PyData}, (∀ y ∈ ys, ∃ w : Nat, y = nI w ∧ 1 ≤ w ∧ w ≤ 999999999999) → ∃ ws : List Nat, ys = ws.map nI ∧ ∀ w ∈ ws, 1 ≤ w ∧ w ≤ 999999999999
  | [], _ => ⟨[], rfl, fun _ h => nomatch h⟩
  | y :: ys, h => by
    obtain ⟨ws, e, b⟩ := ws_of_ys (fun z hz => h z (List.mem_cons_of_mem _ hz))
    obtain ⟨w, rfl, hw⟩ := h y (List.mem_cons_self ..)
    exact ⟨w :: ws, by rw [e]; rfl, fun x hx => by
      rcases List.mem_cons.mp hx with rfl | hx
      · exact hw
      · exact b x hx⟩
theorem weights_drawn (h : HS) (H : HandOk h) : ∃ ws h', d__law_weights [.int 12, .int 1] h = .ok (tI ws) h' ∧ Wn ws ∧ ws.sum < 2 ^ 50 ∧ HandOk h' := by
  obtain ⟨x, h1, e1, hx, H1⟩ := any_call (l := [.int 1, .int 3, .int 20, .int 999999999999]) H (by decide) (by decide) (δ := [.d (.int 12), .d (.int 1), .no, .no]) (fe := dLst [dC (.int 1), dC (.int 3), dC (.int 20), dBin gSub (dBin gPow (dC (.int 10)) (dC (.int 12))) (dC (.int 1))]) (h := h) (by simp [ev_op_ok, gPow])
  have hx2 : ∃ m : Nat, x = .int (m : Int) ∧ 1 ≤ m ∧ m ≤ 999999999999 := by
    simp only [List.mem_cons, List.not_mem_nil, or_false] at hx
    rcases hx with rfl | rfl | rfl | rfl
    · exact ⟨1, rfl, by decide, by decide⟩
    · exact ⟨3, rfl, by decide, by decide⟩
    · exact ⟨20, rfl, by decide, by decide⟩
    · exact ⟨999999999999, rfl, by decide, by decide⟩
  obtain ⟨m, rfl, m1, m2⟩ := hx2
  obtain ⟨n, h2, e2, hn, H2⟩ := draw_call H1 12 (by decide) (by decide) (δ := [.d (.int 12), .d (.int 1), .d (.int (m : Int)), .no]) (fe := dVar 1) (h := h1) rfl
  have hi : (dRng [dBin gAdd (dC (.int 1)) (dCall1 0 d__law_draw [dVar 1])]) [.am, .d (.int 12), .d (.int 1), .d (.int (m : Int)), .no] h1 = .ok ((List.range (1 + n)).map fun i => .int (i : Nat)) h2 := by
    have rn := rng_ok (k := 1 + n) (by omega)
    rw [Int.natCast_add] at rn
    rw [ev_dRng, ev_dSeq_cons, bin2 ev_dC e2 gAdd_ii, ev_bind_ok, ev_dSeq_nil]
    simp only [ev_op_ok]
    rw [show (1 : Int) = ((1 : Nat) : Int) from rfl, rn]
  obtain ⟨ys, h3, e3, l3, p3, H3⟩ := dlc_hand (vs := [4]) (t := tgN 4) (fi := dRng [dBin gAdd (dC (.int 1)) (dCall1 0 d__law_draw [dVar 1])]) (fc := dYes) (fe := dBin gAdd (dVar 2) (dCall1 0 d__law_draw [dVar 3])) (fun y => ∃ w : Nat, y = nI w ∧ 1 ≤ w ∧ w ≤ 999999999999) hi H2 (by simp; omega) rfl (fun d _ h H => by
    obtain ⟨k, h', ek, hk, H'⟩ := draw_call H m m1 (by omega) (δ := [.d (.int 12), .d (.int 1), .d (.int (m : Int)), .d d]) (fe := dVar 3) (h := h) rfl
    exact ⟨_, nI (1 + k), h', rfl, rfl, by
      show (dBin gAdd (dVar 2) (dCall1 0 d__law_draw [dVar 3])) [.am, .d (.int 12), .d (.int 1), .d (.int (m : Int)), .d d] h = _
      rw [bin2 vr2 ek gAdd_ii]
      rfl, ⟨1 + k, rfl, by omega, by omega⟩, H'⟩)
  obtain ⟨ws, rfl, hw⟩ := ws_of_ys p3
  rw [List.length_map, List.length_map, List.length_range] at l3
  have su := sum_le (ws := ws) (b := 999999999999) fun w hw' => (hw w hw').2
  have su2 : ws.length * 999999999999 ≤ 12 * 999999999999 := Nat.mul_le_mul_right _ (by omega)
  refine ⟨ws, h3, ?_, ⟨by omega, by omega, fun w hw' => ⟨(hw w hw').1, by have := (hw w hw').2; omega⟩⟩, by omega, H3⟩
  unfold d__law_weights s__law_weights den1
  rw [show env1 5 [.int 12, .int 1] = [.am, .d (.int 12), .d (.int 1), .no, .no] from rfl, seq_set e1]
  simp only [List.set_cons_succ, List.set_cons_zero]
  rw [ev_sRet]
  show (Res.to (dBlt (g1 gTuple) _ [.am, .d (.int 12), .d (.int 1), .d (.int (m : Int)), .no] h1) _ _).fin1 = _
  rw [blt1 e3 (show gTuple (.list (ws.map nI)) = some (tI ws) from rfl)]
  rfl
/-! points -/
theorem bits_drawn {v1 v2 v3 v4 : SV} (h : HS) (H : HandOk h) : ∃ l h', (dBinP isStrD gJoin (dC (.str "")) (dLc [10] (tgN 10) (dRng [dCall1 0 d__law_draw [dC (.int 20)]]) (dYes) (dCall1 0 d__law_any [dLst [dC (.str "0"), dC (.str "1")]]))) [.am, v1, v2, v3, v4, .no, .no, .no, .no, .no, .no] h = .ok (sB l) h' ∧ isBits l ∧ l.length ≤ 19 ∧ HandOk h' := by
  obtain ⟨n, h1, e1, hn, H1⟩ := draw_call H 20 (by decide) (by decide) (δ := [v1, v2, v3, v4, .no, .no, .no, .no, .no, .no]) (fe := dC (.int 20)) rfl
  have hi : (dRng [dCall1 0 d__law_draw [dC (.int 20)]]) [.am, v1, v2, v3, v4, .no, .no, .no, .no, .no, .no] h = .ok ((List.range n).map fun i => .int (i : Nat)) h1 := by
    rw [ev_dRng, ev_dSeq_cons, e1]
    simp only [ev_bind_ok, ev_dSeq_nil, ev_op_ok]
    rw [rng_ok (by omega)]
  obtain ⟨ys, h2, e, l, p, H2⟩ := dlc_hand (vs := [10]) (t := tgN 10) (fi := dRng [dCall1 0 d__law_draw [dC (.int 20)]]) (fc := dYes) (fe := dCall1 0 d__law_any [dLst [dC (.str "0"), dC (.str "1")]]) (fun y => y = sB [48] ∨ y = sB [49]) hi H1 (by simp; omega) rfl (fun d _ h H => by
    obtain ⟨x, h', ex, hx, H'⟩ := any_call (l := [.str "0", .str "1"]) H (by decide) (by decide) (δ := [v1, v2, v3, v4, .no, .no, .no, .no, .no, .d d]) (fe := dLst [dC (.str "0"), dC (.str "1")]) (h := h) (by simp only [ev_dLst, ev_dSeq_cons, ev_dSeq_nil, ev_dC, ev_bind_ok, ev_op_ok])
    refine ⟨_, x, h', rfl, rfl, ex, ?_, H'⟩
    simp only [List.mem_cons, List.not_mem_nil, or_false] at hx
    rcases hx with rfl | rfl
    · exact .inl (by rw [lit_0]; rfl)
    · exact .inr (by rw [lit_1]; rfl))
  obtain ⟨cs, rfl, hb⟩ := bits_of_ys p
  rw [List.length_map, List.length_map, List.length_range] at l
  refine ⟨cs, h2, ?_, hb, by omega, H2⟩
  have jb := join_bits (cs := cs) (by omega)
  rw [ev_dBinP, ev_dC, ev_bind_ok, e, show isStrD (.str "") = true from rfl, if_pos rfl, ev_op_ok, lit_e, jb]
def pE (B : Nat) (v2 v3 v4 v5 v6 v7 : SV) : DEnv := [.am, .d (.int (B : Int)), v2, v3, v4, v5, v6, v7, .no, .no, .no]
theorem rows_loop {B : Nat} {v2 v3 v4 v5 : SV} {h : HS} : ∀ (ls : List (List Nat)) (v6 v7 : SV), (∀ l ∈ ls, isBits l ∧ l.length ≤ 60) → ∃ v6' v7', dLoop (tgN 6) (sSeq (sSet 7 (dCall0 d__law_span [dVar 6])) (sIf (dNot (dTru (dCall0 d__law_is [dLst [dCall0 d_span_of [dVar 6], dCall0 d_point_of [dVar 6]], dLst [dVar 7, dBin gIx (dVar 7) (dC (.int 0))]]))) (sRet (dC (.bool false))) (sNext))) (ls.map sB) (pE B v2 v3 v4 v5 v6 v7) h = .nx (pE B v2 v3 v4 v5 v6' v7') h
  | [], v6, v7, _ => ⟨v6, v7, rfl⟩
  | l :: ls, v6, v7, hl => by
    have b := hl l (List.mem_cons_self ..)
    have s1 := span_of_ok2 b.1 b.2
    have s2 := point_of_ok b.1 (by omega)
    have s3 := law_span_ok b.1 (by omega)
    have okX : ∀ n, okD (n + 2) (frN (valL l) (2 ^ l.length)) := fun _ => okD_frN
    have okY : ∀ n, okD (n + 2) (frN (valL l + 1) (2 ^ l.length)) := fun _ => okD_frN
    generalize frN (valL l + 1) (2 ^ l.length) = Y at *
    generalize frN (valL l) (2 ^ l.length) = X at *
    obtain ⟨w6, w7, e⟩ := rows_loop (B := B) (v2 := v2) (v3 := v3) (v4 := v4) (v5 := v5) (h := h) ls (.d (sB l)) (.d (.tuple [X, Y])) fun m hm => hl m (List.mem_cons_of_mem _ hm)
    refine ⟨w6, w7, ?_⟩
    have i0 : gIx (.tuple [X, Y]) (.int 0) = some X := rfl
    have okall : okD 8 (.list [.tuple [X, Y], X]) := ⟨by simp, fun x hx => by
      simp only [List.mem_cons, List.not_mem_nil, or_false] at hx
      rcases hx with rfl | rfl
      · exact ⟨by simp, fun y hy => by
          simp only [List.mem_cons, List.not_mem_nil, or_false] at hy
          rcases hy with rfl | rfl
          · exact okX 4
          · exact okY 4⟩
      · exact okX 5⟩
    have body : (sSeq (sSet 7 (dCall0 d__law_span [dVar 6])) (sIf (dNot (dTru (dCall0 d__law_is [dLst [dCall0 d_span_of [dVar 6], dCall0 d_point_of [dVar 6]], dLst [dVar 7, dBin gIx (dVar 7) (dC (.int 0))]]))) (sRet (dC (.bool false))) (sNext))) (pE B v2 v3 v4 v5 (.d (sB l)) v7) h = .nx (pE B v2 v3 v4 v5 (.d (sB l)) (.d (.tuple [X, Y]))) h := by
      rw [seq_set (d := .tuple [X, Y]) (h1 := h) (by
        unfold pE
        exact call0_1 vr6 s3)]
      show (sIf _ _ _) (pE B v2 v3 v4 v5 (.d (sB l)) (.d (.tuple [X, Y]))) h = _
      rw [sif_f (is_same (h1 := h) (by
        unfold pE
        rw [ev_dLst, ev_dSeq_cons, call0_1 vr6 s1, ev_bind_ok, ev_dSeq_cons, call0_1 vr6 s2, ev_bind_ok, ev_dSeq_nil]
        rfl) (by
        unfold pE
        rw [ev_dLst, ev_dSeq_cons, vr7, ev_bind_ok, ev_dSeq_cons, bin2 vr7 ev_dC i0, ev_bind_ok, ev_dSeq_nil]
        rfl) okall)]
      rfl
    rw [List.map_cons, loop_cons (δ1 := pE B v2 v3 v4 v5 (.d (sB l)) v7) rfl body]
    exact e
theorem points_ok (h : HS) (H : HandOk h) : ∃ h', d__law_are_points_right [] h = .ok (.bool true) h' ∧ HandOk h' := by
  obtain ⟨x, h1, e1, hx, H1⟩ := any_call (l := [.int 4, .int 1000]) H (by decide) (by decide) (δ := [.no, .no, .no, .no, .no, .no, .no, .no, .no, .no]) (fe := dLst [dC (.int 4), dC (.int 1000)]) (h := h) (by simp only [ev_dLst, ev_dSeq_cons, ev_dSeq_nil, ev_dC, ev_bind_ok, ev_op_ok])
  have hx2 : ∃ m : Nat, x = .int (m : Int) ∧ 1 ≤ m ∧ m ≤ 1000 := by
    simp only [List.mem_cons, List.not_mem_nil, or_false] at hx
    rcases hx with rfl | rfl
    · exact ⟨4, rfl, by decide, by decide⟩
    · exact ⟨1000, rfl, by decide, by decide⟩
  obtain ⟨m, rfl, m1, m2⟩ := hx2
  obtain ⟨b, h2, e2, hb, H2⟩ := draw_call H1 m m1 (by omega) e1
  have B1 : (dBin gAdd (dC (.int 1)) (dCall1 0 d__law_draw [dCall1 0 d__law_any [dLst [dC (.int 4), dC (.int 1000)]]])) [.am, .no, .no, .no, .no, .no, .no, .no, .no, .no, .no] h = .ok (.int ((1 + b : Nat) : Int)) h2 := by
    rw [bin2 ev_dC e2 gAdd_ii]
    rfl
  have hB : 1 + b ≤ 1000 := by omega
  have hB0 : 0 < 1 + b := by omega
  generalize 1 + b = B at *
  obtain ⟨a, h3, e3, ha, H3⟩ := draw_call H2 B (by omega) (by omega) (δ := [.d (.int (B : Int)), .no, .no, .no, .no, .no, .no, .no, .no, .no]) (fe := dVar 1) (h := h2) rfl
  have f3 := law_frac_ok a B hB0 (by omega)
  obtain ⟨c, h4, e4, hc, H4⟩ := draw_call H3 60 (by decide) (by decide) (δ := [.d (.int (B : Int)), .no, .no, .no, .no, .no, .no, .no, .no, .no]) (fe := dC (.int 60)) (h := h3) rfl
  obtain ⟨y, h5, e5, hy, H5⟩ := any_call (l := [.int 0, .int 1, .int (c : Int)]) H4 (by simp) (by simp) (δ := [.d (.int (B : Int)), .no, .no, .no, .no, .no, .no, .no, .no, .no]) (fe := dLst [dC (.int 0), dC (.int 1), dCall1 0 d__law_draw [dC (.int 60)]]) (h := h3) (by
    rw [ev_dLst, ev_dSeq_cons, ev_dC, ev_bind_ok, ev_dSeq_cons, ev_dC, ev_bind_ok, ev_dSeq_cons, e4, ev_bind_ok, ev_dSeq_nil]
    rfl)
  have hy2 : ∃ k : Nat, y = .int (k : Int) ∧ k ≤ 59 := by
    simp only [List.mem_cons, List.not_mem_nil, or_false] at hy
    rcases hy with rfl | rfl | rfl
    · exact ⟨0, rfl, by decide⟩
    · exact ⟨1, rfl, by decide⟩
    · exact ⟨c, rfl, by omega⟩
  obtain ⟨k, rfl, hk⟩ := hy2
  have fb := law_first_frN a B k ha (by omega) (by omega)
  have g := gcd_half ha (by omega)
  have pb := point_bits_ok (a / Nat.gcd a B) (B / Nat.gcd a B) k g.2.2 (Nat.gcd_div_gcd_div_gcd_of_pos_right hB0) g.1 g.2.1 (by omega)
  rw [mw_val a B _ hB0] at pb
  have pk : 2 ^ k ≤ 2 ^ 59 := Nat.pow_le_pow_right (by decide) hk
  have pk0 : 0 < 2 ^ k := Nat.two_pow_pos k
  have hX : a * 2 ^ k / B < 2 ^ k := (Nat.div_lt_iff_lt_mul hB0).mpr (by rw [Nat.mul_comm]; exact Nat.mul_lt_mul_of_pos_left ha pk0)
  have va := bitsL_val k (a * 2 ^ k / B) hX
  have q1 := Nat.div_mul_le_self (a * 2 ^ k) B
  have q2 := Nat.lt_div_mul_add (a := a * 2 ^ k) hB0
  have q3 : (a * 2 ^ k / B + 1) * B = a * 2 ^ k / B * B + B := by rw [Nat.add_mul, Nat.one_mul]
  have lb := bitsL_bits k (a * 2 ^ k / B)
  have ll := bitsL_len k (a * 2 ^ k / B)
  have sp := law_span_ok lb (by omega)
  rw [va, ll] at sp
  have l1 := law_less_ok (a := a) (b := B) (c := a * 2 ^ k / B) (d := 2 ^ k) hB0 pk0 (by omega) (by omega) (by omega) (by omega)
  have l2 := law_less_ok (a := a) (b := B) (c := a * 2 ^ k / B + 1) (d := 2 ^ k) hB0 pk0 (by omega) (by omega) (by omega) (by omega)
  rw [decide_eq_false (by omega)] at l1
  rw [decide_eq_true (by omega)] at l2
  generalize bitsL k (a * 2 ^ k / B) = l at *
  generalize frN (a * 2 ^ k / B) (2 ^ k) = lo at *
  generalize frN (a * 2 ^ k / B + 1) (2 ^ k) = hi at *
  obtain ⟨m, h6, e6, mb, ml, H6⟩ := bits_drawn (v1 := .d (.int (B : Int))) (v2 := .d (frN a B)) (v3 := .d (.int (k : Int))) (v4 := .d (sB l)) h5 H5
  obtain ⟨v6, v7, rl⟩ := rows_loop (B := B) (v2 := .d (frN a B)) (v3 := .d (.int (k : Int))) (v4 := .d (sB l)) (v5 := .d (sB m)) (h := h6) [l, m, []] .no .no (fun r hr => by
    simp only [List.mem_cons, List.not_mem_nil, or_false] at hr
    rcases hr with rfl | rfl | rfl
    · exact ⟨lb, by omega⟩
    · exact ⟨mb, by omega⟩
    · exact ⟨(fun _ h => nomatch h), by simp⟩)
  refine ⟨h6, ?_, H6⟩
  unfold d__law_are_points_right s__law_are_points_right den1
  rw [show env1 11 [] = [.am, .no, .no, .no, .no, .no, .no, .no, .no, .no, .no] from rfl, seq_set B1]
  simp only [List.set_cons_succ, List.set_cons_zero]
  rw [seq_nx (mul2 (call0_2 e3 vr1 f3) e5)]
  show (sSeq _ _ (pE B (.d (frN a B)) (.d (.int (k : Int))) .no .no .no .no) h5).fin1 = _
  rw [seq_set (d := sB l) (h1 := h5) (by
    unfold pE
    exact call0_2 vr2 vr3 fb)]
  show (sSeq _ _ (pE B (.d (frN a B)) (.d (.int (k : Int))) (.d (sB l)) .no .no .no) h5).fin1 = _
  rw [seq_if_f (is_same (d := sB l) (h1 := h5) (by
    unfold pE
    exact call0_2 vr2 vr3 pb) (by
    unfold pE
    exact vr4) (okD_sB lb)), seq_next]
  show (sSeq _ _ [.am, .d (.int (B : Int)), .d (frN a B), .d (.int (k : Int)), .d (sB l), .no, .no, .no, .no, .no, .no] h5).fin1 = _
  rw [seq_set e6]
  show (sSeq _ _ (pE B (.d (frN a B)) (.d (.int (k : Int))) (.d (sB l)) (.d (sB m)) .no .no) h6).fin1 = _
  rw [seq_nx (by
    have it : (dIt (dTup [dVar 4, dVar 5, dC (.str "")])) (pE B (.d (frN a B)) (.d (.int (k : Int))) (.d (sB l)) (.d (sB m)) .no .no) h6 = .ok ([l, m, []].map sB) h6 := by
      unfold pE
      simp only [ev_dIt, ev_dTup, ev_dSeq_cons, ev_dSeq_nil, vr4, vr5, ev_dC, ev_bind_ok, ev_op_ok, gItems_tup, lit_e]
      rfl
    rw [ev_sFor, it, ev_to_ok]
    exact rl)]
  rw [seq_nx (f := sAsg _ _) (δ1 := [.am, .d (.int (B : Int)), .d (frN a B), .d (.int (k : Int)), .d (sB l), .d (sB m), v6, v7, .d lo, .d hi, .no]) (h1 := h6) (by
    unfold pE
    rw [ev_sAsg, call0_1 vr4 sp]
    rfl)]
  rw [ev_sRet]
  show (Res.to (dAndV (toB (dNot (dTru (dCall0 d__law_less [dVar 2, dVar 8])))) (dCall0 d__law_less [dVar 2, dVar 9]) [.am, .d (.int (B : Int)), .d (frN a B), .d (.int (k : Int)), .d (sB l), .d (sB m), frz v6, frz v7, .d lo, .d hi, .no] h6) _ _).fin1 = _
  unfold dAndV
  rw [ev_toB, ev_dNot, ev_dTru, call0_2 vr2 vr8 l1]
  simp only [ev_op_ok, gTru, ev_bind_ok, Bool.not_false]
  rw [call0_2 vr2 vr9 l2]
  rfl
end K79
namespace K79
open PySem PySem.Spec PyProof.Rows L2 DL
open SX (S)
theorem S_inj {a b : List Nat} (h : S a = S b) : a = b := by
  have : gIn (sB a) (.tuple ([b].map sB)) = gIn (sB b) (.tuple ([b].map sB)) := by unfold sB; rw [h]
  rw [gIn_row, gIn_row] at this
  simpa using this
theorem sB_inj {a b : List Nat} (h : sB a = sB b) : a = b := S_inj (PyData.str.inj h)
def Itm (d : PyData) : Prop := (∃ l, d = sB l ∧ l.length ≤ 1000 ∧ ∀ c ∈ l, c < 1114112) ∨ isStrD d = false
def goodL (l : List Nat) : Bool := decide (l.length ≤ 400) && l.all fun c => decide (c ∈ [48, 49])
theorem goodL_iff {l : List Nat} : goodL l = true ↔ isBits l ∧ l.length ≤ 400 := by
  unfold goodL isBits
  simp [and_comm]
noncomputable def good (d : PyData) : Bool := @decide (∃ l, d = sB l ∧ goodL l = true) (Classical.propDecidable _)
theorem good_sB (l : List Nat) : good (sB l) = goodL l := by
  unfold good
  cases h : goodL l with
  | true => exact @decide_eq_true _ (Classical.propDecidable _) ⟨l, rfl, h⟩
  | false => exact @decide_eq_false _ (Classical.propDecidable _) fun ⟨m, e, hm⟩ => by rw [sB_inj e, hm] at h; cases h
theorem good_o {d : PyData} (h : isStrD d = false) : good d = false := by
  unfold good
  exact @decide_eq_false _ (Classical.propDecidable _) fun ⟨m, e, hm⟩ => by rw [e] at h; cases h
theorem isa_str (d : PyData) : isaB (tyD d) "str" = isStrD d := by cases d <;> rfl
theorem Itm.of {l : List Nat} (h : isBits l) (hl : l.length ≤ 1000) : Itm (sB l) := .inl ⟨l, rfl, hl, bits_code h⟩
theorem Itm.st {x : Str} (h : (decide (x.cps.toList.length ≤ 1000) && x.cps.toList.all fun c => decide (c < 1114112)) = true) : Itm (.str x) := by
  rw [Bool.and_eq_true, decide_eq_true_eq, List.all_eq_true] at h
  exact .inl ⟨x.cps.toList, rfl, h.1, fun c hc => by simpa using h.2 c hc⟩
theorem gAdd_lst {a b : List PyData} (h : a.length + b.length ≤ 1000000) : gAdd (.list a) (.list b) = some (.list (a ++ b)) := if_pos (sL h)
theorem drop_one_S1 : gMul (.str "0") (.int 401) = some (sB (List.replicate 401 48)) := mul_S1 (c := 48) (n := 401) (by decide)
theorem check_bad {d : PyData} (I : Itm d) (hg : good d = false) : d_check_bits [d] = .exc ⟨"BadBits", none⟩ := by
  simp only [d_check_bits, s_check_bits, den0, env0]
  show (sIf (dOr _ (dOr _ _)) _ _ [.d d, .no] []).fin0 = _
  have c : ∀ z, (sIf (dOr (dNot (dTru (dIsi "str" (dVar 0)))) (dOr (dCmp gGt (dBlt (g1 gLen) [dVar 0]) (dC (.int 400))) (dNot (dTru (dBlt (g1 gAll) [dLc [1] (tgN 1) (dIt (dVar 0)) (dYes) (toB (dCmp gIn (dVar 1) (dC (.str "01"))))]))))) (sRaise0 "BadBits") (sNext) [.d d, .no] []).fin0 = z ↔ (sIf (dOr (dNot (dTru (dIsi "str" (dVar 0)))) (dOr (dCmp gGt (dBlt (g1 gLen) [dVar 0]) (dC (.int 400))) (dNot (dTru (dBlt (g1 gAll) [dLc [1] (tgN 1) (dIt (dVar 0)) (dYes) (toB (dCmp gIn (dVar 1) (dC (.str "01"))))]))))) (sRaise0 "BadBits") (sNext) [.d d, .no] []).fin0 = z := fun _ => Iff.rfl
  rcases I with ⟨l, rfl, hl, hc⟩ | h
  · rw [good_sB] at hg
    have e1 := lc_of (vs := [1]) (t := tgN 1) (fi := dIt (dVar 0)) (fc := dYes) (fe := toB (dCmp gIn (dVar 1) (dC (.str "01")))) (δ := [.d (sB l), .no]) (h := []) (h1 := []) (fun c => PyData.str (S [c])) (fun c => .bool (decide (c ∈ [48, 49]))) (ns := l)
        (by simp [ev_op_ok]) (sL (by omega)) rfl (fun c hc => ⟨[.d (sB l), .d (.str (S [c]))], rfl, rfl, by
          have : gIn (.str (S [c])) (.str "01") = some (decide (c ∈ [48, 49])) := gIn_S (c := c) (b := [48, 49])
          simp only [ev_toB, ev_dCmp, vr1, ev_bind_ok, ev_dC, ev_op_ok, this]⟩)
    have a1 := gAll_of (fun c => decide (c ∈ [48, 49])) l
    have e2 : (dOr (dNot (dTru (dIsi "str" (dVar 0)))) (dOr (dCmp gGt (dBlt (g1 gLen) [dVar 0]) (dC (.int 400))) (dNot (dTru (dBlt (g1 gAll) [dLc [1] (tgN 1) (dIt (dVar 0)) (dYes) (toB (dCmp gIn (dVar 1) (dC (.str "01"))))]))))) [.d (sB l), .no] [] = .ok true [] := by
      unfold goodL at hg
      by_cases cl : l.length ≤ 400
      · have c' : ¬ (400 : Int) < (l.length : Int) := by omega
        rw [decide_eq_true cl, Bool.true_and] at hg
        rw [hg] at a1
        simp only [ev_dOr, ev_dNot, ev_dTru, ev_dIsi, ev_dCmp, ev_dBlt, ev_dSeq_cons, ev_dSeq_nil, vr0, ev_dC, ev_bind_ok, ev_op_ok, ev_g1, isa_str, show isStrD (sB l) = true from rfl, gTru, gLen_sB, gGt_ii, decide_eq_false c', e1, a1]
        rfl
      · have c' : (400 : Int) < (l.length : Int) := by omega
        simp only [ev_dOr, ev_dNot, ev_dTru, ev_dIsi, ev_dCmp, ev_dBlt, ev_dSeq_cons, ev_dSeq_nil, vr0, ev_dC, ev_bind_ok, ev_op_ok, ev_g1, isa_str, show isStrD (sB l) = true from rfl, gTru, gLen_sB, gGt_ii, decide_eq_true c']
        rfl
    rw [sif_t e2]
    rfl
  · have e2 : (dOr (dNot (dTru (dIsi "str" (dVar 0)))) (dOr (dCmp gGt (dBlt (g1 gLen) [dVar 0]) (dC (.int 400))) (dNot (dTru (dBlt (g1 gAll) [dLc [1] (tgN 1) (dIt (dVar 0)) (dYes) (toB (dCmp gIn (dVar 1) (dC (.str "01"))))]))))) [.d d, .no] [] = .ok true [] := by
      simp only [ev_dOr, ev_dNot, ev_dTru, ev_dIsi, vr0, ev_bind_ok, ev_op_ok, isa_str, h, gTru]
      rfl
    rw [sif_t e2]
    rfl
def odds : List PyData := [.none, .int 0, .str "2", .str "0 1", .str "a", .tuple [.str "0"], .list [.str "1"], .bool true, .dict [], sB (List.replicate 401 48)]
theorem good_st {x : Str} (h : goodL x.cps.toList = false) : good (.str x) = false := (good_sB x.cps.toList).trans h
theorem odds_bad : ∀ d ∈ odds, Itm d ∧ good d = false := fun d hd => by
  unfold odds at hd
  simp only [List.mem_cons, List.not_mem_nil, or_false] at hd
  rcases hd with rfl | rfl | rfl | rfl | rfl | rfl | rfl | rfl | rfl | rfl
  · exact ⟨.inr rfl, good_o rfl⟩
  · exact ⟨.inr rfl, good_o rfl⟩
  · exact ⟨.st (by decide +kernel), good_st (by decide +kernel)⟩
  · exact ⟨.st (by decide +kernel), good_st (by decide +kernel)⟩
  · exact ⟨.st (by decide +kernel), good_st (by decide +kernel)⟩
  · exact ⟨.inr rfl, good_o rfl⟩
  · exact ⟨.inr rfl, good_o rfl⟩
  · exact ⟨.inr rfl, good_o rfl⟩
  · exact ⟨.inr rfl, good_o rfl⟩
  · refine ⟨.of (fun c hc => .inl (List.eq_of_mem_replicate hc)) (by simp), ?_⟩
    rw [good_sB]
    unfold goodL
    simp

theorem bad_point_of {x : PyData} (h : d_check_bits [x] = .exc ⟨"BadBits", none⟩) : d_point_of [x] = .exc ⟨"BadBits", none⟩ := by
  simp [d_point_of, s_point_of, den0, env0, h]
theorem bad_span_of {x : PyData} (h : d_check_bits [x] = .exc ⟨"BadBits", none⟩) : d_span_of [x] = .exc ⟨"BadBits", none⟩ := by
  simp [d_span_of, s_span_of, den0, env0, bad_point_of h]
def bads : List PyData := [.none, .int 0, .tuple [], .list [.int 1], .tuple [.int 0], .tuple [.int (-1)], .tuple [.int 1000000000001], .tuple [.bool true], .tuple [.none], .tuple [.str "?"], .tuple (List.replicate 201 (.int 1)), .dict [], .str "?"]
theorem bads_bad : ∀ x ∈ bads, d_check_weights [x] = .exc ⟨"BadWeights", none⟩ := by
  intro x hx
  unfold bads at hx
  simp only [List.mem_cons, List.not_mem_nil, or_false] at hx
  rcases hx with rfl | rfl | rfl | rfl | rfl | rfl | rfl | rfl | rfl | rfl | rfl | rfl | rfl
  · simp [d_check_weights, s_check_weights, den0, env0, ev_op_ok, d_are_counts, s_are_counts, d_are_integers, s_are_integers, d_is_integer, s_is_integer, dAndV, isaB, tyD, gTru, dLc, lcLoop, wipeD, isO, gAll, asBools, dChain, sizeLine_eq, gPow]
  · simp [d_check_weights, s_check_weights, den0, env0, ev_op_ok, d_are_counts, s_are_counts, d_are_integers, s_are_integers, d_is_integer, s_is_integer, dAndV, isaB, tyD, gTru, dLc, lcLoop, wipeD, isO, gAll, asBools, dChain, sizeLine_eq, gPow]
  · simp [d_check_weights, s_check_weights, den0, env0, ev_op_ok, d_are_counts, s_are_counts, d_are_integers, s_are_integers, d_is_integer, s_is_integer, dAndV, isaB, tyD, gTru, dLc, lcLoop, wipeD, isO, gAll, asBools, dChain, sizeLine_eq, gPow]
  · simp [d_check_weights, s_check_weights, den0, env0, ev_op_ok, d_are_counts, s_are_counts, d_are_integers, s_are_integers, d_is_integer, s_is_integer, dAndV, isaB, tyD, gTru, dLc, lcLoop, wipeD, isO, gAll, asBools, dChain, sizeLine_eq, gPow]
  · simp [d_check_weights, s_check_weights, den0, env0, ev_op_ok, d_are_counts, s_are_counts, d_are_integers, s_are_integers, d_is_integer, s_is_integer, dAndV, isaB, tyD, gTru, dLc, lcLoop, wipeD, isO, gAll, asBools, dChain, sizeLine_eq, gPow]
  · simp [d_check_weights, s_check_weights, den0, env0, ev_op_ok, d_are_counts, s_are_counts, d_are_integers, s_are_integers, d_is_integer, s_is_integer, dAndV, isaB, tyD, gTru, dLc, lcLoop, wipeD, isO, gAll, asBools, dChain, sizeLine_eq, gPow]
  · simp [d_check_weights, s_check_weights, den0, env0, ev_op_ok, d_are_counts, s_are_counts, d_are_integers, s_are_integers, d_is_integer, s_is_integer, dAndV, isaB, tyD, gTru, dLc, lcLoop, wipeD, isO, gAll, asBools, dChain, sizeLine_eq, gPow]
  · simp [d_check_weights, s_check_weights, den0, env0, ev_op_ok, d_are_counts, s_are_counts, d_are_integers, s_are_integers, d_is_integer, s_is_integer, dAndV, isaB, tyD, gTru, dLc, lcLoop, wipeD, isO, gAll, asBools, dChain, sizeLine_eq, gPow]
  · simp [d_check_weights, s_check_weights, den0, env0, ev_op_ok, d_are_counts, s_are_counts, d_are_integers, s_are_integers, d_is_integer, s_is_integer, dAndV, isaB, tyD, gTru, dLc, lcLoop, wipeD, isO, gAll, asBools, dChain, sizeLine_eq, gPow]
  · simp [d_check_weights, s_check_weights, den0, env0, ev_op_ok, d_are_counts, s_are_counts, d_are_integers, s_are_integers, d_is_integer, s_is_integer, dAndV, isaB, tyD, gTru, dLc, lcLoop, wipeD, isO, gAll, asBools, dChain, sizeLine_eq, gPow]
  · have c := are_counts_ok (List.replicate 201 1) (by simp) (fun n hn => by rw [List.eq_of_mem_replicate hn]; decide)
    rw [List.map_replicate] at c
    simp [d_check_weights, s_check_weights, den0, env0, ev_op_ok, c, gTru, dChain, -List.reduceReplicate]
  · simp [d_check_weights, s_check_weights, den0, env0, ev_op_ok, d_are_counts, s_are_counts, d_are_integers, s_are_integers, d_is_integer, s_is_integer, dAndV, isaB, tyD, gTru, dLc, lcLoop, wipeD, isO, gAll, asBools, dChain, sizeLine_eq, gPow]
  · simp [d_check_weights, s_check_weights, den0, env0, ev_op_ok, d_are_counts, s_are_counts, d_are_integers, s_are_integers, d_is_integer, s_is_integer, dAndV, isaB, tyD, gTru, dLc, lcLoop, wipeD, isO, gAll, asBools, dChain, sizeLine_eq, gPow]
theorem deep_bad {d : PyData} (h : Deep d) : d_check_weights [d] = .exc ⟨"BadWeights", none⟩ := by
  cases h with
  | s => simp [d_check_weights, s_check_weights, den0, env0, ev_op_ok, d_are_counts, s_are_counts, d_are_integers, s_are_integers, d_is_integer, s_is_integer, dAndV, isaB, tyD, gTru, dLc, lcLoop, wipeD, isO, gAll, asBools, dChain, sizeLine_eq, gPow]
  | t z =>
    have i : ∀ {x}, Deep x → d_is_integer [x] = .ok (.bool false) := fun h => by
      cases h <;> simp [d_is_integer, s_is_integer, den0, env0, ev_op_ok, dAndV, isaB, tyD, gTru]
    have i1 := i z
    simp [d_check_weights, s_check_weights, den0, env0, ev_op_ok, d_are_counts, s_are_counts, d_are_integers, s_are_integers, i1, dAndV, isaB, tyD, gTru, dLc, lcLoop, wipeD, isO, gAll, asBools, dChain, sizeLine_eq, gPow]
  | l _ => simp [d_check_weights, s_check_weights, den0, env0, ev_op_ok, d_are_counts, s_are_counts, d_are_integers, s_are_integers, d_is_integer, s_is_integer, dAndV, isaB, tyD, gTru, dLc, lcLoop, wipeD, isO, gAll, asBools, dChain, sizeLine_eq, gPow]
  | m _ => simp [d_check_weights, s_check_weights, den0, env0, ev_op_ok, d_are_counts, s_are_counts, d_are_integers, s_are_integers, d_is_integer, s_is_integer, dAndV, isaB, tyD, gTru, dLc, lcLoop, wipeD, isO, gAll, asBools, dChain, sizeLine_eq, gPow]
def spots : List PyData := [.none, .int 0, .tuple [.int 1, .int 1], .tuple [.int (-1), .int 2], .tuple [.int 2, .int 4], .tuple [.int 3, .int 2], .tuple [.int 1, .int 0], .list [.int 1, .int 2], .tuple [.bool true, .int 2], .tuple [.int 1], .dict [], .str "?"]
theorem spots_bad : ∀ x ∈ spots, (∀ w, d_check_weights [w] = .ok .none → d_place_in [w, x] = .exc ⟨"BadShare", none⟩) ∧ d_point_bits [x, .int 5] = .exc ⟨"BadShare", none⟩ := by
  have g24 : Int.gcd 2 4 = 2 := by decide +kernel
  intro x hx
  unfold spots at hx
  simp only [List.mem_cons, List.not_mem_nil, or_false] at hx
  rcases hx with rfl | rfl | rfl | rfl | rfl | rfl | rfl | rfl | rfl | rfl | rfl | rfl <;> refine ⟨fun w hw => ?_, ?_⟩ <;>
    simp [*, d_place_in, s_place_in, d_point_bits, s_point_bits, den0, env0, ev_op_ok, d_is_fraction, s_is_fraction, d_is_tuple_of, s_is_tuple_of, d_is_integer, s_is_integer, dAndV, isaB, tyD, gTru, dChain, gIx, atI, ixN, gLen, gEq_i, common_ok, sizeLine_eq]
def sizes : List PyData := [.int (-1), .int 401, .none, .bool true, .str "?", .tuple [.int 1]]
theorem sizes_bad : ∀ x ∈ sizes, d_point_bits [.tuple [.int 1, .int 2], x] = .exc ⟨"BadNumber", none⟩ := by
  have f := is_fraction_ok 1 2 (by decide) (by decide)
  rw [show pq 1 2 = .tuple [.int 1, .int 2] from rfl] at f
  intro x hx
  unfold sizes at hx
  simp only [List.mem_cons, List.not_mem_nil, or_false] at hx
  rcases hx with rfl | rfl | rfl | rfl | rfl | rfl <;>
    simp [*, d_point_bits, s_point_bits, den0, env0, ev_op_ok, d_is_within, s_is_within, d_is_integer, s_is_integer, dAndV, isaB, tyD, gTru, dChain, gIx, atI, ixN]
theorem heard_exc {wd : Str → Option Str} {n w : Str} {fb : EF} {δ : DEnv} {h h1 : HS} (e : fb (.am :: δ) h = .exc ⟨n, none⟩ h1) (hw : wd n = some w) : dHeard 0 "let" wd fb (.am :: δ) h = .ok (.str w) h1 := by
  unfold dHeard
  rw [show (SV.am :: δ)[0]? = some .am from rfl]
  simp only [e, hw]
theorem app_heard {s1 s2 s3 s4 s5 s7 : SV} {ws : List PyData} {h h2 : HS} {fb : EF} {w c : Str} (e : fb [.am, s1, s2, s3, s4, s5, .o (.list ws), s7] h = .exc ⟨c, none⟩ h2) (hw : wd__law_heard c = some w) (hl : ws.length ≤ 100) :
    sDropM (mMeth1 6 gApp (mOf (dHeard 0 "let" wd__law_heard fb))) [.am, s1, s2, s3, s4, s5, .o (.list ws), s7] h = .nx [.am, s1, s2, s3, s4, s5, .o (.list (ws ++ [.str w])), s7] h2 := by
  rw [app_ok (heard_exc e hw) rfl (by omega)]
  rfl
theorem mul_ones : gMul (.tuple [.int 1]) (.int 201) = some (.tuple (List.replicate 201 (.int 1))) := by
  simp [gMul, -List.reduceReplicate]
theorem words_eq : gEq (.list [.str "weights", .str "weights", .str "weights", .str "weights", .str "share", .str "share", .str "number", .str "bits", .str "bits"]) (.list [.str "weights", .str "weights", .str "weights", .str "weights", .str "share", .str "share", .str "number", .str "bits", .str "bits"]) = some true := by decide +kernel
theorem call_exc1 {f : List PyData → Res0} {fa : EF} {δ : DEnv} {h h1 : HS} {a : PyData} {x : Exc} (e : fa δ h = .ok a h1) (e2 : f [a] = .exc x) : dCall0 f [fa] δ h = .exc x h1 := by
  rw [ev_dCall0, ev_dSeq_cons, e, ev_bind_ok, ev_dSeq_nil]
  simp only [ev_op_ok, ev_bind_ok, e2]
  rfl
theorem call_exc2 {f : List PyData → Res0} {fa fb : EF} {δ : DEnv} {h h1 h2 : HS} {a b : PyData} {x : Exc} (e : fa δ h = .ok a h1) (e1 : fb δ h1 = .ok b h2) (e2 : f [a, b] = .exc x) : dCall0 f [fa, fb] δ h = .exc x h2 := by
  rw [ev_dCall0, ev_dSeq_cons, e, ev_bind_ok, ev_dSeq_cons, e1, ev_bind_ok, ev_dSeq_nil]
  simp only [ev_op_ok, ev_bind_ok, e2]
  rfl
theorem refused_ok (ad : Nat → Addr) (h : HS) (H : HandOk h) : ∃ h', d__law_are_refused ad [] h = .ok (.bool true) h' ∧ HandOk h' := by
  have m1 := mul_ones
  have b0 : (dLst [dC .none, dC (.int 0), dTup [], dLst [dC (.int 1)], dTup [dC (.int 0)], dTup [dUn gNeg (dC (.int 1))], dTup [dBin gAdd (dBin gPow (dC (.int 10)) (dC (.int 12))) (dC (.int 1))], dTup [dC (.bool true)], dTup [dC .none], dTup [dC (.str "?")], dBin gMul (dTup [dC (.int 1)]) (dC (.int 201)), dDict0, dC (.str "?")]) [.am, .no, .no, .no, .no, .no, .no, .no] h = .ok (.list bads) h := by
    have dd : dDict0 [.am, .no, .no, .no, .no, .no, .no, .no] h = .ok (.dict []) h := rfl
    unfold bads
    simp [ev_op_ok, gPow, m1, dd, -List.reduceReplicate]
  obtain ⟨d, h1, e1, dp, _, H1⟩ := deep_ok h H
  have deb : (dBin gAdd (dVar 1) (dLst [dCall1 0 d__law_deep []])) [.am, .d (.list bads), .no, .no, .no, .no, .no, .no] h = .ok (.list (bads ++ [d])) h1 := by
    refine bin2 vr1 (b := .list [d]) (h2 := h1) ?_ (gAdd_lst (by unfold bads; simp))
    rw [ev_dLst, ev_dSeq_cons, ev_dCall1 rfl, ev_dSeq_nil, ev_bind_ok, e1]
    rfl
  obtain ⟨x2, h2, e2, hx2, H2⟩ := any_call (l := bads ++ [d]) H1 (by unfold bads; simp) (by unfold bads; simp) (δ := [.d (.list bads), .no, .no, .no, .no, .no, .no]) (h := h) deb
  have w : d_check_weights [x2] = .exc ⟨"BadWeights", none⟩ := by
    rcases List.mem_append.mp hx2 with z | z
    · exact bads_bad x2 z
    · rw [List.mem_singleton.mp z]
      exact deep_bad dp
  obtain ⟨x3, h3, e3, hx3, H3⟩ := any_call (l := spots) H2 (by unfold spots; decide) (by unfold spots; decide) (δ := [.d (.list bads), .d x2, .no, .no, .no, .no, .no]) (fe := dLst [dC .none, dC (.int 0), dTup [dC (.int 1), dC (.int 1)], dTup [dUn gNeg (dC (.int 1)), dC (.int 2)], dTup [dC (.int 2), dC (.int 4)], dTup [dC (.int 3), dC (.int 2)], dTup [dC (.int 1), dC (.int 0)], dLst [dC (.int 1), dC (.int 2)], dTup [dC (.bool true), dC (.int 2)], dTup [dC (.int 1)], dDict0, dC (.str "?")]) (h := h2) (by
    have dd : dDict0 [.am, .d (.list bads), .d x2, .no, .no, .no, .no, .no] h2 = .ok (.dict []) h2 := rfl
    unfold spots
    simp [ev_op_ok, dd])
  obtain ⟨x4, h4, e4, hx4, H4⟩ := any_call (l := odds) H3 (by unfold odds; decide) (by unfold odds; decide) (δ := [.d (.list bads), .d x2, .d x3, .no, .no, .no, .no]) (fe := dLst [dC .none, dC (.int 0), dC (.str "2"), dC (.str "0 1"), dC (.str "a"), dTup [dC (.str "0")], dLst [dC (.str "1")], dC (.bool true), dDict0, dBin gMul (dC (.str "0")) (dC (.int 401))]) (h := h3) (by
    have dd : dDict0 [.am, .d (.list bads), .d x2, .d x3, .no, .no, .no, .no] h3 = .ok (.dict []) h3 := rfl
    unfold odds
    simp only [ev_dLst, ev_dTup, ev_dBin, ev_dSeq_cons, ev_dSeq_nil, ev_dC, dd, drop_one_S1, ev_bind_ok, ev_op_ok])
  obtain ⟨x5, h5, e5, hx5, H5⟩ := any_call (l := sizes) H4 (by unfold sizes; decide) (by unfold sizes; decide) (δ := [.d (.list bads), .d x2, .d x3, .d x4, .no, .no, .no]) (fe := dLst [dUn gNeg (dC (.int 1)), dC (.int 401), dC .none, dC (.bool true), dC (.str "?"), dTup [dC (.int 1)]]) (h := h4) (by
    unfold sizes
    simp [ev_op_ok])
  have p := spots_bad x3 hx3
  have b := check_bad (odds_bad x4 hx4).1 (odds_bad x4 hx4).2
  have z := sizes_bad x5 hx5
  have w12 : d_check_weights [.tuple [.int 1, .int 2]] = .ok .none := weights_ok (ws := [1, 2]) ⟨by decide, by decide, by decide⟩
  have ww : wd__law_heard "BadWeights" = some "weights" := by decide +kernel
  have ws : wd__law_heard "BadShare" = some "share" := by decide +kernel
  have wn : wd__law_heard "BadNumber" = some "number" := by decide +kernel
  have wb : wd__law_heard "BadBits" = some "bits" := by decide +kernel
  have f1 : sForR 7 [(13, ad 13), (16, ad 16), (20, ad 20)] (sDropM (mMeth1 6 gApp (mOf (dHeard 0 "let" wd__law_heard (dCallL 7 (tab__law_are_refused_call ad) [dVar 2]))))) [.am, .d (.list bads), .d x2, .d x3, .d x4, .d x5, .o (.list []), .no] h5 = .nx [.am, .d (.list bads), .d x2, .d x3, .d x4, .d x5, .o (.list [.str "weights", .str "weights", .str "weights"]), .raw 20 (.ref (ad 20))] h5 := by
    unfold sForR
    generalize PyData.list bads = L
    rw [dLoopR, show ([SV.am, .d L, .d x2, .d x3, .d x4, .d x5, .o (.list []), .no] : DEnv).set 7 (.raw 13 (.ref (ad 13))) = [.am, .d L, .d x2, .d x3, .d x4, .d x5, .o (.list []), .raw 13 (.ref (ad 13))] from rfl, app_heard (c := "BadWeights") (h2 := h5) (by simp [dCallL, tab__law_are_refused_call, bad_middles w]) ww (by simp), ev_lp_nx]
    rw [dLoopR, show ([SV.am, .d L, .d x2, .d x3, .d x4, .d x5, .o (.list ([] ++ [.str "weights"])), .raw 13 (.ref (ad 13))] : DEnv).set 7 (.raw 16 (.ref (ad 16))) = [.am, .d L, .d x2, .d x3, .d x4, .d x5, .o (.list [.str "weights"]), .raw 16 (.ref (ad 16))] from rfl, app_heard (c := "BadWeights") (h2 := h5) (by simp [dCallL, tab__law_are_refused_call, bad_middle_words w]) ww (by simp), ev_lp_nx]
    rw [dLoopR, show ([SV.am, .d L, .d x2, .d x3, .d x4, .d x5, .o (.list ([.str "weights"] ++ [.str "weights"])), .raw 16 (.ref (ad 16))] : DEnv).set 7 (.raw 20 (.ref (ad 20))) = [.am, .d L, .d x2, .d x3, .d x4, .d x5, .o (.list [.str "weights", .str "weights"]), .raw 20 (.ref (ad 20))] from rfl, app_heard (c := "BadWeights") (h2 := h5) (by simp [dCallL, tab__law_are_refused_call, bad_least_words w]) ww (by simp), ev_lp_nx]
    rfl
  refine ⟨h5, ?_, H5⟩
  unfold d__law_are_refused s__law_are_refused den1
  rw [show env1 8 [] = [.am, .no, .no, .no, .no, .no, .no, .no] from rfl]
  rw [seq_set b0]
  simp only [List.set_cons_succ, List.set_cons_zero]
  rw [seq_set e2]
  simp only [List.set_cons_succ, List.set_cons_zero]
  rw [seq_set e3]
  simp only [List.set_cons_succ, List.set_cons_zero]
  rw [seq_set e4]
  simp only [List.set_cons_succ, List.set_cons_zero]
  rw [seq_set e5]
  simp only [List.set_cons_succ, List.set_cons_zero]
  rw [seq_setO (d := .list []) (h1 := h5) rfl]
  show (sSeq _ _ [.am, .d (.list bads), .d x2, .d x3, .d x4, .d x5, .o (.list []), .no] h5).fin1 = _
  rw [seq_nx f1]
  generalize PyData.list bads = L
  rw [seq_nx (app_heard (c := "BadWeights") (h2 := h5) (call_exc2 vr2 (tup2 ev_dC ev_dC) (bad_place_in w)) ww (by simp))]
  rw [seq_nx (app_heard (c := "BadShare") (h2 := h5) (call_exc2 (tup2 ev_dC ev_dC) vr3 (p.1 _ w12)) ws (by simp))]
  rw [seq_nx (app_heard (c := "BadShare") (h2 := h5) (call_exc2 vr3 ev_dC p.2) ws (by simp))]
  rw [seq_nx (app_heard (c := "BadNumber") (h2 := h5) (call_exc2 (tup2 ev_dC ev_dC) vr5 z) wn (by simp))]
  rw [seq_nx (app_heard (c := "BadBits") (h2 := h5) (call_exc1 vr4 (bad_point_of b)) wb (by simp))]
  rw [seq_nx (app_heard (c := "BadBits") (h2 := h5) (call_exc1 vr4 (bad_span_of b)) wb (by simp))]
  simp only [List.cons_append, List.nil_append]
  have we := words_eq
  simp [ev_op_ok, gMul, gAdd, sizeLine_eq, we]
end K79
namespace K79
open PySem PySem.Spec PyProof.Rows L2 DL
open SX (S)
theorem lit_001 : Str.ofString "001" = S [48, 48, 49] := by decide +kernel
theorem lit_10 : Str.ofString "10" = S [49, 48] := by decide +kernel
theorem lit_00 : Str.ofString "00" = S [48, 48] := by decide +kernel
theorem lit_0101 : Str.ofString "0101" = S [48, 49, 48, 49] := by decide +kernel
def D4 : List PyData := [.tuple [.tuple [.int 1, .int 8], .tuple [.int 5, .int 8]], .tuple [.str "001", .str "10"], .tuple [.str "00", .str "1"], .int 1]
def D4b : List PyData := [.str "0101", .tuple [.tuple [.int 1, .int 4], .tuple [.int 1, .int 2]], .tuple [.str ""], .tuple [.str "1"]]
theorem okD_D4 : okD 8 (.list (D4 ++ D4b)) := by
  have o1 : PyData.strOk "001" = true := by decide +kernel
  have o2 : PyData.strOk "10" = true := by decide +kernel
  have o4 : PyData.strOk "00" = true := by decide +kernel
  have o5 : PyData.strOk "1" = true := by decide +kernel
  have o6 : PyData.strOk "" = true := by decide +kernel
  have o7 : PyData.strOk "0101" = true := by decide +kernel
  simp [D4, D4b, okD, o1, o2, o4, o5, o6, o7]
theorem lw_rows (T : Nat) (ws : List Nat) : lwL T 0 ws = ((gw 0 ws).map (lwT T)).map sB := by
  rw [lw_gw, List.map_map]
  rfl
theorem law_den (ad : Nat → Addr) (h : HS) (H : HandOk h) : ∃ h', s_law ad [.no, .am, .no, .no, .no] h = .rt (.bool true) h' := by
  have W13 : Wn [1, 3] := ⟨by decide, by decide, by decide⟩
  have W7 : Wn [7] := ⟨by decide, by decide, by decide⟩
  have m := middles_ok W13
  rw [show midsL ([1, 3] : List Nat).sum 0 [1, 3] = [.tuple [.int 1, .int 8], .tuple [.int 5, .int 8]] by simp [midsL, frN]] at m
  have mw := middle_words_ok W13
  rw [mwL_eq _ (by decide), show mwW ([1, 3] : List Nat).sum 0 [1, 3] = [[48, 48, 49], [49, 48]] by decide +kernel] at mw
  have lw := least_words_ok W13
  rw [lw_rows, show (gw 0 [1, 3]).map (lwT ([1, 3] : List Nat).sum) = [[48, 48], [49]] by decide +kernel] at lw
  have mw7 := middle_words_ok W7
  rw [mwL_eq _ (by decide), show mwW ([7] : List Nat).sum 0 [7] = [[49]] by decide +kernel] at mw7
  have lw7 := least_words_ok W7
  rw [lw_rows, show (gw 0 [7]).map (lwT ([7] : List Nat).sum) = [[]] by decide +kernel] at lw7
  have sp := span_of_ok2 (l := [48, 49]) (by unfold isBits; decide) (by decide)
  rw [show frN (valL [48, 49]) (2 ^ [48, 49].length) = .tuple [.int 1, .int 4] by simp [frN, valL], show frN (valL [48, 49] + 1) (2 ^ [48, 49].length) = .tuple [.int 1, .int 2] by simp [frN, valL]] at sp
  have pl := place_in_ok W13 1 4 (by decide) (by decide) (by decide)
  rw [show plc 1 4 ([1, 3] : List Nat).sum 0 0 [1, 3] = 1 by decide] at pl
  have pb := point_bits_ok 1 3 4 (by decide) (by decide) (by decide) (by decide) (by decide)
  rw [show bitsL 4 (1 * 2 ^ 4 / 3) = [48, 49, 48, 49] by decide] at pb
  have t1 : (dLst [dCall0 d_middles [dTup [dC (.int 1), dC (.int 3)]], dCall0 d_middle_words [dTup [dC (.int 1), dC (.int 3)]], dCall0 d_least_words [dTup [dC (.int 1), dC (.int 3)]], dCall0 d_place_in [dTup [dC (.int 1), dC (.int 3)], dTup [dC (.int 1), dC (.int 4)]]]) [.no, .am, .no, .no, .no] h = .ok (.list D4) h := by
    have a1 : (dCall0 d_middles [dTup [dC (.int 1), dC (.int 3)]]) [.no, .am, .no, .no, .no] h = _ := call0_1 (tup2 ev_dC ev_dC) m
    have a2 : (dCall0 d_middle_words [dTup [dC (.int 1), dC (.int 3)]]) [.no, .am, .no, .no, .no] h = _ := call0_1 (tup2 ev_dC ev_dC) mw
    have a3 : (dCall0 d_least_words [dTup [dC (.int 1), dC (.int 3)]]) [.no, .am, .no, .no, .no] h = _ := call0_1 (tup2 ev_dC ev_dC) lw
    have a4 : (dCall0 d_place_in [dTup [dC (.int 1), dC (.int 3)], dTup [dC (.int 1), dC (.int 4)]]) [.no, .am, .no, .no, .no] h = _ := call0_2 (tup2 ev_dC ev_dC) (tup2 ev_dC ev_dC) pl
    rw [ev_dLst, ev_dSeq_cons, a1, ev_bind_ok, ev_dSeq_cons, a2, ev_bind_ok, ev_dSeq_cons, a3, ev_bind_ok, ev_dSeq_cons, a4]
    simp only [ev_bind_ok, ev_dSeq_nil, ev_op_ok]
    unfold D4
    rw [lit_001, lit_10, lit_00, lit_1]
    rfl
  have t2 : ∀ v, (dLst [dCall0 d_point_bits [dTup [dC (.int 1), dC (.int 3)], dC (.int 4)], dCall0 d_span_of [dC (.str "01")], dCall0 d_least_words [dTup [dC (.int 7)]], dCall0 d_middle_words [dTup [dC (.int 7)]]]) [.no, .am, v, .no, .no] h = .ok (.list D4b) h := fun v => by
    have a1 : (dCall0 d_point_bits [dTup [dC (.int 1), dC (.int 3)], dC (.int 4)]) [.no, .am, v, .no, .no] h = _ := call0_2 (tup2 ev_dC ev_dC) ev_dC pb
    have a2 : (dCall0 d_span_of [dC (.str "01")]) [.no, .am, v, .no, .no] h = _ := call0_1 (by rw [ev_dC, lit_01]; rfl) sp
    have a3 : (dCall0 d_least_words [dTup [dC (.int 7)]]) [.no, .am, v, .no, .no] h = _ := call0_1 (by simp only [ev_dTup, ev_dSeq_cons, ev_dSeq_nil, ev_dC, ev_bind_ok, ev_op_ok]; rfl) lw7
    have a4 : (dCall0 d_middle_words [dTup [dC (.int 7)]]) [.no, .am, v, .no, .no] h = _ := call0_1 (by simp only [ev_dTup, ev_dSeq_cons, ev_dSeq_nil, ev_dC, ev_bind_ok, ev_op_ok]; rfl) mw7
    rw [ev_dLst, ev_dSeq_cons, a1, ev_bind_ok, ev_dSeq_cons, a2, ev_bind_ok, ev_dSeq_cons, a3, ev_bind_ok, ev_dSeq_cons, a4]
    simp only [ev_bind_ok, ev_dSeq_nil, ev_op_ok]
    unfold D4b
    rw [lit_e, lit_0101, lit_1]
    rfl
  have t3 : ∀ v, (dLst [dTup [dTup [dC (.int 1), dC (.int 8)], dTup [dC (.int 5), dC (.int 8)]], dTup [dC (.str "001"), dC (.str "10")], dTup [dC (.str "00"), dC (.str "1")], dC (.int 1), dC (.str "0101"), dTup [dTup [dC (.int 1), dC (.int 4)], dTup [dC (.int 1), dC (.int 2)]], dTup [dC (.str "")], dTup [dC (.str "1")]]) [.no, .am, v, .no, .no] h = .ok (.list (D4 ++ D4b)) h := fun v => by
    simp only [ev_dLst, ev_dTup, ev_dSeq_cons, ev_dSeq_nil, ev_dC, ev_bind_ok, ev_op_ok]
    rfl
  have ga : gAdd (.list D4) (.list D4b) = some (.list (D4 ++ D4b)) := gAdd_lst (by decide)
  obtain ⟨δ', h', e, ⟨v4, rfl⟩, H'⟩ := loop_hand (t := tgN 4) (f := sSeq (sIf (dOr (dNot (dTru (dCall1 1 d__law_are_weights_right [dCall1 1 d__law_weights [dC (.int 12), dC (.int 1)]]))) (dNot (dTru (dCall1 1 d__law_are_points_right [])))) (sRet (dC (.bool false))) (sNext)) (sIf (dNot (dTru (dCall1 1 (d__law_are_refused ad) []))) (sRet (dC (.bool false))) (sNext))) (fun _ δ => ∃ v4, δ = [.no, .am, .d (.list (D4 ++ D4b)), .d (.list (D4 ++ D4b)), v4]) ((List.range 3).map fun i => .int (i : Nat)) 0 [.no, .am, .d (.list (D4 ++ D4b)), .d (.list (D4 ++ D4b)), .no] h ⟨_, rfl⟩ H (fun j d δ h _ ⟨v4, eδ⟩ H => by
    subst eδ
    obtain ⟨ws, h1, e1, W, h50, H1⟩ := weights_drawn h H
    obtain ⟨h2, e2, H2⟩ := weights_right_ok W h50 h1 H1
    obtain ⟨h3, e3, H3⟩ := points_ok h2 H2
    obtain ⟨h4, e4, H4⟩ := refused_ok ad h3 H3
    refine ⟨[.no, .am, .d (.list (D4 ++ D4b)), .d (.list (D4 ++ D4b)), .d d], [.no, .am, .d (.list (D4 ++ D4b)), .d (.list (D4 ++ D4b)), .d d], h4, rfl, .inl ?_, ⟨_, rfl⟩, H4⟩
    rw [seq_if_f (c := dOr _ _) (h1 := h3) (by
      rw [ev_dOr, ev_dNot, ev_dTru, ev_dCall1 rfl, ev_dSeq_cons, ev_dCall1 rfl, ev_dSeq_cons, ev_dC, ev_bind_ok, ev_dSeq_cons, ev_dC, ev_bind_ok, ev_dSeq_nil]
      simp only [ev_op_ok, ev_bind_ok]
      rw [e1]
      simp only [ev_op_ok, ev_bind_ok, ev_dSeq_nil]
      rw [e2]
      simp only [ev_op_ok, gTru, ev_bind_ok, Bool.not_true, Bool.false_eq_true, if_false]
      rw [ev_dNot, ev_dTru, ev_dCall1 rfl, ev_dSeq_nil, ev_bind_ok, e3]
      rfl), seq_next]
    rw [sif_f (h1 := h4) (by
      rw [ev_dNot, ev_dTru, ev_dCall1 rfl, ev_dSeq_nil, ev_bind_ok, e4]
      rfl)]
    rfl)
  refine ⟨h', ?_⟩
  unfold s_law
  rw [seq_set t1]
  simp only [List.set_cons_succ, List.set_cons_zero]
  rw [seq_set (bin2 vr2 (t2 _) ga)]
  simp only [List.set_cons_succ, List.set_cons_zero]
  rw [seq_set (t3 _)]
  simp only [List.set_cons_succ, List.set_cons_zero]
  rw [seq_if_f (is_same vr2 vr3 okD_D4), seq_next]
  have rn := rng_ok (k := 3) (by decide)
  rw [show ((3 : Nat) : Int) = 3 from rfl] at rn
  rw [seq_nx (by
    rw [ev_sFor, ev_dRng, ev_dSeq_cons, ev_dC, ev_bind_ok, ev_dSeq_nil]
    simp only [ev_op_ok]
    rw [rn]
    exact e)]
  rfl
theorem hden (ad : Nat → Addr) (ns : List Int) (hl : ns.length ≤ 63) : ∃ h', s_law ad (envL 5 1) (handL 1433 7 ns) = .rt (.bool true) h' := law_den ad _ (hand0 1433 7 ns)
end K79
namespace K79
open PySem PySem.Spec PyProof.Rows L2 DL
open PySem.W
structure DefIn (K : PySem.W.Frag) (mg : Str → Option Value) (x : Str) (st : Stmt) (f : Addr) (fd : FuncData) : Prop where
  F : Fun K x x st f fd
  g : mg x = some (.ref f)
theorem mkDef {K : PySem.W.Frag} {mg : Str → Option Value} {h : Heap} {x : Str} {st : Stmt} {f : Addr} {oc : Value} {od an : Option Addr} {osl : Array (Option Value)} {kV doc pm cdv ct : Value} (X : K.In h) (G : h.Ns mainGlobals mg) (a : PySem.W.nsIn K mainGlobals x = some (some (.ref f))) (l : K.lookup f = some ⟨oc, od, .func (PySem.W.fnOf x x (defArgs st) (defBody st) (defScope st) .none kV doc pm an cdv ct), osl⟩)
    (c : PySem.W.codeIn K cdv x = true) (k : PySem.W.keepIn K (.ref f) = true) : ∃ f fd, DefIn K mg x st f fd := ⟨_, _, fun_mk l c k, PySem.W.mg_of X G a⟩
theorem mkDefC {K : PySem.W.Frag} {mg : Str → Option Value} {h : Heap} {x : Str} {st : Stmt} {f cd : Addr} {oc : Value} {od an : Option Addr} {osl : Array (Option Value)} {kV doc pm ct : Value} (X : K.In h) (G : h.Ns mainGlobals mg) (a : PySem.W.nsIn K mainGlobals x = some (some (.ref f))) (l : K.lookup f = some ⟨oc, od, .func (PySem.W.fnOf x x (defArgs st) (defBody st) (defScope st) .none kV doc pm an (.ref cd) ct), osl⟩)
    (c : PySem.W.codeIn K (.ref cd) x = true) (k : PySem.W.keepIn K (.ref f) = true) {P : Addr} (q : PySem.W.codeHdIn K cd P = true) (n : K.lookup P = none) (t : h.get? P = some { cls := .none, data := .fields #[] }) : ∃ f fd c, DefIn K mg x st f fd ∧ FunC K x x st f fd c ∧ PySem.W.CodeHd h c P ∧ K.lookup P = none ∧ h.get? P = some { cls := .none, data := .fields #[] } :=
  ⟨_, _, _, ⟨fun_mk l c k, PySem.W.mg_of X G a⟩, ⟨⟨_, _, _, _, _, _, _, _, rfl, l, c⟩, k⟩, PySem.W.codeHd_of_K X q, n, t⟩
theorem lawBinds {K : PySem.W.Frag} {st : Stmt} {f : Addr} {fd : FuncData} (F : Fun K "law" "law" st f fd) (h : ∀ (kV doc pm : Value) (an : Option Addr) (cdv ct u : Value), bindArgs (PySem.W.fnOf "law" "law" (defArgs st) (defBody st) (defScope st) .none kV doc pm an cdv ct) ⟨[u], []⟩ = pure [(("script" : Str), u)]) : ∀ (s : Shared) (u : Value), BindsTo s fd ⟨[u], []⟩ [(("script" : Str), u)] := by
  obtain ⟨oc, od, kV, doc, pm, an, cdv, ct, osl, rfl, lk, hcd⟩ := F.ex
  exact fun s u => .of_eq (h kV doc pm an cdv ct u)
theorem lawAt {l : PySem.W.OpenLaw} {w : World} {K : PySem.W.Frag} {CX : CXT} {k : Nat} {mg : Str → Option Value} {fa : Addr} {h : Heap} (fd : FuncData) (cs : List (Addr × Addr)) (T : List (Addr × Str)) (hT : ∀ p ∈ cs, h.get? p.2 = some { cls := .none, data := .fields #[] }) (nT : ∀ p ∈ cs, K.lookup p.2 = none) (C : ∀ p ∈ cs, PySem.W.CodeHd h p.1 p.2)
    (hb : ∀ (s : Shared) (u : Value), BindsTo s fd ⟨[u], []⟩ [(("script" : Str), u)]) (hTT : ∀ p ∈ T, ∃ c, (c, p.1) ∈ cs) (F : ∀ base : Heap, K.In base → base.Ns mainGlobals mg → (∀ p ∈ cs, LamX.TabB base mg p.1 p.2) → FnOk l.prog w K mg base CX k fa fd [("script" : Str)] (spL K T)) : LamX.LawAtS l w K CX k 63 "script" mg fa h :=
  ⟨fd, cs, spL K T, hT, nT, C, hb, fun H a ns hl _ hT hS => ⟨a, ns, rfl, hS, hl, fun p hp => by
    obtain ⟨c, hc⟩ := hTT p hp
    exact hT (c, p.1) hc, fun _ => rfl⟩, F⟩

structure Cls (K : PySem.W.Frag) (C_0 C_1 C_2 C_3 C_4 : Addr) : Prop where
  g0 : nsIn K mainGlobals "ShortError" = some (some (.ref C_0))
  g1 : nsIn K mainGlobals "BadBits" = some (some (.ref C_1))
  g2 : nsIn K mainGlobals "BadNumber" = some (some (.ref C_2))
  g3 : nsIn K mainGlobals "BadShare" = some (some (.ref C_3))
  g4 : nsIn K mainGlobals "BadWeights" = some (some (.ref C_4))
  x_BadBits : excIn K C_1 [.type "ValueError", .type "Exception", .type "BaseException", .type "object"] "ValueError.__new__" = true
  k_BadBits : keepIn K (.ref C_1) = true
  e_BadBits : subIn K (.ref C_1) (.type "BaseException") = some true
  y_BadBits : typeIn K (.ref C_1) = some (.type "type")
  x_BadNumber : excIn K C_2 [.type "ValueError", .type "Exception", .type "BaseException", .type "object"] "ValueError.__new__" = true
  k_BadNumber : keepIn K (.ref C_2) = true
  e_BadNumber : subIn K (.ref C_2) (.type "BaseException") = some true
  y_BadNumber : typeIn K (.ref C_2) = some (.type "type")
  x_BadShare : excIn K C_3 [.type "ValueError", .type "Exception", .type "BaseException", .type "object"] "ValueError.__new__" = true
  k_BadShare : keepIn K (.ref C_3) = true
  e_BadShare : subIn K (.ref C_3) (.type "BaseException") = some true
  y_BadShare : typeIn K (.ref C_3) = some (.type "type")
  x_BadWeights : excIn K C_4 [.type "ValueError", .type "Exception", .type "BaseException", .type "object"] "ValueError.__new__" = true
  k_BadWeights : keepIn K (.ref C_4) = true
  e_BadWeights : subIn K (.ref C_4) (.type "BaseException") = some true
  y_BadWeights : typeIn K (.ref C_4) = some (.type "type")
  ec_BadBits : ExcC K C_1
  ec_BadNumber : ExcC K C_2
  ec_BadShare : ExcC K C_3
  ec_BadWeights : ExcC K C_4
  ki_BadBits_BadBits : kitOne K (.ref C_1) (.ref C_1) = some true
  ki_BadBits_BadNumber : kitOne K (.ref C_1) (.ref C_2) = some false
  ki_BadBits_BadShare : kitOne K (.ref C_1) (.ref C_3) = some false
  ki_BadBits_BadWeights : kitOne K (.ref C_1) (.ref C_4) = some false
  ki_BadNumber_BadBits : kitOne K (.ref C_2) (.ref C_1) = some false
  ki_BadNumber_BadNumber : kitOne K (.ref C_2) (.ref C_2) = some true
  ki_BadNumber_BadShare : kitOne K (.ref C_2) (.ref C_3) = some false
  ki_BadNumber_BadWeights : kitOne K (.ref C_2) (.ref C_4) = some false
  ki_BadShare_BadBits : kitOne K (.ref C_3) (.ref C_1) = some false
  ki_BadShare_BadNumber : kitOne K (.ref C_3) (.ref C_2) = some false
  ki_BadShare_BadShare : kitOne K (.ref C_3) (.ref C_3) = some true
  ki_BadShare_BadWeights : kitOne K (.ref C_3) (.ref C_4) = some false
  ki_BadWeights_BadBits : kitOne K (.ref C_4) (.ref C_1) = some false
  ki_BadWeights_BadNumber : kitOne K (.ref C_4) (.ref C_2) = some false
  ki_BadWeights_BadShare : kitOne K (.ref C_4) (.ref C_3) = some false
  ki_BadWeights_BadWeights : kitOne K (.ref C_4) (.ref C_4) = some true
  kb_BadBits_ValueError : kitOne K (.ref C_1) (.type "ValueError") = some true
  kb_BadNumber_ValueError : kitOne K (.ref C_2) (.type "ValueError") = some true
  kb_BadShare_ValueError : kitOne K (.ref C_3) (.type "ValueError") = some true
  kb_BadWeights_ValueError : kitOne K (.ref C_4) (.type "ValueError") = some true
  xm__law_heard_BadBits : exmOne K (.ref C_1) (.ref C_0) = some true
  xm__law_heard_BadNumber : exmOne K (.ref C_2) (.ref C_0) = some true
  xm__law_heard_BadShare : exmOne K (.ref C_3) (.ref C_0) = some true
  xm__law_heard_BadWeights : exmOne K (.ref C_4) (.ref C_0) = some true
theorem mkCls {K : PySem.W.Frag} {h : Heap} {C_0 C_1 C_2 C_3 C_4 : Addr} (X : K.In h) (g0 : nsIn K mainGlobals "ShortError" = some (some (.ref C_0))) (g1 : nsIn K mainGlobals "BadBits" = some (some (.ref C_1))) (g2 : nsIn K mainGlobals "BadNumber" = some (some (.ref C_2))) (g3 : nsIn K mainGlobals "BadShare" = some (some (.ref C_3))) (g4 : nsIn K mainGlobals "BadWeights" = some (some (.ref C_4))) (x_BadBits : excIn K C_1 [.type "ValueError", .type "Exception", .type "BaseException", .type "object"] "ValueError.__new__" = true) (k_BadBits : keepIn K (.ref C_1) = true) (e_BadBits : subIn K (.ref C_1) (.type "BaseException") = some true) (y_BadBits : typeIn K (.ref C_1) = some (.type "type")) (x_BadNumber : excIn K C_2 [.type "ValueError", .type "Exception", .type "BaseException", .type "object"] "ValueError.__new__" = true) (k_BadNumber : keepIn K (.ref C_2) = true) (e_BadNumber : subIn K (.ref C_2) (.type "BaseException") = some true) (y_BadNumber : typeIn K (.ref C_2) = some (.type "type")) (x_BadShare : excIn K C_3 [.type "ValueError", .type "Exception", .type "BaseException", .type "object"] "ValueError.__new__" = true) (k_BadShare : keepIn K (.ref C_3) = true) (e_BadShare : subIn K (.ref C_3) (.type "BaseException") = some true) (y_BadShare : typeIn K (.ref C_3) = some (.type "type")) (x_BadWeights : excIn K C_4 [.type "ValueError", .type "Exception", .type "BaseException", .type "object"] "ValueError.__new__" = true) (k_BadWeights : keepIn K (.ref C_4) = true) (e_BadWeights : subIn K (.ref C_4) (.type "BaseException") = some true) (y_BadWeights : typeIn K (.ref C_4) = some (.type "type")) (ec_BadBits : ExcC K C_1) (ec_BadNumber : ExcC K C_2) (ec_BadShare : ExcC K C_3) (ec_BadWeights : ExcC K C_4) (ki_BadBits_BadBits : kitOne K (.ref C_1) (.ref C_1) = some true) (ki_BadBits_BadNumber : kitOne K (.ref C_1) (.ref C_2) = some false) (ki_BadBits_BadShare : kitOne K (.ref C_1) (.ref C_3) = some false) (ki_BadBits_BadWeights : kitOne K (.ref C_1) (.ref C_4) = some false) (ki_BadNumber_BadBits : kitOne K (.ref C_2) (.ref C_1) = some false) (ki_BadNumber_BadNumber : kitOne K (.ref C_2) (.ref C_2) = some true) (ki_BadNumber_BadShare : kitOne K (.ref C_2) (.ref C_3) = some false) (ki_BadNumber_BadWeights : kitOne K (.ref C_2) (.ref C_4) = some false) (ki_BadShare_BadBits : kitOne K (.ref C_3) (.ref C_1) = some false) (ki_BadShare_BadNumber : kitOne K (.ref C_3) (.ref C_2) = some false) (ki_BadShare_BadShare : kitOne K (.ref C_3) (.ref C_3) = some true) (ki_BadShare_BadWeights : kitOne K (.ref C_3) (.ref C_4) = some false) (ki_BadWeights_BadBits : kitOne K (.ref C_4) (.ref C_1) = some false) (ki_BadWeights_BadNumber : kitOne K (.ref C_4) (.ref C_2) = some false) (ki_BadWeights_BadShare : kitOne K (.ref C_4) (.ref C_3) = some false) (ki_BadWeights_BadWeights : kitOne K (.ref C_4) (.ref C_4) = some true) (kb_BadBits_ValueError : kitOne K (.ref C_1) (.type "ValueError") = some true) (kb_BadNumber_ValueError : kitOne K (.ref C_2) (.type "ValueError") = some true) (kb_BadShare_ValueError : kitOne K (.ref C_3) (.type "ValueError") = some true) (kb_BadWeights_ValueError : kitOne K (.ref C_4) (.type "ValueError") = some true) (xm__law_heard_BadBits : exmOne K (.ref C_1) (.ref C_0) = some true) (xm__law_heard_BadNumber : exmOne K (.ref C_2) (.ref C_0) = some true) (xm__law_heard_BadShare : exmOne K (.ref C_3) (.ref C_0) = some true) (xm__law_heard_BadWeights : exmOne K (.ref C_4) (.ref C_0) = some true) : ∃ C_0 C_1 C_2 C_3 C_4, Cls K C_0 C_1 C_2 C_3 C_4 := ⟨C_0, C_1, C_2, C_3, C_4, ⟨g0, g1, g2, g3, g4, x_BadBits, k_BadBits, e_BadBits, y_BadBits, x_BadNumber, k_BadNumber, e_BadNumber, y_BadNumber, x_BadShare, k_BadShare, e_BadShare, y_BadShare, x_BadWeights, k_BadWeights, e_BadWeights, y_BadWeights, ec_BadBits, ec_BadNumber, ec_BadShare, ec_BadWeights, ki_BadBits_BadBits, ki_BadBits_BadNumber, ki_BadBits_BadShare, ki_BadBits_BadWeights, ki_BadNumber_BadBits, ki_BadNumber_BadNumber, ki_BadNumber_BadShare, ki_BadNumber_BadWeights, ki_BadShare_BadBits, ki_BadShare_BadNumber, ki_BadShare_BadShare, ki_BadShare_BadWeights, ki_BadWeights_BadBits, ki_BadWeights_BadNumber, ki_BadWeights_BadShare, ki_BadWeights_BadWeights, kb_BadBits_ValueError, kb_BadNumber_ValueError, kb_BadShare_ValueError, kb_BadWeights_ValueError, xm__law_heard_BadBits, xm__law_heard_BadNumber, xm__law_heard_BadShare, xm__law_heard_BadWeights⟩⟩
theorem the_walk : PySem.Challenge.rw_shorterhouse_k79_whole_middle_words.Holds := by
  w_on; o_law; k_head; (case hw => w_witness2)
  k_fill
  refine LamX.walk_ofTs (l := PySem.Challenge.rw_shorterhouse_k79_whole_middle_words) (n := 63) (k := 10) (x := "script") (CX := fun w => L2N.CX PySem.Challenge.rw_shorterhouse_k79_whole_middle_words.prog w) rfl (by decide) rfl ⟨rfl, by decide, by decide⟩ (fun w h Y => PySem.W.km_in_of Y) ?F fun _ _ _ _ _ z => ?Z
  case Z => obtain ⟨_, _, _, _, _, _, _, _, _, _, _, _, z⟩ := z; exact z
  case F =>
    intro w mg fa h Y KX G hmg
    obtain ⟨f_is_integer, d_is_integer, D_is_integer⟩ := mkDef (x := "is_integer") (st := t_is_integer) KX G (by k_is) (by k_is) (by k_is) (by k_is)
    obtain ⟨f_is_within, d_is_within, D_is_within⟩ := mkDef (x := "is_within") (st := t_is_within) KX G (by k_is) (by k_is) (by k_is) (by k_is)
    obtain ⟨f_is_tuple_of, d_is_tuple_of, D_is_tuple_of⟩ := mkDef (x := "is_tuple_of") (st := t_is_tuple_of) KX G (by k_is) (by k_is) (by k_is) (by k_is)
    obtain ⟨f_are_integers, d_are_integers, D_are_integers⟩ := mkDef (x := "are_integers") (st := t_are_integers) KX G (by k_is) (by k_is) (by k_is) (by k_is)
    obtain ⟨f_are_counts, d_are_counts, D_are_counts⟩ := mkDef (x := "are_counts") (st := t_are_counts) KX G (by k_is) (by k_is) (by k_is) (by k_is)
    obtain ⟨f_common, d_common, D_common⟩ := mkDef (x := "common") (st := t_common) KX G (by k_is) (by k_is) (by k_is) (by k_is)
    obtain ⟨f_frac, d_frac, D_frac⟩ := mkDef (x := "frac") (st := t_frac) KX G (by k_is) (by k_is) (by k_is) (by k_is)
    obtain ⟨f_is_fraction, d_is_fraction, D_is_fraction⟩ := mkDef (x := "is_fraction") (st := t_is_fraction) KX G (by k_is) (by k_is) (by k_is) (by k_is)
    obtain ⟨f_plus, d_plus, D_plus⟩ := mkDef (x := "plus") (st := t_plus) KX G (by k_is) (by k_is) (by k_is) (by k_is)
    obtain ⟨f_less, d_less, D_less⟩ := mkDef (x := "less") (st := t_less) KX G (by k_is) (by k_is) (by k_is) (by k_is)
    obtain ⟨f_bits_of, d_bits_of, D_bits_of⟩ := mkDef (x := "bits_of") (st := t_bits_of) KX G (by k_is) (by k_is) (by k_is) (by k_is)
    obtain ⟨f_wide_bits, d_wide_bits, D_wide_bits⟩ := mkDef (x := "wide_bits") (st := t_wide_bits) KX G (by k_is) (by k_is) (by k_is) (by k_is)
    obtain ⟨f_check_weights, d_check_weights, D_check_weights⟩ := mkDef (x := "check_weights") (st := t_check_weights) KX G (by k_is) (by k_is) (by k_is) (by k_is)
    obtain ⟨f_middles, d_middles, D_middles⟩ := mkDef (x := "middles") (st := t_middles) KX G (by k_is) (by k_is) (by k_is) (by k_is)
    obtain ⟨f_point_bits, d_point_bits, D_point_bits⟩ := mkDef (x := "point_bits") (st := t_point_bits) KX G (by k_is) (by k_is) (by k_is) (by k_is)
    obtain ⟨f_first_bits, d_first_bits, D_first_bits⟩ := mkDef (x := "first_bits") (st := t_first_bits) KX G (by k_is) (by k_is) (by k_is) (by k_is)
    obtain ⟨f_middle_words, d_middle_words, D_middle_words⟩ := mkDef (x := "middle_words") (st := t_middle_words) KX G (by k_is) (by k_is) (by k_is) (by k_is)
    obtain ⟨f_point_of, d_point_of, D_point_of⟩ := mkDef (x := "point_of") (st := t_point_of) KX G (by k_is) (by k_is) (by k_is) (by k_is)
    obtain ⟨f_check_bits, d_check_bits, D_check_bits⟩ := mkDef (x := "check_bits") (st := t_check_bits) KX G (by k_is) (by k_is) (by k_is) (by k_is)
    obtain ⟨f_span_of, d_span_of, D_span_of⟩ := mkDef (x := "span_of") (st := t_span_of) KX G (by k_is) (by k_is) (by k_is) (by k_is)
    obtain ⟨f_least_words, d_least_words, D_least_words⟩ := mkDef (x := "least_words") (st := t_least_words) KX G (by k_is) (by k_is) (by k_is) (by k_is)
    obtain ⟨f_are_in_order, d_are_in_order, D_are_in_order⟩ := mkDef (x := "are_in_order") (st := t_are_in_order) KX G (by k_is) (by k_is) (by k_is) (by k_is)
    obtain ⟨f_place_in, d_place_in, D_place_in⟩ := mkDef (x := "place_in") (st := t_place_in) KX G (by k_is) (by k_is) (by k_is) (by k_is)
    obtain ⟨f__law_hand, d__law_hand, D__law_hand⟩ := mkDef (x := "_law_hand") (st := t__law_hand) KX G (by k_is) (by k_is) (by k_is) (by k_is)
    obtain ⟨f__law_draw, d__law_draw, D__law_draw⟩ := mkDef (x := "_law_draw") (st := t__law_draw) KX G (by k_is) (by k_is) (by k_is) (by k_is)
    obtain ⟨f__law_any, d__law_any, D__law_any⟩ := mkDef (x := "_law_any") (st := t__law_any) KX G (by k_is) (by k_is) (by k_is) (by k_is)
    obtain ⟨f__law_is, d__law_is, D__law_is⟩ := mkDef (x := "_law_is") (st := t__law_is) KX G (by k_is) (by k_is) (by k_is) (by k_is)
    obtain ⟨f__law_deep, d__law_deep, D__law_deep⟩ := mkDef (x := "_law_deep") (st := t__law_deep) KX G (by k_is) (by k_is) (by k_is) (by k_is)
    obtain ⟨f__law_frac, d__law_frac, D__law_frac⟩ := mkDef (x := "_law_frac") (st := t__law_frac) KX G (by k_is) (by k_is) (by k_is) (by k_is)
    obtain ⟨f__law_add, d__law_add, D__law_add⟩ := mkDef (x := "_law_add") (st := t__law_add) KX G (by k_is) (by k_is) (by k_is) (by k_is)
    obtain ⟨f__law_mul, d__law_mul, D__law_mul⟩ := mkDef (x := "_law_mul") (st := t__law_mul) KX G (by k_is) (by k_is) (by k_is) (by k_is)
    obtain ⟨f__law_less, d__law_less, D__law_less⟩ := mkDef (x := "_law_less") (st := t__law_less) KX G (by k_is) (by k_is) (by k_is) (by k_is)
    obtain ⟨f__law_weights, d__law_weights, D__law_weights⟩ := mkDef (x := "_law_weights") (st := t__law_weights) KX G (by k_is) (by k_is) (by k_is) (by k_is)
    obtain ⟨f__law_heard, d__law_heard, D__law_heard⟩ := mkDef (x := "_law_heard") (st := t__law_heard) KX G (by k_is) (by k_is) (by k_is) (by k_is)
    obtain ⟨f__law_shares, d__law_shares, D__law_shares⟩ := mkDef (x := "_law_shares") (st := t__law_shares) KX G (by k_is) (by k_is) (by k_is) (by k_is)
    obtain ⟨f__law_first_bits, d__law_first_bits, D__law_first_bits⟩ := mkDef (x := "_law_first_bits") (st := t__law_first_bits) KX G (by k_is) (by k_is) (by k_is) (by k_is)
    obtain ⟨f__law_value, d__law_value, D__law_value⟩ := mkDef (x := "_law_value") (st := t__law_value) KX G (by k_is) (by k_is) (by k_is) (by k_is)
    obtain ⟨f__law_span, d__law_span, D__law_span⟩ := mkDef (x := "_law_span") (st := t__law_span) KX G (by k_is) (by k_is) (by k_is) (by k_is)
    obtain ⟨f__law_least_word, d__law_least_word, D__law_least_word⟩ := mkDef (x := "_law_least_word") (st := t__law_least_word) KX G (by k_is) (by k_is) (by k_is) (by k_is)
    obtain ⟨f__law_are_weights_right, d__law_are_weights_right, D__law_are_weights_right⟩ := mkDef (x := "_law_are_weights_right") (st := t__law_are_weights_right) KX G (by k_is) (by k_is) (by k_is) (by k_is)
    obtain ⟨f__law_are_points_right, d__law_are_points_right, D__law_are_points_right⟩ := mkDef (x := "_law_are_points_right") (st := t__law_are_points_right) KX G (by k_is) (by k_is) (by k_is) (by k_is)
    obtain ⟨f__law_are_refused, d__law_are_refused, c__law_are_refused, D__law_are_refused, C__law_are_refused, H__law_are_refused, N__law_are_refused, T__law_are_refused⟩ : ∃ f fd c, _ := mkDefC (x := "_law_are_refused") (st := t__law_are_refused) (P := 342) KX G (by k_is) (by k_is) (by k_is) (by k_is) (by kernel_rfl) (by kernel_rfl) (PySem.W.km_tabs_of Y 342 (by simp))
    obtain ⟨f_law, d_law, D_law⟩ := mkDef (x := "law") (st := t_law) KX G (by k_is) (by k_is) (by k_is) (by k_is)
    have B_is_integer := D_is_integer.F.binds (ps := ["thing"]) fun _ _ _ _ _ _ us hl => match us, hl with | [_], _ => rfl
    have B_is_within := D_is_within.F.binds (ps := ["thing", "low", "high"]) fun _ _ _ _ _ _ us hl => match us, hl with | [_, _, _], _ => rfl
    have B_is_tuple_of := D_is_tuple_of.F.binds (ps := ["thing", "many"]) fun _ _ _ _ _ _ us hl => match us, hl with | [_, _], _ => rfl
    have B_are_integers := D_are_integers.F.binds (ps := ["thing"]) fun _ _ _ _ _ _ us hl => match us, hl with | [_], _ => rfl
    have B_are_counts := D_are_counts.F.binds (ps := ["thing"]) fun _ _ _ _ _ _ us hl => match us, hl with | [_], _ => rfl
    have B_common := D_common.F.binds (ps := ["one", "other"]) fun _ _ _ _ _ _ us hl => match us, hl with | [_, _], _ => rfl
    have B_frac := D_frac.F.binds (ps := ["top", "bottom"]) fun _ _ _ _ _ _ us hl => match us, hl with | [_, _], _ => rfl
    have B_is_fraction := D_is_fraction.F.binds (ps := ["thing"]) fun _ _ _ _ _ _ us hl => match us, hl with | [_], _ => rfl
    have B_plus := D_plus.F.binds (ps := ["one", "other"]) fun _ _ _ _ _ _ us hl => match us, hl with | [_, _], _ => rfl
    have B_less := D_less.F.binds (ps := ["one", "other"]) fun _ _ _ _ _ _ us hl => match us, hl with | [_, _], _ => rfl
    have B_bits_of := D_bits_of.F.binds (ps := ["number"]) fun _ _ _ _ _ _ us hl => match us, hl with | [_], _ => rfl
    have B_wide_bits := D_wide_bits.F.binds (ps := ["number", "width"]) fun _ _ _ _ _ _ us hl => match us, hl with | [_, _], _ => rfl
    have B_check_weights := D_check_weights.F.binds (ps := ["weights"]) fun _ _ _ _ _ _ us hl => match us, hl with | [_], _ => rfl
    have B_middles := D_middles.F.binds (ps := ["weights"]) fun _ _ _ _ _ _ us hl => match us, hl with | [_], _ => rfl
    have B_point_bits := D_point_bits.F.binds (ps := ["point", "size"]) fun _ _ _ _ _ _ us hl => match us, hl with | [_, _], _ => rfl
    have B_first_bits := D_first_bits.F.binds (ps := ["point", "size"]) fun _ _ _ _ _ _ us hl => match us, hl with | [_, _], _ => rfl
    have B_middle_words := D_middle_words.F.binds (ps := ["weights"]) fun _ _ _ _ _ _ us hl => match us, hl with | [_], _ => rfl
    have B_point_of := D_point_of.F.binds (ps := ["bits"]) fun _ _ _ _ _ _ us hl => match us, hl with | [_], _ => rfl
    have B_check_bits := D_check_bits.F.binds (ps := ["bits"]) fun _ _ _ _ _ _ us hl => match us, hl with | [_], _ => rfl
    have B_span_of := D_span_of.F.binds (ps := ["bits"]) fun _ _ _ _ _ _ us hl => match us, hl with | [_], _ => rfl
    have B_least_words := D_least_words.F.binds (ps := ["weights"]) fun _ _ _ _ _ _ us hl => match us, hl with | [_], _ => rfl
    have B_are_in_order := D_are_in_order.F.binds (ps := ["thing"]) fun _ _ _ _ _ _ us hl => match us, hl with | [_], _ => rfl
    have B_place_in := D_place_in.F.binds (ps := ["weights", "point"]) fun _ _ _ _ _ _ us hl => match us, hl with | [_, _], _ => rfl
    have B__law_hand := D__law_hand.F.binds (ps := ["script"]) fun _ _ _ _ _ _ us hl => match us, hl with | [_], _ => rfl
    have B__law_draw := D__law_draw.F.binds (ps := ["hand", "many"]) fun _ _ _ _ _ _ us hl => match us, hl with | [_, _], _ => rfl
    have B__law_any := D__law_any.F.binds (ps := ["hand", "some"]) fun _ _ _ _ _ _ us hl => match us, hl with | [_, _], _ => rfl
    have B__law_is := D__law_is.F.binds (ps := ["said", "due"]) fun _ _ _ _ _ _ us hl => match us, hl with | [_, _], _ => rfl
    have B__law_deep := D__law_deep.F.binds (ps := ["hand"]) fun _ _ _ _ _ _ us hl => match us, hl with | [_], _ => rfl
    have B__law_frac := D__law_frac.F.binds (ps := ["top", "bottom"]) fun _ _ _ _ _ _ us hl => match us, hl with | [_, _], _ => rfl
    have B__law_add := D__law_add.F.binds (ps := ["one", "other"]) fun _ _ _ _ _ _ us hl => match us, hl with | [_, _], _ => rfl
    have B__law_mul := D__law_mul.F.binds (ps := ["one", "other"]) fun _ _ _ _ _ _ us hl => match us, hl with | [_, _], _ => rfl
    have B__law_less := D__law_less.F.binds (ps := ["one", "other"]) fun _ _ _ _ _ _ us hl => match us, hl with | [_, _], _ => rfl
    have B__law_weights := D__law_weights.F.binds (ps := ["hand", "most", "low"]) fun _ _ _ _ _ _ us hl => match us, hl with | [_, _, _], _ => rfl
    have B__law_heard := D__law_heard.F.binds (ps := ["call"]) fun _ _ _ _ _ _ us hl => match us, hl with | [_], _ => rfl
    have B__law_shares := D__law_shares.F.binds (ps := ["weights"]) fun _ _ _ _ _ _ us hl => match us, hl with | [_], _ => rfl
    have B__law_first_bits := D__law_first_bits.F.binds (ps := ["point", "size"]) fun _ _ _ _ _ _ us hl => match us, hl with | [_, _], _ => rfl
    have B__law_value := D__law_value.F.binds (ps := ["bits"]) fun _ _ _ _ _ _ us hl => match us, hl with | [_], _ => rfl
    have B__law_span := D__law_span.F.binds (ps := ["bits"]) fun _ _ _ _ _ _ us hl => match us, hl with | [_], _ => rfl
    have B__law_least_word := D__law_least_word.F.binds (ps := ["share"]) fun _ _ _ _ _ _ us hl => match us, hl with | [_], _ => rfl
    have B__law_are_weights_right := D__law_are_weights_right.F.binds (ps := ["hand", "weights"]) fun _ _ _ _ _ _ us hl => match us, hl with | [_, _], _ => rfl
    have B__law_are_points_right := D__law_are_points_right.F.binds (ps := ["hand"]) fun _ _ _ _ _ _ us hl => match us, hl with | [_], _ => rfl
    have B__law_are_refused := D__law_are_refused.F.binds (ps := ["hand"]) fun _ _ _ _ _ _ us hl => match us, hl with | [_], _ => rfl
    have B_law := D_law.F.binds (ps := ["script"]) fun _ _ _ _ _ _ us hl => match us, hl with | [_], _ => rfl
    obtain ⟨C_0, C_1, C_2, C_3, C_4, CC⟩ : ∃ C_0 C_1 C_2 C_3 C_4, _ := mkCls KX (by k_is) (by k_is) (by k_is) (by k_is) (by k_is) (by kernel_rfl) (by k_is) (by k_is) (by k_is) (by kernel_rfl) (by k_is) (by k_is) (by k_is) (by kernel_rfl) (by k_is) (by k_is) (by k_is) (by kernel_rfl) (by k_is) (by k_is) (by k_is) (by exact ⟨by k_is, by k_is, by k_is, by k_is, by k_is, by k_is, by k_is, by k_is⟩) (by exact ⟨by k_is, by k_is, by k_is, by k_is, by k_is, by k_is, by k_is, by k_is⟩) (by exact ⟨by k_is, by k_is, by k_is, by k_is, by k_is, by k_is, by k_is, by k_is⟩) (by exact ⟨by k_is, by k_is, by k_is, by k_is, by k_is, by k_is, by k_is, by k_is⟩) (by kernel_rfl) (by kernel_rfl) (by kernel_rfl) (by kernel_rfl) (by kernel_rfl) (by kernel_rfl) (by kernel_rfl) (by kernel_rfl) (by kernel_rfl) (by kernel_rfl) (by kernel_rfl) (by kernel_rfl) (by kernel_rfl) (by kernel_rfl) (by kernel_rfl) (by kernel_rfl) (by kernel_rfl) (by kernel_rfl) (by kernel_rfl) (by kernel_rfl) (by kernel_rfl) (by kernel_rfl) (by kernel_rfl) (by kernel_rfl)
    have e := hmg.symm.trans D_law.g
    cases e
    have X_int := fun (x : Str) (v : Value) (a : PySem.W.nsIn _ mainGlobals x = some (some v)) => PySem.W.mg_of KX G a
    have M_MOST_SIGNS : ∃ t, mg "MOST_SIGNS" = some (.int 200 t) := ⟨_, PySem.W.mg_of KX G (by k_is)⟩
    have Z_ValueError : mg "ValueError" = none := PySem.W.mg_none_of KX G (by k_is)
    have Z_abs : mg "abs" = none := PySem.W.mg_none_of KX G (by k_is)
    have Z_all : mg "all" = none := PySem.W.mg_none_of KX G (by k_is)
    have Z_any : mg "any" = none := PySem.W.mg_none_of KX G (by k_is)
    have Z_bool : mg "bool" = none := PySem.W.mg_none_of KX G (by k_is)
    have Z_enumerate : mg "enumerate" = none := PySem.W.mg_none_of KX G (by k_is)
    have Z_int : mg "int" = none := PySem.W.mg_none_of KX G (by k_is)
    have Z_isinstance : mg "isinstance" = none := PySem.W.mg_none_of KX G (by k_is)
    have Z_len : mg "len" = none := PySem.W.mg_none_of KX G (by k_is)
    have Z_list : mg "list" = none := PySem.W.mg_none_of KX G (by k_is)
    have Z_range : mg "range" = none := PySem.W.mg_none_of KX G (by k_is)
    have Z_reversed : mg "reversed" = none := PySem.W.mg_none_of KX G (by k_is)
    have Z_str : mg "str" = none := PySem.W.mg_none_of KX G (by k_is)
    have Z_sum : mg "sum" = none := PySem.W.mg_none_of KX G (by k_is)
    have Z_tuple : mg "tuple" = none := PySem.W.mg_none_of KX G (by k_is)
    have Z_zip : mg "zip" = none := PySem.W.mg_none_of KX G (by k_is)
    have V_ShortError : mg "ShortError" = some (.ref C_0) := PySem.W.mg_of KX G CC.g0
    have V_BadBits : mg "BadBits" = some (.ref C_1) := PySem.W.mg_of KX G CC.g1
    have V_BadNumber : mg "BadNumber" = some (.ref C_2) := PySem.W.mg_of KX G CC.g2
    have V_BadShare : mg "BadShare" = some (.ref C_3) := PySem.W.mg_of KX G CC.g3
    have V_BadWeights : mg "BadWeights" = some (.ref C_4) := PySem.W.mg_of KX G CC.g4
    refine lawAt d_law [(c__law_are_refused, 342)] [(342, (("_law_are_refused" : Str) ++ ".<locals>.") ++ "<lambda>")] (List.forall_mem_cons.mpr ⟨T__law_are_refused, fun _ h => nomatch h⟩) (List.forall_mem_cons.mpr ⟨N__law_are_refused, fun _ h => nomatch h⟩) (List.forall_mem_cons.mpr ⟨H__law_are_refused, fun _ h => nomatch h⟩) ?B ?S fun base kin hns tb => ?O
    case B => exact lawBinds D_law.F fun _ _ _ _ _ _ _ => rfl
    case S => exact (List.forall_mem_cons.mpr ⟨⟨c__law_are_refused, by simp⟩, fun _ h => nomatch h⟩)
    case O =>
      have T : Txt _ mg base (fun k => [f_is_integer, f_is_within, f_is_tuple_of, f_are_integers, f_are_counts, f_common, f_frac, f_is_fraction, f_plus, f_less, f_bits_of, f_wide_bits, f_check_weights, f_middles, f_point_bits, f_first_bits, f_middle_words, f_point_of, f_check_bits, f_span_of, f_least_words, f_are_in_order, f_place_in, f__law_hand, f__law_draw, f__law_any, f__law_is, f__law_deep, f__law_frac, f__law_add, f__law_mul, f__law_less, f__law_weights, f__law_heard, f__law_shares, f__law_first_bits, f__law_value, f__law_span, f__law_least_word, f__law_are_weights_right, f__law_are_points_right, f__law_are_refused, fa].getD k 0) (fun k => [d_is_integer, d_is_within, d_is_tuple_of, d_are_integers, d_are_counts, d_common, d_frac, d_is_fraction, d_plus, d_less, d_bits_of, d_wide_bits, d_check_weights, d_middles, d_point_bits, d_first_bits, d_middle_words, d_point_of, d_check_bits, d_span_of, d_least_words, d_are_in_order, d_place_in, d__law_hand, d__law_draw, d__law_any, d__law_is, d__law_deep, d__law_frac, d__law_add, d__law_mul, d__law_less, d__law_weights, d__law_heard, d__law_shares, d__law_first_bits, d__law_value, d__law_span, d__law_least_word, d__law_are_weights_right, d__law_are_points_right, d__law_are_refused, d_law].getD k d_law) (fun k => [C_0, C_1, C_2, C_3, C_4].getD k 0) (fun k => [c__law_are_refused].getD k 0) (fun k => [342].getD k 0) (fun n : Str => if n = "BadBits" then some C_1 else if n = "BadNumber" then some C_2 else if n = "BadShare" then some C_3 else if n = "BadWeights" then some C_4 else none) := { f_is_integer := D_is_integer.F, g_is_integer := D_is_integer.g, k_is_integer := D_is_integer.F.kp, b_is_integer := B_is_integer, f_is_within := D_is_within.F, g_is_within := D_is_within.g, k_is_within := D_is_within.F.kp, b_is_within := B_is_within, f_is_tuple_of := D_is_tuple_of.F, g_is_tuple_of := D_is_tuple_of.g, k_is_tuple_of := D_is_tuple_of.F.kp, b_is_tuple_of := B_is_tuple_of, f_are_integers := D_are_integers.F, g_are_integers := D_are_integers.g, k_are_integers := D_are_integers.F.kp, b_are_integers := B_are_integers, f_are_counts := D_are_counts.F, g_are_counts := D_are_counts.g, k_are_counts := D_are_counts.F.kp, b_are_counts := B_are_counts, f_common := D_common.F, g_common := D_common.g, k_common := D_common.F.kp, b_common := B_common, f_frac := D_frac.F, g_frac := D_frac.g, k_frac := D_frac.F.kp, b_frac := B_frac, f_is_fraction := D_is_fraction.F, g_is_fraction := D_is_fraction.g, k_is_fraction := D_is_fraction.F.kp, b_is_fraction := B_is_fraction, f_plus := D_plus.F, g_plus := D_plus.g, k_plus := D_plus.F.kp, b_plus := B_plus, f_less := D_less.F, g_less := D_less.g, k_less := D_less.F.kp, b_less := B_less, f_bits_of := D_bits_of.F, g_bits_of := D_bits_of.g, k_bits_of := D_bits_of.F.kp, b_bits_of := B_bits_of, f_wide_bits := D_wide_bits.F, g_wide_bits := D_wide_bits.g, k_wide_bits := D_wide_bits.F.kp, b_wide_bits := B_wide_bits, f_check_weights := D_check_weights.F, g_check_weights := D_check_weights.g, k_check_weights := D_check_weights.F.kp, b_check_weights := B_check_weights, f_middles := D_middles.F, g_middles := D_middles.g, k_middles := D_middles.F.kp, b_middles := B_middles, f_point_bits := D_point_bits.F, g_point_bits := D_point_bits.g, k_point_bits := D_point_bits.F.kp, b_point_bits := B_point_bits, f_first_bits := D_first_bits.F, g_first_bits := D_first_bits.g, k_first_bits := D_first_bits.F.kp, b_first_bits := B_first_bits, f_middle_words := D_middle_words.F, g_middle_words := D_middle_words.g, k_middle_words := D_middle_words.F.kp, b_middle_words := B_middle_words, f_point_of := D_point_of.F, g_point_of := D_point_of.g, k_point_of := D_point_of.F.kp, b_point_of := B_point_of, f_check_bits := D_check_bits.F, g_check_bits := D_check_bits.g, k_check_bits := D_check_bits.F.kp, b_check_bits := B_check_bits, f_span_of := D_span_of.F, g_span_of := D_span_of.g, k_span_of := D_span_of.F.kp, b_span_of := B_span_of, f_least_words := D_least_words.F, g_least_words := D_least_words.g, k_least_words := D_least_words.F.kp, b_least_words := B_least_words, f_are_in_order := D_are_in_order.F, g_are_in_order := D_are_in_order.g, k_are_in_order := D_are_in_order.F.kp, b_are_in_order := B_are_in_order, f_place_in := D_place_in.F, g_place_in := D_place_in.g, k_place_in := D_place_in.F.kp, b_place_in := B_place_in, f__law_hand := D__law_hand.F, g__law_hand := D__law_hand.g, k__law_hand := D__law_hand.F.kp, b__law_hand := B__law_hand, f__law_draw := D__law_draw.F, g__law_draw := D__law_draw.g, k__law_draw := D__law_draw.F.kp, b__law_draw := B__law_draw, f__law_any := D__law_any.F, g__law_any := D__law_any.g, k__law_any := D__law_any.F.kp, b__law_any := B__law_any, f__law_is := D__law_is.F, g__law_is := D__law_is.g, k__law_is := D__law_is.F.kp, b__law_is := B__law_is, f__law_deep := D__law_deep.F, g__law_deep := D__law_deep.g, k__law_deep := D__law_deep.F.kp, b__law_deep := B__law_deep, f__law_frac := D__law_frac.F, g__law_frac := D__law_frac.g, k__law_frac := D__law_frac.F.kp, b__law_frac := B__law_frac, f__law_add := D__law_add.F, g__law_add := D__law_add.g, k__law_add := D__law_add.F.kp, b__law_add := B__law_add, f__law_mul := D__law_mul.F, g__law_mul := D__law_mul.g, k__law_mul := D__law_mul.F.kp, b__law_mul := B__law_mul, f__law_less := D__law_less.F, g__law_less := D__law_less.g, k__law_less := D__law_less.F.kp, b__law_less := B__law_less, f__law_weights := D__law_weights.F, g__law_weights := D__law_weights.g, k__law_weights := D__law_weights.F.kp, b__law_weights := B__law_weights, f__law_heard := D__law_heard.F, g__law_heard := D__law_heard.g, k__law_heard := D__law_heard.F.kp, b__law_heard := B__law_heard, f__law_shares := D__law_shares.F, g__law_shares := D__law_shares.g, k__law_shares := D__law_shares.F.kp, b__law_shares := B__law_shares, f__law_first_bits := D__law_first_bits.F, g__law_first_bits := D__law_first_bits.g, k__law_first_bits := D__law_first_bits.F.kp, b__law_first_bits := B__law_first_bits, f__law_value := D__law_value.F, g__law_value := D__law_value.g, k__law_value := D__law_value.F.kp, b__law_value := B__law_value, f__law_span := D__law_span.F, g__law_span := D__law_span.g, k__law_span := D__law_span.F.kp, b__law_span := B__law_span, f__law_least_word := D__law_least_word.F, g__law_least_word := D__law_least_word.g, k__law_least_word := D__law_least_word.F.kp, b__law_least_word := B__law_least_word, f__law_are_weights_right := D__law_are_weights_right.F, g__law_are_weights_right := D__law_are_weights_right.g, k__law_are_weights_right := D__law_are_weights_right.F.kp, b__law_are_weights_right := B__law_are_weights_right, f__law_are_points_right := D__law_are_points_right.F, g__law_are_points_right := D__law_are_points_right.g, k__law_are_points_right := D__law_are_points_right.F.kp, b__law_are_points_right := B__law_are_points_right, f__law_are_refused := D__law_are_refused.F, fc__law_are_refused := C__law_are_refused, tb__law_are_refused := tb (c__law_are_refused, 342) (by simp), g__law_are_refused := D__law_are_refused.g, k__law_are_refused := D__law_are_refused.F.kp, b__law_are_refused := B__law_are_refused, f_law := D_law.F, g_law := D_law.g, k_law := D_law.F.kp, b_law := B_law, n_ValueError := Z_ValueError, n_abs := Z_abs, n_all := Z_all, n_any := Z_any, n_bool := Z_bool, n_enumerate := Z_enumerate, n_int := Z_int, n_isinstance := Z_isinstance, n_len := Z_len, n_list := Z_list, n_range := Z_range, n_reversed := Z_reversed, n_str := Z_str, n_sum := Z_sum, n_tuple := Z_tuple, n_zip := Z_zip, m_MOST_SIGNS := M_MOST_SIGNS, x_BadBits := CC.x_BadBits, c_BadBits := V_BadBits, kc_BadBits := CC.k_BadBits, e_BadBits := CC.e_BadBits, y_BadBits := CC.y_BadBits, l_BadBits := rfl, x_BadNumber := CC.x_BadNumber, c_BadNumber := V_BadNumber, kc_BadNumber := CC.k_BadNumber, e_BadNumber := CC.e_BadNumber, y_BadNumber := CC.y_BadNumber, l_BadNumber := rfl, x_BadShare := CC.x_BadShare, c_BadShare := V_BadShare, kc_BadShare := CC.k_BadShare, e_BadShare := CC.e_BadShare, y_BadShare := CC.y_BadShare, l_BadShare := rfl, x_BadWeights := CC.x_BadWeights, c_BadWeights := V_BadWeights, kc_BadWeights := CC.k_BadWeights, e_BadWeights := CC.e_BadWeights, y_BadWeights := CC.y_BadWeights, l_BadWeights := rfl, ec_BadBits := CC.ec_BadBits, ec_BadNumber := CC.ec_BadNumber, ec_BadShare := CC.ec_BadShare, ec_BadWeights := CC.ec_BadWeights, ki_BadBits_BadBits := CC.ki_BadBits_BadBits, ki_BadBits_BadNumber := CC.ki_BadBits_BadNumber, ki_BadBits_BadShare := CC.ki_BadBits_BadShare, ki_BadBits_BadWeights := CC.ki_BadBits_BadWeights, ki_BadNumber_BadBits := CC.ki_BadNumber_BadBits, ki_BadNumber_BadNumber := CC.ki_BadNumber_BadNumber, ki_BadNumber_BadShare := CC.ki_BadNumber_BadShare, ki_BadNumber_BadWeights := CC.ki_BadNumber_BadWeights, ki_BadShare_BadBits := CC.ki_BadShare_BadBits, ki_BadShare_BadNumber := CC.ki_BadShare_BadNumber, ki_BadShare_BadShare := CC.ki_BadShare_BadShare, ki_BadShare_BadWeights := CC.ki_BadShare_BadWeights, ki_BadWeights_BadBits := CC.ki_BadWeights_BadBits, ki_BadWeights_BadNumber := CC.ki_BadWeights_BadNumber, ki_BadWeights_BadShare := CC.ki_BadWeights_BadShare, ki_BadWeights_BadWeights := CC.ki_BadWeights_BadWeights, kb_BadBits_ValueError := CC.kb_BadBits_ValueError, kb_BadNumber_ValueError := CC.kb_BadNumber_ValueError, kb_BadShare_ValueError := CC.kb_BadShare_ValueError, kb_BadWeights_ValueError := CC.kb_BadWeights_ValueError, xm__law_heard_BadBits := CC.xm__law_heard_BadBits, xm__law_heard_BadNumber := CC.xm__law_heard_BadNumber, xm__law_heard_BadShare := CC.xm__law_heard_BadShare, xm__law_heard_BadWeights := CC.xm__law_heard_BadWeights, ct__law_heard := V_ShortError }
      exact ok_law T (K79.hden _)
end K79
theorem PySem.Challenge.cw_shorterhouse_k79_whole_middle_words_holds : PySem.Challenge.rw_shorterhouse_k79_whole_middle_words.Holds := by
  exact K79.the_walk
