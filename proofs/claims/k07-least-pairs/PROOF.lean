import PyProof.Rows.All
import HandS.Head0
import HandS.Head1
import HandS.Head2
import HandS.HeadEnd
import HandS.Ends
import KE.KStateDown
import Lean
import HandS.Flow
import HandS.TupMul
import PyProof.ReprRoads
import HandS.Style
import HandS.HeadHook1
import HandS.HeadHook2
import HandS.Words
import HandS.WordsExc
import HandS.Lambda
import HandS.EndBits
import HandS.EndTab
import HandS.Iter
import HandS.IsInst
import HandS.Text
import HandS.Dict
import HandS.Conv
import HandS.Wide
import HandS.Deep
import HandS.TupAny
import HandS.Comp
import HandS.ExcOwn
import HandS.ForExc
import PySem.PyData
import PySem.Challenge.RW_againtrees_k07_least_pairs
set_option Elab.async false
set_option linter.all false
set_option maxRecDepth 100000
namespace AG
open PySem L2

inductive D where
  | non | bl (b : Bool) | int (i : Int) | str (x : Str)
  | tup (l : List D) | lst (l : List D) | dct (t : Bool) (l : List (D × D)) | set (l : List D)
  | ins (c : Nat) (fs : List (Str × D))
  | hnd (n : Nat) | loc (i : Nat) | cls (c : Nat) | scr (ns : List Int)

inductive MO where
  | ml (l : List D) | md (t : Bool) (l : List (D × D)) | mi (c : Nat) (fs : List (Str × D))

inductive SV where
  | un | d (x : D) | own (m : MO)

structure S where
  rhz : List SV
  muz : List MO

structure Er where
  c : Nat
  arg : Option D := none

inductive O (α : Type) where
  | ok (a : α) (s : S)
  | err (e : Er) (s : S)
  | st

abbrev M (α : Type) := S → O α
def O.bind {α β : Type} : O α → (α → S → O β) → O β
  | .ok a s, f => f a s
  | .err e s, _ => .err e s
  | .st, _ => .st
@[simp] theorem O.bind_ok {α β : Type} (a : α) (s : S) (f : α → S → O β) : (O.ok a s).bind f = f a s := Eq.trans rfl rfl
@[simp] theorem O.bind_err {α β : Type} (e : Er) (s : S) (f : α → S → O β) : (O.err e s : O α).bind f = .err e s := Eq.trans rfl rfl
@[simp] theorem O.bind_st {α β : Type} (f : α → S → O β) : (O.st : O α).bind f = .st := Eq.trans rfl rfl

inductive R where
  | ok (d : D) (muz : List MO)
  | err (e : Er) (muz : List MO)
  | st

inductive Fl where
  | nx | rt (d : D) | bk | ct

def LIM : Nat := 1000000

end AG

set_option Elab.async false
set_option linter.all false
set_option maxRecDepth 100000
namespace AG
open PySem L2

structure Cfg where
  K : PySem.W.Frag
  CA : Nat → Addr

abbrev Adr := Nat → Option Addr

def keyD : D → Option Key
  | .int i => some (.inl i)
  | .str x => some (.inr x)
  | _ => none
def keysD : List D → Option (List Key)
  | [] => some []
  | d :: ds => match keyD d, keysD ds with
    | some k, some ks => some (k :: ks)
    | _, _ => none
def keyT : D → Option (List Key)
  | .tup ds => keysD ds
  | _ => none

def DctAt (l : List (D × D)) (vs : List V) (t : Bool) (o : HO) : Prop := match t with
  | false => ∃ ks, o = .dK (List.zip ks vs) ∧ ks.map some = l.map (fun p => keyD p.1) ∧ ks.length = vs.length
  | true => ∃ ks, o = .dT (List.zip ks vs) ∧ ks.map some = l.map (fun p => keyT p.1) ∧ ks.length = vs.length
mutual
def Rep (G : Cfg) (F : Hp) (A : Adr) : D → V → Prop
  | .non, v => v = .non
  | .bl b, v => v = .bl b
  | .int i, v => v = .int i
  | .str x, v => v = .str x
  | .tup l, v => ∃ a vs, v = .ref a ∧ F a = some (.tup vs) ∧ RepL G F A l vs
  | .lst l, v => ∃ a vs, v = .ref a ∧ F a = some (.lst vs) ∧ RepL G F A l vs
  | .dct t l, v => ∃ a vs o, v = .ref a ∧ RepL2 G F A l vs ∧ F a = some o ∧ DctAt l vs t o
  | .set _, _ => False
  | .ins c fs, v => ∃ a dx vs, v = .ref a ∧ F a = some (.ins (G.CA c) dx (List.zip (fs.map (·.1)) vs)) ∧ RepLF G F A fs vs
  | .hnd n, v => ∃ a, A n = some a ∧ v = .ref a
  | .loc _, _ => False
  | .cls c, v => v = .ref (G.CA c)
  | .scr ns, v => ∃ a, v = .ref a ∧ SqL G.K F a (ns.map V.int)
def RepL (G : Cfg) (F : Hp) (A : Adr) : List D → List V → Prop
  | [], vs => vs = []
  | d :: ds, vs => ∃ v r, vs = v :: r ∧ Rep G F A d v ∧ RepL G F A ds r
def RepL2 (G : Cfg) (F : Hp) (A : Adr) : List (D × D) → List V → Prop
  | [], vs => vs = []
  | d :: ds, vs => ∃ v r, vs = v :: r ∧ Rep G F A d.2 v ∧ RepL2 G F A ds r
def RepLF (G : Cfg) (F : Hp) (A : Adr) : List (Str × D) → List V → Prop
  | [], vs => vs = []
  | d :: ds, vs => ∃ v r, vs = v :: r ∧ Rep G F A d.2 v ∧ RepLF G F A ds r
end

def FLe (F F' : Hp) : Prop := ∀ a o, F a = some o → F' a = some o
def ALe (A A' : Adr) : Prop := ∀ n a, A n = some a → A' n = some a
theorem FLe.refl (F : Hp) : FLe F F := fun _ _ h => h
theorem FLe.trans {F F1 F2 : Hp} (a : FLe F F1) (b : FLe F1 F2) : FLe F F2 := fun x o h => b x o (a x o h)
theorem ALe.refl (A : Adr) : ALe A A := fun _ _ h => h
theorem ALe.trans {A A1 A2 : Adr} (a : ALe A A1) (b : ALe A1 A2) : ALe A A2 := fun x o h => b x o (a x o h)
theorem FLe.sql {K : PySem.W.Frag} {F F' : Hp} (e : FLe F F') {a : Addr} {xs : List V} (h : SqL K F a xs) : SqL K F' a xs := by
  rcases h with (h | ⟨o, h⟩) | h
  · exact .inl (.inl (e _ _ h))
  · exact .inl (.inr ⟨o, e _ _ h⟩)
  · exact .inr h

section
variable {G : Cfg} {F F' : Hp} {A A' : Adr}
mutual
theorem Rep.mono (e : FLe F F') (f : ALe A A') : ∀ (d : D) (v : V), Rep G F A d v → Rep G F' A' d v
  | .non, v, h => by simpa [Rep] using h
  | .bl b, v, h => by simpa [Rep] using h
  | .int i, v, h => by simpa [Rep] using h
  | .str x, v, h => by simpa [Rep] using h
  | .tup l, v, h => by
    simp only [Rep] at h ⊢
    obtain ⟨a, vs, h1, h2, h3⟩ := h
    exact ⟨a, vs, h1, e _ _ h2, RepL.mono e f l vs h3⟩
  | .lst l, v, h => by
    simp only [Rep] at h ⊢
    obtain ⟨a, vs, h1, h2, h3⟩ := h
    exact ⟨a, vs, h1, e _ _ h2, RepL.mono e f l vs h3⟩
  | .dct t l, v, h => by
    simp only [Rep] at h ⊢
    obtain ⟨a, vs, o, h1, h2, h3, h4⟩ := h
    exact ⟨a, vs, o, h1, RepL2.mono e f l vs h2, e _ _ h3, h4⟩
  | .set l, v, h => by simp only [Rep] at h
  | .ins c fs, v, h => by
    simp only [Rep] at h ⊢
    obtain ⟨a, dx, vs, h1, h2, h3⟩ := h
    exact ⟨a, dx, vs, h1, e _ _ h2, RepLF.mono e f fs vs h3⟩
  | .hnd n, v, h => by
    simp only [Rep] at h ⊢
    obtain ⟨a, h1, h2⟩ := h
    exact ⟨a, f _ _ h1, h2⟩
  | .loc i, v, h => by simp only [Rep] at h
  | .cls c, v, h => by simpa [Rep] using h
  | .scr ns, v, h => by
    simp only [Rep] at h ⊢
    obtain ⟨a, h1, h2⟩ := h
    exact ⟨a, h1, e.sql h2⟩
theorem RepL.mono (e : FLe F F') (f : ALe A A') : ∀ (l : List D) (vs : List V), RepL G F A l vs → RepL G F' A' l vs
  | [], vs, h => by simpa [RepL] using h
  | d :: ds, vs, h => by
    simp only [RepL] at h ⊢
    obtain ⟨v, r, h1, h2, h3⟩ := h
    exact ⟨v, r, h1, Rep.mono e f d v h2, RepL.mono e f ds r h3⟩
theorem RepL2.mono (e : FLe F F') (f : ALe A A') : ∀ (l : List (D × D)) (vs : List V), RepL2 G F A l vs → RepL2 G F' A' l vs
  | [], vs, h => by simpa [RepL2] using h
  | (k, d) :: ds, vs, h => by
    simp only [RepL2] at h ⊢
    obtain ⟨v, r, h1, h2, h3⟩ := h
    exact ⟨v, r, h1, Rep.mono e f d v h2, RepL2.mono e f ds r h3⟩
theorem RepLF.mono (e : FLe F F') (f : ALe A A') : ∀ (l : List (Str × D)) (vs : List V), RepLF G F A l vs → RepLF G F' A' l vs
  | [], vs, h => by simpa [RepLF] using h
  | (k, d) :: ds, vs, h => by
    simp only [RepLF] at h ⊢
    obtain ⟨v, r, h1, h2, h3⟩ := h
    exact ⟨v, r, h1, Rep.mono e f d v h2, RepLF.mono e f ds r h3⟩
end
end

def MoOk (G : Cfg) (F : Hp) (A : Adr) (H : Hp) (a : Addr) : MO → Prop
  | .ml l => ∃ vs, H a = some (.lst vs) ∧ RepL G F A l vs
  | .md t l => ∃ vs o, RepL2 G F A l vs ∧ H a = some o ∧ DctAt l vs t o
  | .mi c fs => ∃ dx vs, H a = some (.ins (G.CA c) dx (List.zip (fs.map (·.1)) vs)) ∧ RepLF G F A fs vs
theorem MoOk.mono {G : Cfg} {F F' : Hp} {A A' : Adr} {H H' : Hp} {a : Addr} {m : MO} (e : FLe F F') (f : ALe A A') (hh : ∀ o, H a = some o → H' a = some o) (h : MoOk G F A H a m) : MoOk G F' A' H' a m := by
  cases m with
  | ml l =>
    obtain ⟨vs, h1, h2⟩ := h
    exact ⟨vs, hh _ h1, RepL.mono e f _ _ h2⟩
  | md t l =>
    obtain ⟨vs, o, h2, h3, h4⟩ := h
    exact ⟨vs, o, RepL2.mono e f _ _ h2, hh _ h3, h4⟩
  | mi c fs =>
    obtain ⟨dx, vs, h1, h2⟩ := h
    exact ⟨dx, vs, hh _ h1, RepLF.mono e f _ _ h2⟩
theorem MoOk.some {G : Cfg} {F : Hp} {A : Adr} {H : Hp} {a : Addr} {m : MO} (h : MoOk G F A H a m) : ∃ o, H a = some o := by
  cases m with
  | ml l =>
    obtain ⟨vs, h1, h2⟩ := h
    exact ⟨_, h1⟩
  | md t l =>
    obtain ⟨vs, o, h2, h3, h4⟩ := h
    exact ⟨_, h3⟩
  | mi c fs =>
    obtain ⟨dx, vs, h1, h2⟩ := h
    exact ⟨_, h1⟩

def isDict : HO → Prop
  | .dK _ => True
  | .dT _ => True
  | _ => False
def Sub (F H : Hp) : Prop := ∀ a o, F a = some o → H a = some o ∨ (isDict o ∧ ∃ od, H a = some (.frz od o))

structure Ent where
  H : Hp
  F : Hp
  A : Adr
  n : Nat

structure Cells (G : Cfg) (F : Hp) (A : Adr) (H : Hp) (muz : List MO) : Prop where
  at_ : ∀ (n : Nat) (m : MO), muz[n]? = some m → ∃ a, A n = some a ∧ MoOk G F A H a m ∧ F a = none
  dom : ∀ n a, A n = some a → n < muz.length
  inj : ∀ n m a, A n = some a → A m = some a → n = m

def isOwn : SV → Bool
  | .own _ => true
  | _ => false
def SlotOk (G : Cfg) (E : Ent) (F : Hp) (A : Adr) (H : Hp) (v : Option V) : SV → Prop
  | .un => True
  | .d x => ∃ u, v = some u ∧ Rep G F A x u
  | .own m => ∃ a, v = some (.ref a) ∧ MoOk G F A H a m ∧ F a = none ∧ E.H a = none ∧ ∀ n, A n ≠ some a

structure Rel (G : Cfg) (E : Ent) (F : Hp) (A : Adr) (σ : L2.St) (H : Hp) (s : S) : Prop where
  sub : Sub F H
  len : σ.length = s.rhz.length
  slot : ∀ (i : Nat) (x : SV) (v : Option V), s.rhz[i]? = some x → σ[i]? = some v → SlotOk G E F A H v x
  dist : ∀ (i j : Nat) (a : Addr), i < s.rhz.length → j < s.rhz.length → isOwn (s.rhz.getD i .un) = true → isOwn (s.rhz.getD j .un) = true → σ[i]? = some (some (.ref a)) → σ[j]? = some (some (.ref a)) → i = j
  cells : Cells G F A H s.muz
  fle : FLe E.F F
  ale : ALe E.A A
  nle : E.n ≤ s.muz.length
  keep : ∀ a o, E.H a = some o → (∀ n, E.A n ≠ some a) → H a = some o
  fz : ∀ a o, F a = some o → E.F a = some o ∨ E.H a = none
  hz : ∀ n a, A n = some a → E.A n = some a ∨ E.H a = none

def VOk (G : Cfg) (σ : L2.St) (F : Hp) (A : Adr) (d : D) (v : V) : Prop := match d with
  | .loc i => σ[i]? = some (some v)
  | d => Rep G F A d v
theorem VOk.mono {G : Cfg} {σ : L2.St} {F F' : Hp} {A A' : Adr} {d : D} {v : V} (e : FLe F F') (f : ALe A A') (h : VOk G σ F A d v) : VOk G σ F' A' d v := by
  cases d <;> first | exact h | exact Rep.mono e f _ _ h
def sto : D → Bool
  | .loc _ => false
  | _ => true
theorem VOk.rep {G : Cfg} {σ : L2.St} {F : Hp} {A : Adr} {d : D} {v : V} (h : VOk G σ F A d v) (hs : sto d = true) : Rep G F A d v := by
  cases d <;> first | exact h | cases hs
theorem VOk.of {G : Cfg} {σ : L2.St} {F : Hp} {A : Adr} {d : D} {v : V} (h : Rep G F A d v) : VOk G σ F A d v := by
  cases d <;> first | exact h | (simp only [Rep] at h)

def PO {α : Type} (G : Cfg) (E : Ent) (W : WX) (σ : L2.St) (okP : α → S → Hp → Adr → Hp → Prop) (F : Hp) (A : Adr) : O α → Prop
  | .ok a s => ∀ F' A' H', FLe F F' → ALe A A' → Rel G E F' A' σ H' s → okP a s F' A' H'
  | .err e s => ∀ F' A' H' dd, FLe F F' → ALe A A' → Rel G E F' A' σ H' s → W (.ref (G.CA e.c)) dd σ H'
  | .st => False
abbrev okE (G : Cfg) (σ : L2.St) (Q : VK) : D → S → Hp → Adr → Hp → Prop := fun d _ F A H => ∀ v, VOk G σ F A d v → Q v H
abbrev okB (Q : Bool → Hp → Prop) : Bool → S → Hp → Adr → Hp → Prop := fun b _ _ _ H => Q b H
abbrev okL (G : Cfg) (σ : L2.St) (Q : List V → Hp → Prop) : List D → S → Hp → Adr → Hp → Prop := fun ds _ F A H => ∀ vs, Paired (VOk G σ F A) ds vs → Q vs H
structure New (G : Cfg) (E : Ent) (F : Hp) (A : Adr) (σ : L2.St) (H : Hp) (s : S) (p : Addr) (m : MO) : Prop where
  mo : MoOk G F A H p m
  nf : F p = none
  ne : E.H p = none
  nA : ∀ n, A n ≠ some p
  nσ : ∀ (i : Nat), isOwn (s.rhz.getD i .un) = true → σ[i]? ≠ some (some (.ref p))
abbrev okF (G : Cfg) (E : Ent) (σ : L2.St) (Q : VK) : MO → S → Hp → Adr → Hp → Prop := fun m s F A H => ∀ p, New G E F A σ H s p m → Q (.ref p) H

def TEof (G : Cfg) (W : WX) (f : M D) : TE := fun σ H Q => ∃ E F A s, Rel G E F A σ H s ∧ PO G E W σ (okE G σ Q) F A (f s)
def TFof (G : Cfg) (W : WX) (f : M MO) : TE := fun σ H Q => ∃ E F A s, Rel G E F A σ H s ∧ PO G E W σ (okF G E σ Q) F A (f s)
def TAof (G : Cfg) (W : WX) (f : M (List D)) : TA := fun σ H Q => ∃ E F A s, Rel G E F A σ H s ∧ PO G E W σ (okL G σ Q) F A (f s)
def TTof (G : Cfg) (W : WX) (f : M Bool) : TT := fun σ H Q => ∃ E F A s, Rel G E F A σ H s ∧ PO G E W σ (okB Q) F A (f s)

def PostS (G : Cfg) (E : Ent) (W : WX) (D : Ends) (F : Hp) (A : Adr) : O Fl → Prop
  | .ok .nx s => ∀ σ F' A' H, FLe F F' → ALe A A' → Rel G E F' A' σ H s → D.nx σ H
  | .ok .bk s => ∀ σ F' A' H, FLe F F' → ALe A A' → Rel G E F' A' σ H s → D.bk σ H
  | .ok .ct s => ∀ σ F' A' H, FLe F F' → ALe A A' → Rel G E F' A' σ H s → D.ct σ H
  | .ok (.rt d) s => ∀ v σ F' A' H, FLe F F' → ALe A A' → Rel G E F' A' σ H s → Rep G F' A' d v → D.rt v H
  | .err e s => ∀ σ F' A' H dd, FLe F F' → ALe A A' → Rel G E F' A' σ H s → W (.ref (G.CA e.c)) dd σ H
  | .st => False
def TSof (G : Cfg) (W : WX) (f : M Fl) : TS := fun D σ H => ∃ E F A s, Rel G E F A σ H s ∧ PostS G E W D F A (f s)

end AG

set_option Elab.async false
set_option linter.all false
set_option maxRecDepth 100000
namespace AG
open PySem L2
variable {G : Cfg} {E : Ent} {F F' : Hp} {A A' : Adr} {σ : L2.St} {H H' : Hp} {s : S} {p : Addr} {o : HO} {m : MO}

theorem Sub.none (h : Sub F H) (e : H p = none) : F p = none := by
  cases q : F p with
  | none => rfl
  | some u =>
    rcases h p u q with z | ⟨_, od, z⟩
    · rw [e] at z; cases z
    · rw [e] at z; cases z
theorem Cells.ne (c : Cells G F A H s.muz) (e : H p = none) (n : Nat) : A n ≠ some p := fun z => by
  have hl := c.dom n p z
  obtain ⟨a, h1, h2, h3⟩ := c.at_ n _ (List.getElem?_eq_getElem hl)
  rw [z] at h1
  cases h1
  obtain ⟨u, hu⟩ := h2.some
  rw [e] at hu
  cases hu
theorem Rel.fresh0 (R : Rel G E F A σ H s) (e : H p = none) : E.H p = none := by
  cases q : E.H p with
  | none => rfl
  | some u =>
    have k := R.keep p u q (fun n z => R.cells.ne e n (R.ale _ _ z))
    rw [e] at k
    cases k
theorem fle_upd (e : F p = none) : FLe F (upd F p o) := fun a u h => by rw [upd_ne (ne_of_none h e)]; exact h
theorem Cells.mono {muz : List MO} (c : Cells G F A H muz) (e : FLe F F') (hf : ∀ n a, A n = some a → F' a = none) (hh : ∀ n a, A n = some a → ∀ o, H a = some o → H' a = some o) : Cells G F' A H' muz :=
  ⟨fun n m h => by
    obtain ⟨a, h1, h2, h3⟩ := c.at_ n m h
    exact ⟨a, h1, h2.mono e (ALe.refl _) (hh n a h1), hf n a h1⟩, c.dom, c.inj⟩
theorem SlotOk.mono {v : Option V} {x : SV} (h : SlotOk G E F A H v x) (e : FLe F F') (f : ALe A A') (hk : ∀ a m, v = some (.ref a) → x = .own m → F a = none → E.H a = none → (∀ n, A n ≠ some a) → F' a = none ∧ (∀ n, A' n ≠ some a) ∧ ∀ o, H a = some o → H' a = some o) : SlotOk G E F' A' H' v x := by
  cases x with
  | un => trivial
  | d x =>
    obtain ⟨u, h1, h2⟩ := h
    exact ⟨u, h1, Rep.mono e f _ _ h2⟩
  | own m =>
    obtain ⟨a, h1, h2, h3, h4, h5⟩ := h
    obtain ⟨k1, k2, k3⟩ := hk a m h1 rfl h3 h4 h5
    exact ⟨a, h1, h2.mono e f k3, k1, h4, k2⟩

theorem Rel.newFz (R : Rel G E F A σ H s) (e : H p = none) : Rel G E (upd F p o) A σ (upd H p o) s := by
  have fp := R.sub.none e
  have ep := R.fresh0 e
  have fl : FLe F (upd F p o) := fle_upd fp
  have hne : ∀ b u, H b = some u → b ≠ p := fun b u h => ne_of_none h e
  refine ⟨fun a u h => ?_, R.len, fun i x v h1 h2 => (R.slot i x v h1 h2).mono fl (ALe.refl _) fun a m h3 h4 h5 h6 h7 => ?_, R.dist, R.cells.mono fl (fun n a h => ?_) (fun n a h o' ho => ?_), R.fle.trans fl, R.ale, R.nle, fun a u h1 h2 => ?_, fun a u h => ?_, R.hz⟩
  · by_cases q : a = p
    · subst q
      rw [upd_same] at h ⊢
      exact .inl h
    · rw [upd_ne q] at h ⊢
      exact R.sub a u h
  · have h8 := R.slot i x v h1 h2
    rw [h4] at h8
    obtain ⟨b, k1, k2, _⟩ := h8
    rw [h3] at k1
    cases k1
    obtain ⟨u, hu⟩ := k2.some
    have q := hne _ _ hu
    exact ⟨by rw [upd_ne q]; exact h5, h7, fun o' ho => by rw [upd_ne q]; exact ho⟩
  · have q : a ≠ p := fun z => R.cells.ne e n (by rw [h, z])
    rw [upd_ne q]
    have hl := R.cells.dom n a h
    obtain ⟨b, h1, h2, h3⟩ := R.cells.at_ n _ (List.getElem?_eq_getElem hl)
    rw [h] at h1
    cases h1
    exact h3
  · rw [upd_ne (hne _ _ ho)]
    exact ho
  · have k := R.keep a u h1 h2
    rw [upd_ne (hne _ _ k)]
    exact k
  · by_cases q : a = p
    · subst q
      exact .inr ep
    · rw [upd_ne q] at h
      exact R.fz a u h

@[simp] def frzD : MO → D
  | .ml l => .lst l
  | .md t l => .dct t l
  | .mi c fs => .ins c fs
theorem Rel.freeze (R : Rel G E F A σ H s) (N : New G E F A σ H s p m) : ∃ F', FLe F F' ∧ Rel G E F' A σ H s ∧ Rep G F' A (frzD m) (.ref p) := by
  obtain ⟨o, ho⟩ := N.mo.some
  have fl : FLe F (upd F p o) := fle_upd N.nf
  refine ⟨upd F p o, fl, ⟨fun a u h => ?_, R.len, fun i x v h1 h2 => (R.slot i x v h1 h2).mono fl (ALe.refl _) fun a m h3 h4 h5 h6 h7 => ?_, R.dist, R.cells.mono fl (fun n a h => ?_) (fun n a h o' ho => ho), R.fle.trans fl, R.ale, R.nle, R.keep, fun a u h => ?_, R.hz⟩, ?_⟩
  · by_cases q : a = p
    · subst q
      rw [upd_same] at h
      cases h
      exact .inl ho
    · rw [upd_ne q] at h
      exact R.sub a u h
  · have q : a ≠ p := fun z => by
      subst z
      have hi : i < s.rhz.length := (List.getElem?_eq_some_iff.mp h1).1
      refine N.nσ i ?_ (by rw [h2, h3])
      rw [List.getD_eq_getElem?_getD, h1, h4]
      rfl
    exact ⟨by rw [upd_ne q]; exact h5, h7, fun _ z => z⟩
  · have q : a ≠ p := fun z => N.nA n (by rw [h, z])
    rw [upd_ne q]
    have hl := R.cells.dom n a h
    obtain ⟨b, h1, h2, h3⟩ := R.cells.at_ n _ (List.getElem?_eq_getElem hl)
    rw [h] at h1
    cases h1
    exact h3
  · by_cases q : a = p
    · subst q
      exact .inr N.ne
    · rw [upd_ne q] at h
      exact R.fz a u h
  · have mo := N.mo
    cases m with
    | ml l =>
      obtain ⟨vs, h1, h2⟩ := mo
      rw [ho] at h1
      cases h1
      show Rep G _ A (.lst l) _
      simp only [Rep]
      exact ⟨p, vs, rfl, upd_same, RepL.mono fl (ALe.refl _) _ _ h2⟩
    | md t l =>
      obtain ⟨vs, o2, h2, h3, h4⟩ := mo
      rw [ho] at h3
      cases h3
      show Rep G _ A (.dct t l) _
      simp only [Rep]
      exact ⟨p, vs, o, rfl, RepL2.mono fl (ALe.refl _) _ _ h2, upd_same, h4⟩
    | mi c fs =>
      obtain ⟨dx, vs, h1, h2⟩ := mo
      rw [ho] at h1
      cases h1
      show Rep G _ A (.ins c fs) _
      simp only [Rep]
      exact ⟨p, dx, vs, rfl, upd_same, RepLF.mono fl (ALe.refl _) _ _ h2⟩

theorem Rel.laid (R : Rel G E F A σ H s) (e : H p = none) : Rel G E F A σ (upd H p o) s ∧ F p = none ∧ E.H p = none ∧ (∀ n, A n ≠ some p) ∧ ∀ i : Nat, isOwn (s.rhz.getD i .un) = true → σ[i]? ≠ some (some (.ref p)) := by
  have fp := R.sub.none e
  have ep := R.fresh0 e
  have hne : ∀ b u, H b = some u → b ≠ p := fun b u h => ne_of_none h e
  refine ⟨⟨fun a u h => ?_, R.len, fun i x v h1 h2 => (R.slot i x v h1 h2).mono (FLe.refl _) (ALe.refl _) fun a m h3 h4 h5 h6 h7 => ⟨h5, h7, fun o' ho => ?_⟩, R.dist, R.cells.mono (FLe.refl _) (fun n a h => ?_) (fun n a h o' ho => ?_), R.fle, R.ale, R.nle, fun a u h1 h2 => ?_, R.fz, R.hz⟩, fp, ep, R.cells.ne e, fun i hi z => ?_⟩
  · rcases R.sub a u h with k | ⟨k, od, k2⟩
    · rw [upd_ne (hne _ _ k)]; exact .inl k
    · rw [upd_ne (hne _ _ k2)]; exact .inr ⟨k, od, k2⟩
  · rw [upd_ne (hne _ _ ho)]; exact ho
  · have hl := R.cells.dom n a h
    obtain ⟨b, h1, h2, h3⟩ := R.cells.at_ n _ (List.getElem?_eq_getElem hl)
    rw [h] at h1
    cases h1
    exact h3
  · rw [upd_ne (hne _ _ ho)]; exact ho
  · have k := R.keep a u h1 h2
    rw [upd_ne (hne _ _ k)]
    exact k
  · rw [List.getD_eq_getElem?_getD] at hi
    cases q : s.rhz[i]? with
    | none => rw [q] at hi; cases hi
    | some x =>
      rw [q] at hi
      have h8 := R.slot i x _ q z
      cases x with
      | own m =>
        obtain ⟨b, k1, k2, _⟩ := h8
        cases k1
        obtain ⟨u, hu⟩ := k2.some
        exact (hne _ _ hu) rfl
      | _ => cases hi
theorem RepL.of_paired : ∀ {ds : List D} {vs : List V}, Paired (Rep G F A) ds vs → RepL G F A ds vs
  | [], _, .nil => by simp only [RepL]
  | d :: ds, _, .cons h t => by simp only [RepL]; exact ⟨_, _, rfl, h, RepL.of_paired t⟩
theorem RepL.paired : ∀ {ds : List D} {vs : List V}, RepL G F A ds vs → Paired (Rep G F A) ds vs
  | [], vs, h => by simp only [RepL] at h; subst h; exact .nil
  | d :: ds, vs, h => by
    simp only [RepL] at h
    obtain ⟨v, r, rfl, h2, h3⟩ := h
    exact .cons h2 (RepL.paired h3)
theorem RepL.length : ∀ {ds : List D} {vs : List V}, RepL G F A ds vs → vs.length = ds.length
  | [], vs, h => by simp only [RepL] at h; subst h; rfl
  | d :: ds, vs, h => by
    simp only [RepL] at h
    obtain ⟨v, r, rfl, h2, h3⟩ := h
    simp [RepL.length h3]
theorem RepL.get : ∀ {ds : List D} {vs : List V} {i : Nat} {d : D}, RepL G F A ds vs → ds[i]? = some d → ∃ v, vs[i]? = some v ∧ Rep G F A d v
  | [], _, _, _, _, e => by simp at e
  | d :: ds, vs, 0, x, h, e => by
    simp only [RepL] at h
    obtain ⟨v, r, rfl, h2, h3⟩ := h
    simp at e
    subst e
    exact ⟨v, rfl, h2⟩
  | d :: ds, vs, i + 1, x, h, e => by
    simp only [RepL] at h
    obtain ⟨v, r, rfl, h2, h3⟩ := h
    obtain ⟨u, h4, h5⟩ := RepL.get (i := i) h3 (by simpa using e)
    exact ⟨u, by simpa using h4, h5⟩
theorem RepL.append : ∀ {ds es : List D} {vs us : List V}, RepL G F A ds vs → RepL G F A es us → RepL G F A (ds ++ es) (vs ++ us)
  | [], _, vs, _, h, k => by simp only [RepL] at h; subst h; exact k
  | d :: ds, es, vs, us, h, k => by
    simp only [RepL] at h
    obtain ⟨v, r, rfl, h2, h3⟩ := h
    simp only [List.cons_append, RepL]
    exact ⟨v, r ++ us, rfl, h2, RepL.append h3 k⟩
theorem RepL.drop : ∀ {ds : List D} {vs : List V} (n : Nat), RepL G F A ds vs → RepL G F A (ds.drop n) (vs.drop n)
  | _, _, 0, h => h
  | [], _, _ + 1, h => by simp only [RepL] at h; subst h; simp [RepL]
  | d :: ds, _, n + 1, h => by
    simp only [RepL] at h
    obtain ⟨v, r, rfl, h2, h3⟩ := h
    exact RepL.drop n h3
theorem RepL.take : ∀ {ds : List D} {vs : List V} (n : Nat), RepL G F A ds vs → RepL G F A (ds.take n) (vs.take n)
  | _, _, 0, h => by simp [RepL]
  | [], _, _ + 1, h => by simp only [RepL] at h; subst h; simp [RepL]
  | d :: ds, _, n + 1, h => by
    simp only [RepL] at h
    obtain ⟨v, r, rfl, h2, h3⟩ := h
    simp only [List.take_succ_cons, RepL]
    exact ⟨v, _, rfl, h2, RepL.take n h3⟩
theorem RepL.ints : ∀ {ns : List Int} {vs : List V}, RepL G F A (ns.map D.int) vs → vs = ns.map V.int
  | [], vs, h => by simpa [RepL] using h
  | n :: ns, vs, h => by
    simp only [List.map_cons, RepL, Rep] at h
    obtain ⟨v, r, rfl, rfl, h3⟩ := h
    rw [RepL.ints h3]
    rfl
theorem RepL.strs : ∀ {ns : List Str} {vs : List V}, RepL G F A (ns.map D.str) vs → vs = ns.map V.str
  | [], vs, h => by simpa [RepL] using h
  | n :: ns, vs, h => by
    simp only [List.map_cons, RepL, Rep] at h
    obtain ⟨v, r, rfl, rfl, h3⟩ := h
    rw [RepL.strs h3]
    rfl
theorem RepL.bls : ∀ {ns : List Bool} {vs : List V}, RepL G F A (ns.map D.bl) vs → vs = ns.map V.bl
  | [], vs, h => by simpa [RepL] using h
  | n :: ns, vs, h => by
    simp only [List.map_cons, RepL, Rep] at h
    obtain ⟨v, r, rfl, rfl, h3⟩ := h
    rw [RepL.bls h3]
    rfl
end AG

set_option Elab.async false
set_option linter.all false
set_option maxRecDepth 100000
namespace AG
open PySem L2
section
variable {G : Cfg} {E : Ent} {W : WX} {σ : L2.St}

theorem PO.mono {α : Type} {okP okQ : α → S → Hp → Adr → Hp → Prop} {F F1 : Hp} {A A1 : Adr} {x : O α} (h : PO G E W σ okP F A x) (e : FLe F F1) (f : ALe A A1) (k : ∀ a s F' A' H', okP a s F' A' H' → okQ a s F' A' H') : PO G E W σ okQ F1 A1 x := by
  cases x with
  | ok a s => exact fun F' A' H' e' f' R => k _ _ _ _ _ (h F' A' H' (e.trans e') (f.trans f') R)
  | err er s => exact fun F' A' H' dd e' f' R => h F' A' H' dd (e.trans e') (f.trans f') R
  | st => exact h
theorem PO.bind {α β : Type} {okP : α → S → Hp → Adr → Hp → Prop} {okQ : β → S → Hp → Adr → Hp → Prop} {F : Hp} {A : Adr} {x : O α} {g : α → S → O β} (h : PO G E W σ okQ F A (x.bind g))
    (k : ∀ a s F' A' H', FLe F F' → ALe A A' → Rel G E F' A' σ H' s → PO G E W σ okQ F' A' (g a s) → okP a s F' A' H') : PO G E W σ okP F A x := by
  cases x with
  | ok a s => exact fun F' A' H' e f R => k a s F' A' H' e f R (PO.mono h e f fun _ _ _ _ _ q => q)
  | err er s => exact h
  | st => exact h
theorem PostS.mono {D : Ends} {F F1 : Hp} {A A1 : Adr} {x : O Fl} (h : PostS G E W D F A x) (e : FLe F F1) (f : ALe A A1) : PostS G E W D F1 A1 x := by
  cases x with
  | ok a s => cases a with
    | nx => exact fun σ F' A' H e' f' R => h σ F' A' H (e.trans e') (f.trans f') R
    | bk => exact fun σ F' A' H e' f' R => h σ F' A' H (e.trans e') (f.trans f') R
    | ct => exact fun σ F' A' H e' f' R => h σ F' A' H (e.trans e') (f.trans f') R
    | rt d => exact fun v σ F' A' H e' f' R => h v σ F' A' H (e.trans e') (f.trans f') R
  | err er s => exact fun σ F' A' H dd e' f' R => h σ F' A' H dd (e.trans e') (f.trans f') R
  | st => exact h
theorem PostS.bind {α : Type} {okP : α → S → Hp → Adr → Hp → Prop} {D : Ends} {F : Hp} {A : Adr} {x : O α} {g : α → S → O Fl} (h : PostS G E W D F A (x.bind g))
    (k : ∀ a s F' A' H', FLe F F' → ALe A A' → Rel G E F' A' σ H' s → PostS G E W D F' A' (g a s) → okP a s F' A' H') : PO G E W σ okP F A x := by
  cases x with
  | ok a s => exact fun F' A' H' e f R => k a s F' A' H' e f R (h.mono e f)
  | err er s => exact fun F' A' H' dd e f R => h σ F' A' H' dd e f R
  | st => exact h
theorem PO.ok_here {α : Type} {okP : α → S → Hp → Adr → Hp → Prop} {F : Hp} {A : Adr} {H : Hp} {a : α} {s : S} (h : PO G E W σ okP F A (.ok a s)) (R : Rel G E F A σ H s) : okP a s F A H :=
  h F A H (FLe.refl _) (ALe.refl _) R
end
section
variable {X : Cx} {e : Expr} {es : List Expr} {t t' : TE}
theorem PEimp (h : PE X e t) (k : ∀ σ H Q, t' σ H Q → t σ H Q) : PE X e t' := ⟨fun pins s σ H Q I hq => h.run pins s σ H Q I (k σ H Q hq)⟩
theorem PTimp {t t' : TT} (h : PT X e t) (k : ∀ σ H Q, t' σ H Q → t σ H Q) : PT X e t' := ⟨fun pins s σ H Q I hq => h.run pins s σ H Q I (k σ H Q hq)⟩
theorem PWimp {t t' : TT} (h : PW X e t) (k : ∀ σ H Q, t' σ H Q → t σ H Q) : PW X e t' := ⟨fun wh pins s σ H Q I hq => h.run wh pins s σ H Q I (k σ H Q hq)⟩
theorem PAimp {t t' : TA} (h : PA X es t) (k : ∀ σ H Q, t' σ H Q → t σ H Q) : PA X es t' := ⟨fun pos pins s σ H Q I hq => h.run pos pins s σ H Q I (k σ H Q hq)⟩
theorem PSimp {st : Stmt} {t t' : TS} (h : PS X st t) (k : ∀ D σ H, t' D σ H → t D σ H) : PS X st t' := ⟨fun pins s σ H D I hq => h.run pins s σ H D I (k D σ H hq)⟩
theorem PSsimp {st : List Stmt} {t t' : TS} (h : PSs X st t) (k : ∀ D σ H, t' D σ H → t D σ H) : PSs X st t' := ⟨fun pins s σ H D I hq => h.run pins s σ H D I (k D σ H hq)⟩
end

def cS (d : D) : M D := fun s => .ok d s
def varS (i : Nat) : M D := fun s => match s.rhz[i]? with
  | some (.d x) => .ok x s
  | some (.own _) => .ok (.loc i) s
  | _ => .st
def binS (op : S → D → D → Option D) (f g : M D) : M D := fun s => (f s).bind fun x s1 => (g s1).bind fun y s2 => match op s2 x y with
  | some d => .ok d s2
  | none => .st
def unS (op : S → D → Option D) (f : M D) : M D := fun s => (f s).bind fun x s1 => match op s1 x with
  | some d => .ok d s1
  | none => .st
def andS (f g : M D) : M D := fun s => (f s).bind fun x s1 => match x with
  | .bl true => g s1
  | .bl false => .ok (.bl false) s1
  | _ => .st
def orS (f g : M D) : M D := fun s => (f s).bind fun x s1 => match x with
  | .bl false => g s1
  | .bl true => .ok (.bl true) s1
  | _ => .st
def notS (f : M D) : M D := fun s => (f s).bind fun x s1 => match x with
  | .bl b => .ok (.bl (!b)) s1
  | _ => .st
def tstS (f : M D) : M Bool := fun s => (f s).bind fun x s1 => match x with
  | .bl b => .ok b s1
  | _ => .st
def tAndS (f g : M Bool) : M Bool := fun s => (f s).bind fun x s1 => if x = true then g s1 else .ok false s1
def tOrS (f g : M Bool) : M Bool := fun s => (f s).bind fun x s1 => if x = true then .ok true s1 else g s1
def tNotS (f : M Bool) : M Bool := fun s => (f s).bind fun x s1 => .ok (!x) s1
def iteS (t : M Bool) (f g : M D) : M D := fun s => (t s).bind fun b s1 => if b = true then f s1 else g s1
def chainS (op op' : S → D → D → Option D) (f g h : M D) : M D := fun s => (f s).bind fun x s1 => (g s1).bind fun y s2 => match op s2 x y with
  | some (.bl true) => (h s2).bind fun z s3 => match op' s3 y z with
    | some d => .ok d s3
    | none => .st
  | some (.bl false) => .ok (.bl false) s2
  | _ => .st
def nilS : M (List D) := fun s => .ok [] s
def consS (f : M D) (g : M (List D)) : M (List D) := fun s => (f s).bind fun x s1 => (g s1).bind fun xs s2 => .ok (x :: xs) s2
def tupS (g : M (List D)) : M D := fun s => (g s).bind fun xs s1 => if xs.all sto && decide (xs.length ≤ LIM) then .ok (.tup xs) s1 else .st
def lstF (g : M (List D)) : M MO := fun s => (g s).bind fun xs s1 => if xs.all sto && decide (xs.length ≤ LIM) then .ok (.ml xs) s1 else .st
def frzS (f : M MO) : M D := fun s => (f s).bind fun m s1 => .ok (frzD m) s1
def callV (op : S → List D → Option D) (g : M (List D)) : M D := fun s => (g s).bind fun xs s1 => match op s1 xs with
  | some d => .ok d s1
  | none => .st
def callN (op : S → List D → Option MO) (g : M (List D)) : M MO := fun s => (g s).bind fun xs s1 => match op s1 xs with
  | some d => .ok d s1
  | none => .st
def binN (op : S → D → D → Option MO) (f g : M D) : M MO := fun s => (f s).bind fun x s1 => (g s1).bind fun y s2 => match op s2 x y with
  | some d => .ok d s2
  | none => .st

def OpD (G : Cfg) (r : R2) (op : S → D → D → Option D) : Prop := ∀ (E : Ent) (F : Hp) (A : Adr) (σ : L2.St) (H : Hp) (s : S) (x y : V) (dx dy d : D) (Q : VK), Rel G E F A σ H s → VOk G σ F A dx x → VOk G σ F A dy y → op s dx dy = some d →
  (∀ v F' A' H', FLe F F' → ALe A A' → Rel G E F' A' σ H' s → VOk G σ F' A' d v → Q v H') → r x y H Q
def OpN (G : Cfg) (r : R2) (op : S → D → D → Option MO) : Prop := ∀ (E : Ent) (F : Hp) (A : Adr) (σ : L2.St) (H : Hp) (s : S) (x y : V) (dx dy : D) (m : MO) (Q : VK), Rel G E F A σ H s → VOk G σ F A dx x → VOk G σ F A dy y → op s dx dy = some m →
  (∀ p F' A' H', FLe F F' → ALe A A' → Rel G E F' A' σ H' s → New G E F' A' σ H' s p m → Q (.ref p) H') → r x y H Q
def UnD (G : Cfg) (r : V → Hp → VK → Prop) (op : S → D → Option D) : Prop := ∀ (E : Ent) (F : Hp) (A : Adr) (σ : L2.St) (H : Hp) (s : S) (x : V) (dx d : D) (Q : VK), Rel G E F A σ H s → VOk G σ F A dx x → op s dx = some d →
  (∀ v F' A' H', FLe F F' → ALe A A' → Rel G E F' A' σ H' s → VOk G σ F' A' d v → Q v H') → r x H Q
def ClD (G : Cfg) (r : List V → Hp → VK → Prop) (op : S → List D → Option D) : Prop := ∀ (E : Ent) (F : Hp) (A : Adr) (σ : L2.St) (H : Hp) (s : S) (xs : List V) (ds : List D) (d : D) (Q : VK), Rel G E F A σ H s → Paired (VOk G σ F A) ds xs → op s ds = some d →
  (∀ v F' A' H', FLe F F' → ALe A A' → Rel G E F' A' σ H' s → VOk G σ F' A' d v → Q v H') → r xs H Q
def ClN (G : Cfg) (r : List V → Hp → VK → Prop) (op : S → List D → Option MO) : Prop := ∀ (E : Ent) (F : Hp) (A : Adr) (σ : L2.St) (H : Hp) (s : S) (xs : List V) (ds : List D) (m : MO) (Q : VK), Rel G E F A σ H s → Paired (VOk G σ F A) ds xs → op s ds = some m →
  (∀ p F' A' H', FLe F F' → ALe A A' → Rel G E F' A' σ H' s → New G E F' A' σ H' s p m → Q (.ref p) H') → r xs H Q

section
variable {G : Cfg} {E : Ent} {W : WX} {X : Cx} {e a b c : Expr} {es : List Expr} {f g h : M D} {pos : Pos}
theorem xc {d : D} {v : V} (h : PE X e (tC v)) (hd : ∀ σ F A, VOk G σ F A d v) : PE X e (TEof G W (cS d)) := PEimp h fun σ H Q ⟨E, F, A, s, R, P⟩ => P.ok_here R v (hd σ F A)
theorem x_int {i : Int} {j} : PE X (.Constant (.int i) j pos) (TEof G W (cS (.int i))) := xc pe_int fun _ _ _ => by simp [VOk, Rep]
theorem x_bl {i : Bool} {j} : PE X (.Constant (.bool i) j pos) (TEof G W (cS (.bl i))) := xc pe_bl fun _ _ _ => by simp [VOk, Rep]
theorem x_non {j} : PE X (.Constant .none j pos) (TEof G W (cS .non)) := xc pe_non fun _ _ _ => by simp [VOk, Rep]
theorem x_str {x : Str} {j} : PE X (.Constant (.str x) j pos) (TEof G W (cS (.str x))) := xc pe_str fun _ _ _ => by simp [VOk, Rep]
theorem xv (i : Nat) {x : Str} (hN : X.N[i]? = some x := by rfl) (hv : Vis X.env.scope x := by first | exact Or.inl rfl | exact Or.inr (Or.inl rfl) | exact Or.inr (Or.inr rfl)) (hd : (x == ("__debug__" : Str)) = false := by decide)
    (hcd : (x == ("__classdict__" : Str)) = false := by decide) : PE X (.Name x pos) (TEof G W (varS i)) := PEimp (pe_var hN hv hd hcd) fun σ H Q ⟨E, F, A, s, R, P⟩ => by
  unfold varS at P
  cases q : s.rhz[i]? with
  | none => rw [q] at P; exact P.elim
  | some x =>
    rw [q] at P
    have hl : i < s.rhz.length := (List.getElem?_eq_some_iff.mp q).1
    have hs : i < σ.length := by rw [R.len]; exact hl
    have k := R.slot i x σ[i] q (List.getElem?_eq_getElem hs)
    cases x with
    | un => exact P.elim
    | d x =>
      obtain ⟨u, h1, h2⟩ := k
      exact ⟨u, by rw [List.getElem?_eq_getElem hs, h1], P.ok_here R u (.of h2)⟩
    | own m =>
      obtain ⟨p, h1, _⟩ := k
      exact ⟨.ref p, by rw [List.getElem?_eq_getElem hs, h1], P.ok_here R (.ref p) (by show σ[i]? = _; rw [List.getElem?_eq_getElem hs, h1])⟩
theorem x_op {r : R2} {op : S → D → D → Option D} (hd : OpD G r op) (ha : PE X a (TEof G W f)) (hb : PE X b (TEof G W g)) {t : Expr} (k : PE X t (tOp r (TEof G W f) (TEof G W g))) : PE X t (TEof G W (binS op f g)) := by
  refine PEimp k fun σ H Q ⟨E, F, A, s, R, P⟩ => ⟨E, F, A, s, R, PO.bind P fun x s1 F1 A1 H1 e1 g1 R1 P1 u hu => ⟨E, F1, A1, s1, R1, PO.bind P1 fun y s2 F2 A2 H2 e2 g2 R2 P2 v hv => ?_⟩⟩
  cases q : op s2 x y with
  | none => rw [q] at P2; exact P2.elim
  | some d =>
    rw [q] at P2
    exact hd E F2 A2 σ H2 s2 u v x y d Q R2 (hu.mono e2 g2) hv q fun v F' A' H' e3 g3 R3 hv3 => P2 F' A' H' e3 g3 R3 v hv3
theorem x_bin {op : Operator} {r : R2} {opd : S → D → D → Option D} (hr : OpR X (binaryOp op) r) (hd : OpD G r opd) (ha : PE X a (TEof G W f)) (hb : PE X b (TEof G W g)) : PE X (.BinOp a op b pos) (TEof G W (binS opd f g)) := x_op hd ha hb (pe_op hr ha hb)
theorem x_cmp {op : CmpOp} {r : R2} {opd : S → D → D → Option D} (hr : OpR X (compareOp op) r) (hd : OpD G r opd) (ha : PE X a (TEof G W f)) (hb : PE X b (TEof G W g))
    (h1 : behindInMarks op b = false := by first | exact nobehind _ (by decide) (by decide) | rfl) : PE X (.Compare a [op] [b] pos) (TEof G W (binS opd f g)) := x_op hd ha hb (pe_cmpR hr ha hb h1)
theorem x_un {op : UnaryOp} {r : V → Hp → VK → Prop} {opd : S → D → Option D} (hr : UnR X (unaryOp op) r) (hd : UnD G r opd) (ha : PE X a (TEof G W f)) : PE X (.UnaryOp op a pos) (TEof G W (unS opd f)) := by
  refine PEimp (pe_un hr ha) fun σ H Q ⟨E, F, A, s, R, P⟩ => ⟨E, F, A, s, R, PO.bind P fun x s1 F1 A1 H1 e1 g1 R1 P1 u hu => ?_⟩
  cases q : opd s1 x with
  | none => rw [q] at P1; exact P1.elim
  | some d =>
    rw [q] at P1
    exact hd E F1 A1 σ H1 s1 u x d Q R1 hu q fun v F' A' H' e3 g3 R3 hv3 => P1 F' A' H' e3 g3 R3 v hv3
theorem x_one {op} (h : PE X a (TEof G W f)) : PE X (.BoolOp op [a] pos) (TEof G W f) := pe_one h
theorem VOk.bl {σ : L2.St} {F : Hp} {A : Adr} {b : Bool} {v : V} (h : VOk G σ F A (.bl b) v) : v = .bl b := by simpa [VOk, Rep] using h
theorem VOk.int {σ : L2.St} {F : Hp} {A : Adr} {b : Int} {v : V} (h : VOk G σ F A (.int b) v) : v = .int b := by simpa [VOk, Rep] using h
theorem VOk.str {σ : L2.St} {F : Hp} {A : Adr} {b : Str} {v : V} (h : VOk G σ F A (.str b) v) : v = .str b := by simpa [VOk, Rep] using h
theorem VOk.non {σ : L2.St} {F : Hp} {A : Adr} {v : V} (h : VOk G σ F A .non v) : v = .non := by simpa [VOk, Rep] using h
theorem vok_bl {σ : L2.St} {F : Hp} {A : Adr} {b : Bool} : VOk G σ F A (.bl b) (.bl b) := by simp [VOk, Rep]
theorem vok_int {σ : L2.St} {F : Hp} {A : Adr} {b : Int} : VOk G σ F A (.int b) (.int b) := by simp [VOk, Rep]
theorem vok_str {σ : L2.St} {F : Hp} {A : Adr} {b : Str} : VOk G σ F A (.str b) (.str b) := by simp [VOk, Rep]
theorem vok_non {σ : L2.St} {F : Hp} {A : Adr} : VOk G σ F A .non .non := by simp [VOk, Rep]
theorem x_and {rest : List Expr} (ha : PE X a (TEof G W f)) (hb : PE X (.BoolOp .And (b :: rest) pos) (TEof G W g)) : PE X (.BoolOp .And (a :: b :: rest) pos) (TEof G W (andS f g)) := by
  refine PEimp (pe_and ha hb) fun σ H Q ⟨E, F, A, s, R, P⟩ => ⟨E, F, A, s, R, PO.bind P fun x s1 F1 A1 H1 e1 g1 R1 P1 u hu => ?_⟩
  cases x with
  | bl c =>
    refine ⟨c, hu.bl, ?_⟩
    cases c with
    | true => exact ⟨E, F1, A1, s1, R1, P1⟩
    | false => exact P1.ok_here R1 _ vok_bl
  | _ => exact P1.elim
theorem x_or {rest : List Expr} (ha : PE X a (TEof G W f)) (hb : PE X (.BoolOp .Or (b :: rest) pos) (TEof G W g)) : PE X (.BoolOp .Or (a :: b :: rest) pos) (TEof G W (orS f g)) := by
  refine PEimp (pe_or ha hb) fun σ H Q ⟨E, F, A, s, R, P⟩ => ⟨E, F, A, s, R, PO.bind P fun x s1 F1 A1 H1 e1 g1 R1 P1 u hu => ?_⟩
  cases x with
  | bl c =>
    refine ⟨c, hu.bl, ?_⟩
    cases c with
    | false => exact ⟨E, F1, A1, s1, R1, P1⟩
    | true => exact P1.ok_here R1 _ vok_bl
  | _ => exact P1.elim
theorem x_not (ha : PE X a (TEof G W f)) : PE X (.UnaryOp .Not a pos) (TEof G W (notS f)) := by
  refine PEimp (pe_not ha) fun σ H Q ⟨E, F, A, s, R, P⟩ => ⟨E, F, A, s, R, PO.bind P fun x s1 F1 A1 H1 e1 g1 R1 P1 u hu => ?_⟩
  cases x with
  | bl c => exact ⟨c, hu.bl, P1.ok_here R1 _ vok_bl⟩
  | _ => exact P1.elim
theorem t_val (ha : PE X a (TEof G W f)) (he : ∀ whole, isTrue a X.env whole = (do let v ← whole; standAt a.pos; holding [v] (truthy v)) := by intro _; rfl) : PT X a (TTof G W (tstS f)) := by
  refine PTimp (pt_val ha he) fun σ H Q ⟨E, F, A, s, R, P⟩ => ⟨E, F, A, s, R, PO.bind P fun x s1 F1 A1 H1 e1 g1 R1 P1 u hu => ?_⟩
  cases x with
  | bl c => exact ⟨c, hu.bl, P1.ok_here R1⟩
  | _ => exact P1.elim
theorem t_cmp {op : CmpOp} {r : R2} {opd : S → D → D → Option D} (hr : OpR X (compareOp op) r) (hd : OpD G r opd) (ha : PE X a (TEof G W f)) (hb : PE X b (TEof G W g))
    (h1 : behindInMarks op b = false := by first | exact nobehind _ (by decide) (by decide) | rfl) : PT X (.Compare a [op] [b] pos) (TTof G W (tstS (binS opd f g))) := by
  refine PTimp (pt_cmpR hr ha hb h1) fun σ H Q ⟨E, F, A, s, R, P⟩ => ⟨E, F, A, s, R, ?_⟩
  have P' : PO G E W σ (okB Q) F A ((f s).bind fun x s1 => (g s1).bind fun y s2 => match opd s2 x y with
    | some (.bl b) => .ok b s2
    | _ => .st) := by
    refine cast (congrArg _ ?_) P
    unfold tstS binS
    cases f s with
    | ok x s1 =>
      show ((g s1).bind _).bind _ = (g s1).bind _
      cases g s1 with
      | ok y s2 =>
        show O.bind (match opd s2 x y with | some d => .ok d s2 | none => .st) _ = _
        simp only [O.bind_ok]
        cases opd s2 x y with
        | none => rfl
        | some d => cases d <;> rfl
      | err _ _ => rfl
      | st => rfl
    | err _ _ => rfl
    | st => rfl
  refine PO.bind P' fun x s1 F1 A1 H1 e1 g1 R1 P1 u hu => ⟨E, F1, A1, s1, R1, PO.bind P1 fun y s2 F2 A2 H2 e2 g2 R2 P2 v hv => ?_⟩
  cases q : opd s2 x y with
  | none => rw [q] at P2; exact P2.elim
  | some d =>
    rw [q] at P2
    cases d with
    | bl k => exact hd E F2 A2 σ H2 s2 u v x y _ _ R2 (hu.mono e2 g2) hv q fun v F' A' H' e3 g3 R3 hv3 => ⟨k, hv3.bl, P2 F' A' H' e3 g3 R3⟩
    | _ => exact P2.elim
theorem t_and1 {t : M Bool} (ha : PT X a (TTof G W t)) : PW X (.BoolOp .And [a] pos) (TTof G W t) := pw_and1 ha
theorem t_or1 {t : M Bool} (ha : PT X a (TTof G W t)) : PW X (.BoolOp .Or [a] pos) (TTof G W t) := pw_or1 ha
theorem t_and {t u : M Bool} {rest : List Expr} (ha : PT X a (TTof G W t)) (hb : PW X (.BoolOp .And (b :: rest) pos) (TTof G W u)) : PW X (.BoolOp .And (a :: b :: rest) pos) (TTof G W (tAndS t u)) := by
  refine PWimp (pw_and ha hb) fun σ H Q ⟨E, F, A, s, R, P⟩ => ⟨E, F, A, s, R, PO.bind P fun x s1 F1 A1 H1 e1 g1 R1 P1 => ?_⟩
  cases x with
  | true => exact ⟨E, F1, A1, s1, R1, P1⟩
  | false => exact P1.ok_here R1
theorem t_or {t u : M Bool} {rest : List Expr} (ha : PT X a (TTof G W t)) (hb : PW X (.BoolOp .Or (b :: rest) pos) (TTof G W u)) : PW X (.BoolOp .Or (a :: b :: rest) pos) (TTof G W (tOrS t u)) := by
  refine PWimp (pw_or ha hb) fun σ H Q ⟨E, F, A, s, R, P⟩ => ⟨E, F, A, s, R, PO.bind P fun x s1 F1 A1 H1 e1 g1 R1 P1 => ?_⟩
  cases x with
  | true => exact P1.ok_here R1
  | false => exact ⟨E, F1, A1, s1, R1, P1⟩
theorem t_not {t : M Bool} (ha : PT X a (TTof G W t)) : PT X (.UnaryOp .Not a pos) (TTof G W (tNotS t)) :=
  PTimp (pt_not ha) fun σ H Q ⟨E, F, A, s, R, P⟩ => ⟨E, F, A, s, R, PO.bind P fun x s1 F1 A1 H1 e1 g1 R1 P1 => P1.ok_here R1⟩
theorem x_ite {t : M Bool} (hc : PT X c (TTof G W t)) (ha : PE X a (TEof G W f)) (hb : PE X b (TEof G W g)) : PE X (.IfExp c a b pos) (TEof G W (iteS t f g)) := by
  refine PEimp (pe_ifExp hc ha hb) fun σ H Q ⟨E, F, A, s, R, P⟩ => ⟨E, F, A, s, R, PO.bind P fun x s1 F1 A1 H1 e1 g1 R1 P1 => ?_⟩
  cases x with
  | true => exact ⟨E, F1, A1, s1, R1, P1⟩
  | false => exact ⟨E, F1, A1, s1, R1, P1⟩
theorem x_chain {op op' : CmpOp} {r r' : R2} {od od' : S → D → D → Option D} (hd : OpD G r od) (hd' : OpD G r' od')
    (k : PE X (.Compare a [op, op'] [b, c] pos) (tChain r r' (TEof G W f) (TEof G W g) (TEof G W h))) : PE X (.Compare a [op, op'] [b, c] pos) (TEof G W (chainS od od' f g h)) := by
  refine PEimp k fun σ H Q ⟨E, F, A, s, R, P⟩ => ⟨E, F, A, s, R, PO.bind P fun x s1 F1 A1 H1 e1 g1 R1 P1 u hu => ⟨E, F1, A1, s1, R1, PO.bind P1 fun y s2 F2 A2 H2 e2 g2 R2 P2 v hv => ?_⟩⟩
  cases q : od s2 x y with
  | none => rw [q] at P2; exact P2.elim
  | some d =>
    rw [q] at P2
    cases d with
    | bl k =>
      refine hd E F2 A2 σ H2 s2 u v x y _ _ R2 (hu.mono e2 g2) hv q fun z F3 A3 H3 e3 g3 R3 hz => ⟨k, hz.bl, ?_⟩
      cases k with
      | true =>
        refine iteT ⟨E, F3, A3, s2, R3, PO.bind (PO.mono P2 e3 g3 fun _ _ _ _ _ z => z) fun z s4 F4 A4 H4 e4 g4 R4 P4 zz hzz => ?_⟩
        cases q2 : od' s4 y z with
        | none => rw [q2] at P4; exact P4.elim
        | some d2 =>
          rw [q2] at P4
          exact hd' E F4 A4 σ H4 s4 v zz y z d2 Q R4 ((hv.mono e3 g3).mono e4 g4) hzz q2 fun v F' A' H' e5 g5 R5 hv5 => P4 F' A' H' e5 g5 R5 v hv5
      | false => exact iteF (P2 F3 A3 H3 e3 g3 R3 _ vok_bl)
    | _ => exact P2.elim
theorem a_nil : PA X [] (TAof G W nilS) := PAimp pa_nil fun σ H Q ⟨E, F, A, s, R, P⟩ => P.ok_here R [] .nil
theorem paired_mono {σ : L2.St} {F F' : Hp} {A A' : Adr} {ds : List D} {vs : List V} (h : Paired (VOk G σ F A) ds vs) (e : FLe F F') (g : ALe A A') : Paired (VOk G σ F' A') ds vs := L2.Paired.mapP h fun _ _ z => z.mono e g
theorem a_cons {ga : M (List D)} (ha : PE X e (TEof G W f)) (hr : PA X es (TAof G W ga)) (hs : starEach (e :: es) X.env = (false, eval e X.env) :: starEach es X.env := by rfl) : PA X (e :: es) (TAof G W (consS f ga)) :=
  PAimp (pa_cons ha hr hs) fun σ H Q ⟨E, F, A, s, R, P⟩ => ⟨E, F, A, s, R, PO.bind P fun x s1 F1 A1 H1 e1 g1 R1 P1 u hu => ⟨E, F1, A1, s1, R1, PO.bind P1 fun y s2 F2 A2 H2 e2 g2 R2 P2 vs hv => P2.ok_here R2 (u :: vs) (.cons (hu.mono e2 g2) hv)⟩⟩
theorem reps_of {σ : L2.St} {F : Hp} {A : Adr} : ∀ {ds : List D} {vs : List V}, Paired (VOk G σ F A) ds vs → ds.all sto = true → RepL G F A ds vs
  | [], _, .nil, _ => by simp only [RepL]
  | d :: ds, _, .cons h t, q => by
    simp only [List.all_cons, Bool.and_eq_true] at q
    simp only [RepL]
    exact ⟨_, _, rfl, h.rep q.1, reps_of t q.2⟩
theorem lim_line {n : Nat} (h : n ≤ LIM) : n ≤ sizeLine := Nat.le_trans h (by decide)
theorem paired_len {α β : Type} {R : α → β → Prop} {xs : List α} {ys : List β} (h : Paired R xs ys) : xs.length = ys.length := Paired.length h
theorem x_tup {ga : M (List D)} {x1} (ha : PA X es (TAof G W ga)) : PE X (.Tuple es x1 pos) (TEof G W (tupS ga)) := by
  refine PEimp (pe_tup ha) fun σ H Q ⟨E, F, A, s, R, P⟩ => ⟨E, F, A, s, R, PO.bind P fun xs s1 F1 A1 H1 e1 g1 R1 P1 us hu => ?_⟩
  cases q : xs.all sto && decide (xs.length ≤ LIM) with
  | false => rw [q] at P1; exact P1.elim
  | true =>
    rw [q] at P1
    simp only [Bool.and_eq_true, decide_eq_true_eq] at q
    refine ⟨by rw [← paired_len hu]; exact lim_line q.2, fun p hp => P1 _ _ _ (fle_upd (R1.sub.none hp)) (ALe.refl _) (R1.newFz hp) _ ?_⟩
    show Rep G _ _ (.tup xs) _
    simp only [Rep]
    exact ⟨p, us, rfl, upd_same, RepL.mono (fle_upd (R1.sub.none hp)) (ALe.refl _) _ _ (reps_of hu q.1)⟩
theorem f_lst {ga : M (List D)} (ha : PA X es (TAof G W ga)) : PE X (.List es pos) (TFof G W (lstF ga)) := by
  refine PEimp (pe_lst ha) fun σ H Q ⟨E, F, A, s, R, P⟩ => ⟨E, F, A, s, R, PO.bind P fun xs s1 F1 A1 H1 e1 g1 R1 P1 us hu => ?_⟩
  cases q : xs.all sto && decide (xs.length ≤ LIM) with
  | false => rw [q] at P1; exact P1.elim
  | true =>
    rw [q] at P1
    simp only [Bool.and_eq_true, decide_eq_true_eq] at q
    refine ⟨by rw [← paired_len hu]; exact lim_line q.2, fun p hp => ?_⟩
    obtain ⟨R2, k1, k2, k3, k4⟩ := R1.laid (o := .lst us) hp
    exact P1 _ _ _ (FLe.refl _) (ALe.refl _) R2 p ⟨⟨us, upd_same, reps_of hu q.1⟩, k1, k2, k3, k4⟩
theorem x_frz {m : M MO} (ha : PE X a (TFof G W m)) : PE X a (TEof G W (frzS m)) := by
  refine PEimp ha fun σ H Q ⟨E, F, A, s, R, P⟩ => ⟨E, F, A, s, R, PO.bind P fun m s1 F1 A1 H1 e1 g1 R1 P1 p N => ?_⟩
  obtain ⟨F2, e2, R2, r2⟩ := R1.freeze N
  exact P1 F2 A1 H1 e2 (ALe.refl _) R2 _ (.of r2)
theorem x_cb {r : List V → Hp → VK → Prop} {op : S → List D → Option D} {ga : M (List D)} {t : Expr} (hd : ClD G r op) (k : PE X t (tCB r (TAof G W ga))) : PE X t (TEof G W (callV op ga)) := by
  refine PEimp k fun σ H Q ⟨E, F, A, s, R, P⟩ => ⟨E, F, A, s, R, PO.bind P fun xs s1 F1 A1 H1 e1 g1 R1 P1 us hu => ?_⟩
  cases q : op s1 xs with
  | none => rw [q] at P1; exact P1.elim
  | some d =>
    rw [q] at P1
    exact hd E F1 A1 σ H1 s1 us xs d Q R1 hu q fun v F' A' H' e3 g3 R3 hv3 => P1 F' A' H' e3 g3 R3 v hv3
theorem f_cb {r : List V → Hp → VK → Prop} {op : S → List D → Option MO} {ga : M (List D)} {t : Expr} (hd : ClN G r op) (k : PE X t (tCB r (TAof G W ga))) : PE X t (TFof G W (callN op ga)) := by
  refine PEimp k fun σ H Q ⟨E, F, A, s, R, P⟩ => ⟨E, F, A, s, R, PO.bind P fun xs s1 F1 A1 H1 e1 g1 R1 P1 us hu => ?_⟩
  cases q : op s1 xs with
  | none => rw [q] at P1; exact P1.elim
  | some d =>
    rw [q] at P1
    exact hd E F1 A1 σ H1 s1 us xs d Q R1 hu q fun p F' A' H' e3 g3 R3 hv3 => P1 F' A' H' e3 g3 R3 p hv3
theorem f_op {r : R2} {op : S → D → D → Option MO} (hd : OpN G r op) {t : Expr} (k : PE X t (tOp r (TEof G W f) (TEof G W g))) : PE X t (TFof G W (binN op f g)) := by
  refine PEimp k fun σ H Q ⟨E, F, A, s, R, P⟩ => ⟨E, F, A, s, R, PO.bind P fun x s1 F1 A1 H1 e1 g1 R1 P1 u hu => ⟨E, F1, A1, s1, R1, PO.bind P1 fun y s2 F2 A2 H2 e2 g2 R2 P2 v hv => ?_⟩⟩
  cases q : op s2 x y with
  | none => rw [q] at P2; exact P2.elim
  | some d =>
    rw [q] at P2
    exact hd E F2 A2 σ H2 s2 u v x y d Q R2 (hu.mono e2 g2) hv q fun v F' A' H' e3 g3 R3 hv3 => P2 F' A' H' e3 g3 R3 v hv3
end
end AG

set_option Elab.async false
set_option linter.all false
set_option maxRecDepth 100000
namespace AG
open PySem L2
section
variable {G : Cfg} {E : Ent} {F F' : Hp} {A A' : Adr} {σ : L2.St} {H H' : Hp} {s : S} {p : Addr} {m : MO}

theorem getD_set {rhz : List SV} {i j : Nat} {x : SV} (h : i ≠ j) : (rhz.set i x).getD j .un = rhz.getD j .un := by
  rw [List.getD_eq_getElem?_getD, List.getD_eq_getElem?_getD, List.getElem?_set_ne h]
theorem Rel.setD (R : Rel G E F A σ H s) {i : Nat} {x : D} {v : V} (h : Rep G F A x v) : Rel G E F A (σ.set i (some v)) H { s with rhz := s.rhz.set i (.d x) } := by
  refine ⟨R.sub, by simp [R.len], fun j y u h1 h2 => ?_, fun j k a h1 h2 h3 h4 h5 h6 => ?_, R.cells, R.fle, R.ale, R.nle, R.keep, R.fz, R.hz⟩
  · by_cases e : i = j
    · subst e
      have hl : i < s.rhz.length := by
        have := (List.getElem?_eq_some_iff.mp h1).1
        simpa using this
      have hs : i < σ.length := by rw [R.len]; exact hl
      rw [List.getElem?_set_self hl] at h1
      rw [List.getElem?_set_self hs] at h2
      cases h1
      cases h2
      exact ⟨v, rfl, h⟩
    · rw [List.getElem?_set_ne e] at h1 h2
      exact R.slot j y u h1 h2
  · have nj : i ≠ j := fun e => by
      subst e
      have hl : i < s.rhz.length := by simpa using h1
      rw [List.getD_eq_getElem?_getD, List.getElem?_set_self hl] at h3
      cases h3
    have nk : i ≠ k := fun e => by
      subst e
      have hl : i < s.rhz.length := by simpa using h2
      rw [List.getD_eq_getElem?_getD, List.getElem?_set_self hl] at h4
      cases h4
    rw [getD_set nj] at h3
    rw [getD_set nk] at h4
    rw [List.getElem?_set_ne nj] at h5
    rw [List.getElem?_set_ne nk] at h6
    exact R.dist j k a (by simpa using h1) (by simpa using h2) h3 h4 h5 h6
theorem Rel.setN (R : Rel G E F A σ H s) {i : Nat} (N : New G E F A σ H s p m) : Rel G E F A (σ.set i (some (.ref p))) H { s with rhz := s.rhz.set i (.own m) } := by
  refine ⟨R.sub, by simp [R.len], fun j y u h1 h2 => ?_, fun j k a h1 h2 h3 h4 h5 h6 => ?_, R.cells, R.fle, R.ale, R.nle, R.keep, R.fz, R.hz⟩
  · by_cases e : i = j
    · subst e
      have hl : i < s.rhz.length := by
        have := (List.getElem?_eq_some_iff.mp h1).1
        simpa using this
      have hs : i < σ.length := by rw [R.len]; exact hl
      rw [List.getElem?_set_self hl] at h1
      rw [List.getElem?_set_self hs] at h2
      cases h1
      cases h2
      exact ⟨p, rfl, N.mo, N.nf, N.ne, N.nA⟩
    · rw [List.getElem?_set_ne e] at h1 h2
      exact R.slot j y u h1 h2
  · by_cases nj : i = j
    · by_cases nk : i = k
      · exact nj.symm.trans nk
      · subst nj
        have hl : i < s.rhz.length := by simpa using h1
        rw [List.getElem?_set_self (by rw [R.len]; exact hl)] at h5
        cases h5
        rw [getD_set nk] at h4
        rw [List.getElem?_set_ne nk] at h6
        exact absurd h6 (N.nσ k h4)
    · by_cases nk : i = k
      · subst nk
        have hl : i < s.rhz.length := by simpa using h2
        rw [List.getElem?_set_self (by rw [R.len]; exact hl)] at h6
        cases h6
        rw [getD_set nj] at h3
        rw [List.getElem?_set_ne nj] at h5
        exact absurd h5 (N.nσ j h3)
      · rw [getD_set nj] at h3
        rw [getD_set nk] at h4
        rw [List.getElem?_set_ne nj] at h5
        rw [List.getElem?_set_ne nk] at h6
        exact R.dist j k a (by simpa using h1) (by simpa using h2) h3 h4 h5 h6
theorem Rel.forget (R : Rel G E F A σ H s) (i : Nat) : Rel G E F A σ H { s with rhz := s.rhz.set i .un } := by
  refine ⟨R.sub, by simp [R.len], fun j y u h1 h2 => ?_, fun j k a h1 h2 h3 h4 h5 h6 => ?_, R.cells, R.fle, R.ale, R.nle, R.keep, R.fz, R.hz⟩
  · by_cases e : i = j
    · subst e
      have hl : i < s.rhz.length := by
        have := (List.getElem?_eq_some_iff.mp h1).1
        simpa using this
      rw [List.getElem?_set_self hl] at h1
      cases h1
      trivial
    · rw [List.getElem?_set_ne e] at h1
      exact R.slot j y u h1 h2
  · have nj : i ≠ j := fun e => by
      subst e
      have hl : i < s.rhz.length := by simpa using h1
      rw [List.getD_eq_getElem?_getD, List.getElem?_set_self hl] at h3
      cases h3
    have nk : i ≠ k := fun e => by
      subst e
      have hl : i < s.rhz.length := by simpa using h2
      rw [List.getD_eq_getElem?_getD, List.getElem?_set_self hl] at h4
      cases h4
    rw [getD_set nj] at h3
    rw [getD_set nk] at h4
    exact R.dist j k a (by simpa using h1) (by simpa using h2) h3 h4 h5 h6
theorem Rel.own (R : Rel G E F A σ H s) {i : Nat} (h : s.rhz[i]? = some (.own m)) : ∃ p, σ[i]? = some (some (.ref p)) ∧ MoOk G F A H p m ∧ F p = none ∧ E.H p = none ∧ ∀ n, A n ≠ some p := by
  have hl : i < s.rhz.length := (List.getElem?_eq_some_iff.mp h).1
  have hs : i < σ.length := by rw [R.len]; exact hl
  obtain ⟨p, h1, h2⟩ := R.slot i _ _ h (List.getElem?_eq_getElem hs)
  exact ⟨p, by rw [List.getElem?_eq_getElem hs, h1], h2⟩
theorem Rel.take (R : Rel G E F A σ H s) {i : Nat} (h : s.rhz[i]? = some (.own m)) : ∃ p, σ[i]? = some (some (.ref p)) ∧ New G E F A σ H { s with rhz := s.rhz.set i .un } p m := by
  obtain ⟨p, h1, h2, h3, h4, h5⟩ := R.own h
  have hl : i < s.rhz.length := (List.getElem?_eq_some_iff.mp h).1
  refine ⟨p, h1, h2, h3, h4, h5, fun j hj hq => ?_⟩
  by_cases e : i = j
  · subst e
    change isOwn ((s.rhz.set i .un).getD i .un) = true at hj
    rw [List.getD_eq_getElem?_getD, List.getElem?_set_self hl] at hj
    cases hj
  · change isOwn ((s.rhz.set i .un).getD j .un) = true at hj
    rw [getD_set e] at hj
    have hjl : j < s.rhz.length := by
      cases q : s.rhz[j]? with
      | none => rw [List.getD_eq_getElem?_getD, q] at hj; cases hj
      | some x => exact (List.getElem?_eq_some_iff.mp q).1
    refine e (R.dist i j p hl hjl ?_ hj h1 hq)
    rw [List.getD_eq_getElem?_getD, h]
    rfl
theorem Rel.frzSlot (R : Rel G E F A σ H s) {i : Nat} (h : s.rhz[i]? = some (.own m)) : ∃ F' p, σ[i]? = some (some (.ref p)) ∧ FLe F F' ∧ Rel G E F' A σ H { s with rhz := s.rhz.set i (.d (frzD m)) } ∧ Rep G F' A (frzD m) (.ref p) := by
  obtain ⟨p, h1, N⟩ := R.take h
  obtain ⟨F', e, R', r⟩ := (R.forget i).freeze N
  refine ⟨F', p, h1, e, ?_, r⟩
  have k := R'.setD (i := i) (x := frzD m) r
  have e1 : σ.set i (some (.ref p)) = σ := by
    apply List.ext_getElem?
    intro j
    by_cases q : i = j
    · subst q
      rw [List.getElem?_set_self (List.getElem?_eq_some_iff.mp h1).1, h1]
    · rw [List.getElem?_set_ne q]
  rw [e1] at k
  simpa using k
end

def exS (f : M D) : M Fl := fun s => (f s).bind fun _ s1 => .ok .nx s1
def exF (f : M MO) : M Fl := fun s => (f s).bind fun _ s1 => .ok .nx s1
def setS (i : Nat) (f : M D) : M Fl := fun s => (f s).bind fun x s1 => if sto x then .ok .nx { s1 with rhz := s1.rhz.set i (.d x) } else .st
def ownS (i : Nat) (f : M MO) : M Fl := fun s => (f s).bind fun m s1 => .ok .nx { s1 with rhz := s1.rhz.set i (.own m) }
def retS (f : M D) : M Fl := fun s => (f s).bind fun x s1 => match x with
  | .loc i => (match s1.rhz[i]? with
    | some (.own m) => .ok (.rt (frzD m)) { s1 with rhz := s1.rhz.set i .un }
    | _ => .st)
  | x => .ok (.rt x) s1
def nxS : M Fl := fun s => .ok .nx s
def bkS : M Fl := fun s => .ok .bk s
def ctS : M Fl := fun s => .ok .ct s
def seqS (f g : M Fl) : M Fl := fun s => (f s).bind fun fl s1 => match fl with
  | .nx => g s1
  | fl => .ok fl s1
def ifS (t : M Bool) (f g : M Fl) : M Fl := fun s => (t s).bind fun b s1 => if b = true then f s1 else g s1
def raiseS (c : Nat) : M Fl := fun s => .err { c := c } s
def fzS (i : Nat) : M Fl := fun s => match s.rhz[i]? with
  | some (.own m) => .ok .nx { s with rhz := s.rhz.set i (.d (frzD m)) }
  | _ => .ok .nx s
def forL (tg : D → M Unit) (body : M Fl) : List D → M Fl
  | [] => fun s => .ok .nx s
  | d :: ds => fun s => (tg d s).bind fun _ s1 => (body s1).bind fun fl s2 => match fl with
    | .nx => forL tg body ds s2
    | .ct => forL tg body ds s2
    | .bk => .ok .nx s2
    | .rt x => .ok (.rt x) s2
def forS (it : M (List D)) (tg : D → M Unit) (body : M Fl) : M Fl := fun s => (it s).bind fun ds s1 => forL tg body ds s1
def whN (c : M Bool) (body : M Fl) : Nat → M Fl
  | 0 => fun _ => .st
  | n + 1 => fun s => (c s).bind fun b s1 => if b = true then (body s1).bind fun fl s2 => match fl with
    | .nx => whN c body n s2
    | .ct => whN c body n s2
    | .bk => .ok .nx s2
    | .rt x => .ok (.rt x) s2
    else .ok .nx s1
open Classical in
noncomputable def whS (c : M Bool) (body : M Fl) : M Fl := fun s => if h : ∃ n, whN c body n s ≠ .st then whN c body (Classical.choose h) s else .st
def tgN (i : Nat) : D → M Unit := fun d s => .ok () { s with rhz := s.rhz.set i (.d d) }
def tgsS : List (D → M Unit) → List D → M Unit
  | [], [] => fun s => .ok () s
  | t :: ts, d :: ds => fun s => (t d s).bind fun _ s1 => tgsS ts ds s1
  | _, _ => fun _ => .st
def tgT (ts : List (D → M Unit)) : D → M Unit := fun d s => match d with
  | .tup ds => tgsS ts ds s
  | _ => .st
def seqD : D → Option (List D)
  | .lst l => some l
  | .tup l => some l
  | .scr ns => some (ns.map .int)
  | _ => none
def itS (f : M D) : M (List D) := fun s => (f s).bind fun d s1 => match seqD d with
  | some l => .ok l s1
  | none => .st
def wipeR (rhz : List SV) : List Nat → List SV
  | [] => rhz
  | v :: vs => (wipeR rhz vs).set v .un
def lcL (tg : D → M Unit) (c : M Bool) (e : M D) (vs : List Nat) : List D → List D → M (List D)
  | [], acc => fun s => .ok acc s
  | d :: ds, acc => fun s => (tg d s).bind fun _ s1 => (c s1).bind fun b s2 => if b = true then (e s2).bind fun y s3 => if sto y && decide (acc.length < LIM) then lcL tg c e vs ds (acc ++ [y]) { s3 with rhz := wipeR s3.rhz vs } else .st
    else lcL tg c e vs ds acc { s2 with rhz := wipeR s2.rhz vs }
def backR (rhz rhz' : List SV) : List Nat → List SV
  | [] => rhz'
  | v :: vs => (backR rhz rhz' vs).set v (rhz.getD v .un)
def lcF (it : M (List D)) (tg : D → M Unit) (c : M Bool) (e : M D) (vs : List Nat) : M MO := fun s => (it s).bind fun ds s1 =>
  if vs.any (fun v => isOwn (s1.rhz.getD v .un)) then .st else match lcL tg c e vs ds [] { s1 with rhz := wipeR s1.rhz vs } with
    | .ok acc s2 => .ok (.ml acc) { s2 with rhz := backR s1.rhz s2.rhz vs }
    | _ => .st
def callF (call : List D → List MO → R) (g : M (List D)) : M D := fun s => (g s).bind fun ds s1 => if ds.all sto then match call ds s1.muz with
  | .ok d muz => .ok d { s1 with muz := muz }
  | .err e muz => .err e { s1 with muz := muz }
  | .st => .st
  else .st
def runD (n a : Nat) (body : M Fl) (ds : List D) (muz : List MO) : R := if ds.length = a then match body ⟨ds.map .d ++ List.replicate (n - a) .un, muz⟩ with
  | .ok .nx s => .ok .non s.muz
  | .ok (.rt d) s => .ok d s.muz
  | .err e s => .err e s.muz
  | _ => .st
  else .st
end AG

set_option Elab.async false
set_option linter.all false
set_option maxRecDepth 100000
namespace AG
open PySem L2
section
variable {G : Cfg} {E : Ent} {W : WX} {X : Cx} {e a b c : Expr} {es : List Expr} {f g h : M D} {m : M MO} {pos : Pos} {st : Stmt} {sts : List Stmt} {sf sg : M Fl} {t : M Bool}

theorem s_ex (k : PS X st (tDrop (TEof G W f))) : PS X st (TSof G W (exS f)) :=
  PSimp k fun D σ H ⟨E, F, A, s, R, P⟩ => ⟨E, F, A, s, R, PostS.bind P fun d s1 F1 A1 H1 e1 g1 R1 P1 v hv => P1 σ F1 A1 H1 (FLe.refl _) (ALe.refl _) R1⟩
theorem s_set {i : Nat} (k : PS X st (tAsg (TEof G W f) (gName i))) : PS X st (TSof G W (setS i f)) :=
  PSimp k fun D σ H ⟨E, F, A, s, R, P⟩ => ⟨E, F, A, s, R, PostS.bind P fun d s1 F1 A1 H1 e1 g1 R1 P1 v hv => by
    cases q : sto d with
    | false =>
      rw [q] at P1
      exact P1.elim
    | true =>
      rw [q] at P1
      exact P1 _ F1 A1 H1 (FLe.refl _) (ALe.refl _) (R1.setD (hv.rep q))⟩
theorem s_own {i : Nat} (k : PS X st (tAsg (TFof G W m) (gName i))) : PS X st (TSof G W (ownS i m)) :=
  PSimp k fun D σ H ⟨E, F, A, s, R, P⟩ => ⟨E, F, A, s, R, PostS.bind P fun m s1 F1 A1 H1 e1 g1 R1 P1 p N => P1 _ F1 A1 H1 (FLe.refl _) (ALe.refl _) (R1.setN N)⟩
theorem s_ret (k : PS X st (tRet (TEof G W f))) : PS X st (TSof G W (retS f)) :=
  PSimp k fun D σ H ⟨E, F, A, s, R, P⟩ => ⟨E, F, A, s, R, PostS.bind P fun d s1 F1 A1 H1 e1 g1 R1 P1 v hv => by
    cases d with
    | loc i =>
      cases q : s1.rhz[i]? with
      | none =>
        simp only [q] at P1
        exact P1.elim
      | some x =>
        simp only [q] at P1
        cases x with
        | own m =>
          obtain ⟨p, h1, N⟩ := R1.take q
          obtain ⟨F2, e2, R2, r2⟩ := (R1.forget i).freeze N
          have hv' : σ[i]? = some (some v) := hv
          rw [h1] at hv'
          cases hv'
          exact P1 _ σ F2 A1 H1 e2 (ALe.refl _) R2 r2
        | un => exact P1.elim
        | d x => exact P1.elim
    | _ => exact P1 v σ F1 A1 H1 (FLe.refl _) (ALe.refl _) R1 (hv.rep rfl)⟩
theorem s_retN (k : PS X st tRetN) : PS X st (TSof G W (retS (cS .non))) :=
  PSimp k fun D σ H ⟨E, F, A, s, R, P⟩ => by
    have P' : ∀ v σ F' A' H, FLe F F' → ALe A A' → Rel G E F' A' σ H s → Rep G F' A' .non v → D.rt v H := P
    exact P' .non σ F A H (FLe.refl _) (ALe.refl _) R (by simp [Rep])
theorem s_pass : PS X (.Pass pos) (TSof G W nxS) := PSimp ps_pass fun D σ H ⟨E, F, A, s, R, P⟩ => P σ F A H (FLe.refl _) (ALe.refl _) R
theorem s_brk : PS X (.Break pos) (TSof G W bkS) := PSimp ps_break fun D σ H ⟨E, F, A, s, R, P⟩ => P σ F A H (FLe.refl _) (ALe.refl _) R
theorem s_cont : PS X (.Continue pos) (TSof G W ctS) := PSimp ps_continue fun D σ H ⟨E, F, A, s, R, P⟩ => P σ F A H (FLe.refl _) (ALe.refl _) R
theorem s_nil : PSs X [] (TSof G W nxS) := PSsimp pss_nil fun D σ H ⟨E, F, A, s, R, P⟩ => P σ F A H (FLe.refl _) (ALe.refl _) R
theorem s_one (k : PS X st (TSof G W sf)) : PSs X [st] (TSof G W sf) := pss_one k
theorem s_cons (k : PS X st (TSof G W sf)) (r : PSs X sts (TSof G W sg)) : PSs X (st :: sts) (TSof G W (seqS sf sg)) :=
  PSsimp (pss_cons k r) fun D σ H ⟨E, F, A, s, R, P⟩ => by
    refine ⟨E, F, A, s, R, ?_⟩
    show PostS G E W { D with nx := TSof G W sg D } F A (sf s)
    unfold seqS at P
    cases q : sf s with
    | st => rw [q] at P; exact P
    | err er s1 => rw [q] at P; exact P
    | ok fl s1 =>
      rw [q] at P
      cases fl with
      | nx => exact fun σ F' A' H e g R => ⟨E, F', A', s1, R, PostS.mono P e g⟩
      | bk => exact P
      | ct => exact P
      | rt d => exact P
theorem s_fz {i : Nat} (r : PSs X sts (TSof G W sg)) : PSs X sts (TSof G W (seqS (fzS i) sg)) :=
  PSsimp r fun D σ H ⟨E, F, A, s, R, P⟩ => by
    unfold seqS fzS at P
    cases q : s.rhz[i]? with
    | none =>
      simp only [q] at P
      exact ⟨E, F, A, s, R, P⟩
    | some x =>
      simp only [q] at P
      cases x with
      | un => exact ⟨E, F, A, s, R, P⟩
      | d x => exact ⟨E, F, A, s, R, P⟩
      | own m =>
        obtain ⟨F', p, h1, e, R', r'⟩ := R.frzSlot q
        exact ⟨E, F', A, _, R', PostS.mono P e (ALe.refl _)⟩
theorem s_if (hc : PT X c (TTof G W t)) (ha : PSs X sts (TSof G W sf)) {sts' : List Stmt} (hb : PSs X sts' (TSof G W sg)) : PS X (.If c sts sts' pos) (TSof G W (ifS t sf sg)) :=
  PSimp (ps_if hc ha hb) fun D σ H ⟨E, F, A, s, R, P⟩ => ⟨E, F, A, s, R, PostS.bind P fun b s1 F1 A1 H1 e1 g1 R1 P1 => by
    cases b with
    | true => exact ⟨E, F1, A1, s1, R1, P1⟩
    | false => exact ⟨E, F1, A1, s1, R1, P1⟩⟩
theorem s_raise {n : Nat} (k : PS X st (fun _ σ H => W (.ref (G.CA n)) none σ H)) : PS X st (TSof G W (raiseS n)) :=
  PSimp k fun D σ H ⟨E, F, A, s, R, P⟩ => P σ F A H none (FLe.refl _) (ALe.refl _) R

def ItOk (G : Cfg) (F : Hp) (A : Adr) (J : It) (ds : List D) : Prop := ∀ (E : Ent) (F' : Hp) (A' : Adr) (σ : L2.St) (H : Hp) (s : S), FLe F F' → ALe A A' → Rel G E F' A' σ H s →
  (∀ i, ds.length ≤ i → J.stop i H) ∧ ∀ i d, ds[i]? = some d → J.go i H ∧ ∀ x H', J.yld i H x H' → ∃ F'', FLe F' F'' ∧ Rel G E F'' A' σ H' s ∧ Rep G F'' A' d x
def TIof (G : Cfg) (W : WX) (f : M (List D)) : TI := fun σ H Q => ∃ E F A s, Rel G E F A σ H s ∧ PO G E W σ (fun ds _ F A H => ∀ J, ItOk G F A J ds → Q J H) F A (f s)
def TGof (G : Cfg) (ws : List Nat) (g : D → M Unit) : TG := fun v σ H Q => ∃ E F A s d, Rel G E F A σ H s ∧ Rep G F A d v ∧ (match g d s with
  | .ok _ s' => ∀ σ', Rel G E F A σ' H s' → wipe σ' ws = wipe σ ws → Q σ' H
  | _ => False)
theorem wipe_set {σ : L2.St} {i : Nat} {x : Option V} : ∀ {ws : List Nat}, i ∈ ws → wipe (σ.set i x) ws = wipe σ ws
  | [], h => absurd h (by simp)
  | v :: vs, h => by
    by_cases hv : i ∈ vs
    · unfold wipe
      rw [wipe_set hv]
    · have e : v = i := by
        rcases List.mem_cons.mp h with z | z
        · exact z.symm
        · exact absurd z hv
      subst e
      unfold wipe
      have key : ∀ (ws : List Nat), wipe (σ.set v x) ws = (wipe σ ws).set v ((wipe (σ.set v x) ws).getD v none) := by
        intro ws
        apply List.ext_getElem?
        intro j
        have hw : ∀ (ws : List Nat) (τ : L2.St) (j : Nat), (wipe τ ws)[j]? = if j ∈ ws then (τ[j]?).map (fun _ => none) else τ[j]? := by
          intro ws
          induction ws with
          | nil => intro τ j; simp [wipe]
          | cons w ws ih =>
            intro τ j
            unfold wipe
            by_cases q : w = j
            · subst q
              rw [if_pos List.mem_cons_self, List.getElem?_set]
              simp [wipe_length]
              by_cases hl : w < τ.length
              · simp [hl]
              · simp [hl]
            · rw [List.getElem?_set_ne q, ih]
              have : (j ∈ w :: ws) ↔ j ∈ ws := by simp [Ne.symm q]
              simp only [this]
        by_cases q : v = j
        · subst q
          rw [List.getElem?_set]
          simp only [if_true]
          by_cases hl : v < (wipe σ ws).length
          · rw [if_pos hl]
            have hl2 : v < (wipe (σ.set v x) ws).length := by simpa [wipe_length] using hl
            rw [List.getD_eq_getElem?_getD, List.getElem?_eq_getElem hl2]
            rfl
          · rw [if_neg hl]
            apply List.getElem?_eq_none_iff.mpr
            simpa [wipe_length] using hl
        · rw [List.getElem?_set_ne q, hw, hw]
          rw [List.getElem?_set_ne q]
      rw [key vs, List.set_set]
theorem ItOk.mono {F F' : Hp} {A A' : Adr} {J : It} {ds : List D} (h : ItOk G F A J ds) (e : FLe F F') (g : ALe A A') : ItOk G F' A' J ds := fun E F2 A2 σ H s e2 g2 R => h E F2 A2 σ H s (e.trans e2) (g.trans g2) R
theorem g_name {ws : List Nat} {i : Nat} {x : Str} (k : PG X (.Name x pos) (gName i)) (hi : i ∈ ws := by decide) : PG X (.Name x pos) (TGof G ws (tgN i)) :=
  ⟨fun pins s σ H v u Q I r ⟨E, F, A, s', d, R, hr, P⟩ => k.run pins s σ H v u Q I r (P _ (R.setD hr) (wipe_set hi))⟩
def TGsof (G : Cfg) (ws : List Nat) (g : List D → M Unit) : TGs := fun vs σ H Q => ∃ E F A s ds, Rel G E F A σ H s ∧ RepL G F A ds vs ∧ (match g ds s with
  | .ok _ s' => ∀ σ', Rel G E F A σ' H s' → wipe σ' ws = wipe σ ws → Q σ' H
  | _ => False)
theorem PGimp {t t' : TG} (h : PG X e t) (k : ∀ v σ H Q, t' v σ H Q → t v σ H Q) : PG X e t' := ⟨fun pins s σ H v u Q I r hq => h.run pins s σ H v u Q I r (k v σ H Q hq)⟩
theorem PGsimp {t t' : TGs} (h : PGs X es t) (k : ∀ v σ H Q, t' v σ H Q → t v σ H Q) : PGs X es t' := ⟨fun pins s σ H v u Q I r hq => h.run pins s σ H v u Q I r (k v σ H Q hq)⟩
theorem gs_nil {ws : List Nat} : PGs X [] (TGsof G ws (tgsS [])) := PGsimp pgs_nil fun vs σ H Q ⟨E, F, A, s, ds, R, hr, P⟩ => by
  cases ds with
  | nil =>
    simp only [RepL] at hr
    exact ⟨hr, P σ R rfl⟩
  | cons d ds => exact P.elim
theorem gs_cons {ws : List Nat} {g1 : D → M Unit} {ts : List (D → M Unit)} {x : Expr} {xs : List Expr} (h1 : PG X x (TGof G ws g1)) (h2 : PGs X xs (TGsof G ws (tgsS ts)))
    (hs : (assignEach (x :: xs) X.env).map (·.2) = assign x X.env :: (assignEach xs X.env).map (·.2) := by rfl) : PGs X (x :: xs) (TGsof G ws (tgsS (g1 :: ts))) := PGsimp (pgs_cons h1 h2 hs) fun vs σ H Q ⟨E, F, A, s, ds, R, hr, P⟩ => by
  cases ds with
  | nil => exact P.elim
  | cons d ds =>
    simp only [RepL] at hr
    obtain ⟨v, r, e, h3, h4⟩ := hr
    refine ⟨v, r, e, E, F, A, s, d, R, h3, ?_⟩
    simp only [tgsS] at P
    cases q : g1 d s with
    | ok u s1 =>
      rw [q] at P
      cases q2 : tgsS ts ds s1 with
      | ok u2 s2 =>
        rw [O.bind_ok, q2] at P
        exact fun σ' R' hw => ⟨E, F, A, s1, ds, R', h4, by rw [q2]; exact fun σ2 R2 hw2 => P σ2 R2 (hw2.trans hw)⟩
      | err er s2 => rw [O.bind_ok, q2] at P; exact P.elim
      | st => rw [O.bind_ok, q2] at P; exact P.elim
    | err er s1 => rw [q] at P; exact P
    | st => rw [q] at P; exact P
theorem Rel.tup {F : Hp} {A : Adr} {σ : L2.St} {H : Hp} {s : S} (R : Rel G E F A σ H s) {a : Addr} {vs : List V} (h : F a = some (.tup vs)) : H a = some (.tup vs) := by
  rcases R.sub a _ h with k | ⟨k, _⟩
  · exact k
  · exact k.elim
theorem Rel.lst {F : Hp} {A : Adr} {σ : L2.St} {H : Hp} {s : S} (R : Rel G E F A σ H s) {a : Addr} {vs : List V} (h : F a = some (.lst vs)) : H a = some (.lst vs) := by
  rcases R.sub a _ h with k | ⟨k, _⟩
  · exact k
  · exact k.elim
theorem g_tup {ws : List Nat} {ts : List (D → M Unit)} {xs : List Expr} {k : Nat} (hc : X.calm = true) (h : PGs X xs (TGsof G ws (tgsS ts))) (hl : xs.length = ts.length := by rfl)
    (hn : (assignEach xs X.env).length = xs.length := by rfl) (hst : (assignEach xs X.env).findIdx? (·.1) = none := by rfl) : PG X (.Tuple xs k pos) (TGof G ws (tgT ts)) := PGimp (pg_tup hc h hn hst) fun v σ H Q ⟨E, F, A, s, d, R, hr, P⟩ => by
  cases d with
  | tup ds =>
    simp only [Rep] at hr
    obtain ⟨a, vs, e, h1, h2⟩ := hr
    have hl2 : ds.length = ts.length := by
      have key : ∀ (ts : List (D → M Unit)) (ds : List D) (s : S), (match tgsS ts ds s with
        | .ok _ s' => True
        | _ => False) → ds.length = ts.length := by
        intro ts
        induction ts with
        | nil => intro ds s h; cases ds with
          | nil => rfl
          | cons _ _ => exact h.elim
        | cons t ts ih => intro ds s h; cases ds with
          | nil => exact h.elim
          | cons d ds =>
            simp only [tgsS] at h
            cases q : t d s with
            | ok u s1 => rw [q] at h; simp [ih ds s1 h]
            | err _ _ => rw [q] at h; exact h.elim
            | st => rw [q] at h; exact h.elim
      refine key ts ds s ?_
      simp only [tgT] at P
      cases q : tgsS ts ds s with
      | ok u s1 => trivial
      | err _ _ => rw [q] at P; exact P
      | st => rw [q] at P; exact P
    refine ⟨a, vs, e, .of (R.tup h1), ?_, E, F, A, s, ds, R, h2, P⟩
    rw [RepL.length h2, hl2, hl]
  | _ => exact P.elim
theorem i_seq (kl : PI X a b (iList X.K (TEof G W f))) (kt : PI X a b (iTup X.K (TEof G W f))) (hK : X.K = G.K) : PI X a b (TIof G W (itS f)) := by
  refine ⟨fun pins s σ H R I hw => ?_⟩
  obtain ⟨E, F, A, s0, Rl, P⟩ := hw
  have ol : ∀ (a : Addr) (vs : List V) (ds : List D) (F A), F a = some (.lst vs) → RepL G F A ds vs → ItOk G F A (Itl X.K a) ds := fun a vs ds F A h1 h2 E F' A' σ H s e g R => by
    have hs : SqL X.K H a vs := .of (R.lst (e _ _ h1))
    have h3 := RepL.mono e g _ _ h2
    refine ⟨fun i hi => ⟨vs, hs, by rw [RepL.length h2]; exact hi⟩, fun i d hd => ?_⟩
    obtain ⟨v, h4, h5⟩ := RepL.get h3 hd
    exact ⟨⟨vs, v, hs, h4⟩, fun x H' ⟨e1, h6⟩ => by
      subst e1
      have h7 := h6 vs hs
      rw [h4] at h7
      cases h7
      exact ⟨F', FLe.refl _, R, h5⟩⟩
  have ot : ∀ (a : Addr) (vs : List V) (ds : List D) (F A), F a = some (.tup vs) → RepL G F A ds vs → ItOk G F A (Itt X.K a) ds := fun a vs ds F A h1 h2 E F' A' σ H s e g R => by
    have hs : SqT X.K H a vs := .of (R.tup (e _ _ h1))
    have h3 := RepL.mono e g _ _ h2
    refine ⟨fun i hi => ⟨vs, hs, by rw [RepL.length h2]; exact hi⟩, fun i d hd => ?_⟩
    obtain ⟨v, h4, h5⟩ := RepL.get h3 hd
    exact ⟨⟨vs, v, hs, h4⟩, fun x H' ⟨e1, h6⟩ => by
      subst e1
      have h7 := h6 vs hs
      rw [h4] at h7
      cases h7
      exact ⟨F', FLe.refl _, R, h5⟩⟩
  have os : ∀ (a : Addr) (ns : List Int) (F A), SqL G.K F a (ns.map V.int) → (∀ F' H, FLe F F' → Sub F' H → SqL G.K H a (ns.map V.int)) → ItOk G F A (Itl X.K a) (ns.map D.int) := fun a ns F A h1 hh E F' A' σ H s e g R => by
    have hs : SqL X.K H a (ns.map V.int) := by rw [hK]; exact hh F' H e R.sub
    refine ⟨fun i hi => ⟨_, hs, by simpa using hi⟩, fun i d hd => ?_⟩
    rw [List.getElem?_map] at hd
    cases q : ns[i]? with
    | none => rw [q] at hd; cases hd
    | some n =>
      rw [q] at hd
      cases hd
      have h4 : (ns.map V.int)[i]? = some (V.int n) := by rw [List.getElem?_map, q]; rfl
      exact ⟨⟨_, _, hs, h4⟩, fun x H' ⟨e1, h6⟩ => by
        subst e1
        have h7 := h6 _ hs
        rw [h4] at h7
        cases h7
        exact ⟨F', FLe.refl _, R, by simp [Rep]⟩⟩
  cases q : f s0 with
  | st => unfold itS at P; rw [q] at P; exact P.elim
  | err er s1 =>
    unfold itS at P
    rw [q] at P
    exact kl.run pins s σ H R I ⟨E, F, A, s0, Rl, by rw [q]; exact P⟩
  | ok d s1 =>
    unfold itS at P
    rw [q] at P
    cases d with
    | lst l =>
      refine kl.run pins s σ H R I ⟨E, F, A, s0, Rl, ?_⟩
      rw [q]
      intro F1 A1 H1 e1 g1 R1 v hv
      have hv : Rep G F1 A1 (.lst l) v := hv
      simp only [Rep] at hv
      obtain ⟨a, vs, e, h1, h2⟩ := hv
      exact ⟨a, e, ⟨vs, .of (R1.lst h1)⟩, P F1 A1 H1 e1 g1 R1 _ (ol a vs l F1 A1 h1 h2)⟩
    | scr ns =>
      refine kl.run pins s σ H R I ⟨E, F, A, s0, Rl, ?_⟩
      rw [q]
      intro F1 A1 H1 e1 g1 R1 v hv
      have hv : Rep G F1 A1 (.scr ns) v := hv
      simp only [Rep] at hv
      obtain ⟨a, e, h1⟩ := hv
      have hh : ∀ F' H, FLe F1 F' → Sub F' H → SqL G.K H a (ns.map V.int) := fun F' H e sb => by
        rcases h1 with (h | ⟨o, h⟩) | h
        · rcases sb _ _ (e _ _ h) with k | ⟨k, _⟩
          · exact .inl (.inl k)
          · exact k.elim
        · rcases sb _ _ (e _ _ h) with k | ⟨k, _⟩
          · exact .inl (.inr ⟨o, k⟩)
          · exact k.elim
        · exact .inr h
      exact ⟨a, e, ⟨_, by rw [hK]; exact hh F1 H1 (FLe.refl _) R1.sub⟩, P F1 A1 H1 e1 g1 R1 _ (os a ns F1 A1 h1 hh)⟩
    | tup l =>
      refine kt.run pins s σ H R I ⟨E, F, A, s0, Rl, ?_⟩
      rw [q]
      intro F1 A1 H1 e1 g1 R1 v hv
      have hv : Rep G F1 A1 (.tup l) v := hv
      simp only [Rep] at hv
      obtain ⟨a, vs, e, h1, h2⟩ := hv
      exact ⟨a, e, ⟨vs, .of (R1.tup h1)⟩, P F1 A1 H1 e1 g1 R1 _ (ot a vs l F1 A1 h1 h2)⟩
    | _ => exact P.elim
theorem s_for {ws : List Nat} {it : M (List D)} {tg : D → M Unit} (hT : ∀ d s e s', tg d s ≠ .err e s') (k : PS X st (tFor (TIof G W it) (TGof G ws tg) (TSof G W sf))) : PS X st (TSof G W (forS it tg sf)) := by
  refine PSimp k fun D σ H ⟨E, F, A, s, R, P⟩ => ⟨E, F, A, s, R, PostS.bind P fun ds s1 F1 A1 H1 e1 g1 R1 P1 J hJ => ?_⟩
  refine ⟨fun i m σ H => m + i = ds.length ∧ ∃ F A s, FLe F1 F ∧ ALe A1 A ∧ Rel G E F A σ H s ∧ PostS G E W D F A (forL tg sf (ds.drop i) s), ⟨ds.length, by omega, F1, A1, s1, FLe.refl _, ALe.refl _, R1, P1⟩, ?_⟩
  rintro i m σ2 H2 ⟨hm, F2, A2, s2, e2, g2, R2, P2⟩
  obtain ⟨h1, h2⟩ := hJ E F2 A2 σ2 H2 s2 e2 g2 R2
  cases q : ds[i]? with
  | none =>
    have hl : ds.length ≤ i := List.getElem?_eq_none_iff.mp q
    rw [List.drop_eq_nil_of_le hl] at P2
    exact .inl ⟨h1 i hl, P2 _ _ _ _ (FLe.refl _) (ALe.refl _) R2⟩
  | some d =>
    have hl := (List.getElem?_eq_some_iff.mp q).1
    obtain ⟨h3, h4⟩ := h2 i d q
    have ed : ds.drop i = d :: ds.drop (i + 1) := by
      rw [List.drop_eq_getElem_cons hl, (List.getElem?_eq_some_iff.mp q).2]
    rw [ed] at P2
    refine .inr ⟨h3, fun σ' H' => ∃ F A s, FLe F1 F ∧ ALe A1 A ∧ Rel G E F A σ' H' s ∧ PostS G E W D F A (forL tg sf (ds.drop (i + 1)) s), fun σ' H' h => ⟨m - 1, by omega, by omega, h⟩, fun x H3 y => ?_⟩
    obtain ⟨F3, e3, R3, r3⟩ := h4 x H3 y
    refine ⟨E, F3, A2, s2, d, R3, r3, ?_⟩
    simp only [forL] at P2
    cases qt : tg d s2 with
    | st => rw [qt] at P2; exact P2
    | err er s3 =>
      rw [qt] at P2
      exact (hT d s2 er s3 qt).elim
    | ok u s3 =>
      rw [qt] at P2
      intro σ4 R4 _
      refine ⟨E, F3, A2, s3, R4, ?_⟩
      have P3 := PostS.mono P2 e3 (ALe.refl _)
      simp only [O.bind_ok] at P3
      cases qb : sf s3 with
      | st => rw [qb] at P3; exact P3
      | err er s4 => rw [qb] at P3; exact P3
      | ok fl s4 =>
        rw [qb] at P3
        cases fl with
        | nx => exact fun σ5 F5 A5 H5 e5 g5 R5 => ⟨F5, A5, s4, e2.trans (e3.trans e5), g2.trans g5, R5, PostS.mono P3 e5 g5⟩
        | ct => exact fun σ5 F5 A5 H5 e5 g5 R5 => ⟨F5, A5, s4, e2.trans (e3.trans e5), g2.trans g5, R5, PostS.mono P3 e5 g5⟩
        | bk => exact fun σ5 F5 A5 H5 e5 g5 R5 => P3 σ5 F5 A5 H5 e5 g5 R5
        | rt x => exact fun v σ5 F5 A5 H5 e5 g5 R5 => P3 v σ5 F5 A5 H5 e5 g5 R5
theorem whN_more {c : M Bool} {body : M Fl} : ∀ (n : Nat) (s : S), whN c body n s ≠ .st → ∀ m, n ≤ m → whN c body m s = whN c body n s
  | 0, s, h, m, hm => absurd rfl h
  | n + 1, s, h, 0, hm => absurd hm (by omega)
  | n + 1, s, h, m + 1, hm => by
    simp only [whN] at h ⊢
    cases qc : c s with
    | st => rfl
    | err er s1 => rfl
    | ok b s1 =>
      rw [qc] at h
      simp only [O.bind_ok] at h ⊢
      cases b with
      | false => rfl
      | true =>
        simp only [if_true] at h ⊢
        cases qb : body s1 with
        | st => rfl
        | err er s2 => rfl
        | ok fl s2 =>
          rw [qb] at h
          simp only [O.bind_ok] at h ⊢
          cases fl with
          | nx => exact whN_more n s2 h m (by omega)
          | ct => exact whN_more n s2 h m (by omega)
          | bk => rfl
          | rt d => rfl
theorem whS_eq {c : M Bool} {body : M Fl} {n : Nat} {s : S} {o : O Fl} (h : whN c body n s = o) (ho : o ≠ .st) : whS c body s = o := by
  have ex : ∃ n, whN c body n s ≠ .st := ⟨n, by rw [h]; exact ho⟩
  unfold whS
  rw [dif_pos ex]
  have h1 := Classical.choose_spec ex
  rcases Nat.le_total (Classical.choose ex) n with q | q
  · rw [← whN_more _ s h1 n q, h]
  · rw [whN_more n s (by rw [h]; exact ho) _ q, h]
theorem whS_unf (c : M Bool) (body : M Fl) (s : S) : whS c body s = (c s).bind fun b s1 => if b = true then (body s1).bind fun fl s2 => match fl with
    | .nx => whS c body s2
    | .ct => whS c body s2
    | .bk => .ok .nx s2
    | .rt x => .ok (.rt x) s2
    else .ok .nx s1 := by
  cases qc : c s with
  | st =>
    unfold whS
    rw [dif_neg]
    · rfl
    · rintro ⟨n, h⟩
      cases n with
      | zero => exact h rfl
      | succ n => exact h (by simp only [whN, qc]; rfl)
  | err er s1 => exact whS_eq (n := 1) (by simp only [whN, qc]; rfl) (by simp)
  | ok b s1 =>
    cases b with
    | false => exact whS_eq (n := 1) (by simp only [whN, qc]; rfl) (by simp)
    | true =>
      simp only [O.bind_ok, if_true]
      cases qb : body s1 with
      | st =>
        unfold whS
        rw [dif_neg]
        · rfl
        · rintro ⟨n, h⟩
          cases n with
          | zero => exact h rfl
          | succ n => exact h (by simp only [whN, qc, O.bind_ok, if_true, qb]; rfl)
      | err er s2 => exact whS_eq (n := 1) (by simp only [whN, qc, O.bind_ok, if_true, qb]; rfl) (by simp)
      | ok fl s2 =>
        simp only [O.bind_ok]
        have go : (∀ n, whN c body (n + 1) s = whN c body n s2) → whS c body s = whS c body s2 := fun hn => by
          by_cases ex : ∃ n, whN c body n s2 ≠ .st
          · obtain ⟨n, h⟩ := ex
            rw [whS_eq (n := n) (s := s2) rfl h, whS_eq (n := n + 1) (s := s) (hn n) h]
          · have ex2 : ¬ ∃ n, whN c body n s ≠ .st := by
              rintro ⟨n, h⟩
              cases n with
              | zero => exact h rfl
              | succ n => exact ex ⟨n, by rw [← hn n]; exact h⟩
            unfold whS
            rw [dif_neg ex, dif_neg ex2]
        cases fl with
        | nx => exact go fun n => by simp only [whN, qc, O.bind_ok, if_true, qb]
        | ct => exact go fun n => by simp only [whN, qc, O.bind_ok, if_true, qb]
        | bk => exact whS_eq (n := 1) (by simp only [whN, qc, O.bind_ok, if_true, qb]) (by simp)
        | rt d => exact whS_eq (n := 1) (by simp only [whN, qc, O.bind_ok, if_true, qb]) (by simp)
theorem whS_some {c : M Bool} {body : M Fl} {s : S} (h : whS c body s ≠ .st) : ∃ n, whN c body n s = whS c body s := by
  by_cases ex : ∃ n, whN c body n s ≠ .st
  · obtain ⟨n, q⟩ := ex
    exact ⟨n, (whS_eq rfl q).symm⟩
  · unfold whS at h
    rw [dif_neg ex] at h
    exact absurd rfl h
theorem s_while (k : PS X st (tWhile (TTof G W t) (TSof G W sf))) : PS X st (TSof G W (whS t sf)) := by
  refine PSimp k fun D σ H ⟨E, F, A, s, R, P⟩ => ?_
  have hne : whS t sf s ≠ .st := fun z => by rw [z] at P; exact P
  obtain ⟨n, hn⟩ := whS_some hne
  rw [← hn] at P
  refine ⟨fun m σ H => ∃ F A s, Rel G E F A σ H s ∧ PostS G E W D F A (whN t sf m s), ⟨n, F, A, s, R, P⟩, ?_⟩
  rintro m σ2 H2 ⟨F2, A2, s2, R2, P2⟩
  cases m with
  | zero => exact P2.elim
  | succ m =>
    simp only [whN] at P2
    refine ⟨E, F2, A2, s2, R2, PostS.bind P2 fun b s3 F3 A3 H3 e3 g3 R3 P3 => ?_⟩
    cases b with
    | false => exact P3 _ _ _ _ (FLe.refl _) (ALe.refl _) R3
    | true =>
      show if true = true then _ else _
      rw [if_pos rfl]
      simp only [if_true] at P3
      refine ⟨fun σ' H' => ∃ F A s, Rel G E F A σ' H' s ∧ PostS G E W D F A (whN t sf m s), fun σ' H' h => ⟨m, Nat.lt_succ_self m, h⟩, E, F3, A3, s3, R3, ?_⟩
      cases qb : sf s3 with
      | st => rw [qb] at P3; exact P3
      | err er s4 => rw [qb] at P3; exact P3
      | ok fl s4 =>
        rw [qb] at P3
        cases fl with
        | nx => exact fun σ5 F5 A5 H5 e5 g5 R5 => ⟨F5, A5, s4, R5, PostS.mono P3 e5 g5⟩
        | ct => exact fun σ5 F5 A5 H5 e5 g5 R5 => ⟨F5, A5, s4, R5, PostS.mono P3 e5 g5⟩
        | bk => exact fun σ5 F5 A5 H5 e5 g5 R5 => P3 σ5 F5 A5 H5 e5 g5 R5
        | rt x => exact fun v σ5 F5 A5 H5 e5 g5 R5 => P3 v σ5 F5 A5 H5 e5 g5 R5
end
end AG

set_option Elab.async false
set_option linter.all false
set_option maxRecDepth 100000
namespace AG
open PySem L2
abbrev W0 : WX := fun _ _ _ _ => False
section
variable {G : Cfg} {E : Ent} {F F' : Hp} {A A' : Adr} {σ : L2.St} {H H' : Hp} {s : S} {p : Addr} {o : HO} {m : MO}

theorem Rel.unset (R : Rel G E F A σ H s) (i : Nat) : Rel G E F A (σ.set i none) H { s with rhz := s.rhz.set i .un } := by
  have R' := R.forget i
  refine ⟨R.sub, by simp [R.len], fun j y u h1 h2 => ?_, fun j k a h1 h2 h3 h4 h5 h6 => ?_, R.cells, R.fle, R.ale, R.nle, R.keep, R.fz, R.hz⟩
  · by_cases e : i = j
    · subst e
      have hl : i < s.rhz.length := by
        have := (List.getElem?_eq_some_iff.mp h1).1
        simpa using this
      rw [List.getElem?_set_self hl] at h1
      cases h1
      trivial
    · rw [List.getElem?_set_ne e] at h2
      exact R'.slot j y u h1 h2
  · have nj : i ≠ j := fun e => by
      subst e
      have hl : i < s.rhz.length := by simpa using h1
      rw [List.getD_eq_getElem?_getD, List.getElem?_set_self hl] at h3
      cases h3
    have nk : i ≠ k := fun e => by
      subst e
      have hl : i < s.rhz.length := by simpa using h2
      rw [List.getD_eq_getElem?_getD, List.getElem?_set_self hl] at h4
      cases h4
    rw [List.getElem?_set_ne nj] at h5
    rw [List.getElem?_set_ne nk] at h6
    exact R'.dist j k a h1 h2 h3 h4 h5 h6
theorem Rel.wipe (R : Rel G E F A σ H s) : ∀ ws : List Nat, Rel G E F A (L2.wipe σ ws) H { s with rhz := wipeR s.rhz ws }
  | [] => R
  | v :: vs => (Rel.wipe R vs).unset v
theorem wipe_at : ∀ (ws : List Nat) (τ : L2.St) (j : Nat), (L2.wipe τ ws)[j]? = if j ∈ ws then (τ[j]?).map (fun _ => none) else τ[j]?
  | [], τ, j => by simp [L2.wipe]
  | w :: ws, τ, j => by
    unfold L2.wipe
    by_cases q : w = j
    · subst q
      rw [if_pos List.mem_cons_self, List.getElem?_set]
      simp [wipe_length]
      by_cases hl : w < τ.length
      · simp [hl]
      · simp [hl]
    · rw [List.getElem?_set_ne q, wipe_at ws]
      have : (j ∈ w :: ws) ↔ j ∈ ws := by simp [Ne.symm q]
      simp only [this]
theorem wipeR_length (rhz : List SV) : ∀ ws : List Nat, (wipeR rhz ws).length = rhz.length
  | [] => rfl
  | v :: vs => by unfold wipeR; rw [List.length_set, wipeR_length rhz vs]
theorem wipeR_at : ∀ (ws : List Nat) (τ : List SV) (j : Nat), (wipeR τ ws)[j]? = if j ∈ ws then (τ[j]?).map (fun _ => SV.un) else τ[j]?
  | [], τ, j => by simp [wipeR]
  | w :: ws, τ, j => by
    unfold wipeR
    by_cases q : w = j
    · subst q
      rw [if_pos List.mem_cons_self, List.getElem?_set]
      simp [wipeR_length]
      by_cases hl : w < τ.length
      · simp [hl]
      · simp [hl]
    · rw [List.getElem?_set_ne q, wipeR_at ws]
      have : (j ∈ w :: ws) ↔ j ∈ ws := by simp [Ne.symm q]
      simp only [this]
theorem wipe_idem (σ : L2.St) (ws : List Nat) : L2.wipe (L2.wipe σ ws) ws = L2.wipe σ ws := by
  apply List.ext_getElem?
  intro j
  rw [wipe_at, wipe_at]
  by_cases h : j ∈ ws
  · simp only [h, if_true]
    cases σ[j]? <;> rfl
  · simp only [h, if_false]
theorem own_wipe {rhz : List SV} {ws : List Nat} {i : Nat} (h : isOwn ((wipeR rhz ws).getD i .un) = true) : i ∉ ws ∧ isOwn (rhz.getD i .un) = true := by
  rw [List.getD_eq_getElem?_getD, wipeR_at] at h
  by_cases q : i ∈ ws
  · rw [if_pos q] at h
    cases hq : rhz[i]? with
    | none => rw [hq] at h; cases h
    | some x => rw [hq] at h; cases h
  · rw [if_neg q] at h
    exact ⟨q, by rw [List.getD_eq_getElem?_getD]; exact h⟩
theorem New.wipe (N : New G E F A σ H s p m) (ws : List Nat) : New G E F A (L2.wipe σ ws) H { s with rhz := wipeR s.rhz ws } p m :=
  ⟨N.mo, N.nf, N.ne, N.nA, fun i hi z => by
    obtain ⟨h1, h2⟩ := own_wipe hi
    rw [wipe_at, if_neg h1] at z
    exact N.nσ i h2 z⟩
theorem Rel.write (R : Rel G E F A σ H s) (nf : F p = none) (ne : E.H p = none) (nA : ∀ n, A n ≠ some p) (nσ : ∀ (i : Nat), isOwn (s.rhz.getD i .un) = true → σ[i]? ≠ some (some (.ref p))) : Rel G E F A σ (upd H p o) s := by
  refine ⟨fun a u h => ?_, R.len, fun i x v h1 h2 => (R.slot i x v h1 h2).mono (FLe.refl _) (ALe.refl _) fun a m h3 h4 h5 h6 h7 => ⟨h5, h7, fun o' ho => ?_⟩, R.dist, R.cells.mono (FLe.refl _) (fun n a h => ?_) (fun n a h o' ho => ?_), R.fle, R.ale, R.nle, fun a u h1 h2 => ?_, R.fz, R.hz⟩
  · have q : a ≠ p := fun z => by rw [z, nf] at h; cases h
    rw [upd_ne q]
    exact R.sub a u h
  · have q : a ≠ p := fun z => by
      subst z
      refine nσ i ?_ (by rw [h2, h3])
      rw [List.getD_eq_getElem?_getD, h1, h4]
      rfl
    rw [upd_ne q]
    exact ho
  · have hl := R.cells.dom n a h
    obtain ⟨b, h1, h2, h3⟩ := R.cells.at_ n _ (List.getElem?_eq_getElem hl)
    rw [h] at h1
    cases h1
    exact h3
  · have q : a ≠ p := fun z => nA n (by rw [h, z])
    rw [upd_ne q]
    exact ho
  · have q : a ≠ p := fun z => by rw [z, ne] at h1; cases h1
    rw [upd_ne q]
    exact R.keep a u h1 h2
abbrev Ent.pin (E : Ent) (p : Addr) (o : HO) : Ent := { E with H := upd E.H p o }
theorem Rel.pin (R : Rel G E F A σ H s) (N : New G E F A σ H s p m) (ho : H p = some o) : Rel G (E.pin p o) F A σ H s := by
  have ne : ∀ a, E.H a = none → a ≠ p → (E.pin p o).H a = none := fun a h q => by show upd E.H p o a = none; rw [upd_ne q]; exact h
  refine ⟨R.sub, R.len, fun i x v h1 h2 => ?_, R.dist, R.cells, R.fle, R.ale, R.nle, fun a u h1 h2 => ?_, fun a u h => ?_, fun n a h => ?_⟩
  · have k := R.slot i x v h1 h2
    cases x with
    | un => trivial
    | d x => exact k
    | own m' =>
      obtain ⟨a, k1, k2, k3, k4, k5⟩ := k
      refine ⟨a, k1, k2, k3, ne a k4 ?_, k5⟩
      intro z
      subst z
      refine N.nσ i ?_ (by rw [h2, k1])
      rw [List.getD_eq_getElem?_getD, h1]
      rfl
  · by_cases q : a = p
    · subst q
      change upd E.H a o a = some u at h1
      rw [upd_same] at h1
      cases h1
      exact ho
    · change upd E.H p o a = some u at h1
      rw [upd_ne q] at h1
      exact R.keep a u h1 h2
  · rcases R.fz a u h with k | k
    · exact .inl k
    · exact .inr (ne a k fun z => by rw [z, N.nf] at h; cases h)
  · rcases R.hz n a h with k | k
    · exact .inl k
    · exact .inr (ne a k fun z => N.nA n (by rw [h, z]))
theorem Rel.unpin (R : Rel G (E.pin p o) F A σ H s) (ep : E.H p = none) (ef : E.F p = none) (ea : ∀ n, E.A n ≠ some p) :
    Rel G E F A σ H s ∧ H p = some o ∧ F p = none ∧ (∀ n, A n ≠ some p) ∧ ∀ (i : Nat), isOwn (s.rhz.getD i .un) = true → σ[i]? ≠ some (some (.ref p)) := by
  have at_ : (E.pin p o).H p = some o := upd_same
  have back : ∀ a, (E.pin p o).H a = none → E.H a = none := fun a h => by
    by_cases q : a = p
    · rw [q]; exact ep
    · change upd E.H p o a = none at h
      rw [upd_ne q] at h
      exact h
  have fwd : ∀ a u, E.H a = some u → (E.pin p o).H a = some u := fun a u h => by
    show upd E.H p o a = some u
    rw [upd_ne (ne_of_none h ep)]
    exact h
  refine ⟨⟨R.sub, R.len, fun i x v h1 h2 => ?_, R.dist, R.cells, R.fle, R.ale, R.nle, fun a u h1 h2 => R.keep a u (fwd a u h1) h2, fun a u h => ?_, fun n a h => ?_⟩, R.keep p o at_ ea, ?_, fun n h => ?_, fun i hi z => ?_⟩
  · have k := R.slot i x v h1 h2
    cases x with
    | un => trivial
    | d x => exact k
    | own m' =>
      obtain ⟨a, k1, k2, k3, k4, k5⟩ := k
      exact ⟨a, k1, k2, k3, back a k4, k5⟩
  · rcases R.fz a u h with k | k
    · exact .inl k
    · exact .inr (back a k)
  · rcases R.hz n a h with k | k
    · exact .inl k
    · exact .inr (back a k)
  · cases q : F p with
    | none => rfl
    | some u =>
      rcases R.fz p u q with k | k
      · change E.F p = some u at k
        rw [ef] at k
        cases k
      · rw [at_] at k
        cases k
  · rcases R.hz n p h with k | k
    · exact ea n k
    · rw [at_] at k
      cases k
  · rw [List.getD_eq_getElem?_getD] at hi
    cases q : s.rhz[i]? with
    | none => rw [q] at hi; cases hi
    | some x =>
      rw [q] at hi
      have k := R.slot i x _ q z
      cases x with
      | own m =>
        obtain ⟨a, k1, k2, k3, k4, k5⟩ := k
        cases k1
        rw [at_] at k4
        cases k4
      | _ => cases hi
theorem backR_length (rhz rhz' : List SV) : ∀ ws : List Nat, (backR rhz rhz' ws).length = rhz'.length
  | [] => rfl
  | v :: vs => by unfold backR; rw [List.length_set, backR_length rhz rhz' vs]
theorem backR_at (rhz rhz' : List SV) : ∀ (ws : List Nat) (j : Nat), (backR rhz rhz' ws)[j]? = if j ∈ ws then (rhz'[j]?).map (fun _ => rhz.getD j .un) else rhz'[j]?
  | [], j => by simp [backR]
  | w :: ws, j => by
    unfold backR
    by_cases q : w = j
    · subst q
      rw [if_pos List.mem_cons_self, List.getElem?_set]
      simp [backR_length]
      by_cases hl : w < rhz'.length
      · simp [hl]
      · simp [hl]
    · rw [List.getElem?_set_ne q, backR_at rhz rhz' ws]
      have : (j ∈ w :: ws) ↔ j ∈ ws := by simp [Ne.symm q]
      simp only [this]
theorem Rel.back {F1 : Hp} {A1 : Adr} {H1 : Hp} {s1 : S} {ws : List Nat} (R1 : Rel G E F1 A1 σ H1 s1) (R : Rel G E F A (L2.wipe σ ws) H s) (e : FLe F1 F) (g : ALe A1 A) (hn : ws.any (fun v => isOwn (s1.rhz.getD v .un)) = false) :
    Rel G E F A σ H { s with rhz := backR s1.rhz s.rhz ws } := by
  have hno : ∀ v ∈ ws, isOwn (s1.rhz.getD v .un) = false := fun v hv => by
    rw [List.any_eq_false] at hn
    simpa using hn v hv
  have own_out : ∀ i, isOwn ((backR s1.rhz s.rhz ws).getD i .un) = true → i ∉ ws ∧ isOwn (s.rhz.getD i .un) = true := fun i h => by
    rw [List.getD_eq_getElem?_getD, backR_at] at h
    by_cases q : i ∈ ws
    · rw [if_pos q] at h
      cases hq : s.rhz[i]? with
      | none => rw [hq] at h; cases h
      | some x =>
        rw [hq] at h
        have := hno i q
        change isOwn (s1.rhz.getD i .un) = true at h
        rw [this] at h
        cases h
    · rw [if_neg q] at h
      exact ⟨q, by rw [List.getD_eq_getElem?_getD]; exact h⟩
  refine ⟨R.sub, by show σ.length = (backR s1.rhz s.rhz ws).length; rw [backR_length, ← R.len, wipe_length], fun j x v h1 h2 => ?_, fun i j a h1 h2 h3 h4 h5 h6 => ?_, R.cells, R.fle, R.ale, R.nle, R.keep, R.fz, R.hz⟩
  · change (backR s1.rhz s.rhz ws)[j]? = some x at h1
    rw [backR_at] at h1
    by_cases q : j ∈ ws
    · rw [if_pos q] at h1
      cases hq : s.rhz[j]? with
      | none => rw [hq] at h1; cases h1
      | some y =>
        rw [hq] at h1
        have h1' : s1.rhz.getD j .un = x := Option.some.inj h1
        have hj : j < s1.rhz.length := by
          rw [← R1.len]
          exact (List.getElem?_eq_some_iff.mp h2).1
        have k := R1.slot j _ v (List.getElem?_eq_getElem hj) h2
        have e2 : s1.rhz[j] = x := by
          rw [← h1', List.getD_eq_getElem?_getD, List.getElem?_eq_getElem hj]
          rfl
        rw [e2] at k
        have no := hno j q
        rw [h1'] at no
        cases x with
        | un => trivial
        | d x =>
          obtain ⟨u, k1, k2⟩ := k
          exact ⟨u, k1, Rep.mono e g _ _ k2⟩
        | own m => cases no
    · rw [if_neg q] at h1
      exact R.slot j x v h1 (by rw [wipe_at, if_neg q]; exact h2)
  · obtain ⟨q1, o1⟩ := own_out i h3
    obtain ⟨q2, o2⟩ := own_out j h4
    refine R.dist i j a (by simpa [backR_length] using h1) (by simpa [backR_length] using h2) o1 o2 ?_ ?_
    · rw [wipe_at, if_neg q1]; exact h5
    · rw [wipe_at, if_neg q2]; exact h6
theorem New.back {s1 : S} {ws : List Nat} (N : New G E F A (L2.wipe σ ws) H s p m) (hn : ws.any (fun v => isOwn (s1.rhz.getD v .un)) = false) : New G E F A σ H { s with rhz := backR s1.rhz s.rhz ws } p m :=
  ⟨N.mo, N.nf, N.ne, N.nA, fun i h z => by
    change isOwn ((backR s1.rhz s.rhz ws).getD i .un) = true at h
    rw [List.getD_eq_getElem?_getD, backR_at] at h
    by_cases q : i ∈ ws
    · rw [if_pos q] at h
      cases hq : s.rhz[i]? with
      | none => rw [hq] at h; cases h
      | some x =>
        rw [hq] at h
        rw [List.any_eq_false] at hn
        exact hn i q h
    · rw [if_neg q] at h
      exact N.nσ i (by rw [List.getD_eq_getElem?_getD]; exact h) (by rw [wipe_at, if_neg q]; exact z)⟩
end
def yesS : M Bool := fun s => .ok true s
section
variable {G : Cfg} {W : WX} {X : Cx} {t : Expr} {st : Stmt}
theorem lc_post {E : Ent} {tg : D → M Unit} {c : M Bool} {el : M D} {vs : List Nat} {tt : TT} {σ : L2.St} {F1 H1 : Hp} {A1 : Adr} {s1 s2 : S} {ds acc : List D} {Qf : V → Hp → Prop} (htt : ∀ σ H Q, TTof G W0 c σ H Q → tt σ H Q) {J : It}
    (hJ : ItOk G F1 A1 J ds) (R1 : Rel G E F1 A1 σ H1 s1) (hn : vs.any (fun v => isOwn (s1.rhz.getD v .un)) = false) (hl : lcL tg c el vs ds [] { s1 with rhz := wipeR s1.rhz vs } = .ok acc s2)
    (P1 : PO G E W σ (okF G E σ Qf) F1 A1 (.ok (.ml acc) { s2 with rhz := backR s1.rhz s2.rhz vs })) (Dd : Addr) (hD : H1 Dd = none) :
    ∃ Wv : Nat → Nat → Hp → Prop, (∃ m, Wv 0 m (upd H1 Dd (.lst []))) ∧ ∀ i m H, Wv i m H →
      (J.stop i H ∧ Qf (.ref Dd) H) ∨ (J.go i H ∧ ∃ Nx : Hp → Prop, (∀ H', Nx H' → ∃ m', m' < m ∧ Wv (i + 1) m' H') ∧ ∀ x H', J.yld i H x H' → TGof G vs tg x (L2.wipe σ vs) H' fun σ2 H2 => L2.wipe σ2 vs = L2.wipe σ vs ∧ tt σ2 H2 fun b H3 =>
        if b = true then TEof G W0 el σ2 H3 fun y H4 => ∃ acc, H4 Dd = some (.lst acc) ∧ acc.length < sizeLine ∧ Nx (upd H4 Dd (.lst (acc ++ [y]))) else Nx H3) := by
  have RW := R1.wipe vs
  obtain ⟨R0, n1, n2, n3, n4⟩ := RW.laid (o := .lst []) hD
  refine ⟨fun i m H => m + i = ds.length ∧ ∃ F A s ac, FLe F1 F ∧ ALe A1 A ∧ Rel G E F A (L2.wipe σ vs) H s ∧ New G E F A (L2.wipe σ vs) H s Dd (.ml ac) ∧ lcL tg c el vs (ds.drop i) ac s = .ok acc s2,
    ⟨ds.length, by omega, F1, A1, _, [], FLe.refl _, ALe.refl _, R0, ⟨⟨[], upd_same, by simp [RepL]⟩, n1, n2, n3, n4⟩, hl⟩, ?_⟩
  rintro i m H ⟨hm, F, A, s, ac, e, g, R, N, hs⟩
  obtain ⟨h1, h2⟩ := hJ E F A _ H s e g R
  cases q : ds[i]? with
  | none =>
    have hlen : ds.length ≤ i := List.getElem?_eq_none_iff.mp q
    rw [List.drop_eq_nil_of_le hlen] at hs
    simp only [lcL, O.ok.injEq] at hs
    obtain ⟨rfl, rfl⟩ := hs
    exact .inl ⟨h1 i hlen, P1 F A H e g (R1.back R e g hn) Dd (N.back hn)⟩
  | some d =>
    have hlen := (List.getElem?_eq_some_iff.mp q).1
    obtain ⟨h3, h4⟩ := h2 i d q
    have ed : ds.drop i = d :: ds.drop (i + 1) := by
      rw [List.drop_eq_getElem_cons hlen, (List.getElem?_eq_some_iff.mp q).2]
    rw [ed] at hs
    refine .inr ⟨h3, fun H' => ∃ F A s ac, FLe F1 F ∧ ALe A1 A ∧ Rel G E F A (L2.wipe σ vs) H' s ∧ New G E F A (L2.wipe σ vs) H' s Dd (.ml ac) ∧ lcL tg c el vs (ds.drop (i + 1)) ac s = .ok acc s2, fun H' h => ⟨m - 1, by omega, by omega, h⟩, fun x H' y => ?_⟩
    obtain ⟨va, hva, rva⟩ := N.mo
    have ef : E.F Dd = none := by
      cases qf : E.F Dd with
      | none => rfl
      | some u =>
        have k := R.fle _ _ qf
        rw [N.nf] at k
        cases k
    have ea : ∀ n, E.A n ≠ some Dd := fun n z => N.nA n (R.ale _ _ z)
    have Rp := R.pin N hva
    obtain ⟨_, h2p⟩ := hJ _ F A _ H s e g Rp
    obtain ⟨_, h4p⟩ := h2p i d q
    obtain ⟨F2, e2, R2, r2⟩ := h4p x H' y
    refine ⟨_, F2, A, s, d, R2, r2, ?_⟩
    simp only [lcL] at hs
    cases qt : tg d s with
    | st => rw [qt] at hs; cases hs
    | err er s3 => rw [qt] at hs; cases hs
    | ok u s3 =>
      rw [qt] at hs
      simp only [O.bind_ok] at hs
      intro σ2 R3 hw
      have hw' : L2.wipe σ2 vs = L2.wipe σ vs := by rw [hw, wipe_idem]
      refine ⟨hw', htt _ _ _ ⟨_, F2, A, s3, R3, ?_⟩⟩
      cases qc : c s3 with
      | st => rw [qc] at hs; cases hs
      | err er s4 => rw [qc] at hs; cases hs
      | ok b s4 =>
        rw [qc] at hs
        simp only [O.bind_ok] at hs
        intro F4 A4 H4 e4 g4 R4
        cases b with
        | false =>
          simp only [Bool.false_eq_true, if_false] at hs
          show if false = true then _ else _
          rw [if_neg Bool.false_ne_true]
          obtain ⟨R5, k1, k2, k3, k4⟩ := R4.unpin N.ne ef ea
          have RW := R5.wipe vs
          rw [hw'] at RW
          refine ⟨F4, A4, _, ac, e.trans (e2.trans e4), g.trans g4, RW, ⟨⟨va, k1, RepL.mono (e2.trans e4) g4 _ _ rva⟩, k2, N.ne, k3, fun i hi z => ?_⟩, hs⟩
          obtain ⟨o1, o2⟩ := own_wipe hi
          rw [← hw', wipe_at, if_neg o1] at z
          exact k4 i o2 z
        | true =>
          simp only [if_true] at hs
          show if true = true then _ else _
          rw [if_pos rfl]
          refine ⟨_, F4, A4, s4, R4, ?_⟩
          cases qe : el s4 with
          | st => rw [qe] at hs; cases hs
          | err er s5 => rw [qe] at hs; cases hs
          | ok y s5 =>
            rw [qe] at hs
            simp only [O.bind_ok] at hs
            intro F5 A5 H5 e5 g5 R5 v hv
            cases qq : (sto y && decide (ac.length < LIM)) with
            | false => rw [qq] at hs; cases hs
            | true =>
              rw [qq] at hs
              simp only [if_true] at hs
              simp only [Bool.and_eq_true, decide_eq_true_eq] at qq
              obtain ⟨R6, k1, k2, k3, k4⟩ := R5.unpin N.ne ef ea
              have RW := (R6.write (o := .lst (va ++ [v])) k2 N.ne k3 k4).wipe vs
              rw [hw'] at RW
              have hr : RepL G F5 A5 ac va := RepL.mono (e2.trans (e4.trans e5)) (g4.trans g5) _ _ rva
              refine ⟨va, k1, ?_, F5, A5, _, ac ++ [y], e.trans (e2.trans (e4.trans e5)), g.trans (g4.trans g5), RW, ⟨⟨va ++ [v], upd_same, RepL.append hr ?_⟩, k2, N.ne, k3, fun i hi z => ?_⟩, hs⟩
              · rw [RepL.length hr]
                exact Nat.lt_of_lt_of_le qq.2 (by decide)
              · simp only [RepL]
                exact ⟨v, [], rfl, hv.rep qq.1, rfl⟩
              · obtain ⟨o1, o2⟩ := own_wipe hi
                rw [← hw', wipe_at, if_neg o1] at z
                exact k4 i o2 z
theorem f_lc {it : M (List D)} {tg : D → M Unit} {c : M Bool} {el : M D} {vs : List Nat} {tt : TT} (htt : ∀ σ H Q, TTof G W0 c σ H Q → tt σ H Q) (k : PE X t (tLc (TIof G W it) (TGof G vs tg) tt (TEof G W0 el) vs)) : PE X t (TFof G W (lcF it tg c el vs)) := by
  refine PEimp k fun σ H Q ⟨E, F, A, s, R, P⟩ => ⟨E, F, A, s, R, PO.bind P fun ds s1 F1 A1 H1 e1 g1 R1 P1 J hJ Dd hD => ?_⟩
  cases hn : vs.any (fun v => isOwn (s1.rhz.getD v .un)) with
  | true => simp only [hn, if_true] at P1; exact P1.elim
  | false =>
    simp only [hn, Bool.false_eq_true, if_false] at P1
    cases hl : lcL tg c el vs ds [] { s1 with rhz := wipeR s1.rhz vs } with
    | st => simp only [hl] at P1; exact P1.elim
    | err er s2 => simp only [hl] at P1; exact P1.elim
    | ok acc s2 =>
      simp only [hl] at P1
      exact lc_post htt hJ R1 hn hl P1 Dd hD
theorem s_setLc {it : M (List D)} {tg : D → M Unit} {c : M Bool} {el : M D} {vs : List Nat} {tt : TT} {i : Nat} (htt : ∀ σ H Q, TTof G W0 c σ H Q → tt σ H Q) (k : PS X st (tAsg (tLc (TIof G W it) (TGof G vs tg) tt (TEof G W0 el) vs) (gName i))) :
    PS X st (TSof G W (setS i (frzS (lcF it tg c el vs)))) := by
  refine PSimp k fun D σ H ⟨E, F, A, s, R, P⟩ => ?_
  have P2 : PostS G E W D F A ((lcF it tg c el vs s).bind fun m s1 => .ok .nx { s1 with rhz := s1.rhz.set i (.d (frzD m)) }) := by
    refine cast (congrArg _ ?_) P
    unfold setS frzS
    cases lcF it tg c el vs s with
    | ok m s1 => cases m <;> rfl
    | err _ _ => rfl
    | st => rfl
  refine ⟨E, F, A, s, R, PostS.bind (D := D) (g := fun ds s1 => O.bind (if vs.any (fun v => isOwn (s1.rhz.getD v .un)) then .st else match lcL tg c el vs ds [] { s1 with rhz := wipeR s1.rhz vs } with
    | .ok acc s2 => .ok (.ml acc) { s2 with rhz := backR s1.rhz s2.rhz vs }
    | _ => .st) fun m s1 => .ok .nx { s1 with rhz := s1.rhz.set i (.d (frzD m)) }) ?_ fun ds s1 F1 A1 H1 e1 g1 R1 P1 J hJ Dd hD => ?_⟩
  · refine cast (congrArg _ ?_) P2
    unfold lcF
    cases it s <;> rfl
  · cases hn : vs.any (fun v => isOwn (s1.rhz.getD v .un)) with
    | true => simp only [hn, if_true] at P1; exact P1.elim
    | false =>
      simp only [hn, Bool.false_eq_true, if_false] at P1
      cases hl : lcL tg c el vs ds [] { s1 with rhz := wipeR s1.rhz vs } with
      | st => simp only [hl] at P1; exact P1.elim
      | err er s2 => simp only [hl] at P1; exact P1.elim
      | ok acc s2 =>
        simp only [hl] at P1
        have P3 : PO G E W σ (okF G E σ fun x H1 => gName i x σ H1 D.nx) F1 A1 (.ok (.ml acc) { s2 with rhz := backR s1.rhz s2.rhz vs }) := PostS.bind P1 fun m s3 F3 A3 H3 e3 g3 R3 P4 p N => by
          obtain ⟨F4, e4, R4, r4⟩ := R3.freeze N
          exact P4 _ F4 A3 H3 e4 (ALe.refl _) (R4.setD r4)
        exact lc_post htt hJ R1 hn hl P3 Dd hD
theorem s_ownLc {it : M (List D)} {tg : D → M Unit} {c : M Bool} {el : M D} {vs : List Nat} {tt : TT} {i : Nat} (htt : ∀ σ H Q, TTof G W0 c σ H Q → tt σ H Q) (k : PS X st (tAsg (tLc (TIof G W it) (TGof G vs tg) tt (TEof G W0 el) vs) (gName i))) :
    PS X st (TSof G W (ownS i (lcF it tg c el vs))) := by
  refine PSimp k fun D σ H ⟨E, F, A, s, R, P⟩ => ?_
  refine ⟨E, F, A, s, R, PostS.bind (D := D) (g := fun ds s1 => O.bind (if vs.any (fun v => isOwn (s1.rhz.getD v .un)) then .st else match lcL tg c el vs ds [] { s1 with rhz := wipeR s1.rhz vs } with
    | .ok acc s2 => .ok (.ml acc) { s2 with rhz := backR s1.rhz s2.rhz vs }
    | _ => .st) fun m s1 => .ok .nx { s1 with rhz := s1.rhz.set i (.own m) }) ?_ fun ds s1 F1 A1 H1 e1 g1 R1 P1 J hJ Dd hD => ?_⟩
  · refine cast (congrArg _ ?_) P
    unfold ownS lcF
    cases it s <;> rfl
  · cases hn : vs.any (fun v => isOwn (s1.rhz.getD v .un)) with
    | true => simp only [hn, if_true] at P1; exact P1.elim
    | false =>
      simp only [hn, Bool.false_eq_true, if_false] at P1
      cases hl : lcL tg c el vs ds [] { s1 with rhz := wipeR s1.rhz vs } with
      | st => simp only [hl] at P1; exact P1.elim
      | err er s2 => simp only [hl] at P1; exact P1.elim
      | ok acc s2 =>
        simp only [hl] at P1
        have P3 : PO G E W σ (okF G E σ fun x H1 => gName i x σ H1 D.nx) F1 A1 (.ok (.ml acc) { s2 with rhz := backR s1.rhz s2.rhz vs }) := PostS.bind P1 fun m s3 F3 A3 H3 e3 g3 R3 P4 p N => P4 _ F3 A3 H3 (FLe.refl _) (ALe.refl _) (R3.setN N)
        exact lc_post htt hJ R1 hn hl P3 Dd hD
theorem yes_tt (σ : L2.St) (H : Hp) (Q : Bool → Hp → Prop) (h : TTof G W0 yesS σ H Q) : tYes σ H Q := by
  obtain ⟨E, F, A, s, R, P⟩ := h
  exact P.ok_here R

def Fin (G : Cfg) (F : Hp) (A : Adr) (H : Hp) (muz : List MO) (F' : Hp) (A' : Adr) (H' : Hp) (muz' : List MO) : Prop := ∃ σ rhz, Rel G ⟨H, F, A, muz.length⟩ F' A' σ H' ⟨rhz, muz'⟩
def spOf (G : Cfg) (call : List D → List MO → R) : Sp := fun vs H Q E => ∃ F A ds muz, Sub F H ∧ Cells G F A H muz ∧ RepL G F A ds vs ∧ (match call ds muz with
  | .ok d muz' => ∀ v F' A' H', Fin G F A H muz F' A' H' muz' → Rep G F' A' d v → Q v H'
  | .err e muz' => ∀ F' A' H' dd, Fin G F A H muz F' A' H' muz' → E (.ref (G.CA e.c)) dd H'
  | .st => False)
theorem Rel.call {E : Ent} {F F' : Hp} {A A' : Adr} {σ : L2.St} {H H' : Hp} {s : S} {muz' : List MO} (R : Rel G E F A σ H s) (h : Fin G F A H s.muz F' A' H' muz') : FLe F F' ∧ ALe A A' ∧ Rel G E F' A' σ H' { s with muz := muz' } := by
  obtain ⟨σ', rhz', R'⟩ := h
  have fl : FLe F F' := R'.fle
  have al : ALe A A' := R'.ale
  refine ⟨fl, al, R'.sub, R.len, fun i x v h1 h2 => (R.slot i x v h1 h2).mono fl al fun a m h3 h4 h5 h6 h7 => ?_, R.dist, R'.cells, R.fle.trans fl, R.ale.trans al, Nat.le_trans R.nle R'.nle, fun a o h1 h2 => ?_, fun a o h1 => ?_, fun n a h1 => ?_⟩
  · have k := R.slot i x v h1 h2
    rw [h4] at k
    obtain ⟨b, k1, k2, k3, k4, k5⟩ := k
    rw [h3] at k1
    cases k1
    obtain ⟨u, hu⟩ := k2.some
    refine ⟨?_, fun n z => ?_, fun o ho => R'.keep a o ho h7⟩
    · cases q : F' a with
      | none => rfl
      | some u2 =>
        rcases R'.fz a u2 q with k | k
        · change F a = some u2 at k
          rw [h5] at k
          cases k
        · change H a = none at k
          rw [hu] at k
          cases k
    · rcases R'.hz n a z with k | k
      · exact h7 n k
      · change H a = none at k
        rw [hu] at k
        cases k
  · have k := R.keep a o h1 h2
    refine R'.keep a o k fun n z => ?_
    rcases R.hz n a z with q | q
    · exact h2 n q
    · rw [h1] at q
      cases q
  · rcases R'.fz a o h1 with k | k
    · exact R.fz a o k
    · refine .inr ?_
      change H a = none at k
      exact R.fresh0 k
  · rcases R'.hz n a h1 with k | k
    · exact R.hz n a k
    · refine .inr ?_
      change H a = none at k
      exact R.fresh0 k
theorem x_call {call : List D → List MO → R} {ga : M (List D)} (k : PE X t (tCallS (spOf G call) (WE W) (TAof G W ga))) : PE X t (TEof G W (callF call ga)) := by
  refine PEimp k fun σ H Q ⟨E, F, A, s, R, P⟩ => ⟨E, F, A, s, R, PO.bind P fun ds s1 F1 A1 H1 e1 g1 R1 P1 vs hv => ?_⟩
  cases q : ds.all sto with
  | false => rw [q] at P1; exact P1.elim
  | true =>
    rw [q] at P1
    simp only [if_true] at P1
    refine ⟨F1, A1, ds, s1.muz, R1.sub, R1.cells, reps_of hv q, ?_⟩
    cases qc : call ds s1.muz with
    | st => rw [qc] at P1; exact P1.elim
    | ok d muz' =>
      rw [qc] at P1
      intro v F' A' H' hf hr
      obtain ⟨fl, al, R2⟩ := R1.call hf
      exact P1 F' A' H' fl al R2 v (.of hr)
    | err er muz' =>
      rw [qc] at P1
      intro F' A' H' dd hf
      obtain ⟨fl, al, R2⟩ := R1.call hf
      exact P1 F' A' H' dd fl al R2
end
structure FnI (P : Program) (w : World) (G : Cfg) (mg : Str → Option Value) (base : Heap) (k : Nat) (x : Str) (call : List D → List MO → R) : Prop where
  ex : ∃ (f : Addr) (fd : FuncData) (ps : List Str), mg x = some (.ref f) ∧ PySem.W.keepIn G.K (.ref f) = true ∧ L2.Binds G.K fd ps [] ∧ FnOk P w G.K mg base (L2.CX P w) k f fd ps (spOf G call)
section
variable {P : Program} {w : World} {G : Cfg} {mg : Str → Option Value} {base : Heap} {k : Nat}
theorem Rel.start {F : Hp} {A : Adr} {H : Hp} {ds : List D} {vs : List V} {muz : List MO} {N : List Str} {n a : Nat} (h1 : Sub F H) (h2 : Cells G F A H muz) (h3 : RepL G F A ds vs) (hn : N.length = n) (ha : ds.length = a) (hna : a ≤ n) :
    Rel G ⟨H, F, A, muz.length⟩ F A (L2.start N vs) H ⟨ds.map SV.d ++ List.replicate (n - a) SV.un, muz⟩ := by
  have hl := RepL.length h3
  have at_ : ∀ j, j < ds.length → (ds.map SV.d ++ List.replicate (n - a) SV.un)[j]? = (ds[j]?).map SV.d := fun j hj => by
    rw [List.getElem?_append_left (by simpa using hj), List.getElem?_map]
  have noown : ∀ j, isOwn ((ds.map SV.d ++ List.replicate (n - a) SV.un).getD j .un) = false := fun j => by
    rw [List.getD_eq_getElem?_getD]
    by_cases hj : j < ds.length
    · rw [at_ j hj, List.getElem?_eq_getElem hj]
      rfl
    · rw [List.getElem?_append_right (by simp; omega), List.getElem?_replicate]
      split <;> rfl
  refine ⟨h1, ?_, fun j x v q1 q2 => ?_, fun i j a _ _ o1 _ _ _ => ?_, h2, FLe.refl _, ALe.refl _, Nat.le_refl _, fun _ _ h _ => h, fun _ _ h => .inl h, fun _ _ h => .inl h⟩
  · unfold L2.start
    simp [hl, hn, ha]
  · by_cases hj : j < ds.length
    · rw [at_ j hj, List.getElem?_eq_getElem hj] at q1
      cases q1
      obtain ⟨u, hu, ru⟩ := RepL.get h3 (List.getElem?_eq_getElem hj)
      unfold L2.start at q2
      rw [List.getElem?_append_left (by simp [hl]; exact hj), List.getElem?_map, hu] at q2
      cases q2
      exact ⟨u, rfl, ru⟩
    · rw [List.getElem?_append_right (by simp; omega), List.getElem?_replicate] at q1
      split at q1
      · cases q1
        trivial
      · cases q1
  · rw [noown i] at o1
    cases o1
theorem len_of {call : List D → List MO → R} {a : Nat} (hc : ∀ ds muz, ds.length ≠ a → call ds muz = .st) (vs : List V) (H : Hp) (Q : VK) (E : XK) (h : spOf G call vs H Q E) : vs.length = a := by
  obtain ⟨F, A, ds, muz, _, _, h3, h4⟩ := h
  rw [RepL.length h3]
  by_cases q : ds.length = a
  · exact q
  · rw [hc ds muz q] at h4
    exact h4.elim
theorem runD_len {n a : Nat} {body : M Fl} : ∀ ds muz, ds.length ≠ a → runD n a body ds muz = .st := fun ds muz h => by
  unfold runD
  rw [if_neg h]
theorem body_ok {N : List Str} {n a : Nat} {bf : M Fl} {vs : List V} {H : Hp} {Q : VK} {E : XK} (hN : N.length = n) (hna : a ≤ n) (h : spOf G (runD n a bf) vs H Q E) : TSof G (fun cls d _ H => E cls d H) bf { nx := fun _ H' => Q .non H', rt := Q } (L2.start N vs) H := by
  obtain ⟨F, A, ds, muz, h1, h2, h3, h4⟩ := h
  unfold runD at h4
  by_cases q : ds.length = a
  · rw [if_pos q] at h4
    refine ⟨_, F, A, _, Rel.start h1 h2 h3 hN q hna, ?_⟩
    cases qb : bf ⟨ds.map .d ++ List.replicate (n - a) .un, muz⟩ with
    | st => rw [qb] at h4; exact h4
    | err er s => rw [qb] at h4; exact fun σ F' A' H' dd _ _ R => h4 F' A' H' dd ⟨σ, s.rhz, R⟩
    | ok fl s =>
      rw [qb] at h4
      cases fl with
      | nx => exact fun σ F' A' H' _ _ R => h4 .non F' A' H' ⟨σ, s.rhz, R⟩ (by simp [Rep])
      | rt d => exact fun v σ F' A' H' _ _ R r => h4 v F' A' H' ⟨σ, s.rhz, R⟩ r
      | bk => exact h4.elim
      | ct => exact h4.elim
  · rw [if_neg q] at h4
    exact h4.elim
end
end AG

set_option Elab.async false
set_option linter.all false
set_option maxRecDepth 100000
namespace AG
open PySem L2 PyProof.Rows

def vw (s : S) : D → D
  | .loc i => (match s.rhz[i]? with
    | some (.own m) => frzD m
    | _ => .loc i)
  | .hnd n => (match s.muz[n]? with
    | some m => frzD m
    | _ => .hnd n)
  | d => d
mutual
def pyOf : D → Option PyData
  | .non => some .none
  | .bl b => some (.bool b)
  | .int i => some (.int i)
  | .str x => some (.str x)
  | .tup l => (pyL l).map .tuple
  | .lst l => (pyL l).map .list
  | _ => none
def pyL : List D → Option (List PyData)
  | [] => some []
  | d :: ds => match pyOf d, pyL ds with
    | some e, some es => some (e :: es)
    | _, _ => none
end
section
variable {G : Cfg} {E : Ent} {F : Hp} {A : Adr} {σ : L2.St} {H : Hp} {s : S}
theorem hs_tup (hs : Sub F H) {a : Addr} {vs : List V} (h : F a = some (.tup vs)) : H a = some (.tup vs) := by
  rcases hs _ _ h with k | ⟨k, _⟩
  · exact k
  · exact k.elim
theorem hs_lst (hs : Sub F H) {a : Addr} {vs : List V} (h : F a = some (.lst vs)) : H a = some (.lst vs) := by
  rcases hs _ _ h with k | ⟨k, _⟩
  · exact k
  · exact k.elim
mutual
theorem dp_rep (hs : Sub F H) : ∀ (d : D) (v : V) (e : PyData), Rep G F A d v → pyOf d = some e → Dp G.K H v e
  | .non, v, e, h, q => by
    simp only [pyOf, Option.some.injEq] at q
    simp only [Rep] at h
    subst q h
    exact .non
  | .bl b, v, e, h, q => by
    simp only [pyOf, Option.some.injEq] at q
    simp only [Rep] at h
    subst q h
    exact .bl b
  | .int b, v, e, h, q => by
    simp only [pyOf, Option.some.injEq] at q
    simp only [Rep] at h
    subst q h
    exact .int b
  | .str b, v, e, h, q => by
    simp only [pyOf, Option.some.injEq] at q
    simp only [Rep] at h
    subst q h
    exact .str b
  | .tup l, v, e, h, q => by
    simp only [pyOf, Option.map_eq_some_iff] at q
    obtain ⟨es, q1, q2⟩ := q
    simp only [Rep] at h
    obtain ⟨a, vs, h1, h2, h3⟩ := h
    subst q2 h1
    exact .tup (.of (hs_tup hs h2)) (dp_repL hs l vs es h3 q1)
  | .lst l, v, e, h, q => by
    simp only [pyOf, Option.map_eq_some_iff] at q
    obtain ⟨es, q1, q2⟩ := q
    simp only [Rep] at h
    obtain ⟨a, vs, h1, h2, h3⟩ := h
    subst q2 h1
    exact .lst (.of (hs_lst hs h2)) (dp_repL hs l vs es h3 q1)
  | .dct t l, v, e, h, q => by simp [pyOf] at q
  | .set l, v, e, h, q => by simp [pyOf] at q
  | .ins c l, v, e, h, q => by simp [pyOf] at q
  | .hnd l, v, e, h, q => by simp [pyOf] at q
  | .loc l, v, e, h, q => by simp [pyOf] at q
  | .cls l, v, e, h, q => by simp [pyOf] at q
  | .scr l, v, e, h, q => by simp [pyOf] at q
theorem dp_repL (hs : Sub F H) : ∀ (l : List D) (vs : List V) (es : List PyData), RepL G F A l vs → pyL l = some es → DpAll G.K H vs es
  | [], vs, es, h, q => by
    simp only [pyL, Option.some.injEq] at q
    simp only [RepL] at h
    subst q h
    exact .nil
  | d :: ds, vs, es, h, q => by
    simp only [RepL] at h
    obtain ⟨v, r, h1, h2, h3⟩ := h
    simp only [pyL] at q
    cases q1 : pyOf d with
    | none => rw [q1] at q; cases q
    | some e =>
      rw [q1] at q
      cases q2 : pyL ds with
      | none => rw [q2] at q; cases q
      | some es' =>
        rw [q2] at q
        cases q
        subst h1
        exact .cons (dp_rep hs d v e h2 q1) (dp_repL hs ds r es' h3 q2)
end
theorem vw_loc (R : Rel G E F A σ H s) {i : Nat} {v : V} {m : MO} (h : VOk G σ F A (.loc i) v) (q : s.rhz[i]? = some (.own m)) : ∃ a, v = .ref a ∧ MoOk G F A H a m := by
  obtain ⟨p, h1, h2, _⟩ := R.own q
  have h : σ[i]? = some (some v) := h
  rw [h1] at h
  cases h
  exact ⟨p, rfl, h2⟩
theorem vw_hnd (R : Rel G E F A σ H s) {n : Nat} {v : V} {m : MO} (h : VOk G σ F A (.hnd n) v) (q : s.muz[n]? = some m) : ∃ a, v = .ref a ∧ MoOk G F A H a m := by
  have h : Rep G F A (.hnd n) v := h
  simp only [Rep] at h
  obtain ⟨a, h1, rfl⟩ := h
  obtain ⟨b, h2, h3, _⟩ := R.cells.at_ n m q
  rw [h1] at h2
  cases h2
  exact ⟨a, rfl, h3⟩
theorem dp_view (R : Rel G E F A σ H s) {d : D} {v : V} {e : PyData} (h : VOk G σ F A d v) (q : pyOf (vw s d) = some e) : Dp G.K H v e := by
  have mo : ∀ (a : Addr) (m : MO), MoOk G F A H a m → pyOf (frzD m) = some e → Dp G.K H (.ref a) e := fun a m hm q => by
    cases m with
    | ml l =>
      obtain ⟨vs, h1, h2⟩ := hm
      simp only [frzD, pyOf, Option.map_eq_some_iff] at q
      obtain ⟨es, q1, q2⟩ := q
      subst q2
      exact .lst (.of h1) (dp_repL R.sub l vs es h2 q1)
    | md t l => simp [frzD, pyOf] at q
    | mi c fs => simp [frzD, pyOf] at q
  cases d with
  | loc i =>
    simp only [vw] at q
    cases qi : s.rhz[i]? with
    | none => rw [qi] at q; simp [pyOf] at q
    | some x =>
      rw [qi] at q
      cases x with
      | own m =>
        obtain ⟨a, rfl, hm⟩ := vw_loc R h qi
        exact mo a m hm q
      | _ => simp [pyOf] at q
  | hnd n =>
    simp only [vw] at q
    cases qi : s.muz[n]? with
    | none => rw [qi] at q; simp [pyOf] at q
    | some m =>
      rw [qi] at q
      obtain ⟨a, rfl, hm⟩ := vw_hnd R h qi
      exact mo a m hm q
  | _ => exact dp_rep R.sub _ _ _ (h.rep rfl) q
theorem lst_view (R : Rel G E F A σ H s) {d : D} {v : V} {l : List D} (h : VOk G σ F A d v) (q : vw s d = .lst l) : ∃ a vs, v = .ref a ∧ H a = some (.lst vs) ∧ RepL G F A l vs := by
  have mo : ∀ (a : Addr) (m : MO), MoOk G F A H a m → frzD m = .lst l → ∃ vs, H a = some (.lst vs) ∧ RepL G F A l vs := fun a m hm q => by
    cases m with
    | ml l' =>
      simp only [frzD, D.lst.injEq] at q
      subst q
      exact hm
    | md t l => cases q
    | mi c fs => cases q
  cases d with
  | loc i =>
    simp only [vw] at q
    cases qi : s.rhz[i]? with
    | none => rw [qi] at q; cases q
    | some x =>
      rw [qi] at q
      cases x with
      | own m =>
        obtain ⟨a, rfl, hm⟩ := vw_loc R h qi
        obtain ⟨vs, h1, h2⟩ := mo a m hm q
        exact ⟨a, vs, rfl, h1, h2⟩
      | _ => cases q
  | hnd n =>
    simp only [vw] at q
    cases qi : s.muz[n]? with
    | none => rw [qi] at q; cases q
    | some m =>
      rw [qi] at q
      obtain ⟨a, rfl, hm⟩ := vw_hnd R h qi
      obtain ⟨vs, h1, h2⟩ := mo a m hm q
      exact ⟨a, vs, rfl, h1, h2⟩
  | lst l' =>
    simp only [vw, D.lst.injEq] at q
    subst q
    have h : Rep G F A (.lst l') v := h
    simp only [Rep] at h
    obtain ⟨a, vs, h1, h2, h3⟩ := h
    exact ⟨a, vs, h1, hs_lst R.sub h2, h3⟩
  | _ => cases q
theorem frz_tup {m : MO} {l : List D} : frzD m ≠ .tup l := by cases m <;> simp [frzD]
theorem tup_view (R : Rel G E F A σ H s) {d : D} {v : V} {l : List D} (h : VOk G σ F A d v) (q : vw s d = .tup l) : ∃ a vs, v = .ref a ∧ F a = some (.tup vs) ∧ H a = some (.tup vs) ∧ RepL G F A l vs := by
  cases d with
  | loc i =>
    simp only [vw] at q
    cases qi : s.rhz[i]? with
    | none => rw [qi] at q; cases q
    | some x => rw [qi] at q; cases x with
      | own m => exact absurd q frz_tup
      | _ => cases q
  | hnd n =>
    simp only [vw] at q
    cases qi : s.muz[n]? with
    | none => rw [qi] at q; cases q
    | some m => rw [qi] at q; exact absurd q frz_tup
  | tup l' =>
    simp only [vw, D.tup.injEq] at q
    subst q
    have h : Rep G F A (.tup l') v := h
    simp only [Rep] at h
    obtain ⟨a, vs, h1, h2, h3⟩ := h
    exact ⟨a, vs, h1, h2, hs_tup R.sub h2, h3⟩
  | _ => cases q
end

def addD (s : S) (x y : D) : Option D := match vw s x, vw s y with
  | .int a, .int b => some (.int (a + b))
  | .str a, .str b => if a.length + b.length ≤ LIM then some (.str (a ++ b)) else none
  | .tup a, .tup b => if a.length + b.length ≤ LIM then some (.tup (a ++ b)) else none
  | .lst a, .lst b => if a.length + b.length ≤ LIM then some (.lst (a ++ b)) else none
  | _, _ => none
def subD (_ : S) (x y : D) : Option D := match x, y with
  | .int a, .int b => some (.int (a - b))
  | _, _ => none
def mulD (s : S) (x y : D) : Option D := match vw s x, y with
  | .int a, .int b => if a.natAbs.log2 + b.natAbs.log2 < 1000000 then some (.int (a * b)) else none
  | .lst a, .int k => if -(2 ^ 63) ≤ k ∧ k < 2 ^ 63 ∧ a.length * k.toNat ≤ LIM then some (.lst (List.replicate k.toNat a).flatten) else none
  | _, _ => none
def modD (_ : S) (x y : D) : Option D := match x, y with
  | .int a, .int b => if 0 < b then some (.int (a % b)) else none
  | _, _ => none
def fdivD (_ : S) (x y : D) : Option D := match x, y with
  | .int a, .int b => if 0 < b ∧ b.natAbs.log2 < 9000 then some (.int (a / b)) else none
  | _, _ => none
def powD (_ : S) (x y : D) : Option D := match x, y with
  | .int a, .int b => if 0 ≤ b ∧ (Builtin.Int.intBits a : Int) * b ≤ 2 ^ 27 then some (.int (a ^ b.toNat)) else none
  | _, _ => none
def cmpI (p : Int → Int → Bool) (_ : S) (x y : D) : Option D := match x, y with
  | .int a, .int b => some (.bl (p a b))
  | _, _ => none
def ltD (s : S) (x y : D) : Option D := match x, y with
  | .int a, .int b => some (.bl (decide (a < b)))
  | .str a, .str b => some (.bl (decide (a.cps.toList < b.cps.toList)))
  | _, _ => none
def gtD (s : S) (x y : D) : Option D := match x, y with
  | .int a, .int b => some (.bl (decide (b < a)))
  | .str a, .str b => some (.bl (decide (b.cps.toList < a.cps.toList)))
  | _, _ => none
def eqB (s : S) (x y : D) : Option Bool := match vw s x, vw s y with
  | .str a, .str b => some (decide (a = b))
  | .int a, .int b => some (decide (a = b))
  | .bl a, .bl b => some (decide (a = b))
  | dx, dy => match pyOf dx, pyOf dy with
    | some a, some b => if SeqAt.shaped a && SeqAt.shaped b then some (PyData.eqv a b) else none
    | _, _ => none
def eqD (s : S) (x y : D) : Option D := (eqB s x y).map .bl
def neD (s : S) (x y : D) : Option D := (eqB s x y).map fun b => .bl (!b)
def isNonD (_ : S) (x y : D) : Option D := match y with
  | .non => (match x with
    | .non => some (.bl true)
    | .loc _ => none
    | _ => some (.bl false))
  | _ => none
def isNotNonD (_ : S) (x y : D) : Option D := match y with
  | .non => (match x with
    | .non => some (.bl false)
    | .loc _ => none
    | _ => some (.bl true))
  | _ => none
def inB (s : S) (x y : D) : Option Bool := match vw s y with
  | .lst l => (match pyOf (vw s x), pyL l with
    | some a, some es => if SeqAt.shaped a && SeqAt.shaped (.list es) then some (es.any fun z => PyData.eqv z a) else none
    | _, _ => none)
  | .tup l => (match pyOf (vw s x), pyL l with
    | some a, some es => if SeqAt.shaped a && SeqAt.shaped (.tuple es) then some (es.any fun z => PyData.eqv z a) else none
    | _, _ => none)
  | .str b => (match x with
    | .str a => some (!(Builtin.Str.occurrences b a 0 b.length 1).isEmpty)
    | _ => none)
  | _ => none
def inD (s : S) (x y : D) : Option D := (inB s x y).map .bl
def notInD (s : S) (x y : D) : Option D := (inB s x y).map fun b => .bl (!b)
def ixD (s : S) (x y : D) : Option D := match vw s x, y with
  | .lst l, .int i => atI l i
  | .tup l, .int i => atI l i
  | .str z, .int i => if z.length ≤ LIM then (atI z.cps.toList i).map fun c => .str ⟨#[c]⟩ else none
  | _, _ => none

section
variable {G : Cfg} {X : Cx}
def rAddD (K : PySem.W.Frag) : R2 := fun x y H Q => (((∃ i j, x = .int i ∧ y = .int j ∧ Q (.int (i + j)) H) ∨ (∃ i j, x = .str i ∧ y = .str j ∧ i.length + j.length ≤ sizeLine ∧ Q (.str (i ++ j)) H)) ∨ rCatA K x y H Q) ∨ rCat x y H Q
theorem or_add : OpR X (binaryOp .Add) (rAddD X.K) := OpR.or (OpR.or (OpR.or op_add op_add_str) op_catA) op_cat
theorem VOk.int' {σ : L2.St} {F : Hp} {A : Adr} {b : Int} {d : D} {v : V} {s : S} (h : VOk G σ F A d v) (q : vw s d = .int b) : v = .int b := by
  cases d with
  | int i => cases q; exact VOk.int h
  | loc i =>
    simp only [vw] at q
    split at q
    · rename_i m _; cases m <;> cases q
    · cases q
  | hnd i =>
    simp only [vw] at q
    split at q
    · rename_i m _; cases m <;> cases q
    · cases q
  | _ => cases q
theorem VOk.str' {σ : L2.St} {F : Hp} {A : Adr} {b : Str} {d : D} {v : V} {s : S} (h : VOk G σ F A d v) (q : vw s d = .str b) : v = .str b := by
  cases d with
  | str i => cases q; exact VOk.str h
  | loc i =>
    simp only [vw] at q
    split at q
    · rename_i m _; cases m <;> cases q
    · cases q
  | hnd i =>
    simp only [vw] at q
    split at q
    · rename_i m _; cases m <;> cases q
    · cases q
  | _ => cases q
theorem VOk.bl' {σ : L2.St} {F : Hp} {A : Adr} {b : Bool} {d : D} {v : V} {s : S} (h : VOk G σ F A d v) (q : vw s d = .bl b) : v = .bl b := by
  cases d with
  | bl i => cases q; exact VOk.bl h
  | loc i =>
    simp only [vw] at q
    split at q
    · rename_i m _; cases m <;> cases q
    · cases q
  | hnd i =>
    simp only [vw] at q
    split at q
    · rename_i m _; cases m <;> cases q
    · cases q
  | _ => cases q
theorem od_add (hK : X.K = G.K) : OpD G (rAddD X.K) addD := by
  intro E F A σ H s x y dx dy d Q R hx hy q k
  unfold addD at q
  split at q
  · rename_i a b q1 q2
    cases q
    exact .inl (.inl (.inl ⟨a, b, hx.int' q1, hy.int' q2, k _ F A H (FLe.refl _) (ALe.refl _) R vok_int⟩))
  · rename_i a b q1 q2
    split at q
    · rename_i hl
      cases q
      exact .inl (.inl (.inr ⟨a, b, hx.str' q1, hy.str' q2, lim_line hl, k _ F A H (FLe.refl _) (ALe.refl _) R vok_str⟩))
    · cases q
  · rename_i a b q1 q2
    split at q
    · rename_i hl
      cases q
      obtain ⟨p, vs, rfl, f1, h1, r1⟩ := tup_view R hx q1
      obtain ⟨p2, vs2, rfl, f2, h2, r2⟩ := tup_view R hy q2
      have l1 := RepL.length r1
      have l2 := RepL.length r2
      refine .inl (.inr ⟨p, p2, vs, vs2, rfl, rfl, .of h1, .of h2, by rw [l1, l2]; exact lim_line hl, fun e => ?_, fun e1 e2 => ?_, fun e1 e2 t ht => ?_⟩)
      · subst e
        have ea : a = [] := List.eq_nil_of_length_eq_zero (by simpa using l1.symm)
        subst ea
        refine k _ F A H (FLe.refl _) (ALe.refl _) R ?_
        show Rep G F A (.tup ([] ++ b)) _
        simp only [List.nil_append, Rep]
        exact ⟨p2, vs2, rfl, f2, r2⟩
      · subst e2
        have eb : b = [] := List.eq_nil_of_length_eq_zero (by simpa using l2.symm)
        subst eb
        refine k _ F A H (FLe.refl _) (ALe.refl _) R ?_
        show Rep G F A (.tup (a ++ [])) _
        simp only [List.append_nil, Rep]
        exact ⟨p, vs, rfl, f1, r1⟩
      · have fl := fle_upd (o := .tup (vs ++ vs2)) (R.sub.none ht)
        refine k _ _ A _ fl (ALe.refl _) (R.newFz ht) ?_
        show Rep G _ A (.tup (a ++ b)) _
        simp only [Rep]
        exact ⟨t, _, rfl, upd_same, RepL.mono fl (ALe.refl _) _ _ (RepL.append r1 r2)⟩
    · cases q
  · rename_i a b q1 q2
    split at q
    · rename_i hl
      cases q
      obtain ⟨p, vs, rfl, h1, r1⟩ := lst_view R hx q1
      obtain ⟨p2, vs2, rfl, h2, r2⟩ := lst_view R hy q2
      refine .inr ⟨p, p2, vs, vs2, rfl, rfl, h1, h2, by rw [RepL.length r1, RepL.length r2]; exact lim_line hl, fun t ht => ?_⟩
      have fl := fle_upd (o := .lst (vs ++ vs2)) (R.sub.none ht)
      refine k _ _ A _ fl (ALe.refl _) (R.newFz ht) ?_
      show Rep G _ A (.lst (a ++ b)) _
      simp only [Rep]
      exact ⟨t, _, rfl, upd_same, RepL.mono fl (ALe.refl _) _ _ (RepL.append r1 r2)⟩
    · cases q
  · cases q
theorem or_sub : OpR X (binaryOp .Sub) (rI0 fun i j => .int (i - j)) := op_sub
theorem od_sub : OpD G (rI0 fun i j => .int (i - j)) subD := by
  intro E F A σ H s x y dx dy d Q R hx hy q k
  unfold subD at q
  split at q
  · cases q
    exact ⟨_, _, hx.int, hy.int, k _ F A H (FLe.refl _) (ALe.refl _) R vok_int⟩
  · cases q
def rMulD : R2 := fun x y H Q => rI CMulW (fun i j => .int (i * j)) x y H Q ∨ rRep x y H Q
theorem or_mul : OpR X (binaryOp .Mult) rMulD := OpR.or op_mulW op_rep
theorem od_mul : OpD G rMulD mulD := by
  intro E F A σ H s x y dx dy d Q R hx hy q k
  unfold mulD at q
  split at q
  · rename_i a b q1
    split at q
    · rename_i hl
      cases q
      exact .inl ⟨_, _, hx.int' q1, hy.int, hl, k _ F A H (FLe.refl _) (ALe.refl _) R vok_int⟩
    · cases q
  · rename_i a b q1
    split at q
    · rename_i hl
      cases q
      obtain ⟨p, vs, rfl, h1, r1⟩ := lst_view R hx q1
      refine .inr ⟨p, b, vs, rfl, hy.int, h1, hl.1, hl.2.1, by rw [RepL.length r1]; exact lim_line hl.2.2, fun t ht => ?_⟩
      have fl := fle_upd (o := .lst (List.replicate b.toNat vs).flatten) (R.sub.none ht)
      refine k _ _ A _ fl (ALe.refl _) (R.newFz ht) ?_
      show Rep G _ A (.lst _) _
      simp only [Rep]
      refine ⟨t, _, rfl, upd_same, RepL.mono fl (ALe.refl _) _ _ ?_⟩
      generalize b.toNat = n
      induction n with
      | zero => simp [RepL]
      | succ n ih =>
        rw [List.replicate_succ, List.replicate_succ, List.flatten_cons, List.flatten_cons]
        exact RepL.append r1 ih
    · cases q
  · cases q
theorem or_mod : OpR X (binaryOp .Mod) (rI (fun _ j => 0 < j) fun i j => .int (i % j)) := op_mod
theorem od_mod : OpD G (rI (fun _ j => 0 < j) fun i j => .int (i % j)) modD := by
  intro E F A σ H s x y dx dy d Q R hx hy q k
  unfold modD at q
  split at q
  · split at q
    · rename_i hl
      cases q
      exact ⟨_, _, hx.int, hy.int, hl, k _ F A H (FLe.refl _) (ALe.refl _) R vok_int⟩
    · cases q
  · cases q
theorem or_fdiv : OpR X (binaryOp .FloorDiv) (rI CDivW fun i j => .int (i / j)) := op_fdivW
theorem od_fdiv : OpD G (rI CDivW fun i j => .int (i / j)) fdivD := by
  intro E F A σ H s x y dx dy d Q R hx hy q k
  unfold fdivD at q
  split at q
  · split at q
    · rename_i hl
      cases q
      exact ⟨_, _, hx.int, hy.int, hl, k _ F A H (FLe.refl _) (ALe.refl _) R vok_int⟩
    · cases q
  · cases q
def CPowW (i j : Int) : Prop := 0 ≤ j ∧ (Builtin.Int.intBits i : Int) * j ≤ 2 ^ 27
theorem or_pow : OpR X (binaryOp .Pow) (rI CPowW fun i j => .int (i ^ j.toNat)) := opI fun _ _ _ _ _ _ _ hc q => pow_int hc.1 hc.2 q
theorem od_pow : OpD G (rI CPowW fun i j => .int (i ^ j.toNat)) powD := by
  intro E F A σ H s x y dx dy d Q R hx hy q k
  unfold powD at q
  split at q
  · split at q
    · rename_i hl
      cases q
      exact ⟨_, _, hx.int, hy.int, hl, k _ F A H (FLe.refl _) (ALe.refl _) R vok_int⟩
    · cases q
  · cases q
def negD (_ : S) : D → Option D
  | .int a => some (.int (-a))
  | _ => none
theorem ud_neg : UnD G (rU fun i => .int (-i)) negD := by
  intro E F A σ H s x dx d Q R hx q k
  unfold negD at q
  split at q
  · cases q
    exact ⟨_, hx.int, k _ F A H (FLe.refl _) (ALe.refl _) R vok_int⟩
  · cases q
theorem od_cmpI (p : Int → Int → Bool) : OpD G (rI0 fun i j => .bl (p i j)) (cmpI p) := by
  intro E F A σ H s x y dx dy d Q R hx hy q k
  unfold cmpI at q
  split at q
  · cases q
    exact ⟨_, _, hx.int, hy.int, k _ F A H (FLe.refl _) (ALe.refl _) R vok_bl⟩
  · cases q
def rLtD : R2 := fun x y H Q => (∃ i j, x = .int i ∧ y = .int j ∧ Q (.bl (decide (i < j))) H) ∨ (∃ i j, x = .str i ∧ y = .str j ∧ Q (.bl (decide (i.cps.toList < j.cps.toList))) H)
theorem or_lt : OpR X (compareOp .Lt) rLtD := OpR.or op_lt op_lt_str
theorem od_lt : OpD G rLtD ltD := by
  intro E F A σ H s x y dx dy d Q R hx hy q k
  unfold ltD at q
  split at q
  · cases q
    exact .inl ⟨_, _, hx.int, hy.int, k _ F A H (FLe.refl _) (ALe.refl _) R vok_bl⟩
  · cases q
    exact .inr ⟨_, _, hx.str, hy.str, k _ F A H (FLe.refl _) (ALe.refl _) R vok_bl⟩
  · cases q
def rGtD : R2 := fun x y H Q => (∃ i j, x = .int i ∧ y = .int j ∧ Q (.bl (decide (j < i))) H) ∨ (∃ i j, x = .str i ∧ y = .str j ∧ Q (.bl (decide (j.cps.toList < i.cps.toList))) H)
theorem or_gt : OpR X (compareOp .Gt) rGtD := OpR.or op_gt op_gt_str
theorem od_gt : OpD G rGtD gtD := by
  intro E F A σ H s x y dx dy d Q R hx hy q k
  unfold gtD at q
  split at q
  · cases q
    exact .inl ⟨_, _, hx.int, hy.int, k _ F A H (FLe.refl _) (ALe.refl _) R vok_bl⟩
  · cases q
    exact .inr ⟨_, _, hx.str, hy.str, k _ F A H (FLe.refl _) (ALe.refl _) R vok_bl⟩
  · cases q
def rEqA (K : PySem.W.Frag) : R2 := fun x y H Q => rEq x y H Q ∨ rEqD K x y H Q
def rNeA (K : PySem.W.Frag) : R2 := fun x y H Q => rNe x y H Q ∨ rNeD K x y H Q
theorem or_eq (hu : X.A.units + 64 < cLine) : OpR X (compareOp .Eq) (rEqA X.K) := OpR.or op_eq (op_eqD hu)
theorem or_ne (hu : X.A.units + 64 < cLine) : OpR X (compareOp .NotEq) (rNeA X.K) := OpR.or op_ne (op_neD hu)
theorem eqB_cases {s : S} {x y : D} {b : Bool} (h : eqB s x y = some b) : (∃ a c, vw s x = .str a ∧ vw s y = .str c ∧ b = decide (a = c)) ∨ (∃ a c, vw s x = .int a ∧ vw s y = .int c ∧ b = decide (a = c)) ∨ (∃ a c, vw s x = .bl a ∧ vw s y = .bl c ∧ b = decide (a = c)) ∨
    ∃ a c, pyOf (vw s x) = some a ∧ pyOf (vw s y) = some c ∧ SeqAt.shaped a = true ∧ SeqAt.shaped c = true ∧ b = PyData.eqv a c := by
  unfold eqB at h
  split at h
  · rename_i a c h1 h2
    cases h
    exact .inl ⟨a, c, h1, h2, rfl⟩
  · rename_i a c h1 h2
    cases h
    exact .inr (.inl ⟨a, c, h1, h2, rfl⟩)
  · rename_i a c h1 h2
    cases h
    exact .inr (.inr (.inl ⟨a, c, h1, h2, rfl⟩))
  · split at h
    · rename_i a c h1 h2
      split at h
      · rename_i h3
        cases h
        simp only [Bool.and_eq_true] at h3
        exact .inr (.inr (.inr ⟨a, c, h1, h2, h3.1, h3.2, rfl⟩))
      · cases h
    · cases h
theorem dec_V {α : Type} [DecidableEq α] {f : α → V} (hf : ∀ a b, f a = f b → a = b) (a b : α) : decide (f a = f b) = decide (a = b) := by
  by_cases h : a = b
  · subst h; simp
  · rw [decide_eq_false h, decide_eq_false (fun e => h (hf a b e))]
theorem od_eq (hK : X.K = G.K) : OpD G (rEqA X.K) eqD := by
  intro E F A σ H s x y dx dy d Q R hx hy q k
  unfold eqD at q
  cases qb : eqB s dx dy with
  | none => rw [qb] at q; cases q
  | some b =>
    rw [qb] at q
    cases q
    have kk := k _ F A H (FLe.refl _) (ALe.refl _) R (vok_bl (b := b))
    rcases eqB_cases qb with ⟨a, c, h1, h2, rfl⟩ | ⟨a, c, h1, h2, rfl⟩ | ⟨a, c, h1, h2, rfl⟩ | ⟨a, c, h1, h2, h3, h4, rfl⟩
    · rw [hx.str' h1, hy.str' h2]
      exact .inl ⟨rfl, by rw [dec_V (f := V.str) (fun _ _ e => by injection e)]; exact kk⟩
    · rw [hx.int' h1, hy.int' h2]
      exact .inl ⟨rfl, by rw [dec_V (f := V.int) (fun _ _ e => by injection e)]; exact kk⟩
    · rw [hx.bl' h1, hy.bl' h2]
      exact .inl ⟨rfl, by rw [dec_V (f := V.bl) (fun _ _ e => by injection e)]; exact kk⟩
    · exact .inr ⟨a, c, by rw [hK]; exact dp_view R hx h1, by rw [hK]; exact dp_view R hy h2, h3, h4, kk⟩
theorem od_ne (hK : X.K = G.K) : OpD G (rNeA X.K) neD := by
  intro E F A σ H s x y dx dy d Q R hx hy q k
  unfold neD at q
  cases qb : eqB s dx dy with
  | none => rw [qb] at q; cases q
  | some b =>
    rw [qb] at q
    cases q
    have kk := k _ F A H (FLe.refl _) (ALe.refl _) R (vok_bl (b := !b))
    rcases eqB_cases qb with ⟨a, c, h1, h2, rfl⟩ | ⟨a, c, h1, h2, rfl⟩ | ⟨a, c, h1, h2, rfl⟩ | ⟨a, c, h1, h2, h3, h4, rfl⟩
    · rw [hx.str' h1, hy.str' h2]
      exact .inl ⟨rfl, by rw [dec_V (f := V.str) (fun _ _ e => by injection e)]; exact kk⟩
    · rw [hx.int' h1, hy.int' h2]
      exact .inl ⟨rfl, by rw [dec_V (f := V.int) (fun _ _ e => by injection e)]; exact kk⟩
    · rw [hx.bl' h1, hy.bl' h2]
      exact .inl ⟨rfl, by rw [dec_V (f := V.bl) (fun _ _ e => by injection e)]; exact kk⟩
    · exact .inr ⟨a, c, by rw [hK]; exact dp_view R hx h1, by rw [hK]; exact dp_view R hy h2, h3, h4, kk⟩
def rInT (K : PySem.W.Frag) : R2 := fun x y H Q => ∃ d ds, Dp K H x d ∧ Dp K H y (.tuple ds) ∧ SeqAt.shaped d = true ∧ SeqAt.shaped (.tuple ds) = true ∧ Q (.bl (ds.any fun z => PyData.eqv z d)) H
def rNotInT (K : PySem.W.Frag) : R2 := fun x y H Q => ∃ d ds, Dp K H x d ∧ Dp K H y (.tuple ds) ∧ SeqAt.shaped d = true ∧ SeqAt.shaped (.tuple ds) = true ∧ Q (.bl (!ds.any fun z => PyData.eqv z d)) H
theorem op_inT (hu : X.A.units + 65 < cLine) : OpR X (compareOp .In) (rInT X.K) := by
  intro pins s σ H x y v u Q I rx ry h
  obtain ⟨d, ds, hd, he, sd, se, q⟩ := h
  obtain ⟨as, r1⟩ := Dp.reads I d x v hd rx
  obtain ⟨bs, r2⟩ := Dp.reads I (.tuple ds) y u he ry
  exact SeqAt.in_tuple_reads r2 r1 (SeqAt.canLay_of_shaped se) (SeqAt.canLay_of_shaped sd) (room_in_shaped sd hu) ⟨.bl _, H, I, rfl, q⟩
theorem op_notInT (hu : X.A.units + 65 < cLine) : OpR X (compareOp .NotIn) (rNotInT X.K) := by
  intro pins s σ H x y v u Q I rx ry h
  obtain ⟨d, ds, hd, he, sd, se, q⟩ := h
  obtain ⟨as, r1⟩ := Dp.reads I d x v hd rx
  obtain ⟨bs, r2⟩ := Dp.reads I (.tuple ds) y u he ry
  exact SeqAt.notIn_tuple_reads r2 r1 (SeqAt.canLay_of_shaped se) (SeqAt.canLay_of_shaped sd) (room_in_shaped sd hu) ⟨.bl _, H, I, rfl, q⟩
end
end AG

set_option Elab.async false
set_option linter.all false
set_option maxRecDepth 100000
namespace AG
open PySem L2 PyProof.Rows
section
variable {G : Cfg} {E : Ent} {W : WX} {X : Cx} {F : Hp} {A : Adr} {σ : L2.St} {H : Hp} {s : S} {t : Expr} {st : Stmt}
def rInA (K : PySem.W.Frag) : R2 := fun x y H Q => (rInD K x y H Q ∨ rInT K x y H Q) ∨ (∃ i j, x = .str i ∧ y = .str j ∧ Q (.bl (!(Builtin.Str.occurrences j i 0 j.length 1).isEmpty)) H)
def rNotInA (K : PySem.W.Frag) : R2 := fun x y H Q => (rNotInD K x y H Q ∨ rNotInT K x y H Q) ∨ (∃ i j, x = .str i ∧ y = .str j ∧ Q (.bl (!(!(Builtin.Str.occurrences j i 0 j.length 1).isEmpty))) H)
theorem or_in (hu : X.A.units + 65 < cLine) : OpR X (compareOp .In) (rInA X.K) := OpR.or (OpR.or (op_inD hu) (op_inT hu)) op_in_str
theorem or_notIn (hu : X.A.units + 65 < cLine) : OpR X (compareOp .NotIn) (rNotInA X.K) := OpR.or (OpR.or (op_notInD hu) (op_notInT hu)) op_notIn_str
theorem pyOf_lst {l : List D} {es : List PyData} (h : pyL l = some es) : pyOf (.lst l) = some (.list es) := by simp [pyOf, h]
theorem pyOf_tup {l : List D} {es : List PyData} (h : pyL l = some es) : pyOf (.tup l) = some (.tuple es) := by simp [pyOf, h]
theorem inB_cases {x y : D} {b : Bool} (h : inB s x y = some b) : (∃ l a es, vw s y = .lst l ∧ pyOf (vw s x) = some a ∧ pyL l = some es ∧ SeqAt.shaped a = true ∧ SeqAt.shaped (.list es) = true ∧ b = es.any fun z => PyData.eqv z a) ∨
    (∃ l a es, vw s y = .tup l ∧ pyOf (vw s x) = some a ∧ pyL l = some es ∧ SeqAt.shaped a = true ∧ SeqAt.shaped (.tuple es) = true ∧ b = es.any fun z => PyData.eqv z a) ∨
    ∃ a c, x = .str a ∧ vw s y = .str c ∧ b = !(Builtin.Str.occurrences c a 0 c.length 1).isEmpty := by
  unfold inB at h
  split at h
  · rename_i l h1
    split at h
    · rename_i a es h2 h3
      split at h
      · rename_i h4
        cases h
        simp only [Bool.and_eq_true] at h4
        exact .inl ⟨l, a, es, h1, h2, h3, h4.1, h4.2, rfl⟩
      · cases h
    · cases h
  · rename_i l h1
    split at h
    · rename_i a es h2 h3
      split at h
      · rename_i h4
        cases h
        simp only [Bool.and_eq_true] at h4
        exact .inr (.inl ⟨l, a, es, h1, h2, h3, h4.1, h4.2, rfl⟩)
      · cases h
    · cases h
  · rename_i c h1
    split at h
    · rename_i a
      cases h
      exact .inr (.inr ⟨a, c, rfl, h1, rfl⟩)
    · cases h
  · cases h
theorem od_in (hK : X.K = G.K) : OpD G (rInA X.K) inD := by
  intro E F A σ H s x y dx dy d Q R hx hy q k
  unfold inD at q
  cases qb : inB s dx dy with
  | none => rw [qb] at q; cases q
  | some b =>
    rw [qb] at q
    cases q
    have kk := k _ F A H (FLe.refl _) (ALe.refl _) R (vok_bl (b := b))
    rcases inB_cases qb with ⟨l, a, es, h1, h2, h3, h4, h5, rfl⟩ | ⟨l, a, es, h1, h2, h3, h4, h5, rfl⟩ | ⟨a, c, rfl, h2, rfl⟩
    · exact .inl (.inl ⟨a, es, by rw [hK]; exact dp_view R hx h2, by rw [hK]; exact dp_view R hy (by rw [h1]; exact pyOf_lst h3), h4, h5, kk⟩)
    · exact .inl (.inr ⟨a, es, by rw [hK]; exact dp_view R hx h2, by rw [hK]; exact dp_view R hy (by rw [h1]; exact pyOf_tup h3), h4, h5, kk⟩)
    · exact .inr ⟨a, c, hx.str, hy.str' h2, kk⟩
theorem od_notIn (hK : X.K = G.K) : OpD G (rNotInA X.K) notInD := by
  intro E F A σ H s x y dx dy d Q R hx hy q k
  unfold notInD at q
  cases qb : inB s dx dy with
  | none => rw [qb] at q; cases q
  | some b =>
    rw [qb] at q
    cases q
    have kk := k _ F A H (FLe.refl _) (ALe.refl _) R (vok_bl (b := !b))
    rcases inB_cases qb with ⟨l, a, es, h1, h2, h3, h4, h5, rfl⟩ | ⟨l, a, es, h1, h2, h3, h4, h5, rfl⟩ | ⟨a, c, rfl, h2, rfl⟩
    · exact .inl (.inl ⟨a, es, by rw [hK]; exact dp_view R hx h2, by rw [hK]; exact dp_view R hy (by rw [h1]; exact pyOf_lst h3), h4, h5, kk⟩)
    · exact .inl (.inr ⟨a, es, by rw [hK]; exact dp_view R hx h2, by rw [hK]; exact dp_view R hy (by rw [h1]; exact pyOf_tup h3), h4, h5, kk⟩)
    · exact .inr ⟨a, c, hx.str, hy.str' h2, kk⟩
theorem rep_non {d : D} (h : Rep G F A d .non) : d = .non := by
  cases d <;> simp [Rep] at h ⊢
theorem od_isN : OpD G (fun x y H Q => y = .non ∧ Q (.bl (decide (x = .non))) H) isNonD := by
  intro E F A σ H s x y dx dy d Q R hx hy q k
  unfold isNonD at q
  split at q
  · refine ⟨hy.non, ?_⟩
    split at q
    · cases q
      rw [hx.non]
      exact k _ F A H (FLe.refl _) (ALe.refl _) R vok_bl
    · cases q
    · rename_i h1 h2
      cases q
      have hxn : x ≠ .non := fun e => by
        subst e
        refine h1 (rep_non (hx.rep ?_))
        cases dx <;> first | rfl | exact absurd rfl (h2 _)
      rw [decide_eq_false hxn]
      exact k _ F A H (FLe.refl _) (ALe.refl _) R vok_bl
  · cases q
theorem od_isNotN : OpD G (fun x y H Q => y = .non ∧ Q (.bl (!decide (x = .non))) H) isNotNonD := by
  intro E F A σ H s x y dx dy d Q R hx hy q k
  unfold isNotNonD at q
  split at q
  · refine ⟨hy.non, ?_⟩
    split at q
    · cases q
      rw [hx.non]
      exact k _ F A H (FLe.refl _) (ALe.refl _) R vok_bl
    · cases q
    · rename_i h1 h2
      cases q
      have hxn : x ≠ .non := fun e => by
        subst e
        refine h1 (rep_non (hx.rep ?_))
        cases dx <;> first | rfl | exact absurd rfl (h2 _)
      rw [decide_eq_false hxn]
      exact k _ F A H (FLe.refl _) (ALe.refl _) R vok_bl
  · cases q
def rIxA (K : PySem.W.Frag) : R2 := fun x y H Q => (rIxL K x y H Q ∨ rIxT K x y H Q) ∨ rIxS x y H Q
theorem ix_all : IxR X (rIxA X.K) := IxR.or (IxR.or ix_list ix_tup) ix_str
theorem atI_get {l : List D} {vs : List V} {i : Int} {d : D} (r : RepL G F A l vs) (h : atI l i = some d) : ∃ v, atI vs i = some v ∧ Rep G F A d v := by
  unfold atI at h ⊢
  rw [RepL.length r]
  cases q : ixN l.length i with
  | none => rw [q] at h; cases h
  | some j =>
    rw [q] at h
    exact RepL.get r h
theorem od_ix (hK : X.K = G.K) : OpD G (rIxA X.K) ixD := by
  intro E F A σ H s x y dx dy d Q R hx hy q k
  unfold ixD at q
  split at q
  · rename_i l i h1
    obtain ⟨a, vs, rfl, h2, r⟩ := lst_view R hx h1
    obtain ⟨v, h3, h4⟩ := atI_get r q
    exact .inl (.inl ⟨a, vs, i, v, rfl, hy.int, .of h2, h3, k _ F A H (FLe.refl _) (ALe.refl _) R (.of h4)⟩)
  · rename_i l i h1
    obtain ⟨a, vs, rfl, _, h2, r⟩ := tup_view R hx h1
    obtain ⟨v, h3, h4⟩ := atI_get r q
    exact .inl (.inr ⟨a, vs, i, v, rfl, hy.int, .of h2, h3, k _ F A H (FLe.refl _) (ALe.refl _) R (.of h4)⟩)
  · rename_i z i h1
    split at q
    · rename_i hl
      rw [Option.map_eq_some_iff] at q
      obtain ⟨c, h3, rfl⟩ := q
      exact .inr ⟨z, i, c, hx.str' h1, hy.int, lim_line hl, h3, k _ F A H (FLe.refl _) (ALe.refl _) R vok_str⟩
    · cases q
  · cases q
def noPartS : M (Option Int) := fun s => .ok none s
def partS (f : M D) : M (Option Int) := fun s => (f s).bind fun d s1 => match d with
  | .int i => .ok (some i) s1
  | _ => .st
def cutL {α : Type} (xs : List α) (lo hi : Option Int) : List α := (xs.drop (HT.sIx xs.length 0 lo)).take (HT.sIx xs.length xs.length hi - HT.sIx xs.length 0 lo)
def slD (s : S) (x : D) (lo hi : Option Int) : Option D := match vw s x with
  | .lst l => some (.lst (cutL l lo hi))
  | .tup l => some (.tup (cutL l lo hi))
  | .str z => if z.length ≤ LIM then some (.str (cutS z lo hi)) else none
  | _ => none
def slS (f : M D) (lo hi : M (Option Int)) : M D := fun s => (f s).bind fun x s1 => (lo s1).bind fun a s2 => (hi s2).bind fun b s3 => match slD s3 x a b with
  | some d => .ok d s3
  | none => .st
def TOof (G : Cfg) (W : WX) (f : M (Option Int)) : TO := fun σ H Q => ∃ E F A s, Rel G E F A σ H s ∧ PO G E W σ (fun o _ _ _ H => Q o H) F A (f s)
theorem POimp {e : Option Expr} {t t' : TO} (h : L2.PO X e t) (k : ∀ σ H Q, t' σ H Q → t σ H Q) : L2.PO X e t' := ⟨fun pins s σ H Q I hq => h.run pins s σ H Q I (k σ H Q hq)⟩
theorem o_none : L2.PO X none (TOof G W noPartS) := POimp po_none fun σ H Q ⟨E, F, A, s, R, P⟩ => P.ok_here R
theorem o_some {e : Expr} {f : M D} (h : PE X e (TEof G W f)) : L2.PO X (some e) (TOof G W (partS f)) := POimp (po_some h) fun σ H Q ⟨E, F, A, s, R, P⟩ => ⟨E, F, A, s, R, PO.bind P fun d s1 F1 A1 H1 e1 g1 R1 P1 v hv => by
  cases d with
  | int i => exact ⟨i, hv.int, P1.ok_here R1⟩
  | _ => exact P1.elim⟩
def rSlAll (K : PySem.W.Frag) : V → Option Int → Option Int → Hp → VK → Prop := fun x lo hi H Q => (rSlL K x lo hi H Q ∨ rSlA K x lo hi H Q) ∨ rSlS x lo hi H Q
theorem sl_all : SlR X (rSlAll X.K) := SlR.or (SlR.or sl_list sl_tupA) sl_str
theorem cutV_eq (vs : List V) (lo hi : Option Int) : cutV vs lo hi = cutL vs lo hi := rfl
theorem RepL.cut {l : List D} {vs : List V} (r : RepL G F A l vs) (lo hi : Option Int) : RepL G F A (cutL l lo hi) (cutL vs lo hi) := by
  unfold cutL
  rw [RepL.length r]
  exact RepL.take _ (RepL.drop _ r)
theorem x_sl {f : M D} {lo hi : M (Option Int)} (hK : X.K = G.K) (k : PE X t (tSl (rSlAll X.K) (TEof G W f) (TOof G W lo) (TOof G W hi))) : PE X t (TEof G W (slS f lo hi)) := by
  refine PEimp k fun σ H Q ⟨E, F, A, s, R, P⟩ => ⟨E, F, A, s, R, PO.bind P fun x s1 F1 A1 H1 e1 g1 R1 P1 u hu => ⟨E, F1, A1, s1, R1, PO.bind P1 fun a s2 F2 A2 H2 e2 g2 R2 P2 => ⟨E, F2, A2, s2, R2, PO.bind P2 fun b s3 F3 A3 H3 e3 g3 R3 P3 => ?_⟩⟩⟩
  have hx := (hu.mono e2 g2).mono e3 g3
  cases q : slD s3 x a b with
  | none => rw [q] at P3; exact P3.elim
  | some d =>
    rw [q] at P3
    unfold slD at q
    split at q
    · rename_i l h1
      cases q
      obtain ⟨p, vs, rfl, h2, r⟩ := lst_view R3 hx h1
      refine .inl (.inl ⟨p, vs, rfl, .of h2, fun tt ht => ?_⟩)
      have fl := fle_upd (o := .lst (cutV vs a b)) (R3.sub.none ht)
      refine P3 _ A3 _ fl (ALe.refl _) (R3.newFz ht) _ ?_
      show Rep G _ A3 (.lst _) _
      simp only [Rep]
      exact ⟨tt, _, rfl, upd_same, RepL.mono fl (ALe.refl _) _ _ (RepL.cut r a b)⟩
    · rename_i l h1
      cases q
      obtain ⟨p, vs, rfl, f2, h2, r⟩ := tup_view R3 hx h1
      refine .inl (.inr ⟨p, vs, rfl, .of h2, fun hw => ?_, fun _ tt ht => ?_⟩)
      · refine P3 F3 A3 H3 (FLe.refl _) (ALe.refl _) R3 _ ?_
        have hl := RepL.length r
        rw [hl] at hw
        have e : cutL l a b = l := by
          unfold cutL
          rw [hw.1, hw.2]
          simp
        rw [e]
        show Rep G F3 A3 (.tup l) _
        simp only [Rep]
        exact ⟨p, vs, rfl, f2, r⟩
      · have fl := fle_upd (o := .tup (cutV vs a b)) (R3.sub.none ht)
        refine P3 _ A3 _ fl (ALe.refl _) (R3.newFz ht) _ ?_
        show Rep G _ A3 (.tup _) _
        simp only [Rep]
        exact ⟨tt, _, rfl, upd_same, RepL.mono fl (ALe.refl _) _ _ (RepL.cut r a b)⟩
    · rename_i z h1
      split at q
      · rename_i hl
        cases q
        exact .inr ⟨z, hx.str' h1, lim_line hl, P3 F3 A3 H3 (FLe.refl _) (ALe.refl _) R3 _ vok_str⟩
      · cases q
    · cases q
def lenD (s : S) : List D → Option D
  | [x] => (match vw s x with
    | .lst l => some (.int l.length)
    | .tup l => some (.int l.length)
    | .str z => if z.length ≤ LIM then some (.int z.length) else none
    | _ => none)
  | _ => none
def rLenA (K : PySem.W.Frag) : List V → Hp → VK → Prop := fun xs H Q => (∃ p ys, xs = [.ref p] ∧ (SqL K H p ys ∨ SqT K H p ys) ∧ Q (.int ys.length) H) ∨ (∃ z, xs = [.str z] ∧ z.length ≤ sizeLine ∧ Q (.int z.length) H)
theorem CallR.or {f : Value} {r r' : List V → Hp → VK → Prop} (h : CallR X f r) (h' : CallR X f r') : CallR X f (fun xs H Q => r xs H Q ∨ r' xs H Q) := by
  intro pins s σ H xs us Q I rr q
  rcases q with q | q
  · exact h pins s σ H xs us Q I rr q
  · exact h' pins s σ H xs us Q I rr q
theorem cr_len : CallR X (.builtin "len") (rLenA X.K) := CallR.or call_len_seq call_len_str
theorem paired1 {ds : List D} {vs : List V} {x : D} {R : D → V → Prop} (h : Paired R ds vs) (e : ds = [x]) : ∃ v, vs = [v] ∧ R x v := by
  subst e
  cases h with
  | cons h t => cases t; exact ⟨_, rfl, h⟩
theorem paired2 {ds : List D} {vs : List V} {x y : D} {R : D → V → Prop} (h : Paired R ds vs) (e : ds = [x, y]) : ∃ v w, vs = [v, w] ∧ R x v ∧ R y w := by
  subst e
  cases h with
  | cons h t => cases t with
    | cons h2 t2 => cases t2; exact ⟨_, _, rfl, h, h2⟩
theorem cd_len : ClD G (rLenA G.K) lenD := by
  intro E F A σ H s xs ds d Q R hx q k
  unfold lenD at q
  split at q
  · rename_i x
    obtain ⟨v, rfl, hv⟩ := paired1 hx rfl
    split at q
    · rename_i l h1
      cases q
      obtain ⟨a, vs, rfl, h2, r⟩ := lst_view R hv h1
      exact .inl ⟨a, vs, rfl, .inl (.of h2), by rw [RepL.length r]; exact k _ F A H (FLe.refl _) (ALe.refl _) R vok_int⟩
    · rename_i l h1
      cases q
      obtain ⟨a, vs, rfl, _, h2, r⟩ := tup_view R hv h1
      exact .inl ⟨a, vs, rfl, .inr (.of h2), by rw [RepL.length r]; exact k _ F A H (FLe.refl _) (ALe.refl _) R vok_int⟩
    · rename_i z h1
      split at q
      · rename_i hl
        cases q
        exact .inr ⟨z, by rw [hv.str' h1], lim_line hl, k _ F A H (FLe.refl _) (ALe.refl _) R vok_int⟩
      · cases q
    · cases q
  · cases q
def tupleD (s : S) : List D → Option D
  | [x] => (match vw s x with
    | .lst l => some (.tup l)
    | .tup l => some (.tup l)
    | _ => none)
  | _ => none
def rTupleA (K : PySem.W.Frag) : List V → Hp → VK → Prop := fun xs H Q => ∃ p ys, xs = [.ref p] ∧ ((SqL K H p ys ∧ ∀ l, H l = none → Q (.ref l) (upd H l (.tup ys))) ∨ (SqT K H p ys ∧ Q (.ref p) H))
theorem cr_tuple : CallR X (.type "tuple") (rTupleA X.K) := call_tuple_of
theorem cd_tuple : ClD G (rTupleA G.K) tupleD := by
  intro E F A σ H s xs ds d Q R hx q k
  unfold tupleD at q
  split at q
  · rename_i x
    obtain ⟨v, rfl, hv⟩ := paired1 hx rfl
    split at q
    · rename_i l h1
      cases q
      obtain ⟨a, vs, rfl, h2, r⟩ := lst_view R hv h1
      refine ⟨a, vs, rfl, .inl ⟨.of h2, fun p hp => ?_⟩⟩
      have fl := fle_upd (o := .tup vs) (R.sub.none hp)
      refine k _ _ A _ fl (ALe.refl _) (R.newFz hp) ?_
      show Rep G _ A (.tup _) _
      simp only [Rep]
      exact ⟨p, _, rfl, upd_same, RepL.mono fl (ALe.refl _) _ _ r⟩
    · rename_i l h1
      cases q
      obtain ⟨a, vs, rfl, f2, h2, r⟩ := tup_view R hv h1
      refine ⟨a, vs, rfl, .inr ⟨.of h2, k _ F A H (FLe.refl _) (ALe.refl _) R ?_⟩⟩
      show Rep G F A (.tup l) _
      simp only [Rep]
      exact ⟨a, vs, rfl, f2, r⟩
    · cases q
  · cases q
def listN (s : S) : List D → Option MO
  | [x] => (match vw s x with
    | .lst l => some (.ml l)
    | .tup l => some (.ml l)
    | _ => none)
  | _ => none
def rListA (K : PySem.W.Frag) : List V → Hp → VK → Prop := fun xs H Q => ∃ p ys, xs = [.ref p] ∧ (SqL K H p ys ∨ SqT K H p ys) ∧ ∀ l, H l = none → Q (.ref l) (upd H l (.lst ys))
theorem cr_list : CallR X (.type "list") (rListA X.K) := call_list_of
theorem cn_list : ClN G (rListA G.K) listN := by
  intro E F A σ H s xs ds m Q R hx q k
  unfold listN at q
  split at q
  · rename_i x
    obtain ⟨v, rfl, hv⟩ := paired1 hx rfl
    split at q
    · rename_i l h1
      cases q
      obtain ⟨a, vs, rfl, h2, r⟩ := lst_view R hv h1
      refine ⟨a, vs, rfl, .inl (.of h2), fun p hp => ?_⟩
      obtain ⟨R2, k1, k2, k3, k4⟩ := R.laid (o := .lst vs) hp
      exact k p F A _ (FLe.refl _) (ALe.refl _) R2 ⟨⟨vs, upd_same, r⟩, k1, k2, k3, k4⟩
    · rename_i l h1
      cases q
      obtain ⟨a, vs, rfl, f2, h2, r⟩ := tup_view R hv h1
      refine ⟨a, vs, rfl, .inr (.of h2), fun p hp => ?_⟩
      obtain ⟨R2, k1, k2, k3, k4⟩ := R.laid (o := .lst vs) hp
      exact k p F A _ (FLe.refl _) (ALe.refl _) R2 ⟨⟨vs, upd_same, r⟩, k1, k2, k3, k4⟩
    · cases q
  · cases q
def blsOf : List D → Option (List Bool)
  | [] => some []
  | .bl b :: r => (blsOf r).map (b :: ·)
  | _ => none
theorem blsOf_map : ∀ {l : List D} {bs : List Bool}, blsOf l = some bs → l = bs.map D.bl
  | [], bs, h => by
    simp only [blsOf, Option.some.injEq] at h
    subst h
    rfl
  | d :: r, bs, h => by
    cases d with
    | bl b =>
      simp only [blsOf, Option.map_eq_some_iff] at h
      obtain ⟨bs', h1, rfl⟩ := h
      rw [blsOf_map h1]
      rfl
    | _ => simp [blsOf] at h
def allD (s : S) : List D → Option D
  | [x] => (match vw s x with
    | .lst l => (blsOf l).map fun bs => .bl (bs.all id)
    | _ => none)
  | _ => none
def anyD (s : S) : List D → Option D
  | [x] => (match vw s x with
    | .lst l => (blsOf l).map fun bs => .bl (bs.any id)
    | _ => none)
  | _ => none
theorem cd_all : ClD G (rAll G.K) allD := by
  intro E F A σ H s xs ds d Q R hx q k
  unfold allD at q
  split at q
  · rename_i x
    obtain ⟨v, rfl, hv⟩ := paired1 hx rfl
    split at q
    · rename_i l h1
      rw [Option.map_eq_some_iff] at q
      obtain ⟨bs, h3, rfl⟩ := q
      obtain ⟨a, vs, rfl, h2, r⟩ := lst_view R hv h1
      rw [blsOf_map h3] at r
      exact ⟨a, bs, rfl, .of (by rw [← RepL.bls r]; exact h2), k _ F A H (FLe.refl _) (ALe.refl _) R vok_bl⟩
    · cases q
  · cases q
theorem cd_any : ClD G (rAny G.K) anyD := by
  intro E F A σ H s xs ds d Q R hx q k
  unfold anyD at q
  split at q
  · rename_i x
    obtain ⟨v, rfl, hv⟩ := paired1 hx rfl
    split at q
    · rename_i l h1
      rw [Option.map_eq_some_iff] at q
      obtain ⟨bs, h3, rfl⟩ := q
      obtain ⟨a, vs, rfl, h2, r⟩ := lst_view R hv h1
      rw [blsOf_map h3] at r
      exact ⟨a, bs, rfl, .of (by rw [← RepL.bls r]; exact h2), k _ F A H (FLe.refl _) (ALe.refl _) R vok_bl⟩
    · cases q
  · cases q
def absD (_ : S) : List D → Option D
  | [.int i] => some (.int (if i < 0 then -i else i))
  | _ => none
def intD (_ : S) : List D → Option D
  | [.int i] => some (.int i)
  | [.bl b] => some (.int (if b then 1 else 0))
  | _ => none
theorem cd_abs : ClD G (fun xs H Q => ∃ i, xs = [.int i] ∧ Q (.int (if i < 0 then -i else i)) H) absD := by
  intro E F A σ H s xs ds d Q R hx q k
  unfold absD at q
  split at q
  · cases q
    obtain ⟨v, rfl, hv⟩ := paired1 hx rfl
    exact ⟨_, by rw [hv.int], k _ F A H (FLe.refl _) (ALe.refl _) R vok_int⟩
  · cases q
theorem cd_int : ClD G (fun xs H Q => (∃ i, xs = [.int i] ∧ Q (.int i) H) ∨ ∃ k, xs = [.bl k] ∧ Q (.int (if k then 1 else 0)) H) intD := by
  intro E F A σ H s xs ds d Q R hx q k
  unfold intD at q
  split at q
  · cases q
    obtain ⟨v, rfl, hv⟩ := paired1 hx rfl
    exact .inl ⟨_, by rw [hv.int], k _ F A H (FLe.refl _) (ALe.refl _) R vok_int⟩
  · cases q
    obtain ⟨v, rfl, hv⟩ := paired1 hx rfl
    exact .inr ⟨_, by rw [hv.bl], k _ F A H (FLe.refl _) (ALe.refl _) R vok_int⟩
  · cases q
end
end AG

set_option Elab.async false
set_option linter.all false
set_option maxRecDepth 100000
namespace AG
open PySem L2 PyProof.Rows
section
variable {G : Cfg} {E : Ent} {F : Hp} {A : Adr} {σ : L2.St} {H : Hp} {s : S} {p : Addr} {o : HO} {m m' : MO}

theorem Rel.updOwn (R : Rel G E F A σ H s) {i : Nat} (h : s.rhz[i]? = some (.own m)) (hp : σ[i]? = some (some (.ref p))) (hm : MoOk G F A (upd H p o) p m') : Rel G E F A σ (upd H p o) { s with rhz := s.rhz.set i (.own m') } := by
  obtain ⟨p', h1, N⟩ := R.take h
  rw [h1] at hp
  cases hp
  have R2 := (R.forget i).write (o := o) N.nf N.ne N.nA N.nσ
  have N2 : New G E F A σ (upd H p o) { s with rhz := s.rhz.set i .un } p m' := ⟨hm, N.nf, N.ne, N.nA, N.nσ⟩
  have R3 := R2.setN (i := i) N2
  have e1 : σ.set i (some (.ref p)) = σ := by
    apply List.ext_getElem?
    intro j
    by_cases q : i = j
    · subst q
      rw [List.getElem?_set_self (List.getElem?_eq_some_iff.mp h1).1, h1]
    · rw [List.getElem?_set_ne q]
  rw [e1] at R3
  simpa using R3
theorem Rel.updHnd (R : Rel G E F A σ H s) {n : Nat} (h : s.muz[n]? = some m) (hp : A n = some p) (hm : MoOk G F A (upd H p o) p m') : Rel G E F A σ (upd H p o) { s with muz := s.muz.set n m' } := by
  have hn : n < s.muz.length := (List.getElem?_eq_some_iff.mp h).1
  have at_ : ∀ k a, A k = some a → k ≠ n → a ≠ p := fun k a hk hne z => by
    subst z
    exact hne (R.cells.inj k n a hk hp)
  refine ⟨fun a u q => ?_, R.len, fun i x v h1 h2 => (R.slot i x v h1 h2).mono (FLe.refl _) (ALe.refl _) fun a m h3 h4 h5 h6 h7 => ⟨h5, h7, fun o' ho => ?_⟩, R.dist, ⟨fun k mk hk => ?_, fun k a hk => by simpa using R.cells.dom k a hk, R.cells.inj⟩, R.fle, R.ale, by simpa using R.nle, fun a u h1 h2 => ?_, R.fz, R.hz⟩
  · have q2 : a ≠ p := fun z => by
      subst z
      obtain ⟨b, k1, k2, k3⟩ := R.cells.at_ n m h
      rw [hp] at k1
      cases k1
      rw [k3] at q
      cases q
    rw [upd_ne q2]
    exact R.sub a u q
  · have q2 : a ≠ p := fun z => h7 n (by rw [hp, z])
    rw [upd_ne q2]
    exact ho
  · by_cases e : k = n
    · subst e
      change (s.muz.set k m')[k]? = some mk at hk
      rw [List.getElem?_set_self hn] at hk
      cases hk
      obtain ⟨b, k1, k2, k3⟩ := R.cells.at_ k m h
      rw [hp] at k1
      cases k1
      exact ⟨p, hp, hm, k3⟩
    · change (s.muz.set n m')[k]? = some mk at hk
      rw [List.getElem?_set_ne (Ne.symm e)] at hk
      obtain ⟨b, k1, k2, k3⟩ := R.cells.at_ k mk hk
      exact ⟨b, k1, k2.mono (FLe.refl _) (ALe.refl _) (fun o' ho => by rw [upd_ne (at_ k b k1 e)]; exact ho), k3⟩
  · have q2 : a ≠ p := fun z => by
      subst z
      rcases R.hz n a hp with k | k
      · exact h2 n k
      · rw [h1] at k
        cases k
    rw [upd_ne q2]
    exact R.keep a u h1 h2
theorem Rel.newHnd (R : Rel G E F A σ H s) (N : New G E F A σ H s p m) : ∃ A', ALe A A' ∧ A' s.muz.length = some p ∧ Rel G E F A' σ H { s with muz := s.muz ++ [m] } := by
  let A' : Adr := fun n => if n = s.muz.length then some p else A n
  have fresh : A s.muz.length = none := by
    cases q : A s.muz.length with
    | none => rfl
    | some a => exact absurd (R.cells.dom _ _ q) (Nat.lt_irrefl _)
  have al : ALe A A' := fun n a h => by
    show (if n = s.muz.length then some p else A n) = some a
    rw [if_neg (fun e => by rw [e, fresh] at h; cases h)]
    exact h
  have atn : A' s.muz.length = some p := if_pos rfl
  have ato : ∀ n, n ≠ s.muz.length → A' n = A n := fun n h => if_neg h
  refine ⟨A', al, atn, R.sub, R.len, fun i x v h1 h2 => (R.slot i x v h1 h2).mono (FLe.refl _) al fun a m2 h3 h4 h5 h6 h7 => ⟨h5, fun n z => ?_, fun _ q => q⟩, R.dist, ⟨fun n mn hn => ?_, fun n a hn => ?_, fun n k a h1 h2 => ?_⟩, R.fle, R.ale.trans al, by simp; exact Nat.le_succ_of_le R.nle, R.keep, R.fz, fun n a hn => ?_⟩
  · by_cases e : n = s.muz.length
    · rw [e, atn] at z
      cases z
      refine N.nσ i ?_ (by rw [h2, h3])
      rw [List.getD_eq_getElem?_getD, h1, h4]
      rfl
    · rw [ato n e] at z
      exact h7 n z
  · by_cases e : n < s.muz.length
    · rw [List.getElem?_append_left e] at hn
      obtain ⟨a, k1, k2, k3⟩ := R.cells.at_ n mn hn
      exact ⟨a, al _ _ k1, k2.mono (FLe.refl _) al (fun _ q => q), k3⟩
    · rw [List.getElem?_append_right (by omega)] at hn
      have e2 : n = s.muz.length := by
        have : n - s.muz.length < 1 := by
          have := (List.getElem?_eq_some_iff.mp hn).1
          simpa using this
        omega
      subst e2
      simp at hn
      subst hn
      exact ⟨p, atn, N.mo.mono (FLe.refl _) al (fun _ q => q), N.nf⟩
  · by_cases e : n = s.muz.length
    · simp [e]
    · rw [ato n e] at hn
      have := R.cells.dom n a hn
      simp
      omega
  · by_cases e : n = s.muz.length
    · by_cases e2 : k = s.muz.length
      · rw [e, e2]
      · rw [e, atn] at h1
        rw [ato k e2] at h2
        cases h1
        exact absurd h2 (N.nA k)
    · by_cases e2 : k = s.muz.length
      · rw [e2, atn] at h2
        rw [ato n e] at h1
        cases h2
        exact absurd h1 (N.nA n)
      · rw [ato n e] at h1
        rw [ato k e2] at h2
        exact R.cells.inj n k a h1 h2
  · by_cases e : n = s.muz.length
    · rw [e, atn] at hn
      cases hn
      exact .inr N.ne
    · rw [ato n e] at hn
      exact R.hz n a hn
end
def hndS (f : M MO) : M D := fun s => (f s).bind fun m s1 => .ok (.hnd s1.muz.length) { s1 with muz := s1.muz ++ [m] }
def ml? (s : S) : D → Option (List D × (List D → S))
  | .loc i => (match s.rhz[i]? with
    | some (.own (.ml l)) => some (l, fun l' => { s with rhz := s.rhz.set i (.own (.ml l')) })
    | _ => none)
  | .hnd n => (match s.muz[n]? with
    | some (.ml l) => some (l, fun l' => { s with muz := s.muz.set n (.ml l') })
    | _ => none)
  | _ => none
def md? (s : S) : D → Option (Bool × List (D × D) × (List (D × D) → S))
  | .loc i => (match s.rhz[i]? with
    | some (.own (.md t l)) => some (t, l, fun l' => { s with rhz := s.rhz.set i (.own (.md t l')) })
    | _ => none)
  | .hnd n => (match s.muz[n]? with
    | some (.md t l) => some (t, l, fun l' => { s with muz := s.muz.set n (.md t l') })
    | _ => none)
  | _ => none
section
variable {G : Cfg} {E : Ent} {W : WX} {X : Cx} {F : Hp} {A : Adr} {σ : L2.St} {H : Hp} {s : S} {t : Expr} {st : Stmt}
theorem x_hnd {f : M MO} (k : PE X t (TFof G W f)) : PE X t (TEof G W (hndS f)) := by
  refine PEimp k fun σ H Q ⟨E, F, A, s, R, P⟩ => ⟨E, F, A, s, R, PO.bind P fun m s1 F1 A1 H1 e1 g1 R1 P1 p N => ?_⟩
  obtain ⟨A2, al, h1, R2⟩ := R1.newHnd N
  refine P1 F1 A2 H1 (FLe.refl _) al R2 _ ?_
  show Rep G F1 A2 (.hnd _) _
  simp only [Rep]
  exact ⟨p, h1, rfl⟩
theorem ml_at (R : Rel G E F A σ H s) {d : D} {v : V} {l : List D} {put : List D → S} (h : VOk G σ F A d v) (q : ml? s d = some (l, put)) : ∃ a vs, v = .ref a ∧ H a = some (.lst vs) ∧ RepL G F A l vs ∧
    ∀ l' vs', RepL G F A l' vs' → Rel G E F A σ (upd H a (.lst vs')) (put l') := by
  cases d with
  | loc i =>
    simp only [ml?] at q
    split at q
    · rename_i l0 hi
      cases q
      obtain ⟨a, rfl, hm⟩ := vw_loc R h hi
      obtain ⟨vs, h1, h2⟩ := hm
      exact ⟨a, vs, rfl, h1, h2, fun l' vs' r => R.updOwn hi h ⟨vs', upd_same, r⟩⟩
    · cases q
  | hnd n =>
    simp only [ml?] at q
    split at q
    · rename_i l0 hi
      cases q
      obtain ⟨a, rfl, hm⟩ := vw_hnd R h hi
      obtain ⟨vs, h1, h2⟩ := hm
      have h : Rep G F A (.hnd n) (.ref a) := h
      simp only [Rep] at h
      obtain ⟨b, h3, h4⟩ := h
      cases h4
      exact ⟨a, vs, rfl, h1, h2, fun l' vs' r => R.updHnd hi h3 ⟨vs', upd_same, r⟩⟩
    · cases q
  | _ => cases q
def appS (f g : M D) : M Fl := fun s => (f s).bind fun x s1 => match ml? s1 x with
  | none => .st
  | some _ => (g s1).bind fun y s2 => match ml? s2 x with
    | some (l, put) => if sto y && decide (l.length < LIM) then .ok .nx (put (l ++ [y])) else .st
    | none => .st
def popS (f : M D) : M D := fun s => (f s).bind fun x s1 => match ml? s1 x with
  | some (l, put) => (match l[l.length - 1]? with
    | some y => .ok y (put l.dropLast)
    | none => .st)
  | none => .st
def popAtS (f g : M D) : M D := fun s => (f s).bind fun x s1 => match ml? s1 x with
  | none => .st
  | some _ => (g s1).bind fun y s2 => match y with
    | .int i => (match ml? s2 x with
      | some (l, put) => if 0 ≤ i ∧ i < 2 ^ 63 then (match l[i.toNat]? with
        | some z => .ok z (put (l.eraseIdx i.toNat))
        | none => .st) else .st
      | none => .st)
    | _ => .st
theorem dropLast_rep {l : List D} {vs : List V} (r : RepL G F A l vs) : RepL G F A l.dropLast vs.dropLast := by
  rw [List.dropLast_eq_take, List.dropLast_eq_take, RepL.length r]
  exact RepL.take _ r
theorem erase_rep : ∀ {l : List D} {vs : List V} (n : Nat), RepL G F A l vs → RepL G F A (l.eraseIdx n) (vs.eraseIdx n)
  | [], vs, n, r => by simp only [RepL] at r; subst r; simp [RepL]
  | d :: ds, vs, 0, r => by
    simp only [RepL] at r
    obtain ⟨v, r', rfl, h2, h3⟩ := r
    exact h3
  | d :: ds, vs, n + 1, r => by
    simp only [RepL] at r
    obtain ⟨v, r', rfl, h2, h3⟩ := r
    simp only [List.eraseIdx_cons_succ, RepL]
    exact ⟨v, _, rfl, h2, erase_rep n h3⟩
theorem tyV_lst {a : Addr} {vs : List V} (h : H a = some (.lst vs)) : tyV G.K "list" (.ref a) H := .inl ⟨rfl, vs, .of h⟩
theorem s_app {f g : M D} (hK : X.K = G.K) (k : PS X st (tDrop (tBM X.K "list" rAppend (TEof G W f) (tCons (TEof G W g) tNil)))) : PS X st (TSof G W (appS f g)) := by
  refine PSimp k fun D σ H ⟨E, F, A, s, R, P⟩ => ⟨E, F, A, s, R, PostS.bind P fun x s1 F1 A1 H1 e1 g1 R1 P1 u hu => ?_⟩
  cases q1 : ml? s1 x with
  | none => simp only [q1] at P1; exact P1.elim
  | some lp =>
    simp only [q1] at P1
    obtain ⟨l1, put1⟩ := lp
    obtain ⟨a, vs, rfl, h1, r1, _⟩ := ml_at R1 hu q1
    refine ⟨by rw [hK]; exact tyV_lst h1, E, F1, A1, s1, R1, PostS.bind P1 fun y s2 F2 A2 H2 e2 g2 R2 P2 w hw => ?_⟩
    cases q2 : ml? s2 x with
    | none => simp only [q2] at P2; exact P2.elim
    | some lp2 =>
      obtain ⟨l2, put2⟩ := lp2
      simp only [q2] at P2
      cases qq : (sto y && decide (l2.length < LIM)) with
      | false => rw [qq] at P2; exact P2.elim
      | true =>
        rw [qq] at P2
        simp only [if_true] at P2
        simp only [Bool.and_eq_true, decide_eq_true_eq] at qq
        obtain ⟨a2, vs2, ea, h2, r2, up⟩ := ml_at R2 (hu.mono e2 g2) q2
        cases ea
        refine ⟨a, vs2, w, rfl, rfl, h2, by rw [RepL.length r2]; exact Nat.lt_of_lt_of_le qq.2 (by decide), ?_⟩
        exact P2 σ F2 A2 _ (FLe.refl _) (ALe.refl _) (up _ _ (RepL.append r2 (by simp only [RepL]; exact ⟨w, [], rfl, hw.rep qq.1, rfl⟩)))
theorem x_pop {f : M D} (hK : X.K = G.K) (k : PE X t (tBM0 X.K "list" rPop (TEof G W f))) : PE X t (TEof G W (popS f)) := by
  refine PEimp k fun σ H Q ⟨E, F, A, s, R, P⟩ => ⟨E, F, A, s, R, PO.bind P fun x s1 F1 A1 H1 e1 g1 R1 P1 u hu => ?_⟩
  cases q1 : ml? s1 x with
  | none => simp only [q1] at P1; exact P1.elim
  | some lp =>
    obtain ⟨l1, put1⟩ := lp
    simp only [q1] at P1
    obtain ⟨a, vs, rfl, h1, r1, up⟩ := ml_at R1 hu q1
    cases q2 : l1[l1.length - 1]? with
    | none => simp only [q2] at P1; exact P1.elim
    | some y =>
      simp only [q2] at P1
      obtain ⟨v, hv, rv⟩ := RepL.get r1 q2
      refine ⟨by rw [hK]; exact tyV_lst h1, a, vs, v, rfl, rfl, h1, by rw [RepL.length r1]; exact hv, ?_⟩
      exact P1 F1 A1 _ (FLe.refl _) (ALe.refl _) (up _ _ (dropLast_rep r1)) v (.of rv)
theorem x_popAt {f g : M D} (hK : X.K = G.K) (k : PE X t (tBM X.K "list" rPopAt (TEof G W f) (tCons (TEof G W g) tNil))) : PE X t (TEof G W (popAtS f g)) := by
  refine PEimp k fun σ H Q ⟨E, F, A, s, R, P⟩ => ⟨E, F, A, s, R, PO.bind P fun x s1 F1 A1 H1 e1 g1 R1 P1 u hu => ?_⟩
  cases q1 : ml? s1 x with
  | none => simp only [q1] at P1; exact P1.elim
  | some lp =>
    simp only [q1] at P1
    obtain ⟨l1, put1⟩ := lp
    obtain ⟨a, vs, rfl, h1, r1, _⟩ := ml_at R1 hu q1
    refine ⟨by rw [hK]; exact tyV_lst h1, E, F1, A1, s1, R1, PO.bind P1 fun y s2 F2 A2 H2 e2 g2 R2 P2 w hw => ?_⟩
    cases y with
    | int i =>
      cases q2 : ml? s2 x with
      | none => simp only [q2] at P2; exact P2.elim
      | some lp2 =>
        obtain ⟨l2, put2⟩ := lp2
        simp only [q2] at P2
        by_cases hb : 0 ≤ i ∧ i < 2 ^ 63
        · rw [if_pos hb] at P2
          cases q3 : l2[i.toNat]? with
          | none => simp only [q3] at P2; exact P2.elim
          | some z =>
            simp only [q3] at P2
            obtain ⟨a2, vs2, ea, h2, r2, up⟩ := ml_at R2 (hu.mono e2 g2) q2
            cases ea
            obtain ⟨v, hv, rv⟩ := RepL.get r2 q3
            have hl := (List.getElem?_eq_some_iff.mp hv).1
            refine ⟨a, vs2, i, i.toNat, v, rfl, by rw [hw.int], h2, by omega, hb.2, ?_, hv, ?_⟩
            · unfold seqIndex?
              have : (i : Int) < vs2.length := by omega
              simp [hb.1, this]
              omega
            · exact P2 F2 A2 _ (FLe.refl _) (ALe.refl _) (up _ _ (erase_rep _ r2)) v (.of rv)
        · rw [if_neg hb] at P2
          exact P2.elim
    | _ => exact P2.elim
def keyQ (t : Bool) (x y : D) : Bool := match t with
  | false => (match keyD x, keyD y with
    | some a, some b => decide (a = b)
    | _, _ => false)
  | true => (match keyT x, keyT y with
    | some a, some b => decide (a = b)
    | _, _ => false)
def isKey (t : Bool) (y : D) : Bool := match t with
  | false => (keyD y).isSome
  | true => (keyT y).isSome
def lookD (t : Bool) (l : List (D × D)) (y : D) : Option D := (l.find? fun p => keyQ t p.1 y).map (·.2)
def putD (t : Bool) (l : List (D × D)) (y z : D) : List (D × D) := if (l.any fun p => keyQ t p.1 y) = true then l.map (fun p => if keyQ t p.1 y = true then (p.1, z) else p) else l ++ [(y, z)]
theorem dct_view (R : Rel G E F A σ H s) {d : D} {v : V} {t : Bool} {l : List (D × D)} (h : VOk G σ F A d v) (q : vw s d = .dct t l) : ∃ a vs o, v = .ref a ∧ RepL2 G F A l vs ∧ Rd H a o ∧ DctAt l vs t o := by
  have mo : ∀ (a : Addr) (m : MO), MoOk G F A H a m → frzD m = .dct t l → ∃ vs o, RepL2 G F A l vs ∧ H a = some o ∧ DctAt l vs t o := fun a m hm q => by
    cases m with
    | ml l => cases q
    | md t' l' =>
      simp only [frzD, D.dct.injEq] at q
      obtain ⟨rfl, rfl⟩ := q
      exact hm
    | mi c fs => cases q
  cases d with
  | loc i =>
    simp only [vw] at q
    cases qi : s.rhz[i]? with
    | none => rw [qi] at q; cases q
    | some x =>
      rw [qi] at q
      cases x with
      | own m =>
        obtain ⟨a, rfl, hm⟩ := vw_loc R h qi
        obtain ⟨vs, o, h1, h2, h3⟩ := mo a m hm q
        exact ⟨a, vs, o, rfl, h1, .inl h2, h3⟩
      | _ => cases q
  | hnd n =>
    simp only [vw] at q
    cases qi : s.muz[n]? with
    | none => rw [qi] at q; cases q
    | some m =>
      rw [qi] at q
      obtain ⟨a, rfl, hm⟩ := vw_hnd R h qi
      obtain ⟨vs, o, h1, h2, h3⟩ := mo a m hm q
      exact ⟨a, vs, o, rfl, h1, .inl h2, h3⟩
  | dct t' l' =>
    simp only [vw, D.dct.injEq] at q
    obtain ⟨rfl, rfl⟩ := q
    have h : Rep G F A (.dct t' l') v := h
    simp only [Rep] at h
    obtain ⟨a, vs, o, h1, h2, h3, h4⟩ := h
    refine ⟨a, vs, o, h1, h2, ?_, h4⟩
    rcases R.sub _ _ h3 with k | ⟨_, od, k⟩
    · exact .inl k
    · exact .inr ⟨od, k⟩
  | _ => cases q
theorem look_K : ∀ {l : List (D × D)} {vs : List V} {ks : List Key} {y : D} {k : Key}, RepL2 G F A l vs → ks.map some = l.map (fun p => keyD p.1) → keyD y = some k →
    (∀ d, lookD false l y = some d → ∃ v, valV (List.zip ks vs) k = some v ∧ Rep G F A d v) ∧ (lookD false l y = none → valV (List.zip ks vs) k = none)
  | [], vs, ks, y, k, r, hk, hy => by
    simp only [RepL2] at r
    subst r
    exact ⟨fun d h => by simp [lookD] at h, fun _ => by simp [valV]⟩
  | (x, z) :: l, vs, ks, y, k, r, hk, hy => by
    simp only [RepL2] at r
    obtain ⟨v, r', rfl, h2, h3⟩ := r
    cases ks with
    | nil => simp at hk
    | cons k0 ks =>
      simp only [List.map_cons, List.cons.injEq] at hk
      obtain ⟨i1, i2⟩ := look_K h3 hk.2 hy
      have eq : keyQ false x y = decide (k0 = k) := by
        unfold keyQ
        rw [← hk.1, hy]
      unfold lookD at i1 i2 ⊢
      unfold valV at i1 i2 ⊢
      rw [List.zip_cons_cons, List.find?_cons, List.find?_cons, eq]
      by_cases q : k0 = k
      · simp only [q, decide_true]
        exact ⟨fun d h => ⟨v, rfl, by simp at h; subst h; exact h2⟩, fun h => by simp at h⟩
      · simp only [q, decide_false]
        exact ⟨i1, i2⟩
theorem look_T : ∀ {l : List (D × D)} {vs : List V} {ks : List (List Key)} {y : D} {k : List Key}, RepL2 G F A l vs → ks.map some = l.map (fun p => keyT p.1) → keyT y = some k →
    (∀ d, lookD true l y = some d → ∃ v, valV (List.zip ks vs) k = some v ∧ Rep G F A d v) ∧ (lookD true l y = none → valV (List.zip ks vs) k = none)
  | [], vs, ks, y, k, r, hk, hy => by
    simp only [RepL2] at r
    subst r
    exact ⟨fun d h => by simp [lookD] at h, fun _ => by simp [valV]⟩
  | (x, z) :: l, vs, ks, y, k, r, hk, hy => by
    simp only [RepL2] at r
    obtain ⟨v, r', rfl, h2, h3⟩ := r
    cases ks with
    | nil => simp at hk
    | cons k0 ks =>
      simp only [List.map_cons, List.cons.injEq] at hk
      obtain ⟨i1, i2⟩ := look_T h3 hk.2 hy
      have eq : keyQ true x y = decide (k0 = k) := by
        unfold keyQ
        rw [← hk.1, hy]
      unfold lookD at i1 i2 ⊢
      unfold valV at i1 i2 ⊢
      rw [List.zip_cons_cons, List.find?_cons, List.find?_cons, eq]
      by_cases q : k0 = k
      · simp only [q, decide_true]
        exact ⟨fun d h => ⟨v, rfl, by simp at h; subst h; exact h2⟩, fun h => by simp at h⟩
      · simp only [q, decide_false]
        exact ⟨i1, i2⟩
theorem keyD_rep {y : D} {k : Key} {v : V} (h : keyD y = some k) (r : Rep G F A y v) : v = kV k := by
  cases y with
  | int i => cases h; simp only [Rep] at r; exact r
  | str i => cases h; simp only [Rep] at r; exact r
  | _ => cases h
theorem keysD_rep : ∀ {ds : List D} {ks : List Key} {vs : List V}, keysD ds = some ks → RepL G F A ds vs → vs = ks.map kV
  | [], ks, vs, h, r => by
    simp only [keysD, Option.some.injEq] at h
    simp only [RepL] at r
    subst h r
    rfl
  | d :: ds, ks, vs, h, r => by
    simp only [RepL] at r
    obtain ⟨v, r', rfl, h2, h3⟩ := r
    simp only [keysD] at h
    cases q1 : keyD d with
    | none => rw [q1] at h; cases h
    | some k =>
      rw [q1] at h
      cases q2 : keysD ds with
      | none => rw [q2] at h; cases h
      | some ks' =>
        rw [q2] at h
        cases h
        rw [keyD_rep q1 h2, keysD_rep q2 h3]
        rfl
theorem keyT_rep {y : D} {k : List Key} {v : V} (hs : Sub F H) (h : keyT y = some k) (r : Rep G F A y v) : ∃ b, v = .ref b ∧ H b = some (.tup (k.map kV)) := by
  cases y with
  | tup ds =>
    simp only [keyT] at h
    simp only [Rep] at r
    obtain ⟨a, vs, h1, h2, h3⟩ := r
    rw [keysD_rep h h3] at h2
    exact ⟨a, h1, hs_tup hs h2⟩
  | _ => cases h
theorem keyD_sto {y : D} {k : Key} (h : keyD y = some k) : sto y = true := by cases y <;> first | rfl | cases h
theorem keyT_sto {y : D} {k : List Key} (h : keyT y = some k) : sto y = true := by cases y <;> first | rfl | cases h
theorem dget (R : Rel G E F A σ H s) {l : List (D × D)} {vs : List V} {t : Bool} {o : HO} {a : Addr} {y : D} {w : V} (r : RepL2 G F A l vs) (ho : Rd H a o) (hd : DctAt l vs t o) (hk : isKey t y = true) (hw : VOk G σ F A y w) :
    (∀ d, lookD t l y = some d → ∃ v, DGet H a w (some v) ∧ Rep G F A d v) ∧ (lookD t l y = none → DGet H a w none) := by
  cases t with
  | false =>
    obtain ⟨ks, rfl, h2, h3⟩ := hd
    simp only [isKey, Option.isSome_iff_exists] at hk
    obtain ⟨k, hk⟩ := hk
    obtain ⟨i1, i2⟩ := look_K r h2 hk
    have ew := keyD_rep hk (hw.rep (keyD_sto hk))
    exact ⟨fun d h => by
      obtain ⟨v, h4, h5⟩ := i1 d h
      exact ⟨v, .inl ⟨_, k, ho, ew, h4.symm⟩, h5⟩, fun h => .inl ⟨_, k, ho, ew, (i2 h).symm⟩⟩
  | true =>
    obtain ⟨ks, rfl, h2, h3⟩ := hd
    simp only [isKey, Option.isSome_iff_exists] at hk
    obtain ⟨k, hk⟩ := hk
    obtain ⟨i1, i2⟩ := look_T r h2 hk
    obtain ⟨b, ew, eb⟩ := keyT_rep R.sub hk (hw.rep (keyT_sto hk))
    exact ⟨fun d h => by
      obtain ⟨v, h4, h5⟩ := i1 d h
      exact ⟨v, .inr ⟨_, k, b, ho, ew, eb, h4.symm⟩, h5⟩, fun h => .inr ⟨_, k, b, ho, ew, eb, (i2 h).symm⟩⟩
def ixKD (s : S) (x y : D) : Option D := match vw s x with
  | .dct t l => if isKey t y then lookD t l y else none
  | _ => none
def ixA (s : S) (x y : D) : Option D := match vw s x with
  | .dct t l => if isKey t y then lookD t l y else none
  | _ => ixD s x y
def rIxDct : R2 := fun x y H Q => ∃ a v, x = .ref a ∧ DGet H a y (some v) ∧ Q v H
theorem ix_dct (hu : X.A.units + 1 < cLine) : IxR X rIxDct := by
  intro value slice pins s σ H x y v u Q I rx ry h hs
  obtain ⟨a, w, rfl, g, q⟩ := h
  cases rx
  exact tail_any (dict_typeIs I g) PySem.F.slot_dict_getitem.lookup (d_getItem hu I g ry fun w' s3 I3 rw' => ⟨w, H, I3, rw', q⟩) hs
def rIxAll (K : PySem.W.Frag) : R2 := fun x y H Q => rIxA K x y H Q ∨ rIxDct x y H Q
theorem ixr_all (hu : X.A.units + 1 < cLine) : IxR X (rIxAll X.K) := IxR.or ix_all (ix_dct hu)
theorem od_ixA (hK : X.K = G.K) : OpD G (rIxAll X.K) ixA := by
  intro E F A σ H s x y dx dy d Q R hx hy q k
  unfold ixA at q
  split at q
  · rename_i t l h1
    split at q
    · rename_i hk
      obtain ⟨a, vs, o, rfl, r, ho, hd⟩ := dct_view R hx h1
      obtain ⟨v, g, rv⟩ := (dget R r ho hd hk hy).1 d q
      exact .inr ⟨a, v, rfl, g, k _ F A H (FLe.refl _) (ALe.refl _) R (.of rv)⟩
    · cases q
  · exact .inl (od_ix hK E F A σ H s x y dx dy d Q R hx hy q k)
def inAB (s : S) (x y : D) : Option Bool := match vw s y with
  | .dct t l => if isKey t x then some (lookD t l x).isSome else none
  | _ => inB s x y
def inA (s : S) (x y : D) : Option D := (inAB s x y).map .bl
def notInA (s : S) (x y : D) : Option D := (inAB s x y).map fun b => .bl (!b)
def rInDct : R2 := fun x y H Q => ∃ a o, y = .ref a ∧ DGet H a x o ∧ Q (.bl o.isSome) H
def rNotInDct : R2 := fun x y H Q => ∃ a o, y = .ref a ∧ DGet H a x o ∧ Q (.bl (!o.isSome)) H
theorem op_inDct (hu : X.A.units + 1 < cLine) : OpR X (compareOp .In) rInDct := by
  intro pins s σ H x y v u Q I rx ry h
  obtain ⟨a, o, rfl, g, q⟩ := h
  cases ry
  exact d_in hu I g rx fun s3 I3 => ⟨.bl _, H, I3, rfl, q⟩
theorem op_notInDct (hu : X.A.units + 1 < cLine) : OpR X (compareOp .NotIn) rNotInDct := by
  intro pins s σ H x y v u Q I rx ry h
  obtain ⟨a, o, rfl, g, q⟩ := h
  cases ry
  exact d_notIn hu I g rx fun s3 I3 => ⟨.bl _, H, I3, rfl, q⟩
def rInAll (K : PySem.W.Frag) : R2 := fun x y H Q => rInA K x y H Q ∨ rInDct x y H Q
def rNotInAll (K : PySem.W.Frag) : R2 := fun x y H Q => rNotInA K x y H Q ∨ rNotInDct x y H Q
theorem or_inA (hu : X.A.units + 65 < cLine) : OpR X (compareOp .In) (rInAll X.K) := OpR.or (or_in hu) (op_inDct (by omega))
theorem or_notInA (hu : X.A.units + 65 < cLine) : OpR X (compareOp .NotIn) (rNotInAll X.K) := OpR.or (or_notIn hu) (op_notInDct (by omega))
theorem od_inA (hK : X.K = G.K) : OpD G (rInAll X.K) inA := by
  intro E F A σ H s x y dx dy d Q R hx hy q k
  unfold inA inAB at q
  split at q
  · rename_i t l h1
    split at q
    · rename_i hk
      cases q
      obtain ⟨a, vs, o, rfl, r, ho, hd⟩ := dct_view R hy h1
      obtain ⟨g1, g2⟩ := dget R r ho hd hk hx
      cases ql : lookD t l dx with
      | none => exact .inr ⟨a, none, rfl, g2 ql, by rw [ql] at k; exact k _ F A H (FLe.refl _) (ALe.refl _) R vok_bl⟩
      | some d =>
        obtain ⟨v, g, _⟩ := g1 d ql
        exact .inr ⟨a, some v, rfl, g, by rw [ql] at k; exact k _ F A H (FLe.refl _) (ALe.refl _) R vok_bl⟩
    · cases q
  · exact .inl (od_in hK E F A σ H s x y dx dy d Q R hx hy q k)
theorem od_notInA (hK : X.K = G.K) : OpD G (rNotInAll X.K) notInA := by
  intro E F A σ H s x y dx dy d Q R hx hy q k
  unfold notInA inAB at q
  split at q
  · rename_i t l h1
    split at q
    · rename_i hk
      cases q
      obtain ⟨a, vs, o, rfl, r, ho, hd⟩ := dct_view R hy h1
      obtain ⟨g1, g2⟩ := dget R r ho hd hk hx
      cases ql : lookD t l dx with
      | none => exact .inr ⟨a, none, rfl, g2 ql, by rw [ql] at k; exact k _ F A H (FLe.refl _) (ALe.refl _) R vok_bl⟩
      | some d =>
        obtain ⟨v, g, _⟩ := g1 d ql
        exact .inr ⟨a, some v, rfl, g, by rw [ql] at k; exact k _ F A H (FLe.refl _) (ALe.refl _) R vok_bl⟩
    · cases q
  · exact .inl (od_notIn hK E F A σ H s x y dx dy d Q R hx hy q k)
end
end AG

set_option Elab.async false
set_option linter.all false
set_option maxRecDepth 100000
namespace AG
open PySem L2 PyProof.Rows
section
variable {G : Cfg} {E : Ent} {W : WX} {X : Cx} {F : Hp} {A : Adr} {σ : L2.St} {H : Hp} {s : S} {t : Expr} {st : Stmt}

theorem zip_put {κ : Type} [DecidableEq κ] {l : List (D × D)} {vs : List V} {ks : List κ} {kf : D → Option κ} {q : D → D → Bool} {y z : D} {k : κ} {v : V} (hq : ∀ x k0, kf x = some k0 → q x y = decide (k0 = k)) (r : RepL2 G F A l vs) (hk : ks.map some = l.map (fun p => kf p.1)) (hl : ks.length = vs.length)
    (hy : kf y = some k) (hz : Rep G F A z v) : ∃ ks' vs', putK (List.zip ks vs) k v = List.zip ks' vs' ∧ RepL2 G F A (if (l.any fun p => q p.1 y) = true then l.map (fun p => if q p.1 y = true then (p.1, z) else p) else l ++ [(y, z)]) vs' ∧
    ks'.map some = (if (l.any fun p => q p.1 y) = true then l.map (fun p => if q p.1 y = true then (p.1, z) else p) else l ++ [(y, z)]).map (fun p => kf p.1) ∧ ks'.length = vs'.length := by
  have any_eq : ∀ (l : List (D × D)) (vs : List V) (ks : List κ), ks.map some = l.map (fun p => kf p.1) → ks.length = vs.length → (l.any fun p => q p.1 y) = ((List.zip ks vs).any fun kv => decide (kv.1 = k)) := by
    intro l
    induction l with
    | nil => intro vs ks hk hl; cases ks with
      | nil => rfl
      | cons a b => simp at hk
    | cons p l ih => intro vs ks hk hl; cases ks with
      | nil => simp at hk
      | cons k0 ks => cases vs with
        | nil => simp at hl
        | cons w vs =>
          simp only [List.map_cons, List.cons.injEq] at hk
          rw [List.any_cons, List.zip_cons_cons, List.any_cons, ih vs ks hk.2 (by simpa using hl), hq _ _ hk.1.symm]
  have map_put : ∀ (l : List (D × D)) (vs : List V) (ks : List κ), RepL2 G F A l vs → ks.map some = l.map (fun p => kf p.1) → ks.length = vs.length →
      ∃ vs', (List.zip ks vs).map (fun kv => if kv.1 = k then (kv.1, v) else kv) = List.zip ks vs' ∧ RepL2 G F A (l.map fun p => if q p.1 y = true then (p.1, z) else p) vs' ∧ ks.map some = (l.map fun p => if q p.1 y = true then (p.1, z) else p).map (fun p => kf p.1) ∧ ks.length = vs'.length := by
    intro l
    induction l with
    | nil => intro vs ks r hk hl; cases ks with
      | nil => exact ⟨[], rfl, by simp [RepL2], rfl, rfl⟩
      | cons a b => simp at hk
    | cons p l ih => intro vs ks r hk hl; cases ks with
      | nil => simp at hk
      | cons k0 ks => cases vs with
        | nil => simp at hl
        | cons w vs =>
          simp only [List.map_cons, List.cons.injEq] at hk
          simp only [RepL2] at r
          obtain ⟨w', r', e, h2, h3⟩ := r
          cases e
          obtain ⟨vs', i1, i2, i3, i4⟩ := ih vs ks h3 hk.2 (by simpa using hl)
          have hq0 := hq _ _ hk.1.symm
          by_cases e : k0 = k
          · refine ⟨v :: vs', ?_, ?_, ?_, by simp [i4]⟩
            · rw [List.zip_cons_cons, List.map_cons, i1]
              simp [e]
            · rw [List.map_cons, hq0]
              simp only [e, decide_true, if_true, RepL2]
              exact ⟨v, vs', rfl, hz, i2⟩
            · rw [List.map_cons, List.map_cons, hq0]
              simp only [e, decide_true, if_true, List.map_cons]
              rw [← i3, ← hk.1, e]
          · refine ⟨w :: vs', ?_, ?_, ?_, by simp [i4]⟩
            · rw [List.zip_cons_cons, List.map_cons, i1]
              simp [e]
            · rw [List.map_cons, hq0]
              simp only [e, decide_false, Bool.false_eq_true, if_false, RepL2]
              exact ⟨w, vs', rfl, h2, i2⟩
            · rw [List.map_cons, List.map_cons, hq0]
              simp only [e, decide_false, Bool.false_eq_true, if_false, List.map_cons]
              rw [← i3, ← hk.1]
  have app2 : ∀ (l : List (D × D)) (vs : List V), RepL2 G F A l vs → RepL2 G F A (l ++ [(y, z)]) (vs ++ [v]) := by
    intro l
    induction l with
    | nil => intro vs r; simp only [RepL2] at r; subst r; simp only [List.nil_append, RepL2]; exact ⟨v, [], rfl, hz, rfl⟩
    | cons p l ih => intro vs r; simp only [RepL2] at r; obtain ⟨w, r', rfl, h2, h3⟩ := r; simp only [List.cons_append, RepL2]; exact ⟨w, _, rfl, h2, ih _ h3⟩
  unfold putK
  rw [← any_eq l vs ks hk hl]
  by_cases ha : (l.any fun p => q p.1 y) = true
  · rw [if_pos ha, if_pos ha]
    obtain ⟨vs', i1, i2, i3, i4⟩ := map_put l vs ks r hk hl
    exact ⟨ks, vs', i1, i2, i3, i4⟩
  · rw [if_neg ha, if_neg ha]
    refine ⟨ks ++ [k], vs ++ [v], ?_, app2 l vs r, by simp [hk, hy], by simp [hl]⟩
    rw [List.zip_append hl]
    rfl
theorem zip_len {κ : Type} {l : List (D × D)} {vs : List V} {ks : List κ} {kf : D → Option κ} (hk : ks.map some = l.map (fun p => kf p.1)) (hl : ks.length = vs.length) : (List.zip ks vs).length = l.length := by
  have h1 : ks.length = l.length := by simpa using congrArg List.length hk
  rw [List.length_zip, ← hl, h1, Nat.min_self]
theorem md_at (R : Rel G E F A σ H s) {d : D} {v : V} {b : Bool} {l : List (D × D)} {put : List (D × D) → S} (h : VOk G σ F A d v) (q : md? s d = some (b, l, put)) : ∃ a vs o, v = .ref a ∧ H a = some o ∧ RepL2 G F A l vs ∧ DctAt l vs b o ∧
    ∀ l' vs' o', RepL2 G F A l' vs' → DctAt l' vs' b o' → Rel G E F A σ (upd H a o') (put l') := by
  cases d with
  | loc i =>
    simp only [md?] at q
    split at q
    · rename_i b0 l0 hi
      cases q
      obtain ⟨a, rfl, hm⟩ := vw_loc R h hi
      obtain ⟨vs, o, h1, h2, h3⟩ := hm
      exact ⟨a, vs, o, rfl, h2, h1, h3, fun l' vs' o' r d => R.updOwn hi h ⟨vs', o', r, upd_same, d⟩⟩
    · cases q
  | hnd n =>
    simp only [md?] at q
    split at q
    · rename_i b0 l0 hi
      cases q
      obtain ⟨a, rfl, hm⟩ := vw_hnd R h hi
      obtain ⟨vs, o, h1, h2, h3⟩ := hm
      have h : Rep G F A (.hnd n) (.ref a) := h
      simp only [Rep] at h
      obtain ⟨b, h5, h4⟩ := h
      cases h4
      exact ⟨a, vs, o, rfl, h2, h1, h3, fun l' vs' o' r d => R.updHnd hi h5 ⟨vs', o', r, upd_same, d⟩⟩
    · cases q
  | _ => cases q
def dputS (fv fd fk : M D) : M Fl := fun s => (fv s).bind fun z s1 => (fd s1).bind fun x s2 => (fk s2).bind fun y s3 => match md? s3 x with
  | some (t, l, put) => if sto z && isKey t y && decide (l.length < LIM) then .ok .nx (put (putD t l y z)) else .st
  | none => .st
theorem dput (R : Rel G E F A σ H s) {d y z : D} {x w v : V} {b : Bool} {l : List (D × D)} {put : List (D × D) → S} (hx : VOk G σ F A d x) (q : md? s d = some (b, l, put)) (hw : VOk G σ F A y w) (hz : Rep G F A z v) (hk : isKey b y = true) (hl : l.length < LIM) :
    ∃ a H', x = .ref a ∧ DPut H a w v H' ∧ Rel G E F A σ H' (put (putD b l y z)) := by
  obtain ⟨a, vs, o, rfl, h1, r, hd, up⟩ := md_at R hx q
  cases b with
  | false =>
    obtain ⟨ks, rfl, h2, h3⟩ := hd
    simp only [isKey, Option.isSome_iff_exists] at hk
    obtain ⟨k, hk⟩ := hk
    obtain ⟨ks', vs', e1, r2, h4, h5⟩ := zip_put (q := keyQ false) (z := z) (v := v) (fun x k0 hx => by unfold keyQ; rw [hx, hk]) r h2 h3 hk hz
    refine ⟨a, _, rfl, .inl ⟨_, k, h1, keyD_rep hk (hw.rep (keyD_sto hk)), ?_, rfl⟩, ?_⟩
    · rw [zip_len h2 h3]
      exact Nat.lt_of_lt_of_le hl (by decide)
    · rw [e1]
      exact up _ _ _ r2 ⟨ks', rfl, h4, h5⟩
  | true =>
    obtain ⟨ks, rfl, h2, h3⟩ := hd
    simp only [isKey, Option.isSome_iff_exists] at hk
    obtain ⟨k, hk⟩ := hk
    obtain ⟨ks', vs', e1, r2, h4, h5⟩ := zip_put (q := keyQ true) (z := z) (v := v) (fun x k0 hx => by unfold keyQ; rw [hx, hk]) r h2 h3 hk hz
    obtain ⟨b, ew, eb⟩ := keyT_rep R.sub hk (hw.rep (keyT_sto hk))
    refine ⟨a, _, rfl, .inr ⟨_, k, b, h1, ew, eb, ?_, rfl⟩, ?_⟩
    · rw [zip_len h2 h3]
      exact Nat.lt_of_lt_of_le hl (by decide)
    · rw [e1]
      exact up _ _ _ r2 ⟨ks', rfl, h4, h5⟩
theorem s_dput {fv fd fk : M D} (k : PS X st (sDPut (TEof G W fd) (TEof G W fk) (TEof G W fv))) : PS X st (TSof G W (dputS fv fd fk)) := by
  refine PSimp k fun D σ H ⟨E, F, A, s, R, P⟩ => ⟨E, F, A, s, R, PostS.bind P fun z s1 F1 A1 H1 e1 g1 R1 P1 v hv => ⟨E, F1, A1, s1, R1, PostS.bind P1 fun x s2 F2 A2 H2 e2 g2 R2 P2 u hu => ⟨E, F2, A2, s2, R2, PostS.bind P2 fun y s3 F3 A3 H3 e3 g3 R3 P3 w hw => ?_⟩⟩⟩
  cases q : md? s3 x with
  | none => simp only [q] at P3; exact P3.elim
  | some r =>
    obtain ⟨t, l, put⟩ := r
    simp only [q] at P3
    cases qq : (sto z && isKey t y && decide (l.length < LIM)) with
    | false => rw [qq] at P3; exact P3.elim
    | true =>
      rw [qq] at P3
      simp only [if_true] at P3
      simp only [Bool.and_eq_true, decide_eq_true_eq] at qq
      obtain ⟨a, H', rfl, hd, R4⟩ := dput R3 (hu.mono e3 g3) q hw (((hv.mono e2 g2).mono e3 g3).rep qq.1.1) qq.1.2 qq.2
      exact ⟨a, H', rfl, hd, P3 σ F3 A3 H' (FLe.refl _) (ALe.refl _) R4⟩
def newDF (t : Bool) : M MO := fun s => .ok (.md t []) s
theorem f_dnewK (k : PE X t tDNewK) : PE X t (TFof G W (newDF false)) := by
  refine PEimp k fun σ H Q ⟨E, F, A, s, R, P⟩ p hp => ?_
  obtain ⟨R2, k1, k2, k3, k4⟩ := R.laid (o := .dK []) hp
  exact P F A _ (FLe.refl _) (ALe.refl _) R2 p ⟨⟨[], _, by simp [RepL2], upd_same, ⟨[], rfl, rfl, rfl⟩⟩, k1, k2, k3, k4⟩
theorem f_dnewT (k : PE X t tDNewT) : PE X t (TFof G W (newDF true)) := by
  refine PEimp k fun σ H Q ⟨E, F, A, s, R, P⟩ p hp => ?_
  obtain ⟨R2, k1, k2, k3, k4⟩ := R.laid (o := .dT []) hp
  exact P F A _ (FLe.refl _) (ALe.refl _) R2 p ⟨⟨[], _, by simp [RepL2], upd_same, ⟨[], rfl, rfl, rfl⟩⟩, k1, k2, k3, k4⟩
def pnilS : M (List (D × D)) := fun s => .ok [] s
def pconsS (f g : M D) (r : M (List (D × D))) : M (List (D × D)) := fun s => (f s).bind fun x s1 => (g s1).bind fun y s2 => (r s2).bind fun ps s3 => .ok ((x, y) :: ps) s3
def okP (G : Cfg) (σ : L2.St) (Q : List (V × V) → Hp → Prop) : List (D × D) → S → Hp → Adr → Hp → Prop := fun ds _ F A H => ∀ vs, Paired (fun (d : D × D) (v : V × V) => VOk G σ F A d.1 v.1 ∧ VOk G σ F A d.2 v.2) ds vs → Q vs H
def dispF (f : M (List (D × D))) : M MO := fun s => (f s).bind fun ps s1 => if ps.all (fun p => sto p.1 && sto p.2 && isKey false p.1) && decide (ps.length ≤ 15) then .ok (.md false (ps.foldl (fun l p => putD false l p.1 p.2) [])) s1 else .st
def TPof (G : Cfg) (W : WX) (f : M (List (D × D))) : L2.St → Hp → (List (V × V) → Hp → Prop) → Prop := fun σ H Q => ∃ E F A s, Rel G E F A σ H s ∧ PO G E W σ (okP G σ Q) F A (f s)
def PDs (G : Cfg) (W : WX) (trs : List (TE × TE)) (f : M (List (D × D))) : Prop := ∀ σ H Q, TPof G W f σ H Q → tPairs trs σ H Q
theorem p_nil : PDs G W [] pnilS := fun σ H Q ⟨E, F, A, s, R, P⟩ => P.ok_here R [] .nil
theorem pairs_mono {ds : List (D × D)} {vs : List (V × V)} {F' : Hp} {A' : Adr} (h : Paired (fun (d : D × D) (v : V × V) => VOk G σ F A d.1 v.1 ∧ VOk G σ F A d.2 v.2) ds vs) (e : FLe F F') (g : ALe A A') :
    Paired (fun (d : D × D) (v : V × V) => VOk G σ F' A' d.1 v.1 ∧ VOk G σ F' A' d.2 v.2) ds vs := L2.Paired.mapP h fun _ _ z => ⟨z.1.mono e g, z.2.mono e g⟩
theorem p_cons {f g : M D} {r : M (List (D × D))} {trs : List (TE × TE)} (h : PDs G W trs r) : PDs G W ((TEof G W f, TEof G W g) :: trs) (pconsS f g r) := fun σ H Q ⟨E, F, A, s, R, P⟩ =>
  ⟨E, F, A, s, R, PO.bind P fun x s1 F1 A1 H1 e1 g1 R1 P1 u hu => ⟨E, F1, A1, s1, R1, PO.bind P1 fun y s2 F2 A2 H2 e2 g2 R2 P2 v hv => h σ H2 _ ⟨E, F2, A2, s2, R2, PO.bind P2 fun ps s3 F3 A3 H3 e3 g3 R3 P3 vs hvs => P3.ok_here R3 _ (.cons ⟨(hu.mono e2 g2).mono e3 g3, hv.mono e3 g3⟩ hvs)⟩⟩⟩
theorem merge_ok : ∀ {ps : List (D × D)} {vs : List (V × V)} {l : List (D × D)} {ws : List V} {ks : List Key}, Paired (fun (d : D × D) (v : V × V) => VOk G σ F A d.1 v.1 ∧ VOk G σ F A d.2 v.2) ps vs → ps.all (fun p => sto p.1 && sto p.2 && isKey false p.1) = true →
    RepL2 G F A l ws → ks.map some = l.map (fun p => keyD p.1) → ks.length = ws.length →
    ∃ kvs : List (Key × V), vs = kvs.map (fun kv => (kV kv.1, kv.2)) ∧ kvs.length = ps.length ∧ ∃ ks' ws', mergeK (List.zip ks ws) kvs = List.zip ks' ws' ∧ RepL2 G F A (ps.foldl (fun l p => putD false l p.1 p.2) l) ws' ∧
      ks'.map some = (ps.foldl (fun l p => putD false l p.1 p.2) l).map (fun p => keyD p.1) ∧ ks'.length = ws'.length
  | [], _, l, ws, ks, .nil, _, r, hk, hl => ⟨[], rfl, rfl, ks, ws, rfl, r, hk, hl⟩
  | (y, z) :: ps, _, l, ws, ks, .cons (b := v) h t, q, r, hk, hl => by
    simp only [List.all_cons, Bool.and_eq_true] at q
    obtain ⟨⟨⟨q1, q2⟩, q3⟩, q4⟩ := q
    simp only [isKey, Option.isSome_iff_exists] at q3
    obtain ⟨k, hy⟩ := q3
    obtain ⟨ks1, ws1, e1, r1, hk1, hl1⟩ := zip_put (q := keyQ false) (z := z) (v := v.2) (fun x k0 hx => by unfold keyQ; rw [hx, hy]) r hk hl hy (h.2.rep q2)
    obtain ⟨kvs, e2, l2, ks', ws', e3, r3, hk3, hl3⟩ := merge_ok (l := putD false l y z) t q4 r1 hk1 hl1
    refine ⟨(k, v.2) :: kvs, ?_, by simp [l2], ks', ws', ?_, r3, hk3, hl3⟩
    · rw [List.map_cons, ← e2]
      have := keyD_rep hy (h.1.rep q1)
      rw [show v = (v.1, v.2) from rfl, this]
    · show mergeK (putK (List.zip ks ws) k v.2) kvs = _
      rw [e1]
      exact e3
theorem f_disp {f : M (List (D × D))} {trs : List (TE × TE)} (h : PDs G W trs f) (k : PE X t (tDisp trs)) : PE X t (TFof G W (dispF f)) := by
  refine PEimp k fun σ H Q ⟨E, F, A, s, R, P⟩ p hp => ?_
  obtain ⟨R2, k1, k2, k3, k4⟩ := R.laid (o := .dK []) hp
  have N : New G E F A σ (upd H p (.dK [])) s p (.md false []) := ⟨⟨[], _, by simp [RepL2], upd_same, ⟨[], rfl, rfl, rfl⟩⟩, k1, k2, k3, k4⟩
  have ef : E.F p = none := by
    cases qf : E.F p with
    | none => rfl
    | some u =>
      have kk := R.fle _ _ qf
      rw [k1] at kk
      cases kk
  have ea : ∀ n, E.A n ≠ some p := fun n z => k3 n (R.ale _ _ z)
  refine h σ _ _ ⟨_, F, A, s, R2.pin N upd_same, ?_⟩
  have P' : PO G E W σ (okF G E σ Q) F A (dispF f s) := P
  unfold dispF at P'
  cases qf : f s with
  | st => rw [qf] at P'; exact P'
  | err er s1 => rw [qf] at P'; exact fun F' A' H' dd e g R' => P' F' A' H' dd e g (R'.unpin k2 ef ea).1
  | ok ps s1 =>
    rw [qf] at P'
    simp only [O.bind_ok] at P'
    intro F1 A1 H1 e1 g1 R1 vs hvs
    obtain ⟨R3, j1, j2, j3, j4⟩ := R1.unpin k2 ef ea
    cases qq : (ps.all (fun p => sto p.1 && sto p.2 && isKey false p.1) && decide (ps.length ≤ 15)) with
    | false => rw [qq] at P'; exact P'.elim
    | true =>
      rw [qq] at P'
      simp only [if_true] at P'
      simp only [Bool.and_eq_true, decide_eq_true_eq] at qq
      obtain ⟨kvs, h1, h2, ks', ws', h3, h4, h5, h6⟩ := merge_ok (l := []) (ws := []) (ks := []) hvs qq.1 (by simp [RepL2]) rfl rfl
      refine ⟨j1, kvs, h1, by rw [h2]; exact qq.2, ?_⟩
      have h3' : mergeK [] kvs = List.zip ks' ws' := h3
      rw [h3']
      exact P' F1 A1 _ e1 g1 (R3.write j2 k2 j3 j4) p ⟨⟨ws', _, h4, upd_same, ⟨ks', rfl, h5, h6⟩⟩, j2, k2, j3, j4⟩
def itStr (f : M D) : M (List D) := fun s => (f s).bind fun d s1 => match d with
  | .str x => .ok (x.cps.toList.map fun c => .str ⟨#[c]⟩) s1
  | _ => .st
def itRng (f : M D) : M (List D) := fun s => (f s).bind fun d s1 => match d with
  | .int j => if -(2 ^ 62) ≤ j ∧ j < 2 ^ 62 then .ok ((List.range j.toNat).map fun i => .int (i : Nat)) s1 else .st
  | _ => .st
def itRng2 (f g : M D) : M (List D) := fun s => (f s).bind fun d s1 => (g s1).bind fun d2 s2 => match d, d2 with
  | .int i, .int j => if -(2 ^ 62) ≤ i ∧ i < 2 ^ 62 ∧ -(2 ^ 62) ≤ j ∧ j < 2 ^ 62 then .ok ((List.range (j - i).toNat).map fun k => .int (i + (k : Nat))) s2 else .st
  | _, _ => .st
end
end AG

set_option Elab.async false
set_option linter.all false
set_option maxRecDepth 100000
namespace AG
open PySem L2 PyProof.Rows
section
variable {G : Cfg} {E : Ent} {W : WX} {X : Cx} {F : Hp} {A : Adr} {σ : L2.St} {H : Hp} {s : S} {t a b : Expr} {st : Stmt} {f g : M D}
theorem i_str (k : PI X a b (iStr (TEof G W f))) : PI X a b (TIof G W (itStr f)) := by
  refine ⟨fun pins s σ H R I hw => ?_⟩
  obtain ⟨E, F, A, s0, Rl, P⟩ := hw
  refine k.run pins s σ H R I ⟨E, F, A, s0, Rl, PO.bind P fun d s1 F1 A1 H1 e1 g1 R1 P1 v hv => ?_⟩
  cases d with
  | str x =>
    refine ⟨x, hv.str, P1.ok_here R1 _ fun E' F' A' σ' H' s' e g R' => ?_⟩
    refine ⟨fun i hi => (show x.cps.size ≤ i by simpa using hi), fun i d hd => ?_⟩
    rw [List.getElem?_map] at hd
    cases q : x.cps.toList[i]? with
    | none => rw [q] at hd; cases hd
    | some c =>
      rw [q] at hd
      cases hd
      have q' : x.cps[i]? = some c := by rw [← Array.getElem?_toList]; exact q
      refine ⟨(show i < x.cps.size by
        have := (List.getElem?_eq_some_iff.mp q).1
        simpa using this), fun w H2 y => ?_⟩
      obtain ⟨rfl, c', h1, rfl⟩ := y
      rw [q'] at h1
      cases h1
      exact ⟨F', FLe.refl _, R', by simp [Rep]⟩
  | _ => exact P1.elim
theorem itr_ok (lo : Int) (n : Nat) {F1 : Hp} {A1 : Adr} : ItOk G F1 A1 (Itr lo n) ((List.range n).map fun k => .int (lo + (k : Nat))) := fun E' F' A' σ' H' s' e g R' => by
  refine ⟨fun i hi => (show n ≤ i by simpa using hi), fun i d hd => ?_⟩
  rw [List.getElem?_map] at hd
  cases q : (List.range n)[i]? with
  | none => rw [q] at hd; cases hd
  | some c =>
    rw [q] at hd
    cases hd
    have hl : i < n := by
      have := (List.getElem?_eq_some_iff.mp q).1
      simpa using this
    have ec : c = i := by
      rw [List.getElem?_range hl] at q
      exact (Option.some.inj q).symm
    subst ec
    refine ⟨hl, fun w H2 y => ?_⟩
    obtain ⟨rfl, rfl⟩ := y
    exact ⟨F', FLe.refl _, R', by simp [Rep]⟩
theorem i_rng (k : PI X a b (iRng1 (tCons (TEof G W f) tNil))) : PI X a b (TIof G W (itRng f)) := by
  refine ⟨fun pins s σ H R I hw => ?_⟩
  obtain ⟨E, F, A, s0, Rl, P⟩ := hw
  refine k.run pins s σ H R I ⟨E, F, A, s0, Rl, PO.bind P fun d s1 F1 A1 H1 e1 g1 R1 P1 v hv => ?_⟩
  cases d with
  | int j =>
    by_cases q : -(2 ^ 62) ≤ j ∧ j < 2 ^ 62
    · simp only [if_pos q] at P1
      refine ⟨j, by rw [hv.int], q.1, q.2, P1.ok_here R1 _ ?_⟩
      have h := itr_ok (G := G) 0 j.toNat (F1 := F1) (A1 := A1)
      simpa using h
    · simp only [if_neg q] at P1
      exact P1.elim
  | _ => exact P1.elim
theorem i_rng2 (k : PI X a b (iRng2 (tCons (TEof G W f) (tCons (TEof G W g) tNil)))) : PI X a b (TIof G W (itRng2 f g)) := by
  refine ⟨fun pins s σ H R I hw => ?_⟩
  obtain ⟨E, F, A, s0, Rl, P⟩ := hw
  refine k.run pins s σ H R I ⟨E, F, A, s0, Rl, PO.bind P fun d s1 F1 A1 H1 e1 g1 R1 P1 v hv => ⟨E, F1, A1, s1, R1, PO.bind P1 fun d2 s2 F2 A2 H2 e2 g2 R2 P2 v2 hv2 => ?_⟩⟩
  cases d with
  | int i =>
    cases d2 with
    | int j =>
      by_cases q : -(2 ^ 62) ≤ i ∧ i < 2 ^ 62 ∧ -(2 ^ 62) ≤ j ∧ j < 2 ^ 62
      · simp only [if_pos q] at P2
        exact ⟨i, j, by rw [hv.int, hv2.int], q, P2.ok_here R2 _ (itr_ok i _)⟩
      · simp only [if_neg q] at P2
        exact P2.elim
    | _ => exact P2.elim
  | _ => exact P2.elim
def tyN : D → Option String
  | .non => some "NoneType"
  | .bl _ => some "bool"
  | .int _ => some "int"
  | .str _ => some "str"
  | .tup _ => some "tuple"
  | .lst _ => some "list"
  | .dct _ _ => some "dict"
  | _ => none
def isiD (T : String) (s : S) (x : D) : Option D := match tyN (vw s x) with
  | some n => (kitB n T).map .bl
  | none => none
def TyG (K : PySem.W.Frag) (H : Hp) (x : V) (t : Value) : Prop := TyX K H x t ∨ (∃ a o kvs, x = .ref a ∧ H a = some (.frz o (.dT kvs)) ∧ t = .type "dict")
theorem ty_view (R : Rel G E F A σ H s) {d : D} {v : V} {n : String} (h : VOk G σ F A d v) (q : tyN (vw s d) = some n) : TyG G.K H v (.type n) := by
  cases qv : vw s d with
  | non =>
    rw [qv] at q; cases q
    cases d with
    | non => rw [h.non]; exact .inl (.base .non)
    | loc i => simp only [vw] at qv; split at qv
               · rename_i m _; cases m <;> cases qv
               · cases qv
    | hnd i => simp only [vw] at qv; split at qv
               · rename_i m _; cases m <;> cases qv
               · cases qv
    | _ => cases qv
  | bl b => rw [qv] at q; cases q; rw [h.bl' qv]; exact .inl (.base (.bl b))
  | int i => rw [qv] at q; cases q; rw [h.int' qv]; exact .inl (.base (.int i))
  | str x => rw [qv] at q; cases q; rw [h.str' qv]; exact .inl (.base (.str x))
  | tup l =>
    rw [qv] at q; cases q
    obtain ⟨a, vs, rfl, _, h2, _⟩ := tup_view R h qv
    exact .inl (.base (.tup h2))
  | lst l =>
    rw [qv] at q; cases q
    obtain ⟨a, vs, rfl, h2, _⟩ := lst_view R h qv
    exact .inl (.base (.lst h2))
  | dct t l =>
    rw [qv] at q; cases q
    obtain ⟨a, vs, o, rfl, _, ho, hd⟩ := dct_view R h qv
    cases t with
    | false =>
      obtain ⟨ks, rfl, _⟩ := hd
      rcases ho with ho | ⟨od, ho⟩
      · exact .inl (.base (.dK ho))
      · exact .inl (.fDict ho)
    | true =>
      obtain ⟨ks, rfl, _⟩ := hd
      rcases ho with ho | ⟨od, ho⟩
      · exact .inl (.base (.dT ho))
      · exact .inr ⟨a, od, _, rfl, ho, rfl⟩
  | _ => rw [qv] at q; cases q
def rIsiG (K : PySem.W.Frag) : List V → Hp → VK → Prop := fun xs H Q => ∃ (x c : V) (t u : Value) (b : Bool), xs = [x, c] ∧ ClsV c u ∧ TyG K H x t ∧ PySem.W.kitOne K t u = some b ∧ Q (.bl b) H
theorem cr_isi : CallR X (.builtin "isinstance") (rIsiG X.K) := by
  intro pins s σ H xs us Q I r h
  obtain ⟨x, c, t, u, b, rfl, k, ty, e, q⟩ := h
  rcases ty with ty | ⟨a, o, kvs, rfl, ea, rfl⟩
  · exact call_isi pins s σ H _ us Q I r ⟨x, c, t, u, b, rfl, k, ty, e, q⟩
  · obtain ⟨u1, u2, rfl, r1, r2⟩ := vals2 r
    have e2 := k.eq r2
    subst e2
    cases (show u1 = Value.ref a from r1)
    obtain ⟨_, _, _, xs, _, o2, es, ep, h1, h2, _⟩ := (show ObjOk X.prog X.w H s.heap a (.frz o (.dT kvs)) from I.hok a _ ea)
    exact PySem.W.kia_one PySem.W.kitx_dict I.kIn ⟨o2, h1, h2.1⟩ e (fun z => nomatch z) fun tk => ⟨.bl b, H, I.tok tk, rfl, q⟩
def isiS (T : String) (f : M D) : M D := unS (isiD T) f
theorem x_isi {T : String} (hK : X.K = G.K) (k : PE X t (tCB (rIsiG X.K) (tCons (TEof G W f) (tCons (tC (.ty T)) tNil)))) : PE X t (TEof G W (isiS T f)) := by
  refine PEimp k fun σ H Q ⟨E, F, A, s, R, P⟩ => ⟨E, F, A, s, R, PO.bind P fun x s1 F1 A1 H1 e1 g1 R1 P1 u hu => ?_⟩
  cases q : isiD T s1 x with
  | none => simp only [q] at P1; exact P1.elim
  | some d =>
    simp only [q] at P1
    unfold isiD at q
    cases qn : tyN (vw s1 x) with
    | none => rw [qn] at q; cases q
    | some n =>
      rw [qn] at q
      simp only [Option.map_eq_some_iff] at q
      obtain ⟨b, h1, rfl⟩ := q
      exact ⟨u, .ty T, .type n, .type T, b, rfl, .ty T, by rw [hK]; exact ty_view R1 hu qn, kit_ty h1, P1.ok_here R1 _ vok_bl⟩
def strsOf : List D → Option (List Str)
  | [] => some []
  | .str b :: r => (strsOf r).map (b :: ·)
  | _ => none
theorem strsOf_map : ∀ {l : List D} {bs : List Str}, strsOf l = some bs → l = bs.map D.str
  | [], bs, h => by
    simp only [strsOf, Option.some.injEq] at h
    subst h
    rfl
  | d :: r, bs, h => by
    cases d with
    | str b =>
      simp only [strsOf, Option.map_eq_some_iff] at h
      obtain ⟨bs', h1, rfl⟩ := h
      rw [strsOf_map h1]
      rfl
    | _ => simp [strsOf] at h
def seqO : D → Option (List D)
  | .lst l => some l
  | .tup l => some l
  | _ => none
def m1S (op : S → Str → D → Option D) (f g : M D) : M D := fun s => (f s).bind fun x s1 => match x with
  | .str a => (g s1).bind fun y s2 => (match op s2 a y with
    | some d => .ok d s2
    | none => .st)
  | _ => .st
def joinD (s : S) (a : Str) (y : D) : Option D := match seqO (vw s y) with
  | some l => (match strsOf l with
    | some ys => if (ys.map (·.length)).sum + ys.length * a.length ≤ LIM then some (.str (Txt.join a ys)) else none
    | none => none)
  | _ => none
def rJoin (K : PySem.W.Frag) : V → List V → Hp → VK → Prop := fun x xs H Q => ∃ a p, ∃ ys : List Str, x = .str a ∧ xs = [.ref p] ∧ (SqL K H p (ys.map V.str) ∨ SqT K H p (ys.map V.str)) ∧ (ys.map (·.length)).sum + ys.length * a.length ≤ 16777216 ∧ Q (.str (Txt.join a ys)) H
theorem seq_view (R : Rel G E F A σ H s) {d : D} {v : V} {l : List D} (h : VOk G σ F A d v) (q : seqO (vw s d) = some l) : ∃ a vs, v = .ref a ∧ (SqL G.K H a vs ∨ SqT G.K H a vs) ∧ RepL G F A l vs := by
  cases qv : vw s d with
  | lst l' =>
    rw [qv] at q; cases q
    obtain ⟨a, vs, rfl, h2, r⟩ := lst_view R h qv
    exact ⟨a, vs, rfl, .inl (.of h2), r⟩
  | tup l' =>
    rw [qv] at q; cases q
    obtain ⟨a, vs, rfl, _, h2, r⟩ := tup_view R h qv
    exact ⟨a, vs, rfl, .inr (.of h2), r⟩
  | _ => rw [qv] at q; cases q
theorem x_join (hK : X.K = G.K) (k : PE X t (tM1 (rJoin X.K) (TEof G W f) (TEof G W g))) : PE X t (TEof G W (m1S joinD f g)) := by
  refine PEimp k fun σ H Q ⟨E, F, A, s, R, P⟩ => ⟨E, F, A, s, R, PO.bind P fun x s1 F1 A1 H1 e1 g1 R1 P1 u hu => ?_⟩
  cases x with
  | str a =>
    refine ⟨⟨a, hu.str⟩, E, F1, A1, s1, R1, PO.bind P1 fun y s2 F2 A2 H2 e2 g2 R2 P2 v hv => ?_⟩
    cases q : joinD s2 a y with
    | none => simp only [q] at P2; exact P2.elim
    | some d =>
      simp only [q] at P2
      unfold joinD at q
      split at q
      · rename_i l ql
        split at q
        · rename_i ys qs
          split at q
          · rename_i hl
            cases q
            obtain ⟨p, vs, rfl, hq, r⟩ := seq_view R2 hv ql
            rw [strsOf_map qs] at r
            rw [RepL.strs r] at hq
            exact ⟨a, p, ys, hu.str, rfl, by rw [hK]; exact hq, Nat.le_trans hl (by decide), P2.ok_here R2 _ vok_str⟩
          · cases q
        · cases q
      · cases q
  | _ => exact P1.elim
def mulT (s : S) (x y : D) : Option D := match vw s x, y with
  | .tup a, .int k => if a.isEmpty = false ∧ 2 ≤ k ∧ k ≤ 1000 ∧ a.length ≤ 1000 then some (.tup (List.replicate k.toNat a).flatten) else none
  | _, _ => none
end
end AG

set_option Elab.async false
set_option linter.all false
set_option maxRecDepth 100000
namespace AG
open PySem L2 PySem.Spec PyProof.Rows LamX
structure FnG (P : Program) (w : World) (K : PySem.W.Frag) (mg : Str → Option Value) (base : Heap) (CX : CXT) (k : Nat) (f : Addr) (ps : List Str) (fd : FuncData) (sp : Sp) : Prop where
  size : ∀ vs H Q E, sp vs H Q E → vs.length = ps.length
  keeps : ∀ (A : Around) (outer : List Env) (s : Shared) (H : Hp) (args : Args) (us : List Value) (vs : List V) (Q : VK) (E : XK), Room k A ∧ A.guards = some [] → Env0 P w K mg base A outer s H → BindsTo s fd args (ps.zip us) → Vals vs us → sp vs H Q E →
    codeAny (model P w) A (.call (.ref f) args) (CR CX outer P w H s Q E) s
theorem deeper_guards {A : Around} {env : Env} : (A.deeper env).guards = A.guards := rfl
section
variable {P : Program} {w : World} {K : PySem.W.Frag} {mg : Str → Option Value} {base : Heap}
theorem g_of {CX : CXT} {x qual : Str} {params : Arguments} {body : List Stmt} {scope : Scope} {dvs : List V} {kws : List (Str × V)} {f : Addr} {fd : FuncData} {N ps : List Str} {k : Nat} {sp : Sp} (F : FunD K x qual params body scope dvs kws f fd) (S : FnScope N ps scope) (len : ∀ vs H Q E, sp vs H Q E → vs.length = ps.length)
    (hb : ∀ (cdv : Value) (A : Around) (outer : List Env) (s : Shared) (H : Hp) (vs : List V) (Q : VK) (E : XK), Room k (A.deeper (envOfC qual scope s.heap.objs.size f cdv)) → A.guards = some [] → sp vs H Q E →
      ∃ t, PSs (cxOf CX P w K mg base N qual scope f cdv A outer s H E) body t ∧ t { nx := fun _ H' => Q .non H', rt := Q } (L2.start N vs) H) : FnG P w K mg base CX (k + 1) f ps fd sp := by
  obtain ⟨oc, od, dV, kV, doc, pm, an, cdv, ct, osl, rfl, lk, hcd, _, _⟩ := F.ex
  exact ⟨len, fun A outer s H args us vs Q E hr e0 hbd r hsp => run_ofS lk hcd S hr.1 e0 hbd r (len _ _ _ _ hsp) fun hr2 => hb cdv A outer s H vs Q E hr2 hr.2 hsp⟩
end
section
variable {X : Cx} {W : WX} {k : Nat} {f : Addr} {fd : FuncData} {ps : List Str} {sp : Sp} {x : Str} {p pos : Pos} {e : Expr} {es : List Expr} {t : TA}
theorem after_g {pins : List (Addr × Obj)} {σ : L2.St} {H : Hp} {s : Shared} {Q : VK} (tk : Takes X W) (I : Inv X pins σ H s) (r : Result) (s' : Shared) (h : CR (L2.CX X.prog X.w) X.stack X.prog X.w H s Q (WE W σ) r s') :
    (match r with | .ok (.ret u) => EP X pins σ Q u s' | .ok _ => False | .error e => X.xe e s') := by
  rcases r with er | fl
  · exact passAt tk σ pins H s er s' I h
  · cases fl with
    | ret u => exact I.after h
    | _ => exact h
theorem pe_fnG (F : FnG X.prog X.w X.K X.mg X.base (L2.CX X.prog X.w) k f ps fd sp) (hr : Room k X.A ∧ X.A.guards = some []) (hg : Gl X x) (hm : X.mg x = some (.ref f)) (hk : PySem.W.keepIn X.K (.ref f) = true) (hb : L2.Binds X.K fd ps []) (tk : Takes X W)
    (ha : PA X (e :: es) t) (hdb : (x == ("__debug__" : Str)) = false := by decide) (he : starEach (e :: es) X.env = (false, eval e X.env) :: starEach es X.env := by rfl) (hpl : (backTo pos (starEach es X.env)).any (·.1) = false := by rfl) :
    PE X (.Call (.Name x p) (e :: es) [] pos) (tCallS sp (WE W) t) where
  run pins s σ H Q I h := by
    refine wpAny_Call_Name_kw (ld_glob I hg hm (PySem.W.callWith_K (h₀ := X.base) I.ok.mod.kin hk (thn (ha.run pos pins s σ H _ I h) ?_) he hpl) hdb)
    rintro us s1 ⟨vs, H1, I1, r, q⟩
    refine ⟨I1.kIn, wpAny_call (codeAny_mono (F.keeps X.A X.stack s1 H1 ⟨us, []⟩ us vs Q (WE W σ) hr I1.env0 ?_ r q) fun rr s' z => ?_)⟩
    · have hl : us.length = ps.length := r.length ▸ F.size _ _ _ _ q
      simpa using hb s1 us I1.kIn (by simpa using hl)
    · have := after_g tk I1 rr s' z
      rcases rr with er | fl
      · exact this
      · cases fl with
        | ret u => exact this
        | _ => exact this.elim
end
def hp0 (tabs : List Addr) (a : Addr) (o : HO) (own : Bool) : Hp := fun b => if b ∈ tabs then some (.tbl #[]) else if own = true ∧ b = a then some o else none
theorem hp0_tab {tabs : List Addr} {a b : Addr} {o : HO} {own : Bool} (h : b ∈ tabs) : hp0 tabs a o own b = some (.tbl #[]) := if_pos h
theorem hp0_inv {tabs : List Addr} {a b : Addr} {o u : HO} {own : Bool} (h : hp0 tabs a o own b = some u) : (b ∈ tabs ∧ u = .tbl #[]) ∨ (b ∉ tabs ∧ own = true ∧ b = a ∧ u = o) := by
  unfold hp0 at h
  by_cases q : b ∈ tabs
  · rw [if_pos q] at h
    exact .inl ⟨q, (Option.some.inj h).symm⟩
  · rw [if_neg q] at h
    by_cases q2 : own = true ∧ b = a
    · rw [if_pos q2] at h
      exact .inr ⟨q, q2.1, q2.2, (Option.some.inj h).symm⟩
    · rw [if_neg q2] at h
      cases h
section
variable {P : Program} {w : World} {K : PySem.W.Frag} {mg mb : Str → Option Value} {CX : CXT} {k : Nat} {fa a : Addr} {cs : List (Addr × Addr)} {fd : FuncData} {x : Str} {sp : Sp} {s₁ : Shared} {vs : List Value} {ns : List Int}
theorem law_g (inK : K.In s₁.heap) (names : s₁.heap.Ns mainGlobals mg) (blt : s₁.heap.Ns builtinsNs mb) (boot : ∀ x : Str, x ≠ "__name__" → mb x = bootBuiltins x) (lim : s₁.heap.NoLimit) (gens : s₁.gens = #[])
    (tab : ∀ p ∈ cs, s₁.heap.get? p.2 = some { cls := .none, data := .fields #[] }) (tabK : ∀ p ∈ cs, K.lookup p.2 = none) (code : ∀ p ∈ cs, PySem.W.CodeHd s₁.heap p.1 p.2)
    (bm : ∃ (bm : Addr) (ob : Obj), mg "__builtins__" = some (.ref bm) ∧ bm ≠ builtinsNs ∧ s₁.heap.get? bm = some ob ∧ ob.cls = .type "module" ∧ ob.dict = some builtinsNs ∧ ob.data = .plain)
    (script : s₁.heap.get? a = some { cls := .type "list", data := .seq vs.toArray }) (nums : IntsAre vs ns) (few : ns.length ≤ sizeLine) (room : Room k callerA)
    (F : ∀ base : Heap, K.In base → base.Ns mainGlobals mg → (∀ p ∈ cs, TabB base mg p.1 p.2) → FnG P w K mg base CX k fa [x] fd sp) (bind : ∀ (s : Shared) (u : Value), BindsTo s fd ⟨[u], []⟩ [(x, u)])
    (says : ∀ H : Hp, (∀ p ∈ cs, H p.2 = some (.tbl #[])) → SqL K H a (ns.map V.int) → (∀ b u, H b = some u → (∃ p ∈ cs, p.2 = b) ∨ b = a) → sp [.ref a] H (fun v _ => v = .bl true) fun _ _ _ => False)
    (noX : ∀ H e s', CX [] H s₁ (fun _ _ _ => False) e s' → False) :
    codeAny (model P w) callerA (.call (.ref fa) ⟨[.ref a], []⟩) (fun r s' => r = .ok (.ret (.bool true)) ∧ OldK s₁.heap s'.heap ∧ s'.os = s₁.os ∧ AllBare s'.gens) s₁ := by
  let so : Obj := { cls := .type "list", data := .seq vs.toArray }
  let own : Bool := (K.lookup a).isNone
  let tabs : List Addr := cs.map (·.2)
  let H₀ : Hp := hp0 tabs a (.frz so (.lst (ns.map V.int))) own
  have mem : ∀ p ∈ cs, p.2 ∈ tabs := fun p hp => List.mem_map_of_mem hp
  have tabO : ∀ b ∈ tabs, s₁.heap.get? b = some { cls := .none, data := .fields #[] } := fun b hb => by
    obtain ⟨p, hp, rfl⟩ := List.mem_map.mp hb
    exact tab p hp
  have fieldsNe : ∀ (vs : Array Value) (n : Nat), Data.seq vs n ≠ Data.fields #[] := fun _ _ z => nomatch z
  have aNot : a ∉ tabs := fun z => fieldsNe _ _ (congrArg Obj.data (Option.some.inj (script.symm.trans (tabO a z))))
  -- what is no list and no table is not told
  have untold : ∀ {b : Addr} {ob : Obj}, s₁.heap.get? b = some ob → (∀ us n, ob.data ≠ .seq us n) → ob.data ≠ .fields #[] → H₀ b = none := fun {b ob} e d1 d2 => by
    cases q : H₀ b with
    | none => rfl
    | some u =>
      rcases hp0_inv q with ⟨z, _⟩ | ⟨_, _, rfl, _⟩
      · rw [tabO b z] at e
        cases e
        exact absurd rfl d2
      · rw [script] at e
        cases e
        exact absurd rfl (d1 _ _)
  have dicts : ∀ {b : Addr} {m : Str → Option Value}, s₁.heap.Ns b m → (hidT s₁.heap H₀).Ns b m := fun {b m} ⟨ob, es, ep, e, d, r⟩ =>
    ⟨ob, es, ep, hidT_get e (untold e (fun us n z => nomatch d.symm.trans z) fun z => nomatch d.symm.trans z), d, r⟩
  have inB : K.In (hidT s₁.heap H₀) := fun b ob e => hidT_get (inK b ob e) (by
    cases q : H₀ b with
    | none => rfl
    | some u =>
      rcases hp0_inv q with ⟨z, _⟩ | ⟨_, z, rfl, _⟩
      · obtain ⟨p, hp, rfl⟩ := List.mem_map.mp z
        rw [tabK p hp] at e
        cases e
      · have z' : (K.lookup b).isNone = true := z
        rw [e] at z'
        cases z')
  have held : HOk P w H₀ s₁.heap := fun b u q => by
    rcases hp0_inv q with ⟨z, rfl⟩ | ⟨_, _, rfl, rfl⟩
    · exact tabO b z
    · exact ⟨script, by simpa using few, vs, _, vals_ints nums, script⟩
  have sq : SqL K H₀ a (ns.map V.int) := by
    cases q : K.lookup a with
    | none => exact .inl (.inr ⟨so, (if_neg aNot).trans (if_pos ⟨by show (K.lookup a).isNone = true; rw [q]; rfl, rfl⟩)⟩)
    | some ob =>
      have e := (inK a ob q).symm.trans script
      cases e
      exact .inr ⟨_, vs.toArray, _, q, rfl, rfl, rfl, by simpa [nums.length] using few, by simpa using vals_ints nums⟩
  have tb : ∀ p ∈ cs, TabB (hidT s₁.heap H₀) mg p.1 p.2 := fun p hp => by
    obtain ⟨m, ob, b1, b2, b3, b4, b5, b6⟩ := bm
    have mG : m ≠ mainGlobals := fun z => by
      obtain ⟨o2, es, ep, e, d, _⟩ := names
      rw [← z, b3] at e
      cases e
      exact nomatch b6.symm.trans d
    have mP : m ≠ p.2 := fun z => by
      rw [z, tab p hp] at b3
      cases b3
      cases b6
    obtain ⟨oc, us, file, tf, flags, tg, inF, text, tt, c1, c2, c3, c4, rest⟩ := code p hp
    refine ⟨⟨oc, us, file, tf, flags, tg, inF, text, tt, hidT_get c1 (untold c1 (fun _ _ z => nomatch c3.symm.trans z) fun z => ?_), c2, c3, c4, rest⟩, ⟨m, ob, b1, b2, mG, mP, hidT_get b3 (untold b3 (fun _ _ z => nomatch b6.symm.trans z) fun z => nomatch b6.symm.trans z), b4, b5, b6⟩, fun z => ?_⟩
    · have z' := c3.symm.trans z
      cases z'
      simp at c4
    · obtain ⟨o2, es, ep, e, d, _⟩ := names
      rw [z, tab p hp] at e
      cases e
      cases d
  have base0 : Env0 P w K mg (hidT s₁.heap H₀) callerA [] s₁ H₀ := { frames := rfl, mod := ⟨inB, dicts names, ⟨mb, dicts blt, boot⟩, by obtain ⟨mc, l1, l2⟩ := lim; exact ⟨mc, dicts l1, l2⟩⟩, bs := fun b ob e => of_hidT e, bsz := Nat.le_of_eq (hidT_size _ _), funs := trivial, frf := fun b hb => absurd hb List.not_mem_nil, hok := held, bare := .of_eq gens }
  refine codeAny_mono ((F _ inB (dicts names) tb).keeps callerA [] s₁ H₀ _ [.ref a] [.ref a] _ _ ⟨room, rfl⟩ base0 (bind s₁ (.ref a)) (.cons rfl .nil) (says H₀ (fun p hp => hp0_tab (mem p hp)) sq fun b u q => ?_)) fun r s' z => ?_
  · rcases hp0_inv q with ⟨z, _⟩ | ⟨_, _, rfl, _⟩
    · obtain ⟨p, hp, e⟩ := List.mem_map.mp z
      exact .inl ⟨p, hp, e⟩
    · exact .inr rfl
  rcases r with er | fl
  · exact (noX H₀ er s' z).elim
  cases fl with
  | ret u =>
    obtain ⟨v, H', os, bare, un, held', r1, q⟩ := z
    subst q
    obtain rfl : u = Value.bool true := r1
    have grown : ∀ b ∈ tabs, ∃ more : Array Value, s'.heap.get? b = some { cls := .none, data := .fields more } := fun b hb => by
      obtain ⟨more, z⟩ := un.tbls b #[] (hp0_tab hb)
      exact ⟨_, held' b _ z⟩
    have rest : ∀ b ob, b ∉ tabs → s₁.heap.get? b = some ob → s'.heap.get? b = some ob := fun b ob nb e => by
      cases q : H₀ b with
      | none => exact un.keep b ob e q List.not_mem_nil List.not_mem_nil
      | some u =>
        rcases hp0_inv q with ⟨z, _⟩ | ⟨_, _, rfl, rfl⟩
        · exact absurd z nb
        · have z := held' b _ (un.frzs b so _ q)
          rw [script] at e
          cases e
          exact z.1
    refine ⟨rfl, ⟨fun b ob e => ?_, fun b ob e => ?_⟩, os, bare⟩
    · by_cases hb : b ∈ tabs
      · obtain ⟨p, hp, rfl⟩ := List.mem_map.mp hb
        obtain ⟨more, hm⟩ := grown _ hb
        rw [tab p hp] at e
        cases e
        exact .inr (.inl ⟨((code p hp).tab (tab p hp)).isCodeTable, rfl, #[], more, rfl, by simpa using hm⟩)
      · exact .inl (rest b ob hb e)
    · by_cases hb : b ∈ tabs
      · obtain ⟨more, hm⟩ := grown b hb
        exact ⟨_, hm⟩
      · exact ⟨ob, rest b ob hb e⟩
  | _ => exact False.elim z
end
def AtEnd (l : PySem.W.OpenLaw) (w : World) (CX : CXT) (k n : Nat) (x : Str) (mg : Str → Option Value) (fa : Addr) (h : Heap) : Prop :=
  ∃ (K : PySem.W.Frag) (fd : FuncData) (cs : List (Addr × Addr)) (sp : Sp), K.In h ∧ (∀ p ∈ cs, h.get? p.2 = some { cls := .none, data := .fields #[] }) ∧ (∀ p ∈ cs, K.lookup p.2 = none) ∧ (∀ p ∈ cs, PySem.W.CodeHd h p.1 p.2) ∧ (∀ (s : Shared) (u : Value), BindsTo s fd ⟨[u], []⟩ [(x, u)]) ∧
    (∀ (H : Hp) (a : Addr) (ns : List Int), ns.length ≤ n → (∀ z ∈ ns, Builtin.Int.intBits z ≤ 1048576) → (∀ p ∈ cs, H p.2 = some (.tbl #[])) → SqL K H a (ns.map V.int) → (∀ b u, H b = some u → (∃ p ∈ cs, p.2 = b) ∨ b = a) → sp [.ref a] H (fun v _ => v = .bl true) fun _ _ _ => False) ∧
    ∀ base : Heap, K.In base → base.Ns mainGlobals mg → (∀ p ∈ cs, TabB base mg p.1 p.2) → FnG l.prog w K mg base CX k fa [x] fd sp
theorem walk_g {l : PySem.W.OpenLaw} {n k : Nat} {q : Program} {loose : List Str} {XP : (Str → Option Value) → Heap → Prop} {YP : World → Heap → Prop} {d : DefRec} {CX : World → CXT} {x : Str}
    (hn : l.most = some n) (hn2 : n ≤ sizeLine) (hdf : d.params.defaults = []) (hr : Room k callerA)
    (F : ∀ (w : World) (mg : Str → Option Value) (fa : Addr) (h : Heap), YP w h → h.Ns mainGlobals mg → mg d.name = some (.ref fa) → AtEnd l w (CX w) k n x mg fa h)
    (noX : ∀ (w : World) (H : Hp) (s : Shared) (e : Value) (s' : Shared), CX w [] H s (fun _ _ _ => False) e s' → False) :
    PySem.W.WalkO q loose XP YP l.row.toRowW d [] (fun f vs => PySem.call f vs) := by
  refine Att.attach_callB hn hdf fun w s₀ s₁ mg mb fa o pm cd doc a vs ns G Y ho hd hcd hmg hobj hints hlen hbits hg => ?_
  obtain ⟨K, fd, cs, sp, e1, e2, e3, e4, e5, e6, e7⟩ := F w mg fa s₁.heap Y G.T.g hmg
  exact law_g e1 G.T.g G.T.b G.T.builtins G.T.nolimit hg e2 e3 e4 G.T.bmain hobj hints (Nat.le_trans hlen hn2) hr e7 e5 (fun H hH hS hO => e6 H a ns hlen hbits hH hS hO) fun H e s' => noX w H s₁ e s'
end AG

set_option Elab.async false
set_option linter.all false
set_option maxRecDepth 100000
namespace AG
open PySem L2 PySem.Spec PyProof.Rows
structure Tx (fa : List He.Fa) (fn : List He.DefD) (G : Cfg) (mg : Str → Option Value) : Prop where
  says : He.SaysD fa fn G.K
  at_ : ∃ h : Heap, G.K.In h ∧ h.Ns mainGlobals mg
section
variable {fa : List He.Fa} {fn : List He.DefD} {G : Cfg} {mg : Str → Option Value}
theorem Tx.free (T : Tx fa fn G mg) (i : Nat) {x : Str} (h : fa[i]? = some (.free x) := by rfl) : mg x = none := by
  obtain ⟨hp, k, n⟩ := T.at_
  exact He.free_ok k n (T.says.fact i h)
theorem Tx.glo (T : Tx fa fn G mg) (i : Nat) {x : Str} (h : fa[i]? = some (.glo x) := by rfl) : mg x = some (.ref (He.ga G.K x)) := by
  obtain ⟨hp, k, n⟩ := T.at_
  exact He.glo_ok k n (T.says.fact i h)
theorem Tx.int (T : Tx fa fn G mg) (i : Nat) {x : Str} {j : Int} (h : fa[i]? = some (.int x j) := by rfl) : ∃ t, mg x = some (.int j t) := by
  obtain ⟨hp, k, n⟩ := T.at_
  exact He.int_ok k n (T.says.fact i h)
theorem Tx.str (T : Tx fa fn G mg) (i : Nat) {x y : Str} (h : fa[i]? = some (.str x y) := by rfl) : ∃ t, mg x = some (.str y t) := by
  obtain ⟨hp, k, n⟩ := T.at_
  exact He.str_ok k n (T.says.fact i h)
theorem Tx.exc (T : Tx fa fn G mg) (i : Nat) {x : Str} (h : fa[i]? = some (.exc x) := by rfl) : PySem.W.excIn G.K (He.ga G.K x) He.veBase "ValueError.__new__" = true ∧ PySem.W.keepIn G.K (.ref (He.ga G.K x)) = true ∧
    PySem.W.subIn G.K (.ref (He.ga G.K x)) (.type "BaseException") = some true ∧ PySem.W.typeIn G.K (.ref (He.ga G.K x)) = some (.type "type") := He.exc_ok (T.says.fact i h)
structure FnJ (P : Program) (w : World) (G : Cfg) (mg : Str → Option Value) (base : Heap) (k : Nat) (q : Str × Option Str) (call : List D → List MO → R) : Prop where
  ex : ∃ (fd : FuncData) (ps : List Str), PySem.W.keepIn G.K (.ref (He.fAd G.K q)) = true ∧ L2.Binds G.K fd ps [] ∧ FnG P w G.K mg base (L2.CX P w) k (He.fAd G.K q) ps fd (spOf G call)
abbrev Calls : Type := Nat → List D → List MO → R
def Tab (P : Program) (w : World) (G : Cfg) (mg : Str → Option Value) (base : Heap) (fn : List He.DefD) (k : Nat) (C : Calls) : Prop := ∀ j d, fn[j]? = some d → FnJ P w G mg base k d.at_ (C j)
def callK (body : Calls → Calls) : Nat → Calls
  | 0 => fun _ _ _ => .st
  | k + 1 => body (callK body k)
structure Def1 (P : Program) (w : World) (G : Cfg) (mg : Str → Option Value) (base : Heap) (fn : List He.DefD) (d : He.DefD) (n : List Str) (a : Nat) (bf : Calls → M Fl) : Prop where
  fun_ : ∃ fd, FunD G.K d.name d.qual d.params d.body d.scope (d.dvs G.K) (d.kws G.K) (He.fAd G.K d.at_) fd
  dfl : d.dvs G.K = []
  sc : FnScope n (n.take a) d.scope
  ale : a ≤ n.length
  bnd : ∀ (kV doc pm : Value) (an : Option Addr) (cdv ct : Value) (us : List Value), us.length = (n.take a).length → bindArgs (PySem.W.fnOf d.name d.qual d.params d.body d.scope .none kV doc pm an cdv ct) ⟨us, []⟩ = pure ((n.take a).zip us)
  bod : ∀ (k : Nat) (C : Calls) (cdv : Value) (A : Around) (outer : List Env) (s : Shared) (H : Hp) (E : XK), Tab P w G mg base fn k C → Room k (A.deeper (envOfC d.qual d.scope s.heap.objs.size (He.fAd G.K d.at_) cdv)) ∧ A.guards = some [] →
    PSs (cxOf (L2.CX P w) P w G.K mg base n d.qual d.scope (He.fAd G.K d.at_) cdv A outer s H E) d.body (TSof G (fun cls dd _ H => E cls dd H) (bf C))
variable {P : Program} {w : World} {base : Heap}
theorem Def1.at0 {d : He.DefD} {n : List Str} {a : Nat} {bf : Calls → M Fl} (h : Def1 P w G mg base fn d n a bf) : FnJ P w G mg base 0 d.at_ (fun _ _ => .st) := by
  obtain ⟨fd, F⟩ := h.fun_
  have F' := F
  rw [h.dfl] at F'
  refine ⟨fd, n.take a, F.kp, F'.bindsN h.bnd, ⟨fun vs H Q E q => ?_, fun A outer s H args us vs Q E _ _ _ _ q => ?_⟩⟩
  · obtain ⟨_, _, _, _, _, _, _, z⟩ := q; exact z.elim
  · obtain ⟨_, _, _, _, _, _, _, z⟩ := q; exact z.elim
theorem Def1.next {d : He.DefD} {n : List Str} {a : Nat} {bf : Calls → M Fl} (h : Def1 P w G mg base fn d n a bf) {k : Nat} {C : Calls} (T : Tab P w G mg base fn k C) : FnJ P w G mg base (k + 1) d.at_ (runD n.length a (bf C)) := by
  obtain ⟨fd, F⟩ := h.fun_
  have F' := F
  rw [h.dfl] at F'
  refine ⟨fd, n.take a, F.kp, F'.bindsN h.bnd, g_of F h.sc (fun vs H Q E q => ?_) fun cdv A outer s H vs Q E hr hg q => ⟨_, h.bod k C cdv A outer s H E T ⟨hr, hg⟩, body_ok rfl h.ale q⟩⟩
  rw [len_of runD_len vs H Q E q, List.length_take, Nat.min_eq_left h.ale]
theorem tab_all {body : Calls → Calls} (h : ∀ j d, fn[j]? = some d → ∃ n a bf, Def1 P w G mg base fn d n a bf ∧ ∀ C, body C j = runD n.length a (bf C)) : ∀ k, Tab P w G mg base fn k (callK body k)
  | 0 => fun j d hj => by
    obtain ⟨n, a, bf, h1, _⟩ := h j d hj
    exact h1.at0
  | k + 1 => fun j d hj => by
    obtain ⟨n, a, bf, h1, h2⟩ := h j d hj
    have e : callK body (k + 1) j = runD n.length a (bf (callK body k)) := h2 _
    rw [e]
    exact h1.next (tab_all h k)
end
section
variable {fa : List He.Fa} {fn : List He.DefD} {G : Cfg} {W : WX} {X : Cx} {x : Str} {p pos : Pos} {e : Expr} {es : List Expr} {k : Nat}
theorem x_gint {j : Int} (h : ∃ t, X.mg x = some (.int j t)) (hg : Gl X x := by rfl) (hd : (x == ("__debug__" : Str)) = false := by decide) : PE X (.Name x pos) (TEof G W (cS (.int j))) := by
  obtain ⟨t, h⟩ := h
  exact xc (v := .int j) (pe_glob (v := .int j) hg h ⟨t, rfl⟩ hd) fun _ _ _ => by simp [VOk, Rep]
theorem x_gstr {y : Str} (h : ∃ t, X.mg x = some (.str y t)) (hg : Gl X x := by rfl) (hd : (x == ("__debug__" : Str)) = false := by decide) : PE X (.Name x pos) (TEof G W (cS (.str y))) := by
  obtain ⟨t, h⟩ := h
  exact xc (v := .str y) (pe_glob (v := .str y) hg h ⟨t, rfl⟩ hd) fun _ _ _ => by simp [VOk, Rep]
theorem x_fn {C : Calls} {ga : M (List D)} (j : Nat) {d : He.DefD} (T : Tx fa fn G X.mg) (B : Tab X.prog X.w G X.mg X.base fn k C) (i : Nat) (hr : Room k X.A ∧ X.A.guards = some []) (tk : Takes X W) (ha : PA X (e :: es) (TAof G W ga)) (hj : fn[j]? = some d := by rfl) (hat : d.at_ = (x, none) := by rfl)
    (hi : fa[i]? = some (.glo x) := by rfl) (hK : X.K = G.K := by rfl) (hg : Gl X x := by rfl)
    (hdb : (x == ("__debug__" : Str)) = false := by decide) (he : starEach (e :: es) X.env = (false, eval e X.env) :: starEach es X.env := by rfl) (hpl : (backTo pos (starEach es X.env)).any (·.1) = false := by rfl) :
    PE X (.Call (.Name x p) (e :: es) [] pos) (TEof G W (callF (C j) ga)) := by
  obtain ⟨fd, ps, h1, h2, h3⟩ := (B j d hj).ex
  rw [hat] at h1 h3
  rw [← hK] at h1 h2 h3
  have hm := T.glo i hi
  rw [← hK] at hm
  exact x_call (pe_fnG h3 hr hg hm h1 h2 tk ha hdb he hpl)
theorem takes_cx {P : Program} {w : World} {K : PySem.W.Frag} {mg : Str → Option Value} {base : Heap} {N : List Str} {qual : Str} {scope : Scope} {f : Addr} {cd : Value} {A : Around} {outer : List Env} {s : Shared} {H : Hp} {E : XK} :
    Takes (cxOf (L2.CX P w) P w K mg base N qual scope f cd A outer s H E) (fun cls d _ H => E cls d H) := takes_of rfl rfl rfl rfl
theorem owns_cx {CX : CXT} {P : Program} {w : World} {K : PySem.W.Frag} {mg : Str → Option Value} {base : Heap} {N : List Str} {qual : Str} {scope : Scope} {f : Addr} {cd : Value} {A : Around} {outer : List Env} {s : Shared} {H : Hp} {E : XK} :
    PassesOwn (model P w) (A.deeper (envOfC qual scope s.heap.objs.size f cd)) (envOfC qual scope s.heap.objs.size f cd) (cxOf CX P w K mg base N qual scope f cd A outer s H E).xe := PassesOwn.leaving
end
theorem u64 {k : Nat} {A : Around} {g : Prop} (r : Room k A ∧ g) : A.units + 64 < cLine := r.1.units
theorem u65 {k : Nat} {A : Around} {g : Prop} (r : Room k A ∧ g) : A.units + 65 < cLine := by have := r.1.un; omega
theorem u1 {k : Nat} {A : Around} {g : Prop} (r : Room k A ∧ g) : A.units + 1 < cLine := by have := r.1.un; omega
section
variable {G : Cfg} {W : WX} {X : Cx} {a b c : Expr} {f g h : M D} {pos : Pos}
theorem chain_im {r r' : R2} {od od' : S → D → D → Option D} (hd : OpD G r od) (hd' : OpD G r' od') (σ : L2.St) (H : Hp) (Q : VK) (z : TEof G W (chainS od od' f g h) σ H Q) : tChain r r' (TEof G W f) (TEof G W g) (TEof G W h) σ H Q := by
  obtain ⟨E, F, A, s, R, P⟩ := z
  refine ⟨E, F, A, s, R, PO.bind P fun x s1 F1 A1 H1 e1 g1 R1 P1 u hu => ⟨E, F1, A1, s1, R1, PO.bind P1 fun y s2 F2 A2 H2 e2 g2 R2 P2 v hv => ?_⟩⟩
  cases q : od s2 x y with
  | none => rw [q] at P2; exact P2.elim
  | some d =>
    rw [q] at P2
    cases d with
    | bl k =>
      refine hd E F2 A2 σ H2 s2 u v x y _ _ R2 (hu.mono e2 g2) hv q fun z F3 A3 H3 e3 g3 R3 hz => ⟨k, hz.bl, ?_⟩
      cases k with
      | true =>
        refine iteT ⟨E, F3, A3, s2, R3, PO.bind (PO.mono P2 e3 g3 fun _ _ _ _ _ z => z) fun z s4 F4 A4 H4 e4 g4 R4 P4 zz hzz => ?_⟩
        cases q2 : od' s4 y z with
        | none => rw [q2] at P4; exact P4.elim
        | some d2 =>
          rw [q2] at P4
          exact hd' E F4 A4 σ H4 s4 v zz y z d2 Q R4 ((hv.mono e3 g3).mono e4 g4) hzz q2 fun v F' A' H' e5 g5 R5 hv5 => P4 F' A' H' e5 g5 R5 v hv5
      | false => exact iteF (P2 F3 A3 H3 e3 g3 R3 _ vok_bl)
    | _ => exact P2.elim
theorem tst_im {fe : M D} (σ : L2.St) (H : Hp) (Q : Bool → Hp → Prop) (z : TTof G W (tstS fe) σ H Q) : TEof G W fe σ H fun v H' => ∃ k, v = .bl k ∧ Q k H' := by
  obtain ⟨E, F, A, s, R, P⟩ := z
  refine ⟨E, F, A, s, R, PO.bind P fun x s1 F1 A1 H1 e1 g1 R1 P1 u hu => ?_⟩
  cases x with
  | bl k => exact ⟨k, hu.bl, P1.ok_here R1⟩
  | _ => exact P1.elim
theorem t_chain {op op' : CmpOp} {r r' : R2} {od od' : S → D → D → Option D} (hd : OpD G r od) (hd' : OpD G r' od')
    (k : PT X (.Compare a [op, op'] [b, c] pos) (tTest (tChain r r' (TEof G W f) (TEof G W g) (TEof G W h)))) : PT X (.Compare a [op, op'] [b, c] pos) (TTof G W (tstS (chainS od od' f g h))) :=
  PTimp k fun σ H Q z => chain_im hd hd' σ H _ (tst_im σ H Q z)
theorem x_ix (hu : X.A.units + 1 < cLine) (ha : PE X a (TEof G W f)) (hb : PE X b (TEof G W g)) (hK : X.K = G.K := by rfl) (hs : PlainIx b := by exact fun _ _ => rfl) : PE X (.Subscript a b pos) (TEof G W (binS ixA f g)) :=
  x_op (od_ixA hK) ha hb (pe_ix (ixr_all hu) ha hb hs)
end
abbrev NoE (t : D → M Unit) : Prop := ∀ d s e s', t d s ≠ .err e s'
theorem tgN_ne (i : Nat) : NoE (tgN i) := fun d s e s' h => by cases h
def NoEs : List (D → M Unit) → Prop
  | [] => True
  | t :: ts => NoE t ∧ NoEs ts
theorem tgsS_ne : ∀ (ts : List (D → M Unit)) (ds : List D) (s : S) (e : Er) (s' : S), NoEs ts → tgsS ts ds s ≠ .err e s'
  | [], [], _, _, _, _ => fun h => by cases h
  | [], _ :: _, _, _, _, _ => fun h => by cases h
  | _ :: _, [], _, _, _, _ => fun h => by cases h
  | t :: ts, d :: ds, s, e, s', ⟨h1, h2⟩ => fun h => by
    unfold tgsS at h
    cases q : t d s with
    | ok u s1 => rw [q] at h; exact tgsS_ne ts ds s1 e s' h2 h
    | err e1 s1 => exact h1 d s e1 s1 q
    | st => rw [q] at h; cases h
theorem tgT_ne {ts : List (D → M Unit)} (h : NoEs ts) : NoE (tgT ts) := fun d s e s' q => by
  cases d with
  | tup ds => exact tgsS_ne ts ds s e s' h q
  | _ => cases q
end AG

set_option Elab.async false
set_option linter.all false
set_option maxRecDepth 100000
namespace AG
open PySem L2
abbrev PV : Type := D ⊕ MO
def parS : List (M D ⊕ M MO) → M (List PV)
  | [] => fun s => .ok [] s
  | .inl f :: r => fun s => (f s).bind fun x s1 => if sto x then (parS r s1).bind fun xs s2 => .ok (.inl x :: xs) s2 else .st
  | .inr f :: r => fun s => (f s).bind fun m s1 => (parS r s1).bind fun xs s2 => .ok (.inr m :: xs) s2
def putP : List Nat → List PV → List SV → List SV
  | i :: is, .inl d :: xs, rhz => putP is xs (rhz.set i (.d d))
  | i :: is, .inr m :: xs, rhz => putP is xs (rhz.set i (.own m))
  | _, _, rhz => rhz
def putV : List Nat → List V → L2.St → L2.St
  | i :: is, v :: vs, σ => putV is vs (σ.set i (some v))
  | _, _, σ => σ
def parA (is : List Nat) (ms : List (M D ⊕ M MO)) : M Fl := fun s => (parS ms s).bind fun xs s1 => .ok .nx { s1 with rhz := putP is xs s1.rhz }
def PvsOk (G : Cfg) (E : Ent) (F : Hp) (A : Adr) (σ : L2.St) (H : Hp) (s : S) : List Addr → List PV → List V → Prop
  | _, [], vs => vs = []
  | used, .inl d :: xs, vs => ∃ v r, vs = v :: r ∧ Rep G F A d v ∧ PvsOk G E F A σ H s used xs r
  | used, .inr m :: xs, vs => ∃ p r, vs = .ref p :: r ∧ New G E F A σ H s p m ∧ p ∉ used ∧ PvsOk G E F A σ H s (p :: used) xs r
def TQof (G : Cfg) (W : WX) (ms : List (M D ⊕ M MO)) : TA := fun σ H Q => ∃ E F A s, Rel G E F A σ H s ∧ PO G E W σ (fun xs s F A H => ∀ vs, PvsOk G E F A σ H s [] xs vs → Q vs H) F A (parS ms s)
section
variable {G : Cfg} {E : Ent} {W : WX} {X : Cx} {F : Hp} {A : Adr} {σ : L2.St} {H : Hp} {s : S} {e : Expr} {es : List Expr} {st : Stmt} {f : M D} {g : M MO} {ms : List (M D ⊕ M MO)} {p : Addr} {o : HO}
theorem q_nil : PA X [] (TQof G W []) := PAimp pa_nil fun σ H Q ⟨E, F, A, s, R, P⟩ => P.ok_here R [] rfl
theorem q_val (ha : PE X e (TEof G W f)) (hr : PA X es (TQof G W ms)) (hs : starEach (e :: es) X.env = (false, eval e X.env) :: starEach es X.env := by rfl) : PA X (e :: es) (TQof G W (.inl f :: ms)) :=
  PAimp (pa_cons ha hr hs) fun σ H Q ⟨E, F, A, s, R, P⟩ => ⟨E, F, A, s, R, PO.bind P fun x s1 F1 A1 H1 e1 g1 R1 P1 u hu => by
    cases q : sto x with
    | false => simp only [q, Bool.false_eq_true, if_false] at P1; exact P1.elim
    | true =>
      simp only [q, if_true] at P1
      exact ⟨E, F1, A1, s1, R1, PO.bind P1 fun xs s2 F2 A2 H2 e2 g2 R2 P2 vs hv => P2.ok_here R2 _ ⟨u, vs, rfl, Rep.mono e2 g2 _ _ (hu.rep q), hv⟩⟩⟩
theorem pvs_unpin {xs : List PV} : ∀ {used : List Addr} {vs : List V}, (∀ q, (E.pin p o).H q = none → E.H q = none ∧ q ≠ p) → PvsOk G (E.pin p o) F A σ H s used xs vs → PvsOk G E F A σ H s (used ++ [p]) xs vs := by
  induction xs with
  | nil => intro used vs _ h; exact h
  | cons x xs ih =>
    intro used vs k h
    cases x with
    | inl d =>
      obtain ⟨v, r, h1, h2, h3⟩ := h
      exact ⟨v, r, h1, h2, ih k h3⟩
    | inr m =>
      obtain ⟨q, r, h1, h2, h3, h4⟩ := h
      obtain ⟨k1, k2⟩ := k q h2.ne
      exact ⟨q, r, h1, ⟨h2.mo, h2.nf, k1, h2.nA, h2.nσ⟩, by simp [h3, k2], ih k h4⟩
theorem q_new (ha : PE X e (TFof G W g)) (hr : PA X es (TQof G W ms)) (hs : starEach (e :: es) X.env = (false, eval e X.env) :: starEach es X.env := by rfl) : PA X (e :: es) (TQof G W (.inr g :: ms)) :=
  PAimp (pa_cons ha hr hs) fun σ H Q ⟨E, F, A, s, R, P⟩ => ⟨E, F, A, s, R, PO.bind P fun m s1 F1 A1 H1 e1 g1 R1 P1 p N => by
    obtain ⟨o, ho⟩ := N.mo.some
    have ef : E.F p = none := by
      cases q : E.F p with
      | none => rfl
      | some u => have z := R1.fle p u q; rw [N.nf] at z; cases z
    have ea : ∀ n, E.A n ≠ some p := fun n z => N.nA n (R1.ale n p z)
    have back : ∀ q, (E.pin p o).H q = none → E.H q = none ∧ q ≠ p := fun q z => by
      by_cases h : q = p
      · subst h
        change upd E.H q o q = none at z
        rw [upd_same] at z
        cases z
      · change upd E.H p o q = none at z
        rw [upd_ne h] at z
        exact ⟨z, h⟩
    refine ⟨E.pin p o, F1, A1, s1, R1.pin N ho, ?_⟩
    cases q : parS ms s1 with
    | st => rw [q] at P1; exact P1
    | err er s2 =>
      rw [q] at P1
      exact fun F2 A2 H2 dd e2 g2 R2 => P1 F2 A2 H2 dd e2 g2 (R2.unpin N.ne ef ea).1
    | ok xs s2 =>
      rw [q] at P1
      intro F2 A2 H2 e2 g2 R2 vs hv
      obtain ⟨R3, k1, k2, k3, k4⟩ := R2.unpin N.ne ef ea
      exact P1 F2 A2 H2 e2 g2 R3 _ ⟨p, vs, rfl, ⟨N.mo.mono e2 g2 fun o' h' => by rw [ho] at h'; rw [k1]; exact h', k2, N.ne, k3, k4⟩, List.not_mem_nil, pvs_unpin back hv⟩⟩
theorem pvs_put {i : Nat} {v : V} {x : SV} {xs : List PV} (hx : isOwn x = true → ∃ p0, v = .ref p0) : ∀ {used : List Addr} {vs : List V}, (∀ p0, isOwn x = true → v = .ref p0 → p0 ∈ used) → PvsOk G E F A σ H s used xs vs → PvsOk G E F A (σ.set i (some v)) H { s with rhz := s.rhz.set i x } used xs vs := by
  induction xs with
  | nil => intro used vs _ h; exact h
  | cons y xs ih =>
    intro used vs k h
    cases y with
    | inl d =>
      obtain ⟨v', r, h1, h2, h3⟩ := h
      exact ⟨v', r, h1, h2, ih k h3⟩
    | inr m =>
      obtain ⟨q, r, h1, h2, h3, h4⟩ := h
      refine ⟨q, r, h1, ⟨h2.mo, h2.nf, h2.ne, h2.nA, fun j hj z => ?_⟩, h3, ih (fun p0 a b => List.mem_cons_of_mem _ (k p0 a b)) h4⟩
      by_cases hij : i = j
      · subst hij
        have hj' : isOwn ((s.rhz.set i x).getD i .un) = true := hj
        by_cases hl : i < s.rhz.length
        · rw [List.getD_eq_getElem?_getD, List.getElem?_set_self hl] at hj'
          obtain ⟨p0, e0⟩ := hx hj'
          by_cases hs : i < σ.length
          · rw [List.getElem?_set_self hs] at z
            have z' : v = .ref q := Option.some.inj (Option.some.inj z)
            exact h3 (k q hj' z')
          · rw [List.getElem?_eq_none (by simpa using hs)] at z
            cases z
        · rw [List.getD_eq_getElem?_getD, List.getElem?_eq_none (by simpa using hl)] at hj'
          cases hj'
      · rw [List.getElem?_set_ne hij] at z
        exact h2.nσ j (by rw [← getD_set hij]; exact hj) z
theorem Rel.putP : ∀ (is : List Nat) (xs : List PV) (vs : List V) {used : List Addr} {σ : L2.St} {s : S}, Rel G E F A σ H s → PvsOk G E F A σ H s used xs vs → Rel G E F A (putV is vs σ) H { s with rhz := AG.putP is xs s.rhz }
  | [], xs, vs, used, σ, s, R, h => by cases xs <;> exact R
  | i :: is, [], vs, used, σ, s, R, h => by
    cases (show vs = [] from h)
    exact R
  | i :: is, .inl d :: xs, vs, used, σ, s, R, h => by
    obtain ⟨v, r, rfl, h2, h3⟩ := h
    exact Rel.putP is xs r (R.setD (i := i) h2) (pvs_put (x := .d d) (fun z => nomatch (show false = true from z)) (fun _ z => nomatch (show false = true from z)) h3)
  | i :: is, .inr m :: xs, vs, used, σ, s, R, h => by
    obtain ⟨p, r, rfl, h2, h3, h4⟩ := h
    exact Rel.putP is xs r (R.setN (i := i) h2) (pvs_put (x := .own m) (fun _ => ⟨p, rfl⟩) (fun p0 _ z => by cases z; exact List.mem_cons_self) h4)
theorem par_post {is : List Nat} (σ : L2.St) (D : Ends) (z : TSof G W (parA is ms) D σ H) : TQof G W ms σ H fun vs H1 => D.nx (putV is vs σ) H1 := by
  obtain ⟨E, F, A, s, R, P⟩ := z
  exact ⟨E, F, A, s, R, PostS.bind P fun xs s1 F1 A1 H1 e1 g1 R1 P1 vs hv => P1 _ _ _ _ (FLe.refl _) (ALe.refl _) (R1.putP is xs vs hv)⟩
theorem pvs_len {xs : List PV} : ∀ {used : List Addr} {vs : List V}, PvsOk G E F A σ H s used xs vs → vs.length = xs.length := by
  induction xs with
  | nil => intro used vs h; cases (show vs = [] from h); rfl
  | cons x xs ih =>
    intro used vs h
    cases x with
    | inl d =>
      obtain ⟨v, r, rfl, h2, h3⟩ := h
      simp [ih h3]
    | inr m =>
      obtain ⟨q, r, rfl, h2, h3, h4⟩ := h
      simp [ih h4]
theorem parS_len : ∀ (ms : List (M D ⊕ M MO)) (s : S) (xs : List PV) (s' : S), parS ms s = .ok xs s' → xs.length = ms.length
  | [], s, xs, s', h => by cases h; rfl
  | .inl f :: r, s, xs, s', h => by
    unfold parS at h
    cases q : f s with
    | ok x s1 =>
      rw [q] at h
      simp only [O.bind_ok] at h
      cases q2 : sto x with
      | false => rw [q2] at h; cases h
      | true =>
        rw [q2] at h
        simp only [if_true] at h
        cases q3 : parS r s1 with
        | ok ys s2 => rw [q3] at h; cases h; simp [parS_len r s1 ys _ q3]
        | err _ _ => rw [q3] at h; cases h
        | st => rw [q3] at h; cases h
    | err _ _ => rw [q] at h; cases h
    | st => rw [q] at h; cases h
  | .inr f :: r, s, xs, s', h => by
    unfold parS at h
    cases q : f s with
    | ok x s1 =>
      rw [q] at h
      simp only [O.bind_ok] at h
      cases q3 : parS r s1 with
      | ok ys s2 => rw [q3] at h; cases h; simp [parS_len r s1 ys _ q3]
      | err _ _ => rw [q3] at h; cases h
      | st => rw [q3] at h; cases h
    | err _ _ => rw [q] at h; cases h
    | st => rw [q] at h; cases h
theorem par_post_n {is : List Nat} (σ : L2.St) (D : Ends) (z : TSof G W (parA is ms) D σ H) : TQof G W ms σ H fun vs H1 => vs.length = ms.length ∧ D.nx (putV is vs σ) H1 := by
  obtain ⟨E, F, A, s, R, P⟩ := z
  refine ⟨E, F, A, s, R, ?_⟩
  cases q : parS ms s with
  | st => unfold parA at P; rw [q] at P; exact P
  | err er s1 => unfold parA at P; rw [q] at P; exact fun F' A' H' dd e1 g1 R1 => P σ F' A' H' dd e1 g1 R1
  | ok xs s1 =>
    unfold parA at P
    rw [q] at P
    exact fun F' A' H' e1 g1 R1 vs hv => ⟨(pvs_len hv).trans (parS_len ms s xs s1 q), P _ _ _ _ e1 g1 (R1.putP is xs vs hv)⟩
theorem s_par2 {i j : Nat} {a b : M D ⊕ M MO} (k : PS X st (tPar i j (TQof G W [a, b]))) : PS X st (TSof G W (parA [i, j] [a, b])) :=
  PSimp k fun D σ H z => by
    obtain ⟨E, F, A, s, R, P⟩ := par_post_n σ D z
    refine ⟨E, F, A, s, R, PO.mono P (FLe.refl _) (ALe.refl _) fun xs s1 F1 A1 H1 h vs hv => ?_⟩
    obtain ⟨hl, hn⟩ := h vs hv
    match vs, hl with
    | [v, w], _ => exact ⟨v, w, rfl, hn⟩
theorem s_par3 {i j l : Nat} {a b c : M D ⊕ M MO} (k : PS X st (tPar3 i j l (TQof G W [a, b, c]))) : PS X st (TSof G W (parA [i, j, l] [a, b, c])) :=
  PSimp k fun D σ H z => by
    obtain ⟨E, F, A, s, R, P⟩ := par_post_n σ D z
    refine ⟨E, F, A, s, R, PO.mono P (FLe.refl _) (ALe.refl _) fun xs s1 F1 A1 H1 h vs hv => ?_⟩
    obtain ⟨hl, hn⟩ := h vs hv
    match vs, hl with
    | [u, v, w], _ => exact ⟨u, v, w, rfl, hn⟩
end
end AG

set_option Elab.async false
set_option linter.all false
set_option maxRecDepth 100000
namespace AG
open PySem L2 PySem.Spec PyProof.Rows
theorem same_mul (l : Addr) (items : Array Value) (n : Nat) (dd : Option Addr) (sl : Array (Option Value)) (x : Int) (u : Tok) (c0 : (decide (x < -(2 ^ 63)) || decide (x ≥ 2 ^ 63)) = false) (c1 : (items.isEmpty || x == 1) = true) :
    Meets (Builtin.«tuple.__mul__» ⟨[.ref l, .int x u], []⟩) (fun _ R s => s.heap.get? l = some { cls := .type "tuple", dict := dd, data := .seq items n, slots := sl } ∧ R (.ok (.ret (Value.ref l))) s) :=
  .of_wp fun prog w A R s h => by
    obtain ⟨hp, g, d, tk, os⟩ := s
    obtain ⟨hl, h⟩ := h
    have f1 := AutoSeq1.idx_int
    wp_walk using wpAny_loadPart' hl
    repeat (first
      | (refine wpAny_ite_false (decide_eq_false (by rw [c0]; exact Bool.false_ne_true)) ?_; wp_walk using wpAny_loadPart' hl)
      | (refine wpAny_ite_true (decide_eq_true c1) ?_; wp_walk using wpAny_loadPart' hl))
    exact ⟨_, rfl, h⟩
def rRepS (K : PySem.W.Frag) : R2 := fun x y H Q => ∃ l k xs, x = .ref l ∧ y = .int k ∧ SqT K H l xs ∧ (xs = [] ∨ k = 1) ∧ -(2 ^ 63) ≤ k ∧ k < 2 ^ 63 ∧ Q (.ref l) H
section
variable {X : Cx}
theorem op_repS : OpR X (binaryOp .Mult) (rRepS X.K) := by
  intro pins s σ H x y v u Q I rx ry h
  obtain ⟨l, k, xs, rfl, rfl, hT, hk, h1, h2, q⟩ := h
  cases rx
  obtain ⟨t, rfl⟩ := ry
  obtain ⟨its, r, ⟨⟨cls, dd, data, sl⟩, ho, hc, n, hd⟩, hs⟩ := I.tuple hT
  simp only at hc hd
  subst hc hd
  have c0 : (decide (k < -(2 ^ 63)) || decide (k ≥ 2 ^ 63)) = false := by
    rw [Bool.or_eq_false_iff]
    exact ⟨decide_eq_false (by omega), decide_eq_false (by omega)⟩
  have c1 : (its.toArray.isEmpty || k == 1) = true := by
    rcases hk with rfl | rfl
    · cases r
      rfl
    · simp
  refine wpAny_binaryOp_repeat_ref (T := "tuple") (U := "int") (by decide) ⟨_, ho, rfl⟩ (fun s' => typeIs_int s' k t) noFill_tuple_mul F.fills_int_mul F.slot_int_rmul repeat_tuple F.slot_int_index.lookup
    (call_meets F.slot_int_rmul (typeIs_int s k t) F.entry_int_rmul (F.args_int_rmul_2 _ _) (int_rmul_tuple k t l its.toArray n dd sl)
      ⟨ho, rfl, ⟨_, ho, rfl⟩, call_meets F.slot_tuple_mul ⟨_, ho, rfl⟩ F.entry_tuple_mul (F.args_tuple_mul_2 _ _) (same_mul l its.toArray n dd sl k t c0 c1) ⟨ho, ?_⟩⟩)
  exact ⟨.ref l, H, I, rfl, q⟩
end
def mulE (s : S) (x y : D) : Option D := match vw s x, y with
  | .tup a, .int k => if (a = [] ∨ k = 1) ∧ -(2 ^ 63) ≤ k ∧ k < 2 ^ 63 then some (.tup a) else if a ≠ [] ∧ 2 ≤ k ∧ k ≤ 1000 ∧ a.length ≤ 1000 then some (.tup (List.replicate k.toNat a).flatten) else none
  | _, _ => mulD s x y
def rMulE (K : PySem.W.Frag) : R2 := fun x y H Q => rMulD x y H Q ∨ rRepS K x y H Q ∨ rRepT K x y H Q
section
variable {G : Cfg} {E : Ent} {W : WX} {X : Cx} {F : Hp} {A : Adr} {σ : L2.St} {H : Hp} {s : S} {e t a b : Expr} {es : List Expr} {st : Stmt} {f g h : M D} {p : Addr} {o : HO} {pos : Pos}
theorem or_mulE : OpR X (binaryOp .Mult) (rMulE X.K) := OpR.or or_mul (OpR.or op_repS op_repT)
theorem rep_rep {l : List D} {vs : List V} (r : RepL G F A l vs) : ∀ n : Nat, RepL G F A (List.replicate n l).flatten (List.replicate n vs).flatten
  | 0 => by simp [RepL]
  | n + 1 => by
    simp only [List.replicate_succ, List.flatten_cons]
    exact RepL.append r (rep_rep r n)
theorem od_mulE (hK : X.K = G.K) : OpD G (rMulE X.K) mulE := by
  intro E F A σ H s x y dx dy d Q R hx hy q k
  have old : mulD s dx dy = some d → rMulE X.K x y H Q := fun q => .inl (od_mul E F A σ H s x y dx dy d Q R hx hy q k)
  unfold mulE at q
  split at q
  · rename_i av kv e1
    obtain ⟨ad, vs, rfl, hf, h2, r⟩ := tup_view R hx e1
    by_cases c1 : (av = [] ∨ kv = 1) ∧ -(2 ^ 63) ≤ kv ∧ kv < 2 ^ 63
    · rw [if_pos c1] at q
      cases q
      refine .inr (.inl ⟨ad, kv, vs, rfl, hy.int, by rw [hK]; exact .of h2, ?_, c1.2.1, c1.2.2, ?_⟩)
      · rcases c1.1 with rfl | h
        · exact .inl (by simpa [RepL] using r)
        · exact .inr h
      · refine k _ F A H (FLe.refl _) (ALe.refl _) R (.of ?_)
        simp only [Rep]
        exact ⟨ad, vs, rfl, hf, r⟩
    · rw [if_neg c1] at q
      by_cases c2 : av ≠ [] ∧ 2 ≤ kv ∧ kv ≤ 1000 ∧ av.length ≤ 1000
      · rw [if_pos c2] at q
        cases q
        refine .inr (.inr ⟨ad, kv, vs, rfl, hy.int, by rw [hK]; exact .of h2, ?_, c2.2.1, c2.2.2.1, by rw [RepL.length r]; exact c2.2.2.2, fun p hp => ?_⟩)
        · intro z
          subst z
          have := RepL.length r
          exact c2.1 (List.eq_nil_of_length_eq_zero this.symm)
        · have fl := fle_upd (o := .tup (List.replicate kv.toNat vs).flatten) (R.sub.none hp)
          refine k _ _ A _ fl (ALe.refl _) (R.newFz hp) ?_
          show Rep G _ A (.tup _) _
          simp only [Rep]
          exact ⟨p, _, rfl, upd_same, RepL.mono fl (ALe.refl _) _ _ (rep_rep r _)⟩
      · rw [if_neg c2] at q
        cases q
  · exact old q
def maxD (_ : S) : List D → Option D
  | [.int i, .int j] => some (.int (if j > i then j else i))
  | _ => none
def minD (_ : S) : List D → Option D
  | [.int i, .int j] => some (.int (if j < i then j else i))
  | _ => none
theorem cd_max : ClD G (fun xs H Q => ∃ i j, xs = [.int i, .int j] ∧ Q (.int (if j > i then j else i)) H) maxD := by
  intro E F A σ H s xs ds d Q R hx q k
  unfold maxD at q
  split at q
  · cases q
    obtain ⟨v, w, rfl, hv, hw⟩ := paired2 hx rfl
    exact ⟨_, _, by rw [hv.int, hw.int], k _ F A H (FLe.refl _) (ALe.refl _) R vok_int⟩
  · cases q
theorem cd_min : ClD G (fun xs H Q => ∃ i j, xs = [.int i, .int j] ∧ Q (.int (if j < i then j else i)) H) minD := by
  intro E F A σ H s xs ds d Q R hx q k
  unfold minD at q
  split at q
  · cases q
    obtain ⟨v, w, rfl, hv, hw⟩ := paired2 hx rfl
    exact ⟨_, _, by rw [hv.int, hw.int], k _ F A H (FLe.refl _) (ALe.refl _) R vok_int⟩
  · cases q
def reprD (s : S) : List D → Option D
  | [x] => (match vw s x with
    | .lst l => (match pyL l with
      | some es => if PyData.showable (.list es) = true ∧ PyData.hasDict (.list es) = false ∧ PyData.depth (.list es) ≤ 60 ∧ (PyData.shown (.list es)).length ≤ LIM then some (.str (PyData.shown (.list es))) else none
      | none => none)
    | .tup l => (match pyL l with
      | some es => if PyData.showable (.tuple es) = true ∧ PyData.hasDict (.tuple es) = false ∧ PyData.depth (.tuple es) ≤ 60 ∧ (PyData.shown (.tuple es)).length ≤ LIM then some (.str (PyData.shown (.tuple es))) else none
      | none => none)
    | _ => none)
  | _ => none
def rReprD (K : PySem.W.Frag) : List V → Hp → VK → Prop := fun xs H Q => ∃ a e, xs = [.ref a] ∧ Dp K H (.ref a) e ∧ PyData.showable e = true ∧ PyData.hasDict e = false ∧ PyData.depth e ≤ 60 ∧ (PyData.shown e).length ≤ LIM ∧ Q (.str (PyData.shown e)) H
theorem cr_repr (hg : X.A.guards = some []) (hu : X.A.units + 64 < cLine) : CallR X (.builtin "repr") (rReprD X.K) := by
  intro pins s σ H xs us Q I r h
  obtain ⟨a, e, rfl, hd, h1, h2, h3, h4, q⟩ := h
  obtain ⟨u, rfl, ru⟩ := vals1 r
  obtain ⟨as, rd⟩ := Dp.reads I e _ _ hd ru
  obtain rfl : u = Value.ref a := ru
  exact repr_of_reads' rd h1 (PyData.noDict_hsm h2) hg (by omega) (fun _ _ z => z) (fun h' u tk k => ⟨.str (PyData.shown e), H, I.kept k, ⟨u, rfl⟩, q⟩) (Nat.le_trans h4 (by decide))
theorem cd_repr (hK : X.K = G.K) : ClD G (rReprD X.K) reprD := by
  intro E F A σ H s xs ds d Q R hx q k
  unfold reprD at q
  split at q
  · rename_i x
    obtain ⟨v, rfl, hv⟩ := paired1 hx rfl
    split at q
    · rename_i l e1
      split at q
      · rename_i es e2
        split at q
        · rename_i c
          cases q
          obtain ⟨a, vs, rfl, _⟩ := lst_view R hv e1
          exact ⟨a, _, rfl, by rw [hK]; exact dp_view R hv (by rw [e1]; exact pyOf_lst e2), c.1, c.2.1, c.2.2.1, c.2.2.2, k _ F A H (FLe.refl _) (ALe.refl _) R vok_str⟩
        · cases q
      · cases q
    · rename_i l e1
      split at q
      · rename_i es e2
        split at q
        · rename_i c
          cases q
          obtain ⟨a, vs, rfl, _⟩ := tup_view R hv e1
          exact ⟨a, _, rfl, by rw [hK]; exact dp_view R hv (by rw [e1]; exact pyOf_tup e2), c.1, c.2.1, c.2.2.1, c.2.2.2, k _ F A H (FLe.refl _) (ALe.refl _) R vok_str⟩
        · cases q
      · cases q
    · cases q
  · cases q
def lputS (fv fo fi : M D) : M Fl := fun s => (fv s).bind fun z s1 => (fo s1).bind fun x s2 => (fi s2).bind fun y s3 => match ml? s3 x, y with
  | some (l, put), .int i => (match ixN l.length i with
    | some j => if sto z then .ok .nx (put (l.set j z)) else .st
    | none => .st)
  | _, _ => .st
theorem set_rep : ∀ {l : List D} {vs : List V} (n : Nat) {d : D} {v : V}, RepL G F A l vs → Rep G F A d v → RepL G F A (l.set n d) (vs.set n v)
  | [], vs, n, d, v, r, h => by simp only [RepL] at r; subst r; simp [RepL]
  | x :: xs, vs, 0, d, v, r, h => by
    simp only [RepL] at r
    obtain ⟨w, r', rfl, h2, h3⟩ := r
    simp only [List.set_cons_zero, RepL]
    exact ⟨v, r', rfl, h, h3⟩
  | x :: xs, vs, n + 1, d, v, r, h => by
    simp only [RepL] at r
    obtain ⟨w, r', rfl, h2, h3⟩ := r
    simp only [List.set_cons_succ, RepL]
    exact ⟨w, _, rfl, h2, set_rep n h3 h⟩
theorem s_lput {fv fo fi : M D} (k : PS X st (tAsg (TEof G W fv) (gSub (TEof G W fo) (TEof G W fi) rSetL))) : PS X st (TSof G W (lputS fv fo fi)) := by
  refine PSimp k fun D σ H ⟨E, F, A, s, R, P⟩ => ⟨E, F, A, s, R, PostS.bind P fun z s1 F1 A1 H1 e1 g1 R1 P1 v hv => ⟨E, F1, A1, s1, R1, PostS.bind P1 fun x s2 F2 A2 H2 e2 g2 R2 P2 u hu => ⟨E, F2, A2, s2, R2, PostS.bind P2 fun y s3 F3 A3 H3 e3 g3 R3 P3 w hw => ?_⟩⟩⟩
  cases q : ml? s3 x with
  | none => simp only [q] at P3; exact P3.elim
  | some lp =>
    obtain ⟨l, put⟩ := lp
    cases y with
    | int i =>
      simp only [q] at P3
      cases q2 : ixN l.length i with
      | none => simp only [q2] at P3; exact P3.elim
      | some j =>
        simp only [q2] at P3
        cases qs : sto z with
        | false => rw [qs] at P3; exact P3.elim
        | true =>
          rw [qs] at P3
          simp only [if_true] at P3
          obtain ⟨a, vs, rfl, h1, r, up⟩ := ml_at R3 (hu.mono e3 g3) q
          exact ⟨a, vs, i, j, rfl, hw.int, h1, by rw [RepL.length r]; exact q2, P3 σ F3 A3 _ (FLe.refl _) (ALe.refl _) (up _ _ (set_rep j r (((hv.mono e2 g2).mono e3 g3).rep qs)))⟩
    | _ => simp only [q] at P3; exact P3.elim
def truD : D → Option Bool
  | .non => some false
  | .bl b => some b
  | .int i => some (i != 0)
  | .str x => if x.length ≤ LIM then some ((x.length : Int) != 0) else none
  | .tup l => some (!l.isEmpty)
  | .lst l => some (!l.isEmpty)
  | _ => none
theorem empty_rep {l : List D} {vs : List V} (r : RepL G F A l vs) : vs.isEmpty = l.isEmpty := by
  have := RepL.length r
  cases l <;> cases vs <;> simp_all
theorem tru_view (R : Rel G E F A σ H s) {d : D} {v : V} {b : Bool} (h : VOk G σ F A d v) (q : truD (vw s d) = some b) : TruV G.K v H b := by
  cases qv : vw s d with
  | non =>
    rw [qv] at q; cases q
    cases d with
    | non => rw [h.non]; rfl
    | loc i => simp only [vw] at qv; split at qv
               · rename_i m _; cases m <;> cases qv
               · cases qv
    | hnd i => simp only [vw] at qv; split at qv
               · rename_i m _; cases m <;> cases qv
               · cases qv
    | _ => cases qv
  | bl c => rw [qv] at q; cases q; rw [h.bl' qv]; rfl
  | int i => rw [qv] at q; cases q; rw [h.int' qv]; rfl
  | str x =>
    rw [qv] at q
    simp only [truD] at q
    split at q
    · cases q
      rename_i hl
      rw [h.str' qv]
      exact ⟨Nat.le_trans hl (by decide), rfl⟩
    · cases q
  | tup l =>
    rw [qv] at q; cases q
    obtain ⟨a, vs, rfl, _, h2, r⟩ := tup_view R h qv
    exact .inr (.inl ⟨vs, .of h2, by rw [empty_rep r]⟩)
  | lst l =>
    rw [qv] at q; cases q
    obtain ⟨a, vs, rfl, h2, r⟩ := lst_view R h qv
    exact .inl ⟨vs, .of h2, by rw [empty_rep r]⟩
  | _ => rw [qv] at q; cases q
def orT (f g : M D) : M D := fun s => (f s).bind fun x s1 => match truD (vw s1 x) with
  | some true => .ok x s1
  | some false => g s1
  | none => .st
def andT (f g : M D) : M D := fun s => (f s).bind fun x s1 => match truD (vw s1 x) with
  | some true => g s1
  | some false => .ok x s1
  | none => .st
theorem x_orT {rest : List Expr} (hK : X.K = G.K) (ha : PE X a (TEof G W f)) (hb : PE X (.BoolOp .Or (b :: rest) pos) (TEof G W g)) : PE X (.BoolOp .Or (a :: b :: rest) pos) (TEof G W (orT f g)) := by
  refine PEimp (pe_orT ha hb) fun σ H Q ⟨E, F, A, s, R, P⟩ => ⟨E, F, A, s, R, PO.bind P fun x s1 F1 A1 H1 e1 g1 R1 P1 u hu => ?_⟩
  cases q : truD (vw s1 x) with
  | none => simp only [q] at P1; exact P1.elim
  | some c =>
    refine ⟨c, by rw [hK]; exact tru_view R1 hu q, ?_⟩
    cases c with
    | true => simp only [q] at P1; exact iteT (P1.ok_here R1 u hu)
    | false => simp only [q] at P1; exact iteF ⟨E, F1, A1, s1, R1, P1⟩
theorem x_andT {rest : List Expr} (hK : X.K = G.K) (ha : PE X a (TEof G W f)) (hb : PE X (.BoolOp .And (b :: rest) pos) (TEof G W g)) : PE X (.BoolOp .And (a :: b :: rest) pos) (TEof G W (andT f g)) := by
  refine PEimp (pe_andT ha hb) fun σ H Q ⟨E, F, A, s, R, P⟩ => ⟨E, F, A, s, R, PO.bind P fun x s1 F1 A1 H1 e1 g1 R1 P1 u hu => ?_⟩
  cases q : truD (vw s1 x) with
  | none => simp only [q] at P1; exact P1.elim
  | some c =>
    refine ⟨c, by rw [hK]; exact tru_view R1 hu q, ?_⟩
    cases c with
    | true => simp only [q] at P1; exact iteT ⟨E, F1, A1, s1, R1, P1⟩
    | false => simp only [q] at P1; exact iteF (P1.ok_here R1 u hu)
def asgS (f : M D) (tg : D → M Unit) : M Fl := fun s => (f s).bind fun d s1 => if sto d then (tg d s1).bind fun _ s2 => .ok .nx s2 else .st
theorem s_asg {ws : List Nat} {tg : D → M Unit} (hT : NoE tg) (k : PS X st (tAsg (TEof G W f) (TGof G ws tg))) : PS X st (TSof G W (asgS f tg)) := by
  refine PSimp k fun D σ H ⟨E, F, A, s, R, P⟩ => ⟨E, F, A, s, R, PostS.bind P fun d s1 F1 A1 H1 e1 g1 R1 P1 v hv => ?_⟩
  cases qs : sto d with
  | false => rw [qs] at P1; exact P1.elim
  | true =>
    rw [qs] at P1
    simp only [if_true] at P1
    refine ⟨E, F1, A1, s1, d, R1, hv.rep qs, ?_⟩
    cases q : tg d s1 with
    | st => rw [q] at P1; exact P1
    | err er s2 => exact (hT d s1 er s2 q).elim
    | ok u s2 =>
      rw [q] at P1
      exact fun σ' R2 _ => P1 σ' F1 A1 H1 (FLe.refl _) (ALe.refl _) R2
def slF (f : M D) (lo hi : M (Option Int)) : M MO := fun s => (f s).bind fun x s1 => (lo s1).bind fun a s2 => (hi s2).bind fun b s3 => match vw s3 x with
  | .lst l => .ok (.ml (cutL l a b)) s3
  | _ => .st
theorem f_sl {f : M D} {lo hi : M (Option Int)} (hK : X.K = G.K) (k : PE X t (tSl (rSlAll X.K) (TEof G W f) (TOof G W lo) (TOof G W hi))) : PE X t (TFof G W (slF f lo hi)) := by
  refine PEimp k fun σ H Q ⟨E, F, A, s, R, P⟩ => ⟨E, F, A, s, R, PO.bind P fun x s1 F1 A1 H1 e1 g1 R1 P1 u hu => ⟨E, F1, A1, s1, R1, PO.bind P1 fun a s2 F2 A2 H2 e2 g2 R2 P2 => ⟨E, F2, A2, s2, R2, PO.bind P2 fun b s3 F3 A3 H3 e3 g3 R3 P3 => ?_⟩⟩⟩
  have hx := (hu.mono e2 g2).mono e3 g3
  split at P3
  · rename_i l h1
    obtain ⟨p, vs, rfl, h2, r⟩ := lst_view R3 hx h1
    refine .inl (.inl ⟨p, vs, rfl, .of h2, fun tt ht => ?_⟩)
    obtain ⟨R4, k1, k2, k3, k4⟩ := R3.laid (o := .lst (cutV vs a b)) ht
    exact P3 _ _ _ (FLe.refl _) (ALe.refl _) R4 tt ⟨⟨_, upd_same, RepL.cut r a b⟩, k1, k2, k3, k4⟩
  · exact P3.elim
end
end AG

set_option Elab.async false
set_option linter.all false
set_option maxRecDepth 100000
namespace AG
open PySem L2 PySem.Spec PyProof.Rows LamX
theorem sp_start {G : Cfg} {call : List D → List MO → R} {H : Hp} {a : Addr} {ns : List Int} {E : XK} (hS : SqL G.K H a (ns.map V.int)) (hc : ∃ muz, call [.scr ns] [] = .ok (.bl true) muz) : spOf G call [.ref a] H (fun v _ => v = .bl true) E := by
  obtain ⟨muz, hc⟩ := hc
  refine ⟨H, fun _ => none, [.scr ns], [], fun b o h => .inl h, ⟨(fun n m h => nomatch (show ([] : List MO)[n]? = some m from h)), (fun n a h => nomatch h), (fun n m a h => nomatch h)⟩, ?_, ?_⟩
  · simp only [RepL]
    exact ⟨.ref a, [], rfl, by simp only [Rep]; exact ⟨a, rfl, hS⟩, rfl⟩
  · rw [hc]
    intro v F' A' H' _ hr
    simpa [Rep] using hr
theorem Def1.fnG {P : Program} {w : World} {G : Cfg} {mg : Str → Option Value} {base : Heap} {fn : List He.DefD} {d : He.DefD} {n : List Str} {a : Nat} {bf : Calls → M Fl} (h : Def1 P w G mg base fn d n a bf) {k : Nat} {C : Calls} (T : Tab P w G mg base fn k C) {fd : FuncData}
    (F : FunD G.K d.name d.qual d.params d.body d.scope (d.dvs G.K) (d.kws G.K) (He.fAd G.K d.at_) fd) : FnG P w G.K mg base (L2.CX P w) (k + 1) (He.fAd G.K d.at_) (n.take a) fd (spOf G (runD n.length a (bf C))) := by
  refine g_of F h.sc (fun vs H Q E q => ?_) fun cdv A outer s H vs Q E hr hg q => ⟨_, h.bod k C cdv A outer s H E T ⟨hr, hg⟩, body_ok rfl h.ale q⟩
  rw [len_of runD_len vs H Q E q, List.length_take, Nat.min_eq_left h.ale]
theorem at_end {l : PySem.W.OpenLaw} {w : World} {k n : Nat} {x : Str} {mg : Str → Option Value} {h : Heap} {G : Cfg} {fn : List He.DefD} {body : Calls → Calls} {d : He.DefD} {N : List Str} {bf : Calls → M Fl} (inK : G.K.In h) (i : Nat)
    (D1 : ∀ base : Heap, Def1 l.prog w G mg base fn d N 1 bf) (tab : ∀ base : Heap, Tab l.prog w G mg base fn k (callK body k)) (hN : N.take 1 = [x]) (e : callK body (k + 1) i = runD N.length 1 (bf (callK body k)))
    (pure_ : ∀ ns : List Int, ns.length ≤ n → ∃ muz, callK body (k + 1) i [.scr ns] [] = .ok (.bl true) muz) : AtEnd l w (L2.CX l.prog w) (k + 1) n x mg (He.fAd G.K d.at_) h := by
  obtain ⟨fd, F⟩ := (D1 h).fun_
  have F' := F
  rw [(D1 h).dfl] at F'
  refine ⟨G.K, fd, [], spOf G (callK body (k + 1) i), inK, fun p hp => absurd hp List.not_mem_nil, fun p hp => absurd hp List.not_mem_nil, fun p hp => absurd hp List.not_mem_nil, fun s u => ?_, fun H a ns hl _ _ hS _ => sp_start hS (pure_ ns hl), fun base _ _ _ => ?_⟩
  · have b := F'.bindsA (D1 h).bnd s [u]
    rw [hN] at b
    exact b rfl
  · have z := (D1 base).fnG (tab base) F
    rw [e, ← hN]
    exact z
end AG

set_option Elab.async false
set_option linter.all false
set_option maxRecDepth 100000
namespace AG
open PySem L2
def Ok {α : Type} (o : O α) (Q : α → S → Prop) : Prop := match o with
  | .ok a s => Q a s
  | _ => False
def OkR (r : R) (Q : D → List MO → Prop) : Prop := match r with
  | .ok d muz => Q d muz
  | _ => False
@[simp] theorem Ok_ok {α : Type} (a : α) (s : S) (Q : α → S → Prop) : Ok (.ok a s) Q = Q a s := Eq.trans rfl rfl
@[simp] theorem OkR_ok (d : D) (muz : List MO) (Q : D → List MO → Prop) : OkR (.ok d muz) Q = Q d muz := Eq.trans rfl rfl
theorem Ok.mono {α : Type} {o : O α} {P Q : α → S → Prop} (h : Ok o P) (k : ∀ a s, P a s → Q a s) : Ok o Q := by
  cases o with
  | ok a s => exact k a s h
  | _ => exact h
theorem Ok.bind {α β : Type} {o : O α} {f : α → S → O β} {P : α → S → Prop} {Q : β → S → Prop} (h : Ok o P) (k : ∀ a s, P a s → Ok (f a s) Q) : Ok (o.bind f) Q := by
  cases o with
  | ok a s => exact k a s h
  | _ => exact h
theorem OkR.mono {r : R} {P Q : D → List MO → Prop} (h : OkR r P) (k : ∀ d muz, P d muz → Q d muz) : OkR r Q := by
  cases r with
  | ok a s => exact k a s h
  | _ => exact h
theorem OkR.eq {r : R} {d : D} {muz : List MO} (h : r = .ok d muz) {Q : D → List MO → Prop} (k : Q d muz) : OkR r Q := by rw [h]; exact k
@[simp] theorem sto_non : sto .non = true := Eq.trans rfl rfl
@[simp] theorem sto_bl (b : Bool) : sto (.bl b) = true := Eq.trans rfl rfl
@[simp] theorem sto_int (b : Int) : sto (.int b) = true := Eq.trans rfl rfl
@[simp] theorem sto_str (b : Str) : sto (.str b) = true := Eq.trans rfl rfl
@[simp] theorem sto_tup (b : List D) : sto (.tup b) = true := Eq.trans rfl rfl
@[simp] theorem sto_lst (b : List D) : sto (.lst b) = true := Eq.trans rfl rfl
@[simp] theorem sto_dct (t : Bool) (b : List (D × D)) : sto (.dct t b) = true := Eq.trans rfl rfl
@[simp] theorem sto_ins (t : Nat) (b : List (Str × D)) : sto (.ins t b) = true := Eq.trans rfl rfl
@[simp] theorem sto_hnd (b : Nat) : sto (.hnd b) = true := Eq.trans rfl rfl
@[simp] theorem sto_loc (b : Nat) : sto (.loc b) = false := Eq.trans rfl rfl
@[simp] theorem sto_scr (b : List Int) : sto (.scr b) = true := Eq.trans rfl rfl
section
variable {α : Type} {s : S} {f g h : M D} {t u : M Bool} {fl : M Fl} {ga : M (List D)} {fm gm : M MO}
def ofO : Option D → S → O D
  | some d, s => .ok d s
  | none, _ => .st
@[simp] theorem ofO_some (d : D) (s : S) : ofO (some d) s = .ok d s := Eq.trans rfl rfl
@[simp] theorem cS_ap (d : D) : cS d s = .ok d s := Eq.trans rfl rfl
def kVar (i : Nat) : Option SV → S → O D
  | some (.d x), s => .ok x s
  | some (.own _), s => .ok (.loc i) s
  | _, _ => .st
@[simp] theorem varS_ap (i : Nat) : varS i s = kVar i s.rhz[i]? s := by unfold varS; cases s.rhz[i]? with | none => rfl | some x => cases x <;> rfl
@[simp] theorem kVar_d (i : Nat) (x : D) (s : S) : kVar i (some (.d x)) s = .ok x s := Eq.trans rfl rfl
@[simp] theorem kVar_own (i : Nat) (m : MO) (s : S) : kVar i (some (.own m)) s = .ok (.loc i) s := Eq.trans rfl rfl
def kB2 (op : S → D → D → Option D) (x : D) : D → S → O D := fun y s => ofO (op s x y) s
def kB1 (op : S → D → D → Option D) (g : M D) : D → S → O D := fun x s => (g s).bind (kB2 op x)
@[simp] theorem binS_ap (op : S → D → D → Option D) : binS op f g s = (f s).bind (kB1 op g) := by
  unfold binS kB1 kB2 ofO
  congr 1; funext x s1; congr 1; funext y s2; cases op s2 x y <;> rfl
@[simp] theorem kB1_ap (op : S → D → D → Option D) (x : D) (s : S) : kB1 op g x s = (g s).bind (kB2 op x) := Eq.trans rfl rfl
@[simp] theorem kB2_ap (op : S → D → D → Option D) (x y : D) (s : S) : kB2 op x y s = ofO (op s x y) s := Eq.trans rfl rfl
def kU (op : S → D → Option D) : D → S → O D := fun x s => ofO (op s x) s
@[simp] theorem unS_ap (op : S → D → Option D) : unS op f s = (f s).bind (kU op) := by
  unfold unS kU ofO
  congr 1; funext x s1; cases op s1 x <;> rfl
@[simp] theorem kU_ap (op : S → D → Option D) (x : D) (s : S) : kU op x s = ofO (op s x) s := Eq.trans rfl rfl
def kAnd (g : M D) : D → S → O D
  | .bl true, s => g s
  | .bl false, s => .ok (.bl false) s
  | _, _ => .st
@[simp] theorem andS_ap : andS f g s = (f s).bind (kAnd g) := by
  unfold andS; congr 1; funext x s1
  cases x with
  | bl b => cases b <;> rfl
  | _ => rfl
@[simp] theorem kAnd_t (g : M D) (s : S) : kAnd g (.bl true) s = g s := Eq.trans rfl rfl
@[simp] theorem kAnd_f (g : M D) (s : S) : kAnd g (.bl false) s = .ok (.bl false) s := Eq.trans rfl rfl
def kOr (g : M D) : D → S → O D
  | .bl false, s => g s
  | .bl true, s => .ok (.bl true) s
  | _, _ => .st
@[simp] theorem orS_ap : orS f g s = (f s).bind (kOr g) := by
  unfold orS; congr 1; funext x s1
  cases x with
  | bl b => cases b <;> rfl
  | _ => rfl
@[simp] theorem kOr_t (g : M D) (s : S) : kOr g (.bl true) s = .ok (.bl true) s := Eq.trans rfl rfl
@[simp] theorem kOr_f (g : M D) (s : S) : kOr g (.bl false) s = g s := Eq.trans rfl rfl
def kNot : D → S → O D
  | .bl b, s => .ok (.bl (!b)) s
  | _, _ => .st
@[simp] theorem notS_ap : notS f s = (f s).bind kNot := by
  unfold notS; congr 1; funext x s1; cases x <;> rfl
@[simp] theorem kNot_ap (b : Bool) (s : S) : kNot (.bl b) s = .ok (.bl (!b)) s := Eq.trans rfl rfl
def kTst : D → S → O Bool
  | .bl b, s => .ok b s
  | _, _ => .st
@[simp] theorem tstS_ap : tstS f s = (f s).bind kTst := by
  unfold tstS; congr 1; funext x s1; cases x <;> rfl
@[simp] theorem kTst_ap (b : Bool) (s : S) : kTst (.bl b) s = .ok b s := Eq.trans rfl rfl
def kTAnd (g : M Bool) : Bool → S → O Bool := fun x s => if x = true then g s else .ok false s
@[simp] theorem tAndS_ap : tAndS t u s = (t s).bind (kTAnd u) := Eq.trans rfl rfl
@[simp] theorem kTAnd_t (s : S) : kTAnd u true s = u s := Eq.trans rfl rfl
@[simp] theorem kTAnd_f (s : S) : kTAnd u false s = .ok false s := Eq.trans rfl rfl
def kTOr (g : M Bool) : Bool → S → O Bool := fun x s => if x = true then .ok true s else g s
@[simp] theorem tOrS_ap : tOrS t u s = (t s).bind (kTOr u) := Eq.trans rfl rfl
@[simp] theorem kTOr_t (s : S) : kTOr u true s = .ok true s := Eq.trans rfl rfl
@[simp] theorem kTOr_f (s : S) : kTOr u false s = u s := Eq.trans rfl rfl
def kTNot : Bool → S → O Bool := fun x s => .ok (!x) s
@[simp] theorem tNotS_ap : tNotS t s = (t s).bind kTNot := Eq.trans rfl rfl
@[simp] theorem kTNot_ap (b : Bool) (s : S) : kTNot b s = .ok (!b) s := Eq.trans rfl rfl
def kIte (f g : M α) : Bool → S → O α := fun b s => if b = true then f s else g s
@[simp] theorem iteS_ap : iteS t f g s = (t s).bind (kIte f g) := Eq.trans rfl rfl
@[simp] theorem ifS_ap {a b : M Fl} : ifS t a b s = (t s).bind (kIte a b) := Eq.trans rfl rfl
@[simp] theorem kIte_t (f g : M α) (s : S) : kIte f g true s = f s := Eq.trans rfl rfl
@[simp] theorem kIte_f (f g : M α) (s : S) : kIte f g false s = g s := Eq.trans rfl rfl
def kC2 (op' : S → D → D → Option D) (y : D) : D → S → O D := fun z s => ofO (op' s y z) s
def kC1' (op' : S → D → D → Option D) (h : M D) (y : D) : Option D → S → O D
  | some (.bl true), s => (h s).bind (kC2 op' y)
  | some (.bl false), s => .ok (.bl false) s
  | _, _ => .st
def kC1 (op op' : S → D → D → Option D) (h : M D) (x : D) : D → S → O D := fun y s => kC1' op' h y (op s x y) s
def kC0 (op op' : S → D → D → Option D) (g h : M D) : D → S → O D := fun x s => (g s).bind (kC1 op op' h x)
@[simp] theorem chainS_ap (op op' : S → D → D → Option D) : chainS op op' f g h s = (f s).bind (kC0 op op' g h) := by
  unfold chainS kC0 kC1 kC1' kC2 ofO
  congr 1; funext x s1; congr 1; funext y s2
  cases op s2 x y with
  | none => rfl
  | some d => cases d with
    | bl b => cases b with
      | true => show O.bind _ _ = O.bind _ _; congr 1; funext z s3; cases op' s3 y z <;> rfl
      | false => rfl
    | _ => rfl
@[simp] theorem kC0_ap (op op' : S → D → D → Option D) (x : D) (s : S) : kC0 op op' g h x s = (g s).bind (kC1 op op' h x) := Eq.trans rfl rfl
@[simp] theorem kC1_ap (op op' : S → D → D → Option D) (x y : D) (s : S) : kC1 op op' h x y s = kC1' op' h y (op s x y) s := Eq.trans rfl rfl
@[simp] theorem kC1'_t (op' : S → D → D → Option D) (y : D) (s : S) : kC1' op' h y (some (.bl true)) s = (h s).bind (kC2 op' y) := Eq.trans rfl rfl
@[simp] theorem kC1'_f (op' : S → D → D → Option D) (y : D) (s : S) : kC1' op' h y (some (.bl false)) s = .ok (.bl false) s := Eq.trans rfl rfl
@[simp] theorem kC2_ap (op' : S → D → D → Option D) (y z : D) (s : S) : kC2 op' y z s = ofO (op' s y z) s := Eq.trans rfl rfl
@[simp] theorem nilS_ap : nilS s = .ok [] s := Eq.trans rfl rfl
def kCons2 (x : D) : List D → S → O (List D) := fun xs s => .ok (x :: xs) s
def kCons (g : M (List D)) : D → S → O (List D) := fun x s => (g s).bind (kCons2 x)
@[simp] theorem consS_ap : consS f ga s = (f s).bind (kCons ga) := Eq.trans rfl rfl
@[simp] theorem kCons_ap (x : D) (s : S) : kCons ga x s = (ga s).bind (kCons2 x) := Eq.trans rfl rfl
@[simp] theorem kCons2_ap (x : D) (xs : List D) (s : S) : kCons2 x xs s = .ok (x :: xs) s := Eq.trans rfl rfl
def kTup : List D → S → O D := fun xs s => if xs.all sto && decide (xs.length ≤ LIM) then .ok (.tup xs) s else .st
@[simp] theorem tupS_ap : tupS ga s = (ga s).bind kTup := Eq.trans rfl rfl
theorem kTup_ap (xs : List D) (s : S) (h : xs.all sto = true) (hl : xs.length ≤ LIM) : kTup xs s = .ok (.tup xs) s := by unfold kTup; simp [h, hl]
@[simp] theorem kTup_0 (s : S) : kTup [] s = .ok (.tup []) s := kTup_ap _ _ rfl (by decide)
def kTupB (xs : List D) (s : S) : Bool → O D
  | true => .ok (.tup xs) s
  | false => .st
@[simp] theorem kTupB_t (xs : List D) (s : S) : kTupB xs s true = .ok (.tup xs) s := Eq.trans rfl rfl
@[simp] theorem kTup_1 (a : D) (s : S) : kTup [a] s = kTupB [a] s (sto a) := by
  unfold kTup kTupB
  have : decide ([a].length ≤ LIM) = true := (by decide : decide (1 ≤ LIM) = true)
  rw [this]
  cases h : sto a <;> simp [h]
@[simp] theorem kTup_2 (a b : D) (s : S) : kTup [a, b] s = kTupB [a, b] s (sto a && sto b) := by
  unfold kTup kTupB
  have : decide ([a, b].length ≤ LIM) = true := (by decide : decide (2 ≤ LIM) = true)
  rw [this]
  cases h : sto a <;> cases h2 : sto b <;> simp [h, h2]
def kLst : List D → S → O MO := fun xs s => if xs.all sto && decide (xs.length ≤ LIM) then .ok (.ml xs) s else .st
@[simp] theorem lstF_ap : lstF ga s = (ga s).bind kLst := Eq.trans rfl rfl
theorem kLst_ap (xs : List D) (s : S) (h : xs.all sto = true) (hl : xs.length ≤ LIM) : kLst xs s = .ok (.ml xs) s := by unfold kLst; simp [h, hl]
def kLstB (xs : List D) (s : S) : Bool → O MO
  | true => .ok (.ml xs) s
  | false => .st
@[simp] theorem kLstB_t (xs : List D) (s : S) : kLstB xs s true = .ok (.ml xs) s := Eq.trans rfl rfl
@[simp] theorem kLst_0 (s : S) : kLst [] s = .ok (.ml []) s := kLst_ap _ _ rfl (by decide)
@[simp] theorem kLst_1 (a : D) (s : S) : kLst [a] s = kLstB [a] s (sto a) := by
  unfold kLst kLstB
  have : decide ([a].length ≤ LIM) = true := (by decide : decide (1 ≤ LIM) = true)
  rw [this]
  cases h : sto a <;> simp [h]
def kFrz : MO → S → O D := fun m s => .ok (frzD m) s
@[simp] theorem frzS_ap : frzS fm s = (fm s).bind kFrz := Eq.trans rfl rfl
@[simp] theorem kFrz_ap (m : MO) (s : S) : kFrz m s = .ok (frzD m) s := Eq.trans rfl rfl
def kCv (op : S → List D → Option D) : List D → S → O D := fun xs s => ofO (op s xs) s
@[simp] theorem callV_ap (op : S → List D → Option D) : callV op ga s = (ga s).bind (kCv op) := by
  unfold callV kCv ofO; congr 1; funext x s1; cases op s1 x <;> rfl
@[simp] theorem kCv_ap (op : S → List D → Option D) (xs : List D) (s : S) : kCv op xs s = ofO (op s xs) s := Eq.trans rfl rfl
def ofN : Option MO → S → O MO
  | some d, s => .ok d s
  | none, _ => .st
@[simp] theorem ofN_some (d : MO) (s : S) : ofN (some d) s = .ok d s := Eq.trans rfl rfl
def kCn (op : S → List D → Option MO) : List D → S → O MO := fun xs s => ofN (op s xs) s
@[simp] theorem callN_ap (op : S → List D → Option MO) : callN op ga s = (ga s).bind (kCn op) := by
  unfold callN kCn ofN; congr 1; funext x s1; cases op s1 x <;> rfl
@[simp] theorem kCn_ap (op : S → List D → Option MO) (xs : List D) (s : S) : kCn op xs s = ofN (op s xs) s := Eq.trans rfl rfl
end
end AG

set_option Elab.async false
set_option linter.all false
set_option maxRecDepth 100000
namespace AG
open PySem L2
section
variable {α : Type} {s : S} {f g h : M D} {t u : M Bool} {a b : M Fl} {ga : M (List D)} {fm gm : M MO}
def kEx : D → S → O Fl := fun _ s => .ok .nx s
@[simp] theorem exS_ap : exS f s = (f s).bind kEx := Eq.trans rfl rfl
@[simp] theorem kEx_ap (d : D) (s : S) : kEx d s = .ok .nx s := Eq.trans rfl rfl
def kSet (i : Nat) : D → S → O Fl := fun x s => if sto x then .ok .nx { s with rhz := s.rhz.set i (.d x) } else .st
@[simp] theorem setS_ap (i : Nat) : setS i f s = (f s).bind (kSet i) := Eq.trans rfl rfl
def kSetB (i : Nat) (x : D) (s : S) : Bool → O Fl
  | true => .ok .nx ⟨s.rhz.set i (.d x), s.muz⟩
  | false => .st
@[simp] theorem kSet_ap (i : Nat) (x : D) (s : S) : kSet i x s = kSetB i x s (sto x) := by unfold kSet kSetB; cases sto x <;> rfl
@[simp] theorem kSetB_t (i : Nat) (x : D) (s : S) : kSetB i x s true = .ok .nx ⟨s.rhz.set i (.d x), s.muz⟩ := Eq.trans rfl rfl
def kOwn (i : Nat) : MO → S → O Fl := fun m s => .ok .nx { s with rhz := s.rhz.set i (.own m) }
@[simp] theorem ownS_ap (i : Nat) : ownS i fm s = (fm s).bind (kOwn i) := Eq.trans rfl rfl
@[simp] theorem kOwn_ap (i : Nat) (x : MO) (s : S) : kOwn i x s = .ok .nx ⟨s.rhz.set i (.own x), s.muz⟩ := Eq.trans rfl rfl
def kRet : D → S → O Fl := fun x s => match x with
  | .loc i => (match s.rhz[i]? with
    | some (.own m) => .ok (.rt (frzD m)) { s with rhz := s.rhz.set i .un }
    | _ => .st)
  | x => .ok (.rt x) s
@[simp] theorem retS_ap : retS f s = (f s).bind kRet := Eq.trans rfl rfl
theorem kRet_ap (x : D) (s : S) (h : sto x = true) : kRet x s = .ok (.rt x) s := by unfold kRet; cases x <;> first | rfl | cases h
@[simp] theorem kRet_non (s : S) : kRet .non s = .ok (.rt .non) s := Eq.trans rfl rfl
@[simp] theorem kRet_bl (b : Bool) (s : S) : kRet (.bl b) s = .ok (.rt (.bl b)) s := Eq.trans rfl rfl
@[simp] theorem kRet_int (b : Int) (s : S) : kRet (.int b) s = .ok (.rt (.int b)) s := Eq.trans rfl rfl
@[simp] theorem kRet_str (b : Str) (s : S) : kRet (.str b) s = .ok (.rt (.str b)) s := Eq.trans rfl rfl
@[simp] theorem kRet_tup (b : List D) (s : S) : kRet (.tup b) s = .ok (.rt (.tup b)) s := Eq.trans rfl rfl
@[simp] theorem kRet_lst (b : List D) (s : S) : kRet (.lst b) s = .ok (.rt (.lst b)) s := Eq.trans rfl rfl
@[simp] theorem kRet_hnd (b : Nat) (s : S) : kRet (.hnd b) s = .ok (.rt (.hnd b)) s := Eq.trans rfl rfl
@[simp] theorem kRet_dct (t : Bool) (b : List (D × D)) (s : S) : kRet (.dct t b) s = .ok (.rt (.dct t b)) s := Eq.trans rfl rfl
@[simp] theorem kRet_ins (t : Nat) (b : List (Str × D)) (s : S) : kRet (.ins t b) s = .ok (.rt (.ins t b)) s := Eq.trans rfl rfl
def kRet1 (i : Nat) : Option SV → S → O Fl
  | some (.own m), s => .ok (.rt (frzD m)) { s with rhz := s.rhz.set i .un }
  | _, _ => .st
@[simp] theorem kRet_loc (i : Nat) (s : S) : kRet (.loc i) s = kRet1 i s.rhz[i]? s := by
  rcases h : s.rhz[i]? with _ | x
  · simp [kRet, kRet1, h]
  · cases x <;> simp [kRet, kRet1, h]
@[simp] theorem kRet1_ap (i : Nat) (m : MO) (s : S) : kRet1 i (some (.own m)) s = .ok (.rt (frzD m)) ⟨s.rhz.set i .un, s.muz⟩ := Eq.trans rfl rfl
@[simp] theorem nxS_ap : nxS s = .ok .nx s := Eq.trans rfl rfl
@[simp] theorem bkS_ap : bkS s = .ok .bk s := Eq.trans rfl rfl
@[simp] theorem ctS_ap : ctS s = .ok .ct s := Eq.trans rfl rfl
def kSeq (g : M Fl) : Fl → S → O Fl
  | .nx, s => g s
  | fl, s => .ok fl s
@[simp] theorem seqS_ap : seqS a b s = (a s).bind (kSeq b) := by unfold seqS kSeq; congr 1; funext fl s1; cases fl <;> rfl
@[simp] theorem kSeq_nx (s : S) : kSeq b .nx s = b s := Eq.trans rfl rfl
@[simp] theorem kSeq_rt (d : D) (s : S) : kSeq b (.rt d) s = .ok (.rt d) s := Eq.trans rfl rfl
@[simp] theorem kSeq_bk (s : S) : kSeq b .bk s = .ok .bk s := Eq.trans rfl rfl
@[simp] theorem kSeq_ct (s : S) : kSeq b .ct s = .ok .ct s := Eq.trans rfl rfl
def kFor (tg : D → M Unit) (body : M Fl) : List D → S → O Fl := fun ds s => forL tg body ds s
@[simp] theorem forS_ap (it : M (List D)) (tg : D → M Unit) (body : M Fl) : forS it tg body s = (it s).bind (kFor tg body) := Eq.trans rfl rfl
theorem kFor_ap (tg : D → M Unit) (body : M Fl) (ds : List D) (s : S) : kFor tg body ds s = forL tg body ds s := rfl
@[simp] theorem tgN_ap (i : Nat) (d : D) (s : S) : tgN i d s = .ok () ⟨s.rhz.set i (.d d), s.muz⟩ := Eq.trans rfl rfl
def kIt : Option (List D) → S → O (List D)
  | some l, s => .ok l s
  | none, _ => .st
@[simp] theorem kIt_ap (l : List D) (s : S) : kIt (some l) s = .ok l s := Eq.trans rfl rfl
def kIts : D → S → O (List D) := fun d s => kIt (seqD d) s
@[simp] theorem itS_ap : itS f s = (f s).bind kIts := by unfold itS kIts kIt; congr 1; funext d s1; cases seqD d <;> rfl
@[simp] theorem kIts_ap (d : D) (s : S) : kIts d s = kIt (seqD d) s := Eq.trans rfl rfl
@[simp] theorem seqD_lst (l : List D) : seqD (.lst l) = some l := Eq.trans rfl rfl
@[simp] theorem seqD_tup (l : List D) : seqD (.tup l) = some l := Eq.trans rfl rfl
@[simp] theorem seqD_scr (l : List Int) : seqD (.scr l) = some (l.map .int) := Eq.trans rfl rfl
def kStr : D → S → O (List D)
  | .str x, s => .ok (x.cps.toList.map fun c => .str ⟨#[c]⟩) s
  | _, _ => .st
@[simp] theorem itStr_ap : itStr f s = (f s).bind kStr := by unfold itStr; congr 1; funext d s1; cases d <;> rfl
@[simp] theorem kStr_ap (x : Str) (s : S) : kStr (.str x) s = .ok (x.cps.toList.map fun c => .str ⟨#[c]⟩) s := Eq.trans rfl rfl
def kRng : D → S → O (List D)
  | .int j, s => if -(2 ^ 62) ≤ j ∧ j < 2 ^ 62 then .ok ((List.range j.toNat).map fun i => .int (i : Nat)) s else .st
  | _, _ => .st
@[simp] theorem itRng_ap : itRng f s = (f s).bind kRng := by unfold itRng; congr 1; funext d s1; cases d <;> rfl
theorem kRng_ap (n : Nat) (s : S) (h : n < 2 ^ 62) : kRng (.int n) s = .ok ((List.range n).map fun i => .int (i : Nat)) s := by
  unfold kRng
  simp only [Int.toNat_natCast]
  rw [if_pos]
  omega
def kRng2b (i : Int) : D → S → O (List D)
  | .int j, s => if -(2 ^ 62) ≤ i ∧ i < 2 ^ 62 ∧ -(2 ^ 62) ≤ j ∧ j < 2 ^ 62 then .ok ((List.range (j - i).toNat).map fun k => .int (i + (k : Nat))) s else .st
  | _, _ => .st
def kRng2 (g : M D) : D → S → O (List D)
  | .int i, s => (g s).bind (kRng2b i)
  | _, s => (g s).bind fun _ _ => .st
@[simp] theorem itRng2_ap : itRng2 f g s = (f s).bind (kRng2 g) := by
  unfold itRng2
  congr 1; funext d s1
  cases d with
  | int i => show O.bind _ _ = O.bind _ _; congr 1; funext d2 s2; cases d2 <;> rfl
  | _ => rfl
@[simp] theorem kRng2_ap (i : Int) (s : S) : kRng2 g (.int i) s = (g s).bind (kRng2b i) := Eq.trans rfl rfl
theorem kRng2b_ap (i j : Int) (s : S) (h : -(2 ^ 62) ≤ i ∧ i < 2 ^ 62 ∧ -(2 ^ 62) ≤ j ∧ j < 2 ^ 62) : kRng2b i (.int j) s = .ok ((List.range (j - i).toNat).map fun k => .int (i + (k : Nat))) s := by
  show (if _ then _ else _) = _
  rw [if_pos h]
def kR : R → S → O D
  | .ok d muz, s => .ok d { s with muz := muz }
  | .err e muz, s => .err e { s with muz := muz }
  | .st, _ => .st
def kCall (call : List D → List MO → R) : List D → S → O D := fun ds s => if ds.all sto then kR (call ds s.muz) s else .st
@[simp] theorem callF_ap (call : List D → List MO → R) : callF call ga s = (ga s).bind (kCall call) := by
  unfold callF kCall kR; congr 1; funext ds s1; cases ds.all sto with
  | false => rfl
  | true => simp only [if_true]; cases call ds s1.muz <;> rfl
@[simp] theorem kR_ok (d : D) (muz : List MO) (s : S) : kR (.ok d muz) s = .ok d ⟨s.rhz, muz⟩ := Eq.trans rfl rfl
theorem kCall_eq {call : List D → List MO → R} {ds : List D} {muz muz' : List MO} {rhz : List SV} {d : D} (h : call ds muz = .ok d muz') (hs : ds.all sto = true) : kCall call ds ⟨rhz, muz⟩ = .ok d ⟨rhz, muz'⟩ := by unfold kCall; rw [if_pos hs, h]; rfl
theorem kCall_ok {call : List D → List MO → R} {ds : List D} {muz : List MO} {rhz : List SV} {Q : D → S → Prop} (h : OkR (call ds muz) fun d muz' => Q d ⟨rhz, muz'⟩) (hs : ds.all sto = true) : Ok (kCall call ds ⟨rhz, muz⟩) Q := by
  unfold kCall; rw [if_pos hs]
  show Ok (kR (call ds muz) ⟨rhz, muz⟩) Q
  cases q : call ds muz with
  | ok d muz' => rw [q] at h; exact h
  | _ => rw [q] at h; exact h
theorem Ok.call {α : Type} {call : List D → List MO → R} {ds : List D} {muz : List MO} {rhz : List SV} {f : D → S → O α} {P : D → List MO → Prop} {Q : α → S → Prop} (h : OkR (call ds muz) P) (k : ∀ d muz', P d muz' → Ok (f d ⟨rhz, muz'⟩) Q) (hs : ds.all sto = true) : Ok ((kCall call ds ⟨rhz, muz⟩).bind f) Q :=
  Ok.bind (P := fun d s => ∃ muz', s = ⟨rhz, muz'⟩ ∧ P d muz') (kCall_ok (h.mono fun d muz' p => ⟨muz', rfl, p⟩) hs) fun d s ⟨muz', e, p⟩ => by subst e; exact k d muz' p
theorem bind_assoc {β γ : Type} (o : O α) (f : α → S → O β) (g : β → S → O γ) : (o.bind f).bind g = o.bind fun a s => (f a s).bind g := by cases o <;> rfl
theorem runD_ok {n k : Nat} {body : M Fl} {ds : List D} {muz : List MO} {Q : D → List MO → Prop} (hl : ds.length = k) (h : Ok (body ⟨ds.map .d ++ List.replicate (n - k) .un, muz⟩) fun fl s => match fl with
    | .nx => Q .non s.muz
    | .rt d => Q d s.muz
    | _ => False) : OkR (runD n k body ds muz) Q := by
  unfold runD
  rw [if_pos hl]
  cases q : body ⟨ds.map .d ++ List.replicate (n - k) .un, muz⟩ with
  | ok fl s =>
    rw [q] at h
    cases fl with
    | nx => exact h
    | rt d => exact h
    | _ => exact h.elim
  | _ => rw [q] at h; exact h.elim
theorem forL_inv {tg : D → M Unit} {body : M Fl} {Q : Fl → S → Prop} : ∀ (ds : List D) (I : Nat → S → Prop) (s : S), I 0 s →
    (∀ i d s, ds[i]? = some d → I i s → Ok ((tg d s).bind fun _ s1 => body s1) fun fl s2 => match fl with
      | .nx => I (i + 1) s2
      | .ct => I (i + 1) s2
      | .bk => Q .nx s2
      | .rt x => Q (.rt x) s2) → (∀ s, I ds.length s → Q .nx s) → Ok (forL tg body ds s) Q
  | [], I, s, h0, _, hq => hq s h0
  | d :: ds, I, s, h0, hs, hq => by
    have z := hs 0 d s rfl h0
    unfold forL
    cases qt : tg d s with
    | ok u s1 =>
      rw [qt] at z
      simp only [O.bind_ok] at z ⊢
      cases qb : body s1 with
      | ok fl s2 =>
        rw [qb] at z
        simp only [O.bind_ok, Ok_ok] at z ⊢
        cases fl with
        | nx => exact forL_inv ds (fun i => I (i + 1)) s2 z (fun i e s he hi => hs (i + 1) e s (by simpa using he) hi) hq
        | ct => exact forL_inv ds (fun i => I (i + 1)) s2 z (fun i e s he hi => hs (i + 1) e s (by simpa using he) hi) hq
        | bk => exact z
        | rt x => exact z
      | _ => rw [qb] at z; exact z.elim
    | _ => rw [qt] at z; exact z.elim
theorem lcL_inv {i : Nat} {c : M Bool} {e : M D} {rhz : List SV} (hi : i < rhz.length) {J : Nat → List D → List MO → Prop} : ∀ (ds : List D) (k : Nat) (acc : List D) (muz : List MO), J k acc muz →
    (∀ n d acc muz, ds[n]? = some d → J (k + n) acc muz → Ok (c ⟨rhz.set i (.d d), muz⟩) fun b s1 => s1.rhz = rhz.set i (.d d) ∧ if b = true then Ok (e s1) fun y s2 => s2.rhz = rhz.set i (.d d) ∧ sto y = true ∧ acc.length < LIM ∧ J (k + n + 1) (acc ++ [y]) s2.muz else J (k + n + 1) acc s1.muz) →
    Ok (lcL (tgN i) c e [i] ds acc ⟨rhz.set i .un, muz⟩) fun l s => s.rhz = rhz.set i .un ∧ J (k + ds.length) l s.muz
  | [], k, acc, muz, h, _ => ⟨rfl, h⟩
  | d :: ds, k, acc, muz, h, hs => by
    have z := hs 0 d acc muz rfl h
    unfold lcL
    simp only [tgN_ap, O.bind_ok, List.set_set]
    have next : ∀ (acc' : List D) (s3 : S), s3.rhz = rhz.set i (.d d) → J (k + 1) acc' s3.muz → Ok (lcL (tgN i) c e [i] ds acc' { s3 with rhz := wipeR s3.rhz [i] }) fun l s => s.rhz = rhz.set i .un ∧ J (k + (d :: ds).length) l s.muz := fun acc' s3 e3 h3 => by
      have e4 : ({ s3 with rhz := wipeR s3.rhz [i] } : S) = ⟨rhz.set i .un, s3.muz⟩ := by simp [wipeR, e3, List.set_set]
      rw [e4]
      have := lcL_inv hi ds (k + 1) acc' s3.muz h3 fun n d' acc'' muz' hd hj => by
        have w := hs (n + 1) d' acc'' muz' (by simpa using hd) (by rw [show k + (n + 1) = k + 1 + n by omega]; exact hj)
        rw [show k + (n + 1) + 1 = k + 1 + n + 1 by omega] at w
        exact w
      rw [show k + 1 + ds.length = k + (d :: ds).length by simp; omega] at this
      exact this
    cases qc : c ⟨rhz.set i (.d d), muz⟩ with
    | ok b s1 =>
      rw [qc] at z
      obtain ⟨z1, z2⟩ := z
      simp only [O.bind_ok]
      cases b with
      | false =>
        rw [if_neg Bool.false_ne_true] at z2 ⊢
        exact next acc s1 z1 z2
      | true =>
        rw [if_pos rfl] at z2 ⊢
        cases qe : e s1 with
        | ok y s2 =>
          rw [qe] at z2
          obtain ⟨w1, w2, w3, w4⟩ := z2
          simp only [O.bind_ok, w2, Bool.true_and, decide_eq_true w3, if_true]
          exact next _ s2 w1 w4
        | _ => rw [qe] at z2; exact z2.elim
    | _ => rw [qc] at z; exact z.elim
def kLc (tg : D → M Unit) (c : M Bool) (e : M D) (vs : List Nat) : List D → S → O MO := fun ds s1 => if vs.any (fun v => isOwn (s1.rhz.getD v .un)) then .st else match lcL tg c e vs ds [] { s1 with rhz := wipeR s1.rhz vs } with
    | .ok acc s2 => .ok (.ml acc) { s2 with rhz := backR s1.rhz s2.rhz vs }
    | _ => .st
@[simp] theorem lcF_ap (it : M (List D)) (tg : D → M Unit) (c : M Bool) (e : M D) (vs : List Nat) : lcF it tg c e vs s = (it s).bind (kLc tg c e vs) := Eq.trans rfl rfl
theorem kLc_ok {i : Nat} {c : M Bool} {e : M D} {rhz : List SV} {ds : List D} {muz : List MO} (J : Nat → List D → List MO → Prop) {Q : MO → S → Prop} (hi : i < rhz.length) (ho : isOwn (rhz.getD i .un) = false) (h0 : J 0 [] muz)
    (hs : ∀ n d acc muz, ds[n]? = some d → J n acc muz → Ok (c ⟨rhz.set i (.d d), muz⟩) fun b s1 => s1.rhz = rhz.set i (.d d) ∧ if b = true then Ok (e s1) fun y s2 => s2.rhz = rhz.set i (.d d) ∧ sto y = true ∧ acc.length < LIM ∧ J (n + 1) (acc ++ [y]) s2.muz else J (n + 1) acc s1.muz)
    (hq : ∀ l muz', J ds.length l muz' → Q (.ml l) ⟨rhz, muz'⟩) : Ok (kLc (tgN i) c e [i] ds ⟨rhz, muz⟩) Q := by
  unfold kLc
  have ha : ([i].any fun v => isOwn ((⟨rhz, muz⟩ : S).rhz.getD v .un)) = false := by simpa using ho
  rw [ha, if_neg Bool.false_ne_true]
  have z := lcL_inv (c := c) (e := e) hi ds 0 [] muz h0 fun n d acc muz hd hj => by
    have w := hs n d acc muz hd (by simpa using hj)
    simpa using w
  have e1 : ({ (⟨rhz, muz⟩ : S) with rhz := wipeR rhz [i] } : S) = ⟨rhz.set i .un, muz⟩ := rfl
  rw [show ({ rhz := wipeR (⟨rhz, muz⟩ : S).rhz [i], muz := (⟨rhz, muz⟩ : S).muz } : S) = ⟨rhz.set i .un, muz⟩ from rfl]
  cases q : lcL (tgN i) c e [i] ds [] ⟨rhz.set i .un, muz⟩ with
  | ok l s2 =>
    rw [q] at z
    obtain ⟨z1, z2⟩ := z
    have e2 : backR rhz s2.rhz [i] = rhz := by
      simp only [backR, z1, List.set_set]
      rw [List.getD_eq_getElem?_getD, List.getElem?_eq_getElem hi]
      simp
    show Q (.ml l) ⟨backR rhz s2.rhz [i], s2.muz⟩
    rw [e2]
    exact hq l s2.muz (by simpa using z2)
  | _ => rw [q] at z; exact z.elim
theorem kLc_pure {i : Nat} {c : M Bool} {e : M D} {rhz : List SV} {ds : List D} {muz : List MO} (p : D → Bool) (y : D → D) (hi : i < rhz.length) (ho : isOwn (rhz.getD i .un) = false)
    (hc : ∀ d ∈ ds, c ⟨rhz.set i (.d d), muz⟩ = .ok (p d) ⟨rhz.set i (.d d), muz⟩) (he : ∀ d ∈ ds, p d = true → e ⟨rhz.set i (.d d), muz⟩ = .ok (y d) ⟨rhz.set i (.d d), muz⟩ ∧ sto (y d) = true) (hl : ds.length ≤ LIM) :
    kLc (tgN i) c e [i] ds ⟨rhz, muz⟩ = .ok (.ml ((ds.filter p).map y)) ⟨rhz, muz⟩ := by
  have z : Ok (kLc (tgN i) c e [i] ds ⟨rhz, muz⟩) fun m s => m = .ml ((ds.filter p).map y) ∧ s = ⟨rhz, muz⟩ := by
    refine kLc_ok (fun n acc muz' => acc = ((ds.take n).filter p).map y ∧ muz' = muz ∧ acc.length ≤ n) hi ho ⟨by simp, rfl, Nat.le_refl _⟩ ?_ ?_
    · rintro n d acc muz' hd ⟨h1, rfl, h2⟩
      have hn := (List.getElem?_eq_some_iff.mp hd).1
      have hm : d ∈ ds := List.mem_of_getElem? hd
      have et : ds.take (n + 1) = ds.take n ++ [d] := by rw [List.take_succ, hd]; rfl
      rw [hc d hm]
      refine ⟨rfl, ?_⟩
      cases q : p d with
      | false =>
        rw [if_neg Bool.false_ne_true]
        exact ⟨by rw [h1, et, List.filter_append]; simp [q], rfl, by omega⟩
      | true =>
        rw [if_pos rfl, (he d hm q).1]
        exact ⟨rfl, (he d hm q).2, by omega, by rw [h1, et, List.filter_append]; simp [q], rfl, by simp; omega⟩
    · rintro l muz' ⟨h1, rfl, _⟩
      rw [List.take_length] at h1
      exact ⟨by rw [h1], rfl⟩
  cases q : kLc (tgN i) c e [i] ds ⟨rhz, muz⟩ with
  | ok m s => rw [q] at z; obtain ⟨rfl, rfl⟩ := z; rfl
  | _ => rw [q] at z; exact z.elim
end
end AG

set_option Elab.async false
set_option linter.all false
set_option maxRecDepth 100000
namespace AG
open PySem L2
section
variable {s : S} {f g h : M D} {ga : M (List D)} {fm gm : M MO}
def kHnd : MO → S → O D := fun m s => .ok (.hnd s.muz.length) { s with muz := s.muz ++ [m] }
@[simp] theorem hndS_ap : hndS fm s = (fm s).bind kHnd := Eq.trans rfl rfl
@[simp] theorem kHnd_ap (m : MO) (s : S) : kHnd m s = .ok (.hnd s.muz.length) ⟨s.rhz, s.muz ++ [m]⟩ := Eq.trans rfl rfl
def kApp1 (x : D) : D → S → O Fl := fun y s2 => match ml? s2 x with
  | some (l, put) => if sto y && decide (l.length < LIM) then .ok .nx (put (l ++ [y])) else .st
  | none => .st
def kApp (g : M D) : D → S → O Fl := fun x s1 => match ml? s1 x with
  | none => .st
  | some _ => (g s1).bind (kApp1 x)
@[simp] theorem appS_ap : appS f g s = (f s).bind (kApp g) := Eq.trans rfl rfl
theorem kApp_own {i : Nat} {rhz : List SV} {muz : List MO} {l : List D} (h : rhz[i]? = some (.own (.ml l))) : kApp g (.loc i) ⟨rhz, muz⟩ = (g ⟨rhz, muz⟩).bind (kApp1 (.loc i)) := by unfold kApp ml?; simp only [h]
theorem kApp1_own {i : Nat} {rhz : List SV} {muz : List MO} {l : List D} {y : D} (h : rhz[i]? = some (.own (.ml l))) (hy : sto y = true) (hl : l.length < LIM) : kApp1 (.loc i) y ⟨rhz, muz⟩ = .ok .nx ⟨rhz.set i (.own (.ml (l ++ [y]))), muz⟩ := by
  unfold kApp1 ml?; simp only [h, hy, Bool.true_and, decide_eq_true hl, if_true]
def kPopAt1 (x : D) : D → S → O D := fun y s2 => match y with
  | .int i => (match ml? s2 x with
    | some (l, put) => if 0 ≤ i ∧ i < 2 ^ 63 then (match l[i.toNat]? with
      | some z => .ok z (put (l.eraseIdx i.toNat))
      | none => .st) else .st
    | none => .st)
  | _ => .st
def kPopAt (g : M D) : D → S → O D := fun x s1 => match ml? s1 x with
  | none => .st
  | some _ => (g s1).bind (kPopAt1 x)
@[simp] theorem popAtS_ap : popAtS f g s = (f s).bind (kPopAt g) := Eq.trans rfl rfl
theorem kPopAt_own {i : Nat} {rhz : List SV} {muz : List MO} {l : List D} (h : rhz[i]? = some (.own (.ml l))) : kPopAt g (.loc i) ⟨rhz, muz⟩ = (g ⟨rhz, muz⟩).bind (kPopAt1 (.loc i)) := by unfold kPopAt ml?; simp only [h]
theorem kPopAt_hnd {i : Nat} {rhz : List SV} {muz : List MO} {l : List D} (h : muz[i]? = some (.ml l)) : kPopAt g (.hnd i) ⟨rhz, muz⟩ = (g ⟨rhz, muz⟩).bind (kPopAt1 (.hnd i)) := by unfold kPopAt ml?; simp only [h]
theorem kPopAt1_own {i : Nat} {rhz : List SV} {muz : List MO} {l : List D} {k : Nat} {z : D} (h : rhz[i]? = some (.own (.ml l))) (hk : l[k]? = some z) (h63 : k < 2 ^ 63) : kPopAt1 (.loc i) (.int k) ⟨rhz, muz⟩ = .ok z ⟨rhz.set i (.own (.ml (l.eraseIdx k))), muz⟩ := by
  unfold kPopAt1 ml?
  simp only [h, Int.toNat_natCast, hk]
  rw [if_pos]
  omega
theorem kPopAt1_hnd {i : Nat} {rhz : List SV} {muz : List MO} {l : List D} {k : Nat} {z : D} (h : muz[i]? = some (.ml l)) (hk : l[k]? = some z) (h63 : k < 2 ^ 63) : kPopAt1 (.hnd i) (.int k) ⟨rhz, muz⟩ = .ok z ⟨rhz, muz.set i (.ml (l.eraseIdx k))⟩ := by
  unfold kPopAt1 ml?
  simp only [h, Int.toNat_natCast, hk]
  rw [if_pos]
  omega
def kDput2 (z x : D) : D → S → O Fl := fun y s3 => match md? s3 x with
  | some (t, l, put) => if sto z && isKey t y && decide (l.length < LIM) then .ok .nx (put (putD t l y z)) else .st
  | none => .st
def kDput1 (z : D) (fk : M D) : D → S → O Fl := fun x s => (fk s).bind (kDput2 z x)
def kDput (fd fk : M D) : D → S → O Fl := fun z s => (fd s).bind (kDput1 z fk)
@[simp] theorem dputS_ap (fd fk : M D) : dputS f fd fk s = (f s).bind (kDput fd fk) := Eq.trans rfl rfl
@[simp] theorem kDput_ap (fd fk : M D) (z : D) (s : S) : kDput fd fk z s = (fd s).bind (kDput1 z fk) := Eq.trans rfl rfl
@[simp] theorem kDput1_ap (fk : M D) (z x : D) (s : S) : kDput1 z fk x s = (fk s).bind (kDput2 z x) := Eq.trans rfl rfl
theorem kDput2_hnd {n : Nat} {rhz : List SV} {muz : List MO} {t : Bool} {l : List (D × D)} {z y : D} (h : muz[n]? = some (.md t l)) (hz : sto z = true) (hk : isKey t y = true) (hl : l.length < LIM) : kDput2 z (.hnd n) y ⟨rhz, muz⟩ = .ok .nx ⟨rhz, muz.set n (.md t (putD t l y z))⟩ := by
  unfold kDput2 md?; simp only [h, hz, hk, Bool.true_and, decide_eq_true hl, if_true]
def kSl2 (x : D) (a : Option Int) : Option Int → S → O D := fun b s3 => ofO (slD s3 x a b) s3
def kSl1 (x : D) (hi : M (Option Int)) : Option Int → S → O D := fun a s => (hi s).bind (kSl2 x a)
def kSl (lo hi : M (Option Int)) : D → S → O D := fun x s => (lo s).bind (kSl1 x hi)
@[simp] theorem slS_ap (lo hi : M (Option Int)) : slS f lo hi s = (f s).bind (kSl lo hi) := by
  unfold slS kSl kSl1 kSl2 ofO
  congr 1; funext x s1; congr 1; funext a s2; congr 1; funext b s3; cases slD s3 x a b <;> rfl
@[simp] theorem kSl_ap (lo hi : M (Option Int)) (x : D) (s : S) : kSl lo hi x s = (lo s).bind (kSl1 x hi) := Eq.trans rfl rfl
@[simp] theorem kSl1_ap (hi : M (Option Int)) (x : D) (a : Option Int) (s : S) : kSl1 x hi a s = (hi s).bind (kSl2 x a) := Eq.trans rfl rfl
@[simp] theorem kSl2_ap (x : D) (a b : Option Int) (s : S) : kSl2 x a b s = ofO (slD s x a b) s := Eq.trans rfl rfl
@[simp] theorem noPartS_ap : noPartS s = .ok none s := Eq.trans rfl rfl
def kPart : D → S → O (Option Int)
  | .int i, s => .ok (some i) s
  | _, _ => .st
@[simp] theorem partS_ap : partS f s = (f s).bind kPart := by unfold partS; congr 1; funext d s1; cases d <;> rfl
@[simp] theorem kPart_ap (i : Int) (s : S) : kPart (.int i) s = .ok (some i) s := Eq.trans rfl rfl
def kM1b (op : S → Str → D → Option D) (a : Str) : D → S → O D := fun y s => ofO (op s a y) s
def kM1 (op : S → Str → D → Option D) (g : M D) : D → S → O D
  | .str a, s => (g s).bind (kM1b op a)
  | _, _ => .st
@[simp] theorem m1S_ap (op : S → Str → D → Option D) : m1S op f g s = (f s).bind (kM1 op g) := by
  unfold m1S; congr 1; funext x s1
  cases x with
  | str a => show O.bind _ _ = O.bind _ _; congr 1; funext y s2; unfold kM1b ofO; cases op s2 a y <;> rfl
  | _ => rfl
@[simp] theorem kM1_ap (op : S → Str → D → Option D) (a : Str) (s : S) : kM1 op g (.str a) s = (g s).bind (kM1b op a) := Eq.trans rfl rfl
@[simp] theorem kM1b_ap (op : S → Str → D → Option D) (a : Str) (y : D) (s : S) : kM1b op a y s = ofO (op s a y) s := Eq.trans rfl rfl
@[simp] theorem isiS_ap (T : String) : isiS T f s = (f s).bind (kU (isiD T)) := unS_ap _
def kOrT1 (g : M D) (x : D) : Option Bool → S → O D
  | some true, s => .ok x s
  | some false, s => g s
  | none, _ => .st
def kOrT (g : M D) : D → S → O D := fun x s => kOrT1 g x (truD (vw s x)) s
@[simp] theorem orT_ap : orT f g s = (f s).bind (kOrT g) := by
  unfold orT; congr 1; funext x s1; unfold kOrT kOrT1
  rcases truD (vw s1 x) with _ | _ | _ <;> rfl
@[simp] theorem kOrT_ap (x : D) (s : S) : kOrT g x s = kOrT1 g x (truD (vw s x)) s := Eq.trans rfl rfl
@[simp] theorem kOrT1_t (x : D) (s : S) : kOrT1 g x (some true) s = .ok x s := Eq.trans rfl rfl
@[simp] theorem kOrT1_f (x : D) (s : S) : kOrT1 g x (some false) s = g s := Eq.trans rfl rfl
def kLput2 (z x : D) : D → S → O Fl := fun y s3 => match ml? s3 x, y with
  | some (l, put), .int i => (match ixN l.length i with
    | some j => if sto z then .ok .nx (put (l.set j z)) else .st
    | none => .st)
  | _, _ => .st
def kLput1 (z : D) (fi : M D) : D → S → O Fl := fun x s => (fi s).bind (kLput2 z x)
def kLput (fo fi : M D) : D → S → O Fl := fun z s => (fo s).bind (kLput1 z fi)
@[simp] theorem lputS_ap (fo fi : M D) : lputS f fo fi s = (f s).bind (kLput fo fi) := Eq.trans rfl rfl
@[simp] theorem kLput_ap (fo fi : M D) (z : D) (s : S) : kLput fo fi z s = (fo s).bind (kLput1 z fi) := Eq.trans rfl rfl
@[simp] theorem kLput1_ap (fi : M D) (z x : D) (s : S) : kLput1 z fi x s = (fi s).bind (kLput2 z x) := Eq.trans rfl rfl
theorem kLput2_own {n j : Nat} {i : Int} {rhz : List SV} {muz : List MO} {l : List D} {z : D} (h : rhz[n]? = some (.own (.ml l))) (hz : sto z = true) (hj : ixN l.length i = some j) : kLput2 z (.loc n) (.int i) ⟨rhz, muz⟩ = .ok .nx ⟨rhz.set n (.own (.ml (l.set j z))), muz⟩ := by
  unfold kLput2 ml?; simp only [h, hj, hz, if_true]
def kPc (x : PV) : List PV → S → O (List PV) := fun xs s => .ok (x :: xs) s
def kPd (r : List (M D ⊕ M MO)) : D → S → O (List PV) := fun x s => if sto x then (parS r s).bind (kPc (.inl x)) else .st
def kPm (r : List (M D ⊕ M MO)) : MO → S → O (List PV) := fun x s => (parS r s).bind (kPc (.inr x))
@[simp] theorem parS_nil : parS [] s = .ok [] s := Eq.trans rfl rfl
@[simp] theorem parS_inl (r : List (M D ⊕ M MO)) : parS (.inl f :: r) s = (f s).bind (kPd r) := Eq.trans rfl rfl
@[simp] theorem parS_inr (r : List (M D ⊕ M MO)) : parS (.inr fm :: r) s = (fm s).bind (kPm r) := Eq.trans rfl rfl
def kPdB (r : List (M D ⊕ M MO)) (x : D) (s : S) : Bool → O (List PV)
  | true => (parS r s).bind (kPc (.inl x))
  | false => .st
@[simp] theorem kPd_ap (r : List (M D ⊕ M MO)) (x : D) (s : S) : kPd r x s = kPdB r x s (sto x) := by unfold kPd kPdB; cases sto x <;> rfl
@[simp] theorem kPdB_t (r : List (M D ⊕ M MO)) (x : D) (s : S) : kPdB r x s true = (parS r s).bind (kPc (.inl x)) := Eq.trans rfl rfl
@[simp] theorem kPm_ap (r : List (M D ⊕ M MO)) (x : MO) (s : S) : kPm r x s = (parS r s).bind (kPc (.inr x)) := Eq.trans rfl rfl
@[simp] theorem kPc_ap (x : PV) (xs : List PV) (s : S) : kPc x xs s = .ok (x :: xs) s := Eq.trans rfl rfl
def kPar (is : List Nat) : List PV → S → O Fl := fun xs s1 => .ok .nx { s1 with rhz := putP is xs s1.rhz }
@[simp] theorem parA_ap (is : List Nat) (ms : List (M D ⊕ M MO)) : parA is ms s = (parS ms s).bind (kPar is) := Eq.trans rfl rfl
@[simp] theorem kPar_ap (is : List Nat) (xs : List PV) (s : S) : kPar is xs s = .ok .nx ⟨putP is xs s.rhz, s.muz⟩ := Eq.trans rfl rfl
@[simp] theorem putP_d (i : Nat) (is : List Nat) (d : D) (xs : List PV) (rhz : List SV) : putP (i :: is) (.inl d :: xs) rhz = putP is xs (rhz.set i (.d d)) := Eq.trans rfl rfl
@[simp] theorem putP_m (i : Nat) (is : List Nat) (d : MO) (xs : List PV) (rhz : List SV) : putP (i :: is) (.inr d :: xs) rhz = putP is xs (rhz.set i (.own d)) := Eq.trans rfl rfl
@[simp] theorem putP_0 (xs : List PV) (rhz : List SV) : putP [] xs rhz = rhz := by cases xs <;> rfl
end
def txs (l : List Str) : List D := l.map .str
@[simp] theorem txs_length (l : List Str) : (txs l).length = l.length := List.length_map ..
theorem txs_sto (l : List Str) : (txs l).all sto = true := by unfold txs; simp
theorem pyL_txs : ∀ l : List Str, pyL (txs l) = some (l.map .str)
  | [] => by simp [txs, pyL]
  | x :: l => by
    have := pyL_txs l
    unfold txs at this ⊢
    simp only [List.map_cons, pyL, pyOf, this]
theorem eqvAll_txs : ∀ a b : List Str, PyData.eqvAll (a.map .str) (b.map .str) = decide (a = b)
  | [], [] => by simp [PyData.eqvAll]
  | [], y :: b => by simp [PyData.eqvAll]
  | x :: a, [] => by simp [PyData.eqvAll]
  | x :: a, y :: b => by
    simp only [List.map_cons, PyData.eqvAll, PyData.eqv, eqvAll_txs a b]
    by_cases h1 : x = y <;> by_cases h2 : a = b <;> simp [h1, h2]
def Lay (l : List Str) : Prop := ∀ x ∈ l, PyData.canLay0 (.str x) = true
theorem lay_all {l : List Str} (h : Lay l) : PyData.canLayAll0 (l.map .str) = true := by
  induction l with
  | nil => simp [PyData.canLayAll0]
  | cons x l ih =>
    simp only [List.map_cons, PyData.canLayAll0, Bool.and_eq_true]
    exact ⟨h x List.mem_cons_self, ih fun y hy => h y (List.mem_cons_of_mem _ hy)⟩
theorem depth_txs (l : List Str) : PyData.depthAll (l.map .str) = 0 := by
  induction l with
  | nil => simp [PyData.depthAll]
  | cons x l ih => simp [PyData.depthAll, PyData.depth, ih]
theorem shaped_tup {l : List Str} (h : Lay l) : SeqAt.shaped (.tuple (l.map .str)) = true := by
  unfold SeqAt.shaped
  simp [PyData.canLay0, lay_all h, PyData.depth, depth_txs]
theorem shaped_lst {l : List Str} (h : Lay l) : SeqAt.shaped (.list (l.map .str)) = true := by
  unfold SeqAt.shaped
  simp [PyData.canLay0, lay_all h, PyData.depth, depth_txs]
theorem eqB_txs {s : S} {a b : List Str} (ha : Lay a) (hb : Lay b) : eqB s (.tup (txs a)) (.tup (txs b)) = some (decide (a = b)) := by
  unfold eqB
  simp only [vw, pyOf_tup (pyL_txs a), pyOf_tup (pyL_txs b), shaped_tup ha, shaped_tup hb, Bool.and_self, if_true, PyData.eqv, eqvAll_txs]
end AG

set_option Elab.async false
set_option linter.all false
set_option maxRecDepth 100000
namespace AG
open PySem L2
structure DS where
  L : List Int
  c : List Int
  r : Int
  t : Int
def isl (l : List Int) : List D := l.map .int
def DS.tb (z : DS) : List (D × D) := [(.str "large", .hnd 0), (.str "cells", .lst (isl z.c)), (.str "rest", .int z.r), (.str "turn", .int z.t)]
def DS.muz (z : DS) : List MO := [.ml (isl z.L), .md false z.tb]
structure DS.Good (z : DS) : Prop where
  L : ∀ x ∈ z.L, 0 ≤ x
  r : 0 ≤ z.r
  t : 0 ≤ z.t
  c : z.c.length ≤ 63
  LL : z.L.length ≤ 63
def skp : List Int → Int → List Int × Int
  | [], r => ([], r)
  | x :: L, r => if r = 0 then skp L x else (x :: L, r)
def cellAt (c : List Int) (t : Int) : Int := if c = [] then 0 else (c[(t % c.length).toNat]?).getD 0
def mixd (c : List Int) (t : Int) : Int := (cellAt c t % 2147483563 + 48271 * t + 54321) ^ 3 % 2147483647
def signAt (c : List Int) (t : Int) : Int := (mixd c t + 130363 * t) ^ 5 % 2147483549 / 17
def drw (n : Int) (z : DS) : Int × DS :=
  if 0 < (skp z.L z.r).2 then ((skp z.L z.r).2 % n, ⟨(skp z.L z.r).1, z.c, (skp z.L z.r).2 / n, z.t⟩)
  else (signAt z.c (z.t + 1) % n, ⟨(skp z.L z.r).1, z.c, (skp z.L z.r).2, z.t + 1⟩)
theorem skp_good : ∀ (L : List Int) (r : Int), (∀ x ∈ L, 0 ≤ x) → 0 ≤ r → (∀ x ∈ (skp L r).1, 0 ≤ x) ∧ 0 ≤ (skp L r).2 ∧ (skp L r).1.length ≤ L.length
  | [], r, h, hr => ⟨h, hr, Nat.le_refl _⟩
  | x :: L, r, h, hr => by
    unfold skp
    split
    · obtain ⟨a, b, c⟩ := skp_good L x (fun y hy => h y (List.mem_cons_of_mem _ hy)) (h x List.mem_cons_self)
      exact ⟨a, b, Nat.le_succ_of_le c⟩
    · exact ⟨h, hr, Nat.le_refl _⟩
theorem drw_good {n : Int} {z : DS} (hn : 0 < n) (h : z.Good) : (drw n z).2.Good ∧ 0 ≤ (drw n z).1 ∧ (drw n z).1 < n ∧ (drw n z).2.c = z.c ∧ (drw n z).2.t ≤ z.t + 1 ∧ z.t ≤ (drw n z).2.t := by
  obtain ⟨a, b, c⟩ := skp_good z.L z.r h.L h.r
  unfold drw
  split
  · refine ⟨⟨a, Int.ediv_nonneg b (by omega), h.t, h.c, Nat.le_trans c h.LL⟩, Int.emod_nonneg _ (by omega), Int.emod_lt_of_pos _ hn, rfl, ?_, ?_⟩ <;> (simp <;> omega)
  · refine ⟨⟨a, b, by have := h.t; simp; omega, h.c, Nat.le_trans c h.LL⟩, Int.emod_nonneg _ (by omega), Int.emod_lt_of_pos _ hn, rfl, ?_, ?_⟩ <;> (simp <;> omega)
noncomputable def drawS : M Fl := (seqS (whS (tAndS (tstS (binS eqD (binS ixA (varS 0) (cS (.str "rest"))) (cS (.int 0)))) (tstS (binS neD (binS ixA (varS 0) (cS (.str "large"))) (frzS (lstF nilS))))) (dputS (popAtS (binS ixA (varS 0) (cS (.str "large"))) (cS (.int 0))) (varS 0) (cS (.str "rest"))))
    (seqS (ifS (tstS (binS gtD (binS ixA (varS 0) (cS (.str "rest"))) (cS (.int 0)))) (seqS (setS 5 (binS modD (callV intD (consS (binS ixA (varS 0) (cS (.str "rest"))) nilS)) (varS 1)))
    (seqS (dputS (binS fdivD (binS ixA (varS 0) (cS (.str "rest"))) (varS 1)) (varS 0) (cS (.str "rest")))
    (retS (varS 5)))) nxS)
    (seqS (setS 2 (binS addD (binS ixA (varS 0) (cS (.str "turn"))) (cS (.int 1))))
    (seqS (dputS (varS 2) (varS 0) (cS (.str "turn")))
    (seqS (setS 3 (iteS (tstS (binS neD (binS ixA (varS 0) (cS (.str "cells"))) (frzS (lstF nilS)))) (binS ixA (binS ixA (varS 0) (cS (.str "cells"))) (binS modD (callV intD (consS (varS 2) nilS)) (callV lenD (consS (binS ixA (varS 0) (cS (.str "cells"))) nilS)))) (cS (.int 0))))
    (seqS (setS 4 (binS modD (callV intD (consS (binS powD (binS addD (binS addD (binS modD (callV intD (consS (varS 3) nilS)) (cS (.int 2147483563))) (binS mulE (cS (.int 48271)) (varS 2))) (cS (.int 54321))) (cS (.int 3))) nilS)) (cS (.int 2147483647))))
    (retS (binS modD (callV intD (consS (binS fdivD (binS modD (callV intD (consS (binS powD (binS addD (varS 4) (binS mulE (cS (.int 130363)) (varS 2))) (cS (.int 5))) nilS)) (cS (.int 2147483549))) (cS (.int 17))) nilS)) (varS 1)))))))))
theorem n1 : ¬ Str.ofString "large" = Str.ofString "rest" := by decide
theorem n2 : ¬ Str.ofString "cells" = Str.ofString "rest" := by decide
theorem n3 : ¬ Str.ofString "large" = Str.ofString "turn" := by decide
theorem n4 : ¬ Str.ofString "cells" = Str.ofString "turn" := by decide
theorem n5 : ¬ Str.ofString "rest" = Str.ofString "turn" := by decide
theorem n6 : ¬ Str.ofString "large" = Str.ofString "cells" := by decide
theorem n7 : ¬ Str.ofString "turn" = Str.ofString "rest" := by decide
theorem ix_rest (z : DS) (rhz : List SV) : ixA ⟨rhz, z.muz⟩ (.hnd 1) (.str "rest") = some (.int z.r) := by
  unfold ixA
  simp [vw, DS.muz, DS.tb, isKey, keyD, lookD, keyQ, frzD, n1, n2, n3, n4, n5, n6, n7]
theorem ix_turn (z : DS) (rhz : List SV) : ixA ⟨rhz, z.muz⟩ (.hnd 1) (.str "turn") = some (.int z.t) := by
  unfold ixA
  simp [vw, DS.muz, DS.tb, isKey, keyD, lookD, keyQ, frzD, n1, n2, n3, n4, n5, n6, n7]
theorem ix_large (z : DS) (rhz : List SV) : ixA ⟨rhz, z.muz⟩ (.hnd 1) (.str "large") = some (.hnd 0) := by
  unfold ixA
  simp [vw, DS.muz, DS.tb, isKey, keyD, lookD, keyQ, frzD, n1, n2, n3, n4, n5, n6, n7]
theorem ix_cells (z : DS) (rhz : List SV) : ixA ⟨rhz, z.muz⟩ (.hnd 1) (.str "cells") = some (.lst (isl z.c)) := by
  unfold ixA
  simp [vw, DS.muz, DS.tb, isKey, keyD, lookD, keyQ, frzD, n1, n2, n3, n4, n5, n6, n7]
theorem put_rest (z : DS) (rhz : List SV) (v : Int) : kDput2 (.int v) (.hnd 1) (.str "rest") ⟨rhz, z.muz⟩ = .ok .nx ⟨rhz, ({ z with r := v } : DS).muz⟩ := by
  rw [kDput2_hnd (t := false) (l := z.tb) rfl rfl rfl (by show 4 < LIM; decide)]
  have : putD false z.tb (.str "rest") (.int v) = ({ z with r := v } : DS).tb := by simp [putD, DS.tb, keyQ, keyD, n1, n2, n3, n4, n5, n6, n7]
  rw [this]
  rfl
theorem put_turn (z : DS) (rhz : List SV) (v : Int) : kDput2 (.int v) (.hnd 1) (.str "turn") ⟨rhz, z.muz⟩ = .ok .nx ⟨rhz, ({ z with t := v } : DS).muz⟩ := by
  rw [kDput2_hnd (t := false) (l := z.tb) rfl rfl rfl (by show 4 < LIM; decide)]
  have : putD false z.tb (.str "turn") (.int v) = ({ z with t := v } : DS).tb := by simp [putD, DS.tb, keyQ, keyD, n1, n2, n3, n4, n5, n6, n7]
  rw [this]
  rfl
theorem pyL_isl : ∀ l : List Int, pyL (isl l) = some (l.map .int)
  | [] => by simp [isl, pyL]
  | x :: l => by
    have := pyL_isl l
    unfold isl at this ⊢
    simp only [List.map_cons, pyL, pyOf, this]
theorem lay_isl (l : List Int) : PyData.canLayAll0 (l.map .int) = true := by
  induction l with
  | nil => simp [PyData.canLayAll0]
  | cons x l ih => simp [PyData.canLayAll0, PyData.canLay0, ih]
theorem depth_isl (l : List Int) : PyData.depthAll (l.map .int) = 0 := by
  induction l with
  | nil => simp [PyData.depthAll]
  | cons x l ih => simp [PyData.depthAll, PyData.depth, ih]
theorem eqB_isl {s : S} {d : D} {l : List Int} (h : vw s d = .lst (isl l)) : eqB s d (.lst []) = some (decide (l = [])) := by
  unfold eqB
  rw [h]
  have e0 : pyL [] = some ([] : List PyData) := by simp [pyL]
  simp only [vw, pyOf_lst (pyL_isl l), pyOf_lst e0]
  have s1 : SeqAt.shaped (.list (l.map .int)) = true := by unfold SeqAt.shaped; simp [PyData.canLay0, lay_isl, PyData.depth, depth_isl]
  have s2 : SeqAt.shaped (.list []) = true := by unfold SeqAt.shaped; simp [PyData.canLay0, PyData.canLayAll0, PyData.depth, PyData.depthAll]
  simp only [s1, s2, Bool.and_self, if_true]
  cases l <;> simp [PyData.eqv, PyData.eqvAll]
end AG
namespace AG
open PySem L2
@[simp] theorem eqD_ap (s : S) (x y : D) : eqD s x y = (eqB s x y).map .bl := Eq.trans rfl rfl
@[simp] theorem neD_ap (s : S) (x y : D) : neD s x y = (eqB s x y).map fun b => .bl (!b) := Eq.trans rfl rfl
@[simp] theorem eqB_int (s : S) (a b : Int) : eqB s (.int a) (.int b) = some (decide (a = b)) := Eq.trans rfl rfl
@[simp] theorem eqB_str (s : S) (a b : Str) : eqB s (.str a) (.str b) = some (decide (a = b)) := Eq.trans rfl rfl
@[simp] theorem addD_int (s : S) (a b : Int) : addD s (.int a) (.int b) = some (.int (a + b)) := Eq.trans rfl rfl
@[simp] theorem subD_int (s : S) (a b : Int) : subD s (.int a) (.int b) = some (.int (a - b)) := Eq.trans rfl rfl
@[simp] theorem gtD_int (s : S) (a b : Int) : gtD s (.int a) (.int b) = some (.bl (decide (b < a))) := Eq.trans rfl rfl
@[simp] theorem ltD_int (s : S) (a b : Int) : ltD s (.int a) (.int b) = some (.bl (decide (a < b))) := Eq.trans rfl rfl
@[simp] theorem cmpI_int (p : Int → Int → Bool) (s : S) (a b : Int) : cmpI p s (.int a) (.int b) = some (.bl (p a b)) := Eq.trans rfl rfl
@[simp] theorem intD_int (s : S) (a : Int) : intD s [.int a] = some (.int a) := Eq.trans rfl rfl
@[simp] theorem intD_bl (s : S) (a : Bool) : intD s [.bl a] = some (.int (if a then 1 else 0)) := Eq.trans rfl rfl
@[simp] theorem maxD_int (s : S) (a b : Int) : maxD s [.int a, .int b] = some (.int (if b > a then b else a)) := Eq.trans rfl rfl
theorem modD_int (s : S) (a : Int) {b : Int} (h : 0 < b) : modD s (.int a) (.int b) = some (.int (a % b)) := by
  show (if _ then _ else _) = _
  rw [if_pos h]
theorem fdivD_int (s : S) (a : Int) {b : Int} (h : 0 < b) (h2 : b < 2 ^ 62) : fdivD s (.int a) (.int b) = some (.int (a / b)) := by
  show (if _ then _ else _) = _
  rw [if_pos]
  refine ⟨h, ?_⟩
  have : b.natAbs < 2 ^ 62 := by omega
  have := (Nat.log2_lt (by omega)).mpr this
  omega
theorem log_lt {a : Int} {k : Nat} (h : a.natAbs < 2 ^ k) (k0 : 0 < k) : a.natAbs.log2 < k := by
  by_cases h0 : a.natAbs = 0
  · rw [h0]; simpa using k0
  · exact (Nat.log2_lt h0).mpr h
theorem mulE_int (s : S) {a b : Int} (h : a.natAbs < 2 ^ 2000) (h2 : b.natAbs < 2 ^ 2000) : mulE s (.int a) (.int b) = some (.int (a * b)) := by
  show mulD s (.int a) (.int b) = _
  show (if _ then _ else _) = _
  rw [if_pos]
  have := log_lt h (by omega)
  have := log_lt h2 (by omega)
  omega
theorem powD_int (s : S) {a : Int} {b : Nat} (h : a.natAbs < 2 ^ 2000) (hb : b ≤ 1000) : powD s (.int a) (.int b) = some (.int (a ^ b)) := by
  unfold powD
  have hi : Builtin.Int.intBits a ≤ 2000 := by
    unfold Builtin.Int.intBits
    have := log_lt h (by omega)
    split <;> omega
  simp only [Int.toNat_natCast]
  rw [if_pos]
  refine ⟨by omega, ?_⟩
  have h1 : (Builtin.Int.intBits a : Int) * b ≤ 2000 * 1000 := Int.mul_le_mul (by omega) (by omega) (by omega) (by omega)
  omega
end AG

set_option Elab.async false
set_option linter.all false
set_option maxRecDepth 100000
namespace AG
open PySem L2
theorem mu0 (z : DS) : z.muz[0]? = some (.ml (isl z.L)) := rfl
theorem pop0 (z : DS) (rhz : List SV) (x : Int) (L : List Int) (h : z.L = x :: L) : kPopAt1 (.hnd 0) (.int 0) ⟨rhz, z.muz⟩ = .ok (.int x) ⟨rhz, ({ z with L := L } : DS).muz⟩ := by
  have e : isl z.L = .int x :: isl L := by rw [h]; rfl
  have := kPopAt1_hnd (i := 0) (rhz := rhz) (muz := z.muz) (l := isl z.L) (k := 0) (z := .int x) (mu0 z) (by rw [e]; rfl) (by omega)
  rw [show ((0 : Nat) : Int) = 0 from rfl] at this
  rw [this, e]
  rfl
theorem vw_large (z : DS) (rhz : List SV) : vw ⟨rhz, z.muz⟩ (.hnd 0) = .lst (isl z.L) := rfl
abbrev skC : M Bool := tAndS (tstS (binS eqD (binS ixA (varS 0) (cS (.str "rest"))) (cS (.int 0)))) (tstS (binS neD (binS ixA (varS 0) (cS (.str "large"))) (frzS (lstF nilS))))
abbrev skB : M Fl := dputS (popAtS (binS ixA (varS 0) (cS (.str "large"))) (cS (.int 0))) (varS 0) (cS (.str "rest"))
theorem skC_eq (z : DS) (rhz : List SV) (h : rhz[0]? = some (.d (.hnd 1))) : skC ⟨rhz, z.muz⟩ = .ok (decide (z.r = 0) && !decide (z.L = [])) ⟨rhz, z.muz⟩ := by
  by_cases hr : z.r = 0
  · simp [skC, h, ix_rest, ix_large, hr, kLst_0, eqB_isl (vw_large z rhz)]
  · simp [skC, h, ix_rest, hr]
theorem skB_eq (z : DS) (rhz : List SV) (h : rhz[0]? = some (.d (.hnd 1))) (x : Int) (L : List Int) (hL : z.L = x :: L) : skB ⟨rhz, z.muz⟩ = .ok .nx ⟨rhz, ({ z with L := L, r := x } : DS).muz⟩ := by
  have e1 := pop0 z rhz x L hL
  have e2 := put_rest ({ z with L := L } : DS) rhz x
  simp [skB, h, ix_large, kPopAt_hnd (i := 0) (l := isl z.L) (mu0 z), e1, e2]
theorem sk_eq (rhz : List SV) (h : rhz[0]? = some (.d (.hnd 1))) : ∀ (L : List Int) (z : DS), z.L = L → whS skC skB ⟨rhz, z.muz⟩ = .ok .nx ⟨rhz, ({ z with L := (skp z.L z.r).1, r := (skp z.L z.r).2 } : DS).muz⟩
  | [], z, hz => by
    rw [whS_unf, skC_eq z rhz h]
    simp [hz, skp]
    rw [← hz]
  | x :: L, z, hz => by
    rw [whS_unf, skC_eq z rhz h]
    by_cases hr : z.r = 0
    · simp only [hr, hz, decide_true, Bool.true_and, O.bind_ok]
      rw [if_pos (by simp)]
      rw [skB_eq z rhz h x L hz]
      simp only [O.bind_ok]
      rw [sk_eq rhz h L _ rfl]
      simp [skp]
    · simp only [hr, decide_false, Bool.false_and, O.bind_ok, Bool.false_eq_true, if_false]
      have : skp z.L z.r = (z.L, z.r) := by rw [hz]; simp [skp, hr]
      rw [this]
end AG

set_option Elab.async false
set_option linter.all false
set_option maxRecDepth 100000
set_option exponentiation.threshold 4000
namespace AG
open PySem L2
abbrev drR : M Fl := (seqS (ifS (tstS (binS gtD (binS ixA (varS 0) (cS (.str "rest"))) (cS (.int 0)))) (seqS (setS 5 (binS modD (callV intD (consS (binS ixA (varS 0) (cS (.str "rest"))) nilS)) (varS 1)))
    (seqS (dputS (binS fdivD (binS ixA (varS 0) (cS (.str "rest"))) (varS 1)) (varS 0) (cS (.str "rest")))
    (retS (varS 5)))) nxS)
    (seqS (setS 2 (binS addD (binS ixA (varS 0) (cS (.str "turn"))) (cS (.int 1))))
    (seqS (dputS (varS 2) (varS 0) (cS (.str "turn")))
    (seqS (setS 3 (iteS (tstS (binS neD (binS ixA (varS 0) (cS (.str "cells"))) (frzS (lstF nilS)))) (binS ixA (binS ixA (varS 0) (cS (.str "cells"))) (binS modD (callV intD (consS (varS 2) nilS)) (callV lenD (consS (binS ixA (varS 0) (cS (.str "cells"))) nilS)))) (cS (.int 0))))
    (seqS (setS 4 (binS modD (callV intD (consS (binS powD (binS addD (binS addD (binS modD (callV intD (consS (varS 3) nilS)) (cS (.int 2147483563))) (binS mulE (cS (.int 48271)) (varS 2))) (cS (.int 54321))) (cS (.int 3))) nilS)) (cS (.int 2147483647))))
    (retS (binS modD (callV intD (consS (binS fdivD (binS modD (callV intD (consS (binS powD (binS addD (varS 4) (binS mulE (cS (.int 130363)) (varS 2))) (cS (.int 5))) nilS)) (cS (.int 2147483549))) (cS (.int 17))) nilS)) (varS 1))))))))
theorem vw_lst (s : S) (l : List D) : vw s (.lst l) = .lst l := rfl
theorem lenD_lst (s : S) (l : List D) : lenD s [.lst l] = some (.int l.length) := rfl
theorem isl_len (l : List Int) : (isl l).length = l.length := List.length_map ..
theorem ixA_isl (s : S) (l : List Int) (i : Int) (h0 : 0 ≤ i) (h1 : i < l.length) : ixA s (.lst (isl l)) (.int i) = some (.int ((l[i.toNat]?).getD 0)) := by
  show atI (isl l) i = _
  unfold atI ixN
  rw [if_pos h0, isl_len, if_pos h1]
  show (isl l)[i.toNat]? = _
  unfold isl
  have hl : i.toNat < l.length := by omega
  rw [List.getElem?_map, List.getElem?_eq_getElem hl]
  rfl
theorem dr_wet (z : DS) (n : Int) (n0 : 0 < n) (n1 : n < 2 ^ 62) (hr : 0 < z.r) : drR ⟨[.d (.hnd 1), .d (.int n), .un, .un, .un, .un], z.muz⟩ = .ok (.rt (.int (z.r % n))) ⟨[.d (.hnd 1), .d (.int n), .un, .un, .un, .d (.int (z.r % n))], ({ z with r := z.r / n } : DS).muz⟩ := by
  simp [drR, ix_rest, hr, modD_int _ _ n0, fdivD_int _ _ n0 n1, put_rest]
theorem big_mod (a b : Int) (b0 : 0 < b) (b1 : b < 2 ^ 62) : (a % b).natAbs < 2 ^ 62 := by
  have h1 := Int.emod_nonneg a (show b ≠ 0 by omega)
  have h2 := Int.emod_lt_of_pos a b0
  omega
theorem p2000 : (2 : Nat) ^ 1000 * 2 ^ 62 * 8 ≤ 2 ^ 2000 := by
  have e : (2 : Nat) ^ 1000 * 2 ^ 62 * 8 = 2 ^ 1065 := by
    rw [show (8 : Nat) = 2 ^ 3 from rfl, ← Nat.pow_add, ← Nat.pow_add]
  rw [e]
  exact Nat.pow_le_pow_right (by omega) (by omega)
theorem small_sum {t m : Int} {k : Nat} (t0 : 0 ≤ t) (t1 : t < 2 ^ 1000) (m0 : 0 ≤ m) (m1 : m < 2 ^ 62) (hk : k < 2 ^ 20) : (m + (k : Int) * t + 54321).natAbs < 2 ^ 2000 ∧ (m + (k : Int) * t).natAbs < 2 ^ 2000 ∧ t.natAbs < 2 ^ 2000 := by
  have hp := p2000
  have e1 : (1 : Nat) ≤ 2 ^ 1000 := Nat.one_le_two_pow
  obtain ⟨t, rfl⟩ := Int.eq_ofNat_of_zero_le t0
  obtain ⟨m, rfl⟩ := Int.eq_ofNat_of_zero_le m0
  have t1' : t < 2 ^ 1000 := by
    have : ((2 : Int) ^ 1000) = (((2 : Nat) ^ 1000 : Nat) : Int) := by simp
    rw [this] at t1
    exact Int.ofNat_lt.mp t1
  have kt : k * t ≤ 2 ^ 20 * 2 ^ 1000 := Nat.mul_le_mul (by omega) (by omega)
  have c1 : ((m : Int) + (k : Int) * (t : Int) + 54321).natAbs = m + k * t + 54321 := by omega
  have c2 : ((m : Int) + (k : Int) * (t : Int)).natAbs = m + k * t := by omega
  have c3 : ((t : Int)).natAbs = t := rfl
  rw [c1, c2, c3]
  generalize (2 : Nat) ^ 2000 = P at *
  generalize (2 : Nat) ^ 1000 = Q at *
  generalize k * t = kt' at *
  refine ⟨?_, ?_, ?_⟩ <;> omega
end AG

set_option Elab.async false
set_option linter.all false
set_option maxRecDepth 100000
set_option exponentiation.threshold 4000
namespace AG
open PySem L2
theorem cell_val (c : List Int) (t : Int) (hc : c ≠ []) (t0 : 0 ≤ t) : cellAt c t = (c[(t % c.length).toNat]?).getD 0 := if_neg hc
theorem dr_cell (z : DS) (rhz : List SV) (t : Int) (t0 : 0 ≤ t) (h0 : rhz[0]? = some (.d (.hnd 1))) (h2 : rhz[2]? = some (.d (.int t))) :
    iteS (tstS (binS neD (binS ixA (varS 0) (cS (.str "cells"))) (frzS (lstF nilS)))) (binS ixA (binS ixA (varS 0) (cS (.str "cells"))) (binS modD (callV intD (consS (varS 2) nilS)) (callV lenD (consS (binS ixA (varS 0) (cS (.str "cells"))) nilS)))) (cS (.int 0)) ⟨rhz, z.muz⟩ = .ok (.int (cellAt z.c t)) ⟨rhz, z.muz⟩ := by
  by_cases hc : z.c = []
  · simp [h0, ix_cells, eqB_isl (vw_lst _ _), hc, cellAt]
  · have l0 : 0 < z.c.length := List.length_pos_iff.mpr hc
    have m1 := Int.emod_nonneg t (show (z.c.length : Int) ≠ 0 by omega)
    have m2 := Int.emod_lt_of_pos t (show (0 : Int) < z.c.length by omega)
    have e := ixA_isl ⟨rhz, z.muz⟩ z.c (t % z.c.length) m1 m2
    simp [h0, h2, ix_cells, eqB_isl (vw_lst _ _), hc, lenD_lst, isl_len, modD_int _ t (show (0 : Int) < z.c.length by omega), e, cell_val z.c t hc t0]
theorem dr_dry (z : DS) (n : Int) (n0 : 0 < n) (hr : z.r = 0) (t0 : 0 ≤ z.t) (t1 : z.t + 1 < 2 ^ 1000) : ∃ rhz, drR ⟨[.d (.hnd 1), .d (.int n), .un, .un, .un, .un], z.muz⟩ = .ok (.rt (.int (signAt z.c (z.t + 1) % n))) ⟨rhz, ({ z with t := z.t + 1 } : DS).muz⟩ := by
  have w1 := dr_cell ({ z with t := z.t + 1 } : DS) [.d (.hnd 1), .d (.int n), .d (.int (z.t + 1)), .un, .un, .un] (z.t + 1) (by omega) rfl rfl
  have b1 := Int.emod_nonneg (cellAt z.c (z.t + 1)) (show (2147483563 : Int) ≠ 0 by omega)
  have b2 := Int.emod_lt_of_pos (cellAt z.c (z.t + 1)) (show (0 : Int) < 2147483563 by omega)
  obtain ⟨s1, _, s3⟩ := small_sum (t := z.t + 1) (m := cellAt z.c (z.t + 1) % 2147483563) (k := 48271) (by omega) t1 b1 (by omega) (by omega)
  have d1 := Int.emod_nonneg ((cellAt z.c (z.t + 1) % 2147483563 + 48271 * (z.t + 1) + 54321) ^ 3) (show (2147483647 : Int) ≠ 0 by omega)
  have d2 := Int.emod_lt_of_pos ((cellAt z.c (z.t + 1) % 2147483563 + 48271 * (z.t + 1) + 54321) ^ 3) (show (0 : Int) < 2147483647 by omega)
  obtain ⟨_, s5, _⟩ := small_sum (t := z.t + 1) (m := mixd z.c (z.t + 1)) (k := 130363) (by omega) t1 d1 (by unfold mixd; omega) (by omega)
  have p1 : ∀ s, powD s (.int (cellAt z.c (z.t + 1) % 2147483563 + 48271 * (z.t + 1) + 54321)) (.int 3) = some (.int ((cellAt z.c (z.t + 1) % 2147483563 + 48271 * (z.t + 1) + 54321) ^ 3)) := fun s => powD_int s (b := 3) s1 (by omega)
  have p2 : ∀ s, powD s (.int (mixd z.c (z.t + 1) + 130363 * (z.t + 1))) (.int 5) = some (.int ((mixd z.c (z.t + 1) + 130363 * (z.t + 1)) ^ 5)) := fun s => powD_int s (b := 5) s5 (by omega)
  have q1 : ∀ s, mulE s (.int 48271) (.int (z.t + 1)) = some (.int (48271 * (z.t + 1))) := fun s => mulE_int s (by decide) s3
  have q2 : ∀ s, mulE s (.int 130363) (.int (z.t + 1)) = some (.int (130363 * (z.t + 1))) := fun s => mulE_int s (by decide) s3
  have m1 : ∀ s, modD s (.int (cellAt z.c (z.t + 1))) (.int 2147483563) = some (.int (cellAt z.c (z.t + 1) % 2147483563)) := fun s => modD_int s _ (by omega)
  have m2 : ∀ s, modD s (.int ((cellAt z.c (z.t + 1) % 2147483563 + 48271 * (z.t + 1) + 54321) ^ 3)) (.int 2147483647) = some (.int (mixd z.c (z.t + 1))) := fun s => modD_int s _ (by omega)
  have m3 : ∀ s, modD s (.int ((mixd z.c (z.t + 1) + 130363 * (z.t + 1)) ^ 5)) (.int 2147483549) = some (.int ((mixd z.c (z.t + 1) + 130363 * (z.t + 1)) ^ 5 % 2147483549)) := fun s => modD_int s _ (by omega)
  have m4 : ∀ s, fdivD s (.int ((mixd z.c (z.t + 1) + 130363 * (z.t + 1)) ^ 5 % 2147483549)) (.int 17) = some (.int (signAt z.c (z.t + 1))) := fun s => fdivD_int s _ (by omega) (by omega)
  have m5 : ∀ s, modD s (.int (signAt z.c (z.t + 1))) (.int n) = some (.int (signAt z.c (z.t + 1) % n)) := fun s => modD_int s _ n0
  have hr' : ¬ 0 < z.r := by omega
  have c1 : ∀ rhz, kDput2 (.int (z.t + 1)) (.hnd 1) (.str "turn") ⟨rhz, z.muz⟩ = .ok .nx ⟨rhz, ({ z with t := z.t + 1 } : DS).muz⟩ := fun rhz => put_turn z rhz _
  refine ⟨[.d (.hnd 1), .d (.int n), .d (.int (z.t + 1)), .d (.int (cellAt z.c (z.t + 1))), .d (.int (mixd z.c (z.t + 1))), .un], ?_⟩
  have w2 : ∀ (f : M D) (s : S), setS 3 f s = (f s).bind (kSet 3) := fun f s => rfl
  simp only [drR, seqS_ap, ifS_ap, tstS_ap, binS_ap, varS_ap, kVar_d, cS_ap, O.bind_ok, kB1_ap, kB2_ap, List.getElem?_cons_zero, List.getElem?_cons_succ, ix_rest, ofO_some, gtD_int, hr', decide_false, kTst_ap, kIte_f, nxS_ap, kSeq_nx, setS_ap, ix_turn, addD_int, kSet_ap, sto_int, kSetB_t, List.set_cons_succ, List.set_cons_zero, dputS_ap, kDput_ap, kDput1_ap, c1, w1, callV_ap, consS_ap, kCons_ap, nilS_ap, kCons2_ap, kCv_ap, intD_int, m1, q1, p1, m2, q2, p2, m3, m4, m5, retS_ap, kRet_int]
theorem runD_eq {n a : Nat} {body : M Fl} {ds : List D} {muz : List MO} {d : D} {s : S} (hl : ds.length = a) (h : body ⟨ds.map .d ++ List.replicate (n - a) .un, muz⟩ = .ok (.rt d) s) : runD n a body ds muz = .ok d s.muz := by
  unfold runD
  rw [if_pos hl, h]
theorem draw_run (z : DS) (n : Int) (hz : z.Good) (n0 : 0 < n) (n1 : n < 2 ^ 62) (t1 : z.t + 1 < 2 ^ 1000) : runD 6 2 drawS [.hnd 1, .int n] z.muz = .ok (.int (drw n z).1) (drw n z).2.muz := by
  have e0 : (drawS : M Fl) = seqS (whS skC skB) drR := rfl
  have e1 := sk_eq [.d (.hnd 1), .d (.int n), .un, .un, .un, .un] rfl z.L z rfl
  obtain ⟨g1, g2, _⟩ := skp_good z.L z.r hz.L hz.r
  have go : ∃ rhz, drawS ⟨[.d (.hnd 1), .d (.int n), .un, .un, .un, .un], z.muz⟩ = .ok (.rt (.int (drw n z).1)) ⟨rhz, (drw n z).2.muz⟩ := by
    rw [e0, seqS_ap, e1, O.bind_ok, kSeq_nx]
    unfold drw
    by_cases hr : 0 < (skp z.L z.r).2
    · rw [if_pos hr, dr_wet ⟨(skp z.L z.r).1, z.c, (skp z.L z.r).2, z.t⟩ n n0 n1 hr]
      exact ⟨_, rfl⟩
    · rw [if_neg hr]
      obtain ⟨rhz, e2⟩ := dr_dry ⟨(skp z.L z.r).1, z.c, (skp z.L z.r).2, z.t⟩ n n0 (by show (skp z.L z.r).2 = 0; omega) hz.t t1
      rw [e2]
      exact ⟨rhz, rfl⟩
  obtain ⟨rhz, go⟩ := go
  exact runD_eq (ds := [.hnd 1, .int n]) (s := ⟨rhz, (drw n z).2.muz⟩) rfl go
end AG

set_option Elab.async false
set_option linter.all false
set_option maxRecDepth 100000
set_option exponentiation.threshold 4000
namespace AG
def invs : List Nat := [484266796, 242133398, 877250115, 121066699, 526350069, 1512366832, 375964335, 1134275124, 292416705, 1336916809, 1996282026, 756183416, 37251292, 1261723942, 175450023, 567137562, 1797002146, 1219950127, 251538626, 1742200179, 125321445, 998141013, 207792778, 378091708, 1823256853, 18625646, 97472235, 630861971, 1645824306, 1161466786, 846905464, 283568781, 665427342, 898501073, 75192867, 1683716838, 1289970402, 125769313, 728244947, 1944841864, 1059364336, 1136402497, 660501231, 1572812281, 58483341, 103896389, 969817475, 189045854, 667275919, 1985370201, 1314828565, 9312823, 211729897, 1122477892, 828753115, 1389172760, 1515501908, 822912153, 1755313172, 580733393, 219166690, 423452732, 41773815]
def seeds : List Nat := [0, 2, 34, 8, 25, 40, 10, 36, 4, 11, 106, 45, 28, 42, 3, 6, 44, 67, 62, 142, 14, 20, 23, 54, 26, 12]
theorem invs_ok : ∀ n, n < 63 → ∃ u, invs[n]? = some u ∧ 130363 * (n + 1) * 2147483647 * u % 2147483549 = 1 := by
  intro n hn
  have h : (List.range 63).all (fun n => match invs[n]? with
    | some u => decide (130363 * (n + 1) * 2147483647 * u % 2147483549 = 1)
    | none => false) = true := by decide +kernel
  have z := List.all_eq_true.mp h n (List.mem_range.mpr hn)
  cases q : invs[n]? with
  | none => rw [q] at z; cases z
  | some u => rw [q] at z; exact ⟨u, rfl, of_decide_eq_true z⟩
theorem seeds_ok : ∀ i, i < 26 → ∃ x : Nat, x ^ 5 % 2147483549 / 17 % 26 = i := by
  intro i hi
  have h : (List.range 26).all (fun i => match seeds[i]? with
    | some u => decide (u ^ 5 % 2147483549 / 17 % 26 = i)
    | none => false) = true := by decide +kernel
  have z := List.all_eq_true.mp h i (List.mem_range.mpr hi)
  cases q : seeds[i]? with
  | none => rw [q] at z; cases z
  | some u => rw [q] at z; exact ⟨u, of_decide_eq_true z⟩
theorem emod_pow_congr {a b m : Int} (h : a % m = b % m) : ∀ k : Nat, a ^ k % m = b ^ k % m
  | 0 => by rw [Int.pow_zero, Int.pow_zero]
  | k + 1 => by rw [Int.pow_succ, Int.pow_succ, Int.mul_emod, emod_pow_congr h k, h, ← Int.mul_emod]
theorem cell_again (c : List Int) (t : Int) (n : Nat) (hn : c ≠ [] → n = c.length) (k : Int) : cellAt c (t + n * k) = cellAt c t := by
  unfold cellAt
  by_cases hc : c = []
  · rw [if_pos hc, if_pos hc]
  · rw [if_neg hc, if_neg hc, hn hc, Int.add_mul_emod_self_left]
theorem mixd_again (c : List Int) (t : Int) (n : Nat) (hn : c ≠ [] → n = c.length) (k : Int) : mixd c (t + n * (2147483647 * k)) = mixd c t := by
  unfold mixd
  rw [cell_again c t n hn]
  refine emod_pow_congr ?_ 3
  have e : cellAt c t % 2147483563 + 48271 * (t + (n : Int) * (2147483647 * k)) + 54321 = (cellAt c t % 2147483563 + 48271 * t + 54321) + 2147483647 * (48271 * n * k) := by
    rw [Int.mul_add, show (48271 : Int) * ((n : Int) * (2147483647 * k)) = 2147483647 * (48271 * n * k) by
      rw [← Int.mul_assoc, ← Int.mul_assoc, Int.mul_comm (48271 * (n : Int)) 2147483647, Int.mul_assoc]]
    omega
  rw [e, Int.add_mul_emod_self_left]
theorem letter_comes (c : List Int) (hc : c.length ≤ 63) (t0 : Int) (i : Nat) (hi : i < 26) : ∃ T, t0 < T ∧ T ≤ t0 + 2 ^ 69 ∧ signAt c T % 26 = i := by
  obtain ⟨n, n1, n2, hn⟩ : ∃ n : Nat, n < 63 ∧ True ∧ (c ≠ [] → n + 1 = c.length) := by
    by_cases h : c = []
    · exact ⟨0, by omega, trivial, fun z => absurd h z⟩
    · have : 0 < c.length := List.length_pos_iff.mpr h
      exact ⟨c.length - 1, by omega, trivial, fun _ => by omega⟩
  obtain ⟨u, _, hu⟩ := invs_ok n n1
  obtain ⟨x, hx⟩ := seeds_ok i hi
  let y : Int := mixd c (t0 + 1) + 130363 * (t0 + 1)
  let k : Int := ((x : Int) - y) * u % 2147483549
  have k0 : 0 ≤ k := Int.emod_nonneg _ (by omega)
  have k1 : k < 2147483549 := Int.emod_lt_of_pos _ (by omega)
  let T : Int := t0 + 1 + ((n + 1 : Nat) : Int) * (2147483647 * k)
  have p0 : 0 ≤ ((n + 1 : Nat) : Int) * (2147483647 * k) := Int.mul_nonneg (by omega) (by omega)
  have p1 : ((n + 1 : Nat) : Int) * (2147483647 * k) ≤ 63 * (2147483647 * 2147483549) := Int.mul_le_mul (by omega) (by omega) (by omega) (by omega)
  refine ⟨T, by show t0 < t0 + 1 + _; omega, by show t0 + 1 + _ ≤ _; omega, ?_⟩
  have e1 : mixd c T = mixd c (t0 + 1) := mixd_again c (t0 + 1) (n + 1) hn k
  have e2 : (mixd c T + 130363 * T) % 2147483549 = (x : Int) % 2147483549 := by
    rw [e1]
    have e3 : mixd c (t0 + 1) + 130363 * T = y + (130363 * ((n + 1 : Nat) : Int) * 2147483647) * k := by
      show mixd c (t0 + 1) + 130363 * (t0 + 1 + ((n + 1 : Nat) : Int) * (2147483647 * k)) = mixd c (t0 + 1) + 130363 * (t0 + 1) + _
      rw [Int.mul_add 130363 (t0 + 1), ← Int.mul_assoc 130363, ← Int.mul_assoc (130363 * ((n + 1 : Nat) : Int)), Int.add_assoc]
    rw [e3]
    have hu' : (130363 * ((n + 1 : Nat) : Int) * 2147483647) * u % 2147483549 = 1 := by
      have := congrArg (fun q : Nat => (q : Int)) hu
      simpa using this
    have e4 : (130363 * ((n + 1 : Nat) : Int) * 2147483647) * k % 2147483549 = ((x : Int) - y) % 2147483549 := by
      show _ * (((x : Int) - y) * u % 2147483549) % 2147483549 = _
      rw [Int.mul_emod, Int.emod_emod, ← Int.mul_emod, Int.mul_left_comm, Int.mul_emod, hu']
      rw [Int.mul_one, Int.emod_emod]
    rw [Int.add_emod, e4, ← Int.add_emod]
    congr 1
    omega
  have e5 := emod_pow_congr e2 5
  unfold signAt
  rw [e5]
  have := congrArg (fun q : Nat => (q : Int)) hx
  simpa using this
end AG

set_option Elab.async false
set_option linter.all false
set_option maxRecDepth 100000
set_option exponentiation.threshold 4000
namespace AG
def pot (L : List Int) (r : Int) : Nat := (L.map fun x => x.toNat + 1).sum + r.toNat
theorem skp_pot : ∀ (L : List Int) (r : Int), pot (skp L r).1 (skp L r).2 ≤ pot L r
  | [], r => Nat.le_refl _
  | x :: L, r => by
    unfold skp
    split
    · refine Nat.le_trans (skp_pot L x) ?_
      unfold pot
      simp only [List.map_cons, List.sum_cons]
      omega
    · exact Nat.le_refl _
theorem drw_step (z : DS) : (pot (drw 26 z).2.L (drw 26 z).2.r < pot z.L z.r ∧ (drw 26 z).2.t = z.t) ∨ ((drw 26 z).2.t = z.t + 1 ∧ (drw 26 z).1 = signAt z.c (z.t + 1) % 26) := by
  have h := skp_pot z.L z.r
  unfold drw
  split
  · rename_i hr
    refine .inl ⟨?_, rfl⟩
    have : ((skp z.L z.r).2 / 26).toNat < (skp z.L z.r).2.toNat := by omega
    unfold pot at h ⊢
    show _ + ((skp z.L z.r).2 / 26).toNat < _
    simp only at h ⊢
    omega
  · exact .inr ⟨rfl, rfl⟩
theorem nodup_le {α : Type} [DecidableEq α] : ∀ (l m : List α), l.Nodup → (∀ x ∈ l, x ∈ m) → l.length ≤ m.length
  | [], m, _, _ => Nat.zero_le _
  | x :: l, m, hn, hm => by
    have hx := hm x List.mem_cons_self
    rw [List.nodup_cons] at hn
    have := nodup_le l (m.erase x) hn.2 fun y hy => (List.mem_erase_of_ne (fun e => hn.1 (by rw [← e]; exact hy))).mpr (hm y (List.mem_cons_of_mem _ hy))
    rw [List.length_erase_of_mem hx] at this
    have : 0 < m.length := List.length_pos_iff.mpr (List.ne_nil_of_mem hx)
    simp only [List.length_cons]
    omega
theorem least_of {p : Nat → Prop} : ∀ {k : Nat}, p k → ∃ j, j ≤ k ∧ p j ∧ ∀ i, i < j → ¬ p i := by
  intro k
  induction k using Nat.strongRecOn with
  | ind k ih =>
    intro h
    by_cases q : ∃ i, i < k ∧ p i
    · obtain ⟨i, h1, h2⟩ := q
      obtain ⟨j, h3, h4⟩ := ih i h1 h2
      exact ⟨j, by omega, h4⟩
    · exact ⟨k, Nat.le_refl _, h, fun i hi hp => q ⟨i, hi, hp⟩⟩
section
variable {W : Type} [DecidableEq W] (long : W → Bool) (app : W → Int → W) (chop : W → W) (last : W → Option Int) (ok : W → Prop)
def wstep (x : W × DS) : W × DS := if long x.1 then (chop x.1, x.2) else (app x.1 (drw 26 x.2).1, (drw 26 x.2).2)
def witer : Nat → W × DS → W × DS
  | 0, x => x
  | k + 1, x => witer k (wstep long app chop x)
theorem witer_add (k j : Nat) (x : W × DS) : witer long app chop (k + j) x = witer long app chop j (witer long app chop k x) := by
  induction k generalizing x with
  | zero => rw [Nat.zero_add]; rfl
  | succ k ih => rw [Nat.succ_add]; exact ih _
theorem witer_succ (k : Nat) (x : W × DS) : witer long app chop (k + 1) x = wstep long app chop (witer long app chop k x) := witer_add long app chop k 1 x
variable (h1 : ∀ w v, ok w → long w = false → 0 ≤ v → v < 26 → ok (app w v) ∧ last (app w v) = some v) (h2 : ∀ w, ok w → long w = true → ok (chop w) ∧ long (chop w) = false)
include h1 h2
theorem wstep_good {x : W × DS} (hx : ok x.1 ∧ x.2.Good) : (ok (wstep long app chop x).1 ∧ (wstep long app chop x).2.Good) ∧ (wstep long app chop x).2.c = x.2.c ∧ x.2.t ≤ (wstep long app chop x).2.t ∧ (wstep long app chop x).2.t ≤ x.2.t + 1 := by
  unfold wstep
  cases q : long x.1 with
  | true => exact ⟨⟨(h2 _ hx.1 q).1, hx.2⟩, rfl, Int.le_refl _, by simp; omega⟩
  | false =>
    obtain ⟨g1, g2, g3, g4, g5, g6⟩ := drw_good (n := 26) (by omega) hx.2
    exact ⟨⟨(h1 _ _ hx.1 q g2 g3).1, g1⟩, g4, g6, g5⟩
theorem witer_good : ∀ (k : Nat) {x : W × DS}, ok x.1 ∧ x.2.Good → (ok (witer long app chop k x).1 ∧ (witer long app chop k x).2.Good) ∧ (witer long app chop k x).2.c = x.2.c ∧ x.2.t ≤ (witer long app chop k x).2.t
  | 0, x, hx => ⟨hx, rfl, Int.le_refl _⟩
  | k + 1, x, hx => by
    obtain ⟨a, b, c, d⟩ := wstep_good long app chop last ok h1 h2 hx
    obtain ⟨a2, b2, c2⟩ := witer_good k a
    exact ⟨a2, b2.trans b, Int.le_trans c c2⟩
theorem goes_on (n : Nat) : ∀ (x : W × DS), pot x.2.L x.2.r < n → ok x.1 ∧ x.2.Good → ∃ j, (witer long app chop j x).2.t = x.2.t + 1 ∧ last (witer long app chop j x).1 = some (signAt x.2.c (x.2.t + 1) % 26) := by
  induction n with
  | zero => intro x h; omega
  | succ n ih =>
    -- where a letter is drawn
    have draw : ∀ (x : W × DS), pot x.2.L x.2.r < n + 1 → ok x.1 ∧ x.2.Good → long x.1 = false → ∃ j, (witer long app chop j x).2.t = x.2.t + 1 ∧ last (witer long app chop j x).1 = some (signAt x.2.c (x.2.t + 1) % 26) := fun x hp hx q => by
      have es : wstep long app chop x = (app x.1 (drw 26 x.2).1, (drw 26 x.2).2) := by unfold wstep; rw [q]; rfl
      obtain ⟨g1, g2, g3, g4, g5, g6⟩ := drw_good (n := 26) (by omega) hx.2
      obtain ⟨k1, k2⟩ := h1 _ _ hx.1 q g2 g3
      rcases drw_step x.2 with ⟨d1, d2⟩ | ⟨d1, d2⟩
      · obtain ⟨j, e1, e2⟩ := ih (wstep long app chop x) (by rw [es]; show pot (drw 26 x.2).2.L (drw 26 x.2).2.r < n; omega) (by rw [es]; exact ⟨k1, g1⟩)
        refine ⟨j + 1, ?_⟩
        rw [es] at e1 e2
        simp only [d2, g4] at e1 e2
        unfold witer
        rw [es]
        exact ⟨e1, e2⟩
      · refine ⟨1, ?_⟩
        show (wstep long app chop x).2.t = _ ∧ last (wstep long app chop x).1 = _
        rw [es]
        exact ⟨d1, by rw [k2, d2]⟩
    intro x hp hx
    cases q : long x.1 with
    | false => exact draw x hp hx q
    | true =>
      have es : wstep long app chop x = (chop x.1, x.2) := by unfold wstep; rw [q]; rfl
      obtain ⟨k1, k2⟩ := h2 _ hx.1 q
      obtain ⟨j, e⟩ := draw (chop x.1, x.2) hp ⟨k1, hx.2⟩ k2
      refine ⟨j + 1, ?_⟩
      unfold witer
      rw [es]
      exact e
theorem goes_far : ∀ (N : Nat) (x : W × DS), ok x.1 ∧ x.2.Good → ∃ j, (witer long app chop j x).2.t = x.2.t + (N + 1 : Nat) ∧ last (witer long app chop j x).1 = some (signAt x.2.c (x.2.t + (N + 1 : Nat)) % 26)
  | 0, x, hx => goes_on long app chop last ok h1 h2 _ x (Nat.lt_succ_self _) hx
  | N + 1, x, hx => by
    obtain ⟨j, e1, e2⟩ := goes_far N x hx
    obtain ⟨g1, g2, g3⟩ := witer_good long app chop last ok h1 h2 j hx
    obtain ⟨i, e3, e4⟩ := goes_on long app chop last ok h1 h2 _ (witer long app chop j x) (Nat.lt_succ_self _) g1
    refine ⟨j + i, ?_⟩
    rw [witer_add, e3, e4, e1, g2]
    have : x.2.t + ((N + 1 : Nat) : Int) + 1 = x.2.t + ((N + 1 + 1 : Nat) : Int) := by omega
    rw [this]
    exact ⟨rfl, rfl⟩
theorem ends (x : W × DS) (hx : ok x.1 ∧ x.2.Good) (fd : List W) (hf : fd.length < 26) :
    ∃ k, (witer long app chop k x).1 ∉ fd ∧ (∀ i, i < k → (witer long app chop i x).1 ∈ fd) ∧ (witer long app chop k x).2.t ≤ x.2.t + 2 ^ 69 := by
  have each : ∀ i : Nat, i < 26 → ∃ j, (witer long app chop j x).2.t ≤ x.2.t + 2 ^ 69 ∧ last (witer long app chop j x).1 = some (i : Int) := fun i hi => by
    obtain ⟨T, t1, t2, t3⟩ := letter_comes x.2.c hx.2.c x.2.t i hi
    obtain ⟨j, e1, e2⟩ := goes_far long app chop last ok h1 h2 (T - x.2.t - 1).toNat x hx
    have e : x.2.t + (((T - x.2.t - 1).toNat + 1 : Nat) : Int) = T := by omega
    rw [e] at e1 e2
    exact ⟨j, by omega, by rw [e2, t3]⟩
  have some_ : ∃ k, (witer long app chop k x).1 ∉ fd ∧ (witer long app chop k x).2.t ≤ x.2.t + 2 ^ 69 := by
    refine Classical.byContradiction fun no => ?_
    have all : ∀ k, (witer long app chop k x).2.t ≤ x.2.t + 2 ^ 69 → (witer long app chop k x).1 ∈ fd := fun k hk => Classical.byContradiction fun q => no ⟨k, q, hk⟩
    have us : ∀ n, n ≤ 26 → ∃ l : List W, l.length = n ∧ l.Nodup ∧ (∀ u ∈ l, u ∈ fd) ∧ ∀ u ∈ l, ∃ i : Nat, i < n ∧ last u = some (i : Int) := by
      intro n
      induction n with
      | zero => exact fun _ => ⟨[], rfl, List.nodup_nil, by simp, by simp⟩
      | succ n ih =>
        intro hn
        obtain ⟨l, a1, a2, a3, a4⟩ := ih (by omega)
        obtain ⟨j, b1, b2⟩ := each n (by omega)
        refine ⟨(witer long app chop j x).1 :: l, by simp [a1], List.nodup_cons.mpr ⟨fun z => ?_, a2⟩, fun u hu => ?_, fun u hu => ?_⟩
        · obtain ⟨i, c1, c2⟩ := a4 _ z
          rw [b2] at c2
          have := Option.some.inj c2
          omega
        · rcases List.mem_cons.mp hu with rfl | hu
          · exact all j b1
          · exact a3 u hu
        · rcases List.mem_cons.mp hu with rfl | hu
          · exact ⟨n, by omega, b2⟩
          · obtain ⟨i, c1, c2⟩ := a4 u hu
            exact ⟨i, by omega, c2⟩
    obtain ⟨l, a1, a2, a3, _⟩ := us 26 (Nat.le_refl _)
    have := nodup_le l fd a2 a3
    omega
  obtain ⟨k, k1, k2⟩ := some_
  obtain ⟨j, j1, j2, j3⟩ := least_of (p := fun k => (witer long app chop k x).1 ∉ fd) k1
  refine ⟨j, j2, fun i hi => Classical.byContradiction fun q => j3 i hi q, ?_⟩
  obtain ⟨g, _, _⟩ := witer_good long app chop last ok h1 h2 j hx
  obtain ⟨_, _, m⟩ := witer_good long app chop last ok h1 h2 (k - j) g
  rw [← witer_add, show j + (k - j) = k by omega] at m
  exact Int.le_trans m k2
end
end AG

set_option Elab.async false
set_option linter.all false
set_option maxRecDepth 100000
set_option exponentiation.threshold 4000
namespace AG
open PySem L2
def IsDraw (cd : List D → List MO → R) : Prop := ∀ (z : DS) (n : Int), z.Good → 0 < n → n < 2 ^ 62 → z.t + 1 < 2 ^ 1000 → cd [.hnd 1, .int n] z.muz = .ok (.int (drw n z).1) (drw n z).2.muz
abbrev pickS (cd : List D → List MO → R) : M Fl := (retS (binS ixA (varS 1) (callF cd (consS (varS 0) (consS (callV lenD (consS (varS 1) nilS)) nilS)))))
theorem atI_ok {α : Type} (l : List α) (i : Int) (h0 : 0 ≤ i) (h1 : i < l.length) : atI l i = l[i.toNat]? := by
  unfold atI ixN
  rw [if_pos h0, if_pos h1]
  rfl
theorem kCall_draw {cd : List D → List MO → R} (hd : IsDraw cd) (z : DS) (n : Int) (hz : z.Good) (n0 : 0 < n) (n1 : n < 2 ^ 62) (ht : z.t + 1 < 2 ^ 1000) (rhz : List SV) : kCall cd [.hnd 1, .int n] ⟨rhz, z.muz⟩ = .ok (.int (drw n z).1) ⟨rhz, (drw n z).2.muz⟩ := kCall_eq (hd z n hz n0 n1 ht) rfl
theorem pick_lst {cd : List D → List MO → R} (hd : IsDraw cd) (z : DS) (l : List D) (hz : z.Good) (ht : z.t + 1 < 2 ^ 1000) (l0 : l ≠ []) (l1 : l.length < 2 ^ 62) (hs : l.all sto = true) :
    ∃ x ∈ l, l[(drw l.length z).1.toNat]? = some x ∧ runD 2 2 (pickS cd) [.hnd 1, .lst l] z.muz = .ok x (drw l.length z).2.muz := by
  have n0 : 0 < l.length := List.length_pos_iff.mpr l0
  obtain ⟨g1, g2, g3, _⟩ := drw_good (n := l.length) (by omega) hz
  have hl : (drw l.length z).1.toNat < l.length := by omega
  have ex := atI_ok l (drw l.length z).1 g2 g3
  rw [List.getElem?_eq_getElem hl] at ex
  have hm : l[(drw l.length z).1.toNat] ∈ l := List.getElem_mem hl
  refine ⟨l[(drw l.length z).1.toNat], hm, List.getElem?_eq_getElem hl, ?_⟩
  have hx : sto l[(drw l.length z).1.toNat] = true := List.all_eq_true.mp hs _ hm
  refine runD_eq (s := ⟨[.d (.hnd 1), .d (.lst l)], (drw l.length z).2.muz⟩) rfl ?_
  show pickS cd ⟨[.d (.hnd 1), .d (.lst l)], z.muz⟩ = _
  have ei : ixA ⟨[.d (.hnd 1), .d (.lst l)], (drw l.length z).2.muz⟩ (.lst l) (.int (drw l.length z).1) = some l[(drw l.length z).1.toNat] := ex
  simp only [pickS, retS_ap, binS_ap, varS_ap, List.getElem?_cons_zero, List.getElem?_cons_succ, kVar_d, O.bind_ok, kB1_ap, callF_ap, consS_ap, kCons_ap, callV_ap, nilS_ap, kCons2_ap, kCv_ap, lenD_lst, ofO_some, kCall_draw hd z l.length hz (by omega) (by omega) ht, kB2_ap, ei, kRet_ap _ _ hx]
def LET : Str := Str.ofString "abcdefghijklmnopqrstuvwxyz"
def sgn (c : Nat) : Str := ⟨#[c]⟩
def ltr (v : Int) : Str := sgn (97 + v.toNat)
theorem let_get : ∀ v, v < 26 → LET.cps.toList[v]? = some (97 + v) := by
  intro v hv
  have h : (List.range 26).all (fun v => decide (LET.cps.toList[v]? = some (97 + v))) = true := by decide +kernel
  exact of_decide_eq_true (List.all_eq_true.mp h v (List.mem_range.mpr hv))
theorem let_len : LET.length = 26 := by decide +kernel
theorem let_len2 : LET.cps.toList.length = 26 := by decide +kernel
theorem pick_let {cd : List D → List MO → R} (hd : IsDraw cd) (z : DS) (hz : z.Good) (ht : z.t + 1 < 2 ^ 1000) : runD 2 2 (pickS cd) [.hnd 1, .str LET] z.muz = .ok (.str (ltr (drw 26 z).1)) (drw 26 z).2.muz := by
  obtain ⟨g1, g2, g3, _⟩ := drw_good (n := 26) (by omega) hz
  refine runD_eq (s := ⟨[.d (.hnd 1), .d (.str LET)], (drw 26 z).2.muz⟩) rfl ?_
  show pickS cd ⟨[.d (.hnd 1), .d (.str LET)], z.muz⟩ = _
  have e1 : ∀ s, lenD s [.str LET] = some (.int 26) := fun s => by
    show (if LET.length ≤ LIM then some (D.int (LET.length : Nat)) else none) = _
    rw [let_len, if_pos (by decide)]
    rfl
  have e2 : ∀ s, ixA s (.str LET) (.int (drw 26 z).1) = some (.str (ltr (drw 26 z).1)) := fun s => by
    show (if LET.length ≤ LIM then (atI LET.cps.toList (drw 26 z).1).map fun c => D.str ⟨#[c]⟩ else none) = _
    rw [let_len, if_pos (by decide), atI_ok _ _ g2 (by rw [let_len2]; omega), let_get _ (by omega)]
    rfl
  simp only [pickS, retS_ap, binS_ap, varS_ap, List.getElem?_cons_zero, List.getElem?_cons_succ, kVar_d, O.bind_ok, kB1_ap, callF_ap, consS_ap, kCons_ap, callV_ap, nilS_ap, kCons2_ap, kCv_ap, e1, ofO_some, kCall_draw hd z 26 hz (by omega) (by omega) ht, kB2_ap, e2, kRet_str]
structure Nm (x : Str) : Prop where
  pos : 1 ≤ x.length
  few : x.length ≤ 6
  low : ∀ c ∈ x.cps.toList, 97 ≤ c ∧ c ≤ 122
theorem Nm.lay {x : Str} (h : Nm x) : PyData.canLay0 (.str x) = true := by
  simp only [PyData.canLay0, PyData.strOk]
  rw [← Array.all_toList]
  refine List.all_eq_true.mpr fun c hc => ?_
  have := h.low c hc
  simp
  omega
end AG

set_option Elab.async false
set_option linter.all false
set_option maxRecDepth 100000
set_option exponentiation.threshold 4000
namespace AG
open PySem L2
def longW (w : Str) : Bool := !decide ((w.length : Int) < 6)
def appW (w : Str) (v : Int) : Str := cutS w none (some 5) ++ ltr v
def chopW (w : Str) : Str := cutS w (some 1) none
def lastW (w : Str) : Option Int := (w.cps.toList.getLast?).map fun c => (c : Int) - 97
theorem len_tl (w : Str) : w.length = w.cps.toList.length := by simp [Str.length]
theorem tl_app (a b : Str) : (a ++ b).cps.toList = a.cps.toList ++ b.cps.toList := by
  show (Str.append a b).cps.toList = _
  simp [Str.append]
theorem tl_cut5 (w : Str) : (cutS w none (some 5)).cps.toList = w.cps.toList.take 5 := by
  unfold cutS
  have h := HT.sIx_nat w.length w.length 5
  rw [show ((5 : Nat) : Int) = 5 from rfl] at h
  rw [HT.sIx_none, h]
  simp only [List.drop_zero, Nat.sub_zero]
  rw [len_tl, List.take_eq_take_min (i := 5)]
theorem tl_cut1 (w : Str) : (cutS w (some 1) none).cps.toList = w.cps.toList.drop 1 := by
  unfold cutS
  have h := HT.sIx_nat w.length 0 1
  rw [show ((1 : Nat) : Int) = 1 from rfl] at h
  rw [HT.sIx_none, h]
  simp only []
  rw [len_tl]
  by_cases h0 : w.cps.toList.length = 0
  · have : w.cps.toList = [] := List.eq_nil_of_length_eq_zero h0
    simp [this]
  · rw [Nat.min_eq_left (by omega)]
    exact List.take_of_length_le (by simp)
theorem app_ok (w : Str) (v : Int) (h : Nm w) (hl : longW w = false) (v0 : 0 ≤ v) (v1 : v < 26) : Nm (appW w v) ∧ lastW (appW w v) = some v := by
  have e : (appW w v).cps.toList = w.cps.toList.take 5 ++ [97 + v.toNat] := by unfold appW; rw [tl_app, tl_cut5]; rfl
  refine ⟨⟨?_, ?_, ?_⟩, ?_⟩
  · rw [len_tl, e]; simp
  · rw [len_tl, e]; simp [List.length_take]; omega
  · intro c hc
    rw [e] at hc
    rcases List.mem_append.mp hc with hc | hc
    · exact h.low c (List.mem_of_mem_take hc)
    · simp only [List.mem_singleton] at hc
      omega
  · unfold lastW
    rw [e, List.getLast?_concat]
    show some (((97 + v.toNat : Nat) : Int) - 97) = some v
    congr 1
    omega
theorem chop_ok (w : Str) (h : Nm w) (hl : longW w = true) : Nm (chopW w) ∧ longW (chopW w) = false := by
  have e : (chopW w).cps.toList = w.cps.toList.drop 1 := tl_cut1 w
  have hw : w.length = 6 := by
    have := h.few
    unfold longW at hl
    simp at hl
    omega
  rw [len_tl] at hw
  have l5 : (chopW w).length = 5 := by rw [len_tl, e, List.length_drop]; omega
  refine ⟨⟨by omega, by omega, fun c hc => ?_⟩, ?_⟩
  · rw [e] at hc
    exact h.low c (List.mem_of_mem_drop hc)
  · unfold longW
    rw [l5]
    decide
theorem any_txs (w : Str) : ∀ fd : List Str, ((fd.map PyData.str).any fun z => PyData.eqv z (.str w)) = decide (w ∈ fd)
  | [] => by simp
  | x :: l => by
    rw [List.map_cons, List.any_cons, any_txs w l]
    have e : PyData.eqv (.str x) (.str w) = (x == w) := by simp only [PyData.eqv]
    rw [e]
    by_cases q : x = w
    · subst q; simp
    · have q' : ¬ w = x := fun z => q z.symm
      have q2 : (x == w) = false := by simpa using q
      rw [q2]
      simp [q']
theorem in_txs {s : S} {d : D} {fd : List Str} {w : Str} (h : vw s d = .lst (txs fd)) (hl : Lay fd) (hw : PyData.canLay0 (.str w) = true) : inA s (.str w) d = some (.bl (decide (w ∈ fd))) := by
  have sw : SeqAt.shaped (.str w) = true := by unfold SeqAt.shaped; simp [hw, PyData.depth]
  have e1 : inB s (.str w) d = some (decide (w ∈ fd)) := by
    unfold inB
    rw [h]
    simp only [vw, pyOf, pyL_txs, sw, shaped_lst hl, Bool.and_self, if_true, any_txs]
  unfold inA inAB
  rw [h]
  show (inB s (.str w) d).map D.bl = _
  rw [e1]
  rfl
end AG

set_option Elab.async false
set_option linter.all false
set_option maxRecDepth 100000
set_option exponentiation.threshold 4000
namespace AG
open PySem L2
def IsPickLet (cp : List D → List MO → R) : Prop := ∀ z : DS, z.Good → z.t + 1 < 2 ^ 1000 → cp [.hnd 1, .str LET] z.muz = .ok (.str (ltr (drw 26 z).1)) (drw 26 z).2.muz
abbrev nmC : M Bool := tstS (binS inA (varS 6) (varS 4))
abbrev nmB (cp : List D → List MO → R) : M Fl := setS 6 (iteS (tstS (binS ltD (callV lenD (consS (varS 6) nilS)) (cS (.int 6)))) (binS addD (slS (varS 6) noPartS (partS (cS (.int 5)))) (callF cp (consS (varS 0) (consS (varS 2) nilS)))) (slS (varS 6) (partS (cS (.int 1))) noPartS))
theorem lenD_nm (s : S) {w : Str} (h : Nm w) : lenD s [.str w] = some (.int w.length) := by
  show (if w.length ≤ LIM then some (D.int (w.length : Nat)) else none) = _
  rw [if_pos (Nat.le_trans h.few (by decide))]
theorem slD_nm (s : S) {w : Str} (h : w.length ≤ 6) (a b : Option Int) : slD s (.str w) a b = some (.str (cutS w a b)) := by
  show (if w.length ≤ LIM then some (D.str (cutS w a b)) else none) = _
  rw [if_pos (Nat.le_trans h (by decide))]
theorem addD_nm (s : S) {a b : Str} (h : a.length + b.length ≤ 20) : addD s (.str a) (.str b) = some (.str (a ++ b)) := by
  show (if a.length + b.length ≤ LIM then some (D.str (a ++ b)) else none) = _
  rw [if_pos (Nat.le_trans h (by decide))]
theorem ltr_len (v : Int) : (ltr v).length = 1 := rfl
theorem cut5_len (w : Str) : (cutS w none (some 5)).length ≤ 5 := by rw [len_tl, tl_cut5, List.length_take]; omega
section
variable {cp : List D → List MO → R} (hp : IsPickLet cp) {rhz : List SV} {fd : List Str} (h0 : rhz[0]? = some (.d (.hnd 1))) (h2 : rhz[2]? = some (.d (.str LET))) (h4 : rhz[4]? = some (.own (.ml (txs fd)))) (h6 : 6 < rhz.length)
include h0 h2 h4 h6
theorem nmC_eq {w : Str} (hw : Nm w) (hf : ∀ x ∈ fd, Nm x) (muz : List MO) : nmC ⟨rhz.set 6 (.d (.str w)), muz⟩ = .ok (decide (w ∈ fd)) ⟨rhz.set 6 (.d (.str w)), muz⟩ := by
  have e6 : (rhz.set 6 (.d (.str w)))[6]? = some (.d (.str w)) := List.getElem?_set_self h6
  have e4 : (rhz.set 6 (.d (.str w)))[4]? = some (.own (.ml (txs fd))) := by rw [List.getElem?_set_ne (by omega)]; exact h4
  have ev : vw ⟨rhz.set 6 (.d (.str w)), muz⟩ (.loc 4) = .lst (txs fd) := by unfold vw; simp only [e4]; rfl
  have ei := in_txs (d := .loc 4) (w := w) ev (fun x hx => (hf x hx).lay) hw.lay
  simp only [nmC, tstS_ap, binS_ap, varS_ap, e6, e4, kVar_d, kVar_own, O.bind_ok, kB1_ap, kB2_ap, ei, ofO_some, kTst_ap]
include hp
theorem nmB_eq {w : Str} (hw : Nm w) {z : DS} (hz : z.Good) (ht : z.t + 1 < 2 ^ 1000) : nmB cp ⟨rhz.set 6 (.d (.str w)), z.muz⟩ = .ok .nx ⟨rhz.set 6 (.d (.str (wstep longW appW chopW (w, z)).1)), (wstep longW appW chopW (w, z)).2.muz⟩ := by
  have e6 : (rhz.set 6 (.d (.str w)))[6]? = some (.d (.str w)) := List.getElem?_set_self h6
  have e0 : (rhz.set 6 (.d (.str w)))[0]? = some (.d (.hnd 1)) := by rw [List.getElem?_set_ne (by omega)]; exact h0
  have e2 : (rhz.set 6 (.d (.str w)))[2]? = some (.d (.str LET)) := by rw [List.getElem?_set_ne (by omega)]; exact h2
  have ec : kCall cp [.hnd 1, .str LET] ⟨rhz.set 6 (.d (.str w)), z.muz⟩ = .ok (.str (ltr (drw 26 z).1)) ⟨rhz.set 6 (.d (.str w)), (drw 26 z).2.muz⟩ := kCall_eq (hp z hz ht) rfl
  by_cases q : (w.length : Int) < 6
  · have el : longW w = false := by unfold longW; simp [q]
    have ea : ∀ s, addD s (.str (cutS w none (some 5))) (.str (ltr (drw 26 z).1)) = some (.str (appW w (drw 26 z).1)) := fun s => addD_nm s (by rw [ltr_len]; have := cut5_len w; omega)
    unfold wstep
    rw [el]
    simp only [nmB, setS_ap, iteS_ap, tstS_ap, binS_ap, callV_ap, consS_ap, varS_ap, e6, e0, e2, kVar_d, O.bind_ok, kCons_ap, nilS_ap, kCons2_ap, kCv_ap, lenD_nm _ hw, ofO_some, kB1_ap, cS_ap, kB2_ap, ltD_int, q, decide_true, kTst_ap, kIte_t, slS_ap, kSl_ap, noPartS_ap, kSl1_ap, partS_ap, kPart_ap, kSl2_ap, slD_nm _ hw.few, callF_ap, ec, ea, kSet_ap, sto_str, kSetB_t, List.set_set, Bool.false_eq_true, if_false]
  · have el : longW w = true := by unfold longW; simp [q]
    unfold wstep
    rw [el]
    simp only [nmB, setS_ap, iteS_ap, tstS_ap, binS_ap, callV_ap, consS_ap, varS_ap, e6, kVar_d, O.bind_ok, kCons_ap, nilS_ap, kCons2_ap, kCv_ap, lenD_nm _ hw, ofO_some, kB1_ap, cS_ap, kB2_ap, ltD_int, q, decide_false, kTst_ap, kIte_f, slS_ap, kSl_ap, noPartS_ap, kSl1_ap, partS_ap, kPart_ap, kSl2_ap, slD_nm _ hw.few, kSet_ap, sto_str, kSetB_t, List.set_set, if_true]
    rfl
theorem nm_iter (hf : ∀ x ∈ fd, Nm x) : ∀ (k : Nat) (x : Str × DS), Nm x.1 ∧ x.2.Good → (witer longW appW chopW k x).2.t + 1 < 2 ^ 1000 → (∀ i, i < k → (witer longW appW chopW i x).1 ∈ fd) → (witer longW appW chopW k x).1 ∉ fd →
    whS nmC (nmB cp) ⟨rhz.set 6 (.d (.str x.1)), x.2.muz⟩ = .ok .nx ⟨rhz.set 6 (.d (.str (witer longW appW chopW k x).1)), (witer longW appW chopW k x).2.muz⟩
  | 0, x, hx, ht, _, hn => by
    have e : decide (x.1 ∈ fd) = false := decide_eq_false hn
    rw [whS_unf, nmC_eq h0 h2 h4 h6 hx.1 hf, e]
    rfl
  | k + 1, x, hx, ht, hi, hn => by
    have e : decide (x.1 ∈ fd) = true := decide_eq_true (hi 0 (by omega))
    obtain ⟨g1, g2, g3, g4⟩ := wstep_good longW appW chopW lastW Nm app_ok chop_ok hx
    obtain ⟨_, _, g5⟩ := witer_good longW appW chopW lastW Nm app_ok chop_ok (k + 1) hx
    rw [whS_unf, nmC_eq h0 h2 h4 h6 hx.1 hf, e]
    simp only [O.bind_ok, if_true]
    have eb := nmB_eq hp h0 h2 h4 h6 hx.1 hx.2 (Int.lt_of_le_of_lt (Int.add_le_add_right g5 1) ht)
    rw [eb]
    simp only [O.bind_ok]
    exact nm_iter hf k _ g1 ht (fun i h => hi (i + 1) (by omega)) hn
theorem nm_while (hf : ∀ x ∈ fd, Nm x) (hl : fd.length < 26) {w : Str} (hw : Nm w) {z : DS} (hz : z.Good) (ht : z.t + 2 ^ 69 + 1 < 2 ^ 1000) :
    ∃ (w' : Str) (z' : DS), whS nmC (nmB cp) ⟨rhz.set 6 (.d (.str w)), z.muz⟩ = .ok .nx ⟨rhz.set 6 (.d (.str w')), z'.muz⟩ ∧ Nm w' ∧ w' ∉ fd ∧ z'.Good ∧ z'.c = z.c ∧ z'.t ≤ z.t + 2 ^ 69 := by
  obtain ⟨k, k1, k2, k3⟩ := ends longW appW chopW lastW Nm app_ok chop_ok (w, z) ⟨hw, hz⟩ fd hl
  obtain ⟨g1, g2, g3⟩ := witer_good longW appW chopW lastW Nm app_ok chop_ok k (x := (w, z)) ⟨hw, hz⟩
  exact ⟨_, _, nm_iter hp h0 h2 h4 h6 hf k (w, z) ⟨hw, hz⟩ (Int.lt_of_le_of_lt (Int.add_le_add_right k3 1) ht) k2 k1, g1.1, k1, g1.2, g2, k3⟩
end
end AG

set_option Elab.async false
set_option linter.all false
set_option maxRecDepth 100000
set_option exponentiation.threshold 4000
namespace AG
open PySem L2
def IsPick (cp : List D → List MO → R) : Prop := ∀ (z : DS) (l : List D), z.Good → z.t + 1 < 2 ^ 1000 → l ≠ [] → l.length < 2 ^ 62 → l.all sto = true → ∃ x ∈ l, cp [.hnd 1, .lst l] z.muz = .ok x (drw l.length z).2.muz
def Let (z0 : DS) (k : Nat) (acc : List D) (muz : List MO) : Prop := ∃ (z : DS) (ys : List Str), muz = z.muz ∧ z.Good ∧ z.c = z0.c ∧ z.t ≤ z0.t + k ∧ acc = ys.map .str ∧ ys.length = k ∧ ∀ y ∈ ys, ∃ c, 97 ≤ c ∧ c ≤ 122 ∧ y = sgn c
theorem let_step {cp : List D → List MO → R} (hp : IsPickLet cp) {z0 : DS} (ht : z0.t + 1000 < 2 ^ 1000) {k : Nat} (hk : k < 900) {acc : List D} {muz : List MO} (h : Let z0 k acc muz) : ∃ (y : D) (muz' : List MO), cp [.hnd 1, .str LET] muz = .ok y muz' ∧ sto y = true ∧ Let z0 (k + 1) (acc ++ [y]) muz' := by
  obtain ⟨z, ys, rfl, g, hc, h1, rfl, h2, h3⟩ := h
  obtain ⟨g1, g2, g3, g4, g5, g6⟩ := drw_good (n := 26) (by omega) g
  refine ⟨_, _, hp z g (by omega), rfl, (drw 26 z).2, ys ++ [ltr (drw 26 z).1], rfl, g1, g4.trans hc, by omega, by simp, by simp [h2], fun y hy => ?_⟩
  rcases List.mem_append.mp hy with hy | hy
  · exact h3 y hy
  · simp only [List.mem_singleton] at hy
    exact ⟨97 + (drw 26 z).1.toNat, by omega, by omega, hy⟩
end AG

set_option Elab.async false
set_option linter.all false
set_option maxRecDepth 100000
set_option exponentiation.threshold 4000
namespace AG
open PySem L2
theorem join_tl : ∀ ys : List Str, (Str.join (Str.ofString "") ys).cps.toList = (ys.map fun y => y.cps.toList).flatten
  | [] => rfl
  | [x] => by simp [Str.join]
  | x :: y :: r => by
    have e : Str.join (Str.ofString "") (x :: y :: r) = x ++ Str.ofString "" ++ Str.join (Str.ofString "") (y :: r) := rfl
    rw [e, tl_app, tl_app, join_tl (y :: r)]
    have e0 : (Str.ofString "").cps.toList = [] := by decide +kernel
    rw [e0]
    simp
theorem join_eq (a : Str) (ys : List Str) : Txt.join a ys = Str.join a ys := PySem.StrLaws.glued_eq_join a ys
theorem flat_len : ∀ ys : List Str, (∀ y ∈ ys, ∃ c, 97 ≤ c ∧ c ≤ 122 ∧ y = sgn c) → ((ys.map fun y => y.cps.toList).flatten.length = ys.length) ∧ (∀ c ∈ (ys.map fun y => y.cps.toList).flatten, 97 ≤ c ∧ c ≤ 122) ∧ (ys.map (·.length)).sum = ys.length
  | [], _ => by simp
  | y :: ys, h => by
    obtain ⟨h1, h2, h3⟩ := flat_len ys fun x hx => h x (List.mem_cons_of_mem _ hx)
    obtain ⟨c, c1, c2, rfl⟩ := h y List.mem_cons_self
    refine ⟨?_, ?_, ?_⟩
    · rw [List.map_cons, List.flatten_cons, List.length_append, h1]
      show 1 + ys.length = ys.length + 1
      omega
    · intro d hd
      rw [List.map_cons, List.flatten_cons] at hd
      rcases List.mem_append.mp hd with hd | hd
      · have : d = c := by simpa [sgn] using hd
        omega
      · exact h2 d hd
    · rw [List.map_cons, List.sum_cons, h3]
      show 1 + ys.length = ys.length + 1
      omega
theorem join_nm {ys : List Str} (h : ∀ y ∈ ys, ∃ c, 97 ≤ c ∧ c ≤ 122 ∧ y = sgn c) (l1 : 1 ≤ ys.length) (l6 : ys.length ≤ 6) : Nm (Txt.join (Str.ofString "") ys) := by
  obtain ⟨h1, h2, _⟩ := flat_len ys h
  refine ⟨?_, ?_, fun c hc => ?_⟩
  · rw [len_tl, join_eq, join_tl, h1]; exact l1
  · rw [len_tl, join_eq, join_tl, h1]; exact l6
  · rw [join_eq, join_tl] at hc
    exact h2 c hc
theorem strsOf_txs : ∀ ys : List Str, strsOf (ys.map D.str) = some ys
  | [] => rfl
  | y :: ys => by rw [List.map_cons, strsOf, strsOf_txs ys]; rfl
theorem joinD_txs (s : S) {ys : List Str} (h : ∀ y ∈ ys, ∃ c, 97 ≤ c ∧ c ≤ 122 ∧ y = sgn c) (l6 : ys.length ≤ 6) : joinD s (Str.ofString "") (.lst (ys.map .str)) = some (.str (Txt.join (Str.ofString "") ys)) := by
  obtain ⟨_, _, h3⟩ := flat_len ys h
  have e0 : (Str.ofString "").length = 0 := by decide +kernel
  unfold joinD
  simp only [vw, seqO, strsOf_txs, e0, h3, Nat.mul_zero, Nat.add_zero]
  rw [if_pos (Nat.le_trans l6 (by decide))]
end AG

set_option Elab.async false
set_option linter.all false
set_option maxRecDepth 100000
set_option exponentiation.threshold 4000
namespace AG
open PySem L2
theorem Ok.ex {α : Type} {o : O α} {Q : α → S → Prop} (h : Ok o Q) : ∃ a s, o = .ok a s ∧ Q a s := by
  cases o with
  | ok a s => exact ⟨a, s, rfl, h⟩
  | _ => exact h.elim
theorem OkR.ex {r : R} {Q : D → List MO → Prop} (h : OkR r Q) : ∃ d muz, r = .ok d muz ∧ Q d muz := by
  cases r with
  | ok a s => exact ⟨a, s, rfl, h⟩
  | _ => exact h.elim
def nearW : List Str := [Str.ofString "keeper", Str.ofString "hub", Str.ofString "good", Str.ofString "bad", Str.ofString "state", Str.ofString "start", Str.ofString "picka", Str.ofString "rab", Str.ofString "a", Str.ofString "b", Str.ofString "aa", Str.ofString "ab", Str.ofString "zzzzzz"]
theorem near_nm : ∀ x ∈ nearW, Nm x := by
  have h : nearW.all (fun x => decide (1 ≤ x.length) && decide (x.length ≤ 6) && x.cps.toList.all fun c => decide (97 ≤ c) && decide (c ≤ 122)) = true := by decide +kernel
  intro x hx
  have z := List.all_eq_true.mp h x hx
  simp only [Bool.and_eq_true, decide_eq_true_eq, List.all_eq_true] at z
  exact ⟨z.1.1, z.1.2, z.2⟩
abbrev nmL (cp : List D → List MO → R) : M MO := lcF (itRng (callF cp (consS (varS 0) (consS (frzS (lstF (consS (cS (.int 1)) (consS (cS (.int 1)) (consS (cS (.int 2)) (consS (cS (.int 6)) nilS)))))) nilS)))) (tgN 7) yesS (callF cp (consS (varS 0) (consS (varS 2) nilS))) [7]
abbrev nmJ (cp : List D → List MO → R) : M Fl := setS 6 (m1S joinD (cS (.str "")) (frzS (nmL cp)))
noncomputable abbrev nmF (cd cp : List D → List MO → R) : M Fl := (seqS (setS 6 (callF cp (consS (varS 0) (consS (varS 3) nilS))))
    (seqS (ifS (tstS (binS gtD (callF cd (consS (varS 0) (consS (cS (.int 3)) nilS))) (cS (.int 0)))) (nmJ cp) nxS)
    (seqS (whS nmC (nmB cp))
    (appS (varS 4) (varS 6)))))
@[simp] theorem yesS_ap (s : S) : yesS s = .ok true s := Eq.trans rfl rfl
theorem kLst_4 (s : S) : kLst [.int 1, .int 1, .int 2, .int 6] s = .ok (.ml [.int 1, .int 1, .int 2, .int 6]) s := kLst_ap _ _ rfl (by decide : 4 ≤ LIM)
theorem let_lc {cp : List D → List MO → R} (hp : IsPickLet cp) {rhz : List SV} (h0 : rhz[0]? = some (.d (.hnd 1))) (h2 : rhz[2]? = some (.d (.str LET))) (h7 : 7 < rhz.length) (ho : isOwn (rhz.getD 7 .un) = false) {z : DS} (hz : z.Good) (ht : z.t + 1000 < 2 ^ 1000) (n : Nat) (n6 : n ≤ 6) :
    ∃ (l : List D) (muz' : List MO), kLc (tgN 7) yesS (callF cp (consS (varS 0) (consS (varS 2) nilS))) [7] ((List.range n).map fun i => .int (i : Nat)) ⟨rhz, z.muz⟩ = .ok (.ml l) ⟨rhz, muz'⟩ ∧ Let z n l muz' := by
  have hl : Ok (kLc (tgN 7) yesS (callF cp (consS (varS 0) (consS (varS 2) nilS))) [7] ((List.range n).map fun i => .int (i : Nat)) ⟨rhz, z.muz⟩) fun m s => ∃ l muz', m = .ml l ∧ s = ⟨rhz, muz'⟩ ∧ Let z n l muz' := by
    refine kLc_ok (Let z) h7 ho ⟨z, [], rfl, hz, rfl, by omega, rfl, rfl, by simp⟩ ?_ ?_
    · intro k d acc muz hd hJ
      have hk : k < n := by
        have := (List.getElem?_eq_some_iff.mp hd).1
        simpa using this
      obtain ⟨y, muz', e1, e2, e3⟩ := let_step hp (z0 := z) ht (by omega) hJ
      have e4 : kCall cp [.hnd 1, .str LET] ⟨rhz.set 7 (.d d), muz⟩ = .ok y ⟨rhz.set 7 (.d d), muz'⟩ := kCall_eq e1 rfl
      have k0 : (rhz.set 7 (.d d))[0]? = some (.d (.hnd 1)) := by rw [List.getElem?_set_ne (by omega)]; exact h0
      have k2 : (rhz.set 7 (.d d))[2]? = some (.d (.str LET)) := by rw [List.getElem?_set_ne (by omega)]; exact h2
      refine ⟨rfl, ?_⟩
      rw [if_pos rfl]
      obtain ⟨_, ys, _, _, _, _, ea, el, _⟩ := hJ
      have elen : acc.length < LIM := by
        rw [ea, List.length_map, el]
        exact Nat.lt_of_lt_of_le (show k < 10 by omega) (by decide)
      simp only [callF_ap, consS_ap, varS_ap, k0, k2, kVar_d, O.bind_ok, kCons_ap, nilS_ap, kCons2_ap, e4, Ok_ok]
      exact ⟨trivial, e2, elen, e3⟩
    · intro l muz' h
      rw [List.length_map, List.length_range] at h
      exact ⟨l, muz', rfl, rfl, h⟩
  obtain ⟨m, s, e1, l, muz', rfl, rfl, h⟩ := hl.ex
  exact ⟨l, muz', e1, h⟩
end AG

set_option Elab.async false
set_option linter.all false
set_option maxRecDepth 100000
set_option exponentiation.threshold 4000
namespace AG
open PySem L2
def UNIT : Int := 2 ^ 70
def TOP : Int := 2 ^ 999
structure Bd (n : Nat) (z : DS) : Prop where
  good : z.Good
  t : z.t + n * UNIT < TOP
theorem unit_pos : (0 : Int) < UNIT := by unfold UNIT; decide
theorem unit_big : (2 : Int) ^ 69 + 2000 < UNIT := by unfold UNIT; decide
theorem top_big : TOP + 5000 < 2 ^ 1000 := by
  have h : decide (TOP + 5000 < 2 ^ 1000) = true := by unfold TOP; decide +kernel
  exact of_decide_eq_true h
theorem top_unit : (2 ^ 70 : Int) * UNIT < TOP := by
  have h : decide ((2 ^ 70 : Int) * UNIT < TOP) = true := by unfold TOP UNIT; decide +kernel
  exact of_decide_eq_true h
theorem Bd.le {n m : Nat} {z : DS} (h : Bd n z) (l : m ≤ n) : Bd m z := ⟨h.good, by
  have := h.t
  have u := unit_pos
  have : (m : Int) * UNIT ≤ n * UNIT := Int.mul_le_mul_of_nonneg_right (by omega) (by omega)
  omega⟩
theorem Bd.step {n : Nat} {z z' : DS} (h : Bd (n + 1) z) (g : z'.Good) (t : z'.t ≤ z.t + (2 ^ 69 + 2000)) : Bd n z' := ⟨g, by
  have h1 := h.t
  have u := unit_big
  have e : ((n + 1 : Nat) : Int) * UNIT = n * UNIT + UNIT := by rw [Int.natCast_add, Int.add_mul]; simp
  rw [e] at h1
  generalize (2 : Int) ^ 69 = P at *
  omega⟩
theorem Bd.room {n : Nat} {z : DS} (h : Bd (n + 1) z) : z.t + (2 ^ 69 + 2000) < 2 ^ 1000 := by
  have h1 := h.t
  have u := unit_big
  have tb := top_big
  have p := unit_pos
  have e : ((n + 1 : Nat) : Int) * UNIT = n * UNIT + UNIT := by rw [Int.natCast_add, Int.add_mul]; simp
  have n0 : 0 ≤ (n : Int) * UNIT := Int.mul_nonneg (by omega) (by omega)
  rw [e] at h1
  generalize (2 : Int) ^ 69 = P at *
  generalize (2 : Int) ^ 1000 = Q at *
  omega
theorem Bd.one {n : Nat} {z : DS} (h : Bd (n + 1) z) : z.t + 1 < 2 ^ 1000 := by
  have := h.room
  have p : (0 : Int) < 2 ^ 69 := by decide
  generalize (2 : Int) ^ 69 = P at *
  generalize (2 : Int) ^ 1000 = Q at *
  omega
section
variable {cd cp : List D → List MO → R}
theorem draw_call (hd : IsDraw cd) {n : Nat} {z : DS} (h : Bd (n + 1) z) {m : Int} (m0 : 0 < m) (m1 : m < 2 ^ 62) :
    ∃ (v : Int) (z' : DS), (∀ rhz, kCall cd [.hnd 1, .int m] ⟨rhz, z.muz⟩ = .ok (.int v) ⟨rhz, z'.muz⟩) ∧ 0 ≤ v ∧ v < m ∧ Bd n z' := by
  obtain ⟨g1, g2, g3, g4, g5, g6⟩ := drw_good m0 h.good
  refine ⟨_, _, fun rhz => kCall_draw hd z m h.good m0 m1 h.one rhz, g2, g3, h.step g1 ?_⟩
  have p : (0 : Int) < 2 ^ 69 := by decide
  generalize (2 : Int) ^ 69 = P at *
  omega
theorem pick_call (hp : IsPick cp) {n : Nat} {z : DS} (h : Bd (n + 1) z) {l : List D} (l0 : l ≠ []) (l1 : l.length < 2 ^ 62) (hs : l.all sto = true) :
    ∃ x ∈ l, ∃ (z' : DS), (∀ rhz, kCall cp [.hnd 1, .lst l] ⟨rhz, z.muz⟩ = .ok x ⟨rhz, z'.muz⟩) ∧ Bd n z' := by
  have n0 : 0 < l.length := List.length_pos_iff.mpr l0
  obtain ⟨x, hx, e⟩ := hp z l h.good h.one l0 l1 hs
  obtain ⟨g1, g2, g3, g4, g5, g6⟩ := drw_good (n := l.length) (z := z) (by omega) h.good
  refine ⟨x, hx, _, fun rhz => kCall_eq e rfl, h.step g1 ?_⟩
  have p : (0 : Int) < 2 ^ 69 := by decide
  generalize (2 : Int) ^ 69 = P at *
  omega
theorem pick_txs (hp : IsPick cp) {n : Nat} {z : DS} (h : Bd (n + 1) z) {l : List Str} (l0 : l ≠ []) (l1 : l.length < 2 ^ 62) :
    ∃ x ∈ l, ∃ (z' : DS), (∀ rhz, kCall cp [.hnd 1, .lst (txs l)] ⟨rhz, z.muz⟩ = .ok (.str x) ⟨rhz, z'.muz⟩) ∧ Bd n z' := by
  obtain ⟨x, hx, z', e, b⟩ := pick_call hp h (l := txs l) (by simpa [txs] using l0) (by simpa using l1) (txs_sto l)
  unfold txs at hx
  obtain ⟨y, hy, rfl⟩ := List.mem_map.mp hx
  exact ⟨y, hy, z', e, b⟩
theorem lc_draws {e : M D} {rhz : List SV} {i : Nat} (hi : i < rhz.length) (ho : isOwn (rhz.getD i .un) = false) (P : D → Prop) (c : Nat)
    (he : ∀ (d : D) (n : Nat) (z : DS), Bd (n + c) z → ∃ y z', e ⟨rhz.set i (.d d), z.muz⟩ = .ok y ⟨rhz.set i (.d d), z'.muz⟩ ∧ sto y = true ∧ P y ∧ Bd n z') {ds : List D} (hl : ds.length ≤ LIM) {n : Nat} {z : DS} (h : Bd (n + c * ds.length) z) :
    ∃ l z', kLc (tgN i) yesS e [i] ds ⟨rhz, z.muz⟩ = .ok (.ml l) ⟨rhz, z'.muz⟩ ∧ l.length = ds.length ∧ (∀ y ∈ l, P y ∧ sto y = true) ∧ Bd n z' := by
  have w : Ok (kLc (tgN i) yesS e [i] ds ⟨rhz, z.muz⟩) fun m s => ∃ l z', m = .ml l ∧ s = ⟨rhz, z'.muz⟩ ∧ l.length = ds.length ∧ (∀ y ∈ l, P y ∧ sto y = true) ∧ Bd n z' := by
    refine kLc_ok (fun k acc muz => ∃ z', muz = z'.muz ∧ k ≤ ds.length ∧ acc.length = k ∧ (∀ y ∈ acc, P y ∧ sto y = true) ∧ Bd (n + c * (ds.length - k)) z') hi ho ⟨z, rfl, by omega, rfl, by simp, h⟩ ?_ ?_
    · rintro k d acc muz hd ⟨z', rfl, hk, ha, hy, hB⟩
      have hk' : k < ds.length := (List.getElem?_eq_some_iff.mp hd).1
      have e1 : n + c * (ds.length - k) = n + c * (ds.length - (k + 1)) + c := by
        have : ds.length - k = (ds.length - (k + 1)) + 1 := by omega
        rw [this, Nat.mul_add, Nat.mul_one, Nat.add_assoc]
      rw [e1] at hB
      obtain ⟨y, z2, e2, s2, p2, b2⟩ := he d _ z' hB
      refine ⟨rfl, ?_⟩
      rw [if_pos rfl, e2]
      refine ⟨rfl, s2, by omega, z2, rfl, by omega, by simp [ha], ?_, b2⟩
      intro x hx
      rcases List.mem_append.mp hx with hx | hx
      · exact hy x hx
      · simp only [List.mem_singleton] at hx
        subst hx
        exact ⟨p2, s2⟩
    · rintro l muz' ⟨z', rfl, _, ha, hy, hB⟩
      exact ⟨l, z', rfl, rfl, ha, hy, by simpa using hB⟩
  obtain ⟨m, s, e1, l, z', rfl, rfl, h1, h2, h3⟩ := w.ex
  exact ⟨l, z', e1, h1, h2, h3⟩
theorem map_erase {α β : Type} (f : α → β) : ∀ (l : List α) (k : Nat), (l.map f).eraseIdx k = (l.eraseIdx k).map f
  | [], _ => rfl
  | _ :: _, 0 => rfl
  | x :: l, k + 1 => by rw [List.map_cons, List.eraseIdx_cons_succ, List.eraseIdx_cons_succ, List.map_cons, map_erase f l k]
theorem erase_perm {α : Type} (l : List α) (k : Nat) (h : k < l.length) : (l[k] :: l.eraseIdx k).Perm l := by
  rw [List.eraseIdx_eq_take_drop_succ]
  refine List.perm_middle.symm.trans ?_
  rw [List.getElem_cons_drop, List.take_append_drop]
theorem eqB_lsts {s : S} {x y : D} {a b : List Str} (hx : vw s x = .lst (txs a)) (hy : vw s y = .lst (txs b)) (ha : Lay a) (hb : Lay b) : eqB s x y = some (decide (a = b)) := by
  unfold eqB
  rw [hx, hy]
  simp only [pyOf_lst (pyL_txs a), pyOf_lst (pyL_txs b), shaped_lst ha, shaped_lst hb, Bool.and_self, if_true, PyData.eqv, eqvAll_txs]
abbrev mxC : M Bool := tstS (binS neD (varS 2) (frzS (lstF nilS)))
abbrev mxB (cd : List D → List MO → R) : M Fl := appS (varS 3) (popAtS (varS 2) (callF cd (consS (varS 0) (consS (callV lenD (consS (varS 2) nilS)) nilS))))
noncomputable abbrev mixedS (cd : List D → List MO → R) : M Fl := (seqS (parA [2, 3] [.inr (callN listN (consS (varS 1) nilS)), .inr (lstF nilS)])
    (seqS (whS mxC (mxB cd))
    (retS (varS 3))))
theorem mx_while (hd : IsDraw cd) (a1 : SV) : ∀ (k : Nat) (left acc : List Str) (n : Nat) (z : DS), left.length = k → Lay left → k + acc.length ≤ 1000 → Bd (n + k) z →
    ∃ out z', whS mxC (mxB cd) ⟨[.d (.hnd 1), a1, .own (.ml (txs left)), .own (.ml (txs acc))], z.muz⟩ = .ok .nx ⟨[.d (.hnd 1), a1, .own (.ml (txs [])), .own (.ml (txs (acc ++ out)))], z'.muz⟩ ∧ out.Perm left ∧ Bd n z'
  | 0, left, acc, n, z, hk, hl, hm, hB => by
    have e0 : left = [] := List.eq_nil_of_length_eq_zero hk
    subst e0
    refine ⟨[], z, ?_, List.Perm.refl _, hB⟩
    have ec : mxC ⟨[.d (.hnd 1), a1, .own (.ml (txs [])), .own (.ml (txs acc))], z.muz⟩ = .ok false ⟨[.d (.hnd 1), a1, .own (.ml (txs [])), .own (.ml (txs acc))], z.muz⟩ := by
      have := eqB_lsts (s := ⟨[.d (.hnd 1), a1, .own (.ml (txs [])), .own (.ml (txs acc))], z.muz⟩) (x := .loc 2) (y := .lst []) (a := []) (b := []) rfl rfl hl hl
      simp [mxC, this]
    rw [whS_unf, ec]
    simp
  | k + 1, left, acc, n, z, hk, hl, hm, hB => by
    obtain ⟨v, z1, e1, v0, v1, hB1⟩ := draw_call hd (m := left.length) (n := n + k) hB (by omega) (by omega)
    have vl : v.toNat < left.length := by omega
    have ev : ((v.toNat : Nat) : Int) = v := Int.toNat_of_nonneg v0
    have ec : mxC ⟨[.d (.hnd 1), a1, .own (.ml (txs left)), .own (.ml (txs acc))], z.muz⟩ = .ok true ⟨[.d (.hnd 1), a1, .own (.ml (txs left)), .own (.ml (txs acc))], z.muz⟩ := by
      have := eqB_lsts (s := ⟨[.d (.hnd 1), a1, .own (.ml (txs left)), .own (.ml (txs acc))], z.muz⟩) (x := .loc 2) (y := .lst []) (a := left) (b := []) rfl rfl hl (by simp [Lay])
      have hne : left ≠ [] := fun q => by rw [q] at hk; cases hk
      simp [mxC, this, hne]
    have lenE : ∀ s : S, s.rhz[2]? = some (.own (.ml (txs left))) → lenD s [.loc 2] = some (.int left.length) := fun s hs => by
      unfold lenD vw
      simp only [hs, frzD, txs_length]
    have p1 := kPopAt1_own (i := 2) (rhz := [.d (.hnd 1), a1, .own (.ml (txs left)), .own (.ml (txs acc))]) (muz := z1.muz) (l := txs left) (k := v.toNat) (z := .str left[v.toNat]) rfl (by unfold txs; rw [List.getElem?_map, List.getElem?_eq_getElem vl]; rfl) (by omega)
    rw [ev] at p1
    have et : (txs left).eraseIdx v.toNat = txs (left.eraseIdx v.toNat) := map_erase _ _ _
    rw [et] at p1
    have q1 := kPopAt_own (g := callF cd (consS (varS 0) (consS (callV lenD (consS (varS 2) nilS)) nilS))) (i := 2) (rhz := [.d (.hnd 1), a1, .own (.ml (txs left)), .own (.ml (txs acc))]) (muz := z.muz) (l := txs left) rfl
    have a2 := kApp1_own (i := 3) (rhz := [.d (.hnd 1), a1, .own (.ml (txs (left.eraseIdx v.toNat))), .own (.ml (txs acc))]) (muz := z1.muz) (l := txs acc) (y := .str left[v.toNat]) rfl rfl (by rw [txs_length]; exact Nat.lt_of_le_of_lt (show acc.length ≤ 1000 by omega) (by decide))
    have a1' := kApp_own (g := popAtS (varS 2) (callF cd (consS (varS 0) (consS (callV lenD (consS (varS 2) nilS)) nilS)))) (i := 3) (rhz := [.d (.hnd 1), a1, .own (.ml (txs left)), .own (.ml (txs acc))]) (muz := z.muz) (l := txs acc) rfl
    have at1 : txs acc ++ [D.str left[v.toNat]] = txs (acc ++ [left[v.toNat]]) := by simp [txs]
    rw [at1] at a2
    have eb : mxB cd ⟨[.d (.hnd 1), a1, .own (.ml (txs left)), .own (.ml (txs acc))], z.muz⟩ = .ok .nx ⟨[.d (.hnd 1), a1, .own (.ml (txs (left.eraseIdx v.toNat))), .own (.ml (txs (acc ++ [left[v.toNat]])))], z1.muz⟩ := by
      simp only [mxB, appS_ap, varS_ap, List.getElem?_cons_zero, List.getElem?_cons_succ, kVar_own, kVar_d, O.bind_ok, a1', popAtS_ap, q1, callF_ap, consS_ap, kCons_ap, callV_ap, nilS_ap, kCons2_ap, kCv_ap, lenE, ofO_some, e1, p1, List.set_cons_succ, List.set_cons_zero, a2]
    have len1 : (left.eraseIdx v.toNat).length = k := by rw [List.length_eraseIdx_of_lt vl]; omega
    obtain ⟨out, z2, e2, pm, hB2⟩ := mx_while hd a1 k (left.eraseIdx v.toNat) (acc ++ [left[v.toNat]]) n z1 len1 (fun x hx => hl x (List.mem_of_mem_eraseIdx hx)) (by simp; omega) hB1
    refine ⟨left[v.toNat] :: out, z2, ?_, ?_, hB2⟩
    · rw [whS_unf, ec]
      simp only [O.bind_ok, if_true, eb]
      rw [e2]
      simp
    · have := erase_perm left v.toNat vl
      exact (List.Perm.cons _ pm).trans this
def IsMixed (cm : List D → List MO → R) : Prop := ∀ (n : Nat) (z : DS) (l : List Str), Lay l → l.length ≤ 1000 → Bd (n + l.length) z → ∃ out z', cm [.hnd 1, .lst (txs l)] z.muz = .ok (.lst (txs out)) z'.muz ∧ out.Perm l ∧ Bd n z'
theorem mixed_ok (hd : IsDraw cd) : IsMixed (runD 4 2 (mixedS cd)) := by
  intro n z l hl hm hB
  obtain ⟨out, z', e, pm, hB'⟩ := mx_while hd (.d (.lst (txs l))) l.length l [] n z rfl hl (by simpa using hm) hB
  refine ⟨out, z', ?_, pm, hB'⟩
  refine runD_eq (s := ⟨[.d (.hnd 1), .d (.lst (txs l)), .own (.ml (txs [])), .un], z'.muz⟩) rfl ?_
  have el : listN ⟨[.d (.hnd 1), .d (.lst (txs l)), .un, .un], z.muz⟩ [.lst (txs l)] = some (.ml (txs l)) := rfl
  have e' : whS mxC (mxB cd) ⟨[.d (.hnd 1), .d (.lst (txs l)), .own (.ml (txs l)), .own (.ml [])], z.muz⟩ = .ok .nx ⟨[.d (.hnd 1), .d (.lst (txs l)), .own (.ml (txs [])), .own (.ml (txs out))], z'.muz⟩ := e
  show mixedS cd ⟨[.d (.hnd 1), .d (.lst (txs l)), .un, .un], z.muz⟩ = _
  simp only [mixedS, seqS_ap, parA_ap, parS_inr, parS_nil, callN_ap, consS_ap, varS_ap, List.getElem?_cons_zero, List.getElem?_cons_succ, kVar_d, O.bind_ok, kCons_ap, nilS_ap, kCons2_ap, kCn_ap, el, ofN_some, kPm_ap, lstF_ap, kLst_0, kPc_ap, kPar_ap, putP_m, putP_0, List.set_cons_succ, List.set_cons_zero, kSeq_nx, e', retS_ap, kVar_own, kRet_loc, kRet1_ap, frzD]
end
end AG

set_option Elab.async false
set_option linter.all false
set_option maxRecDepth 100000
set_option exponentiation.threshold 4000
namespace AG
open PySem L2
section
variable {cd cp : List D → List MO → R}
theorem near_len : nearW ≠ [] ∧ nearW.length < 2 ^ 62 := ⟨by unfold nearW; simp, by have : nearW.length = 13 := rfl; rw [this]; omega⟩
theorem near_lst (s : S) : kLst [.str "keeper", .str "hub", .str "good", .str "bad", .str "state", .str "start", .str "picka", .str "rab", .str "a", .str "b", .str "aa", .str "ab", .str "zzzzzz"] s = .ok (.ml (txs nearW)) s := by
  rw [kLst_ap _ _ (by simp) (by simp [LIM])]
  simp only [nearW, txs, List.map_cons, List.map_nil]
theorem nm_word (hd : IsDraw cd) (hp : IsPick cp) (hq : IsPickLet cp) (m i : D) (fdv : SV) {w0 : Str} (hw : Nm w0) {n : Nat} {z : DS} (hB : Bd (n + 3) z) :
    ∃ w z', ifS (tstS (binS gtD (callF cd (consS (varS 0) (consS (cS (.int 3)) nilS))) (cS (.int 0)))) (nmJ cp) nxS ⟨[.d (.hnd 1), .d m, .d (.str LET), .d (.lst (txs nearW)), fdv, .d i, .d (.str w0), .un], z.muz⟩ = .ok .nx ⟨[.d (.hnd 1), .d m, .d (.str LET), .d (.lst (txs nearW)), fdv, .d i, .d (.str w), .un], z'.muz⟩ ∧ Nm w ∧ Bd n z' := by
  obtain ⟨v, z2, e2, v0, v1, B2⟩ := draw_call hd (m := 3) (n := n + 2) hB (by omega) (by omega)
  by_cases hv : 0 < v
  · obtain ⟨x, hx, z3, e3, B3⟩ := pick_call hp (n := n + 1) B2 (l := [.int 1, .int 1, .int 2, .int 6]) (by simp) (by simp) rfl
    have hk : ∃ k : Nat, x = .int k ∧ 1 ≤ k ∧ k ≤ 6 := by
      simp only [List.mem_cons, List.not_mem_nil, or_false] at hx
      rcases hx with rfl | rfl | rfl | rfl
      · exact ⟨1, rfl, by omega, by omega⟩
      · exact ⟨1, rfl, by omega, by omega⟩
      · exact ⟨2, rfl, by omega, by omega⟩
      · exact ⟨6, rfl, by omega, by omega⟩
    obtain ⟨k, rfl, k1, k6⟩ := hk
    have hr := B3.room
    obtain ⟨l, muz', e4, z4, ys, rfl, g4, _, t4, rfl, yl, yc⟩ := let_lc hq (rhz := [.d (.hnd 1), .d m, .d (.str LET), .d (.lst (txs nearW)), fdv, .d i, .d (.str w0), .un]) rfl rfl (by simp) rfl B3.good (by
      have p : (0 : Int) < 2 ^ 69 := by decide
      generalize (2 : Int) ^ 69 = P at *
      generalize (2 : Int) ^ 1000 = Q at *
      omega) k k6
    refine ⟨Txt.join (Str.ofString "") ys, z4, ?_, join_nm yc (by omega) (by omega), B3.step g4 (by
      have p : (0 : Int) < 2 ^ 69 := by decide
      generalize (2 : Int) ^ 69 = P at *
      omega)⟩
    have ek : ∀ s, kRng (.int k) s = .ok ((List.range k).map fun i => .int (i : Nat)) s := fun s => kRng_ap k s (by omega)
    have ej : ∀ s, joinD s (Str.ofString "") (.lst (ys.map .str)) = some (.str (Txt.join (Str.ofString "") ys)) := fun s => joinD_txs s yc (by omega)
    have et : (tstS (binS gtD (callF cd (consS (varS 0) (consS (cS (.int 3)) nilS))) (cS (.int 0)))) ⟨[.d (.hnd 1), .d m, .d (.str LET), .d (.lst (txs nearW)), fdv, .d i, .d (.str w0), .un], z.muz⟩ = .ok true ⟨[.d (.hnd 1), .d m, .d (.str LET), .d (.lst (txs nearW)), fdv, .d i, .d (.str w0), .un], z2.muz⟩ := by
      simp only [tstS_ap, binS_ap, callF_ap, consS_ap, varS_ap, List.getElem?_cons_zero, List.getElem?_cons_succ, kVar_d, O.bind_ok, kCons_ap, cS_ap, nilS_ap, kCons2_ap, e2, kB1_ap, kB2_ap, gtD_int, hv, decide_true, ofO_some, kTst_ap]
    have er : itRng (callF cp (consS (varS 0) (consS (frzS (lstF (consS (cS (.int 1)) (consS (cS (.int 1)) (consS (cS (.int 2)) (consS (cS (.int 6)) nilS)))))) nilS))) ⟨[.d (.hnd 1), .d m, .d (.str LET), .d (.lst (txs nearW)), fdv, .d i, .d (.str w0), .un], z2.muz⟩ = .ok ((List.range k).map fun i => .int (i : Nat)) ⟨[.d (.hnd 1), .d m, .d (.str LET), .d (.lst (txs nearW)), fdv, .d i, .d (.str w0), .un], z3.muz⟩ := by
      simp only [callF_ap, consS_ap, varS_ap, List.getElem?_cons_zero, List.getElem?_cons_succ, kVar_d, O.bind_ok, kCons_ap, cS_ap, nilS_ap, kCons2_ap, frzS_ap, itRng_ap, lstF_ap, kLst_4, kFrz_ap, frzD, e3, ek]
    rw [ifS_ap, et]
    simp only [O.bind_ok, kIte_t, nmJ, setS_ap, m1S_ap, cS_ap, kM1_ap, frzS_ap, lcF_ap, er, e4, kFrz_ap, frzD, kM1b_ap, ej, ofO_some, kSet_ap, sto_str, kSetB_t, List.set_cons_succ, List.set_cons_zero]
  · refine ⟨w0, z2, ?_, hw, B2.le (by omega)⟩
    simp only [ifS_ap, tstS_ap, binS_ap, callF_ap, consS_ap, varS_ap, List.getElem?_cons_zero, List.getElem?_cons_succ, kVar_d, O.bind_ok, kCons_ap, cS_ap, nilS_ap, kCons2_ap, e2, kB1_ap, kB2_ap, gtD_int, hv, decide_false, ofO_some, kTst_ap, kIte_f, nxS_ap]
theorem nm_turn (hd : IsDraw cd) (hp : IsPick cp) (hq : IsPickLet cp) (m i : D) (s6 : SV) {fd : List Str} (hf : ∀ x ∈ fd, Nm x) (hl : fd.length < 26) {n : Nat} {z : DS} (hB : Bd (n + 5) z) :
    ∃ w z', nmF cd cp ⟨[.d (.hnd 1), .d m, .d (.str LET), .d (.lst (txs nearW)), .own (.ml (txs fd)), .d i, s6, .un], z.muz⟩ = .ok .nx ⟨[.d (.hnd 1), .d m, .d (.str LET), .d (.lst (txs nearW)), .own (.ml (txs (fd ++ [w]))), .d i, .d (.str w), .un], z'.muz⟩ ∧ Nm w ∧ w ∉ fd ∧ Bd n z' := by
  obtain ⟨w0, hw0, z1, e1, B1⟩ := pick_txs hp (n := n + 4) hB near_len.1 near_len.2
  obtain ⟨w1, z4, e2, hw1, B4⟩ := nm_word hd hp hq m i (.own (.ml (txs fd))) (near_nm w0 hw0) (n := n + 1) B1
  have hr := B4.room
  obtain ⟨w, z5, e5, hw, wn, g5, _, t5⟩ := nm_while hq (rhz := [.d (.hnd 1), .d m, .d (.str LET), .d (.lst (txs nearW)), .own (.ml (txs fd)), .d i, .d (.str w1), .un]) rfl rfl rfl (by simp) hf hl hw1 B4.good (by
      generalize (2 : Int) ^ 69 = P at *
      generalize (2 : Int) ^ 1000 = Q at *
      omega)
  refine ⟨w, z5, ?_, hw, wn, B4.step g5 (by
      generalize (2 : Int) ^ 69 = P at *
      omega)⟩
  have e5' : whS nmC (nmB cp) ⟨[.d (.hnd 1), .d m, .d (.str LET), .d (.lst (txs nearW)), .own (.ml (txs fd)), .d i, .d (.str w1), .un], z4.muz⟩ = .ok .nx ⟨[.d (.hnd 1), .d m, .d (.str LET), .d (.lst (txs nearW)), .own (.ml (txs fd)), .d i, .d (.str w), .un], z5.muz⟩ := e5
  have a1 := kApp_own (g := varS 6) (i := 4) (rhz := [.d (.hnd 1), .d m, .d (.str LET), .d (.lst (txs nearW)), .own (.ml (txs fd)), .d i, .d (.str w), .un]) (muz := z5.muz) (l := txs fd) rfl
  have a2 := kApp1_own (i := 4) (rhz := [.d (.hnd 1), .d m, .d (.str LET), .d (.lst (txs nearW)), .own (.ml (txs fd)), .d i, .d (.str w), .un]) (muz := z5.muz) (l := txs fd) (y := .str w) rfl rfl (by rw [txs_length]; exact Nat.lt_of_lt_of_le hl (by decide))
  have at1 : txs fd ++ [D.str w] = txs (fd ++ [w]) := by simp [txs]
  rw [at1] at a2
  simp only [nmF, seqS_ap, setS_ap, callF_ap, consS_ap, varS_ap, List.getElem?_cons_zero, List.getElem?_cons_succ, kVar_d, kVar_own, O.bind_ok, kCons_ap, nilS_ap, kCons2_ap, e1, kSet_ap, sto_str, kSetB_t, List.set_cons_succ, List.set_cons_zero, kSeq_nx]
  have e2' := e2
  rw [e2']
  simp only [O.bind_ok, kSeq_nx, seqS_ap]
  rw [e5']
  simp only [O.bind_ok, kSeq_nx, appS_ap, varS_ap, List.getElem?_cons_zero, List.getElem?_cons_succ, kVar_own, kVar_d, a1, a2, List.set_cons_succ, List.set_cons_zero]
noncomputable abbrev namesS (cd cp : List D → List MO → R) : M Fl := (seqS (setS 2 (cS (.str "abcdefghijklmnopqrstuvwxyz")))
    (seqS (setS 3 (frzS (lstF (consS (cS (.str "keeper")) (consS (cS (.str "hub")) (consS (cS (.str "good")) (consS (cS (.str "bad")) (consS (cS (.str "state")) (consS (cS (.str "start")) (consS (cS (.str "picka")) (consS (cS (.str "rab")) (consS (cS (.str "a")) (consS (cS (.str "b")) (consS (cS (.str "aa")) (consS (cS (.str "ab")) (consS (cS (.str "zzzzzz")) nilS))))))))))))))))
    (seqS (ownS 4 (lstF nilS))
    (seqS (forS (itRng (varS 1)) (tgN 5) (nmF cd cp))
    (retS (varS 4))))))
def IsNames (cn : List D → List MO → R) : Prop := ∀ (n : Nat) (z : DS) (m : Nat), m ≤ 25 → Bd (n + 5 * m) z → ∃ out z', cn [.hnd 1, .int m] z.muz = .ok (.lst (txs out)) z'.muz ∧ out.length = m ∧ (∀ x ∈ out, Nm x) ∧ out.Nodup ∧ Bd n z'
theorem names_ok (hd : IsDraw cd) (hp : IsPick cp) (hq : IsPickLet cp) : IsNames (runD 8 2 (namesS cd cp)) := by
  intro n z m hm hB
  have w : Ok (forL (tgN 5) (nmF cd cp) ((List.range m).map fun i => .int (i : Nat)) ⟨[.d (.hnd 1), .d (.int m), .d (.str LET), .d (.lst (txs nearW)), .own (.ml []), .un, .un, .un], z.muz⟩) fun fl s => fl = .nx ∧ ∃ fd s5 s6 z', s = ⟨[.d (.hnd 1), .d (.int m), .d (.str LET), .d (.lst (txs nearW)), .own (.ml (txs fd)), s5, s6, .un], z'.muz⟩ ∧ fd.length = m ∧ (∀ x ∈ fd, Nm x) ∧ fd.Nodup ∧ Bd n z' := by
    refine forL_inv _ (fun k s => ∃ fd s5 s6 z', s = ⟨[.d (.hnd 1), .d (.int m), .d (.str LET), .d (.lst (txs nearW)), .own (.ml (txs fd)), s5, s6, .un], z'.muz⟩ ∧ fd.length = k ∧ (∀ x ∈ fd, Nm x) ∧ fd.Nodup ∧ Bd (n + 5 * (m - k)) z') _ ⟨[], _, _, z, rfl, rfl, by simp, List.nodup_nil, hB⟩ ?_ ?_
    · rintro k d s hd' ⟨fd, s5, s6, z', rfl, fl, hf, nd, hB'⟩
      have hk : k < m := by
        have := (List.getElem?_eq_some_iff.mp hd').1
        simpa using this
      have e1 : n + 5 * (m - k) = n + 5 * (m - (k + 1)) + 5 := by omega
      rw [e1] at hB'
      obtain ⟨w, z2, e2, hw, wn, B2⟩ := nm_turn hd hp hq (.int m) d s6 hf (by omega) hB'
      simp only [tgN_ap, O.bind_ok, List.set_cons_succ, List.set_cons_zero]
      rw [e2]
      refine ⟨fd ++ [w], _, _, z2, rfl, by simp [fl], ?_, ?_, B2⟩
      · intro x hx
        rcases List.mem_append.mp hx with hx | hx
        · exact hf x hx
        · simp only [List.mem_singleton] at hx
          subst hx
          exact hw
      · rw [List.nodup_append]
        refine ⟨nd, by simp, ?_⟩
        intro a ha b hb
        simp only [List.mem_singleton] at hb
        subst hb
        intro q
        subst q
        exact wn ha
    · rintro s ⟨fd, s5, s6, z', rfl, fl, hf, nd, hB'⟩
      rw [List.length_map, List.length_range] at fl hB'
      exact ⟨rfl, fd, s5, s6, z', rfl, fl, hf, nd, by simpa using hB'⟩
  obtain ⟨fl, s, e, rfl, fd, s5, s6, z', rfl, h1, h2, h3, h4⟩ := w.ex
  refine ⟨fd, z', ?_, h1, h2, h3, h4⟩
  refine runD_eq (s := ⟨[.d (.hnd 1), .d (.int m), .d (.str LET), .d (.lst (txs nearW)), .un, s5, s6, .un], z'.muz⟩) rfl ?_
  have ek : ∀ s, kRng (.int m) s = .ok ((List.range m).map fun i => .int (i : Nat)) s := fun s => kRng_ap m s (by omega)
  have el : ∀ s, kLst [.str "keeper", .str "hub", .str "good", .str "bad", .str "state", .str "start", .str "picka", .str "rab", .str "a", .str "b", .str "aa", .str "ab", .str "zzzzzz"] s = .ok (.ml (txs nearW)) s := near_lst
  show namesS cd cp ⟨[.d (.hnd 1), .d (.int m), .un, .un, .un, .un, .un, .un], z.muz⟩ = _
  have eL : (Str.ofString "abcdefghijklmnopqrstuvwxyz") = LET := rfl
  simp only [namesS, seqS_ap, setS_ap, cS_ap, O.bind_ok, kSet_ap, sto_str, kSetB_t, List.set_cons_succ, List.set_cons_zero, kSeq_nx, frzS_ap, lstF_ap, consS_ap, kCons_ap, nilS_ap, kCons2_ap, el, kFrz_ap, frzD, sto_lst, ownS_ap, kLst_0, kOwn_ap, forS_ap, itRng_ap, varS_ap, List.getElem?_cons_zero, List.getElem?_cons_succ, kVar_d, ek, kFor_ap, eL, e, retS_ap, kVar_own, kRet_loc, kRet1_ap]
end
end AG

set_option Elab.async false
set_option linter.all false
set_option maxRecDepth 100000
set_option exponentiation.threshold 4000
namespace AG
open PySem L2
section
variable {s : S} {f g h : M D} {fm : M MO}
def kSlF2 (x : D) (a : Option Int) : Option Int → S → O MO := fun b s3 => match vw s3 x with
  | .lst l => .ok (.ml (cutL l a b)) s3
  | _ => .st
def kSlF1 (x : D) (hi : M (Option Int)) : Option Int → S → O MO := fun a s => (hi s).bind (kSlF2 x a)
def kSlF (lo hi : M (Option Int)) : D → S → O MO := fun x s => (lo s).bind (kSlF1 x hi)
theorem slF_ap (lo hi : M (Option Int)) : slF f lo hi s = (f s).bind (kSlF lo hi) := Eq.trans rfl rfl
theorem kSlF_ap (lo hi : M (Option Int)) (x : D) (s : S) : kSlF lo hi x s = (lo s).bind (kSlF1 x hi) := Eq.trans rfl rfl
theorem kSlF1_ap (hi : M (Option Int)) (x : D) (a : Option Int) (s : S) : kSlF1 x hi a s = (hi s).bind (kSlF2 x a) := Eq.trans rfl rfl
theorem kSlF2_lst (l : List D) (a b : Option Int) (s : S) : kSlF2 (.lst l) a b s = .ok (.ml (cutL l a b)) s := Eq.trans rfl rfl
theorem tgT_ap (ts : List (D → M Unit)) (ds : List D) (s : S) : tgT ts (.tup ds) s = tgsS ts ds s := Eq.trans rfl rfl
theorem tgsS_nil (s : S) : tgsS [] [] s = .ok () s := Eq.trans rfl rfl
def kTgs (ts : List (D → M Unit)) (ds : List D) : Unit → S → O Unit := fun _ s => tgsS ts ds s
theorem tgsS_cons (i : Nat) (ts : List (D → M Unit)) (d : D) (ds : List D) (s : S) : tgsS (tgN i :: ts) (d :: ds) s = tgsS ts ds ⟨s.rhz.set i (.d d), s.muz⟩ := Eq.trans rfl rfl
def kAsg (tg : D → M Unit) : D → S → O Fl := fun d s => if sto d then (tg d s).bind fun _ s2 => .ok .nx s2 else .st
def kAsgB (tg : D → M Unit) (d : D) (s : S) : Bool → O Fl
  | true => (tg d s).bind fun _ s2 => .ok .nx s2
  | false => .st
theorem asgS_ap (tg : D → M Unit) : asgS f tg s = (f s).bind (kAsg tg) := Eq.trans rfl rfl
theorem kAsg_ap (tg : D → M Unit) (d : D) (s : S) : kAsg tg d s = kAsgB tg d s (sto d) := by unfold kAsg kAsgB; cases sto d <;> rfl
theorem kAsgB_t (tg : D → M Unit) (d : D) (s : S) : kAsgB tg d s true = (tg d s).bind fun _ s2 => .ok .nx s2 := Eq.trans rfl rfl
theorem negD_int (s : S) (a : Int) : negD s (.int a) = some (.int (-a)) := Eq.trans rfl rfl
theorem ix_t0 (s : S) (a : D) (l : List D) : ixA s (.tup (a :: l)) (.int 0) = some a := by
  show atI (a :: l) 0 = some a
  rw [atI_ok _ _ (by omega) (by simp only [List.length_cons]; omega)]
  rfl
theorem ix_t1 (s : S) (a b : D) (l : List D) : ixA s (.tup (a :: b :: l)) (.int 1) = some b := by
  show atI (a :: b :: l) 1 = some b
  rw [atI_ok _ _ (by omega) (by simp only [List.length_cons]; omega)]
  rfl
theorem ix_l0 (s : S) (a : D) (l : List D) : ixA s (.lst (a :: l)) (.int 0) = some a := ix_t0 s a l
theorem ix_l1 (s : S) (a b : D) (l : List D) : ixA s (.lst (a :: b :: l)) (.int 1) = some b := ix_t1 s a b l
theorem ix_last (s : S) (l : List D) {a : D} (h : l.getLast? = some a) : ixA s (.tup l) (.int (-1)) = some a := by
  show atI l (-1) = some a
  have hl : l ≠ [] := fun q => by rw [q] at h; cases h
  have l0 : 0 < l.length := List.length_pos_iff.mpr hl
  unfold atI ixN
  rw [if_neg (by omega), if_pos (by omega)]
  have e : ((-1 : Int) + l.length).toNat = l.length - 1 := by omega
  rw [e, Option.bind_some]
  rw [← List.getLast?_eq_getElem?]
  exact h
theorem len_tup (s : S) (l : List D) : lenD s [.tup l] = some (.int l.length) := Eq.trans rfl rfl
theorem cut_take {α : Type} (l : List α) (m : Nat) : cutL l none (some (m : Int)) = l.take m := by
  unfold cutL
  have h := HT.sIx_nat l.length l.length m
  rw [HT.sIx_none, h]
  simp only [List.drop_zero, Nat.sub_zero]
  rw [List.take_eq_take_min (i := m)]
theorem cut_drop {α : Type} (l : List α) (m : Nat) : cutL l (some (m : Int)) none = l.drop m := by
  unfold cutL
  have h := HT.sIx_nat l.length 0 m
  rw [HT.sIx_none, h]
  by_cases h0 : m ≤ l.length
  · rw [Nat.min_eq_left h0]
    exact List.take_of_length_le (by simp)
  · rw [Nat.min_eq_right (by omega), List.drop_eq_nil_of_le (by omega), List.drop_eq_nil_of_le (by omega)]
    simp
theorem wh_end {c : M Bool} {b : M Fl} {s s' : S} (h : c s = .ok false s') : whS c b s = .ok .nx s' := by
  rw [whS_unf, h]
  rfl
theorem wh_step {c : M Bool} {b : M Fl} {s s1 s2 : S} (h : c s = .ok true s1) (h2 : b s1 = .ok .nx s2) : whS c b s = whS c b s2 := by
  rw [whS_unf, h]
  simp only [O.bind_ok, if_true, h2]
theorem wh_ret {c : M Bool} {b : M Fl} {s s1 s2 : S} {d : D} (h : c s = .ok true s1) (h2 : b s1 = .ok (.rt d) s2) : whS c b s = .ok (.rt d) s2 := by
  rw [whS_unf, h]
  simp only [O.bind_ok, if_true, h2]
theorem runD_non {n a : Nat} {body : M Fl} {ds : List D} {muz : List MO} {s : S} (hl : ds.length = a) (h : body ⟨ds.map .d ++ List.replicate (n - a) .un, muz⟩ = .ok .nx s) : runD n a body ds muz = .ok .non s.muz := by
  unfold runD
  rw [if_pos hl, h]
theorem sIx_m1 (n d : Nat) : HT.sIx n d (some (-1)) = n - 1 := by
  show (if (-1 : Int) < 0 then ((-1 : Int) + (n : Int)).toNat else min (-1 : Int).toNat n) = n - 1
  rw [if_pos (by omega)]
  omega
theorem cut_init {α : Type} (l : List α) : cutL l none (some (-1)) = l.dropLast := by
  unfold cutL
  rw [HT.sIx_none, sIx_m1, List.drop_zero, Nat.sub_zero, List.dropLast_eq_take]
theorem cut_end {α : Type} (l : List α) : cutL l (some (-1)) none = l.drop (l.length - 1) := by
  unfold cutL
  rw [HT.sIx_none, sIx_m1]
  exact List.take_of_length_le (by simp)
theorem slD_tup (s : S) (l : List D) (a b : Option Int) : slD s (.tup l) a b = some (.tup (cutL l a b)) := Eq.trans rfl rfl
theorem slD_lst (s : S) (l : List D) (a b : Option Int) : slD s (.lst l) a b = some (.lst (cutL l a b)) := Eq.trans rfl rfl
theorem txs_take (l : List Str) (m : Nat) : (txs l).take m = txs (l.take m) := List.map_take.symm
theorem txs_drop (l : List Str) (m : Nat) : (txs l).drop m = txs (l.drop m) := List.map_drop.symm
theorem txs_app (l m : List Str) : txs l ++ txs m = txs (l ++ m) := List.map_append.symm
theorem txs_init (l : List Str) : (txs l).dropLast = txs l.dropLast := by rw [List.dropLast_eq_take, List.dropLast_eq_take, txs_take, txs_length]
theorem txs_get (l : List Str) (i : Nat) : (txs l)[i]? = l[i]?.map .str := List.getElem?_map ..
theorem txs_last (l : List Str) : (txs l).getLast? = l.getLast?.map .str := by rw [List.getLast?_eq_getElem?, txs_get, txs_length, List.getLast?_eq_getElem?]
theorem txs_rep (l : List Str) (k : Nat) : (List.replicate k (txs l)).flatten = txs (List.replicate k l).flatten := by
  unfold txs
  rw [List.map_flatten, List.map_replicate]
theorem txs_inj {a b : List Str} (h : txs a = txs b) : a = b := by
  unfold txs at h
  exact (List.map_inj_right (fun x y q => by cases q; rfl)).mp h
end
end AG

set_option Elab.async false
set_option linter.all false
namespace AG.Wd
section
variable {α : Type}
def wd (b r : List α) (i : Nat) : Option α := if i < b.length then b[i]? else r[(i - b.length) % r.length]?
theorem wd_low {b r : List α} {i : Nat} (h : i < b.length) : wd b r i = b[i]? := if_pos h
theorem wd_high {b r : List α} (i : Nat) : wd b r (b.length + i) = r[i % r.length]? := by
  unfold wd
  rw [if_neg (by omega), Nat.add_sub_cancel_left]
theorem wd_per {b r : List α} {i : Nat} (h : b.length ≤ i) : wd b r (i + r.length) = wd b r i := by
  obtain ⟨k, rfl⟩ := Nat.exists_eq_add_of_le h
  rw [Nat.add_assoc, wd_high, wd_high, Nat.add_mod_right]
theorem wd_pers {b r : List α} {i : Nat} (h : b.length ≤ i) (k : Nat) : wd b r (i + k * r.length) = wd b r i := by
  obtain ⟨j, rfl⟩ := Nat.exists_eq_add_of_le h
  rw [Nat.add_assoc, wd_high, wd_high, Nat.add_mul_mod_self_right]
def many (b r c q : List α) : Nat := b.length + c.length + r.length * q.length + r.length + q.length
theorem same_all {b r c q : List α} (h : ∀ i, i < many b r c q → wd b r i = wd c q i) (hr : r ≠ []) (hq : q ≠ []) : ∀ i, wd b r i = wd c q i := by
  have r0 : 0 < r.length := List.length_pos_iff.mpr hr
  have q0 : 0 < q.length := List.length_pos_iff.mpr hq
  intro i
  induction i using Nat.strongRecOn with
  | ind i ih =>
    by_cases hi : i < many b r c q
    · exact h i hi
    · unfold many at hi
      have rq : 0 < r.length * q.length := Nat.mul_pos r0 q0
      have e1 := wd_pers (b := b) (r := r) (i := i - r.length * q.length) (by omega) q.length
      have e2 := wd_pers (b := c) (r := q) (i := i - r.length * q.length) (by omega) r.length
      rw [Nat.mul_comm q.length, Nat.sub_add_cancel (by omega)] at e1
      rw [Nat.sub_add_cancel (by omega)] at e2
      rw [e1, e2]
      exact ih _ (by omega)
def Per (r : List α) (g : Nat) : Prop := ∀ i, r[(i + g) % r.length]? = r[i % r.length]?
def Prim (r : List α) : Prop := ∀ g, 0 < g → g < r.length → g ∣ r.length → ¬ Per r g
theorem Per.self (r : List α) : Per r r.length := fun i => by rw [Nat.add_mod_right]
theorem Per.mul {r : List α} {g : Nat} (h : Per r g) : ∀ k, Per r (k * g)
  | 0 => fun i => by simp
  | k + 1 => fun i => by
    rw [Nat.succ_mul, ← Nat.add_assoc, h (i + k * g), h.mul k i]
theorem Per.sub {r : List α} {g k : Nat} (hg : Per r (g + k)) (hk : Per r k) : Per r g := fun i => by
  rw [← hk (i + g), Nat.add_assoc, hg i]
theorem Per.gcd {r : List α} : ∀ {g k : Nat}, Per r g → Per r k → Per r (Nat.gcd g k) := by
  intro g
  induction g using Nat.strongRecOn with
  | ind g ih =>
    intro k hg hk
    cases g with
    | zero => rw [Nat.gcd_zero_left]; exact hk
    | succ g =>
      rw [Nat.gcd_succ]
      refine ih (k % (g + 1)) (Nat.mod_lt _ (Nat.succ_pos _)) ?_ hg
      have e := Nat.mod_add_div k (g + 1)
      have hm := hg.mul (k / (g + 1))
      rw [Nat.mul_comm] at hm
      exact Per.sub (by rw [e]; exact hk) hm
theorem per_of_far {b r : List α} (hr : r ≠ []) {n g : Nat} (h : ∀ i, n ≤ i → wd b r (i + g) = wd b r i) : Per r g := fun i => by
  have r0 : 0 < r.length := List.length_pos_iff.mpr hr
  have e1 := wd_pers (b := b) (r := r) (i := b.length + (i + g)) (by omega) n
  have e2 := wd_pers (b := b) (r := r) (i := b.length + i) (by omega) n
  have hn : n ≤ n * r.length := Nat.le_mul_of_pos_right n r0
  have e3 := h (b.length + i + n * r.length) (by omega)
  rw [wd_high] at e1 e2
  rw [← e1, ← e2, ← e3]
  congr 1
  omega
theorem far_of_per {b r : List α} {g : Nat} (h : Per r g) {i : Nat} (hi : b.length ≤ i) : wd b r (i + g) = wd b r i := by
  obtain ⟨k, rfl⟩ := Nat.exists_eq_add_of_le hi
  rw [Nat.add_assoc, wd_high, wd_high]
  exact h k
structure Least (b r : List α) : Prop where
  ne : r ≠ []
  prim : Prim r
  cut : b ≠ [] → b.getLast? ≠ r.getLast?
theorem Prim.le {r : List α} (h : Prim r) (hr : r ≠ []) {g : Nat} (g0 : 0 < g) (hg : Per r g) : r.length ∣ g := by
  have r0 : 0 < r.length := List.length_pos_iff.mpr hr
  have hp := Per.gcd hg (Per.self r)
  have d1 : Nat.gcd g r.length ∣ r.length := Nat.gcd_dvd_right _ _
  have p0 : 0 < Nat.gcd g r.length := Nat.gcd_pos_of_pos_left _ g0
  by_cases hl : Nat.gcd g r.length < r.length
  · exact absurd hp (h _ p0 hl d1)
  · have e : Nat.gcd g r.length = r.length := Nat.le_antisymm (Nat.le_of_dvd r0 d1) (by omega)
    rw [← e]
    exact Nat.gcd_dvd_left _ _
theorem last_ring {b r : List α} (hr : r ≠ []) {i : Nat} (hi : b.length ≤ i + 1) (hm : (i + 1 - b.length) % r.length = 0) (hb : b.length ≤ i) : wd b r i = r.getLast? := by
  have r0 : 0 < r.length := List.length_pos_iff.mpr hr
  obtain ⟨k, rfl⟩ := Nat.exists_eq_add_of_le hb
  rw [wd_high, List.getLast?_eq_getElem?]
  have e : b.length + k + 1 - b.length = k + 1 := by omega
  rw [e] at hm
  congr 1
  obtain ⟨m, hm⟩ := Nat.dvd_of_mod_eq_zero hm
  cases m with
  | zero => omega
  | succ m =>
    have e2 : k = (r.length - 1) + m * r.length := by
      have : (m + 1) * r.length = m * r.length + r.length := Nat.succ_mul m r.length
      rw [Nat.mul_comm] at hm
      omega
    rw [e2, Nat.add_mul_mod_self_right, Nat.mod_eq_of_lt (by omega)]
theorem least_len {b r c q : List α} (h1 : Least b r) (h2 : Least c q) (h : ∀ i, wd b r i = wd c q i) : r.length = q.length ∧ b.length = c.length := by
  have r0 : 0 < r.length := List.length_pos_iff.mpr h1.ne
  have q0 : 0 < q.length := List.length_pos_iff.mpr h2.ne
  have p1 : Per r q.length := per_of_far (b := b) h1.ne (n := b.length + c.length) fun i hi => by
    rw [h, h]
    exact far_of_per (Per.self q) (by omega)
  have p2 : Per q r.length := per_of_far (b := c) h2.ne (n := b.length + c.length) fun i hi => by
    rw [← h, ← h]
    exact far_of_per (Per.self r) (by omega)
  have e : r.length = q.length := Nat.dvd_antisymm (h1.prim.le h1.ne q0 p1) (h2.prim.le h2.ne r0 p2)
  have no : ∀ {b r c q : List α}, Least b r → Least c q → (∀ i, wd b r i = wd c q i) → r.length = q.length → ¬ b.length < c.length := fun {b r c q} h1 h2 h e hl => by
    have q0 : 0 < q.length := List.length_pos_iff.mpr h2.ne
    have hc : c ≠ [] := fun z => by rw [z] at hl; cases hl
    refine h2.cut hc ?_
    have e1 : wd c q (c.length - 1) = c.getLast? := by rw [wd_low (by omega), List.getLast?_eq_getElem?]
    have e2 : wd c q (c.length - 1 + q.length) = q.getLast? := last_ring h2.ne (by omega) (by
      have : c.length - 1 + q.length + 1 - c.length = q.length := by omega
      rw [this, Nat.mod_self]) (by omega)
    rw [← e1, ← e2, ← h, ← h, ← e]
    exact (wd_per (by omega)).symm
  refine ⟨e, ?_⟩
  have n1 := no h1 h2 h e
  have n2 := no h2 h1 (fun i => (h i).symm) e.symm
  omega
theorem least_eq {b r c q : List α} (h1 : Least b r) (h2 : Least c q) (h : ∀ i, wd b r i = wd c q i) : b = c ∧ r = q := by
  obtain ⟨e1, e2⟩ := least_len h1 h2 h
  constructor
  · apply List.ext_getElem?
    intro i
    by_cases hi : i < b.length
    · rw [← wd_low (r := r) hi, h, wd_low (by omega)]
    · rw [List.getElem?_eq_none (by omega), List.getElem?_eq_none (by omega)]
  · apply List.ext_getElem?
    intro i
    by_cases hi : i < r.length
    · have z := h (b.length + i)
      rw [wd_high, e2, wd_high, ← e1, Nat.mod_eq_of_lt hi] at z
      exact z
    · rw [List.getElem?_eq_none (by omega), List.getElem?_eq_none (by omega)]
theorem rep_get {l : List α} (hl : l ≠ []) : ∀ (k i : Nat), i < k * l.length → (List.replicate k l).flatten[i]? = l[i % l.length]?
  | 0, i, h => by omega
  | k + 1, i, h => by
    have l0 : 0 < l.length := List.length_pos_iff.mpr hl
    rw [List.replicate_succ, List.flatten_cons]
    by_cases hi : i < l.length
    · rw [List.getElem?_append_left hi, Nat.mod_eq_of_lt hi]
    · rw [List.getElem?_append_right (by omega), rep_get hl k _ (by rw [Nat.succ_mul] at h; omega)]
      have e : i = (i - l.length) + l.length := by omega
      conv => rhs; rw [e, Nat.add_mod_right]
theorem rep_len (l : List α) (k : Nat) : (List.replicate k l).flatten.length = k * l.length := by
  induction k with
  | zero => simp
  | succ k ih => rw [List.replicate_succ, List.flatten_cons, List.length_append, ih, Nat.succ_mul]; omega
theorem power_iff {r : List α} {m : Nat} (m0 : 0 < m) (hm : m ∣ r.length) (hr : r ≠ []) : (List.replicate (r.length / m) (r.take m)).flatten = r ↔ Per r m := by
  have r0 : 0 < r.length := List.length_pos_iff.mpr hr
  have ml : m ≤ r.length := Nat.le_of_dvd r0 hm
  have tl : (r.take m).length = m := by rw [List.length_take]; omega
  have tne : r.take m ≠ [] := fun z => by rw [z] at tl; simp at tl; omega
  have km : r.length / m * m = r.length := Nat.div_mul_cancel hm
  have get : ∀ i, i < r.length → (List.replicate (r.length / m) (r.take m)).flatten[i]? = r[i % m]? := fun i hi => by
    rw [rep_get tne _ _ (by rw [tl, km]; exact hi), tl, List.getElem?_take_of_lt (Nat.mod_lt _ m0)]
  have all : (List.replicate (r.length / m) (r.take m)).flatten = r ↔ ∀ i, i < r.length → r[i % m]? = r[i]? := by
    constructor
    · intro h i hi
      rw [← get i hi, h]
    · intro h
      apply List.ext_getElem?
      intro i
      by_cases hi : i < r.length
      · rw [get i hi, h i hi]
      · rw [List.getElem?_eq_none (by rw [rep_len, tl, km]; omega), List.getElem?_eq_none (by omega)]
  rw [all]
  constructor
  · intro h i
    rw [← h _ (Nat.mod_lt _ r0), ← h (i % r.length) (Nat.mod_lt _ r0), Nat.mod_mod_of_dvd _ hm, Nat.mod_mod_of_dvd _ hm, Nat.add_mod_right]
  · intro h i hi
    have e := (h.mul (i / m)) (i % m)
    have ei : i % m + i / m * m = i := by rw [Nat.mul_comm]; exact Nat.mod_add_div i m
    rw [ei, Nat.mod_eq_of_lt hi, Nat.mod_eq_of_lt (Nat.lt_of_lt_of_le (Nat.mod_lt _ m0) ml)] at e
    exact e.symm
theorem take_per {r : List α} {m : Nat} (m0 : 0 < m) (hm : m ∣ r.length) (hr : r ≠ []) (h : Per r m) (b : List α) (i : Nat) : wd b (r.take m) i = wd b r i := by
  have r0 : 0 < r.length := List.length_pos_iff.mpr hr
  have ml : m ≤ r.length := Nat.le_of_dvd r0 hm
  have tl : (r.take m).length = m := by rw [List.length_take]; omega
  unfold wd
  split
  · rfl
  · generalize i - b.length = j
    rw [tl, List.getElem?_take_of_lt (Nat.mod_lt _ m0)]
    have e := (h.mul (j / m)) (j % m)
    have ei : j % m + j / m * m = j := by rw [Nat.mul_comm]; exact Nat.mod_add_div j m
    rw [ei, Nat.mod_eq_of_lt (Nat.lt_of_lt_of_le (Nat.mod_lt _ m0) ml)] at e
    exact e.symm
theorem prim_take {r : List α} {m : Nat} (m0 : 0 < m) (hm : m ∣ r.length) (hr : r ≠ []) (h : Per r m) (mn : ∀ g, 0 < g → g < m → g ∣ r.length → ¬ Per r g) : Prim (r.take m) := by
  have r0 : 0 < r.length := List.length_pos_iff.mpr hr
  have ml : m ≤ r.length := Nat.le_of_dvd r0 hm
  have tl : (r.take m).length = m := by rw [List.length_take]; omega
  intro g g0 gl gd hp
  rw [tl] at gl gd
  refine mn g g0 gl (Nat.dvd_trans gd hm) (per_of_far (b := []) hr (n := 0) fun i _ => ?_)
  rw [← take_per m0 hm hr h, ← take_per m0 hm hr h]
  exact far_of_per hp (Nat.zero_le _)
theorem rot_wd {b r : List α} {x : α} (i : Nat) : wd (b ++ [x]) (r ++ [x]) i = wd b (x :: r) i := by
  unfold wd
  simp only [List.length_append, List.length_cons, List.length_nil]
  by_cases h1 : i < b.length
  · rw [if_pos (by omega), if_pos h1, List.getElem?_append_left h1]
  · rw [if_neg h1]
    by_cases h2 : i < b.length + 1
    · rw [if_pos (by omega)]
      have e : i = b.length := by omega
      subst e
      simp
    · rw [if_neg (by omega)]
      obtain ⟨k, rfl⟩ := Nat.exists_eq_add_of_le (show b.length + 1 ≤ i by omega)
      have e1 : b.length + 1 + k - (b.length + (0 + 1)) = k := by omega
      have e2 : b.length + 1 + k - b.length = k + 1 := by omega
      rw [e1, e2]
      have hn : r.length + (0 + 1) = r.length + 1 := by omega
      rw [hn]
      have hk : k % (r.length + 1) < r.length + 1 := Nat.mod_lt _ (Nat.succ_pos _)
      by_cases h3 : k % (r.length + 1) = r.length
      · have : (k + 1) % (r.length + 1) = 0 := by
          rw [Nat.add_mod, h3]
          by_cases h4 : r.length = 0
          · simp [h4]
          · rw [Nat.mod_eq_of_lt (show 1 < r.length + 1 by omega), Nat.mod_self]
        rw [h3, this]
        simp
      · have : (k + 1) % (r.length + 1) = k % (r.length + 1) + 1 := by
          rw [Nat.add_mod]
          by_cases h4 : r.length = 0
          · omega
          · rw [Nat.mod_eq_of_lt (show 1 < r.length + 1 by omega), Nat.mod_eq_of_lt (show k % (r.length + 1) + 1 < r.length + 1 by omega)]
        rw [this, List.getElem?_append_left (by omega)]
        simp
theorem rot_prim {r : List α} {x : α} (h : Prim (r ++ [x])) : Prim (x :: r) := by
  intro g g0 gl gd hp
  have e : (r ++ [x]).length = (x :: r).length := by simp
  refine h g g0 (by rw [e]; exact gl) (by rw [e]; exact gd) (per_of_far (b := [x]) (by simp) (n := 0) fun i _ => ?_)
  have z := fun i => rot_wd (b := []) (r := r) (x := x) i
  simp only [List.nil_append] at z
  rw [z, z]
  exact far_of_per hp (Nat.zero_le _)
end
end AG.Wd

set_option Elab.async false
set_option linter.all false
set_option maxRecDepth 100000
set_option exponentiation.threshold 4000
namespace AG
open PySem L2 AG.Wd
def rn (b r : List Str) : D := .tup [.tup (txs b), .tup (txs r)]
structure Rn (n m : Nat) (b r : List Str) : Prop where
  nb : ∀ x ∈ b, Nm x
  nr : ∀ x ∈ r, Nm x
  ne : r ≠ []
  bl : b.length ≤ n
  rl : r.length ≤ m
theorem Rn.le {n m n' m' : Nat} {b r : List Str} (h : Rn n m b r) (l : n ≤ n') (k : m ≤ m') : Rn n' m' b r := ⟨h.nb, h.nr, h.ne, Nat.le_trans h.bl l, Nat.le_trans h.rl k⟩
noncomputable abbrev isNameS : M Fl := (seqS (ifS (tOrS (tNotS (tstS (isiS "str" (varS 0)))) (tNotS (tstS (chainS (cmpI fun i j => decide (i ≤ j)) (cmpI fun i j => decide (i ≤ j)) (cS (.int 1)) (callV lenD (consS (varS 0) nilS)) (cS (.int 6)))))) (retS (cS (.bl false))) nxS)
    (retS (callV allD (consS (frzS (lcF (itStr (varS 0)) (tgN 1) yesS (binS inA (varS 1) (cS (.str "abcdefghijklmnopqrstuvwxyz"))) [1])) nilS))))
theorem let_in : ∀ c, 97 ≤ c → c ≤ 122 → ∀ s, inA s (.str (sgn c)) (.str LET) = some (.bl true) := by
  have h : (List.range 26).all (fun v => !(Builtin.Str.occurrences LET (sgn (97 + v)) 0 LET.length 1).isEmpty) = true := by decide +kernel
  intro c c1 c2 s
  have z := List.all_eq_true.mp h (c - 97) (List.mem_range.mpr (by omega))
  rw [show 97 + (c - 97) = c by omega] at z
  show some (D.bl (!(Builtin.Str.occurrences LET (sgn c) 0 LET.length 1).isEmpty)) = _
  rw [z]
theorem bls_true : ∀ l : List D, blsOf (l.map fun _ => D.bl true) = some (l.map fun _ => true)
  | [] => rfl
  | x :: l => by rw [List.map_cons, blsOf, bls_true l]; rfl
theorem all_true (s : S) (l : List D) : allD s [.lst (l.map fun _ => D.bl true)] = some (.bl true) := by
  show (blsOf _).map _ = _
  rw [bls_true]
  simp
def IsName (c : List D → List MO → R) : Prop := ∀ (x : Str) (muz : List MO), Nm x → c [.str x] muz = .ok (.bl true) muz
theorem isi_str (s : S) (x : Str) : isiD "str" s (.str x) = some (.bl true) := Eq.trans rfl rfl
theorem isi_tup (s : S) (x : List D) : isiD "tuple" s (.tup x) = some (.bl true) := Eq.trans rfl rfl
theorem isName_ok : IsName (runD 2 1 isNameS) := by
  intro x muz hx
  refine runD_eq (s := ⟨[.d (.str x), .un], muz⟩) rfl ?_
  have el : ∀ s, lenD s [.str x] = some (.int x.length) := fun s => lenD_nm s hx
  have h1 : decide ((1 : Int) ≤ (x.length : Int)) = true := decide_eq_true (by have := hx.pos; omega)
  have h2 : decide ((x.length : Int) ≤ 6) = true := decide_eq_true (by have := hx.few; omega)
  have lc := kLc_pure (i := 1) (c := yesS) (e := binS inA (varS 1) (cS (.str "abcdefghijklmnopqrstuvwxyz"))) (rhz := [.d (.str x), .un]) (ds := x.cps.toList.map fun c => D.str ⟨#[c]⟩) (muz := muz) (fun _ => true) (fun _ => .bl true) (by simp) rfl (fun _ _ => yesS_ap _) (fun d hd _ => by
    obtain ⟨c, hc, rfl⟩ := List.mem_map.mp hd
    obtain ⟨c1, c2⟩ := hx.low c hc
    refine ⟨?_, rfl⟩
    have e := let_in c c1 c2
    unfold sgn at e
    have eL : (Str.ofString "abcdefghijklmnopqrstuvwxyz") = LET := rfl
    simp only [seqS_ap, setS_ap, retS_ap, ifS_ap, iteS_ap, tstS_ap, tNotS_ap, tAndS_ap, tOrS_ap, andS_ap, orS_ap, notS_ap, binS_ap, unS_ap, callF_ap, callV_ap, callN_ap, consS_ap, nilS_ap, tupS_ap, lstF_ap, frzS_ap, ownS_ap, exS_ap, cS_ap, varS_ap, parA_ap, parS_inl, parS_inr, parS_nil, forS_ap, itRng_ap, itRng2_ap, itS_ap, itStr_ap, lcF_ap, slS_ap, slF_ap, noPartS_ap, partS_ap, isiS_ap, chainS_ap, nxS_ap, bkS_ap, ctS_ap, yesS_ap, orT_ap, appS_ap, popAtS_ap, dputS_ap, lputS_ap, hndS_ap, m1S_ap, asgS_ap, O.bind_ok, kVar_d, kVar_own, kB1_ap, kB2_ap, kU_ap, kAnd_t, kAnd_f, kOr_t, kOr_f, kNot_ap, kTst_ap, kTAnd_t, kTAnd_f, kTOr_t, kTOr_f, kTNot_ap, kIte_t, kIte_f, kC0_ap, kC1_ap, kC1'_t, kC1'_f, kC2_ap, kCons_ap, kCons2_ap, kTup_0, kTup_1, kTup_2, kTupB_t, kLst_0, kLst_1, kLstB_t, kFrz_ap, kCv_ap, kCn_ap, ofO_some, ofN_some, kEx_ap, kSet_ap, kSetB_t, kOwn_ap, kRet_non, kRet_bl, kRet_int, kRet_str, kRet_tup, kRet_lst, kRet_hnd, kRet_dct, kRet_ins, kRet_loc, kRet1_ap, kSeq_nx, kSeq_rt, kSeq_bk, kSeq_ct, kIt_ap, kIts_ap, seqD_lst, seqD_tup, seqD_scr, kFor_ap, tgN_ap, tgT_ap, tgsS_nil, tgsS_cons, kSl_ap, kSl1_ap, kSl2_ap, kSlF_ap, kSlF1_ap, kPart_ap, kPd_ap, kPdB_t, kPm_ap, kPc_ap, kPar_ap, putP_d, putP_m, putP_0, kHnd_ap, frzD, kAsg_ap, kAsgB_t, sto_non, sto_bl, sto_int, sto_str, sto_tup, sto_lst, sto_dct, sto_ins, sto_hnd, sto_scr, Bool.and_self, Bool.not_true, Bool.not_false, List.getElem?_cons_zero, List.getElem?_cons_succ, List.set_cons_succ, List.set_cons_zero, kM1_ap, kM1b_ap, kOrT_ap, kOrT1_t, kOrT1_f, eqD_ap, neD_ap, Option.map_some, addD_int, subD_int, gtD_int, ltD_int, cmpI_int, intD_int, intD_bl, negD_int, kStr_ap, kLput_ap, kLput1_ap, decide_true, decide_false, eL, e]) (by rw [List.length_map, ← len_tl]; exact Nat.le_trans hx.few (by decide))
  have et : (List.filter (fun _ => true) (x.cps.toList.map fun c => D.str ⟨#[c]⟩)) = (x.cps.toList.map fun c => D.str ⟨#[c]⟩) := List.filter_eq_self.mpr (by simp)
  rw [et] at lc
  show isNameS ⟨[.d (.str x), .un], muz⟩ = _
  simp only [isNameS, seqS_ap, setS_ap, retS_ap, ifS_ap, iteS_ap, tstS_ap, tNotS_ap, tAndS_ap, tOrS_ap, andS_ap, orS_ap, notS_ap, binS_ap, unS_ap, callF_ap, callV_ap, callN_ap, consS_ap, nilS_ap, tupS_ap, lstF_ap, frzS_ap, ownS_ap, exS_ap, cS_ap, varS_ap, parA_ap, parS_inl, parS_inr, parS_nil, forS_ap, itRng_ap, itRng2_ap, itS_ap, itStr_ap, lcF_ap, slS_ap, slF_ap, noPartS_ap, partS_ap, isiS_ap, chainS_ap, nxS_ap, bkS_ap, ctS_ap, yesS_ap, orT_ap, appS_ap, popAtS_ap, dputS_ap, lputS_ap, hndS_ap, m1S_ap, asgS_ap, O.bind_ok, kVar_d, kVar_own, kB1_ap, kB2_ap, kU_ap, kAnd_t, kAnd_f, kOr_t, kOr_f, kNot_ap, kTst_ap, kTAnd_t, kTAnd_f, kTOr_t, kTOr_f, kTNot_ap, kIte_t, kIte_f, kC0_ap, kC1_ap, kC1'_t, kC1'_f, kC2_ap, kCons_ap, kCons2_ap, kTup_0, kTup_1, kTup_2, kTupB_t, kLst_0, kLst_1, kLstB_t, kFrz_ap, kCv_ap, kCn_ap, ofO_some, ofN_some, kEx_ap, kSet_ap, kSetB_t, kOwn_ap, kRet_non, kRet_bl, kRet_int, kRet_str, kRet_tup, kRet_lst, kRet_hnd, kRet_dct, kRet_ins, kRet_loc, kRet1_ap, kSeq_nx, kSeq_rt, kSeq_bk, kSeq_ct, kIt_ap, kIts_ap, seqD_lst, seqD_tup, seqD_scr, kFor_ap, tgN_ap, tgT_ap, tgsS_nil, tgsS_cons, kSl_ap, kSl1_ap, kSl2_ap, kSlF_ap, kSlF1_ap, kPart_ap, kPd_ap, kPdB_t, kPm_ap, kPc_ap, kPar_ap, putP_d, putP_m, putP_0, kHnd_ap, frzD, kAsg_ap, kAsgB_t, sto_non, sto_bl, sto_int, sto_str, sto_tup, sto_lst, sto_dct, sto_ins, sto_hnd, sto_scr, Bool.and_self, Bool.not_true, Bool.not_false, List.getElem?_cons_zero, List.getElem?_cons_succ, List.set_cons_succ, List.set_cons_zero, kM1_ap, kM1b_ap, kOrT_ap, kOrT1_t, kOrT1_f, eqD_ap, neD_ap, Option.map_some, addD_int, subD_int, gtD_int, ltD_int, cmpI_int, intD_int, intD_bl, negD_int, kStr_ap, kLput_ap, kLput1_ap, decide_true, decide_false, isi_str, el, h1, h2, lc, all_true]
noncomputable abbrev areNamesS (c0 : List D → List MO → R) : M Fl := (retS (andS (isiS "tuple" (varS 0)) (callV allD (consS (frzS (lcF (itS (varS 0)) (tgN 1) yesS (callF c0 (consS (varS 1) nilS)) [1])) nilS))))
def AreNames (c : List D → List MO → R) : Prop := ∀ (l : List Str) (muz : List MO), (∀ x ∈ l, Nm x) → l.length ≤ LIM → c [.tup (txs l)] muz = .ok (.bl true) muz
theorem areNames_ok {c0 : List D → List MO → R} (h0 : IsName c0) : AreNames (runD 2 1 (areNamesS c0)) := by
  intro l muz hl hm
  refine runD_eq (s := ⟨[.d (.tup (txs l)), .un], muz⟩) rfl ?_
  have lc := kLc_pure (i := 1) (c := yesS) (e := callF c0 (consS (varS 1) nilS)) (rhz := [.d (.tup (txs l)), .un]) (ds := txs l) (muz := muz) (fun _ => true) (fun _ => .bl true) (by simp) rfl (fun _ _ => yesS_ap _) (fun d hd _ => by
    unfold txs at hd
    obtain ⟨x, hx, rfl⟩ := List.mem_map.mp hd
    refine ⟨?_, rfl⟩
    have e : ∀ rhz, kCall c0 [.str x] ⟨rhz, muz⟩ = .ok (.bl true) ⟨rhz, muz⟩ := fun rhz => kCall_eq (h0 x muz (hl x hx)) rfl
    simp only [seqS_ap, setS_ap, retS_ap, ifS_ap, iteS_ap, tstS_ap, tNotS_ap, tAndS_ap, tOrS_ap, andS_ap, orS_ap, notS_ap, binS_ap, unS_ap, callF_ap, callV_ap, callN_ap, consS_ap, nilS_ap, tupS_ap, lstF_ap, frzS_ap, ownS_ap, exS_ap, cS_ap, varS_ap, parA_ap, parS_inl, parS_inr, parS_nil, forS_ap, itRng_ap, itRng2_ap, itS_ap, itStr_ap, lcF_ap, slS_ap, slF_ap, noPartS_ap, partS_ap, isiS_ap, chainS_ap, nxS_ap, bkS_ap, ctS_ap, yesS_ap, orT_ap, appS_ap, popAtS_ap, dputS_ap, lputS_ap, hndS_ap, m1S_ap, asgS_ap, O.bind_ok, kVar_d, kVar_own, kB1_ap, kB2_ap, kU_ap, kAnd_t, kAnd_f, kOr_t, kOr_f, kNot_ap, kTst_ap, kTAnd_t, kTAnd_f, kTOr_t, kTOr_f, kTNot_ap, kIte_t, kIte_f, kC0_ap, kC1_ap, kC1'_t, kC1'_f, kC2_ap, kCons_ap, kCons2_ap, kTup_0, kTup_1, kTup_2, kTupB_t, kLst_0, kLst_1, kLstB_t, kFrz_ap, kCv_ap, kCn_ap, ofO_some, ofN_some, kEx_ap, kSet_ap, kSetB_t, kOwn_ap, kRet_non, kRet_bl, kRet_int, kRet_str, kRet_tup, kRet_lst, kRet_hnd, kRet_dct, kRet_ins, kRet_loc, kRet1_ap, kSeq_nx, kSeq_rt, kSeq_bk, kSeq_ct, kIt_ap, kIts_ap, seqD_lst, seqD_tup, seqD_scr, kFor_ap, tgN_ap, tgT_ap, tgsS_nil, tgsS_cons, kSl_ap, kSl1_ap, kSl2_ap, kSlF_ap, kSlF1_ap, kPart_ap, kPd_ap, kPdB_t, kPm_ap, kPc_ap, kPar_ap, putP_d, putP_m, putP_0, kHnd_ap, frzD, kAsg_ap, kAsgB_t, sto_non, sto_bl, sto_int, sto_str, sto_tup, sto_lst, sto_dct, sto_ins, sto_hnd, sto_scr, Bool.and_self, Bool.not_true, Bool.not_false, List.getElem?_cons_zero, List.getElem?_cons_succ, List.set_cons_succ, List.set_cons_zero, kM1_ap, kM1b_ap, kOrT_ap, kOrT1_t, kOrT1_f, eqD_ap, neD_ap, Option.map_some, addD_int, subD_int, gtD_int, ltD_int, cmpI_int, intD_int, intD_bl, negD_int, kStr_ap, kLput_ap, kLput1_ap, decide_true, decide_false, e]) (by rw [txs_length]; exact hm)
  have et : (List.filter (fun _ => true) (txs l)) = txs l := List.filter_eq_self.mpr (by simp)
  rw [et] at lc
  show areNamesS c0 ⟨[.d (.tup (txs l)), .un], muz⟩ = _
  simp only [areNamesS, seqS_ap, setS_ap, retS_ap, ifS_ap, iteS_ap, tstS_ap, tNotS_ap, tAndS_ap, tOrS_ap, andS_ap, orS_ap, notS_ap, binS_ap, unS_ap, callF_ap, callV_ap, callN_ap, consS_ap, nilS_ap, tupS_ap, lstF_ap, frzS_ap, ownS_ap, exS_ap, cS_ap, varS_ap, parA_ap, parS_inl, parS_inr, parS_nil, forS_ap, itRng_ap, itRng2_ap, itS_ap, itStr_ap, lcF_ap, slS_ap, slF_ap, noPartS_ap, partS_ap, isiS_ap, chainS_ap, nxS_ap, bkS_ap, ctS_ap, yesS_ap, orT_ap, appS_ap, popAtS_ap, dputS_ap, lputS_ap, hndS_ap, m1S_ap, asgS_ap, O.bind_ok, kVar_d, kVar_own, kB1_ap, kB2_ap, kU_ap, kAnd_t, kAnd_f, kOr_t, kOr_f, kNot_ap, kTst_ap, kTAnd_t, kTAnd_f, kTOr_t, kTOr_f, kTNot_ap, kIte_t, kIte_f, kC0_ap, kC1_ap, kC1'_t, kC1'_f, kC2_ap, kCons_ap, kCons2_ap, kTup_0, kTup_1, kTup_2, kTupB_t, kLst_0, kLst_1, kLstB_t, kFrz_ap, kCv_ap, kCn_ap, ofO_some, ofN_some, kEx_ap, kSet_ap, kSetB_t, kOwn_ap, kRet_non, kRet_bl, kRet_int, kRet_str, kRet_tup, kRet_lst, kRet_hnd, kRet_dct, kRet_ins, kRet_loc, kRet1_ap, kSeq_nx, kSeq_rt, kSeq_bk, kSeq_ct, kIt_ap, kIts_ap, seqD_lst, seqD_tup, seqD_scr, kFor_ap, tgN_ap, tgT_ap, tgsS_nil, tgsS_cons, kSl_ap, kSl1_ap, kSl2_ap, kSlF_ap, kSlF1_ap, kPart_ap, kPd_ap, kPdB_t, kPm_ap, kPc_ap, kPar_ap, putP_d, putP_m, putP_0, kHnd_ap, frzD, kAsg_ap, kAsgB_t, sto_non, sto_bl, sto_int, sto_str, sto_tup, sto_lst, sto_dct, sto_ins, sto_hnd, sto_scr, Bool.and_self, Bool.not_true, Bool.not_false, List.getElem?_cons_zero, List.getElem?_cons_succ, List.set_cons_succ, List.set_cons_zero, kM1_ap, kM1b_ap, kOrT_ap, kOrT1_t, kOrT1_f, eqD_ap, neD_ap, Option.map_some, addD_int, subD_int, gtD_int, ltD_int, cmpI_int, intD_int, intD_bl, negD_int, kStr_ap, kLput_ap, kLput1_ap, decide_true, decide_false, isi_tup, lc, all_true]
noncomputable abbrev isRunS (c1 : List D → List MO → R) : M Fl := (seqS (ifS (tOrS (tNotS (tstS (isiS "tuple" (varS 0)))) (tOrS (tstS (binS neD (callV lenD (consS (varS 0) nilS)) (cS (.int 2)))) (tNotS (tstS (callF c1 (consS (binS ixA (varS 0) (cS (.int 0))) nilS)))))) (retS (cS (.bl false))) nxS)
    (retS (andS (callF c1 (consS (binS ixA (varS 0) (cS (.int 1))) nilS)) (binS gtD (callV lenD (consS (binS ixA (varS 0) (cS (.int 1))) nilS)) (cS (.int 0))))))
def IsRunF (c : List D → List MO → R) : Prop := ∀ (b r : List Str) (muz : List MO), Rn 1000 1000 b r → c [rn b r] muz = .ok (.bl true) muz
theorem isRun_ok {c1 : List D → List MO → R} (h1 : AreNames c1) : IsRunF (runD 1 1 (isRunS c1)) := by
  intro b r muz h
  refine runD_eq (s := ⟨[.d (rn b r)], muz⟩) rfl ?_
  have e1 : ∀ rhz, kCall c1 [.tup (txs b)] ⟨rhz, muz⟩ = .ok (.bl true) ⟨rhz, muz⟩ := fun rhz => kCall_eq (h1 b muz h.nb (Nat.le_trans h.bl (by decide))) rfl
  have e2 : ∀ rhz, kCall c1 [.tup (txs r)] ⟨rhz, muz⟩ = .ok (.bl true) ⟨rhz, muz⟩ := fun rhz => kCall_eq (h1 r muz h.nr (Nat.le_trans h.rl (by decide))) rfl
  have l0 : decide ((0 : Int) < (r.length : Nat)) = true := decide_eq_true (by have := List.length_pos_iff.mpr h.ne; omega)
  show isRunS c1 ⟨[.d (rn b r)], muz⟩ = _
  unfold rn
  have l2 : ∀ s, lenD s [.tup [.tup (txs b), .tup (txs r)]] = some (.int 2) := fun s => len_tup s _
  have q2 : (!decide ((2 : Int) = 2)) = false := rfl
  simp only [isRunS, seqS_ap, setS_ap, retS_ap, ifS_ap, iteS_ap, tstS_ap, tNotS_ap, tAndS_ap, tOrS_ap, andS_ap, orS_ap, notS_ap, binS_ap, unS_ap, callF_ap, callV_ap, callN_ap, consS_ap, nilS_ap, tupS_ap, lstF_ap, frzS_ap, ownS_ap, exS_ap, cS_ap, varS_ap, parA_ap, parS_inl, parS_inr, parS_nil, forS_ap, itRng_ap, itRng2_ap, itS_ap, itStr_ap, lcF_ap, slS_ap, slF_ap, noPartS_ap, partS_ap, isiS_ap, chainS_ap, nxS_ap, bkS_ap, ctS_ap, yesS_ap, orT_ap, appS_ap, popAtS_ap, dputS_ap, lputS_ap, hndS_ap, m1S_ap, asgS_ap, O.bind_ok, kVar_d, kVar_own, kB1_ap, kB2_ap, kU_ap, kAnd_t, kAnd_f, kOr_t, kOr_f, kNot_ap, kTst_ap, kTAnd_t, kTAnd_f, kTOr_t, kTOr_f, kTNot_ap, kIte_t, kIte_f, kC0_ap, kC1_ap, kC1'_t, kC1'_f, kC2_ap, kCons_ap, kCons2_ap, kTup_0, kTup_1, kTup_2, kTupB_t, kLst_0, kLst_1, kLstB_t, kFrz_ap, kCv_ap, kCn_ap, ofO_some, ofN_some, kEx_ap, kSet_ap, kSetB_t, kOwn_ap, kRet_non, kRet_bl, kRet_int, kRet_str, kRet_tup, kRet_lst, kRet_hnd, kRet_dct, kRet_ins, kRet_loc, kRet1_ap, kSeq_nx, kSeq_rt, kSeq_bk, kSeq_ct, kIt_ap, kIts_ap, seqD_lst, seqD_tup, seqD_scr, kFor_ap, tgN_ap, tgT_ap, tgsS_nil, tgsS_cons, kSl_ap, kSl1_ap, kSl2_ap, kSlF_ap, kSlF1_ap, kPart_ap, kPd_ap, kPdB_t, kPm_ap, kPc_ap, kPar_ap, putP_d, putP_m, putP_0, kHnd_ap, frzD, kAsg_ap, kAsgB_t, sto_non, sto_bl, sto_int, sto_str, sto_tup, sto_lst, sto_dct, sto_ins, sto_hnd, sto_scr, Bool.and_self, Bool.not_true, Bool.not_false, List.getElem?_cons_zero, List.getElem?_cons_succ, List.set_cons_succ, List.set_cons_zero, kM1_ap, kM1b_ap, kOrT_ap, kOrT1_t, kOrT1_f, eqD_ap, neD_ap, Option.map_some, addD_int, subD_int, gtD_int, ltD_int, cmpI_int, intD_int, intD_bl, negD_int, kStr_ap, kLput_ap, kLput1_ap, decide_true, decide_false, isi_tup, l2, eqB_int, q2, ix_t0, ix_t1, e1, e2, len_tup, txs_length, l0]
noncomputable abbrev needRunS (c2 : List D → List MO → R) : M Fl := (ifS (tNotS (tstS (callF c2 (consS (varS 0) nilS)))) (raiseS 1) nxS)
def NeedRun (c : List D → List MO → R) : Prop := ∀ (b r : List Str) (muz : List MO), Rn 1000 1000 b r → c [rn b r] muz = .ok .non muz
theorem needRun_ok {c2 : List D → List MO → R} (h2 : IsRunF c2) : NeedRun (runD 1 1 (needRunS c2)) := by
  intro b r muz h
  have e1 : ∀ rhz, kCall c2 [rn b r] ⟨rhz, muz⟩ = .ok (.bl true) ⟨rhz, muz⟩ := fun rhz => kCall_eq (h2 b r muz h) rfl
  refine runD_non (s := ⟨[.d (rn b r)], muz⟩) rfl ?_
  show needRunS c2 ⟨[.d (rn b r)], muz⟩ = _
  simp only [needRunS, seqS_ap, setS_ap, retS_ap, ifS_ap, iteS_ap, tstS_ap, tNotS_ap, tAndS_ap, tOrS_ap, andS_ap, orS_ap, notS_ap, binS_ap, unS_ap, callF_ap, callV_ap, callN_ap, consS_ap, nilS_ap, tupS_ap, lstF_ap, frzS_ap, ownS_ap, exS_ap, cS_ap, varS_ap, parA_ap, parS_inl, parS_inr, parS_nil, forS_ap, itRng_ap, itRng2_ap, itS_ap, itStr_ap, lcF_ap, slS_ap, slF_ap, noPartS_ap, partS_ap, isiS_ap, chainS_ap, nxS_ap, bkS_ap, ctS_ap, yesS_ap, orT_ap, appS_ap, popAtS_ap, dputS_ap, lputS_ap, hndS_ap, m1S_ap, asgS_ap, O.bind_ok, kVar_d, kVar_own, kB1_ap, kB2_ap, kU_ap, kAnd_t, kAnd_f, kOr_t, kOr_f, kNot_ap, kTst_ap, kTAnd_t, kTAnd_f, kTOr_t, kTOr_f, kTNot_ap, kIte_t, kIte_f, kC0_ap, kC1_ap, kC1'_t, kC1'_f, kC2_ap, kCons_ap, kCons2_ap, kTup_0, kTup_1, kTup_2, kTupB_t, kLst_0, kLst_1, kLstB_t, kFrz_ap, kCv_ap, kCn_ap, ofO_some, ofN_some, kEx_ap, kSet_ap, kSetB_t, kOwn_ap, kRet_non, kRet_bl, kRet_int, kRet_str, kRet_tup, kRet_lst, kRet_hnd, kRet_dct, kRet_ins, kRet_loc, kRet1_ap, kSeq_nx, kSeq_rt, kSeq_bk, kSeq_ct, kIt_ap, kIts_ap, seqD_lst, seqD_tup, seqD_scr, kFor_ap, tgN_ap, tgT_ap, tgsS_nil, tgsS_cons, kSl_ap, kSl1_ap, kSl2_ap, kSlF_ap, kSlF1_ap, kPart_ap, kPd_ap, kPdB_t, kPm_ap, kPc_ap, kPar_ap, putP_d, putP_m, putP_0, kHnd_ap, frzD, kAsg_ap, kAsgB_t, sto_non, sto_bl, sto_int, sto_str, sto_tup, sto_lst, sto_dct, sto_ins, sto_hnd, sto_scr, Bool.and_self, Bool.not_true, Bool.not_false, List.getElem?_cons_zero, List.getElem?_cons_succ, List.set_cons_succ, List.set_cons_zero, kM1_ap, kM1b_ap, kOrT_ap, kOrT1_t, kOrT1_f, eqD_ap, neD_ap, Option.map_some, addD_int, subD_int, gtD_int, ltD_int, cmpI_int, intD_int, intD_bl, negD_int, kStr_ap, kLput_ap, kLput1_ap, decide_true, decide_false, e1]
end AG

set_option Elab.async false
set_option linter.all false
set_option maxRecDepth 100000
set_option exponentiation.threshold 4000
namespace AG
open PySem L2 AG.Wd
def pl (b r : List Str) (m : Nat) : List Str := (List.range m).map fun i => (wd b r i).getD ⟨#[]⟩
theorem pl_len (b r : List Str) (m : Nat) : (pl b r m).length = m := by simp [pl]
theorem wd_some {b r : List Str} (hr : r ≠ []) (i : Nat) : ∃ x, wd b r i = some x ∧ (x ∈ b ∨ x ∈ r) := by
  have r0 : 0 < r.length := List.length_pos_iff.mpr hr
  by_cases h : i < b.length
  · rw [wd_low h, List.getElem?_eq_getElem h]
    exact ⟨_, rfl, .inl (List.getElem_mem h)⟩
  · obtain ⟨k, rfl⟩ := Nat.exists_eq_add_of_le (show b.length ≤ i by omega)
    rw [wd_high, List.getElem?_eq_getElem (Nat.mod_lt _ r0)]
    exact ⟨_, rfl, .inr (List.getElem_mem _)⟩
theorem pl_get {b r : List Str} (hr : r ≠ []) {m i : Nat} (h : i < m) : (pl b r m)[i]? = wd b r i := by
  unfold pl
  obtain ⟨x, e, _⟩ := wd_some (b := b) hr i
  rw [List.getElem?_map, List.getElem?_range h, e]
  simp [e]
theorem pl_nm {n k : Nat} {b r : List Str} (h : Rn n k b r) (m : Nat) : ∀ x ∈ pl b r m, Nm x := by
  intro x hx
  unfold pl at hx
  obtain ⟨i, _, rfl⟩ := List.mem_map.mp hx
  obtain ⟨x, e, q⟩ := wd_some (b := b) h.ne i
  rw [e]
  rcases q with q | q
  · exact h.nb x q
  · exact h.nr x q
theorem pl_succ (b r : List Str) (m : Nat) : pl b r (m + 1) = pl b r m ++ [(wd b r m).getD ⟨#[]⟩] := by
  unfold pl
  rw [List.range_succ, List.map_append]
  rfl
theorem pl_take {b r : List Str} {m : Nat} (hm : m ≤ b.length) : b.take m = pl b r m := by
  induction m with
  | zero => simp [pl]
  | succ m ih =>
    rw [pl_succ, ← ih (by omega), wd_low (by omega), List.take_succ, List.getElem?_eq_getElem (by omega)]
    rfl
theorem pl_eq {b r c q : List Str} (hr : r ≠ []) (hq : q ≠ []) : pl b r (many b r c q) = pl c q (many b r c q) ↔ ∀ i, wd b r i = wd c q i := by
  constructor
  · intro h
    refine same_all (fun i hi => ?_) hr hq
    rw [← pl_get hr hi, ← pl_get hq hi, h]
  · intro h
    unfold pl
    exact List.map_congr_left fun i _ => by rw [h i]
theorem nm_lay {l : List Str} (h : ∀ x ∈ l, Nm x) : Lay l := fun x hx => (h x hx).lay
noncomputable abbrev plainS : M Fl := (seqS (ownS 2 (slF (frzS (callN listN (consS (binS ixA (varS 0) (cS (.int 0))) nilS))) noPartS (partS (varS 1))))
    (seqS (whS (tstS (binS ltD (callV lenD (consS (varS 2) nilS)) (varS 1))) (appS (varS 2) (binS ixA (binS ixA (varS 0) (cS (.int 1))) (binS modD (callV intD (consS (binS subD (callV lenD (consS (varS 2) nilS)) (callV lenD (consS (binS ixA (varS 0) (cS (.int 0))) nilS))) nilS)) (callV lenD (consS (binS ixA (varS 0) (cS (.int 1))) nilS))))))
    (retS (callV tupleD (consS (varS 2) nilS)))))
def IsPlain (c : List D → List MO → R) : Prop := ∀ (b r : List Str) (m : Nat) (muz : List MO), Rn 1000 1000 b r → m ≤ 900000 → c [rn b r, .int m] muz = .ok (.tup (txs (pl b r m))) muz
theorem plain_wh (b r : List Str) (m : Nat) (muz : List MO) (h : Rn 1000 1000 b r) (hm : m ≤ 900000) : ∀ (k j : Nat), j + k = m → b.length ≤ j ∨ k = 0 →
    whS (tstS (binS ltD (callV lenD (consS (varS 2) nilS)) (varS 1))) (appS (varS 2) (binS ixA (binS ixA (varS 0) (cS (.int 1))) (binS modD (callV intD (consS (binS subD (callV lenD (consS (varS 2) nilS)) (callV lenD (consS (binS ixA (varS 0) (cS (.int 0))) nilS))) nilS)) (callV lenD (consS (binS ixA (varS 0) (cS (.int 1))) nilS))))) ⟨[.d (rn b r), .d (.int m), .own (.ml (txs (pl b r j)))], muz⟩ = .ok .nx ⟨[.d (rn b r), .d (.int m), .own (.ml (txs (pl b r m)))], muz⟩ := by
  intro k
  have len2 : ∀ j, lenD ⟨[.d (rn b r), .d (.int m), .own (.ml (txs (pl b r j)))], muz⟩ [.loc 2] = some (.int j) := fun j => by
    unfold lenD vw
    simp only [List.getElem?_cons_zero, List.getElem?_cons_succ, frzD, txs_length, pl_len]
  induction k with
  | zero =>
    intro j hj hb
    have e : j = m := by omega
    subst e
    have hl : decide ((j : Int) < (j : Int)) = false := by simp
    exact wh_end (by simp only [seqS_ap, setS_ap, retS_ap, ifS_ap, iteS_ap, tstS_ap, tNotS_ap, tAndS_ap, tOrS_ap, andS_ap, orS_ap, notS_ap, binS_ap, unS_ap, callF_ap, callV_ap, callN_ap, consS_ap, nilS_ap, tupS_ap, lstF_ap, frzS_ap, ownS_ap, exS_ap, cS_ap, varS_ap, parA_ap, parS_inl, parS_inr, parS_nil, forS_ap, itRng_ap, itRng2_ap, itS_ap, itStr_ap, lcF_ap, slS_ap, slF_ap, noPartS_ap, partS_ap, isiS_ap, chainS_ap, nxS_ap, bkS_ap, ctS_ap, yesS_ap, orT_ap, appS_ap, popAtS_ap, dputS_ap, lputS_ap, hndS_ap, m1S_ap, asgS_ap, O.bind_ok, kVar_d, kVar_own, kB1_ap, kB2_ap, kU_ap, kAnd_t, kAnd_f, kOr_t, kOr_f, kNot_ap, kTst_ap, kTAnd_t, kTAnd_f, kTOr_t, kTOr_f, kTNot_ap, kIte_t, kIte_f, kC0_ap, kC1_ap, kC1'_t, kC1'_f, kC2_ap, kCons_ap, kCons2_ap, kTup_0, kTup_1, kTup_2, kTupB_t, kLst_0, kLst_1, kLstB_t, kFrz_ap, kCv_ap, kCn_ap, ofO_some, ofN_some, kEx_ap, kSet_ap, kSetB_t, kOwn_ap, kRet_non, kRet_bl, kRet_int, kRet_str, kRet_tup, kRet_lst, kRet_hnd, kRet_dct, kRet_ins, kRet_loc, kRet1_ap, kSeq_nx, kSeq_rt, kSeq_bk, kSeq_ct, kIt_ap, kIts_ap, seqD_lst, seqD_tup, seqD_scr, kFor_ap, tgN_ap, tgT_ap, tgsS_nil, tgsS_cons, kSl_ap, kSl1_ap, kSl2_ap, kSlF_ap, kSlF1_ap, kPart_ap, kPd_ap, kPdB_t, kPm_ap, kPc_ap, kPar_ap, putP_d, putP_m, putP_0, kHnd_ap, frzD, kAsg_ap, kAsgB_t, sto_non, sto_bl, sto_int, sto_str, sto_tup, sto_lst, sto_dct, sto_ins, sto_hnd, sto_scr, Bool.and_self, Bool.not_true, Bool.not_false, List.getElem?_cons_zero, List.getElem?_cons_succ, List.set_cons_succ, List.set_cons_zero, kM1_ap, kM1b_ap, kOrT_ap, kOrT1_t, kOrT1_f, eqD_ap, neD_ap, Option.map_some, addD_int, subD_int, gtD_int, ltD_int, cmpI_int, intD_int, intD_bl, negD_int, kStr_ap, kLput_ap, kLput1_ap, decide_true, decide_false, len2, hl])
  | succ k ih =>
    intro j hj hb
    have hb' : b.length ≤ j := by omega
    have hl : decide ((j : Int) < (m : Int)) = true := decide_eq_true (by omega)
    have r0 : 0 < r.length := List.length_pos_iff.mpr h.ne
    obtain ⟨d, rfl⟩ := Nat.exists_eq_add_of_le hb'
    have dm : d % r.length < r.length := Nat.mod_lt _ r0
    have emod : (((b.length + d : Nat) : Int) - (b.length : Nat)) % (r.length : Nat) = ((d % r.length : Nat) : Int) := by
      rw [show ((b.length + d : Nat) : Int) - (b.length : Nat) = (d : Int) by omega]
      rfl
    have em : ∀ s, modD s (.int (((b.length + d : Nat) : Int) - (b.length : Nat))) (.int (r.length : Nat)) = some (.int ((d % r.length : Nat) : Int)) := fun s => by rw [modD_int s _ (by omega), emod]
    have ei : ∀ s, ixA s (.tup (txs r)) (.int ((d % r.length : Nat) : Int)) = some (.str r[d % r.length]) := fun s => by
      show atI (txs r) _ = _
      rw [atI_ok _ _ (by omega) (by rw [txs_length]; omega), Int.toNat_natCast, txs_get, List.getElem?_eq_getElem dm]
      rfl
    have ea := kApp_own (g := binS ixA (binS ixA (varS 0) (cS (.int 1))) (binS modD (callV intD (consS (binS subD (callV lenD (consS (varS 2) nilS)) (callV lenD (consS (binS ixA (varS 0) (cS (.int 0))) nilS))) nilS)) (callV lenD (consS (binS ixA (varS 0) (cS (.int 1))) nilS)))) (i := 2) (rhz := [.d (rn b r), .d (.int m), .own (.ml (txs (pl b r (b.length + d))))]) (muz := muz) (l := txs (pl b r (b.length + d))) rfl
    have ea2 := kApp1_own (i := 2) (rhz := [.d (rn b r), .d (.int m), .own (.ml (txs (pl b r (b.length + d))))]) (muz := muz) (l := txs (pl b r (b.length + d))) (y := .str r[d % r.length]) rfl rfl (by rw [txs_length, pl_len]; exact Nat.lt_of_lt_of_le (show b.length + d < 1000000 by omega) (by decide))
    have es : txs (pl b r (b.length + d)) ++ [D.str r[d % r.length]] = txs (pl b r (b.length + d + 1)) := by
      rw [pl_succ, wd_high, List.getElem?_eq_getElem dm]
      simp [txs]
    rw [es] at ea2
    have eb : (appS (varS 2) (binS ixA (binS ixA (varS 0) (cS (.int 1))) (binS modD (callV intD (consS (binS subD (callV lenD (consS (varS 2) nilS)) (callV lenD (consS (binS ixA (varS 0) (cS (.int 0))) nilS))) nilS)) (callV lenD (consS (binS ixA (varS 0) (cS (.int 1))) nilS))))) ⟨[.d (rn b r), .d (.int m), .own (.ml (txs (pl b r (b.length + d))))], muz⟩ = .ok .nx ⟨[.d (rn b r), .d (.int m), .own (.ml (txs (pl b r (b.length + d + 1))))], muz⟩ := by
      unfold rn at ea ea2 len2 ⊢
      simp only [seqS_ap, setS_ap, retS_ap, ifS_ap, iteS_ap, tstS_ap, tNotS_ap, tAndS_ap, tOrS_ap, andS_ap, orS_ap, notS_ap, binS_ap, unS_ap, callF_ap, callV_ap, callN_ap, consS_ap, nilS_ap, tupS_ap, lstF_ap, frzS_ap, ownS_ap, exS_ap, cS_ap, varS_ap, parA_ap, parS_inl, parS_inr, parS_nil, forS_ap, itRng_ap, itRng2_ap, itS_ap, itStr_ap, lcF_ap, slS_ap, slF_ap, noPartS_ap, partS_ap, isiS_ap, chainS_ap, nxS_ap, bkS_ap, ctS_ap, yesS_ap, orT_ap, appS_ap, popAtS_ap, dputS_ap, lputS_ap, hndS_ap, m1S_ap, asgS_ap, O.bind_ok, kVar_d, kVar_own, kB1_ap, kB2_ap, kU_ap, kAnd_t, kAnd_f, kOr_t, kOr_f, kNot_ap, kTst_ap, kTAnd_t, kTAnd_f, kTOr_t, kTOr_f, kTNot_ap, kIte_t, kIte_f, kC0_ap, kC1_ap, kC1'_t, kC1'_f, kC2_ap, kCons_ap, kCons2_ap, kTup_0, kTup_1, kTup_2, kTupB_t, kLst_0, kLst_1, kLstB_t, kFrz_ap, kCv_ap, kCn_ap, ofO_some, ofN_some, kEx_ap, kSet_ap, kSetB_t, kOwn_ap, kRet_non, kRet_bl, kRet_int, kRet_str, kRet_tup, kRet_lst, kRet_hnd, kRet_dct, kRet_ins, kRet_loc, kRet1_ap, kSeq_nx, kSeq_rt, kSeq_bk, kSeq_ct, kIt_ap, kIts_ap, seqD_lst, seqD_tup, seqD_scr, kFor_ap, tgN_ap, tgT_ap, tgsS_nil, tgsS_cons, kSl_ap, kSl1_ap, kSl2_ap, kSlF_ap, kSlF1_ap, kPart_ap, kPd_ap, kPdB_t, kPm_ap, kPc_ap, kPar_ap, putP_d, putP_m, putP_0, kHnd_ap, frzD, kAsg_ap, kAsgB_t, sto_non, sto_bl, sto_int, sto_str, sto_tup, sto_lst, sto_dct, sto_ins, sto_hnd, sto_scr, Bool.and_self, Bool.not_true, Bool.not_false, List.getElem?_cons_zero, List.getElem?_cons_succ, List.set_cons_succ, List.set_cons_zero, kM1_ap, kM1b_ap, kOrT_ap, kOrT1_t, kOrT1_f, eqD_ap, neD_ap, Option.map_some, addD_int, subD_int, gtD_int, ltD_int, cmpI_int, intD_int, intD_bl, negD_int, kStr_ap, kLput_ap, kLput1_ap, decide_true, decide_false, ea, len2, ix_t0, ix_t1, len_tup, txs_length, em, ei, ea2]
    have lj := len2 (b.length + d)
    have hc : (tstS (binS ltD (callV lenD (consS (varS 2) nilS)) (varS 1))) ⟨[.d (rn b r), .d (.int m), .own (.ml (txs (pl b r (b.length + d))))], muz⟩ = .ok true ⟨[.d (rn b r), .d (.int m), .own (.ml (txs (pl b r (b.length + d))))], muz⟩ := by
      simp only [seqS_ap, setS_ap, retS_ap, ifS_ap, iteS_ap, tstS_ap, tNotS_ap, tAndS_ap, tOrS_ap, andS_ap, orS_ap, notS_ap, binS_ap, unS_ap, callF_ap, callV_ap, callN_ap, consS_ap, nilS_ap, tupS_ap, lstF_ap, frzS_ap, ownS_ap, exS_ap, cS_ap, varS_ap, parA_ap, parS_inl, parS_inr, parS_nil, forS_ap, itRng_ap, itRng2_ap, itS_ap, itStr_ap, lcF_ap, slS_ap, slF_ap, noPartS_ap, partS_ap, isiS_ap, chainS_ap, nxS_ap, bkS_ap, ctS_ap, yesS_ap, orT_ap, appS_ap, popAtS_ap, dputS_ap, lputS_ap, hndS_ap, m1S_ap, asgS_ap, O.bind_ok, kVar_d, kVar_own, kB1_ap, kB2_ap, kU_ap, kAnd_t, kAnd_f, kOr_t, kOr_f, kNot_ap, kTst_ap, kTAnd_t, kTAnd_f, kTOr_t, kTOr_f, kTNot_ap, kIte_t, kIte_f, kC0_ap, kC1_ap, kC1'_t, kC1'_f, kC2_ap, kCons_ap, kCons2_ap, kTup_0, kTup_1, kTup_2, kTupB_t, kLst_0, kLst_1, kLstB_t, kFrz_ap, kCv_ap, kCn_ap, ofO_some, ofN_some, kEx_ap, kSet_ap, kSetB_t, kOwn_ap, kRet_non, kRet_bl, kRet_int, kRet_str, kRet_tup, kRet_lst, kRet_hnd, kRet_dct, kRet_ins, kRet_loc, kRet1_ap, kSeq_nx, kSeq_rt, kSeq_bk, kSeq_ct, kIt_ap, kIts_ap, seqD_lst, seqD_tup, seqD_scr, kFor_ap, tgN_ap, tgT_ap, tgsS_nil, tgsS_cons, kSl_ap, kSl1_ap, kSl2_ap, kSlF_ap, kSlF1_ap, kPart_ap, kPd_ap, kPdB_t, kPm_ap, kPc_ap, kPar_ap, putP_d, putP_m, putP_0, kHnd_ap, frzD, kAsg_ap, kAsgB_t, sto_non, sto_bl, sto_int, sto_str, sto_tup, sto_lst, sto_dct, sto_ins, sto_hnd, sto_scr, Bool.and_self, Bool.not_true, Bool.not_false, List.getElem?_cons_zero, List.getElem?_cons_succ, List.set_cons_succ, List.set_cons_zero, kM1_ap, kM1b_ap, kOrT_ap, kOrT1_t, kOrT1_f, eqD_ap, neD_ap, Option.map_some, addD_int, subD_int, gtD_int, ltD_int, cmpI_int, intD_int, intD_bl, negD_int, kStr_ap, kLput_ap, kLput1_ap, decide_true, decide_false, lj, hl]
    exact (wh_step hc eb).trans (ih _ (by omega) (by omega))
theorem plain_ok : IsPlain (runD 3 2 plainS) := by
  intro b r m muz h hm
  have eL : ∀ s, listN s [.tup (txs b)] = some (.ml (txs b)) := fun s => Eq.trans rfl rfl
  have go : ∃ j, b.take m = pl b r j ∧ j + (m - j) = m ∧ (b.length ≤ j ∨ m - j = 0) := by
    by_cases q : m ≤ b.length
    · exact ⟨m, pl_take q, by omega, by omega⟩
    · exact ⟨b.length, by rw [List.take_of_length_le (by omega), ← pl_take (Nat.le_refl _), List.take_length], by omega, by omega⟩
  obtain ⟨j, e1, e2, e3⟩ := go
  have w := plain_wh b r m muz h hm (m - j) j e2 e3
  refine runD_eq (s := ⟨[.d (rn b r), .d (.int m), .own (.ml (txs (pl b r m)))], muz⟩) rfl ?_
  show plainS ⟨[.d (rn b r), .d (.int m), .un], muz⟩ = _
  have et : ∀ s : S, s.rhz[2]? = some (.own (.ml (txs (pl b r m)))) → tupleD s [.loc 2] = some (.tup (txs (pl b r m))) := fun s hs => by
    unfold tupleD vw
    simp only [hs, frzD]
  unfold rn at w et ⊢
  simp only [plainS, seqS_ap, setS_ap, retS_ap, ifS_ap, iteS_ap, tstS_ap, tNotS_ap, tAndS_ap, tOrS_ap, andS_ap, orS_ap, notS_ap, binS_ap, unS_ap, callF_ap, callV_ap, callN_ap, consS_ap, nilS_ap, tupS_ap, lstF_ap, frzS_ap, ownS_ap, exS_ap, cS_ap, varS_ap, parA_ap, parS_inl, parS_inr, parS_nil, forS_ap, itRng_ap, itRng2_ap, itS_ap, itStr_ap, lcF_ap, slS_ap, slF_ap, noPartS_ap, partS_ap, isiS_ap, chainS_ap, nxS_ap, bkS_ap, ctS_ap, yesS_ap, orT_ap, appS_ap, popAtS_ap, dputS_ap, lputS_ap, hndS_ap, m1S_ap, asgS_ap, O.bind_ok, kVar_d, kVar_own, kB1_ap, kB2_ap, kU_ap, kAnd_t, kAnd_f, kOr_t, kOr_f, kNot_ap, kTst_ap, kTAnd_t, kTAnd_f, kTOr_t, kTOr_f, kTNot_ap, kIte_t, kIte_f, kC0_ap, kC1_ap, kC1'_t, kC1'_f, kC2_ap, kCons_ap, kCons2_ap, kTup_0, kTup_1, kTup_2, kTupB_t, kLst_0, kLst_1, kLstB_t, kFrz_ap, kCv_ap, kCn_ap, ofO_some, ofN_some, kEx_ap, kSet_ap, kSetB_t, kOwn_ap, kRet_non, kRet_bl, kRet_int, kRet_str, kRet_tup, kRet_lst, kRet_hnd, kRet_dct, kRet_ins, kRet_loc, kRet1_ap, kSeq_nx, kSeq_rt, kSeq_bk, kSeq_ct, kIt_ap, kIts_ap, seqD_lst, seqD_tup, seqD_scr, kFor_ap, tgN_ap, tgT_ap, tgsS_nil, tgsS_cons, kSl_ap, kSl1_ap, kSl2_ap, kSlF_ap, kSlF1_ap, kPart_ap, kPd_ap, kPdB_t, kPm_ap, kPc_ap, kPar_ap, putP_d, putP_m, putP_0, kHnd_ap, frzD, kAsg_ap, kAsgB_t, sto_non, sto_bl, sto_int, sto_str, sto_tup, sto_lst, sto_dct, sto_ins, sto_hnd, sto_scr, Bool.and_self, Bool.not_true, Bool.not_false, List.getElem?_cons_zero, List.getElem?_cons_succ, List.set_cons_succ, List.set_cons_zero, kM1_ap, kM1b_ap, kOrT_ap, kOrT1_t, kOrT1_f, eqD_ap, neD_ap, Option.map_some, addD_int, subD_int, gtD_int, ltD_int, cmpI_int, intD_int, intD_bl, negD_int, kStr_ap, kLput_ap, kLput1_ap, decide_true, decide_false, ix_t0, eL, kSlF2_lst, cut_take, txs_take, e1, w, et]
def IsSame (c : List D → List MO → R) : Prop := ∀ (b r b' r' : List Str) (muz : List MO), Rn 400 400 b r → Rn 400 400 b' r' → ∃ t : Bool, c [rn b r, rn b' r'] muz = .ok (.bl t) muz ∧ (t = true ↔ ∀ i, wd b r i = wd b' r' i)
noncomputable abbrev sameS (c : List D → List MO → R) : M Fl := (seqS (setS 2 (binS addD (binS addD (callV lenD (consS (binS ixA (varS 0) (cS (.int 0))) nilS)) (callV lenD (consS (binS ixA (varS 1) (cS (.int 0))) nilS))) (binS mulE (callV lenD (consS (binS ixA (varS 0) (cS (.int 1))) nilS)) (callV lenD (consS (binS ixA (varS 1) (cS (.int 1))) nilS)))))
    (seqS (setS 2 (binS addD (binS addD (varS 2) (callV lenD (consS (binS ixA (varS 0) (cS (.int 1))) nilS))) (callV lenD (consS (binS ixA (varS 1) (cS (.int 1))) nilS))))
    (retS (binS eqD (callF c (consS (varS 0) (consS (varS 2) nilS))) (callF c (consS (varS 1) (consS (varS 2) nilS)))))))
theorem nat_small {a : Nat} (h : a ≤ 100000) : ((a : Nat) : Int).natAbs < 2 ^ 2000 := by
  rw [Int.natAbs_natCast]
  exact Nat.lt_of_le_of_lt h (Nat.lt_of_lt_of_le (show 100000 < 2 ^ 20 by decide) (Nat.pow_le_pow_right (by omega) (by omega)))
theorem same_ok {c : List D → List MO → R} (hc : IsPlain c) : IsSame (runD 3 2 (sameS c)) := by
  intro b r b' r' muz h h'
  have m1 : r.length * r'.length ≤ 400 * 400 := Nat.mul_le_mul h.rl h'.rl
  have hb := h.bl; have hr := h.rl; have hb' := h'.bl; have hr' := h'.rl
  have hM : many b r b' r' ≤ 900000 := by unfold many; omega
  have e1 : ∀ rhz, kCall c [rn b r, .int (many b r b' r')] ⟨rhz, muz⟩ = .ok (.tup (txs (pl b r (many b r b' r')))) ⟨rhz, muz⟩ := fun rhz => kCall_eq (hc b r _ muz (h.le (by omega) (by omega)) hM) rfl
  have e2 : ∀ rhz, kCall c [rn b' r', .int (many b r b' r')] ⟨rhz, muz⟩ = .ok (.tup (txs (pl b' r' (many b r b' r')))) ⟨rhz, muz⟩ := fun rhz => kCall_eq (hc b' r' _ muz (h'.le (by omega) (by omega)) hM) rfl
  refine ⟨decide (pl b r (many b r b' r') = pl b' r' (many b r b' r')), ?_, by rw [decide_eq_true_iff, pl_eq h.ne h'.ne]⟩
  refine runD_eq (s := ⟨[.d (rn b r), .d (rn b' r'), .d (.int (many b r b' r'))], muz⟩) rfl ?_
  show sameS c ⟨[.d (rn b r), .d (rn b' r'), .un], muz⟩ = _
  have mm : ∀ s, mulE s (.int (r.length : Nat)) (.int (r'.length : Nat)) = some (.int (((r.length * r'.length : Nat) : Nat) : Int)) := fun s => by
    rw [mulE_int s (nat_small (by omega)) (nat_small (by omega))]
    rfl
  have es : (((b.length : Nat) : Int) + (b'.length : Nat) + ((r.length * r'.length : Nat) : Int) + (r.length : Nat) + (r'.length : Nat)) = ((many b r b' r' : Nat) : Int) := by unfold many; omega
  have eq := fun s => eqB_txs (s := s) (nm_lay (pl_nm h (many b r b' r'))) (nm_lay (pl_nm h' (many b r b' r')))
  unfold rn at e1 e2 ⊢
  simp only [sameS, seqS_ap, setS_ap, retS_ap, ifS_ap, iteS_ap, tstS_ap, tNotS_ap, tAndS_ap, tOrS_ap, andS_ap, orS_ap, notS_ap, binS_ap, unS_ap, callF_ap, callV_ap, callN_ap, consS_ap, nilS_ap, tupS_ap, lstF_ap, frzS_ap, ownS_ap, exS_ap, cS_ap, varS_ap, parA_ap, parS_inl, parS_inr, parS_nil, forS_ap, itRng_ap, itRng2_ap, itS_ap, itStr_ap, lcF_ap, slS_ap, slF_ap, noPartS_ap, partS_ap, isiS_ap, chainS_ap, nxS_ap, bkS_ap, ctS_ap, yesS_ap, orT_ap, appS_ap, popAtS_ap, dputS_ap, lputS_ap, hndS_ap, m1S_ap, asgS_ap, O.bind_ok, kVar_d, kVar_own, kB1_ap, kB2_ap, kU_ap, kAnd_t, kAnd_f, kOr_t, kOr_f, kNot_ap, kTst_ap, kTAnd_t, kTAnd_f, kTOr_t, kTOr_f, kTNot_ap, kIte_t, kIte_f, kC0_ap, kC1_ap, kC1'_t, kC1'_f, kC2_ap, kCons_ap, kCons2_ap, kTup_0, kTup_1, kTup_2, kTupB_t, kLst_0, kLst_1, kLstB_t, kFrz_ap, kCv_ap, kCn_ap, ofO_some, ofN_some, kEx_ap, kSet_ap, kSetB_t, kOwn_ap, kRet_non, kRet_bl, kRet_int, kRet_str, kRet_tup, kRet_lst, kRet_hnd, kRet_dct, kRet_ins, kRet_loc, kRet1_ap, kSeq_nx, kSeq_rt, kSeq_bk, kSeq_ct, kIt_ap, kIts_ap, seqD_lst, seqD_tup, seqD_scr, kFor_ap, tgN_ap, tgT_ap, tgsS_nil, tgsS_cons, kSl_ap, kSl1_ap, kSl2_ap, kSlF_ap, kSlF1_ap, kPart_ap, kPd_ap, kPdB_t, kPm_ap, kPc_ap, kPar_ap, putP_d, putP_m, putP_0, kHnd_ap, frzD, kAsg_ap, kAsgB_t, sto_non, sto_bl, sto_int, sto_str, sto_tup, sto_lst, sto_dct, sto_ins, sto_hnd, sto_scr, Bool.and_self, Bool.not_true, Bool.not_false, List.getElem?_cons_zero, List.getElem?_cons_succ, List.set_cons_succ, List.set_cons_zero, kM1_ap, kM1b_ap, kOrT_ap, kOrT1_t, kOrT1_f, eqD_ap, neD_ap, Option.map_some, addD_int, subD_int, gtD_int, ltD_int, cmpI_int, intD_int, intD_bl, negD_int, kStr_ap, kLput_ap, kLput1_ap, decide_true, decide_false, ix_t0, ix_t1, len_tup, txs_length, mm, es, e1, e2, eq]
end AG

set_option Elab.async false
set_option linter.all false
set_option maxRecDepth 100000
set_option exponentiation.threshold 4000
namespace AG
open PySem L2 AG.Wd
theorem mulE_tup (s : S) {a : List D} {k : Nat} (k1 : 1 ≤ k) (k2 : k ≤ 1000) (h0 : a ≠ []) (hl : a.length ≤ 1000) : mulE s (.tup a) (.int k) = some (.tup (List.replicate k a).flatten) := by
  show (if _ then _ else if _ then _ else _) = _
  by_cases q : k = 1
  · subst q
    rw [if_pos ⟨.inr rfl, by omega, by omega⟩]
    simp
  · rw [if_neg (by intro z; rcases z.1 with z | z; exact h0 z; omega), if_pos ⟨h0, by omega, by omega, hl⟩, Int.toNat_natCast]
theorem addD_tup (s : S) {a b : List D} (h : a.length + b.length ≤ 1000000) : addD s (.tup a) (.tup b) = some (.tup (a ++ b)) := by
  show (if a.length + b.length ≤ LIM then some (D.tup (a ++ b)) else none) = _
  rw [if_pos (show a.length + b.length ≤ LIM from h)]
theorem addD_lst (s : S) {a b : List D} (h : a.length + b.length ≤ 1000000) : addD s (.lst a) (.lst b) = some (.lst (a ++ b)) := by
  show (if a.length + b.length ≤ LIM then some (D.lst (a ++ b)) else none) = _
  rw [if_pos (show a.length + b.length ≤ LIM from h)]
theorem eqB_tup0 {s : S} {b : List Str} (hb : Lay b) : eqB s (.tup (txs b)) (.tup []) = some (decide (b = [])) := eqB_txs (b := []) hb (by simp [Lay])
theorem int_div (a b : Nat) : ((a : Nat) : Int) / ((b : Nat) : Int) = ((a / b : Nat) : Int) := rfl
theorem int_mod (a b : Nat) : ((a : Nat) : Int) % ((b : Nat) : Int) = ((a % b : Nat) : Int) := rfl
noncomputable abbrev rootS : M Fl := (seqS (forS (itRng2 (cS (.int 1)) (callV lenD (consS (varS 0) nilS))) (tgN 1) (ifS (tAndS (tstS (binS eqD (binS modD (callV lenD (consS (varS 0) nilS)) (varS 1)) (cS (.int 0)))) (tstS (binS eqD (binS mulE (slS (varS 0) noPartS (partS (varS 1))) (binS fdivD (callV lenD (consS (varS 0) nilS)) (varS 1))) (varS 0)))) (retS (slS (varS 0) noPartS (partS (varS 1)))) nxS))
    (retS (varS 0)))
def IsRoot (c : List D → List MO → R) : Prop := ∀ (r : List Str) (muz : List MO), r ≠ [] → (∀ x ∈ r, Nm x) → r.length ≤ 1000 → ∃ r', c [.tup (txs r)] muz = .ok (.tup (txs r')) muz ∧ Prim r' ∧ r' ≠ [] ∧ r'.length ≤ r.length ∧ (∀ b i, wd b r' i = wd b r i) ∧ ∀ x ∈ r', x ∈ r
theorem root_ok : IsRoot (runD 2 1 rootS) := by
  intro r muz hr hn hl
  have r0 : 0 < r.length := List.length_pos_iff.mpr hr
  have lay := nm_lay hn
  have w : Ok (forL (tgN 1) (ifS (tAndS (tstS (binS eqD (binS modD (callV lenD (consS (varS 0) nilS)) (varS 1)) (cS (.int 0)))) (tstS (binS eqD (binS mulE (slS (varS 0) noPartS (partS (varS 1))) (binS fdivD (callV lenD (consS (varS 0) nilS)) (varS 1))) (varS 0)))) (retS (slS (varS 0) noPartS (partS (varS 1)))) nxS) ((List.range ((r.length : Int) - 1).toNat).map fun k => .int (1 + (k : Nat))) ⟨[.d (.tup (txs r)), .un], muz⟩) fun fl s =>
      (fl = .nx ∧ ∃ s1, s = ⟨[.d (.tup (txs r)), s1], muz⟩ ∧ ∀ g, 0 < g → g < r.length → g ∣ r.length → ¬ Per r g) ∨ (∃ m s1, fl = .rt (.tup (txs (r.take m))) ∧ s = ⟨[.d (.tup (txs r)), s1], muz⟩ ∧ 0 < m ∧ m < r.length ∧ m ∣ r.length ∧ Per r m ∧ ∀ g, 0 < g → g < m → g ∣ r.length → ¬ Per r g) := by
    refine forL_inv _ (fun k s => ∃ s1, s = ⟨[.d (.tup (txs r)), s1], muz⟩ ∧ ∀ g, 0 < g → g < k + 1 → g ∣ r.length → ¬ Per r g) _ ⟨_, rfl, by omega⟩ ?_ ?_
    · rintro k d s hd ⟨s1, rfl, hk⟩
      have hk' : k < ((r.length : Int) - 1).toNat := by
        have := (List.getElem?_eq_some_iff.mp hd).1
        simpa using this
      have ed : d = .int ((k + 1 : Nat) : Int) := by
        rw [List.getElem?_map, List.getElem?_range hk'] at hd
        simp only [Option.map_some, Option.some.injEq] at hd
        rw [← hd]
        congr 1
        omega
      subst ed
      have em : ∀ s, modD s (.int (r.length : Nat)) (.int ((k + 1 : Nat) : Int)) = some (.int ((r.length % (k + 1) : Nat) : Int)) := fun s => by rw [modD_int s _ (by omega), int_mod]
      have ef : ∀ s, fdivD s (.int (r.length : Nat)) (.int ((k + 1 : Nat) : Int)) = some (.int ((r.length / (k + 1) : Nat) : Int)) := fun s => by rw [fdivD_int s _ (by omega) (by omega), int_div]
      by_cases q : r.length % (k + 1) = 0
      · have dv : (k + 1) ∣ r.length := Nat.dvd_of_mod_eq_zero q
        have c1 : decide (((r.length % (k + 1) : Nat) : Int) = 0) = true := decide_eq_true (by omega)
        have tl : (r.take (k + 1)).length = k + 1 := by rw [List.length_take]; omega
        have quo1 : 1 ≤ r.length / (k + 1) := (Nat.le_div_iff_mul_le (by omega)).mpr (by omega)
        have quo2 : r.length / (k + 1) ≤ r.length := Nat.div_le_self _ _
        have emu : ∀ s, mulE s (.tup (txs (r.take (k + 1)))) (.int ((r.length / (k + 1) : Nat) : Int)) = some (.tup (txs (List.replicate (r.length / (k + 1)) (r.take (k + 1))).flatten)) := fun s => by
          rw [mulE_tup s quo1 (by omega) (fun z => by have : (txs (r.take (k + 1))).length = 0 := by rw [z]; rfl
                                                      rw [txs_length] at this; omega) (by rw [txs_length]; omega), txs_rep]
        have eqq : ∀ s, eqB s (.tup (txs (List.replicate (r.length / (k + 1)) (r.take (k + 1))).flatten)) (.tup (txs r)) = some (decide ((List.replicate (r.length / (k + 1)) (r.take (k + 1))).flatten = r)) := fun s => eqB_txs (fun x hx => by
          obtain ⟨l, hl, hx⟩ := List.mem_flatten.mp hx
          have := List.eq_of_mem_replicate hl
          subst this
          exact lay x (List.mem_of_mem_take hx)) lay
        by_cases p : Per r (k + 1)
        · have c2 : decide ((List.replicate (r.length / (k + 1)) (r.take (k + 1))).flatten = r) = true := decide_eq_true ((power_iff (by omega) dv hr).mpr p)
          simp only [seqS_ap, setS_ap, retS_ap, ifS_ap, iteS_ap, tstS_ap, tNotS_ap, tAndS_ap, tOrS_ap, andS_ap, orS_ap, notS_ap, binS_ap, unS_ap, callF_ap, callV_ap, callN_ap, consS_ap, nilS_ap, tupS_ap, lstF_ap, frzS_ap, ownS_ap, exS_ap, cS_ap, varS_ap, parA_ap, parS_inl, parS_inr, parS_nil, forS_ap, itRng_ap, itRng2_ap, itS_ap, itStr_ap, lcF_ap, slS_ap, slF_ap, noPartS_ap, partS_ap, isiS_ap, chainS_ap, nxS_ap, bkS_ap, ctS_ap, yesS_ap, orT_ap, appS_ap, popAtS_ap, dputS_ap, lputS_ap, hndS_ap, m1S_ap, asgS_ap, O.bind_ok, kVar_d, kVar_own, kB1_ap, kB2_ap, kU_ap, kAnd_t, kAnd_f, kOr_t, kOr_f, kNot_ap, kTst_ap, kTAnd_t, kTAnd_f, kTOr_t, kTOr_f, kTNot_ap, kIte_t, kIte_f, kC0_ap, kC1_ap, kC1'_t, kC1'_f, kC2_ap, kCons_ap, kCons2_ap, kTup_0, kTup_1, kTup_2, kTupB_t, kLst_0, kLst_1, kLstB_t, kFrz_ap, kCv_ap, kCn_ap, ofO_some, ofN_some, kEx_ap, kSet_ap, kSetB_t, kOwn_ap, kRet_non, kRet_bl, kRet_int, kRet_str, kRet_tup, kRet_lst, kRet_hnd, kRet_dct, kRet_ins, kRet_loc, kRet1_ap, kSeq_nx, kSeq_rt, kSeq_bk, kSeq_ct, kIt_ap, kIts_ap, seqD_lst, seqD_tup, seqD_scr, kFor_ap, tgN_ap, tgT_ap, tgsS_nil, tgsS_cons, kSl_ap, kSl1_ap, kSl2_ap, kSlF_ap, kSlF1_ap, kPart_ap, kPd_ap, kPdB_t, kPm_ap, kPc_ap, kPar_ap, putP_d, putP_m, putP_0, kHnd_ap, frzD, kAsg_ap, kAsgB_t, sto_non, sto_bl, sto_int, sto_str, sto_tup, sto_lst, sto_dct, sto_ins, sto_hnd, sto_scr, Bool.and_self, Bool.not_true, Bool.not_false, List.getElem?_cons_zero, List.getElem?_cons_succ, List.set_cons_succ, List.set_cons_zero, kM1_ap, kM1b_ap, kOrT_ap, kOrT1_t, kOrT1_f, eqD_ap, neD_ap, Option.map_some, addD_int, subD_int, gtD_int, ltD_int, cmpI_int, intD_int, intD_bl, negD_int, kStr_ap, kLput_ap, kLput1_ap, decide_true, decide_false, len_tup, txs_length, em, eqB_int, c1, slD_tup, cut_take, txs_take, ef, emu, eqq, c2, Ok_ok]
          exact .inr ⟨k + 1, _, rfl, rfl, by omega, by omega, dv, p, hk⟩
        · have c2 : decide ((List.replicate (r.length / (k + 1)) (r.take (k + 1))).flatten = r) = false := decide_eq_false fun z => p ((power_iff (by omega) dv hr).mp z)
          simp only [seqS_ap, setS_ap, retS_ap, ifS_ap, iteS_ap, tstS_ap, tNotS_ap, tAndS_ap, tOrS_ap, andS_ap, orS_ap, notS_ap, binS_ap, unS_ap, callF_ap, callV_ap, callN_ap, consS_ap, nilS_ap, tupS_ap, lstF_ap, frzS_ap, ownS_ap, exS_ap, cS_ap, varS_ap, parA_ap, parS_inl, parS_inr, parS_nil, forS_ap, itRng_ap, itRng2_ap, itS_ap, itStr_ap, lcF_ap, slS_ap, slF_ap, noPartS_ap, partS_ap, isiS_ap, chainS_ap, nxS_ap, bkS_ap, ctS_ap, yesS_ap, orT_ap, appS_ap, popAtS_ap, dputS_ap, lputS_ap, hndS_ap, m1S_ap, asgS_ap, O.bind_ok, kVar_d, kVar_own, kB1_ap, kB2_ap, kU_ap, kAnd_t, kAnd_f, kOr_t, kOr_f, kNot_ap, kTst_ap, kTAnd_t, kTAnd_f, kTOr_t, kTOr_f, kTNot_ap, kIte_t, kIte_f, kC0_ap, kC1_ap, kC1'_t, kC1'_f, kC2_ap, kCons_ap, kCons2_ap, kTup_0, kTup_1, kTup_2, kTupB_t, kLst_0, kLst_1, kLstB_t, kFrz_ap, kCv_ap, kCn_ap, ofO_some, ofN_some, kEx_ap, kSet_ap, kSetB_t, kOwn_ap, kRet_non, kRet_bl, kRet_int, kRet_str, kRet_tup, kRet_lst, kRet_hnd, kRet_dct, kRet_ins, kRet_loc, kRet1_ap, kSeq_nx, kSeq_rt, kSeq_bk, kSeq_ct, kIt_ap, kIts_ap, seqD_lst, seqD_tup, seqD_scr, kFor_ap, tgN_ap, tgT_ap, tgsS_nil, tgsS_cons, kSl_ap, kSl1_ap, kSl2_ap, kSlF_ap, kSlF1_ap, kPart_ap, kPd_ap, kPdB_t, kPm_ap, kPc_ap, kPar_ap, putP_d, putP_m, putP_0, kHnd_ap, frzD, kAsg_ap, kAsgB_t, sto_non, sto_bl, sto_int, sto_str, sto_tup, sto_lst, sto_dct, sto_ins, sto_hnd, sto_scr, Bool.and_self, Bool.not_true, Bool.not_false, List.getElem?_cons_zero, List.getElem?_cons_succ, List.set_cons_succ, List.set_cons_zero, kM1_ap, kM1b_ap, kOrT_ap, kOrT1_t, kOrT1_f, eqD_ap, neD_ap, Option.map_some, addD_int, subD_int, gtD_int, ltD_int, cmpI_int, intD_int, intD_bl, negD_int, kStr_ap, kLput_ap, kLput1_ap, decide_true, decide_false, len_tup, txs_length, em, eqB_int, c1, slD_tup, cut_take, txs_take, ef, emu, eqq, c2, Ok_ok]
          refine ⟨_, rfl, fun g g0 gl gd => ?_⟩
          by_cases z : g = k + 1
          · subst z; exact p
          · exact hk g g0 (by omega) gd
      · have c1 : decide (((r.length % (k + 1) : Nat) : Int) = 0) = false := decide_eq_false (by omega)
        simp only [seqS_ap, setS_ap, retS_ap, ifS_ap, iteS_ap, tstS_ap, tNotS_ap, tAndS_ap, tOrS_ap, andS_ap, orS_ap, notS_ap, binS_ap, unS_ap, callF_ap, callV_ap, callN_ap, consS_ap, nilS_ap, tupS_ap, lstF_ap, frzS_ap, ownS_ap, exS_ap, cS_ap, varS_ap, parA_ap, parS_inl, parS_inr, parS_nil, forS_ap, itRng_ap, itRng2_ap, itS_ap, itStr_ap, lcF_ap, slS_ap, slF_ap, noPartS_ap, partS_ap, isiS_ap, chainS_ap, nxS_ap, bkS_ap, ctS_ap, yesS_ap, orT_ap, appS_ap, popAtS_ap, dputS_ap, lputS_ap, hndS_ap, m1S_ap, asgS_ap, O.bind_ok, kVar_d, kVar_own, kB1_ap, kB2_ap, kU_ap, kAnd_t, kAnd_f, kOr_t, kOr_f, kNot_ap, kTst_ap, kTAnd_t, kTAnd_f, kTOr_t, kTOr_f, kTNot_ap, kIte_t, kIte_f, kC0_ap, kC1_ap, kC1'_t, kC1'_f, kC2_ap, kCons_ap, kCons2_ap, kTup_0, kTup_1, kTup_2, kTupB_t, kLst_0, kLst_1, kLstB_t, kFrz_ap, kCv_ap, kCn_ap, ofO_some, ofN_some, kEx_ap, kSet_ap, kSetB_t, kOwn_ap, kRet_non, kRet_bl, kRet_int, kRet_str, kRet_tup, kRet_lst, kRet_hnd, kRet_dct, kRet_ins, kRet_loc, kRet1_ap, kSeq_nx, kSeq_rt, kSeq_bk, kSeq_ct, kIt_ap, kIts_ap, seqD_lst, seqD_tup, seqD_scr, kFor_ap, tgN_ap, tgT_ap, tgsS_nil, tgsS_cons, kSl_ap, kSl1_ap, kSl2_ap, kSlF_ap, kSlF1_ap, kPart_ap, kPd_ap, kPdB_t, kPm_ap, kPc_ap, kPar_ap, putP_d, putP_m, putP_0, kHnd_ap, frzD, kAsg_ap, kAsgB_t, sto_non, sto_bl, sto_int, sto_str, sto_tup, sto_lst, sto_dct, sto_ins, sto_hnd, sto_scr, Bool.and_self, Bool.not_true, Bool.not_false, List.getElem?_cons_zero, List.getElem?_cons_succ, List.set_cons_succ, List.set_cons_zero, kM1_ap, kM1b_ap, kOrT_ap, kOrT1_t, kOrT1_f, eqD_ap, neD_ap, Option.map_some, addD_int, subD_int, gtD_int, ltD_int, cmpI_int, intD_int, intD_bl, negD_int, kStr_ap, kLput_ap, kLput1_ap, decide_true, decide_false, len_tup, txs_length, em, eqB_int, c1, Ok_ok]
        refine ⟨_, rfl, fun g g0 gl gd => ?_⟩
        by_cases z : g = k + 1
        · subst z; exact absurd (Nat.mod_eq_zero_of_dvd gd) q
        · exact hk g g0 (by omega) gd
    · rintro s ⟨s1, rfl, hk⟩
      rw [List.length_map, List.length_range] at hk
      exact .inl ⟨rfl, s1, rfl, fun g g0 gl gd => hk g g0 (by omega) gd⟩
  obtain ⟨fl, s, e, w⟩ := w.ex
  have er : ∀ s : S, kRng2b 1 (.int (r.length : Nat)) s = .ok ((List.range ((r.length : Int) - 1).toNat).map fun k => .int (1 + (k : Nat))) s := fun s => kRng2b_ap 1 _ s (by omega)
  rcases w with ⟨rfl, s1, rfl, hk⟩ | ⟨m, s1, rfl, rfl, m0, m1, md, mp, mn⟩
  · refine ⟨r, ?_, hk, hr, Nat.le_refl _, fun _ _ => rfl, fun x h => h⟩
    refine runD_eq (s := ⟨[.d (.tup (txs r)), s1], muz⟩) rfl ?_
    show rootS ⟨[.d (.tup (txs r)), .un], muz⟩ = _
    simp only [rootS, seqS_ap, setS_ap, retS_ap, ifS_ap, iteS_ap, tstS_ap, tNotS_ap, tAndS_ap, tOrS_ap, andS_ap, orS_ap, notS_ap, binS_ap, unS_ap, callF_ap, callV_ap, callN_ap, consS_ap, nilS_ap, tupS_ap, lstF_ap, frzS_ap, ownS_ap, exS_ap, cS_ap, varS_ap, parA_ap, parS_inl, parS_inr, parS_nil, forS_ap, itRng_ap, itRng2_ap, itS_ap, itStr_ap, lcF_ap, slS_ap, slF_ap, noPartS_ap, partS_ap, isiS_ap, chainS_ap, nxS_ap, bkS_ap, ctS_ap, yesS_ap, orT_ap, appS_ap, popAtS_ap, dputS_ap, lputS_ap, hndS_ap, m1S_ap, asgS_ap, O.bind_ok, kVar_d, kVar_own, kB1_ap, kB2_ap, kU_ap, kAnd_t, kAnd_f, kOr_t, kOr_f, kNot_ap, kTst_ap, kTAnd_t, kTAnd_f, kTOr_t, kTOr_f, kTNot_ap, kIte_t, kIte_f, kC0_ap, kC1_ap, kC1'_t, kC1'_f, kC2_ap, kCons_ap, kCons2_ap, kTup_0, kTup_1, kTup_2, kTupB_t, kLst_0, kLst_1, kLstB_t, kFrz_ap, kCv_ap, kCn_ap, ofO_some, ofN_some, kEx_ap, kSet_ap, kSetB_t, kOwn_ap, kRet_non, kRet_bl, kRet_int, kRet_str, kRet_tup, kRet_lst, kRet_hnd, kRet_dct, kRet_ins, kRet_loc, kRet1_ap, kSeq_nx, kSeq_rt, kSeq_bk, kSeq_ct, kIt_ap, kIts_ap, seqD_lst, seqD_tup, seqD_scr, kFor_ap, tgN_ap, tgT_ap, tgsS_nil, tgsS_cons, kSl_ap, kSl1_ap, kSl2_ap, kSlF_ap, kSlF1_ap, kPart_ap, kPd_ap, kPdB_t, kPm_ap, kPc_ap, kPar_ap, putP_d, putP_m, putP_0, kHnd_ap, frzD, kAsg_ap, kAsgB_t, sto_non, sto_bl, sto_int, sto_str, sto_tup, sto_lst, sto_dct, sto_ins, sto_hnd, sto_scr, Bool.and_self, Bool.not_true, Bool.not_false, List.getElem?_cons_zero, List.getElem?_cons_succ, List.set_cons_succ, List.set_cons_zero, kM1_ap, kM1b_ap, kOrT_ap, kOrT1_t, kOrT1_f, eqD_ap, neD_ap, Option.map_some, addD_int, subD_int, gtD_int, ltD_int, cmpI_int, intD_int, intD_bl, negD_int, kStr_ap, kLput_ap, kLput1_ap, decide_true, decide_false, kRng2_ap, len_tup, txs_length, er, e]
  · have tl : (r.take m).length = m := by rw [List.length_take]; omega
    refine ⟨r.take m, ?_, prim_take m0 md hr mp mn, fun z => by rw [z] at tl; simp at tl; omega, by omega, fun b i => take_per m0 md hr mp b i, fun x h => List.mem_of_mem_take h⟩
    refine runD_eq (s := ⟨[.d (.tup (txs r)), s1], muz⟩) rfl ?_
    show rootS ⟨[.d (.tup (txs r)), .un], muz⟩ = _
    simp only [rootS, seqS_ap, setS_ap, retS_ap, ifS_ap, iteS_ap, tstS_ap, tNotS_ap, tAndS_ap, tOrS_ap, andS_ap, orS_ap, notS_ap, binS_ap, unS_ap, callF_ap, callV_ap, callN_ap, consS_ap, nilS_ap, tupS_ap, lstF_ap, frzS_ap, ownS_ap, exS_ap, cS_ap, varS_ap, parA_ap, parS_inl, parS_inr, parS_nil, forS_ap, itRng_ap, itRng2_ap, itS_ap, itStr_ap, lcF_ap, slS_ap, slF_ap, noPartS_ap, partS_ap, isiS_ap, chainS_ap, nxS_ap, bkS_ap, ctS_ap, yesS_ap, orT_ap, appS_ap, popAtS_ap, dputS_ap, lputS_ap, hndS_ap, m1S_ap, asgS_ap, O.bind_ok, kVar_d, kVar_own, kB1_ap, kB2_ap, kU_ap, kAnd_t, kAnd_f, kOr_t, kOr_f, kNot_ap, kTst_ap, kTAnd_t, kTAnd_f, kTOr_t, kTOr_f, kTNot_ap, kIte_t, kIte_f, kC0_ap, kC1_ap, kC1'_t, kC1'_f, kC2_ap, kCons_ap, kCons2_ap, kTup_0, kTup_1, kTup_2, kTupB_t, kLst_0, kLst_1, kLstB_t, kFrz_ap, kCv_ap, kCn_ap, ofO_some, ofN_some, kEx_ap, kSet_ap, kSetB_t, kOwn_ap, kRet_non, kRet_bl, kRet_int, kRet_str, kRet_tup, kRet_lst, kRet_hnd, kRet_dct, kRet_ins, kRet_loc, kRet1_ap, kSeq_nx, kSeq_rt, kSeq_bk, kSeq_ct, kIt_ap, kIts_ap, seqD_lst, seqD_tup, seqD_scr, kFor_ap, tgN_ap, tgT_ap, tgsS_nil, tgsS_cons, kSl_ap, kSl1_ap, kSl2_ap, kSlF_ap, kSlF1_ap, kPart_ap, kPd_ap, kPdB_t, kPm_ap, kPc_ap, kPar_ap, putP_d, putP_m, putP_0, kHnd_ap, frzD, kAsg_ap, kAsgB_t, sto_non, sto_bl, sto_int, sto_str, sto_tup, sto_lst, sto_dct, sto_ins, sto_hnd, sto_scr, Bool.and_self, Bool.not_true, Bool.not_false, List.getElem?_cons_zero, List.getElem?_cons_succ, List.set_cons_succ, List.set_cons_zero, kM1_ap, kM1b_ap, kOrT_ap, kOrT1_t, kOrT1_f, eqD_ap, neD_ap, Option.map_some, addD_int, subD_int, gtD_int, ltD_int, cmpI_int, intD_int, intD_bl, negD_int, kStr_ap, kLput_ap, kLput1_ap, decide_true, decide_false, kRng2_ap, len_tup, txs_length, er, e]
abbrev lrC : M Bool := (tAndS (tstS (binS neD (varS 1) (tupS nilS))) (tstS (binS eqD (binS ixA (varS 1) (unS negD (cS (.int 1)))) (binS ixA (varS 2) (unS negD (cS (.int 1)))))))
abbrev lrB : M Fl := (parA [1, 2] [.inl (slS (varS 1) noPartS (partS (unS negD (cS (.int 1))))), .inl (binS addD (slS (varS 2) (partS (unS negD (cS (.int 1)))) noPartS) (slS (varS 2) noPartS (partS (unS negD (cS (.int 1))))))])
theorem lr_while (d0 : D) (muz : List MO) : ∀ (n : Nat) (b r : List Str), b.length = n → Rn 1000 1000 b r → Prim r →
    ∃ b' r', whS lrC lrB ⟨[.d d0, .d (.tup (txs b)), .d (.tup (txs r))], muz⟩ = .ok .nx ⟨[.d d0, .d (.tup (txs b')), .d (.tup (txs r'))], muz⟩ ∧ Least b' r' ∧ (∀ i, wd b' r' i = wd b r i) ∧ Rn b.length r.length b' r' := by
  intro n
  induction n with
  | zero =>
    intro b r hb h hp
    have e0 : b = [] := List.eq_nil_of_length_eq_zero hb
    subst e0
    refine ⟨[], r, wh_end ?_, ⟨h.ne, hp, fun z => absurd rfl z⟩, fun _ => rfl, ⟨h.nb, h.nr, h.ne, Nat.le_refl _, Nat.le_refl _⟩⟩
    have e1 := fun s => eqB_tup0 (s := s) (b := []) (by simp [Lay])
    simp only [lrC, seqS_ap, setS_ap, retS_ap, ifS_ap, iteS_ap, tstS_ap, tNotS_ap, tAndS_ap, tOrS_ap, andS_ap, orS_ap, notS_ap, binS_ap, unS_ap, callF_ap, callV_ap, callN_ap, consS_ap, nilS_ap, tupS_ap, lstF_ap, frzS_ap, ownS_ap, exS_ap, cS_ap, varS_ap, parA_ap, parS_inl, parS_inr, parS_nil, forS_ap, itRng_ap, itRng2_ap, itS_ap, itStr_ap, lcF_ap, slS_ap, slF_ap, noPartS_ap, partS_ap, isiS_ap, chainS_ap, nxS_ap, bkS_ap, ctS_ap, yesS_ap, orT_ap, appS_ap, popAtS_ap, dputS_ap, lputS_ap, hndS_ap, m1S_ap, asgS_ap, O.bind_ok, kVar_d, kVar_own, kB1_ap, kB2_ap, kU_ap, kAnd_t, kAnd_f, kOr_t, kOr_f, kNot_ap, kTst_ap, kTAnd_t, kTAnd_f, kTOr_t, kTOr_f, kTNot_ap, kIte_t, kIte_f, kC0_ap, kC1_ap, kC1'_t, kC1'_f, kC2_ap, kCons_ap, kCons2_ap, kTup_0, kTup_1, kTup_2, kTupB_t, kLst_0, kLst_1, kLstB_t, kFrz_ap, kCv_ap, kCn_ap, ofO_some, ofN_some, kEx_ap, kSet_ap, kSetB_t, kOwn_ap, kRet_non, kRet_bl, kRet_int, kRet_str, kRet_tup, kRet_lst, kRet_hnd, kRet_dct, kRet_ins, kRet_loc, kRet1_ap, kSeq_nx, kSeq_rt, kSeq_bk, kSeq_ct, kIt_ap, kIts_ap, seqD_lst, seqD_tup, seqD_scr, kFor_ap, tgN_ap, tgT_ap, tgsS_nil, tgsS_cons, kSl_ap, kSl1_ap, kSl2_ap, kSlF_ap, kSlF1_ap, kPart_ap, kPd_ap, kPdB_t, kPm_ap, kPc_ap, kPar_ap, putP_d, putP_m, putP_0, kHnd_ap, frzD, kAsg_ap, kAsgB_t, sto_non, sto_bl, sto_int, sto_str, sto_tup, sto_lst, sto_dct, sto_ins, sto_hnd, sto_scr, Bool.and_self, Bool.not_true, Bool.not_false, List.getElem?_cons_zero, List.getElem?_cons_succ, List.set_cons_succ, List.set_cons_zero, kM1_ap, kM1b_ap, kOrT_ap, kOrT1_t, kOrT1_f, eqD_ap, neD_ap, Option.map_some, addD_int, subD_int, gtD_int, ltD_int, cmpI_int, intD_int, intD_bl, negD_int, kStr_ap, kLput_ap, kLput1_ap, decide_true, decide_false, e1]
  | succ n ih =>
    intro b r hb h hp
    rcases List.eq_nil_or_concat b with q | ⟨b', x, q⟩
    · rw [q] at hb; simp at hb
    rcases List.eq_nil_or_concat r with q2 | ⟨r', y, q2⟩
    · exact absurd q2 h.ne
    simp only [List.concat_eq_append] at q q2
    subst q q2
    have e1 := fun s => eqB_tup0 (s := s) (b := b' ++ [x]) (nm_lay h.nb)
    have c1 : decide (b' ++ [x] = []) = false := decide_eq_false (by simp)
    have i1 : ∀ s, ixA s (.tup (txs (b' ++ [x]))) (.int (-1)) = some (.str x) := fun s => ix_last s _ (by rw [txs_last]; simp)
    have i2 : ∀ s, ixA s (.tup (txs (r' ++ [y]))) (.int (-1)) = some (.str y) := fun s => ix_last s _ (by rw [txs_last]; simp)
    by_cases xy : x = y
    · subst xy
      have c2 : decide (x = x) = true := decide_eq_true rfl
      have hc : lrC ⟨[.d d0, .d (.tup (txs (b' ++ [x]))), .d (.tup (txs (r' ++ [x])))], muz⟩ = .ok true ⟨[.d d0, .d (.tup (txs (b' ++ [x]))), .d (.tup (txs (r' ++ [x])))], muz⟩ := by
        simp only [lrC, seqS_ap, setS_ap, retS_ap, ifS_ap, iteS_ap, tstS_ap, tNotS_ap, tAndS_ap, tOrS_ap, andS_ap, orS_ap, notS_ap, binS_ap, unS_ap, callF_ap, callV_ap, callN_ap, consS_ap, nilS_ap, tupS_ap, lstF_ap, frzS_ap, ownS_ap, exS_ap, cS_ap, varS_ap, parA_ap, parS_inl, parS_inr, parS_nil, forS_ap, itRng_ap, itRng2_ap, itS_ap, itStr_ap, lcF_ap, slS_ap, slF_ap, noPartS_ap, partS_ap, isiS_ap, chainS_ap, nxS_ap, bkS_ap, ctS_ap, yesS_ap, orT_ap, appS_ap, popAtS_ap, dputS_ap, lputS_ap, hndS_ap, m1S_ap, asgS_ap, O.bind_ok, kVar_d, kVar_own, kB1_ap, kB2_ap, kU_ap, kAnd_t, kAnd_f, kOr_t, kOr_f, kNot_ap, kTst_ap, kTAnd_t, kTAnd_f, kTOr_t, kTOr_f, kTNot_ap, kIte_t, kIte_f, kC0_ap, kC1_ap, kC1'_t, kC1'_f, kC2_ap, kCons_ap, kCons2_ap, kTup_0, kTup_1, kTup_2, kTupB_t, kLst_0, kLst_1, kLstB_t, kFrz_ap, kCv_ap, kCn_ap, ofO_some, ofN_some, kEx_ap, kSet_ap, kSetB_t, kOwn_ap, kRet_non, kRet_bl, kRet_int, kRet_str, kRet_tup, kRet_lst, kRet_hnd, kRet_dct, kRet_ins, kRet_loc, kRet1_ap, kSeq_nx, kSeq_rt, kSeq_bk, kSeq_ct, kIt_ap, kIts_ap, seqD_lst, seqD_tup, seqD_scr, kFor_ap, tgN_ap, tgT_ap, tgsS_nil, tgsS_cons, kSl_ap, kSl1_ap, kSl2_ap, kSlF_ap, kSlF1_ap, kPart_ap, kPd_ap, kPdB_t, kPm_ap, kPc_ap, kPar_ap, putP_d, putP_m, putP_0, kHnd_ap, frzD, kAsg_ap, kAsgB_t, sto_non, sto_bl, sto_int, sto_str, sto_tup, sto_lst, sto_dct, sto_ins, sto_hnd, sto_scr, Bool.and_self, Bool.not_true, Bool.not_false, List.getElem?_cons_zero, List.getElem?_cons_succ, List.set_cons_succ, List.set_cons_zero, kM1_ap, kM1b_ap, kOrT_ap, kOrT1_t, kOrT1_f, eqD_ap, neD_ap, Option.map_some, addD_int, subD_int, gtD_int, ltD_int, cmpI_int, intD_int, intD_bl, negD_int, kStr_ap, kLput_ap, kLput1_ap, decide_true, decide_false, e1, c1, i1, i2, eqB_str, c2]
      have s1 : (txs (b' ++ [x])).dropLast = txs b' := by rw [txs_init, List.dropLast_concat]
      have s2 : (txs (r' ++ [x])).dropLast = txs r' := by rw [txs_init, List.dropLast_concat]
      have s3 : (txs (r' ++ [x])).drop ((txs (r' ++ [x])).length - 1) = txs [x] := by
        rw [txs_length, txs_drop]
        simp
      have rl := h.rl
      have bl := h.bl
      simp only [List.length_append, List.length_cons, List.length_nil] at rl bl hb
      have ea : ∀ s, addD s (.tup (txs [x])) (.tup (txs r')) = some (.tup (txs (x :: r'))) := fun s => by
        rw [addD_tup s (by rw [txs_length, txs_length]; simp only [List.length_cons, List.length_nil]; omega), txs_app]
        rfl
      have hbd : lrB ⟨[.d d0, .d (.tup (txs (b' ++ [x]))), .d (.tup (txs (r' ++ [x])))], muz⟩ = .ok .nx ⟨[.d d0, .d (.tup (txs b')), .d (.tup (txs (x :: r')))], muz⟩ := by
        simp only [lrB, seqS_ap, setS_ap, retS_ap, ifS_ap, iteS_ap, tstS_ap, tNotS_ap, tAndS_ap, tOrS_ap, andS_ap, orS_ap, notS_ap, binS_ap, unS_ap, callF_ap, callV_ap, callN_ap, consS_ap, nilS_ap, tupS_ap, lstF_ap, frzS_ap, ownS_ap, exS_ap, cS_ap, varS_ap, parA_ap, parS_inl, parS_inr, parS_nil, forS_ap, itRng_ap, itRng2_ap, itS_ap, itStr_ap, lcF_ap, slS_ap, slF_ap, noPartS_ap, partS_ap, isiS_ap, chainS_ap, nxS_ap, bkS_ap, ctS_ap, yesS_ap, orT_ap, appS_ap, popAtS_ap, dputS_ap, lputS_ap, hndS_ap, m1S_ap, asgS_ap, O.bind_ok, kVar_d, kVar_own, kB1_ap, kB2_ap, kU_ap, kAnd_t, kAnd_f, kOr_t, kOr_f, kNot_ap, kTst_ap, kTAnd_t, kTAnd_f, kTOr_t, kTOr_f, kTNot_ap, kIte_t, kIte_f, kC0_ap, kC1_ap, kC1'_t, kC1'_f, kC2_ap, kCons_ap, kCons2_ap, kTup_0, kTup_1, kTup_2, kTupB_t, kLst_0, kLst_1, kLstB_t, kFrz_ap, kCv_ap, kCn_ap, ofO_some, ofN_some, kEx_ap, kSet_ap, kSetB_t, kOwn_ap, kRet_non, kRet_bl, kRet_int, kRet_str, kRet_tup, kRet_lst, kRet_hnd, kRet_dct, kRet_ins, kRet_loc, kRet1_ap, kSeq_nx, kSeq_rt, kSeq_bk, kSeq_ct, kIt_ap, kIts_ap, seqD_lst, seqD_tup, seqD_scr, kFor_ap, tgN_ap, tgT_ap, tgsS_nil, tgsS_cons, kSl_ap, kSl1_ap, kSl2_ap, kSlF_ap, kSlF1_ap, kPart_ap, kPd_ap, kPdB_t, kPm_ap, kPc_ap, kPar_ap, putP_d, putP_m, putP_0, kHnd_ap, frzD, kAsg_ap, kAsgB_t, sto_non, sto_bl, sto_int, sto_str, sto_tup, sto_lst, sto_dct, sto_ins, sto_hnd, sto_scr, Bool.and_self, Bool.not_true, Bool.not_false, List.getElem?_cons_zero, List.getElem?_cons_succ, List.set_cons_succ, List.set_cons_zero, kM1_ap, kM1b_ap, kOrT_ap, kOrT1_t, kOrT1_f, eqD_ap, neD_ap, Option.map_some, addD_int, subD_int, gtD_int, ltD_int, cmpI_int, intD_int, intD_bl, negD_int, kStr_ap, kLput_ap, kLput1_ap, decide_true, decide_false, slD_tup, cut_init, cut_end, s1, s2, s3, ea]
      have h' : Rn 1000 1000 b' (x :: r') := ⟨fun z hz => h.nb z (List.mem_append_left _ hz), fun z hz => h.nr z (by
        rcases List.mem_cons.mp hz with hz | hz
        · exact List.mem_append_right _ (by simp [hz])
        · exact List.mem_append_left _ hz), by simp, by omega, by simp only [List.length_cons]; omega⟩
      obtain ⟨b2, r2, e2, l2, w2, n2⟩ := ih b' (x :: r') (by omega) h' (rot_prim hp)
      exact ⟨b2, r2, (wh_step hc hbd).trans e2, l2, fun i => (w2 i).trans (rot_wd i).symm, n2.le (by simp) (by simp)⟩
    · have c2 : decide (x = y) = false := decide_eq_false xy
      refine ⟨b' ++ [x], r' ++ [y], wh_end ?_, ⟨h.ne, hp, fun _ z => ?_⟩, fun _ => rfl, ⟨h.nb, h.nr, h.ne, Nat.le_refl _, Nat.le_refl _⟩⟩
      · simp only [lrC, seqS_ap, setS_ap, retS_ap, ifS_ap, iteS_ap, tstS_ap, tNotS_ap, tAndS_ap, tOrS_ap, andS_ap, orS_ap, notS_ap, binS_ap, unS_ap, callF_ap, callV_ap, callN_ap, consS_ap, nilS_ap, tupS_ap, lstF_ap, frzS_ap, ownS_ap, exS_ap, cS_ap, varS_ap, parA_ap, parS_inl, parS_inr, parS_nil, forS_ap, itRng_ap, itRng2_ap, itS_ap, itStr_ap, lcF_ap, slS_ap, slF_ap, noPartS_ap, partS_ap, isiS_ap, chainS_ap, nxS_ap, bkS_ap, ctS_ap, yesS_ap, orT_ap, appS_ap, popAtS_ap, dputS_ap, lputS_ap, hndS_ap, m1S_ap, asgS_ap, O.bind_ok, kVar_d, kVar_own, kB1_ap, kB2_ap, kU_ap, kAnd_t, kAnd_f, kOr_t, kOr_f, kNot_ap, kTst_ap, kTAnd_t, kTAnd_f, kTOr_t, kTOr_f, kTNot_ap, kIte_t, kIte_f, kC0_ap, kC1_ap, kC1'_t, kC1'_f, kC2_ap, kCons_ap, kCons2_ap, kTup_0, kTup_1, kTup_2, kTupB_t, kLst_0, kLst_1, kLstB_t, kFrz_ap, kCv_ap, kCn_ap, ofO_some, ofN_some, kEx_ap, kSet_ap, kSetB_t, kOwn_ap, kRet_non, kRet_bl, kRet_int, kRet_str, kRet_tup, kRet_lst, kRet_hnd, kRet_dct, kRet_ins, kRet_loc, kRet1_ap, kSeq_nx, kSeq_rt, kSeq_bk, kSeq_ct, kIt_ap, kIts_ap, seqD_lst, seqD_tup, seqD_scr, kFor_ap, tgN_ap, tgT_ap, tgsS_nil, tgsS_cons, kSl_ap, kSl1_ap, kSl2_ap, kSlF_ap, kSlF1_ap, kPart_ap, kPd_ap, kPdB_t, kPm_ap, kPc_ap, kPar_ap, putP_d, putP_m, putP_0, kHnd_ap, frzD, kAsg_ap, kAsgB_t, sto_non, sto_bl, sto_int, sto_str, sto_tup, sto_lst, sto_dct, sto_ins, sto_hnd, sto_scr, Bool.and_self, Bool.not_true, Bool.not_false, List.getElem?_cons_zero, List.getElem?_cons_succ, List.set_cons_succ, List.set_cons_zero, kM1_ap, kM1b_ap, kOrT_ap, kOrT1_t, kOrT1_f, eqD_ap, neD_ap, Option.map_some, addD_int, subD_int, gtD_int, ltD_int, cmpI_int, intD_int, intD_bl, negD_int, kStr_ap, kLput_ap, kLput1_ap, decide_true, decide_false, e1, c1, i1, i2, eqB_str, c2]
      · simp at z
        exact xy z
noncomputable abbrev leastS (c3 c4 : List D → List MO → R) : M Fl := (seqS (exS (callF c3 (consS (varS 0) nilS)))
    (seqS (parA [1, 2] [.inl (binS ixA (varS 0) (cS (.int 0))), .inl (callF c4 (consS (binS ixA (varS 0) (cS (.int 1))) nilS))])
    (seqS (whS lrC lrB)
    (retS (tupS (consS (varS 1) (consS (varS 2) nilS)))))))
def IsLeastF (c : List D → List MO → R) : Prop := ∀ (b r : List Str) (muz : List MO), Rn 1000 1000 b r → ∃ b' r', c [rn b r] muz = .ok (rn b' r') muz ∧ Least b' r' ∧ (∀ i, wd b' r' i = wd b r i) ∧ Rn b.length r.length b' r'
theorem least_ok {c3 c4 : List D → List MO → R} (h3 : NeedRun c3) (h4 : IsRoot c4) : IsLeastF (runD 3 1 (leastS c3 c4)) := by
  intro b r muz h
  obtain ⟨r1, er, p1, ne1, l1, w1, m1⟩ := h4 r muz h.ne h.nr h.rl
  obtain ⟨b2, r2, e2, l2, w2, n2⟩ := lr_while (rn b r) muz b.length b r1 rfl ⟨h.nb, fun x hx => h.nr x (m1 x hx), ne1, h.bl, Nat.le_trans l1 h.rl⟩ p1
  refine ⟨b2, r2, ?_, l2, fun i => (w2 i).trans (w1 b i), n2.le (Nat.le_refl _) l1⟩
  have k3 : ∀ rhz, kCall c3 [rn b r] ⟨rhz, muz⟩ = .ok .non ⟨rhz, muz⟩ := fun rhz => kCall_eq (h3 b r muz h) rfl
  have k4 : ∀ rhz, kCall c4 [.tup (txs r)] ⟨rhz, muz⟩ = .ok (.tup (txs r1)) ⟨rhz, muz⟩ := fun rhz => kCall_eq er rfl
  refine runD_eq (s := ⟨[.d (rn b r), .d (.tup (txs b2)), .d (.tup (txs r2))], muz⟩) rfl ?_
  show leastS c3 c4 ⟨[.d (rn b r), .un, .un], muz⟩ = _
  unfold rn at e2 k3 ⊢
  simp only [leastS, seqS_ap, setS_ap, retS_ap, ifS_ap, iteS_ap, tstS_ap, tNotS_ap, tAndS_ap, tOrS_ap, andS_ap, orS_ap, notS_ap, binS_ap, unS_ap, callF_ap, callV_ap, callN_ap, consS_ap, nilS_ap, tupS_ap, lstF_ap, frzS_ap, ownS_ap, exS_ap, cS_ap, varS_ap, parA_ap, parS_inl, parS_inr, parS_nil, forS_ap, itRng_ap, itRng2_ap, itS_ap, itStr_ap, lcF_ap, slS_ap, slF_ap, noPartS_ap, partS_ap, isiS_ap, chainS_ap, nxS_ap, bkS_ap, ctS_ap, yesS_ap, orT_ap, appS_ap, popAtS_ap, dputS_ap, lputS_ap, hndS_ap, m1S_ap, asgS_ap, O.bind_ok, kVar_d, kVar_own, kB1_ap, kB2_ap, kU_ap, kAnd_t, kAnd_f, kOr_t, kOr_f, kNot_ap, kTst_ap, kTAnd_t, kTAnd_f, kTOr_t, kTOr_f, kTNot_ap, kIte_t, kIte_f, kC0_ap, kC1_ap, kC1'_t, kC1'_f, kC2_ap, kCons_ap, kCons2_ap, kTup_0, kTup_1, kTup_2, kTupB_t, kLst_0, kLst_1, kLstB_t, kFrz_ap, kCv_ap, kCn_ap, ofO_some, ofN_some, kEx_ap, kSet_ap, kSetB_t, kOwn_ap, kRet_non, kRet_bl, kRet_int, kRet_str, kRet_tup, kRet_lst, kRet_hnd, kRet_dct, kRet_ins, kRet_loc, kRet1_ap, kSeq_nx, kSeq_rt, kSeq_bk, kSeq_ct, kIt_ap, kIts_ap, seqD_lst, seqD_tup, seqD_scr, kFor_ap, tgN_ap, tgT_ap, tgsS_nil, tgsS_cons, kSl_ap, kSl1_ap, kSl2_ap, kSlF_ap, kSlF1_ap, kPart_ap, kPd_ap, kPdB_t, kPm_ap, kPc_ap, kPar_ap, putP_d, putP_m, putP_0, kHnd_ap, frzD, kAsg_ap, kAsgB_t, sto_non, sto_bl, sto_int, sto_str, sto_tup, sto_lst, sto_dct, sto_ins, sto_hnd, sto_scr, Bool.and_self, Bool.not_true, Bool.not_false, List.getElem?_cons_zero, List.getElem?_cons_succ, List.set_cons_succ, List.set_cons_zero, kM1_ap, kM1b_ap, kOrT_ap, kOrT1_t, kOrT1_f, eqD_ap, neD_ap, Option.map_some, addD_int, subD_int, gtD_int, ltD_int, cmpI_int, intD_int, intD_bl, negD_int, kStr_ap, kLput_ap, kLput1_ap, decide_true, decide_false, k3, ix_t0, ix_t1, k4, e2]
theorem eqB_rn {s : S} {b r b' r' : List Str} (h1 : Lay b) (h2 : Lay r) (h3 : Lay b') (h4 : Lay r') : eqB s (rn b r) (rn b' r') = some (decide (b = b' ∧ r = r')) := by
  have p : ∀ b r : List Str, pyL [.tup (txs b), .tup (txs r)] = some [.tuple (b.map .str), .tuple (r.map .str)] := fun b r => by
    simp only [pyL, pyOf_tup (pyL_txs _)]
  have sh : ∀ b r : List Str, Lay b → Lay r → SeqAt.shaped (.tuple [.tuple (b.map .str), .tuple (r.map .str)]) = true := fun b r hb hr => by
    unfold SeqAt.shaped
    simp [PyData.canLay0, PyData.canLayAll0, lay_all hb, lay_all hr, PyData.depth, PyData.depthAll, depth_txs]
  unfold eqB rn
  simp only [vw, pyOf_tup (p _ _), sh _ _ h1 h2, sh _ _ h3 h4, Bool.and_self, if_true, PyData.eqv, PyData.eqvAll, eqvAll_txs, Bool.and_true, Bool.decide_and]
noncomputable abbrev sameRunS (c5 : List D → List MO → R) : M Fl := (retS (binS eqD (callF c5 (consS (varS 0) nilS)) (callF c5 (consS (varS 1) nilS))))
def IsSameRun (c : List D → List MO → R) : Prop := ∀ (b r b' r' : List Str) (muz : List MO), Rn 1000 1000 b r → Rn 1000 1000 b' r' → ∃ t : Bool, c [rn b r, rn b' r'] muz = .ok (.bl t) muz ∧ (t = true ↔ ∀ i, wd b r i = wd b' r' i)
theorem least_iff {b r b' r' c q c' q' : List Str} (h1 : Least c q) (h2 : Least c' q') (w1 : ∀ i, wd c q i = wd b r i) (w2 : ∀ i, wd c' q' i = wd b' r' i) : (c = c' ∧ q = q') ↔ ∀ i, wd b r i = wd b' r' i := by
  constructor
  · rintro ⟨rfl, rfl⟩ i
    rw [← w1, w2]
  · intro h
    exact least_eq h1 h2 fun i => by rw [w1, h, w2]
theorem sameRun_ok {c5 : List D → List MO → R} (h5 : IsLeastF c5) : IsSameRun (runD 2 2 (sameRunS c5)) := by
  intro b r b' r' muz h h'
  obtain ⟨c, q, e1, l1, w1, n1⟩ := h5 b r muz h
  obtain ⟨c', q', e2, l2, w2, n2⟩ := h5 b' r' muz h'
  have k1 : ∀ rhz, kCall c5 [rn b r] ⟨rhz, muz⟩ = .ok (rn c q) ⟨rhz, muz⟩ := fun rhz => kCall_eq e1 rfl
  have k2 : ∀ rhz, kCall c5 [rn b' r'] ⟨rhz, muz⟩ = .ok (rn c' q') ⟨rhz, muz⟩ := fun rhz => kCall_eq e2 rfl
  have eq := fun s => eqB_rn (s := s) (nm_lay n1.nb) (nm_lay n1.nr) (nm_lay n2.nb) (nm_lay n2.nr)
  refine ⟨decide (c = c' ∧ q = q'), ?_, by rw [decide_eq_true_iff, least_iff l1 l2 w1 w2]⟩
  refine runD_eq (s := ⟨[.d (rn b r), .d (rn b' r')], muz⟩) rfl ?_
  show sameRunS c5 ⟨[.d (rn b r), .d (rn b' r')], muz⟩ = _
  simp only [sameRunS, seqS_ap, setS_ap, retS_ap, ifS_ap, iteS_ap, tstS_ap, tNotS_ap, tAndS_ap, tOrS_ap, andS_ap, orS_ap, notS_ap, binS_ap, unS_ap, callF_ap, callV_ap, callN_ap, consS_ap, nilS_ap, tupS_ap, lstF_ap, frzS_ap, ownS_ap, exS_ap, cS_ap, varS_ap, parA_ap, parS_inl, parS_inr, parS_nil, forS_ap, itRng_ap, itRng2_ap, itS_ap, itStr_ap, lcF_ap, slS_ap, slF_ap, noPartS_ap, partS_ap, isiS_ap, chainS_ap, nxS_ap, bkS_ap, ctS_ap, yesS_ap, orT_ap, appS_ap, popAtS_ap, dputS_ap, lputS_ap, hndS_ap, m1S_ap, asgS_ap, O.bind_ok, kVar_d, kVar_own, kB1_ap, kB2_ap, kU_ap, kAnd_t, kAnd_f, kOr_t, kOr_f, kNot_ap, kTst_ap, kTAnd_t, kTAnd_f, kTOr_t, kTOr_f, kTNot_ap, kIte_t, kIte_f, kC0_ap, kC1_ap, kC1'_t, kC1'_f, kC2_ap, kCons_ap, kCons2_ap, kTup_0, kTup_1, kTup_2, kTupB_t, kLst_0, kLst_1, kLstB_t, kFrz_ap, kCv_ap, kCn_ap, ofO_some, ofN_some, kEx_ap, kSet_ap, kSetB_t, kOwn_ap, kRet_non, kRet_bl, kRet_int, kRet_str, kRet_tup, kRet_lst, kRet_hnd, kRet_dct, kRet_ins, kRet_loc, kRet1_ap, kSeq_nx, kSeq_rt, kSeq_bk, kSeq_ct, kIt_ap, kIts_ap, seqD_lst, seqD_tup, seqD_scr, kFor_ap, tgN_ap, tgT_ap, tgsS_nil, tgsS_cons, kSl_ap, kSl1_ap, kSl2_ap, kSlF_ap, kSlF1_ap, kPart_ap, kPd_ap, kPdB_t, kPm_ap, kPc_ap, kPar_ap, putP_d, putP_m, putP_0, kHnd_ap, frzD, kAsg_ap, kAsgB_t, sto_non, sto_bl, sto_int, sto_str, sto_tup, sto_lst, sto_dct, sto_ins, sto_hnd, sto_scr, Bool.and_self, Bool.not_true, Bool.not_false, List.getElem?_cons_zero, List.getElem?_cons_succ, List.set_cons_succ, List.set_cons_zero, kM1_ap, kM1b_ap, kOrT_ap, kOrT1_t, kOrT1_f, eqD_ap, neD_ap, Option.map_some, addD_int, subD_int, gtD_int, ltD_int, cmpI_int, intD_int, intD_bl, negD_int, kStr_ap, kLput_ap, kLput1_ap, decide_true, decide_false, k1, k2, eq]
end AG

set_option Elab.async false
set_option linter.all false
set_option maxRecDepth 100000
set_option exponentiation.threshold 4000
namespace AG
open PySem L2 AG.Wd
noncomputable abbrev isLeastS (c14 : List D → List MO → R) : M Fl := (seqS (ifS (tAndS (tstS (binS neD (binS ixA (varS 0) (cS (.int 0))) (tupS nilS))) (tstS (binS eqD (binS ixA (binS ixA (varS 0) (cS (.int 0))) (unS negD (cS (.int 1)))) (binS ixA (binS ixA (varS 0) (cS (.int 1))) (unS negD (cS (.int 1))))))) (retS (cS (.bl false))) nxS)
    (seqS (forS (itRng2 (cS (.int 1)) (callV lenD (consS (binS ixA (varS 0) (cS (.int 1))) nilS))) (tgN 1) (ifS (tstS (callF c14 (consS (varS 0) (consS (tupS (consS (binS ixA (varS 0) (cS (.int 0))) (consS (slS (binS ixA (varS 0) (cS (.int 1))) noPartS (partS (varS 1))) nilS))) nilS)))) (retS (cS (.bl false))) nxS))
    (retS (cS (.bl true)))))
def IsLeastJ (c : List D → List MO → R) : Prop := ∀ (b r : List Str) (muz : List MO), Rn 400 400 b r → Least b r → c [rn b r] muz = .ok (.bl true) muz
theorem isLeast_ok {c14 : List D → List MO → R} (hs : IsSame c14) : IsLeastJ (runD 2 1 (isLeastS c14)) := by
  intro b r muz h l
  have w : Ok (forL (tgN 1) (ifS (tstS (callF c14 (consS (varS 0) (consS (tupS (consS (binS ixA (varS 0) (cS (.int 0))) (consS (slS (binS ixA (varS 0) (cS (.int 1))) noPartS (partS (varS 1))) nilS))) nilS)))) (retS (cS (.bl false))) nxS) ((List.range ((r.length : Int) - 1).toNat).map fun k => .int (1 + (k : Nat))) ⟨[.d (rn b r), .un], muz⟩) fun fl s => fl = .nx ∧ ∃ s1, s = ⟨[.d (rn b r), s1], muz⟩ := by
    refine forL_inv _ (fun k s => ∃ s1, s = ⟨[.d (rn b r), s1], muz⟩) _ ⟨_, rfl⟩ ?_ ?_
    · rintro k d s hd ⟨s1, rfl⟩
      have hk' : k < ((r.length : Int) - 1).toNat := by
        have := (List.getElem?_eq_some_iff.mp hd).1
        simpa using this
      have ed : d = .int ((k + 1 : Nat) : Int) := by
        rw [List.getElem?_map, List.getElem?_range hk'] at hd
        simp only [Option.map_some, Option.some.injEq] at hd
        rw [← hd]
        congr 1
        omega
      subst ed
      have tl : (r.take (k + 1)).length = k + 1 := by rw [List.length_take]; omega
      have tne : r.take (k + 1) ≠ [] := fun z => by rw [z] at tl; simp at tl
      have rl := h.rl
      obtain ⟨t, et, it⟩ := hs b r b (r.take (k + 1)) muz h ⟨h.nb, fun x hx => h.nr x (List.mem_of_mem_take hx), tne, h.bl, by omega⟩
      have tf : t = false := by
        cases t with
        | false => rfl
        | true =>
          have w := it.mp rfl
          exfalso
          have p : Per r (k + 1) := per_of_far (b := b) h.ne (n := b.length) fun i hi => by
            rw [w, w]
            have := far_of_per (b := b) (Per.self (r.take (k + 1))) hi
            rw [tl] at this
            exact this
          have := Nat.le_of_dvd (by omega) (l.prim.le h.ne (by omega) p)
          omega
      subst tf
      have e1 : ∀ rhz, kCall c14 [rn b r, rn b (r.take (k + 1))] ⟨rhz, muz⟩ = .ok (.bl false) ⟨rhz, muz⟩ := fun rhz => kCall_eq et rfl
      unfold rn at e1 ⊢
      simp only [seqS_ap, setS_ap, retS_ap, ifS_ap, iteS_ap, tstS_ap, tNotS_ap, tAndS_ap, tOrS_ap, andS_ap, orS_ap, notS_ap, binS_ap, unS_ap, callF_ap, callV_ap, callN_ap, consS_ap, nilS_ap, tupS_ap, lstF_ap, frzS_ap, ownS_ap, exS_ap, cS_ap, varS_ap, parA_ap, parS_inl, parS_inr, parS_nil, forS_ap, itRng_ap, itRng2_ap, itS_ap, itStr_ap, lcF_ap, slS_ap, slF_ap, noPartS_ap, partS_ap, isiS_ap, chainS_ap, nxS_ap, bkS_ap, ctS_ap, yesS_ap, orT_ap, appS_ap, popAtS_ap, dputS_ap, lputS_ap, hndS_ap, m1S_ap, asgS_ap, O.bind_ok, kVar_d, kVar_own, kB1_ap, kB2_ap, kU_ap, kAnd_t, kAnd_f, kOr_t, kOr_f, kNot_ap, kTst_ap, kTAnd_t, kTAnd_f, kTOr_t, kTOr_f, kTNot_ap, kIte_t, kIte_f, kC0_ap, kC1_ap, kC1'_t, kC1'_f, kC2_ap, kCons_ap, kCons2_ap, kTup_0, kTup_1, kTup_2, kTupB_t, kLst_0, kLst_1, kLstB_t, kFrz_ap, kCv_ap, kCn_ap, ofO_some, ofN_some, kEx_ap, kSet_ap, kSetB_t, kOwn_ap, kRet_non, kRet_bl, kRet_int, kRet_str, kRet_tup, kRet_lst, kRet_hnd, kRet_dct, kRet_ins, kRet_loc, kRet1_ap, kSeq_nx, kSeq_rt, kSeq_bk, kSeq_ct, kIt_ap, kIts_ap, seqD_lst, seqD_tup, seqD_scr, kFor_ap, tgN_ap, tgT_ap, tgsS_nil, tgsS_cons, kSl_ap, kSl1_ap, kSl2_ap, kSlF_ap, kSlF1_ap, kPart_ap, kPd_ap, kPdB_t, kPm_ap, kPc_ap, kPar_ap, putP_d, putP_m, putP_0, kHnd_ap, frzD, kAsg_ap, kAsgB_t, sto_non, sto_bl, sto_int, sto_str, sto_tup, sto_lst, sto_dct, sto_ins, sto_hnd, sto_scr, Bool.and_self, Bool.not_true, Bool.not_false, List.getElem?_cons_zero, List.getElem?_cons_succ, List.set_cons_succ, List.set_cons_zero, kM1_ap, kM1b_ap, kOrT_ap, kOrT1_t, kOrT1_f, eqD_ap, neD_ap, Option.map_some, addD_int, subD_int, gtD_int, ltD_int, cmpI_int, intD_int, intD_bl, negD_int, kStr_ap, kLput_ap, kLput1_ap, decide_true, decide_false, ix_t0, ix_t1, slD_tup, cut_take, txs_take, e1, Ok_ok]
      exact ⟨_, rfl⟩
    · rintro s ⟨s1, rfl⟩
      exact ⟨rfl, s1, rfl⟩
  obtain ⟨fl, s, e, rfl, s1, rfl⟩ := w.ex
  have er : ∀ s : S, kRng2b 1 (.int (r.length : Nat)) s = .ok ((List.range ((r.length : Int) - 1).toNat).map fun k => .int (1 + (k : Nat))) s := fun s => kRng2b_ap 1 _ s (by have := h.rl; omega)
  refine runD_eq (s := ⟨[.d (rn b r), s1], muz⟩) rfl ?_
  have e0 := fun s => eqB_tup0 (s := s) (b := b) (nm_lay h.nb)
  have hc : (tAndS (tstS (binS neD (binS ixA (varS 0) (cS (.int 0))) (tupS nilS))) (tstS (binS eqD (binS ixA (binS ixA (varS 0) (cS (.int 0))) (unS negD (cS (.int 1)))) (binS ixA (binS ixA (varS 0) (cS (.int 1))) (unS negD (cS (.int 1))))))) ⟨[.d (rn b r), .un], muz⟩ = .ok false ⟨[.d (rn b r), .un], muz⟩ := by
    by_cases q : b = []
    · have c1 : decide (b = []) = true := decide_eq_true q
      unfold rn
      simp only [seqS_ap, setS_ap, retS_ap, ifS_ap, iteS_ap, tstS_ap, tNotS_ap, tAndS_ap, tOrS_ap, andS_ap, orS_ap, notS_ap, binS_ap, unS_ap, callF_ap, callV_ap, callN_ap, consS_ap, nilS_ap, tupS_ap, lstF_ap, frzS_ap, ownS_ap, exS_ap, cS_ap, varS_ap, parA_ap, parS_inl, parS_inr, parS_nil, forS_ap, itRng_ap, itRng2_ap, itS_ap, itStr_ap, lcF_ap, slS_ap, slF_ap, noPartS_ap, partS_ap, isiS_ap, chainS_ap, nxS_ap, bkS_ap, ctS_ap, yesS_ap, orT_ap, appS_ap, popAtS_ap, dputS_ap, lputS_ap, hndS_ap, m1S_ap, asgS_ap, O.bind_ok, kVar_d, kVar_own, kB1_ap, kB2_ap, kU_ap, kAnd_t, kAnd_f, kOr_t, kOr_f, kNot_ap, kTst_ap, kTAnd_t, kTAnd_f, kTOr_t, kTOr_f, kTNot_ap, kIte_t, kIte_f, kC0_ap, kC1_ap, kC1'_t, kC1'_f, kC2_ap, kCons_ap, kCons2_ap, kTup_0, kTup_1, kTup_2, kTupB_t, kLst_0, kLst_1, kLstB_t, kFrz_ap, kCv_ap, kCn_ap, ofO_some, ofN_some, kEx_ap, kSet_ap, kSetB_t, kOwn_ap, kRet_non, kRet_bl, kRet_int, kRet_str, kRet_tup, kRet_lst, kRet_hnd, kRet_dct, kRet_ins, kRet_loc, kRet1_ap, kSeq_nx, kSeq_rt, kSeq_bk, kSeq_ct, kIt_ap, kIts_ap, seqD_lst, seqD_tup, seqD_scr, kFor_ap, tgN_ap, tgT_ap, tgsS_nil, tgsS_cons, kSl_ap, kSl1_ap, kSl2_ap, kSlF_ap, kSlF1_ap, kPart_ap, kPd_ap, kPdB_t, kPm_ap, kPc_ap, kPar_ap, putP_d, putP_m, putP_0, kHnd_ap, frzD, kAsg_ap, kAsgB_t, sto_non, sto_bl, sto_int, sto_str, sto_tup, sto_lst, sto_dct, sto_ins, sto_hnd, sto_scr, Bool.and_self, Bool.not_true, Bool.not_false, List.getElem?_cons_zero, List.getElem?_cons_succ, List.set_cons_succ, List.set_cons_zero, kM1_ap, kM1b_ap, kOrT_ap, kOrT1_t, kOrT1_f, eqD_ap, neD_ap, Option.map_some, addD_int, subD_int, gtD_int, ltD_int, cmpI_int, intD_int, intD_bl, negD_int, kStr_ap, kLput_ap, kLput1_ap, decide_true, decide_false, ix_t0, e0, c1]
    · have c1 : decide (b = []) = false := decide_eq_false q
      obtain ⟨x, ex⟩ : ∃ x, b.getLast? = some x := ⟨_, List.getLast?_eq_some_getLast q⟩
      obtain ⟨y, ey⟩ : ∃ y, r.getLast? = some y := ⟨_, List.getLast?_eq_some_getLast h.ne⟩
      have i1 : ∀ s, ixA s (.tup (txs b)) (.int (-1)) = some (.str x) := fun s => ix_last s _ (by rw [txs_last, ex]; rfl)
      have i2 : ∀ s, ixA s (.tup (txs r)) (.int (-1)) = some (.str y) := fun s => ix_last s _ (by rw [txs_last, ey]; rfl)
      have c2 : decide (x = y) = false := decide_eq_false fun z => l.cut q (by rw [ex, ey, z])
      unfold rn
      simp only [seqS_ap, setS_ap, retS_ap, ifS_ap, iteS_ap, tstS_ap, tNotS_ap, tAndS_ap, tOrS_ap, andS_ap, orS_ap, notS_ap, binS_ap, unS_ap, callF_ap, callV_ap, callN_ap, consS_ap, nilS_ap, tupS_ap, lstF_ap, frzS_ap, ownS_ap, exS_ap, cS_ap, varS_ap, parA_ap, parS_inl, parS_inr, parS_nil, forS_ap, itRng_ap, itRng2_ap, itS_ap, itStr_ap, lcF_ap, slS_ap, slF_ap, noPartS_ap, partS_ap, isiS_ap, chainS_ap, nxS_ap, bkS_ap, ctS_ap, yesS_ap, orT_ap, appS_ap, popAtS_ap, dputS_ap, lputS_ap, hndS_ap, m1S_ap, asgS_ap, O.bind_ok, kVar_d, kVar_own, kB1_ap, kB2_ap, kU_ap, kAnd_t, kAnd_f, kOr_t, kOr_f, kNot_ap, kTst_ap, kTAnd_t, kTAnd_f, kTOr_t, kTOr_f, kTNot_ap, kIte_t, kIte_f, kC0_ap, kC1_ap, kC1'_t, kC1'_f, kC2_ap, kCons_ap, kCons2_ap, kTup_0, kTup_1, kTup_2, kTupB_t, kLst_0, kLst_1, kLstB_t, kFrz_ap, kCv_ap, kCn_ap, ofO_some, ofN_some, kEx_ap, kSet_ap, kSetB_t, kOwn_ap, kRet_non, kRet_bl, kRet_int, kRet_str, kRet_tup, kRet_lst, kRet_hnd, kRet_dct, kRet_ins, kRet_loc, kRet1_ap, kSeq_nx, kSeq_rt, kSeq_bk, kSeq_ct, kIt_ap, kIts_ap, seqD_lst, seqD_tup, seqD_scr, kFor_ap, tgN_ap, tgT_ap, tgsS_nil, tgsS_cons, kSl_ap, kSl1_ap, kSl2_ap, kSlF_ap, kSlF1_ap, kPart_ap, kPd_ap, kPdB_t, kPm_ap, kPc_ap, kPar_ap, putP_d, putP_m, putP_0, kHnd_ap, frzD, kAsg_ap, kAsgB_t, sto_non, sto_bl, sto_int, sto_str, sto_tup, sto_lst, sto_dct, sto_ins, sto_hnd, sto_scr, Bool.and_self, Bool.not_true, Bool.not_false, List.getElem?_cons_zero, List.getElem?_cons_succ, List.set_cons_succ, List.set_cons_zero, kM1_ap, kM1b_ap, kOrT_ap, kOrT1_t, kOrT1_f, eqD_ap, neD_ap, Option.map_some, addD_int, subD_int, gtD_int, ltD_int, cmpI_int, intD_int, intD_bl, negD_int, kStr_ap, kLput_ap, kLput1_ap, decide_true, decide_false, ix_t0, ix_t1, e0, c1, i1, i2, eqB_str, c2]
  show isLeastS c14 ⟨[.d (rn b r), .un], muz⟩ = _
  rw [show isLeastS c14 ⟨[.d (rn b r), .un], muz⟩ = _ from seqS_ap, ifS_ap, hc]
  unfold rn at e ⊢
  simp only [seqS_ap, setS_ap, retS_ap, ifS_ap, iteS_ap, tstS_ap, tNotS_ap, tAndS_ap, tOrS_ap, andS_ap, orS_ap, notS_ap, binS_ap, unS_ap, callF_ap, callV_ap, callN_ap, consS_ap, nilS_ap, tupS_ap, lstF_ap, frzS_ap, ownS_ap, exS_ap, cS_ap, varS_ap, parA_ap, parS_inl, parS_inr, parS_nil, forS_ap, itRng_ap, itRng2_ap, itS_ap, itStr_ap, lcF_ap, slS_ap, slF_ap, noPartS_ap, partS_ap, isiS_ap, chainS_ap, nxS_ap, bkS_ap, ctS_ap, yesS_ap, orT_ap, appS_ap, popAtS_ap, dputS_ap, lputS_ap, hndS_ap, m1S_ap, asgS_ap, O.bind_ok, kVar_d, kVar_own, kB1_ap, kB2_ap, kU_ap, kAnd_t, kAnd_f, kOr_t, kOr_f, kNot_ap, kTst_ap, kTAnd_t, kTAnd_f, kTOr_t, kTOr_f, kTNot_ap, kIte_t, kIte_f, kC0_ap, kC1_ap, kC1'_t, kC1'_f, kC2_ap, kCons_ap, kCons2_ap, kTup_0, kTup_1, kTup_2, kTupB_t, kLst_0, kLst_1, kLstB_t, kFrz_ap, kCv_ap, kCn_ap, ofO_some, ofN_some, kEx_ap, kSet_ap, kSetB_t, kOwn_ap, kRet_non, kRet_bl, kRet_int, kRet_str, kRet_tup, kRet_lst, kRet_hnd, kRet_dct, kRet_ins, kRet_loc, kRet1_ap, kSeq_nx, kSeq_rt, kSeq_bk, kSeq_ct, kIt_ap, kIts_ap, seqD_lst, seqD_tup, seqD_scr, kFor_ap, tgN_ap, tgT_ap, tgsS_nil, tgsS_cons, kSl_ap, kSl1_ap, kSl2_ap, kSlF_ap, kSlF1_ap, kPart_ap, kPd_ap, kPdB_t, kPm_ap, kPc_ap, kPar_ap, putP_d, putP_m, putP_0, kHnd_ap, frzD, kAsg_ap, kAsgB_t, sto_non, sto_bl, sto_int, sto_str, sto_tup, sto_lst, sto_dct, sto_ins, sto_hnd, sto_scr, Bool.and_self, Bool.not_true, Bool.not_false, List.getElem?_cons_zero, List.getElem?_cons_succ, List.set_cons_succ, List.set_cons_zero, kM1_ap, kM1b_ap, kOrT_ap, kOrT1_t, kOrT1_f, eqD_ap, neD_ap, Option.map_some, addD_int, subD_int, gtD_int, ltD_int, cmpI_int, intD_int, intD_bl, negD_int, kStr_ap, kLput_ap, kLput1_ap, decide_true, decide_false, kRng2_ap, ix_t1, len_tup, txs_length, er, e]
section
variable {cd cp cm : List D → List MO → R}
noncomputable abbrev runS (cd cp cm : List D → List MO → R) : M Fl := (seqS (setS 2 (frzS (lcF (itRng (callF cd (consS (varS 0) (consS (cS (.int 7)) nilS)))) (tgN 4) yesS (callF cp (consS (varS 0) (consS (varS 1) nilS))) [4])))
    (seqS (setS 3 (slS (callF cm (consS (varS 0) (consS (varS 1) nilS))) noPartS (partS (binS addD (cS (.int 1)) (callF cd (consS (varS 0) (consS (callV lenD (consS (varS 1) nilS)) nilS)))))))
    (retS (tupS (consS (callV tupleD (consS (varS 2) nilS)) (consS (callV tupleD (consS (frzS (lcF (itRng (binS addD (cS (.int 1)) (callF cd (consS (varS 0) (consS (cS (.int 6)) nilS))))) (tgN 4) yesS (callF cp (consS (varS 0) (consS (varS 3) nilS))) [4])) nilS)) nilS))))))
theorem txs_of {l : List D} {m : List Str} (h : ∀ y ∈ l, (∃ x ∈ m, y = D.str x) ∧ sto y = true) : ∃ k : List Str, l = txs k ∧ ∀ x ∈ k, x ∈ m := by
  induction l with
  | nil => exact ⟨[], rfl, by simp⟩
  | cons y l ih =>
    obtain ⟨k, rfl, hk⟩ := ih fun z hz => h z (List.mem_cons_of_mem _ hz)
    obtain ⟨⟨x, hx, rfl⟩, _⟩ := h y List.mem_cons_self
    refine ⟨x :: k, rfl, fun z hz => ?_⟩
    rcases List.mem_cons.mp hz with rfl | hz
    · exact hx
    · exact hk z hz
theorem lc_picks (hp : IsPick cp) {rhz : List SV} {i j : Nat} {l : List Str} (hi : i < rhz.length) (ho : isOwn (rhz.getD i .un) = false) (h0 : rhz[0]? = some (.d (.hnd 1))) (hj : rhz[j]? = some (.d (.lst (txs l)))) (i0 : i ≠ 0) (ij : i ≠ j) (l0 : l ≠ []) (l1 : l.length < 2 ^ 62) {n : Nat} {z : DS} (k : Nat) (hk : k ≤ 1000000) (h : Bd (n + k) z) :
    ∃ (m : List Str) (z' : DS), kLc (tgN i) yesS (callF cp (consS (varS 0) (consS (varS j) nilS))) [i] ((List.range k).map fun i => .int (i : Nat)) ⟨rhz, z.muz⟩ = .ok (.ml (txs m)) ⟨rhz, z'.muz⟩ ∧ m.length = k ∧ (∀ x ∈ m, x ∈ l) ∧ Bd n z' := by
  obtain ⟨q, z', e, hl, hq, hB⟩ := lc_draws (e := callF cp (consS (varS 0) (consS (varS j) nilS))) hi ho (fun y => ∃ x ∈ l, y = .str x) 1 (fun d n z hz => by
    obtain ⟨x, hx, z', e, b⟩ := pick_txs hp hz l0 l1
    refine ⟨.str x, z', ?_, rfl, ⟨x, hx, rfl⟩, b⟩
    have k0 : (rhz.set i (.d d))[0]? = some (.d (.hnd 1)) := by rw [List.getElem?_set_ne i0]; exact h0
    have kj : (rhz.set i (.d d))[j]? = some (.d (.lst (txs l))) := by rw [List.getElem?_set_ne ij]; exact hj
    simp only [callF_ap, consS_ap, varS_ap, k0, kj, kVar_d, O.bind_ok, kCons_ap, nilS_ap, kCons2_ap, e]) (ds := (List.range k).map fun i => .int (i : Nat)) (by rw [List.length_map, List.length_range]; exact hk) (n := n) (z := z) (by rw [List.length_map, List.length_range, Nat.one_mul]; exact h)
  obtain ⟨m, rfl, hm⟩ := txs_of hq
  rw [txs_length, List.length_map, List.length_range] at hl
  exact ⟨m, z', e, hl, hm, hB⟩
def IsRunDrawn (c : List D → List MO → R) : Prop := ∀ (n : Nat) (z : DS) (l : List Str), l ≠ [] → (∀ x ∈ l, Nm x) → l.length ≤ 25 → Bd (n + 50) z → ∃ b r z', c [.hnd 1, .lst (txs l)] z.muz = .ok (rn b r) z'.muz ∧ Rn 6 6 b r ∧ Bd n z'
theorem runDrawn_ok (hd : IsDraw cd) (hp : IsPick cp) (hm : IsMixed cm) : IsRunDrawn (runD 5 2 (runS cd cp cm)) := by
  intro n z l l0 hn ll hB
  have lp : 0 < l.length := List.length_pos_iff.mpr l0
  obtain ⟨v, z1, e1, v0, v1, B1⟩ := draw_call hd (m := 7) (n := n + 49) hB (by omega) (by omega)
  obtain ⟨v, rfl⟩ := Int.eq_ofNat_of_zero_le v0
  obtain ⟨b, z2, e2, b2, b3, B2⟩ := lc_picks hp (rhz := [.d (.hnd 1), .d (.lst (txs l)), .un, .un, .un]) (i := 4) (j := 1) (l := l) (by simp) rfl rfl rfl (by omega) (by omega) l0 (by omega) v (by omega) (n := n + 42) (B1.le (by omega))
  obtain ⟨o, z3, e3, pm, B3⟩ := hm (n + 10) z2 l (nm_lay hn) (by omega) (B2.le (by omega))
  obtain ⟨w, z4, e4, w0, w1, B4⟩ := draw_call hd (m := l.length) (n := n + 9) B3 (by omega) (by omega)
  obtain ⟨w, rfl⟩ := Int.eq_ofNat_of_zero_le w0
  obtain ⟨u, z5, e5, u0, u1, B5⟩ := draw_call hd (m := 6) (n := n + 8) B4 (by omega) (by omega)
  obtain ⟨u, rfl⟩ := Int.eq_ofNat_of_zero_le u0
  have ol : o.length = l.length := pm.length_eq
  have tk : o.take (1 + w) ≠ [] := fun q => by
    have : (o.take (1 + w)).length = 0 := by rw [q]; rfl
    rw [List.length_take] at this
    omega
  obtain ⟨r, z6, e6, r2, r3, B6⟩ := lc_picks hp (rhz := [.d (.hnd 1), .d (.lst (txs l)), .d (.lst (txs b)), .d (.lst (txs (o.take (1 + w)))), .un]) (i := 4) (j := 3) (l := o.take (1 + w)) (by simp) rfl rfl rfl (by omega) (by omega) tk (by rw [List.length_take]; omega) (1 + u) (by omega) (n := n) (B5.le (by omega))
  refine ⟨b, r, z6, ?_, ⟨fun x hx => hn x (b3 x hx), fun x hx => hn x (pm.mem_iff.mp (List.mem_of_mem_take (r3 x hx))), fun q => by rw [q] at r2; simp at r2; omega, by omega, by omega⟩, B6⟩
  have e3' : ∀ rhz, kCall cm [.hnd 1, .lst (txs l)] ⟨rhz, z2.muz⟩ = .ok (.lst (txs o)) ⟨rhz, z3.muz⟩ := fun rhz => kCall_eq e3 rfl
  have ea : ((1 : Int) + (w : Nat)) = ((1 + w : Nat) : Int) := by omega
  have eb : ((1 : Int) + (u : Nat)) = ((1 + u : Nat) : Int) := by omega
  have f1 : ∀ s, kRng (.int (v : Nat)) s = .ok ((List.range v).map fun i => .int (i : Nat)) s := fun s => kRng_ap v s (by omega)
  have f2 : ∀ s, kRng (.int ((1 + u : Nat) : Int)) s = .ok ((List.range (1 + u)).map fun i => .int (i : Nat)) s := fun s => kRng_ap _ s (by omega)
  have t1 : ∀ s (m : List Str), tupleD s [.lst (txs m)] = some (.tup (txs m)) := fun s m => Eq.trans rfl rfl
  refine runD_eq (s := ⟨[.d (.hnd 1), .d (.lst (txs l)), .d (.lst (txs b)), .d (.lst (txs (o.take (1 + w)))), .un], z6.muz⟩) rfl ?_
  show runS cd cp cm ⟨[.d (.hnd 1), .d (.lst (txs l)), .un, .un, .un], z.muz⟩ = _
  unfold rn
  simp only [runS, seqS_ap, setS_ap, retS_ap, ifS_ap, iteS_ap, tstS_ap, tNotS_ap, tAndS_ap, tOrS_ap, andS_ap, orS_ap, notS_ap, binS_ap, unS_ap, callF_ap, callV_ap, callN_ap, consS_ap, nilS_ap, tupS_ap, lstF_ap, frzS_ap, ownS_ap, exS_ap, cS_ap, varS_ap, parA_ap, parS_inl, parS_inr, parS_nil, forS_ap, itRng_ap, itRng2_ap, itS_ap, itStr_ap, lcF_ap, slS_ap, slF_ap, noPartS_ap, partS_ap, isiS_ap, chainS_ap, nxS_ap, bkS_ap, ctS_ap, yesS_ap, orT_ap, appS_ap, popAtS_ap, dputS_ap, lputS_ap, hndS_ap, m1S_ap, asgS_ap, O.bind_ok, kVar_d, kVar_own, kB1_ap, kB2_ap, kU_ap, kAnd_t, kAnd_f, kOr_t, kOr_f, kNot_ap, kTst_ap, kTAnd_t, kTAnd_f, kTOr_t, kTOr_f, kTNot_ap, kIte_t, kIte_f, kC0_ap, kC1_ap, kC1'_t, kC1'_f, kC2_ap, kCons_ap, kCons2_ap, kTup_0, kTup_1, kTup_2, kTupB_t, kLst_0, kLst_1, kLstB_t, kFrz_ap, kCv_ap, kCn_ap, ofO_some, ofN_some, kEx_ap, kSet_ap, kSetB_t, kOwn_ap, kRet_non, kRet_bl, kRet_int, kRet_str, kRet_tup, kRet_lst, kRet_hnd, kRet_dct, kRet_ins, kRet_loc, kRet1_ap, kSeq_nx, kSeq_rt, kSeq_bk, kSeq_ct, kIt_ap, kIts_ap, seqD_lst, seqD_tup, seqD_scr, kFor_ap, tgN_ap, tgT_ap, tgsS_nil, tgsS_cons, kSl_ap, kSl1_ap, kSl2_ap, kSlF_ap, kSlF1_ap, kPart_ap, kPd_ap, kPdB_t, kPm_ap, kPc_ap, kPar_ap, putP_d, putP_m, putP_0, kHnd_ap, frzD, kAsg_ap, kAsgB_t, sto_non, sto_bl, sto_int, sto_str, sto_tup, sto_lst, sto_dct, sto_ins, sto_hnd, sto_scr, Bool.and_self, Bool.not_true, Bool.not_false, List.getElem?_cons_zero, List.getElem?_cons_succ, List.set_cons_succ, List.set_cons_zero, kM1_ap, kM1b_ap, kOrT_ap, kOrT1_t, kOrT1_f, eqD_ap, neD_ap, Option.map_some, addD_int, subD_int, gtD_int, ltD_int, cmpI_int, intD_int, intD_bl, negD_int, kStr_ap, kLput_ap, kLput1_ap, decide_true, decide_false, e1, f1, e2, e3', lenD_lst, txs_length, e4, ea, slD_lst, cut_take, txs_take, e5, eb, f2, e6, t1]
end
end AG

set_option Elab.async false
set_option linter.all false
set_option maxRecDepth 100000
set_option exponentiation.threshold 4000
namespace AG
open PySem L2 AG.Wd
section
variable {cd cp cpl : List D → List MO → R}
theorem maxD_nat (s : S) (a b : Nat) : maxD s [.int (a : Nat), .int (b : Nat)] = some (.int ((max a b : Nat) : Int)) := by
  rw [maxD_int]
  congr 2
  by_cases h : a < b
  · rw [if_pos (by omega)]; omega
  · rw [if_neg (by omega)]; omega
theorem maxD_0 (s : S) (a : Int) : maxD s [.int 0, .int a] = some (.int ((a.toNat : Nat) : Int)) := by
  rw [maxD_int]
  congr 2
  by_cases h : 0 < a
  · rw [if_pos (by omega)]; omega
  · rw [if_neg (by omega)]; omega
noncomputable abbrev longerS (cd cpl : List D → List MO → R) : M Fl := (seqS (setS 2 (callF cd (consS (varS 0) (consS (cS (.int 8)) nilS))))
    (seqS (setS 3 (binS modD (callV intD (consS (callV maxD (consS (cS (.int 0)) (consS (binS subD (varS 2) (callV lenD (consS (binS ixA (varS 1) (cS (.int 0))) nilS))) nilS))) nilS)) (callV lenD (consS (binS ixA (varS 1) (cS (.int 1))) nilS))))
    (seqS (setS 4 (callV maxD (consS (varS 2) (consS (callV lenD (consS (binS ixA (varS 1) (cS (.int 0))) nilS)) nilS))))
    (seqS (setS 5 (iteS (tstS (binS eqD (varS 4) (callV lenD (consS (binS ixA (varS 1) (cS (.int 0))) nilS)))) (binS ixA (varS 1) (cS (.int 1))) (binS addD (slS (binS ixA (varS 1) (cS (.int 1))) (partS (varS 3)) noPartS) (slS (binS ixA (varS 1) (cS (.int 1))) noPartS (partS (varS 3))))))
    (retS (tupS (consS (callF cpl (consS (varS 1) (consS (varS 4) nilS))) (consS (binS mulE (varS 5) (binS addD (cS (.int 1)) (callF cd (consS (varS 0) (consS (cS (.int 3)) nilS))))) nilS))))))))
def IsLonger (c : List D → List MO → R) : Prop := ∀ (n : Nat) (z : DS) (b r : List Str), Rn 20 20 b r → Bd (n + 2) z → ∃ b' r' z', c [.hnd 1, rn b r] z.muz = .ok (rn b' r') z'.muz ∧ Rn 60 60 b' r' ∧ Bd n z'
theorem rep_mem {l : List Str} {k : Nat} {x : Str} (h : x ∈ (List.replicate k l).flatten) : x ∈ l := by
  obtain ⟨m, hm, hx⟩ := List.mem_flatten.mp h
  rw [← List.eq_of_mem_replicate hm]
  exact hx
theorem longer_ok (hd : IsDraw cd) (hpl : IsPlain cpl) : IsLonger (runD 6 2 (longerS cd cpl)) := by
  intro n z b r h hB
  have r0 : 0 < r.length := List.length_pos_iff.mpr h.ne
  have bl := h.bl; have rl := h.rl
  obtain ⟨v, z1, e1, v0, v1, B1⟩ := draw_call hd (m := 8) (n := n + 1) hB (by omega) (by omega)
  obtain ⟨v, rfl⟩ := Int.eq_ofNat_of_zero_le v0
  obtain ⟨w, z2, e2, w0, w1, B2⟩ := draw_call hd (m := 3) (n := n) B1 (by omega) (by omega)
  obtain ⟨w, rfl⟩ := Int.eq_ofNat_of_zero_le w0
  obtain ⟨at_, hat⟩ : ∃ k : Nat, k = ((v : Int) - (b.length : Nat)).toNat % r.length := ⟨_, rfl⟩
  have e3 : ∀ s, modD s (.int ((((v : Int) - (b.length : Nat)).toNat : Nat) : Int)) (.int (r.length : Nat)) = some (.int (at_ : Nat)) := fun s => by rw [modD_int s _ (by omega), int_mod, ← hat]
  have pc : ∀ rhz, kCall cpl [rn b r, .int ((max v b.length : Nat) : Int)] ⟨rhz, z1.muz⟩ = .ok (.tup (txs (pl b r (max v b.length)))) ⟨rhz, z1.muz⟩ := fun rhz => kCall_eq (hpl b r _ _ (h.le (by omega) (by omega)) (by omega)) rfl
  have fin : ∀ q : List Str, q ≠ [] → q.length = r.length → (∀ x ∈ q, x ∈ r) → (iteS (tstS (binS eqD (varS 4) (callV lenD (consS (binS ixA (varS 1) (cS (.int 0))) nilS)))) (binS ixA (varS 1) (cS (.int 1))) (binS addD (slS (binS ixA (varS 1) (cS (.int 1))) (partS (varS 3)) noPartS) (slS (binS ixA (varS 1) (cS (.int 1))) noPartS (partS (varS 3)))) ⟨[.d (.hnd 1), .d (rn b r), .d (.int (v : Nat)), .d (.int (at_ : Nat)), .d (.int ((max v b.length : Nat) : Int)), .un], z1.muz⟩ = .ok (.tup (txs q)) ⟨[.d (.hnd 1), .d (rn b r), .d (.int (v : Nat)), .d (.int (at_ : Nat)), .d (.int ((max v b.length : Nat) : Int)), .un], z1.muz⟩) →
      ∃ b' r' z', runD 6 2 (longerS cd cpl) [.hnd 1, rn b r] z.muz = .ok (rn b' r') z'.muz ∧ Rn 60 60 b' r' ∧ Bd n z' := by
    intro q qne ql qm eq
    have em : ∀ s, mulE s (.tup (txs q)) (.int ((1 + w : Nat) : Int)) = some (.tup (txs (List.replicate (1 + w) q).flatten)) := fun s => by
      rw [mulE_tup s (by omega) (by omega) (fun z => qne (txs_inj (a := q) (b := []) z)) (by rw [txs_length]; omega), txs_rep]
    have m3 : (1 + w) * r.length ≤ 3 * 20 := Nat.mul_le_mul (by omega) rl
    refine ⟨pl b r (max v b.length), (List.replicate (1 + w) q).flatten, z2, ?_, ⟨pl_nm h _, fun x hx => h.nr x (qm x (rep_mem hx)), fun z => ?_, by rw [pl_len]; omega, by rw [rep_len, ql]; exact m3⟩, B2⟩
    · refine runD_eq (s := ⟨[.d (.hnd 1), .d (rn b r), .d (.int (v : Nat)), .d (.int (at_ : Nat)), .d (.int ((max v b.length : Nat) : Int)), .d (.tup (txs q))], z2.muz⟩) rfl ?_
      have ew : ((1 : Int) + (w : Nat)) = ((1 + w : Nat) : Int) := by omega
      show longerS cd cpl ⟨[.d (.hnd 1), .d (rn b r), .un, .un, .un, .un], z.muz⟩ = _
      unfold rn at eq pc ⊢
      simp only [longerS, ↓eq, seqS_ap, setS_ap, retS_ap, ifS_ap, iteS_ap, tstS_ap, tNotS_ap, tAndS_ap, tOrS_ap, andS_ap, orS_ap, notS_ap, binS_ap, unS_ap, callF_ap, callV_ap, callN_ap, consS_ap, nilS_ap, tupS_ap, lstF_ap, frzS_ap, ownS_ap, exS_ap, cS_ap, varS_ap, parA_ap, parS_inl, parS_inr, parS_nil, forS_ap, itRng_ap, itRng2_ap, itS_ap, itStr_ap, lcF_ap, slS_ap, slF_ap, noPartS_ap, partS_ap, isiS_ap, chainS_ap, nxS_ap, bkS_ap, ctS_ap, yesS_ap, orT_ap, appS_ap, popAtS_ap, dputS_ap, lputS_ap, hndS_ap, m1S_ap, asgS_ap, O.bind_ok, kVar_d, kVar_own, kB1_ap, kB2_ap, kU_ap, kAnd_t, kAnd_f, kOr_t, kOr_f, kNot_ap, kTst_ap, kTAnd_t, kTAnd_f, kTOr_t, kTOr_f, kTNot_ap, kIte_t, kIte_f, kC0_ap, kC1_ap, kC1'_t, kC1'_f, kC2_ap, kCons_ap, kCons2_ap, kTup_0, kTup_1, kTup_2, kTupB_t, kLst_0, kLst_1, kLstB_t, kFrz_ap, kCv_ap, kCn_ap, ofO_some, ofN_some, kEx_ap, kSet_ap, kSetB_t, kOwn_ap, kRet_non, kRet_bl, kRet_int, kRet_str, kRet_tup, kRet_lst, kRet_hnd, kRet_dct, kRet_ins, kRet_loc, kRet1_ap, kSeq_nx, kSeq_rt, kSeq_bk, kSeq_ct, kIt_ap, kIts_ap, seqD_lst, seqD_tup, seqD_scr, kFor_ap, tgN_ap, tgT_ap, tgsS_nil, tgsS_cons, kSl_ap, kSl1_ap, kSl2_ap, kSlF_ap, kSlF1_ap, kPart_ap, kPd_ap, kPdB_t, kPm_ap, kPc_ap, kPar_ap, putP_d, putP_m, putP_0, kHnd_ap, frzD, kAsg_ap, kAsgB_t, sto_non, sto_bl, sto_int, sto_str, sto_tup, sto_lst, sto_dct, sto_ins, sto_hnd, sto_scr, Bool.and_self, Bool.not_true, Bool.not_false, List.getElem?_cons_zero, List.getElem?_cons_succ, List.set_cons_succ, List.set_cons_zero, kM1_ap, kM1b_ap, kOrT_ap, kOrT1_t, kOrT1_f, eqD_ap, neD_ap, Option.map_some, addD_int, subD_int, gtD_int, ltD_int, cmpI_int, intD_int, intD_bl, negD_int, kStr_ap, kLput_ap, kLput1_ap, decide_true, decide_false, e1, ix_t0, ix_t1, len_tup, txs_length, maxD_0, maxD_nat, e3, pc, e2, ew, em]
    · have : (List.replicate (1 + w) q).flatten.length = 0 := by rw [z]; rfl
      rw [rep_len, ql] at this
      have : 1 * r.length ≤ (1 + w) * r.length := Nat.mul_le_mul_right _ (by omega)
      omega
  by_cases q : max v b.length = b.length
  · have c1 : decide (((max v b.length : Nat) : Int) = (b.length : Nat)) = true := decide_eq_true (by omega)
    refine fin r h.ne rfl (fun _ h => h) ?_
    unfold rn
    simp only [seqS_ap, setS_ap, retS_ap, ifS_ap, iteS_ap, tstS_ap, tNotS_ap, tAndS_ap, tOrS_ap, andS_ap, orS_ap, notS_ap, binS_ap, unS_ap, callF_ap, callV_ap, callN_ap, consS_ap, nilS_ap, tupS_ap, lstF_ap, frzS_ap, ownS_ap, exS_ap, cS_ap, varS_ap, parA_ap, parS_inl, parS_inr, parS_nil, forS_ap, itRng_ap, itRng2_ap, itS_ap, itStr_ap, lcF_ap, slS_ap, slF_ap, noPartS_ap, partS_ap, isiS_ap, chainS_ap, nxS_ap, bkS_ap, ctS_ap, yesS_ap, orT_ap, appS_ap, popAtS_ap, dputS_ap, lputS_ap, hndS_ap, m1S_ap, asgS_ap, O.bind_ok, kVar_d, kVar_own, kB1_ap, kB2_ap, kU_ap, kAnd_t, kAnd_f, kOr_t, kOr_f, kNot_ap, kTst_ap, kTAnd_t, kTAnd_f, kTOr_t, kTOr_f, kTNot_ap, kIte_t, kIte_f, kC0_ap, kC1_ap, kC1'_t, kC1'_f, kC2_ap, kCons_ap, kCons2_ap, kTup_0, kTup_1, kTup_2, kTupB_t, kLst_0, kLst_1, kLstB_t, kFrz_ap, kCv_ap, kCn_ap, ofO_some, ofN_some, kEx_ap, kSet_ap, kSetB_t, kOwn_ap, kRet_non, kRet_bl, kRet_int, kRet_str, kRet_tup, kRet_lst, kRet_hnd, kRet_dct, kRet_ins, kRet_loc, kRet1_ap, kSeq_nx, kSeq_rt, kSeq_bk, kSeq_ct, kIt_ap, kIts_ap, seqD_lst, seqD_tup, seqD_scr, kFor_ap, tgN_ap, tgT_ap, tgsS_nil, tgsS_cons, kSl_ap, kSl1_ap, kSl2_ap, kSlF_ap, kSlF1_ap, kPart_ap, kPd_ap, kPdB_t, kPm_ap, kPc_ap, kPar_ap, putP_d, putP_m, putP_0, kHnd_ap, frzD, kAsg_ap, kAsgB_t, sto_non, sto_bl, sto_int, sto_str, sto_tup, sto_lst, sto_dct, sto_ins, sto_hnd, sto_scr, Bool.and_self, Bool.not_true, Bool.not_false, List.getElem?_cons_zero, List.getElem?_cons_succ, List.set_cons_succ, List.set_cons_zero, kM1_ap, kM1b_ap, kOrT_ap, kOrT1_t, kOrT1_f, eqD_ap, neD_ap, Option.map_some, addD_int, subD_int, gtD_int, ltD_int, cmpI_int, intD_int, intD_bl, negD_int, kStr_ap, kLput_ap, kLput1_ap, decide_true, decide_false, ix_t0, ix_t1, len_tup, txs_length, eqB_int, c1]
  · have c1 : decide (((max v b.length : Nat) : Int) = (b.length : Nat)) = false := decide_eq_false (by omega)
    refine fin (r.drop at_ ++ r.take at_) (fun z => ?_) ?_ (fun x hx => ?_) ?_
    · have : (r.drop at_ ++ r.take at_).length = 0 := by rw [z]; rfl
      simp only [List.length_append, List.length_drop, List.length_take] at this
      omega
    · simp only [List.length_append, List.length_drop, List.length_take]
      omega
    · rcases List.mem_append.mp hx with hx | hx
      · exact List.mem_of_mem_drop hx
      · exact List.mem_of_mem_take hx
    · have ea : ∀ s, addD s (.tup (txs (r.drop at_))) (.tup (txs (r.take at_))) = some (.tup (txs (r.drop at_ ++ r.take at_))) := fun s => by
        rw [addD_tup s (by rw [txs_length, txs_length, List.length_drop, List.length_take]; omega), txs_app]
      unfold rn
      simp only [seqS_ap, setS_ap, retS_ap, ifS_ap, iteS_ap, tstS_ap, tNotS_ap, tAndS_ap, tOrS_ap, andS_ap, orS_ap, notS_ap, binS_ap, unS_ap, callF_ap, callV_ap, callN_ap, consS_ap, nilS_ap, tupS_ap, lstF_ap, frzS_ap, ownS_ap, exS_ap, cS_ap, varS_ap, parA_ap, parS_inl, parS_inr, parS_nil, forS_ap, itRng_ap, itRng2_ap, itS_ap, itStr_ap, lcF_ap, slS_ap, slF_ap, noPartS_ap, partS_ap, isiS_ap, chainS_ap, nxS_ap, bkS_ap, ctS_ap, yesS_ap, orT_ap, appS_ap, popAtS_ap, dputS_ap, lputS_ap, hndS_ap, m1S_ap, asgS_ap, O.bind_ok, kVar_d, kVar_own, kB1_ap, kB2_ap, kU_ap, kAnd_t, kAnd_f, kOr_t, kOr_f, kNot_ap, kTst_ap, kTAnd_t, kTAnd_f, kTOr_t, kTOr_f, kTNot_ap, kIte_t, kIte_f, kC0_ap, kC1_ap, kC1'_t, kC1'_f, kC2_ap, kCons_ap, kCons2_ap, kTup_0, kTup_1, kTup_2, kTupB_t, kLst_0, kLst_1, kLstB_t, kFrz_ap, kCv_ap, kCn_ap, ofO_some, ofN_some, kEx_ap, kSet_ap, kSetB_t, kOwn_ap, kRet_non, kRet_bl, kRet_int, kRet_str, kRet_tup, kRet_lst, kRet_hnd, kRet_dct, kRet_ins, kRet_loc, kRet1_ap, kSeq_nx, kSeq_rt, kSeq_bk, kSeq_ct, kIt_ap, kIts_ap, seqD_lst, seqD_tup, seqD_scr, kFor_ap, tgN_ap, tgT_ap, tgsS_nil, tgsS_cons, kSl_ap, kSl1_ap, kSl2_ap, kSlF_ap, kSlF1_ap, kPart_ap, kPd_ap, kPdB_t, kPm_ap, kPc_ap, kPar_ap, putP_d, putP_m, putP_0, kHnd_ap, frzD, kAsg_ap, kAsgB_t, sto_non, sto_bl, sto_int, sto_str, sto_tup, sto_lst, sto_dct, sto_ins, sto_hnd, sto_scr, Bool.and_self, Bool.not_true, Bool.not_false, List.getElem?_cons_zero, List.getElem?_cons_succ, List.set_cons_succ, List.set_cons_zero, kM1_ap, kM1b_ap, kOrT_ap, kOrT1_t, kOrT1_f, eqD_ap, neD_ap, Option.map_some, addD_int, subD_int, gtD_int, ltD_int, cmpI_int, intD_int, intD_bl, negD_int, kStr_ap, kLput_ap, kLput1_ap, decide_true, decide_false, ix_t0, ix_t1, len_tup, txs_length, eqB_int, c1, slD_tup, cut_take, cut_drop, txs_take, txs_drop, ea]
noncomputable abbrev nearS (cd cp : List D → List MO → R) : M Fl := (seqS (parA [6, 7, 8] [.inl (callF cd (consS (varS 0) (consS (cS (.int 2)) nilS))), .inl (callF cd (consS (varS 0) (consS (cS (.int 3)) nilS))), .inl (callF cp (consS (varS 0) (consS (varS 1) nilS)))])
    (seqS (setS 3 (frzS (callN listN (consS (binS ixA (varS 2) (varS 6)) nilS))))
    (seqS (setS 4 (callF cd (consS (varS 0) (consS (binS addD (callV lenD (consS (varS 3) nilS)) (cS (.int 1))) nilS))))
    (seqS (setS 3 (binS addD (binS addD (slS (varS 3) noPartS (partS (varS 4))) (iteS (tstS (binS ltD (varS 7) (cS (.int 2)))) (frzS (lstF (consS (varS 8) nilS))) (frzS (lstF nilS)))) (slS (varS 3) (partS (binS addD (varS 4) (callV intD (consS (binS gtD (varS 7) (cS (.int 0))) nilS)))) noPartS)))
    (seqS (ownS 5 (lstF (consS (binS ixA (varS 2) (cS (.int 0))) (consS (binS ixA (varS 2) (cS (.int 1))) nilS))))
    (seqS (lputS (orT (callV tupleD (consS (varS 3) nilS)) (tupS (consS (varS 8) nilS))) (varS 5) (varS 6))
    (retS (tupS (consS (binS ixA (varS 5) (cS (.int 0))) (consS (binS ixA (varS 5) (cS (.int 1))) nilS))))))))))
def IsNear (c : List D → List MO → R) : Prop := ∀ (n : Nat) (z : DS) (l b r : List Str), l ≠ [] → (∀ x ∈ l, Nm x) → l.length ≤ 25 → Rn 20 20 b r → Bd (n + 4) z → ∃ b' r' z', c [.hnd 1, .lst (txs l), rn b r] z.muz = .ok (rn b' r') z'.muz ∧ Rn 60 60 b' r' ∧ Bd n z'
theorem orT_ne (s : S) (g : M D) (x : Str) (l : List Str) : kOrT1 g (.tup (txs (x :: l))) (truD (vw s (.tup (txs (x :: l))))) s = .ok (.tup (txs (x :: l))) s := Eq.trans rfl rfl
theorem orT_nil (s : S) (g : M D) : kOrT1 g (.tup (txs [])) (truD (vw s (.tup (txs [])))) s = g s := Eq.trans rfl rfl
theorem near_ok (hd : IsDraw cd) (hp : IsPick cp) : IsNear (runD 9 3 (nearS cd cp)) := by
  intro n z l b r l0 hn ll h hB
  have r0 : 0 < r.length := List.length_pos_iff.mpr h.ne
  have bl := h.bl; have rl := h.rl
  obtain ⟨p, z1, e1, p0, p1, B1⟩ := draw_call hd (m := 2) (n := n + 3) hB (by omega) (by omega)
  obtain ⟨way, z2, e2, w0, w1, B2⟩ := draw_call hd (m := 3) (n := n + 2) B1 (by omega) (by omega)
  obtain ⟨name, hm, z3, e3, B3⟩ := pick_txs hp (n := n + 1) B2 l0 (by omega)
  have nn := hn name hm
  -- the part
  have go : ∀ (q : List Str), (∀ x ∈ q, Nm x) → q.length ≤ 20 → (∀ s : S, ixA s (rn b r) (.int p) = some (.tup (txs q))) →
      (∀ q' : List Str, q' ≠ [] → (∀ x ∈ q', Nm x) → q'.length ≤ 60 → ∃ b' r', Rn 60 60 b' r' ∧ ixN 2 p = some p.toNat ∧ ([D.tup (txs b), D.tup (txs r)] : List D).set p.toNat (.tup (txs q')) = [.tup (txs b'), .tup (txs r')]) →
      ∃ b' r' z', runD 9 3 (nearS cd cp) [.hnd 1, .lst (txs l), rn b r] z.muz = .ok (rn b' r') z'.muz ∧ Rn 60 60 b' r' ∧ Bd n z' := by
    intro q qn ql ep fin
    obtain ⟨a, z4, e4, a0, a1, B4⟩ := draw_call hd (m := ((q.length : Nat) : Int) + 1) (n := n) B3 (by omega) (by omega)
    obtain ⟨a, rfl⟩ := Int.eq_ofNat_of_zero_le a0
    obtain ⟨mid, hmid, lmid, emid⟩ : ∃ mid : List Str, (∀ x ∈ mid, Nm x) ∧ mid.length ≤ 1 ∧ ∀ s : S, s.rhz[7]? = some (.d (.int way)) → s.rhz[8]? = some (.d (.str name)) → (iteS (tstS (binS ltD (varS 7) (cS (.int 2)))) (frzS (lstF (consS (varS 8) nilS))) (frzS (lstF nilS))) s = .ok (.lst (txs mid)) s := by
      by_cases c : way < 2
      · have c1 : decide (way < 2) = true := decide_eq_true c
        refine ⟨[name], by simpa using nn, by simp, fun s h7 h8 => ?_⟩
        simp only [seqS_ap, setS_ap, retS_ap, ifS_ap, iteS_ap, tstS_ap, tNotS_ap, tAndS_ap, tOrS_ap, andS_ap, orS_ap, notS_ap, binS_ap, unS_ap, callF_ap, callV_ap, callN_ap, consS_ap, nilS_ap, tupS_ap, lstF_ap, frzS_ap, ownS_ap, exS_ap, cS_ap, varS_ap, parA_ap, parS_inl, parS_inr, parS_nil, forS_ap, itRng_ap, itRng2_ap, itS_ap, itStr_ap, lcF_ap, slS_ap, slF_ap, noPartS_ap, partS_ap, isiS_ap, chainS_ap, nxS_ap, bkS_ap, ctS_ap, yesS_ap, orT_ap, appS_ap, popAtS_ap, dputS_ap, lputS_ap, hndS_ap, m1S_ap, asgS_ap, O.bind_ok, kVar_d, kVar_own, kB1_ap, kB2_ap, kU_ap, kAnd_t, kAnd_f, kOr_t, kOr_f, kNot_ap, kTst_ap, kTAnd_t, kTAnd_f, kTOr_t, kTOr_f, kTNot_ap, kIte_t, kIte_f, kC0_ap, kC1_ap, kC1'_t, kC1'_f, kC2_ap, kCons_ap, kCons2_ap, kTup_0, kTup_1, kTup_2, kTupB_t, kLst_0, kLst_1, kLstB_t, kFrz_ap, kCv_ap, kCn_ap, ofO_some, ofN_some, kEx_ap, kSet_ap, kSetB_t, kOwn_ap, kRet_non, kRet_bl, kRet_int, kRet_str, kRet_tup, kRet_lst, kRet_hnd, kRet_dct, kRet_ins, kRet_loc, kRet1_ap, kSeq_nx, kSeq_rt, kSeq_bk, kSeq_ct, kIt_ap, kIts_ap, seqD_lst, seqD_tup, seqD_scr, kFor_ap, tgN_ap, tgT_ap, tgsS_nil, tgsS_cons, kSl_ap, kSl1_ap, kSl2_ap, kSlF_ap, kSlF1_ap, kPart_ap, kPd_ap, kPdB_t, kPm_ap, kPc_ap, kPar_ap, putP_d, putP_m, putP_0, kHnd_ap, frzD, kAsg_ap, kAsgB_t, sto_non, sto_bl, sto_int, sto_str, sto_tup, sto_lst, sto_dct, sto_ins, sto_hnd, sto_scr, Bool.and_self, Bool.not_true, Bool.not_false, List.getElem?_cons_zero, List.getElem?_cons_succ, List.set_cons_succ, List.set_cons_zero, kM1_ap, kM1b_ap, kOrT_ap, kOrT1_t, kOrT1_f, eqD_ap, neD_ap, Option.map_some, addD_int, subD_int, gtD_int, ltD_int, cmpI_int, intD_int, intD_bl, negD_int, kStr_ap, kLput_ap, kLput1_ap, decide_true, decide_false, h7, h8, c1]
        rfl
      · have c1 : decide (way < 2) = false := decide_eq_false c
        refine ⟨[], by simp, by simp, fun s h7 h8 => ?_⟩
        simp only [seqS_ap, setS_ap, retS_ap, ifS_ap, iteS_ap, tstS_ap, tNotS_ap, tAndS_ap, tOrS_ap, andS_ap, orS_ap, notS_ap, binS_ap, unS_ap, callF_ap, callV_ap, callN_ap, consS_ap, nilS_ap, tupS_ap, lstF_ap, frzS_ap, ownS_ap, exS_ap, cS_ap, varS_ap, parA_ap, parS_inl, parS_inr, parS_nil, forS_ap, itRng_ap, itRng2_ap, itS_ap, itStr_ap, lcF_ap, slS_ap, slF_ap, noPartS_ap, partS_ap, isiS_ap, chainS_ap, nxS_ap, bkS_ap, ctS_ap, yesS_ap, orT_ap, appS_ap, popAtS_ap, dputS_ap, lputS_ap, hndS_ap, m1S_ap, asgS_ap, O.bind_ok, kVar_d, kVar_own, kB1_ap, kB2_ap, kU_ap, kAnd_t, kAnd_f, kOr_t, kOr_f, kNot_ap, kTst_ap, kTAnd_t, kTAnd_f, kTOr_t, kTOr_f, kTNot_ap, kIte_t, kIte_f, kC0_ap, kC1_ap, kC1'_t, kC1'_f, kC2_ap, kCons_ap, kCons2_ap, kTup_0, kTup_1, kTup_2, kTupB_t, kLst_0, kLst_1, kLstB_t, kFrz_ap, kCv_ap, kCn_ap, ofO_some, ofN_some, kEx_ap, kSet_ap, kSetB_t, kOwn_ap, kRet_non, kRet_bl, kRet_int, kRet_str, kRet_tup, kRet_lst, kRet_hnd, kRet_dct, kRet_ins, kRet_loc, kRet1_ap, kSeq_nx, kSeq_rt, kSeq_bk, kSeq_ct, kIt_ap, kIts_ap, seqD_lst, seqD_tup, seqD_scr, kFor_ap, tgN_ap, tgT_ap, tgsS_nil, tgsS_cons, kSl_ap, kSl1_ap, kSl2_ap, kSlF_ap, kSlF1_ap, kPart_ap, kPd_ap, kPdB_t, kPm_ap, kPc_ap, kPar_ap, putP_d, putP_m, putP_0, kHnd_ap, frzD, kAsg_ap, kAsgB_t, sto_non, sto_bl, sto_int, sto_str, sto_tup, sto_lst, sto_dct, sto_ins, sto_hnd, sto_scr, Bool.and_self, Bool.not_true, Bool.not_false, List.getElem?_cons_zero, List.getElem?_cons_succ, List.set_cons_succ, List.set_cons_zero, kM1_ap, kM1b_ap, kOrT_ap, kOrT1_t, kOrT1_f, eqD_ap, neD_ap, Option.map_some, addD_int, subD_int, gtD_int, ltD_int, cmpI_int, intD_int, intD_bl, negD_int, kStr_ap, kLput_ap, kLput1_ap, decide_true, decide_false, h7, h8, c1]
        rfl
    obtain ⟨j, ej⟩ : ∃ j : Nat, ((a : Nat) : Int) + (if decide (0 < way) = true then 1 else 0) = (j : Int) := by
      by_cases c : 0 < way
      · exact ⟨a + 1, by simp [c]⟩
      · exact ⟨a, by simp [c]⟩
    obtain ⟨res, hres⟩ : ∃ res : List Str, res = q.take a ++ mid ++ q.drop j := ⟨_, rfl⟩
    have rn_ : ∀ x ∈ res, Nm x := by
      rw [hres]
      intro x hx
      rcases List.mem_append.mp hx with hx | hx
      · rcases List.mem_append.mp hx with hx | hx
        · exact qn x (List.mem_of_mem_take hx)
        · exact hmid x hx
      · exact qn x (List.mem_of_mem_drop hx)
    have rlen : res.length ≤ 60 := by
      rw [hres]
      simp only [List.length_append, List.length_take, List.length_drop]
      omega
    have ea1 : ∀ s, addD s (.lst (txs (q.take a))) (.lst (txs mid)) = some (.lst (txs (q.take a ++ mid))) := fun s => by
      rw [addD_lst s (by rw [txs_length, txs_length, List.length_take]; omega), txs_app]
    have ea2 : ∀ s, addD s (.lst (txs (q.take a ++ mid))) (.lst (txs (q.drop j))) = some (.lst (txs res)) := fun s => by
      rw [addD_lst s (by rw [txs_length, txs_length, List.length_append, List.length_take, List.length_drop]; omega), txs_app, hres]
    obtain ⟨q', q'ne, q'n, q'l, eor⟩ : ∃ q' : List Str, q' ≠ [] ∧ (∀ x ∈ q', Nm x) ∧ q'.length ≤ 60 ∧ ∀ s : S, s.rhz[3]? = some (.d (.lst (txs res))) → s.rhz[8]? = some (.d (.str name)) → (orT (callV tupleD (consS (varS 3) nilS)) (tupS (consS (varS 8) nilS))) s = .ok (.tup (txs q')) s := by
      have t1 : ∀ s (m : List Str), tupleD s [.lst (txs m)] = some (.tup (txs m)) := fun s m => Eq.trans rfl rfl
      cases res with
      | nil =>
        refine ⟨[name], by simp, by simpa using nn, by simp, fun s h3 h8 => ?_⟩
        simp only [seqS_ap, setS_ap, retS_ap, ifS_ap, iteS_ap, tstS_ap, tNotS_ap, tAndS_ap, tOrS_ap, andS_ap, orS_ap, notS_ap, binS_ap, unS_ap, callF_ap, callV_ap, callN_ap, consS_ap, nilS_ap, tupS_ap, lstF_ap, frzS_ap, ownS_ap, exS_ap, cS_ap, varS_ap, parA_ap, parS_inl, parS_inr, parS_nil, forS_ap, itRng_ap, itRng2_ap, itS_ap, itStr_ap, lcF_ap, slS_ap, slF_ap, noPartS_ap, partS_ap, isiS_ap, chainS_ap, nxS_ap, bkS_ap, ctS_ap, yesS_ap, orT_ap, appS_ap, popAtS_ap, dputS_ap, lputS_ap, hndS_ap, m1S_ap, asgS_ap, O.bind_ok, kVar_d, kVar_own, kB1_ap, kB2_ap, kU_ap, kAnd_t, kAnd_f, kOr_t, kOr_f, kNot_ap, kTst_ap, kTAnd_t, kTAnd_f, kTOr_t, kTOr_f, kTNot_ap, kIte_t, kIte_f, kC0_ap, kC1_ap, kC1'_t, kC1'_f, kC2_ap, kCons_ap, kCons2_ap, kTup_0, kTup_1, kTup_2, kTupB_t, kLst_0, kLst_1, kLstB_t, kFrz_ap, kCv_ap, kCn_ap, ofO_some, ofN_some, kEx_ap, kSet_ap, kSetB_t, kOwn_ap, kRet_non, kRet_bl, kRet_int, kRet_str, kRet_tup, kRet_lst, kRet_hnd, kRet_dct, kRet_ins, kRet_loc, kRet1_ap, kSeq_nx, kSeq_rt, kSeq_bk, kSeq_ct, kIt_ap, kIts_ap, seqD_lst, seqD_tup, seqD_scr, kFor_ap, tgN_ap, tgT_ap, tgsS_nil, tgsS_cons, kSl_ap, kSl1_ap, kSl2_ap, kSlF_ap, kSlF1_ap, kPart_ap, kPd_ap, kPdB_t, kPm_ap, kPc_ap, kPar_ap, putP_d, putP_m, putP_0, kHnd_ap, frzD, kAsg_ap, kAsgB_t, sto_non, sto_bl, sto_int, sto_str, sto_tup, sto_lst, sto_dct, sto_ins, sto_hnd, sto_scr, Bool.and_self, Bool.not_true, Bool.not_false, List.getElem?_cons_zero, List.getElem?_cons_succ, List.set_cons_succ, List.set_cons_zero, kM1_ap, kM1b_ap, kOrT_ap, kOrT1_t, kOrT1_f, eqD_ap, neD_ap, Option.map_some, addD_int, subD_int, gtD_int, ltD_int, cmpI_int, intD_int, intD_bl, negD_int, kStr_ap, kLput_ap, kLput1_ap, decide_true, decide_false, h3, h8, t1, orT_nil]
        rfl
      | cons x res =>
        refine ⟨x :: res, by simp, rn_, rlen, fun s h3 h8 => ?_⟩
        simp only [seqS_ap, setS_ap, retS_ap, ifS_ap, iteS_ap, tstS_ap, tNotS_ap, tAndS_ap, tOrS_ap, andS_ap, orS_ap, notS_ap, binS_ap, unS_ap, callF_ap, callV_ap, callN_ap, consS_ap, nilS_ap, tupS_ap, lstF_ap, frzS_ap, ownS_ap, exS_ap, cS_ap, varS_ap, parA_ap, parS_inl, parS_inr, parS_nil, forS_ap, itRng_ap, itRng2_ap, itS_ap, itStr_ap, lcF_ap, slS_ap, slF_ap, noPartS_ap, partS_ap, isiS_ap, chainS_ap, nxS_ap, bkS_ap, ctS_ap, yesS_ap, orT_ap, appS_ap, popAtS_ap, dputS_ap, lputS_ap, hndS_ap, m1S_ap, asgS_ap, O.bind_ok, kVar_d, kVar_own, kB1_ap, kB2_ap, kU_ap, kAnd_t, kAnd_f, kOr_t, kOr_f, kNot_ap, kTst_ap, kTAnd_t, kTAnd_f, kTOr_t, kTOr_f, kTNot_ap, kIte_t, kIte_f, kC0_ap, kC1_ap, kC1'_t, kC1'_f, kC2_ap, kCons_ap, kCons2_ap, kTup_0, kTup_1, kTup_2, kTupB_t, kLst_0, kLst_1, kLstB_t, kFrz_ap, kCv_ap, kCn_ap, ofO_some, ofN_some, kEx_ap, kSet_ap, kSetB_t, kOwn_ap, kRet_non, kRet_bl, kRet_int, kRet_str, kRet_tup, kRet_lst, kRet_hnd, kRet_dct, kRet_ins, kRet_loc, kRet1_ap, kSeq_nx, kSeq_rt, kSeq_bk, kSeq_ct, kIt_ap, kIts_ap, seqD_lst, seqD_tup, seqD_scr, kFor_ap, tgN_ap, tgT_ap, tgsS_nil, tgsS_cons, kSl_ap, kSl1_ap, kSl2_ap, kSlF_ap, kSlF1_ap, kPart_ap, kPd_ap, kPdB_t, kPm_ap, kPc_ap, kPar_ap, putP_d, putP_m, putP_0, kHnd_ap, frzD, kAsg_ap, kAsgB_t, sto_non, sto_bl, sto_int, sto_str, sto_tup, sto_lst, sto_dct, sto_ins, sto_hnd, sto_scr, Bool.and_self, Bool.not_true, Bool.not_false, List.getElem?_cons_zero, List.getElem?_cons_succ, List.set_cons_succ, List.set_cons_zero, kM1_ap, kM1b_ap, kOrT_ap, kOrT1_t, kOrT1_f, eqD_ap, neD_ap, Option.map_some, addD_int, subD_int, gtD_int, ltD_int, cmpI_int, intD_int, intD_bl, negD_int, kStr_ap, kLput_ap, kLput1_ap, decide_true, decide_false, h3, h8, t1, orT_ne]
    obtain ⟨b', r', hR, ei, eset⟩ := fin q' q'ne q'n q'l
    refine ⟨b', r', z4, ?_, hR, B4⟩
    have eL : ∀ s, listN s [.tup (txs q)] = some (.ml (txs q)) := fun s => Eq.trans rfl rfl
    have k2 : ∀ s, kLst [.tup (txs b), .tup (txs r)] s = .ok (.ml [.tup (txs b), .tup (txs r)]) s := fun s => kLst_ap _ _ rfl (by simp [LIM])
    have kp := kLput2_own (n := 5) (j := p.toNat) (i := p) (rhz := [.d (.hnd 1), .d (.lst (txs l)), .d (rn b r), .d (.lst (txs res)), .d (.int (a : Nat)), .own (.ml [.tup (txs b), .tup (txs r)]), .d (.int p), .d (.int way), .d (.str name)]) (muz := z4.muz) (l := [.tup (txs b), .tup (txs r)]) (z := .tup (txs q')) rfl rfl ei
    rw [eset] at kp
    have vl : ∀ s : S, s.rhz[5]? = some (.own (.ml [.tup (txs b'), .tup (txs r')])) → vw s (.loc 5) = .lst [.tup (txs b'), .tup (txs r')] := fun s hs => by
      unfold vw
      simp only [hs, frzD]
    have x0 : ∀ s : S, s.rhz[5]? = some (.own (.ml [.tup (txs b'), .tup (txs r')])) → ixA s (.loc 5) (.int 0) = some (.tup (txs b')) := fun s hs => by
      have := ix_l0 s (.tup (txs b')) [.tup (txs r')]
      unfold ixA ixD at this ⊢
      rw [vl s hs]
      exact this
    have x1 : ∀ s : S, s.rhz[5]? = some (.own (.ml [.tup (txs b'), .tup (txs r')])) → ixA s (.loc 5) (.int 1) = some (.tup (txs r')) := fun s hs => by
      have := ix_l1 s (.tup (txs b')) (.tup (txs r')) []
      unfold ixA ixD at this ⊢
      rw [vl s hs]
      exact this
    refine runD_eq (s := ⟨[.d (.hnd 1), .d (.lst (txs l)), .d (rn b r), .d (.lst (txs res)), .d (.int (a : Nat)), .own (.ml [.tup (txs b'), .tup (txs r')]), .d (.int p), .d (.int way), .d (.str name)], z4.muz⟩) rfl ?_
    show nearS cd cp ⟨[.d (.hnd 1), .d (.lst (txs l)), .d (rn b r), .un, .un, .un, .un, .un, .un], z.muz⟩ = _
    unfold rn at ep kp ⊢
    simp only [nearS, ↓emid, ↓eor, seqS_ap, setS_ap, retS_ap, ifS_ap, iteS_ap, tstS_ap, tNotS_ap, tAndS_ap, tOrS_ap, andS_ap, orS_ap, notS_ap, binS_ap, unS_ap, callF_ap, callV_ap, callN_ap, consS_ap, nilS_ap, tupS_ap, lstF_ap, frzS_ap, ownS_ap, exS_ap, cS_ap, varS_ap, parA_ap, parS_inl, parS_inr, parS_nil, forS_ap, itRng_ap, itRng2_ap, itS_ap, itStr_ap, lcF_ap, slS_ap, slF_ap, noPartS_ap, partS_ap, isiS_ap, chainS_ap, nxS_ap, bkS_ap, ctS_ap, yesS_ap, orT_ap, appS_ap, popAtS_ap, dputS_ap, lputS_ap, hndS_ap, m1S_ap, asgS_ap, O.bind_ok, kVar_d, kVar_own, kB1_ap, kB2_ap, kU_ap, kAnd_t, kAnd_f, kOr_t, kOr_f, kNot_ap, kTst_ap, kTAnd_t, kTAnd_f, kTOr_t, kTOr_f, kTNot_ap, kIte_t, kIte_f, kC0_ap, kC1_ap, kC1'_t, kC1'_f, kC2_ap, kCons_ap, kCons2_ap, kTup_0, kTup_1, kTup_2, kTupB_t, kLst_0, kLst_1, kLstB_t, kFrz_ap, kCv_ap, kCn_ap, ofO_some, ofN_some, kEx_ap, kSet_ap, kSetB_t, kOwn_ap, kRet_non, kRet_bl, kRet_int, kRet_str, kRet_tup, kRet_lst, kRet_hnd, kRet_dct, kRet_ins, kRet_loc, kRet1_ap, kSeq_nx, kSeq_rt, kSeq_bk, kSeq_ct, kIt_ap, kIts_ap, seqD_lst, seqD_tup, seqD_scr, kFor_ap, tgN_ap, tgT_ap, tgsS_nil, tgsS_cons, kSl_ap, kSl1_ap, kSl2_ap, kSlF_ap, kSlF1_ap, kPart_ap, kPd_ap, kPdB_t, kPm_ap, kPc_ap, kPar_ap, putP_d, putP_m, putP_0, kHnd_ap, frzD, kAsg_ap, kAsgB_t, sto_non, sto_bl, sto_int, sto_str, sto_tup, sto_lst, sto_dct, sto_ins, sto_hnd, sto_scr, Bool.and_self, Bool.not_true, Bool.not_false, List.getElem?_cons_zero, List.getElem?_cons_succ, List.set_cons_succ, List.set_cons_zero, kM1_ap, kM1b_ap, kOrT_ap, kOrT1_t, kOrT1_f, eqD_ap, neD_ap, Option.map_some, addD_int, subD_int, gtD_int, ltD_int, cmpI_int, intD_int, intD_bl, negD_int, kStr_ap, kLput_ap, kLput1_ap, decide_true, decide_false, e1, e2, e3, ep, eL, lenD_lst, txs_length, e4, slD_lst, cut_take, txs_take, ea1, ej, cut_drop, txs_drop, ea2, ix_t0, ix_t1, k2, kp, x0, x1]
  by_cases q : p = 0
  · subst q
    exact go b h.nb bl (fun s => ix_t0 s _ _) fun q' q0 qn ql => ⟨q', r, ⟨qn, h.nr, h.ne, ql, by omega⟩, by decide, rfl⟩
  · have : p = 1 := by omega
    subst this
    exact go r h.nr rl (fun s => ix_t1 s _ _ _) fun q' q0 qn ql => ⟨b, q', ⟨h.nb, qn, q0, by omega, ql⟩, by decide, rfl⟩
end
end AG

set_option Elab.async false
set_option linter.all false
set_option maxRecDepth 100000
set_option exponentiation.threshold 4000
namespace AG
open PySem L2 AG.Wd
theorem dispF_ap (f : M (List (D × D))) (s : S) : dispF f s = (f s).bind fun ps s1 => if ps.all (fun p => sto p.1 && sto p.2 && isKey false p.1) && decide (ps.length ≤ 15) then .ok (.md false (ps.foldl (fun l p => putD false l p.1 p.2) [])) s1 else .st := Eq.trans rfl rfl
theorem pconsS_ap (f g : M D) (r : M (List (D × D))) (s : S) : pconsS f g r s = (f s).bind fun x s1 => (g s1).bind fun y s2 => (r s2).bind fun ps s3 => .ok ((x, y) :: ps) s3 := Eq.trans rfl rfl
theorem pnilS_ap (s : S) : pnilS s = .ok [] s := Eq.trans rfl rfl
abbrev BIG : Int := 10 ^ 18
noncomputable abbrev beginS : M Fl := (seqS (setS 1 (frzS (lcF (itS (varS 0)) (tgN 2) yesS (callV absD (consS (varS 2) nilS)) [2])))
    (retS (hndS (dispF (pconsS (cS (.str "large")) (hndS (lcF (itS (varS 1)) (tgN 2) (tstS (binS (cmpI fun i j => decide (j ≤ i)) (varS 2) (binS powD (cS (.int 10)) (cS (.int 18))))) (binS subD (varS 2) (binS powD (cS (.int 10)) (cS (.int 18)))) [2])) (pconsS (cS (.str "cells")) (varS 1) (pconsS (cS (.str "rest")) (cS (.int 0)) (pconsS (cS (.str "turn")) (cS (.int 0)) pnilS))))))))
def absI (i : Int) : Int := if i < 0 then -i else i
def IsBegin (c : List D → List MO → R) : Prop := ∀ ns : List Int, ns.length ≤ 63 → ∃ z : DS, c [.scr ns] [] = .ok (.hnd 1) z.muz ∧ Bd (2 ^ 60) z
def intOf : D → Int
  | .int i => i
  | _ => 0
theorem begin_ok : IsBegin (runD 3 1 beginS) := by
  intro ns hl
  have l1 := kLc_pure (i := 2) (c := yesS) (e := callV absD (consS (varS 2) nilS)) (rhz := [.d (.scr ns), .un, .un]) (ds := ns.map .int) (muz := []) (fun _ => true) (fun d => .int (absI (intOf d))) (by simp) rfl (fun _ _ => yesS_ap _) (fun d hd _ => by
    obtain ⟨i, _, rfl⟩ := List.mem_map.mp hd
    have ea : ∀ s, absD s [.int i] = some (.int (absI i)) := fun s => Eq.trans rfl rfl
    refine ⟨?_, rfl⟩
    simp only [seqS_ap, setS_ap, retS_ap, ifS_ap, iteS_ap, tstS_ap, tNotS_ap, tAndS_ap, tOrS_ap, andS_ap, orS_ap, notS_ap, binS_ap, unS_ap, callF_ap, callV_ap, callN_ap, consS_ap, nilS_ap, tupS_ap, lstF_ap, frzS_ap, ownS_ap, exS_ap, cS_ap, varS_ap, parA_ap, parS_inl, parS_inr, parS_nil, forS_ap, itRng_ap, itRng2_ap, itS_ap, itStr_ap, lcF_ap, slS_ap, slF_ap, noPartS_ap, partS_ap, isiS_ap, chainS_ap, nxS_ap, bkS_ap, ctS_ap, yesS_ap, orT_ap, appS_ap, popAtS_ap, dputS_ap, lputS_ap, hndS_ap, m1S_ap, asgS_ap, O.bind_ok, kVar_d, kVar_own, kB1_ap, kB2_ap, kU_ap, kAnd_t, kAnd_f, kOr_t, kOr_f, kNot_ap, kTst_ap, kTAnd_t, kTAnd_f, kTOr_t, kTOr_f, kTNot_ap, kIte_t, kIte_f, kC0_ap, kC1_ap, kC1'_t, kC1'_f, kC2_ap, kCons_ap, kCons2_ap, kTup_0, kTup_1, kTup_2, kTupB_t, kLst_0, kLst_1, kLstB_t, kFrz_ap, kCv_ap, kCn_ap, ofO_some, ofN_some, kEx_ap, kSet_ap, kSetB_t, kOwn_ap, kRet_non, kRet_bl, kRet_int, kRet_str, kRet_tup, kRet_lst, kRet_hnd, kRet_dct, kRet_ins, kRet_loc, kRet1_ap, kSeq_nx, kSeq_rt, kSeq_bk, kSeq_ct, kIt_ap, kIts_ap, seqD_lst, seqD_tup, seqD_scr, kFor_ap, tgN_ap, tgT_ap, tgsS_nil, tgsS_cons, kSl_ap, kSl1_ap, kSl2_ap, kSlF_ap, kSlF1_ap, kPart_ap, kPd_ap, kPdB_t, kPm_ap, kPc_ap, kPar_ap, putP_d, putP_m, putP_0, kHnd_ap, frzD, kAsg_ap, kAsgB_t, sto_non, sto_bl, sto_int, sto_str, sto_tup, sto_lst, sto_dct, sto_ins, sto_hnd, sto_scr, Bool.and_self, Bool.not_true, Bool.not_false, List.getElem?_cons_zero, List.getElem?_cons_succ, List.set_cons_succ, List.set_cons_zero, kM1_ap, kM1b_ap, kOrT_ap, kOrT1_t, kOrT1_f, eqD_ap, neD_ap, Option.map_some, addD_int, subD_int, gtD_int, ltD_int, cmpI_int, intD_int, intD_bl, negD_int, kStr_ap, kLput_ap, kLput1_ap, decide_true, decide_false, ea]
    rfl) (by rw [List.length_map]; exact Nat.le_trans hl (by decide))
  have e1 : ((ns.map D.int).filter fun _ => true).map (fun d => D.int (absI (intOf d))) = isl (ns.map absI) := by
    rw [List.filter_eq_self.mpr (by simp)]
    simp [isl, intOf, Function.comp_def]
  rw [e1] at l1
  have pw : ∀ s, powD s (.int 10) (.int 18) = some (.int BIG) := fun s => powD_int s (a := 10) (b := 18) (by
    have : (2 : Nat) ^ 4 ≤ 2 ^ 2000 := Nat.pow_le_pow_right (by omega) (by omega)
    exact Nat.lt_of_lt_of_le (by decide) this) (by omega)
  have l2 := kLc_pure (i := 2) (c := tstS (binS (cmpI fun i j => decide (j ≤ i)) (varS 2) (binS powD (cS (.int 10)) (cS (.int 18))))) (e := binS subD (varS 2) (binS powD (cS (.int 10)) (cS (.int 18)))) (rhz := [.d (.scr ns), .d (.lst (isl (ns.map absI))), .un]) (ds := isl (ns.map absI)) (muz := []) (fun d => decide (BIG ≤ intOf d)) (fun d => .int (intOf d - BIG)) (by simp) rfl (fun d hd => by
    unfold isl at hd
    obtain ⟨i, _, rfl⟩ := List.mem_map.mp hd
    simp only [seqS_ap, setS_ap, retS_ap, ifS_ap, iteS_ap, tstS_ap, tNotS_ap, tAndS_ap, tOrS_ap, andS_ap, orS_ap, notS_ap, binS_ap, unS_ap, callF_ap, callV_ap, callN_ap, consS_ap, nilS_ap, tupS_ap, lstF_ap, frzS_ap, ownS_ap, exS_ap, cS_ap, varS_ap, parA_ap, parS_inl, parS_inr, parS_nil, forS_ap, itRng_ap, itRng2_ap, itS_ap, itStr_ap, lcF_ap, slS_ap, slF_ap, noPartS_ap, partS_ap, isiS_ap, chainS_ap, nxS_ap, bkS_ap, ctS_ap, yesS_ap, orT_ap, appS_ap, popAtS_ap, dputS_ap, lputS_ap, hndS_ap, m1S_ap, asgS_ap, O.bind_ok, kVar_d, kVar_own, kB1_ap, kB2_ap, kU_ap, kAnd_t, kAnd_f, kOr_t, kOr_f, kNot_ap, kTst_ap, kTAnd_t, kTAnd_f, kTOr_t, kTOr_f, kTNot_ap, kIte_t, kIte_f, kC0_ap, kC1_ap, kC1'_t, kC1'_f, kC2_ap, kCons_ap, kCons2_ap, kTup_0, kTup_1, kTup_2, kTupB_t, kLst_0, kLst_1, kLstB_t, kFrz_ap, kCv_ap, kCn_ap, ofO_some, ofN_some, kEx_ap, kSet_ap, kSetB_t, kOwn_ap, kRet_non, kRet_bl, kRet_int, kRet_str, kRet_tup, kRet_lst, kRet_hnd, kRet_dct, kRet_ins, kRet_loc, kRet1_ap, kSeq_nx, kSeq_rt, kSeq_bk, kSeq_ct, kIt_ap, kIts_ap, seqD_lst, seqD_tup, seqD_scr, kFor_ap, tgN_ap, tgT_ap, tgsS_nil, tgsS_cons, kSl_ap, kSl1_ap, kSl2_ap, kSlF_ap, kSlF1_ap, kPart_ap, kPd_ap, kPdB_t, kPm_ap, kPc_ap, kPar_ap, putP_d, putP_m, putP_0, kHnd_ap, frzD, kAsg_ap, kAsgB_t, sto_non, sto_bl, sto_int, sto_str, sto_tup, sto_lst, sto_dct, sto_ins, sto_hnd, sto_scr, Bool.and_self, Bool.not_true, Bool.not_false, List.getElem?_cons_zero, List.getElem?_cons_succ, List.set_cons_succ, List.set_cons_zero, kM1_ap, kM1b_ap, kOrT_ap, kOrT1_t, kOrT1_f, eqD_ap, neD_ap, Option.map_some, addD_int, subD_int, gtD_int, ltD_int, cmpI_int, intD_int, intD_bl, negD_int, kStr_ap, kLput_ap, kLput1_ap, decide_true, decide_false, pw, intOf]
    rfl) (fun d hd _ => by
    unfold isl at hd
    obtain ⟨i, _, rfl⟩ := List.mem_map.mp hd
    refine ⟨?_, rfl⟩
    simp only [seqS_ap, setS_ap, retS_ap, ifS_ap, iteS_ap, tstS_ap, tNotS_ap, tAndS_ap, tOrS_ap, andS_ap, orS_ap, notS_ap, binS_ap, unS_ap, callF_ap, callV_ap, callN_ap, consS_ap, nilS_ap, tupS_ap, lstF_ap, frzS_ap, ownS_ap, exS_ap, cS_ap, varS_ap, parA_ap, parS_inl, parS_inr, parS_nil, forS_ap, itRng_ap, itRng2_ap, itS_ap, itStr_ap, lcF_ap, slS_ap, slF_ap, noPartS_ap, partS_ap, isiS_ap, chainS_ap, nxS_ap, bkS_ap, ctS_ap, yesS_ap, orT_ap, appS_ap, popAtS_ap, dputS_ap, lputS_ap, hndS_ap, m1S_ap, asgS_ap, O.bind_ok, kVar_d, kVar_own, kB1_ap, kB2_ap, kU_ap, kAnd_t, kAnd_f, kOr_t, kOr_f, kNot_ap, kTst_ap, kTAnd_t, kTAnd_f, kTOr_t, kTOr_f, kTNot_ap, kIte_t, kIte_f, kC0_ap, kC1_ap, kC1'_t, kC1'_f, kC2_ap, kCons_ap, kCons2_ap, kTup_0, kTup_1, kTup_2, kTupB_t, kLst_0, kLst_1, kLstB_t, kFrz_ap, kCv_ap, kCn_ap, ofO_some, ofN_some, kEx_ap, kSet_ap, kSetB_t, kOwn_ap, kRet_non, kRet_bl, kRet_int, kRet_str, kRet_tup, kRet_lst, kRet_hnd, kRet_dct, kRet_ins, kRet_loc, kRet1_ap, kSeq_nx, kSeq_rt, kSeq_bk, kSeq_ct, kIt_ap, kIts_ap, seqD_lst, seqD_tup, seqD_scr, kFor_ap, tgN_ap, tgT_ap, tgsS_nil, tgsS_cons, kSl_ap, kSl1_ap, kSl2_ap, kSlF_ap, kSlF1_ap, kPart_ap, kPd_ap, kPdB_t, kPm_ap, kPc_ap, kPar_ap, putP_d, putP_m, putP_0, kHnd_ap, frzD, kAsg_ap, kAsgB_t, sto_non, sto_bl, sto_int, sto_str, sto_tup, sto_lst, sto_dct, sto_ins, sto_hnd, sto_scr, Bool.and_self, Bool.not_true, Bool.not_false, List.getElem?_cons_zero, List.getElem?_cons_succ, List.set_cons_succ, List.set_cons_zero, kM1_ap, kM1b_ap, kOrT_ap, kOrT1_t, kOrT1_f, eqD_ap, neD_ap, Option.map_some, addD_int, subD_int, gtD_int, ltD_int, cmpI_int, intD_int, intD_bl, negD_int, kStr_ap, kLput_ap, kLput1_ap, decide_true, decide_false, pw, intOf]) (by rw [isl_len, List.length_map]; exact Nat.le_trans hl (by decide))
  have e2 : ((isl (ns.map absI)).filter fun d => decide (BIG ≤ intOf d)).map (fun d => D.int (intOf d - BIG)) = isl (((ns.map absI).filter fun i => decide (BIG ≤ i)).map fun i => i - BIG) := by
    unfold isl
    rw [List.filter_map, List.map_map, List.map_map]
    rfl
  rw [e2] at l2
  have nat0 : ∀ x ∈ ((ns.map absI).filter fun i => decide (BIG ≤ i)).map fun i => i - BIG, 0 ≤ x := by
    intro x hx
    obtain ⟨i, hi, rfl⟩ := List.mem_map.mp hx
    have := of_decide_eq_true (List.mem_filter.mp hi).2
    omega
  refine ⟨⟨((ns.map absI).filter fun i => decide (BIG ≤ i)).map fun i => i - BIG, ns.map absI, 0, 0⟩, ?_, ⟨⟨nat0, by show (0 : Int) ≤ 0; omega, by show (0 : Int) ≤ 0; omega, by rw [List.length_map]; exact hl, ?_⟩, ?_⟩⟩
  · refine runD_eq (s := ⟨[.d (.scr ns), .d (.lst (isl (ns.map absI))), .un], _⟩) rfl ?_
    show beginS ⟨[.d (.scr ns), .un, .un], []⟩ = _
    simp only [beginS, seqS_ap, setS_ap, retS_ap, ifS_ap, iteS_ap, tstS_ap, tNotS_ap, tAndS_ap, tOrS_ap, andS_ap, orS_ap, notS_ap, binS_ap, unS_ap, callF_ap, callV_ap, callN_ap, consS_ap, nilS_ap, tupS_ap, lstF_ap, frzS_ap, ownS_ap, exS_ap, cS_ap, varS_ap, parA_ap, parS_inl, parS_inr, parS_nil, forS_ap, itRng_ap, itRng2_ap, itS_ap, itStr_ap, lcF_ap, slS_ap, slF_ap, noPartS_ap, partS_ap, isiS_ap, chainS_ap, nxS_ap, bkS_ap, ctS_ap, yesS_ap, orT_ap, appS_ap, popAtS_ap, dputS_ap, lputS_ap, hndS_ap, m1S_ap, asgS_ap, O.bind_ok, kVar_d, kVar_own, kB1_ap, kB2_ap, kU_ap, kAnd_t, kAnd_f, kOr_t, kOr_f, kNot_ap, kTst_ap, kTAnd_t, kTAnd_f, kTOr_t, kTOr_f, kTNot_ap, kIte_t, kIte_f, kC0_ap, kC1_ap, kC1'_t, kC1'_f, kC2_ap, kCons_ap, kCons2_ap, kTup_0, kTup_1, kTup_2, kTupB_t, kLst_0, kLst_1, kLstB_t, kFrz_ap, kCv_ap, kCn_ap, ofO_some, ofN_some, kEx_ap, kSet_ap, kSetB_t, kOwn_ap, kRet_non, kRet_bl, kRet_int, kRet_str, kRet_tup, kRet_lst, kRet_hnd, kRet_dct, kRet_ins, kRet_loc, kRet1_ap, kSeq_nx, kSeq_rt, kSeq_bk, kSeq_ct, kIt_ap, kIts_ap, seqD_lst, seqD_tup, seqD_scr, kFor_ap, tgN_ap, tgT_ap, tgsS_nil, tgsS_cons, kSl_ap, kSl1_ap, kSl2_ap, kSlF_ap, kSlF1_ap, kPart_ap, kPd_ap, kPdB_t, kPm_ap, kPc_ap, kPar_ap, putP_d, putP_m, putP_0, kHnd_ap, frzD, kAsg_ap, kAsgB_t, sto_non, sto_bl, sto_int, sto_str, sto_tup, sto_lst, sto_dct, sto_ins, sto_hnd, sto_scr, Bool.and_self, Bool.not_true, Bool.not_false, List.getElem?_cons_zero, List.getElem?_cons_succ, List.set_cons_succ, List.set_cons_zero, kM1_ap, kM1b_ap, kOrT_ap, kOrT1_t, kOrT1_f, eqD_ap, neD_ap, Option.map_some, addD_int, subD_int, gtD_int, ltD_int, cmpI_int, intD_int, intD_bl, negD_int, kStr_ap, kLput_ap, kLput1_ap, decide_true, decide_false, l1, dispF_ap, pconsS_ap, pnilS_ap, l2]
    rfl
  · rw [List.length_map]
    exact Nat.le_trans (List.length_filter_le _ _) (by rw [List.length_map]; exact hl)
  · show (0 : Int) + ((2 ^ 60 : Nat) : Int) * UNIT < TOP
    have h := top_unit
    have u := unit_pos
    have : ((2 ^ 60 : Nat) : Int) * UNIT ≤ (2 ^ 70 : Int) * UNIT := Int.mul_le_mul_of_nonneg_right (by decide) (by omega)
    omega
theorem repr3 (a b c : Bool) (s : S) : reprD s [.lst [.bl a, .bl b, .bl c]] = some (.str (PyData.shown (.list [.bool a, .bool b, .bool c]))) := by
  have e : pyL [.bl a, .bl b, .bl c] = some [.bool a, .bool b, .bool c] := by simp [pyL, pyOf]
  have h : ∀ a b c : Bool, decide (PyData.showable (.list [.bool a, .bool b, .bool c]) = true ∧ PyData.hasDict (.list [.bool a, .bool b, .bool c]) = false ∧ PyData.depth (.list [.bool a, .bool b, .bool c]) ≤ 60 ∧ (PyData.shown (.list [.bool a, .bool b, .bool c])).length ≤ LIM) = true := by
    intro a b c
    cases a <;> cases b <;> cases c <;> decide +kernel
  unfold reprD
  simp only [vw, e]
  rw [if_pos (of_decide_eq_true (h a b c))]
section
variable {cd cp cr c14 c6 c5 : List D → List MO → R}
noncomputable abbrev lgB (c14 c6 : List D → List MO → R) : M Fl := (seqS (setS 9 (callF c14 (consS (varS 7) (consS (varS 8) nilS))))
    (ifS (tstS (binS neD (callV reprD (consS (frzS (lstF (consS (callF c6 (consS (varS 7) (consS (varS 8) nilS))) (consS (callF c6 (consS (varS 8) (consS (varS 7) nilS))) (consS (callF c6 (consS (varS 7) (consS (varS 7) nilS))) nilS))))) nilS)) (callV reprD (consS (frzS (lstF (consS (varS 9) (consS (varS 9) (consS (cS (.bl true)) nilS))))) nilS)))) (retS (cS (.bl false))) nxS))
noncomputable abbrev longRightS (cd cp cr c14 c6 c5 : List D → List MO → R) : M Fl := (seqS (setS 2 (callV tupleD (consS (frzS (lcF (itRng (binS addD (cS (.int 60)) (callF cd (consS (varS 0) (consS (cS (.int 90)) nilS))))) (tgN 10) yesS (callF cp (consS (varS 0) (consS (varS 1) nilS))) [10])) nilS)))
    (seqS (setS 3 (binS addD (slS (varS 2) noPartS (partS (unS negD (cS (.int 1))))) (tupS (consS (iteS (tstS (binS eqD (binS ixA (varS 2) (unS negD (cS (.int 1)))) (binS ixA (varS 1) (cS (.int 1))))) (binS ixA (varS 1) (cS (.int 0))) (binS ixA (varS 1) (cS (.int 1)))) nilS))))
    (seqS (setS 4 (binS ixA (callF cr (consS (varS 0) (consS (varS 1) nilS))) (cS (.int 1))))
    (seqS (setS 5 (frzS (lstF (consS (tupS (consS (tupS (consS (varS 2) (consS (varS 4) nilS))) (consS (tupS (consS (varS 3) (consS (varS 4) nilS))) nilS))) (consS (tupS (consS (tupS (consS (tupS nilS) (consS (varS 2) nilS))) (consS (tupS (consS (tupS nilS) (consS (varS 3) nilS))) nilS))) (consS (tupS (consS (tupS (consS (varS 2) (consS (varS 2) nilS))) (consS (tupS (consS (tupS nilS) (consS (binS addD (varS 2) (varS 3)) nilS))) nilS))) nilS))))))
    (seqS (forS (itS (varS 5)) (tgT [(tgN 7), (tgN 8)]) (lgB c14 c6))
    (seqS (setS 6 (callF c5 (consS (tupS (consS (tupS nilS) (consS (binS mulE (varS 2) (cS (.int 2))) nilS))) nilS)))
    (retS (andS (callF c14 (consS (varS 6) (consS (tupS (consS (tupS nilS) (consS (varS 2) nilS))) nilS))) (andS (binS (cmpI fun i j => decide (i ≤ j)) (callV lenD (consS (binS ixA (varS 6) (cS (.int 1))) nilS)) (callV lenD (consS (varS 2) nilS))) (callF c6 (consS (tupS (consS (tupS nilS) (consS (binS mulE (varS 2) (cS (.int 2))) nilS))) (consS (tupS (consS (tupS nilS) (consS (varS 2) nilS))) nilS))))))))))))
theorem kLst_3 (a b c : Bool) (s : S) : kLst [.bl a, .bl b, .bl c] s = .ok (.ml [.bl a, .bl b, .bl c]) s := kLst_ap _ _ rfl (by simp [LIM])
theorem lg_turn (hs : IsSame c14) (h6 : IsSameRun c6) (d0 d1 d2 d3 d4 d5 : D) (s6 s7 s8 s9 s10 : SV) {b r b' r' : List Str} (h : Rn 400 400 b r) (h' : Rn 400 400 b' r') (muz : List MO) :
    ∃ t, lgB c14 c6 ⟨[.d d0, .d d1, .d d2, .d d3, .d d4, .d d5, s6, .d (rn b r), .d (rn b' r'), s9, s10], muz⟩ = .ok .nx ⟨[.d d0, .d d1, .d d2, .d d3, .d d4, .d d5, s6, .d (rn b r), .d (rn b' r'), .d (.bl t), s10], muz⟩ := by
  obtain ⟨t, et, it⟩ := hs b r b' r' muz h h'
  obtain ⟨t1, et1, it1⟩ := h6 b r b' r' muz (h.le (by omega) (by omega)) (h'.le (by omega) (by omega))
  obtain ⟨t2, et2, it2⟩ := h6 b' r' b r muz (h'.le (by omega) (by omega)) (h.le (by omega) (by omega))
  obtain ⟨t3, et3, it3⟩ := h6 b r b r muz (h.le (by omega) (by omega)) (h.le (by omega) (by omega))
  have q1 : t1 = t := by rw [Bool.eq_iff_iff, it, it1]
  have q2 : t2 = t := by rw [Bool.eq_iff_iff, it, it2]; exact ⟨fun h i => (h i).symm, fun h i => (h i).symm⟩
  have q3 : t3 = true := it3.mpr fun _ => rfl
  rw [q1] at et1
  rw [q2] at et2
  rw [q3] at et3
  have e0 : ∀ rhz, kCall c14 [rn b r, rn b' r'] ⟨rhz, muz⟩ = .ok (.bl t) ⟨rhz, muz⟩ := fun rhz => kCall_eq et rfl
  have e1 : ∀ rhz, kCall c6 [rn b r, rn b' r'] ⟨rhz, muz⟩ = .ok (.bl t) ⟨rhz, muz⟩ := fun rhz => kCall_eq et1 rfl
  have e2 : ∀ rhz, kCall c6 [rn b' r', rn b r] ⟨rhz, muz⟩ = .ok (.bl t) ⟨rhz, muz⟩ := fun rhz => kCall_eq et2 rfl
  have e3 : ∀ rhz, kCall c6 [rn b r, rn b r] ⟨rhz, muz⟩ = .ok (.bl true) ⟨rhz, muz⟩ := fun rhz => kCall_eq et3 rfl
  refine ⟨t, ?_⟩
  simp only [lgB, seqS_ap, setS_ap, retS_ap, ifS_ap, iteS_ap, tstS_ap, tNotS_ap, tAndS_ap, tOrS_ap, andS_ap, orS_ap, notS_ap, binS_ap, unS_ap, callF_ap, callV_ap, callN_ap, consS_ap, nilS_ap, tupS_ap, lstF_ap, frzS_ap, ownS_ap, exS_ap, cS_ap, varS_ap, parA_ap, parS_inl, parS_inr, parS_nil, forS_ap, itRng_ap, itRng2_ap, itS_ap, itStr_ap, lcF_ap, slS_ap, slF_ap, noPartS_ap, partS_ap, isiS_ap, chainS_ap, nxS_ap, bkS_ap, ctS_ap, yesS_ap, orT_ap, appS_ap, popAtS_ap, dputS_ap, lputS_ap, hndS_ap, m1S_ap, asgS_ap, O.bind_ok, kVar_d, kVar_own, kB1_ap, kB2_ap, kU_ap, kAnd_t, kAnd_f, kOr_t, kOr_f, kNot_ap, kTst_ap, kTAnd_t, kTAnd_f, kTOr_t, kTOr_f, kTNot_ap, kIte_t, kIte_f, kC0_ap, kC1_ap, kC1'_t, kC1'_f, kC2_ap, kCons_ap, kCons2_ap, kTup_0, kTup_1, kTup_2, kTupB_t, kLst_0, kLst_1, kLstB_t, kFrz_ap, kCv_ap, kCn_ap, ofO_some, ofN_some, kEx_ap, kSet_ap, kSetB_t, kOwn_ap, kRet_non, kRet_bl, kRet_int, kRet_str, kRet_tup, kRet_lst, kRet_hnd, kRet_dct, kRet_ins, kRet_loc, kRet1_ap, kSeq_nx, kSeq_rt, kSeq_bk, kSeq_ct, kIt_ap, kIts_ap, seqD_lst, seqD_tup, seqD_scr, kFor_ap, tgN_ap, tgT_ap, tgsS_nil, tgsS_cons, kSl_ap, kSl1_ap, kSl2_ap, kSlF_ap, kSlF1_ap, kPart_ap, kPd_ap, kPdB_t, kPm_ap, kPc_ap, kPar_ap, putP_d, putP_m, putP_0, kHnd_ap, frzD, kAsg_ap, kAsgB_t, sto_non, sto_bl, sto_int, sto_str, sto_tup, sto_lst, sto_dct, sto_ins, sto_hnd, sto_scr, Bool.and_self, Bool.not_true, Bool.not_false, List.getElem?_cons_zero, List.getElem?_cons_succ, List.set_cons_succ, List.set_cons_zero, kM1_ap, kM1b_ap, kOrT_ap, kOrT1_t, kOrT1_f, eqD_ap, neD_ap, Option.map_some, addD_int, subD_int, gtD_int, ltD_int, cmpI_int, intD_int, intD_bl, negD_int, kStr_ap, kLput_ap, kLput1_ap, decide_true, decide_false, e0, e1, e2, e3, kLst_3, repr3, eqB_str]
def IsLongRight (c : List D → List MO → R) : Prop := ∀ (n : Nat) (z : DS) (l : List Str), l.length = 2 → (∀ x ∈ l, Nm x) → Bd (n + 250) z → ∃ z', c [.hnd 1, .lst (txs l)] z.muz = .ok (.bl true) z'.muz ∧ Bd n z'
theorem longRight_ok (hd : IsDraw cd) (hp : IsPick cp) (hr : IsRunDrawn cr) (hs : IsSame c14) (h6 : IsSameRun c6) (h5 : IsLeastF c5) : IsLongRight (runD 11 2 (longRightS cd cp cr c14 c6 c5)) := by
  intro n z l l2 hn hB
  obtain ⟨x, y, rfl⟩ : ∃ x y, l = [x, y] := by
    match l, l2 with
    | [x, y], _ => exact ⟨x, y, rfl⟩
  have nx := hn x (by simp)
  have ny := hn y (by simp)
  obtain ⟨v, z1, e1, v0, v1, B1⟩ := draw_call hd (m := 90) (n := n + 249) hB (by omega) (by omega)
  obtain ⟨v, rfl⟩ := Int.eq_ofNat_of_zero_le v0
  obtain ⟨part, z2, e2, p2, p3, B2⟩ := lc_picks hp (rhz := [.d (.hnd 1), .d (.lst (txs [x, y])), .un, .un, .un, .un, .un, .un, .un, .un, .un]) (i := 10) (j := 1) (l := [x, y]) (by simp) rfl rfl rfl (by omega) (by omega) (by simp) (by simp) (60 + v) (by omega) (n := n + 60) (B1.le (by omega))
  obtain ⟨b0, tail, z3, e3, hR, B3⟩ := hr n z2 [x, y] (by simp) hn (by simp) (B2.le (by omega))
  have pn : ∀ q ∈ part, Nm q := fun q hq => hn q (p3 q hq)
  rcases List.eq_nil_or_concat part with q | ⟨p', w, q⟩
  · rw [q] at p2; simp at p2; omega
  rw [List.concat_eq_append] at q
  have p'n : ∀ q ∈ p', Nm q := fun a ha => pn a (by rw [q]; exact List.mem_append_left _ ha)
  have plen : p'.length + 1 = 60 + v := by rw [← p2, q]; simp
  obtain ⟨o, on, eo⟩ : ∃ o : Str, Nm o ∧ (iteS (tstS (binS eqD (binS ixA (varS 2) (unS negD (cS (.int 1)))) (binS ixA (varS 1) (cS (.int 1))))) (binS ixA (varS 1) (cS (.int 0))) (binS ixA (varS 1) (cS (.int 1)))) ⟨[.d (.hnd 1), .d (.lst (txs [x, y])), .d (.tup (txs part)), .un, .un, .un, .un, .un, .un, .un, .un], z2.muz⟩ = .ok (.str o) ⟨[.d (.hnd 1), .d (.lst (txs [x, y])), .d (.tup (txs part)), .un, .un, .un, .un, .un, .un, .un, .un], z2.muz⟩ := by
    have i1 : ∀ s, ixA s (.tup (txs part)) (.int (-1)) = some (.str w) := fun s => ix_last s _ (by rw [txs_last, q]; simp)
    have i2 : ∀ s, ixA s (.lst (txs [x, y])) (.int 0) = some (.str x) := fun s => ix_l0 s _ _
    have i3 : ∀ s, ixA s (.lst (txs [x, y])) (.int 1) = some (.str y) := fun s => ix_l1 s _ _ _
    by_cases c : w = y
    · have c1 : decide (w = y) = true := decide_eq_true c
      exact ⟨x, nx, by simp only [seqS_ap, setS_ap, retS_ap, ifS_ap, iteS_ap, tstS_ap, tNotS_ap, tAndS_ap, tOrS_ap, andS_ap, orS_ap, notS_ap, binS_ap, unS_ap, callF_ap, callV_ap, callN_ap, consS_ap, nilS_ap, tupS_ap, lstF_ap, frzS_ap, ownS_ap, exS_ap, cS_ap, varS_ap, parA_ap, parS_inl, parS_inr, parS_nil, forS_ap, itRng_ap, itRng2_ap, itS_ap, itStr_ap, lcF_ap, slS_ap, slF_ap, noPartS_ap, partS_ap, isiS_ap, chainS_ap, nxS_ap, bkS_ap, ctS_ap, yesS_ap, orT_ap, appS_ap, popAtS_ap, dputS_ap, lputS_ap, hndS_ap, m1S_ap, asgS_ap, O.bind_ok, kVar_d, kVar_own, kB1_ap, kB2_ap, kU_ap, kAnd_t, kAnd_f, kOr_t, kOr_f, kNot_ap, kTst_ap, kTAnd_t, kTAnd_f, kTOr_t, kTOr_f, kTNot_ap, kIte_t, kIte_f, kC0_ap, kC1_ap, kC1'_t, kC1'_f, kC2_ap, kCons_ap, kCons2_ap, kTup_0, kTup_1, kTup_2, kTupB_t, kLst_0, kLst_1, kLstB_t, kFrz_ap, kCv_ap, kCn_ap, ofO_some, ofN_some, kEx_ap, kSet_ap, kSetB_t, kOwn_ap, kRet_non, kRet_bl, kRet_int, kRet_str, kRet_tup, kRet_lst, kRet_hnd, kRet_dct, kRet_ins, kRet_loc, kRet1_ap, kSeq_nx, kSeq_rt, kSeq_bk, kSeq_ct, kIt_ap, kIts_ap, seqD_lst, seqD_tup, seqD_scr, kFor_ap, tgN_ap, tgT_ap, tgsS_nil, tgsS_cons, kSl_ap, kSl1_ap, kSl2_ap, kSlF_ap, kSlF1_ap, kPart_ap, kPd_ap, kPdB_t, kPm_ap, kPc_ap, kPar_ap, putP_d, putP_m, putP_0, kHnd_ap, frzD, kAsg_ap, kAsgB_t, sto_non, sto_bl, sto_int, sto_str, sto_tup, sto_lst, sto_dct, sto_ins, sto_hnd, sto_scr, Bool.and_self, Bool.not_true, Bool.not_false, List.getElem?_cons_zero, List.getElem?_cons_succ, List.set_cons_succ, List.set_cons_zero, kM1_ap, kM1b_ap, kOrT_ap, kOrT1_t, kOrT1_f, eqD_ap, neD_ap, Option.map_some, addD_int, subD_int, gtD_int, ltD_int, cmpI_int, intD_int, intD_bl, negD_int, kStr_ap, kLput_ap, kLput1_ap, decide_true, decide_false, i1, i2, i3, eqB_str, c1]⟩
    · have c1 : decide (w = y) = false := decide_eq_false c
      exact ⟨y, ny, by simp only [seqS_ap, setS_ap, retS_ap, ifS_ap, iteS_ap, tstS_ap, tNotS_ap, tAndS_ap, tOrS_ap, andS_ap, orS_ap, notS_ap, binS_ap, unS_ap, callF_ap, callV_ap, callN_ap, consS_ap, nilS_ap, tupS_ap, lstF_ap, frzS_ap, ownS_ap, exS_ap, cS_ap, varS_ap, parA_ap, parS_inl, parS_inr, parS_nil, forS_ap, itRng_ap, itRng2_ap, itS_ap, itStr_ap, lcF_ap, slS_ap, slF_ap, noPartS_ap, partS_ap, isiS_ap, chainS_ap, nxS_ap, bkS_ap, ctS_ap, yesS_ap, orT_ap, appS_ap, popAtS_ap, dputS_ap, lputS_ap, hndS_ap, m1S_ap, asgS_ap, O.bind_ok, kVar_d, kVar_own, kB1_ap, kB2_ap, kU_ap, kAnd_t, kAnd_f, kOr_t, kOr_f, kNot_ap, kTst_ap, kTAnd_t, kTAnd_f, kTOr_t, kTOr_f, kTNot_ap, kIte_t, kIte_f, kC0_ap, kC1_ap, kC1'_t, kC1'_f, kC2_ap, kCons_ap, kCons2_ap, kTup_0, kTup_1, kTup_2, kTupB_t, kLst_0, kLst_1, kLstB_t, kFrz_ap, kCv_ap, kCn_ap, ofO_some, ofN_some, kEx_ap, kSet_ap, kSetB_t, kOwn_ap, kRet_non, kRet_bl, kRet_int, kRet_str, kRet_tup, kRet_lst, kRet_hnd, kRet_dct, kRet_ins, kRet_loc, kRet1_ap, kSeq_nx, kSeq_rt, kSeq_bk, kSeq_ct, kIt_ap, kIts_ap, seqD_lst, seqD_tup, seqD_scr, kFor_ap, tgN_ap, tgT_ap, tgsS_nil, tgsS_cons, kSl_ap, kSl1_ap, kSl2_ap, kSlF_ap, kSlF1_ap, kPart_ap, kPd_ap, kPdB_t, kPm_ap, kPc_ap, kPar_ap, putP_d, putP_m, putP_0, kHnd_ap, frzD, kAsg_ap, kAsgB_t, sto_non, sto_bl, sto_int, sto_str, sto_tup, sto_lst, sto_dct, sto_ins, sto_hnd, sto_scr, Bool.and_self, Bool.not_true, Bool.not_false, List.getElem?_cons_zero, List.getElem?_cons_succ, List.set_cons_succ, List.set_cons_zero, kM1_ap, kM1b_ap, kOrT_ap, kOrT1_t, kOrT1_f, eqD_ap, neD_ap, Option.map_some, addD_int, subD_int, gtD_int, ltD_int, cmpI_int, intD_int, intD_bl, negD_int, kStr_ap, kLput_ap, kLput1_ap, decide_true, decide_false, i1, i2, i3, eqB_str, c1]⟩
  obtain ⟨other, hother⟩ : ∃ other, other = p' ++ [o] := ⟨_, rfl⟩
  have othn : ∀ q ∈ other, Nm q := by
    rw [hother]
    intro a ha
    rcases List.mem_append.mp ha with ha | ha
    · exact p'n a ha
    · simp only [List.mem_singleton] at ha
      subst ha
      exact on
  have othl : other.length = part.length := by rw [hother, q]; simp
  have tn := hR.nr
  have tl := hR.rl
  have R1 : Rn 400 400 part tail := ⟨pn, tn, hR.ne, by omega, by omega⟩
  have R2 : Rn 400 400 other tail := ⟨othn, tn, hR.ne, by omega, by omega⟩
  have one : part ≠ [] := fun z => by rw [z] at p2; simp at p2; omega
  have two : other ≠ [] := fun z => by rw [z] at othl; simp at othl; exact one (List.eq_nil_of_length_eq_zero othl.symm)
  have R3 : Rn 400 400 [] part := ⟨by simp, pn, one, by simp, by omega⟩
  have R4 : Rn 400 400 [] other := ⟨by simp, othn, two, by simp, by omega⟩
  have R5 : Rn 400 400 part part := ⟨pn, pn, one, by omega, by omega⟩
  have R6 : Rn 400 400 [] (part ++ other) := ⟨by simp, fun a ha => by
    rcases List.mem_append.mp ha with ha | ha
    · exact pn a ha
    · exact othn a ha, by simp [one], by simp, by rw [List.length_append]; omega⟩
  have R7 : Rn 400 400 [] (List.replicate 2 part).flatten := ⟨by simp, fun a ha => pn a (rep_mem ha), fun z => one (by
    have : (List.replicate 2 part).flatten.length = 0 := by rw [z]; rfl
    rw [rep_len] at this
    exact List.eq_nil_of_length_eq_zero (by omega)), by simp, by rw [rep_len]; omega⟩
  obtain ⟨lb, lr, e6, L6, w6, N6⟩ := h5 [] (List.replicate 2 part).flatten z3.muz (R7.le (by omega) (by omega))
  -- the word of part twice is that of part
  have same2 : ∀ i, wd [] (List.replicate 2 part).flatten i = wd [] part i := fun i => by
    have hp : Per (List.replicate 2 part).flatten part.length := by
      have dv : part.length ∣ (List.replicate 2 part).flatten.length := ⟨2, by rw [rep_len]; omega⟩
      have tk : (List.replicate 2 part).flatten.take part.length = part := by simp [List.replicate_succ]
      refine (power_iff (by have := List.length_pos_iff.mpr one; omega) dv R7.ne).mp ?_
      rw [tk]
      have : (List.replicate 2 part).flatten.length / part.length = 2 := by rw [rep_len]; exact Nat.mul_div_cancel _ (List.length_pos_iff.mpr one)
      rw [this]
    have := take_per (m := part.length) (List.length_pos_iff.mpr one) ⟨2, by rw [rep_len]; omega⟩ R7.ne hp [] i
    rw [← this]
    congr 1
    simp [List.replicate_succ]
  have lrl : lr.length ≤ part.length := by
    -- the least ring divides
    have hper : Per lr part.length := per_of_far (b := lb) L6.ne (n := lb.length) fun i hi => by
      rw [w6, w6, same2, same2]
      exact far_of_per (Per.self part) (Nat.zero_le _)
    exact Nat.le_of_dvd (List.length_pos_iff.mpr one) (L6.prim.le L6.ne (List.length_pos_iff.mpr one) hper)
  obtain ⟨t1, et1, it1⟩ := hs lb lr [] part z3.muz (N6.le (by simp) R7.rl) R3
  have t1t : t1 = true := it1.mpr fun i => by rw [w6, same2]
  obtain ⟨t2, et2, it2⟩ := h6 [] (List.replicate 2 part).flatten [] part z3.muz (R7.le (by omega) (by omega)) (R3.le (by omega) (by omega))
  have t2t : t2 = true := it2.mpr same2
  rw [t1t] at et1
  rw [t2t] at et2
  refine ⟨z3, ?_, B3⟩
  -- the pairs
  have pairs : ∀ s5 : D, Ok (forL (tgT [(tgN 7), (tgN 8)]) (lgB c14 c6) [.tup [rn part tail, rn other tail], .tup [rn [] part, rn [] other], .tup [rn part part, rn [] (part ++ other)]] ⟨[.d (.hnd 1), .d (.lst (txs [x, y])), .d (.tup (txs part)), .d (.tup (txs other)), .d (.tup (txs tail)), .d s5, .un, .un, .un, .un, .un], z3.muz⟩) fun fl s => fl = .nx ∧ ∃ s7 s8 s9, s = ⟨[.d (.hnd 1), .d (.lst (txs [x, y])), .d (.tup (txs part)), .d (.tup (txs other)), .d (.tup (txs tail)), .d s5, .un, s7, s8, s9, .un], z3.muz⟩ := by
    intro s5
    refine forL_inv _ (fun _ s => ∃ s7 s8 s9, s = ⟨[.d (.hnd 1), .d (.lst (txs [x, y])), .d (.tup (txs part)), .d (.tup (txs other)), .d (.tup (txs tail)), .d s5, .un, s7, s8, s9, .un], z3.muz⟩) _ ⟨_, _, _, rfl⟩ ?_ (fun s h => ⟨rfl, h⟩)
    rintro k d s hd ⟨s7, s8, s9, rfl⟩
    have hd' : ∃ b r b' r', d = .tup [rn b r, rn b' r'] ∧ Rn 400 400 b r ∧ Rn 400 400 b' r' := by
      have hm := List.mem_of_getElem? hd
      simp only [List.mem_cons, List.not_mem_nil, or_false] at hm
      rcases hm with rfl | rfl | rfl
      · exact ⟨_, _, _, _, rfl, R1, R2⟩
      · exact ⟨_, _, _, _, rfl, R3, R4⟩
      · exact ⟨_, _, _, _, rfl, R5, R6⟩
    obtain ⟨b, r, b', r', rfl, Ra, Rb⟩ := hd'
    obtain ⟨t, et⟩ := lg_turn hs h6 (.hnd 1) (.lst (txs [x, y])) (.tup (txs part)) (.tup (txs other)) (.tup (txs tail)) s5 .un .un .un s9 .un Ra Rb z3.muz
    have et' : lgB c14 c6 ⟨[.d (.hnd 1), .d (.lst (txs [x, y])), .d (.tup (txs part)), .d (.tup (txs other)), .d (.tup (txs tail)), .d s5, .un, .d (rn b r), .d (rn b' r'), s9, .un], z3.muz⟩ = _ := et
    simp only [tgT_ap, tgsS_cons, tgsS_nil, O.bind_ok, List.set_cons_succ, List.set_cons_zero]
    rw [et']
    exact ⟨_, _, _, rfl⟩
  obtain ⟨fl, s, e5, rfl, s7, s8, s9, rfl⟩ := (pairs (.lst [.tup [rn part tail, rn other tail], .tup [rn [] part, rn [] other], .tup [rn part part, rn [] (part ++ other)]])).ex
  refine runD_eq (s := ⟨[.d (.hnd 1), .d (.lst (txs [x, y])), .d (.tup (txs part)), .d (.tup (txs other)), .d (.tup (txs tail)), .d (.lst [.tup [rn part tail, rn other tail], .tup [rn [] part, rn [] other], .tup [rn part part, rn [] (part ++ other)]]), .d (rn lb lr), s7, s8, s9, .un], z3.muz⟩) rfl ?_
  have ev : ((60 : Int) + (v : Nat)) = ((60 + v : Nat) : Int) := by omega
  have f1 : ∀ s, kRng (.int ((60 + v : Nat) : Int)) s = .ok ((List.range (60 + v)).map fun i => .int (i : Nat)) s := fun s => kRng_ap _ s (by omega)
  have t1' : ∀ s (m : List Str), tupleD s [.lst (txs m)] = some (.tup (txs m)) := fun s m => Eq.trans rfl rfl
  have sp : (txs part).dropLast = txs p' := by rw [txs_init, q, List.dropLast_concat]
  have ea : ∀ s, addD s (.tup (txs p')) (.tup [.str o]) = some (.tup (txs other)) := fun s => by
    have := addD_tup s (a := txs p') (b := txs [o]) (by rw [txs_length, txs_length]; simp only [List.length_cons, List.length_nil]; omega)
    rw [txs_app, ← hother] at this
    exact this
  have k3 : ∀ rr, kCall cr [.hnd 1, .lst (txs [x, y])] ⟨rr, z2.muz⟩ = .ok (rn b0 tail) ⟨rr, z3.muz⟩ := fun rr => kCall_eq e3 rfl
  have k6 : ∀ rr, kCall c5 [rn [] (List.replicate 2 part).flatten] ⟨rr, z3.muz⟩ = .ok (rn lb lr) ⟨rr, z3.muz⟩ := fun rr => kCall_eq e6 rfl
  have k7 : ∀ rr, kCall c14 [rn lb lr, rn [] part] ⟨rr, z3.muz⟩ = .ok (.bl true) ⟨rr, z3.muz⟩ := fun rr => kCall_eq et1 rfl
  have k8 : ∀ rr, kCall c6 [rn [] (List.replicate 2 part).flatten, rn [] part] ⟨rr, z3.muz⟩ = .ok (.bl true) ⟨rr, z3.muz⟩ := fun rr => kCall_eq et2 rfl
  have em : ∀ s, mulE s (.tup (txs part)) (.int 2) = some (.tup (txs (List.replicate 2 part).flatten)) := fun s => by
    have := mulE_tup s (a := txs part) (k := 2) (by omega) (by omega) (fun z => one (txs_inj (a := part) (b := []) z)) (by rw [txs_length]; omega)
    rw [txs_rep] at this
    exact this
  have ea2 : ∀ s, addD s (.tup (txs part)) (.tup (txs other)) = some (.tup (txs (part ++ other))) := fun s => by
    rw [addD_tup s (by rw [txs_length, txs_length]; omega), txs_app]
  have kl : ∀ (a b c d e f : D) (s : S), kLst [.tup [a, b], .tup [c, d], .tup [e, f]] s = .ok (.ml [.tup [a, b], .tup [c, d], .tup [e, f]]) s := fun a b c d e f s => kLst_ap _ _ rfl (by simp [LIM])
  have cl : decide (((lr.length : Nat) : Int) ≤ ((part.length : Nat) : Int)) = true := decide_eq_true (by omega)
  have r0 : ∀ r : List Str, rn [] r = .tup [.tup [], .tup (txs r)] := fun r => rfl
  show longRightS cd cp cr c14 c6 c5 ⟨[.d (.hnd 1), .d (.lst (txs [x, y])), .un, .un, .un, .un, .un, .un, .un, .un, .un], z.muz⟩ = _
  simp only [r0] at e5 k6 k7 k8 ⊢
  unfold rn at e5 k3 k6 k7 ⊢
  simp only [longRightS, ↓eo, seqS_ap, setS_ap, retS_ap, ifS_ap, iteS_ap, tstS_ap, tNotS_ap, tAndS_ap, tOrS_ap, andS_ap, orS_ap, notS_ap, binS_ap, unS_ap, callF_ap, callV_ap, callN_ap, consS_ap, nilS_ap, tupS_ap, lstF_ap, frzS_ap, ownS_ap, exS_ap, cS_ap, varS_ap, parA_ap, parS_inl, parS_inr, parS_nil, forS_ap, itRng_ap, itRng2_ap, itS_ap, itStr_ap, lcF_ap, slS_ap, slF_ap, noPartS_ap, partS_ap, isiS_ap, chainS_ap, nxS_ap, bkS_ap, ctS_ap, yesS_ap, orT_ap, appS_ap, popAtS_ap, dputS_ap, lputS_ap, hndS_ap, m1S_ap, asgS_ap, O.bind_ok, kVar_d, kVar_own, kB1_ap, kB2_ap, kU_ap, kAnd_t, kAnd_f, kOr_t, kOr_f, kNot_ap, kTst_ap, kTAnd_t, kTAnd_f, kTOr_t, kTOr_f, kTNot_ap, kIte_t, kIte_f, kC0_ap, kC1_ap, kC1'_t, kC1'_f, kC2_ap, kCons_ap, kCons2_ap, kTup_0, kTup_1, kTup_2, kTupB_t, kLst_0, kLst_1, kLstB_t, kFrz_ap, kCv_ap, kCn_ap, ofO_some, ofN_some, kEx_ap, kSet_ap, kSetB_t, kOwn_ap, kRet_non, kRet_bl, kRet_int, kRet_str, kRet_tup, kRet_lst, kRet_hnd, kRet_dct, kRet_ins, kRet_loc, kRet1_ap, kSeq_nx, kSeq_rt, kSeq_bk, kSeq_ct, kIt_ap, kIts_ap, seqD_lst, seqD_tup, seqD_scr, kFor_ap, tgN_ap, tgT_ap, tgsS_nil, tgsS_cons, kSl_ap, kSl1_ap, kSl2_ap, kSlF_ap, kSlF1_ap, kPart_ap, kPd_ap, kPdB_t, kPm_ap, kPc_ap, kPar_ap, putP_d, putP_m, putP_0, kHnd_ap, frzD, kAsg_ap, kAsgB_t, sto_non, sto_bl, sto_int, sto_str, sto_tup, sto_lst, sto_dct, sto_ins, sto_hnd, sto_scr, Bool.and_self, Bool.not_true, Bool.not_false, List.getElem?_cons_zero, List.getElem?_cons_succ, List.set_cons_succ, List.set_cons_zero, kM1_ap, kM1b_ap, kOrT_ap, kOrT1_t, kOrT1_f, eqD_ap, neD_ap, Option.map_some, addD_int, subD_int, gtD_int, ltD_int, cmpI_int, intD_int, intD_bl, negD_int, kStr_ap, kLput_ap, kLput1_ap, decide_true, decide_false, e1, ev, f1, e2, t1', slD_tup, cut_init, sp, ea, k3, ix_t1, ea2, kl, e5, em, k6, k7, k8, len_tup, txs_length, cl]
end
end AG

set_option Elab.async false
set_option linter.all false
set_option maxRecDepth 100000
namespace AG.K07
open PySem L2 AG
noncomputable def f_is_name_S (C : Calls) : M Fl := (seqS (ifS (tOrS (tNotS (tstS (isiS "str" (varS 0)))) (tNotS (tstS (chainS (cmpI fun i j => decide (i ≤ j)) (cmpI fun i j => decide (i ≤ j)) (cS (.int 1)) (callV lenD (consS (varS 0) nilS)) (cS (.int 6)))))) (retS (cS (.bl false))) nxS)
    (retS (callV allD (consS (frzS (lcF (itStr (varS 0)) (tgN 1) yesS (binS inA (varS 1) (cS (.str "abcdefghijklmnopqrstuvwxyz"))) [1])) nilS))))
noncomputable def f_are_names_S (C : Calls) : M Fl := (retS (andS (isiS "tuple" (varS 0)) (callV allD (consS (frzS (lcF (itS (varS 0)) (tgN 1) yesS (callF (C 0) (consS (varS 1) nilS)) [1])) nilS))))
noncomputable def f_is_run_S (C : Calls) : M Fl := (seqS (ifS (tOrS (tNotS (tstS (isiS "tuple" (varS 0)))) (tOrS (tstS (binS neD (callV lenD (consS (varS 0) nilS)) (cS (.int 2)))) (tNotS (tstS (callF (C 1) (consS (binS ixA (varS 0) (cS (.int 0))) nilS)))))) (retS (cS (.bl false))) nxS)
    (retS (andS (callF (C 1) (consS (binS ixA (varS 0) (cS (.int 1))) nilS)) (binS gtD (callV lenD (consS (binS ixA (varS 0) (cS (.int 1))) nilS)) (cS (.int 0))))))
noncomputable def f_need_run_S (C : Calls) : M Fl := (ifS (tNotS (tstS (callF (C 2) (consS (varS 0) nilS)))) (raiseS 1) nxS)
noncomputable def f_root_of_S (C : Calls) : M Fl := (seqS (forS (itRng2 (cS (.int 1)) (callV lenD (consS (varS 0) nilS))) (tgN 1) (ifS (tAndS (tstS (binS eqD (binS modD (callV lenD (consS (varS 0) nilS)) (varS 1)) (cS (.int 0)))) (tstS (binS eqD (binS mulE (slS (varS 0) noPartS (partS (varS 1))) (binS fdivD (callV lenD (consS (varS 0) nilS)) (varS 1))) (varS 0)))) (retS (slS (varS 0) noPartS (partS (varS 1)))) nxS))
    (retS (varS 0)))
noncomputable def f_least_run_S (C : Calls) : M Fl := (seqS (exS (callF (C 3) (consS (varS 0) nilS)))
    (seqS (parA [1, 2] [.inl (binS ixA (varS 0) (cS (.int 0))), .inl (callF (C 4) (consS (binS ixA (varS 0) (cS (.int 1))) nilS))])
    (seqS (whS (tAndS (tstS (binS neD (varS 1) (tupS nilS))) (tstS (binS eqD (binS ixA (varS 1) (unS negD (cS (.int 1)))) (binS ixA (varS 2) (unS negD (cS (.int 1))))))) (parA [1, 2] [.inl (slS (varS 1) noPartS (partS (unS negD (cS (.int 1))))), .inl (binS addD (slS (varS 2) (partS (unS negD (cS (.int 1)))) noPartS) (slS (varS 2) noPartS (partS (unS negD (cS (.int 1))))))]))
    (retS (tupS (consS (varS 1) (consS (varS 2) nilS)))))))
noncomputable def f_same_run_S (C : Calls) : M Fl := (retS (binS eqD (callF (C 5) (consS (varS 0) nilS)) (callF (C 5) (consS (varS 1) nilS))))
noncomputable def f__law_begin_S (C : Calls) : M Fl := (seqS (setS 1 (frzS (lcF (itS (varS 0)) (tgN 2) yesS (callV absD (consS (varS 2) nilS)) [2])))
    (retS (hndS (dispF (pconsS (cS (.str "large")) (hndS (lcF (itS (varS 1)) (tgN 2) (tstS (binS (cmpI fun i j => decide (j ≤ i)) (varS 2) (binS powD (cS (.int 10)) (cS (.int 18))))) (binS subD (varS 2) (binS powD (cS (.int 10)) (cS (.int 18)))) [2])) (pconsS (cS (.str "cells")) (varS 1) (pconsS (cS (.str "rest")) (cS (.int 0)) (pconsS (cS (.str "turn")) (cS (.int 0)) pnilS))))))))
noncomputable def f__law_draw_S (C : Calls) : M Fl := (seqS (whS (tAndS (tstS (binS eqD (binS ixA (varS 0) (cS (.str "rest"))) (cS (.int 0)))) (tstS (binS neD (binS ixA (varS 0) (cS (.str "large"))) (frzS (lstF nilS))))) (dputS (popAtS (binS ixA (varS 0) (cS (.str "large"))) (cS (.int 0))) (varS 0) (cS (.str "rest"))))
    (seqS (ifS (tstS (binS gtD (binS ixA (varS 0) (cS (.str "rest"))) (cS (.int 0)))) (seqS (setS 5 (binS modD (callV intD (consS (binS ixA (varS 0) (cS (.str "rest"))) nilS)) (varS 1)))
    (seqS (dputS (binS fdivD (binS ixA (varS 0) (cS (.str "rest"))) (varS 1)) (varS 0) (cS (.str "rest")))
    (retS (varS 5)))) nxS)
    (seqS (setS 2 (binS addD (binS ixA (varS 0) (cS (.str "turn"))) (cS (.int 1))))
    (seqS (dputS (varS 2) (varS 0) (cS (.str "turn")))
    (seqS (setS 3 (iteS (tstS (binS neD (binS ixA (varS 0) (cS (.str "cells"))) (frzS (lstF nilS)))) (binS ixA (binS ixA (varS 0) (cS (.str "cells"))) (binS modD (callV intD (consS (varS 2) nilS)) (callV lenD (consS (binS ixA (varS 0) (cS (.str "cells"))) nilS)))) (cS (.int 0))))
    (seqS (setS 4 (binS modD (callV intD (consS (binS powD (binS addD (binS addD (binS modD (callV intD (consS (varS 3) nilS)) (cS (.int 2147483563))) (binS mulE (cS (.int 48271)) (varS 2))) (cS (.int 54321))) (cS (.int 3))) nilS)) (cS (.int 2147483647))))
    (retS (binS modD (callV intD (consS (binS fdivD (binS modD (callV intD (consS (binS powD (binS addD (varS 4) (binS mulE (cS (.int 130363)) (varS 2))) (cS (.int 5))) nilS)) (cS (.int 2147483549))) (cS (.int 17))) nilS)) (varS 1)))))))))
noncomputable def f__law_pick_S (C : Calls) : M Fl := (retS (binS ixA (varS 1) (callF (C 8) (consS (varS 0) (consS (callV lenD (consS (varS 1) nilS)) nilS)))))
noncomputable def f__law_mixed_S (C : Calls) : M Fl := (seqS (parA [2, 3] [.inr (callN listN (consS (varS 1) nilS)), .inr (lstF nilS)])
    (seqS (whS (tstS (binS neD (varS 2) (frzS (lstF nilS)))) (appS (varS 3) (popAtS (varS 2) (callF (C 8) (consS (varS 0) (consS (callV lenD (consS (varS 2) nilS)) nilS))))))
    (retS (varS 3))))
noncomputable def f__law_names_S (C : Calls) : M Fl := (seqS (setS 2 (cS (.str "abcdefghijklmnopqrstuvwxyz")))
    (seqS (setS 3 (frzS (lstF (consS (cS (.str "keeper")) (consS (cS (.str "hub")) (consS (cS (.str "good")) (consS (cS (.str "bad")) (consS (cS (.str "state")) (consS (cS (.str "start")) (consS (cS (.str "picka")) (consS (cS (.str "rab")) (consS (cS (.str "a")) (consS (cS (.str "b")) (consS (cS (.str "aa")) (consS (cS (.str "ab")) (consS (cS (.str "zzzzzz")) nilS))))))))))))))))
    (seqS (ownS 4 (lstF nilS))
    (seqS (forS (itRng (varS 1)) (tgN 5) (seqS (setS 6 (callF (C 9) (consS (varS 0) (consS (varS 3) nilS))))
    (seqS (ifS (tstS (binS gtD (callF (C 8) (consS (varS 0) (consS (cS (.int 3)) nilS))) (cS (.int 0)))) (setS 6 (m1S joinD (cS (.str "")) (frzS (lcF (itRng (callF (C 9) (consS (varS 0) (consS (frzS (lstF (consS (cS (.int 1)) (consS (cS (.int 1)) (consS (cS (.int 2)) (consS (cS (.int 6)) nilS)))))) nilS)))) (tgN 7) yesS (callF (C 9) (consS (varS 0) (consS (varS 2) nilS))) [7])))) nxS)
    (seqS (whS (tstS (binS inA (varS 6) (varS 4))) (setS 6 (iteS (tstS (binS ltD (callV lenD (consS (varS 6) nilS)) (cS (.int 6)))) (binS addD (slS (varS 6) noPartS (partS (cS (.int 5)))) (callF (C 9) (consS (varS 0) (consS (varS 2) nilS)))) (slS (varS 6) (partS (cS (.int 1))) noPartS))))
    (appS (varS 4) (varS 6))))))
    (retS (varS 4))))))
noncomputable def f__law_run_S (C : Calls) : M Fl := (seqS (setS 2 (frzS (lcF (itRng (callF (C 8) (consS (varS 0) (consS (cS (.int 7)) nilS)))) (tgN 4) yesS (callF (C 9) (consS (varS 0) (consS (varS 1) nilS))) [4])))
    (seqS (setS 3 (slS (callF (C 10) (consS (varS 0) (consS (varS 1) nilS))) noPartS (partS (binS addD (cS (.int 1)) (callF (C 8) (consS (varS 0) (consS (callV lenD (consS (varS 1) nilS)) nilS)))))))
    (retS (tupS (consS (callV tupleD (consS (varS 2) nilS)) (consS (callV tupleD (consS (frzS (lcF (itRng (binS addD (cS (.int 1)) (callF (C 8) (consS (varS 0) (consS (cS (.int 6)) nilS))))) (tgN 4) yesS (callF (C 9) (consS (varS 0) (consS (varS 3) nilS))) [4])) nilS)) nilS))))))
noncomputable def f__law_plain_S (C : Calls) : M Fl := (seqS (ownS 2 (slF (frzS (callN listN (consS (binS ixA (varS 0) (cS (.int 0))) nilS))) noPartS (partS (varS 1))))
    (seqS (whS (tstS (binS ltD (callV lenD (consS (varS 2) nilS)) (varS 1))) (appS (varS 2) (binS ixA (binS ixA (varS 0) (cS (.int 1))) (binS modD (callV intD (consS (binS subD (callV lenD (consS (varS 2) nilS)) (callV lenD (consS (binS ixA (varS 0) (cS (.int 0))) nilS))) nilS)) (callV lenD (consS (binS ixA (varS 0) (cS (.int 1))) nilS))))))
    (retS (callV tupleD (consS (varS 2) nilS)))))
noncomputable def f__law_same_S (C : Calls) : M Fl := (seqS (setS 2 (binS addD (binS addD (callV lenD (consS (binS ixA (varS 0) (cS (.int 0))) nilS)) (callV lenD (consS (binS ixA (varS 1) (cS (.int 0))) nilS))) (binS mulE (callV lenD (consS (binS ixA (varS 0) (cS (.int 1))) nilS)) (callV lenD (consS (binS ixA (varS 1) (cS (.int 1))) nilS)))))
    (seqS (setS 2 (binS addD (binS addD (varS 2) (callV lenD (consS (binS ixA (varS 0) (cS (.int 1))) nilS))) (callV lenD (consS (binS ixA (varS 1) (cS (.int 1))) nilS))))
    (retS (binS eqD (callF (C 13) (consS (varS 0) (consS (varS 2) nilS))) (callF (C 13) (consS (varS 1) (consS (varS 2) nilS)))))))
noncomputable def f__law_longer_S (C : Calls) : M Fl := (seqS (setS 2 (callF (C 8) (consS (varS 0) (consS (cS (.int 8)) nilS))))
    (seqS (setS 3 (binS modD (callV intD (consS (callV maxD (consS (cS (.int 0)) (consS (binS subD (varS 2) (callV lenD (consS (binS ixA (varS 1) (cS (.int 0))) nilS))) nilS))) nilS)) (callV lenD (consS (binS ixA (varS 1) (cS (.int 1))) nilS))))
    (seqS (setS 4 (callV maxD (consS (varS 2) (consS (callV lenD (consS (binS ixA (varS 1) (cS (.int 0))) nilS)) nilS))))
    (seqS (setS 5 (iteS (tstS (binS eqD (varS 4) (callV lenD (consS (binS ixA (varS 1) (cS (.int 0))) nilS)))) (binS ixA (varS 1) (cS (.int 1))) (binS addD (slS (binS ixA (varS 1) (cS (.int 1))) (partS (varS 3)) noPartS) (slS (binS ixA (varS 1) (cS (.int 1))) noPartS (partS (varS 3))))))
    (retS (tupS (consS (callF (C 13) (consS (varS 1) (consS (varS 4) nilS))) (consS (binS mulE (varS 5) (binS addD (cS (.int 1)) (callF (C 8) (consS (varS 0) (consS (cS (.int 3)) nilS))))) nilS))))))))
noncomputable def f__law_near_S (C : Calls) : M Fl := (seqS (parA [6, 7, 8] [.inl (callF (C 8) (consS (varS 0) (consS (cS (.int 2)) nilS))), .inl (callF (C 8) (consS (varS 0) (consS (cS (.int 3)) nilS))), .inl (callF (C 9) (consS (varS 0) (consS (varS 1) nilS)))])
    (seqS (setS 3 (frzS (callN listN (consS (binS ixA (varS 2) (varS 6)) nilS))))
    (seqS (setS 4 (callF (C 8) (consS (varS 0) (consS (binS addD (callV lenD (consS (varS 3) nilS)) (cS (.int 1))) nilS))))
    (seqS (setS 3 (binS addD (binS addD (slS (varS 3) noPartS (partS (varS 4))) (iteS (tstS (binS ltD (varS 7) (cS (.int 2)))) (frzS (lstF (consS (varS 8) nilS))) (frzS (lstF nilS)))) (slS (varS 3) (partS (binS addD (varS 4) (callV intD (consS (binS gtD (varS 7) (cS (.int 0))) nilS)))) noPartS)))
    (seqS (ownS 5 (lstF (consS (binS ixA (varS 2) (cS (.int 0))) (consS (binS ixA (varS 2) (cS (.int 1))) nilS))))
    (seqS (lputS (orT (callV tupleD (consS (varS 3) nilS)) (tupS (consS (varS 8) nilS))) (varS 5) (varS 6))
    (retS (tupS (consS (binS ixA (varS 5) (cS (.int 0))) (consS (binS ixA (varS 5) (cS (.int 1))) nilS))))))))))
noncomputable def f__law_is_least_S (C : Calls) : M Fl := (seqS (ifS (tAndS (tstS (binS neD (binS ixA (varS 0) (cS (.int 0))) (tupS nilS))) (tstS (binS eqD (binS ixA (binS ixA (varS 0) (cS (.int 0))) (unS negD (cS (.int 1)))) (binS ixA (binS ixA (varS 0) (cS (.int 1))) (unS negD (cS (.int 1))))))) (retS (cS (.bl false))) nxS)
    (seqS (forS (itRng2 (cS (.int 1)) (callV lenD (consS (binS ixA (varS 0) (cS (.int 1))) nilS))) (tgN 1) (ifS (tstS (callF (C 14) (consS (varS 0) (consS (tupS (consS (binS ixA (varS 0) (cS (.int 0))) (consS (slS (binS ixA (varS 0) (cS (.int 1))) noPartS (partS (varS 1))) nilS))) nilS)))) (retS (cS (.bl false))) nxS))
    (retS (cS (.bl true)))))
noncomputable def f__law_long_right_S (C : Calls) : M Fl := (seqS (setS 2 (callV tupleD (consS (frzS (lcF (itRng (binS addD (cS (.int 60)) (callF (C 8) (consS (varS 0) (consS (cS (.int 90)) nilS))))) (tgN 10) yesS (callF (C 9) (consS (varS 0) (consS (varS 1) nilS))) [10])) nilS)))
    (seqS (setS 3 (binS addD (slS (varS 2) noPartS (partS (unS negD (cS (.int 1))))) (tupS (consS (iteS (tstS (binS eqD (binS ixA (varS 2) (unS negD (cS (.int 1)))) (binS ixA (varS 1) (cS (.int 1))))) (binS ixA (varS 1) (cS (.int 0))) (binS ixA (varS 1) (cS (.int 1)))) nilS))))
    (seqS (setS 4 (binS ixA (callF (C 12) (consS (varS 0) (consS (varS 1) nilS))) (cS (.int 1))))
    (seqS (setS 5 (frzS (lstF (consS (tupS (consS (tupS (consS (varS 2) (consS (varS 4) nilS))) (consS (tupS (consS (varS 3) (consS (varS 4) nilS))) nilS))) (consS (tupS (consS (tupS (consS (tupS nilS) (consS (varS 2) nilS))) (consS (tupS (consS (tupS nilS) (consS (varS 3) nilS))) nilS))) (consS (tupS (consS (tupS (consS (varS 2) (consS (varS 2) nilS))) (consS (tupS (consS (tupS nilS) (consS (binS addD (varS 2) (varS 3)) nilS))) nilS))) nilS))))))
    (seqS (forS (itS (varS 5)) (tgT [(tgN 7), (tgN 8)]) (seqS (setS 9 (callF (C 14) (consS (varS 7) (consS (varS 8) nilS))))
    (ifS (tstS (binS neD (callV reprD (consS (frzS (lstF (consS (callF (C 6) (consS (varS 7) (consS (varS 8) nilS))) (consS (callF (C 6) (consS (varS 8) (consS (varS 7) nilS))) (consS (callF (C 6) (consS (varS 7) (consS (varS 7) nilS))) nilS))))) nilS)) (callV reprD (consS (frzS (lstF (consS (varS 9) (consS (varS 9) (consS (cS (.bl true)) nilS))))) nilS)))) (retS (cS (.bl false))) nxS)))
    (seqS (setS 6 (callF (C 5) (consS (tupS (consS (tupS nilS) (consS (binS mulE (varS 2) (cS (.int 2))) nilS))) nilS)))
    (retS (andS (callF (C 14) (consS (varS 6) (consS (tupS (consS (tupS nilS) (consS (varS 2) nilS))) nilS))) (andS (binS (cmpI fun i j => decide (i ≤ j)) (callV lenD (consS (binS ixA (varS 6) (cS (.int 1))) nilS)) (callV lenD (consS (varS 2) nilS))) (callF (C 6) (consS (tupS (consS (tupS nilS) (consS (binS mulE (varS 2) (cS (.int 2))) nilS))) (consS (tupS (consS (tupS nilS) (consS (varS 2) nilS))) nilS))))))))))))
noncomputable def f_law_S (C : Calls) : M Fl := (seqS (setS 1 (callF (C 7) (consS (varS 0) nilS)))
    (seqS (ifS (tNotS (tstS (callF (C 18) (consS (varS 1) (consS (callF (C 11) (consS (varS 1) (consS (cS (.int 2)) nilS))) nilS))))) (retS (cS (.bl false))) nxS)
    (seqS (forS (itRng (cS (.int 8))) (tgN 2) (seqS (setS 3 (callF (C 11) (consS (varS 1) (consS (binS addD (cS (.int 1)) (callF (C 8) (consS (varS 1) (consS (cS (.int 4)) nilS)))) nilS))))
    (seqS (setS 4 (callF (C 12) (consS (varS 1) (consS (varS 3) nilS))))
    (seqS (ifS (tstS (binS eqD (callF (C 8) (consS (varS 1) (consS (cS (.int 3)) nilS))) (cS (.int 0)))) (setS 4 (tupS (consS (binS addD (binS ixA (varS 4) (cS (.int 0))) (slS (binS ixA (varS 4) (cS (.int 1))) (partS (cS (.int 1))) noPartS)) (consS (binS mulE (binS ixA (varS 4) (cS (.int 1))) (cS (.int 2))) nilS)))) nxS)
    (seqS (setS 5 (callF (C 5) (consS (varS 4) nilS)))
    (seqS (ifS (tOrS (tNotS (tstS (callF (C 14) (consS (varS 5) (consS (varS 4) nilS))))) (tOrS (tNotS (tstS (callF (C 17) (consS (varS 5) nilS)))) (tstS (binS neD (callF (C 5) (consS (varS 5) nilS)) (varS 5))))) (retS (cS (.bl false))) nxS)
    (forS (itS (frzS (lstF (consS (callF (C 15) (consS (varS 1) (consS (varS 4) nilS))) (consS (callF (C 16) (consS (varS 1) (consS (varS 3) (consS (varS 4) nilS)))) (consS (callF (C 12) (consS (varS 1) (consS (varS 3) nilS))) (consS (varS 4) nilS))))))) (tgN 6) (seqS (setS 7 (callF (C 14) (consS (varS 4) (consS (varS 6) nilS))))
    (seqS (setS 8 (frzS (lstF (consS (callF (C 6) (consS (varS 4) (consS (varS 6) nilS))) (consS (callF (C 6) (consS (varS 6) (consS (varS 4) nilS))) (consS (binS eqD (callF (C 5) (consS (varS 6) nilS)) (varS 5)) nilS))))))
    (ifS (tstS (binS neD (callV reprD (consS (varS 8) nilS)) (callV reprD (consS (binS mulE (frzS (lstF (consS (varS 7) nilS))) (cS (.int 3))) nilS)))) (retS (cS (.bl false))) nxS))))))))))
    (retS (cS (.bl true))))))
noncomputable def body (C : Calls) : Calls := fun j => match j with
  | 0 => runD 2 1 (f_is_name_S C)
  | 1 => runD 2 1 (f_are_names_S C)
  | 2 => runD 1 1 (f_is_run_S C)
  | 3 => runD 1 1 (f_need_run_S C)
  | 4 => runD 2 1 (f_root_of_S C)
  | 5 => runD 3 1 (f_least_run_S C)
  | 6 => runD 2 2 (f_same_run_S C)
  | 7 => runD 3 1 (f__law_begin_S C)
  | 8 => runD 6 2 (f__law_draw_S C)
  | 9 => runD 2 2 (f__law_pick_S C)
  | 10 => runD 4 2 (f__law_mixed_S C)
  | 11 => runD 8 2 (f__law_names_S C)
  | 12 => runD 5 2 (f__law_run_S C)
  | 13 => runD 3 2 (f__law_plain_S C)
  | 14 => runD 3 2 (f__law_same_S C)
  | 15 => runD 6 2 (f__law_longer_S C)
  | 16 => runD 9 3 (f__law_near_S C)
  | 17 => runD 2 1 (f__law_is_least_S C)
  | 18 => runD 11 2 (f__law_long_right_S C)
  | 19 => runD 9 1 (f_law_S C)
  | _ => fun _ _ => .st
end AG.K07

set_option Elab.async false
set_option linter.all false
set_option maxRecDepth 100000
set_option exponentiation.threshold 4000
namespace AG.K07
open PySem L2 AG AG.Wd
abbrev KK : Nat := 12
section
variable (k : Nat)
theorem s_draw : IsDraw (callK body (k + 1) 8) := fun z n hz n0 n1 ht => draw_run z n hz n0 n1 ht
theorem s_pick : IsPick (callK body (k + 2) 9) := fun z l hz ht l0 l1 hs => by
  obtain ⟨x, hx, _, e⟩ := pick_lst (s_draw k) z l hz ht l0 l1 hs
  exact ⟨x, hx, e⟩
theorem s_plet : IsPickLet (callK body (k + 2) 9) := fun z hz ht => pick_let (s_draw k) z hz ht
theorem s_name : IsName (callK body (k + 1) 0) := isName_ok
theorem s_names0 : AreNames (callK body (k + 2) 1) := areNames_ok (s_name k)
theorem s_isrun : IsRunF (callK body (k + 3) 2) := isRun_ok (s_names0 k)
theorem s_need : NeedRun (callK body (k + 4) 3) := needRun_ok (s_isrun k)
theorem s_root : IsRoot (callK body (k + 1) 4) := root_ok
theorem s_least : IsLeastF (callK body (k + 5) 5) := least_ok (s_need k) (s_root (k + 3))
theorem s_samerun : IsSameRun (callK body (k + 6) 6) := sameRun_ok (s_least k)
theorem s_begin : IsBegin (callK body (k + 1) 7) := begin_ok
theorem s_mixed : IsMixed (callK body (k + 2) 10) := mixed_ok (s_draw k)
theorem s_names : IsNames (callK body (k + 3) 11) := names_ok (s_draw (k + 1)) (s_pick k) (s_plet k)
theorem s_run : IsRunDrawn (callK body (k + 3) 12) := runDrawn_ok (s_draw (k + 1)) (s_pick k) (s_mixed k)
theorem s_plain : IsPlain (callK body (k + 1) 13) := plain_ok
theorem s_same : IsSame (callK body (k + 2) 14) := same_ok (s_plain k)
theorem s_longer : IsLonger (callK body (k + 2) 15) := longer_ok (s_draw k) (s_plain k)
theorem s_near : IsNear (callK body (k + 3) 16) := near_ok (s_draw (k + 1)) (s_pick k)
theorem s_isleast : IsLeastJ (callK body (k + 3) 17) := isLeast_ok (s_same k)
theorem s_long : IsLongRight (callK body (k + 7) 18) := longRight_ok (s_draw (k + 5)) (s_pick (k + 4)) (s_run (k + 3)) (s_same (k + 4)) (s_samerun k) (s_least (k + 1))
end
section
variable {c5 c6 c8 c11 c12 c14 c15 c16 c17 : List D → List MO → R}
noncomputable abbrev inB (c5 c6 c14 : List D → List MO → R) : M Fl := (seqS (setS 7 (callF c14 (consS (varS 4) (consS (varS 6) nilS))))
    (seqS (setS 8 (frzS (lstF (consS (callF c6 (consS (varS 4) (consS (varS 6) nilS))) (consS (callF c6 (consS (varS 6) (consS (varS 4) nilS))) (consS (binS eqD (callF c5 (consS (varS 6) nilS)) (varS 5)) nilS))))))
    (ifS (tstS (binS neD (callV reprD (consS (varS 8) nilS)) (callV reprD (consS (binS mulE (frzS (lstF (consS (varS 7) nilS))) (cS (.int 3))) nilS)))) (retS (cS (.bl false))) nxS)))
theorem mul3 (s : S) (t : Bool) : mulE s (.lst [.bl t]) (.int 3) = some (.lst [.bl t, .bl t, .bl t]) := by
  show mulD s (.lst [.bl t]) (.int 3) = _
  unfold mulD
  simp only [vw]
  rw [if_pos ⟨by decide, by decide, by simp [LIM]⟩]
  rfl
theorem in_turn (hs : IsSame c14) (h6 : IsSameRun c6) (h5 : IsLeastF c5) (d0 d1 d2 d3 : D) (s7 s8 : SV) {b r b' r' c q : List Str} (h : Rn 400 400 b r) (h' : Rn 400 400 b' r') (L : Least c q) (wq : ∀ i, wd c q i = wd b r i) (hq : Rn 400 400 c q) (muz : List MO) :
    ∃ s7' s8', inB c5 c6 c14 ⟨[.d d0, .d d1, .d d2, .d d3, .d (rn b r), .d (rn c q), .d (rn b' r'), s7, s8], muz⟩ = .ok .nx ⟨[.d d0, .d d1, .d d2, .d d3, .d (rn b r), .d (rn c q), .d (rn b' r'), s7', s8'], muz⟩ := by
  obtain ⟨t, et, it⟩ := hs b r b' r' muz h h'
  obtain ⟨t1, et1, it1⟩ := h6 b r b' r' muz (h.le (by omega) (by omega)) (h'.le (by omega) (by omega))
  obtain ⟨t2, et2, it2⟩ := h6 b' r' b r muz (h'.le (by omega) (by omega)) (h.le (by omega) (by omega))
  obtain ⟨c', q', e5, L', w', n'⟩ := h5 b' r' muz (h'.le (by omega) (by omega))
  have q1 : t1 = t := by rw [Bool.eq_iff_iff, it, it1]
  have q2 : t2 = t := by rw [Bool.eq_iff_iff, it, it2]; exact ⟨fun h i => (h i).symm, fun h i => (h i).symm⟩
  have q3 : decide (c' = c ∧ q' = q) = t := by
    rw [Bool.eq_iff_iff, it, decide_eq_true_iff, least_iff L' L w' wq]
    exact ⟨fun h i => (h i).symm, fun h i => (h i).symm⟩
  rw [q1] at et1
  rw [q2] at et2
  have eq := fun s => eqB_rn (s := s) (nm_lay n'.nb) (nm_lay n'.nr) (nm_lay hq.nb) (nm_lay hq.nr)
  have e0 : ∀ rhz, kCall c14 [rn b r, rn b' r'] ⟨rhz, muz⟩ = .ok (.bl t) ⟨rhz, muz⟩ := fun rhz => kCall_eq et rfl
  have e1 : ∀ rhz, kCall c6 [rn b r, rn b' r'] ⟨rhz, muz⟩ = .ok (.bl t) ⟨rhz, muz⟩ := fun rhz => kCall_eq et1 rfl
  have e2 : ∀ rhz, kCall c6 [rn b' r', rn b r] ⟨rhz, muz⟩ = .ok (.bl t) ⟨rhz, muz⟩ := fun rhz => kCall_eq et2 rfl
  have e3 : ∀ rhz, kCall c5 [rn b' r'] ⟨rhz, muz⟩ = .ok (rn c' q') ⟨rhz, muz⟩ := fun rhz => kCall_eq e5 rfl
  refine ⟨.d (.bl t), .d (.lst [.bl t, .bl t, .bl t]), ?_⟩
  simp only [inB, seqS_ap, setS_ap, retS_ap, ifS_ap, iteS_ap, tstS_ap, tNotS_ap, tAndS_ap, tOrS_ap, andS_ap, orS_ap, notS_ap, binS_ap, unS_ap, callF_ap, callV_ap, callN_ap, consS_ap, nilS_ap, tupS_ap, lstF_ap, frzS_ap, ownS_ap, exS_ap, cS_ap, varS_ap, parA_ap, parS_inl, parS_inr, parS_nil, forS_ap, itRng_ap, itRng2_ap, itS_ap, itStr_ap, lcF_ap, slS_ap, slF_ap, noPartS_ap, partS_ap, isiS_ap, chainS_ap, nxS_ap, bkS_ap, ctS_ap, yesS_ap, orT_ap, appS_ap, popAtS_ap, dputS_ap, lputS_ap, hndS_ap, m1S_ap, asgS_ap, O.bind_ok, kVar_d, kVar_own, kB1_ap, kB2_ap, kU_ap, kAnd_t, kAnd_f, kOr_t, kOr_f, kNot_ap, kTst_ap, kTAnd_t, kTAnd_f, kTOr_t, kTOr_f, kTNot_ap, kIte_t, kIte_f, kC0_ap, kC1_ap, kC1'_t, kC1'_f, kC2_ap, kCons_ap, kCons2_ap, kTup_0, kTup_1, kTup_2, kTupB_t, kLst_0, kLst_1, kLstB_t, kFrz_ap, kCv_ap, kCn_ap, ofO_some, ofN_some, kEx_ap, kSet_ap, kSetB_t, kOwn_ap, kRet_non, kRet_bl, kRet_int, kRet_str, kRet_tup, kRet_lst, kRet_hnd, kRet_dct, kRet_ins, kRet_loc, kRet1_ap, kSeq_nx, kSeq_rt, kSeq_bk, kSeq_ct, kIt_ap, kIts_ap, seqD_lst, seqD_tup, seqD_scr, kFor_ap, tgN_ap, tgT_ap, tgsS_nil, tgsS_cons, kSl_ap, kSl1_ap, kSl2_ap, kSlF_ap, kSlF1_ap, kPart_ap, kPd_ap, kPdB_t, kPm_ap, kPc_ap, kPar_ap, putP_d, putP_m, putP_0, kHnd_ap, frzD, kAsg_ap, kAsgB_t, sto_non, sto_bl, sto_int, sto_str, sto_tup, sto_lst, sto_dct, sto_ins, sto_hnd, sto_scr, Bool.and_self, Bool.not_true, Bool.not_false, List.getElem?_cons_zero, List.getElem?_cons_succ, List.set_cons_succ, List.set_cons_zero, kM1_ap, kM1b_ap, kOrT_ap, kOrT1_t, kOrT1_f, eqD_ap, neD_ap, Option.map_some, addD_int, subD_int, gtD_int, ltD_int, cmpI_int, intD_int, intD_bl, negD_int, kStr_ap, kLput_ap, kLput1_ap, decide_true, decide_false, e0, e1, e2, e3, eq, q3, kLst_3, mul3, repr3, eqB_str]
noncomputable abbrev bdB (c5 c6 c8 c11 c12 c14 c15 c16 c17 : List D → List MO → R) : M Fl := (seqS (setS 3 (callF c11 (consS (varS 1) (consS (binS addD (cS (.int 1)) (callF c8 (consS (varS 1) (consS (cS (.int 4)) nilS)))) nilS))))
    (seqS (setS 4 (callF c12 (consS (varS 1) (consS (varS 3) nilS))))
    (seqS (ifS (tstS (binS eqD (callF c8 (consS (varS 1) (consS (cS (.int 3)) nilS))) (cS (.int 0)))) (setS 4 (tupS (consS (binS addD (binS ixA (varS 4) (cS (.int 0))) (slS (binS ixA (varS 4) (cS (.int 1))) (partS (cS (.int 1))) noPartS)) (consS (binS mulE (binS ixA (varS 4) (cS (.int 1))) (cS (.int 2))) nilS)))) nxS)
    (seqS (setS 5 (callF c5 (consS (varS 4) nilS)))
    (seqS (ifS (tOrS (tNotS (tstS (callF c14 (consS (varS 5) (consS (varS 4) nilS))))) (tOrS (tNotS (tstS (callF c17 (consS (varS 5) nilS)))) (tstS (binS neD (callF c5 (consS (varS 5) nilS)) (varS 5))))) (retS (cS (.bl false))) nxS)
    (forS (itS (frzS (lstF (consS (callF c15 (consS (varS 1) (consS (varS 4) nilS))) (consS (callF c16 (consS (varS 1) (consS (varS 3) (consS (varS 4) nilS)))) (consS (callF c12 (consS (varS 1) (consS (varS 3) nilS))) (consS (varS 4) nilS))))))) (tgN 6) (inB c5 c6 c14)))))))
theorem kLst_d4 (a b c d : D) (s : S) (h : [a, b, c, d].all sto = true) : kLst [a, b, c, d] s = .ok (.ml [a, b, c, d]) s := kLst_ap _ _ h (by simp [LIM])
theorem bd_turn (h5 : IsLeastF c5) (h6 : IsSameRun c6) (h8 : IsDraw c8) (h11 : IsNames c11) (h12 : IsRunDrawn c12) (h14 : IsSame c14) (h15 : IsLonger c15) (h16 : IsNear c16) (h17 : IsLeastJ c17) (d0 d2 : D) (s3 s4 s5 s6 s7 s8 : SV) {n : Nat} {z : DS} (hB : Bd (n + 300) z) :
    ∃ s3' s4' s5' s6' s7' s8' z', bdB c5 c6 c8 c11 c12 c14 c15 c16 c17 ⟨[.d d0, .d (.hnd 1), .d d2, s3, s4, s5, s6, s7, s8], z.muz⟩ = .ok .nx ⟨[.d d0, .d (.hnd 1), .d d2, s3', s4', s5', s6', s7', s8'], z'.muz⟩ ∧ Bd n z' := by
  obtain ⟨v, z1, e1, v0, v1, B1⟩ := draw_call h8 (m := 4) (n := n + 299) hB (by omega) (by omega)
  obtain ⟨v, rfl⟩ := Int.eq_ofNat_of_zero_le v0
  obtain ⟨l, z2, e2, l1, ln, _, B2⟩ := h11 (n + 200) z1 (1 + v) (by omega) (B1.le (by omega))
  have l0 : l ≠ [] := fun z => by rw [z] at l1; simp at l1; omega
  obtain ⟨b, r, z3, e3, hR, B3⟩ := h12 (n + 150) z2 l l0 ln (by omega) (B2.le (by omega))
  obtain ⟨w, z4, e4, w0, w1, B4⟩ := draw_call h8 (m := 3) (n := n + 149) B3 (by omega) (by omega)
  have bl := hR.bl
  have rl := hR.rl
  have eA : ((1 : Int) + (v : Nat)) = ((1 + v : Nat) : Int) := by omega
  have k2 : ∀ rr, kCall c11 [.hnd 1, .int ((1 + v : Nat) : Int)] ⟨rr, z1.muz⟩ = .ok (.lst (txs l)) ⟨rr, z2.muz⟩ := fun rr => kCall_eq e2 rfl
  have k3 : ∀ rr, kCall c12 [.hnd 1, .lst (txs l)] ⟨rr, z2.muz⟩ = .ok (rn b r) ⟨rr, z3.muz⟩ := fun rr => kCall_eq e3 rfl
  obtain ⟨b1, r1, R1, eif⟩ : ∃ b1 r1, Rn 20 20 b1 r1 ∧ (ifS (tstS (binS eqD (callF c8 (consS (varS 1) (consS (cS (.int 3)) nilS))) (cS (.int 0)))) (setS 4 (tupS (consS (binS addD (binS ixA (varS 4) (cS (.int 0))) (slS (binS ixA (varS 4) (cS (.int 1))) (partS (cS (.int 1))) noPartS)) (consS (binS mulE (binS ixA (varS 4) (cS (.int 1))) (cS (.int 2))) nilS)))) nxS) ⟨[.d d0, .d (.hnd 1), .d d2, .d (.lst (txs l)), .d (rn b r), s5, s6, s7, s8], z3.muz⟩ = .ok .nx ⟨[.d d0, .d (.hnd 1), .d d2, .d (.lst (txs l)), .d (rn b1 r1), s5, s6, s7, s8], z4.muz⟩ := by
    by_cases c : w = 0
    · have c1 : decide (w = 0) = true := decide_eq_true c
      have r0 := List.length_pos_iff.mpr hR.ne
      have em : ∀ s, mulE s (.tup (txs r)) (.int 2) = some (.tup (txs (List.replicate 2 r).flatten)) := fun s => by
        have := mulE_tup s (a := txs r) (k := 2) (by omega) (by omega) (fun z => hR.ne (txs_inj (a := r) (b := []) z)) (by rw [txs_length]; omega)
        rw [txs_rep] at this
        exact this
      have ed : ∀ l : List D, cutL l (some 1) none = l.drop 1 := fun l => cut_drop l 1
      have ea : ∀ s, addD s (.tup (txs b)) (.tup (txs (r.drop 1))) = some (.tup (txs (b ++ r.drop 1))) := fun s => by
        rw [addD_tup s (by rw [txs_length, txs_length, List.length_drop]; omega), txs_app]
      refine ⟨b ++ r.drop 1, (List.replicate 2 r).flatten, ⟨fun x hx => ?_, fun x hx => hR.nr x (rep_mem hx), fun z => ?_, ?_, by rw [rep_len]; omega⟩, ?_⟩
      · rcases List.mem_append.mp hx with hx | hx
        · exact hR.nb x hx
        · exact hR.nr x (List.mem_of_mem_drop hx)
      · have : (List.replicate 2 r).flatten.length = 0 := by rw [z]; rfl
        rw [rep_len] at this
        omega
      · rw [List.length_append, List.length_drop]; omega
      · unfold rn
        simp only [seqS_ap, setS_ap, retS_ap, ifS_ap, iteS_ap, tstS_ap, tNotS_ap, tAndS_ap, tOrS_ap, andS_ap, orS_ap, notS_ap, binS_ap, unS_ap, callF_ap, callV_ap, callN_ap, consS_ap, nilS_ap, tupS_ap, lstF_ap, frzS_ap, ownS_ap, exS_ap, cS_ap, varS_ap, parA_ap, parS_inl, parS_inr, parS_nil, forS_ap, itRng_ap, itRng2_ap, itS_ap, itStr_ap, lcF_ap, slS_ap, slF_ap, noPartS_ap, partS_ap, isiS_ap, chainS_ap, nxS_ap, bkS_ap, ctS_ap, yesS_ap, orT_ap, appS_ap, popAtS_ap, dputS_ap, lputS_ap, hndS_ap, m1S_ap, asgS_ap, O.bind_ok, kVar_d, kVar_own, kB1_ap, kB2_ap, kU_ap, kAnd_t, kAnd_f, kOr_t, kOr_f, kNot_ap, kTst_ap, kTAnd_t, kTAnd_f, kTOr_t, kTOr_f, kTNot_ap, kIte_t, kIte_f, kC0_ap, kC1_ap, kC1'_t, kC1'_f, kC2_ap, kCons_ap, kCons2_ap, kTup_0, kTup_1, kTup_2, kTupB_t, kLst_0, kLst_1, kLstB_t, kFrz_ap, kCv_ap, kCn_ap, ofO_some, ofN_some, kEx_ap, kSet_ap, kSetB_t, kOwn_ap, kRet_non, kRet_bl, kRet_int, kRet_str, kRet_tup, kRet_lst, kRet_hnd, kRet_dct, kRet_ins, kRet_loc, kRet1_ap, kSeq_nx, kSeq_rt, kSeq_bk, kSeq_ct, kIt_ap, kIts_ap, seqD_lst, seqD_tup, seqD_scr, kFor_ap, tgN_ap, tgT_ap, tgsS_nil, tgsS_cons, kSl_ap, kSl1_ap, kSl2_ap, kSlF_ap, kSlF1_ap, kPart_ap, kPd_ap, kPdB_t, kPm_ap, kPc_ap, kPar_ap, putP_d, putP_m, putP_0, kHnd_ap, frzD, kAsg_ap, kAsgB_t, sto_non, sto_bl, sto_int, sto_str, sto_tup, sto_lst, sto_dct, sto_ins, sto_hnd, sto_scr, Bool.and_self, Bool.not_true, Bool.not_false, List.getElem?_cons_zero, List.getElem?_cons_succ, List.set_cons_succ, List.set_cons_zero, kM1_ap, kM1b_ap, kOrT_ap, kOrT1_t, kOrT1_f, eqD_ap, neD_ap, Option.map_some, addD_int, subD_int, gtD_int, ltD_int, cmpI_int, intD_int, intD_bl, negD_int, kStr_ap, kLput_ap, kLput1_ap, decide_true, decide_false, e4, eqB_int, c1, ix_t0, ix_t1, slD_tup, ed, txs_drop, ea, em]
    · have c1 : decide (w = 0) = false := decide_eq_false c
      exact ⟨b, r, hR.le (by omega) (by omega), by simp only [seqS_ap, setS_ap, retS_ap, ifS_ap, iteS_ap, tstS_ap, tNotS_ap, tAndS_ap, tOrS_ap, andS_ap, orS_ap, notS_ap, binS_ap, unS_ap, callF_ap, callV_ap, callN_ap, consS_ap, nilS_ap, tupS_ap, lstF_ap, frzS_ap, ownS_ap, exS_ap, cS_ap, varS_ap, parA_ap, parS_inl, parS_inr, parS_nil, forS_ap, itRng_ap, itRng2_ap, itS_ap, itStr_ap, lcF_ap, slS_ap, slF_ap, noPartS_ap, partS_ap, isiS_ap, chainS_ap, nxS_ap, bkS_ap, ctS_ap, yesS_ap, orT_ap, appS_ap, popAtS_ap, dputS_ap, lputS_ap, hndS_ap, m1S_ap, asgS_ap, O.bind_ok, kVar_d, kVar_own, kB1_ap, kB2_ap, kU_ap, kAnd_t, kAnd_f, kOr_t, kOr_f, kNot_ap, kTst_ap, kTAnd_t, kTAnd_f, kTOr_t, kTOr_f, kTNot_ap, kIte_t, kIte_f, kC0_ap, kC1_ap, kC1'_t, kC1'_f, kC2_ap, kCons_ap, kCons2_ap, kTup_0, kTup_1, kTup_2, kTupB_t, kLst_0, kLst_1, kLstB_t, kFrz_ap, kCv_ap, kCn_ap, ofO_some, ofN_some, kEx_ap, kSet_ap, kSetB_t, kOwn_ap, kRet_non, kRet_bl, kRet_int, kRet_str, kRet_tup, kRet_lst, kRet_hnd, kRet_dct, kRet_ins, kRet_loc, kRet1_ap, kSeq_nx, kSeq_rt, kSeq_bk, kSeq_ct, kIt_ap, kIts_ap, seqD_lst, seqD_tup, seqD_scr, kFor_ap, tgN_ap, tgT_ap, tgsS_nil, tgsS_cons, kSl_ap, kSl1_ap, kSl2_ap, kSlF_ap, kSlF1_ap, kPart_ap, kPd_ap, kPdB_t, kPm_ap, kPc_ap, kPar_ap, putP_d, putP_m, putP_0, kHnd_ap, frzD, kAsg_ap, kAsgB_t, sto_non, sto_bl, sto_int, sto_str, sto_tup, sto_lst, sto_dct, sto_ins, sto_hnd, sto_scr, Bool.and_self, Bool.not_true, Bool.not_false, List.getElem?_cons_zero, List.getElem?_cons_succ, List.set_cons_succ, List.set_cons_zero, kM1_ap, kM1b_ap, kOrT_ap, kOrT1_t, kOrT1_f, eqD_ap, neD_ap, Option.map_some, addD_int, subD_int, gtD_int, ltD_int, cmpI_int, intD_int, intD_bl, negD_int, kStr_ap, kLput_ap, kLput1_ap, decide_true, decide_false, e4, eqB_int, c1]⟩
  obtain ⟨c, q, e5, L, wq, N⟩ := h5 b1 r1 z4.muz (R1.le (by omega) (by omega))
  have bl1 := R1.bl
  have rl1 := R1.rl
  have N4 : Rn 400 400 c q := N.le (by omega) (by omega)
  obtain ⟨t, e6, it⟩ := h14 c q b1 r1 z4.muz N4 (R1.le (by omega) (by omega))
  have tt : t = true := it.mpr wq
  subst tt
  have e7 := h17 c q z4.muz N4 L
  obtain ⟨c2, q2, e8, L2, wq2, N2⟩ := h5 c q z4.muz (N4.le (by omega) (by omega))
  obtain ⟨rfl, rfl⟩ := least_eq L2 L wq2
  obtain ⟨b2, r2, z5, e9, R2, B5⟩ := h15 (n + 147) z4 b1 r1 R1 B4
  obtain ⟨b3, r3, z6, e10, R3, B6⟩ := h16 (n + 143) z5 l b1 r1 l0 ln (by omega) R1 B5
  obtain ⟨b4, r4, z7, e11, R4, B7⟩ := h12 (n + 93) z6 l l0 ln (by omega) B6
  have k5 : ∀ rr, kCall c5 [rn b1 r1] ⟨rr, z4.muz⟩ = .ok (rn c2 q2) ⟨rr, z4.muz⟩ := fun rr => kCall_eq e5 rfl
  have k6 : ∀ rr, kCall c14 [rn c2 q2, rn b1 r1] ⟨rr, z4.muz⟩ = .ok (.bl true) ⟨rr, z4.muz⟩ := fun rr => kCall_eq e6 rfl
  have k7 : ∀ rr, kCall c17 [rn c2 q2] ⟨rr, z4.muz⟩ = .ok (.bl true) ⟨rr, z4.muz⟩ := fun rr => kCall_eq e7 rfl
  have k8 : ∀ rr, kCall c5 [rn c2 q2] ⟨rr, z4.muz⟩ = .ok (rn c2 q2) ⟨rr, z4.muz⟩ := fun rr => kCall_eq e8 rfl
  have k9 : ∀ rr, kCall c15 [.hnd 1, rn b1 r1] ⟨rr, z4.muz⟩ = .ok (rn b2 r2) ⟨rr, z5.muz⟩ := fun rr => kCall_eq e9 rfl
  have k10 : ∀ rr, kCall c16 [.hnd 1, .lst (txs l), rn b1 r1] ⟨rr, z5.muz⟩ = .ok (rn b3 r3) ⟨rr, z6.muz⟩ := fun rr => kCall_eq e10 rfl
  have k11 : ∀ rr, kCall c12 [.hnd 1, .lst (txs l)] ⟨rr, z6.muz⟩ = .ok (rn b4 r4) ⟨rr, z7.muz⟩ := fun rr => kCall_eq e11 rfl
  have eq : ∀ s, eqB s (rn c2 q2) (rn c2 q2) = some true := fun s => by
    rw [eqB_rn (nm_lay N4.nb) (nm_lay N4.nr) (nm_lay N4.nb) (nm_lay N4.nr)]
    simp
  have w := forL_inv (tg := tgN 6) (body := inB c5 c6 c14) (Q := fun fl s => fl = .nx ∧ ∃ s6 s7 s8, s = ⟨[.d d0, .d (.hnd 1), .d d2, .d (.lst (txs l)), .d (rn b1 r1), .d (rn c2 q2), s6, s7, s8], z7.muz⟩) [rn b2 r2, rn b3 r3, rn b4 r4, rn b1 r1] (fun _ s => ∃ s6 s7 s8, s = ⟨[.d d0, .d (.hnd 1), .d d2, .d (.lst (txs l)), .d (rn b1 r1), .d (rn c2 q2), s6, s7, s8], z7.muz⟩) ⟨[.d d0, .d (.hnd 1), .d d2, .d (.lst (txs l)), .d (rn b1 r1), .d (rn c2 q2), s6, s7, s8], z7.muz⟩ ⟨_, _, _, rfl⟩ (by
    rintro k d s hd ⟨s6, s7, s8, rfl⟩
    have hd' : ∃ b' r', d = rn b' r' ∧ Rn 400 400 b' r' := by
      have hm := List.mem_of_getElem? hd
      simp only [List.mem_cons, List.not_mem_nil, or_false] at hm
      rcases hm with rfl | rfl | rfl | rfl
      · exact ⟨_, _, rfl, R2.le (by omega) (by omega)⟩
      · exact ⟨_, _, rfl, R3.le (by omega) (by omega)⟩
      · exact ⟨_, _, rfl, R4.le (by omega) (by omega)⟩
      · exact ⟨_, _, rfl, R1.le (by omega) (by omega)⟩
    obtain ⟨b', r', rfl, hR'⟩ := hd'
    obtain ⟨s7', s8', et⟩ := in_turn h14 h6 h5 d0 (.hnd 1) d2 (.lst (txs l)) s7 s8 (R1.le (by omega) (by omega)) hR' L wq N4 z7.muz
    simp only [tgN_ap, O.bind_ok, List.set_cons_succ, List.set_cons_zero]
    rw [et]
    exact ⟨_, _, _, rfl⟩) (fun s h => ⟨rfl, h⟩)
  obtain ⟨fl, s, ew, rfl, s6', s7', s8', rfl⟩ := w.ex
  refine ⟨.d (.lst (txs l)), .d (rn b1 r1), .d (rn c2 q2), s6', s7', s8', z7, ?_, B7.le (by omega)⟩
  have sr : ∀ b r, sto (rn b r) = true := fun _ _ => rfl
  have kl : ∀ s, kLst [rn b2 r2, rn b3 r3, rn b4 r4, rn b1 r1] s = .ok (.ml [rn b2 r2, rn b3 r3, rn b4 r4, rn b1 r1]) s := fun s => kLst_d4 _ _ _ _ s rfl
  simp only [bdB, ↓eif, seqS_ap, setS_ap, retS_ap, ifS_ap, iteS_ap, tstS_ap, tNotS_ap, tAndS_ap, tOrS_ap, andS_ap, orS_ap, notS_ap, binS_ap, unS_ap, callF_ap, callV_ap, callN_ap, consS_ap, nilS_ap, tupS_ap, lstF_ap, frzS_ap, ownS_ap, exS_ap, cS_ap, varS_ap, parA_ap, parS_inl, parS_inr, parS_nil, forS_ap, itRng_ap, itRng2_ap, itS_ap, itStr_ap, lcF_ap, slS_ap, slF_ap, noPartS_ap, partS_ap, isiS_ap, chainS_ap, nxS_ap, bkS_ap, ctS_ap, yesS_ap, orT_ap, appS_ap, popAtS_ap, dputS_ap, lputS_ap, hndS_ap, m1S_ap, asgS_ap, O.bind_ok, kVar_d, kVar_own, kB1_ap, kB2_ap, kU_ap, kAnd_t, kAnd_f, kOr_t, kOr_f, kNot_ap, kTst_ap, kTAnd_t, kTAnd_f, kTOr_t, kTOr_f, kTNot_ap, kIte_t, kIte_f, kC0_ap, kC1_ap, kC1'_t, kC1'_f, kC2_ap, kCons_ap, kCons2_ap, kTup_0, kTup_1, kTup_2, kTupB_t, kLst_0, kLst_1, kLstB_t, kFrz_ap, kCv_ap, kCn_ap, ofO_some, ofN_some, kEx_ap, kSet_ap, kSetB_t, kOwn_ap, kRet_non, kRet_bl, kRet_int, kRet_str, kRet_tup, kRet_lst, kRet_hnd, kRet_dct, kRet_ins, kRet_loc, kRet1_ap, kSeq_nx, kSeq_rt, kSeq_bk, kSeq_ct, kIt_ap, kIts_ap, seqD_lst, seqD_tup, seqD_scr, kFor_ap, tgN_ap, tgT_ap, tgsS_nil, tgsS_cons, kSl_ap, kSl1_ap, kSl2_ap, kSlF_ap, kSlF1_ap, kPart_ap, kPd_ap, kPdB_t, kPm_ap, kPc_ap, kPar_ap, putP_d, putP_m, putP_0, kHnd_ap, frzD, kAsg_ap, kAsgB_t, sto_non, sto_bl, sto_int, sto_str, sto_tup, sto_lst, sto_dct, sto_ins, sto_hnd, sto_scr, Bool.and_self, Bool.not_true, Bool.not_false, List.getElem?_cons_zero, List.getElem?_cons_succ, List.set_cons_succ, List.set_cons_zero, kM1_ap, kM1b_ap, kOrT_ap, kOrT1_t, kOrT1_f, eqD_ap, neD_ap, Option.map_some, addD_int, subD_int, gtD_int, ltD_int, cmpI_int, intD_int, intD_bl, negD_int, kStr_ap, kLput_ap, kLput1_ap, decide_true, decide_false, e1, eA, k2, k3, sr, k5, k6, k7, k8, eq, k9, k10, k11, kl, ew]
end
theorem pure_law (ns : List Int) (hl : ns.length ≤ 63) : ∃ muz, callK body (KK + 1) 19 [.scr ns] [] = .ok (.bl true) muz := by
  obtain ⟨z, e0, B0⟩ := s_begin 11 ns hl
  obtain ⟨l, z1, e1, l1, ln, _, B1⟩ := s_names 9 5000 z 2 (by omega) (B0.le (by decide))
  obtain ⟨z2, e2, B2⟩ := s_long 5 4000 z1 l l1 ln (B1.le (by omega))
  have k0 : ∀ rr, kCall (callK body 12 7) [.scr ns] ⟨rr, []⟩ = .ok (.hnd 1) ⟨rr, z.muz⟩ := fun rr => kCall_eq e0 rfl
  have k1 : ∀ rr, kCall (callK body 12 11) [.hnd 1, .int 2] ⟨rr, z.muz⟩ = .ok (.lst (txs l)) ⟨rr, z1.muz⟩ := fun rr => kCall_eq e1 rfl
  have k2 : ∀ rr, kCall (callK body 12 18) [.hnd 1, .lst (txs l)] ⟨rr, z1.muz⟩ = .ok (.bl true) ⟨rr, z2.muz⟩ := fun rr => kCall_eq e2 rfl
  have w := forL_inv (tg := tgN 2) (body := bdB (callK body 12 5) (callK body 12 6) (callK body 12 8) (callK body 12 11) (callK body 12 12) (callK body 12 14) (callK body 12 15) (callK body 12 16) (callK body 12 17)) (Q := fun fl s => fl = .nx ∧ ∃ s2 s3 s4 s5 s6 s7 s8 z', s = ⟨[.d (.scr ns), .d (.hnd 1), s2, s3, s4, s5, s6, s7, s8], z'.muz⟩) ((List.range 8).map fun i => .int (i : Nat)) (fun k s => ∃ s2 s3 s4 s5 s6 s7 s8 z', s = ⟨[.d (.scr ns), .d (.hnd 1), s2, s3, s4, s5, s6, s7, s8], z'.muz⟩ ∧ Bd (300 * (8 - k)) z') ⟨[.d (.scr ns), .d (.hnd 1), .un, .un, .un, .un, .un, .un, .un], z2.muz⟩ ⟨_, _, _, _, _, _, _, z2, rfl, B2.le (by omega)⟩ (by
    rintro k d s hd ⟨s2, s3, s4, s5, s6, s7, s8, z', rfl, hB⟩
    have hk : k < 8 := by
      have := (List.getElem?_eq_some_iff.mp hd).1
      simpa using this
    have eb : 300 * (8 - k) = 300 * (8 - (k + 1)) + 300 := by omega
    rw [eb] at hB
    obtain ⟨s3', s4', s5', s6', s7', s8', z2, et, B'⟩ := bd_turn (s_least 7) (s_samerun 6) (s_draw 11) (s_names 9) (s_run 9) (s_same 10) (s_longer 10) (s_near 9) (s_isleast 9) (.scr ns) d s3 s4 s5 s6 s7 s8 hB
    simp only [tgN_ap, O.bind_ok, List.set_cons_succ, List.set_cons_zero]
    rw [et]
    exact ⟨_, _, _, _, _, _, _, _, rfl, B'⟩) (fun s ⟨s2, s3, s4, s5, s6, s7, s8, z', h, _⟩ => ⟨rfl, s2, s3, s4, s5, s6, s7, s8, z', h⟩)
  obtain ⟨fl, s, ew, rfl, s2, s3, s4, s5, s6, s7, s8, z', rfl⟩ := w.ex
  refine ⟨z'.muz, ?_⟩
  show runD 9 1 (f_law_S (callK body 12)) [.scr ns] [] = _
  refine runD_eq (s := ⟨[.d (.scr ns), .d (.hnd 1), s2, s3, s4, s5, s6, s7, s8], z'.muz⟩) rfl ?_
  have f1 : ∀ s, kRng (.int 8) s = .ok ((List.range 8).map fun i => .int (i : Nat)) s := fun s => kRng_ap 8 s (by omega)
  show f_law_S (callK body 12) ⟨[.d (.scr ns), .un, .un, .un, .un, .un, .un, .un, .un], []⟩ = _
  simp only [f_law_S, seqS_ap, setS_ap, retS_ap, ifS_ap, iteS_ap, tstS_ap, tNotS_ap, tAndS_ap, tOrS_ap, andS_ap, orS_ap, notS_ap, binS_ap, unS_ap, callF_ap, callV_ap, callN_ap, consS_ap, nilS_ap, tupS_ap, lstF_ap, frzS_ap, ownS_ap, exS_ap, cS_ap, varS_ap, parA_ap, parS_inl, parS_inr, parS_nil, forS_ap, itRng_ap, itRng2_ap, itS_ap, itStr_ap, lcF_ap, slS_ap, slF_ap, noPartS_ap, partS_ap, isiS_ap, chainS_ap, nxS_ap, bkS_ap, ctS_ap, yesS_ap, orT_ap, appS_ap, popAtS_ap, dputS_ap, lputS_ap, hndS_ap, m1S_ap, asgS_ap, O.bind_ok, kVar_d, kVar_own, kB1_ap, kB2_ap, kU_ap, kAnd_t, kAnd_f, kOr_t, kOr_f, kNot_ap, kTst_ap, kTAnd_t, kTAnd_f, kTOr_t, kTOr_f, kTNot_ap, kIte_t, kIte_f, kC0_ap, kC1_ap, kC1'_t, kC1'_f, kC2_ap, kCons_ap, kCons2_ap, kTup_0, kTup_1, kTup_2, kTupB_t, kLst_0, kLst_1, kLstB_t, kFrz_ap, kCv_ap, kCn_ap, ofO_some, ofN_some, kEx_ap, kSet_ap, kSetB_t, kOwn_ap, kRet_non, kRet_bl, kRet_int, kRet_str, kRet_tup, kRet_lst, kRet_hnd, kRet_dct, kRet_ins, kRet_loc, kRet1_ap, kSeq_nx, kSeq_rt, kSeq_bk, kSeq_ct, kIt_ap, kIts_ap, seqD_lst, seqD_tup, seqD_scr, kFor_ap, tgN_ap, tgT_ap, tgsS_nil, tgsS_cons, kSl_ap, kSl1_ap, kSl2_ap, kSlF_ap, kSlF1_ap, kPart_ap, kPd_ap, kPdB_t, kPm_ap, kPc_ap, kPar_ap, putP_d, putP_m, putP_0, kHnd_ap, frzD, kAsg_ap, kAsgB_t, sto_non, sto_bl, sto_int, sto_str, sto_tup, sto_lst, sto_dct, sto_ins, sto_hnd, sto_scr, Bool.and_self, Bool.not_true, Bool.not_false, List.getElem?_cons_zero, List.getElem?_cons_succ, List.set_cons_succ, List.set_cons_zero, kM1_ap, kM1b_ap, kOrT_ap, kOrT1_t, kOrT1_f, eqD_ap, neD_ap, Option.map_some, addD_int, subD_int, gtD_int, ltD_int, cmpI_int, intD_int, intD_bl, negD_int, kStr_ap, kLput_ap, kLput1_ap, decide_true, decide_false, k0, k1, k2, f1, ew]
end AG.K07

set_option Elab.async false
set_option linter.all false
set_option maxRecDepth 100000
set_option maxHeartbeats 0
namespace AG.K07
open PySem L2 PySem.Spec PyProof.Rows AG
abbrev top (i : Nat) : Stmt := PySem.Challenge.pw_againtrees_k07_least_pairs.main.body.getD i (.Pass ⟨0, 0, 0, 0⟩)
def f_is_name_D : He.DefD := ⟨("is_name", none), "is_name", "is_name", defArgs (top 6), defBody (top 6), defScope (top 6), [], []⟩
def f_are_names_D : He.DefD := ⟨("are_names", none), "are_names", "are_names", defArgs (top 8), defBody (top 8), defScope (top 8), [], []⟩
def f_is_run_D : He.DefD := ⟨("is_run", none), "is_run", "is_run", defArgs (top 9), defBody (top 9), defScope (top 9), [], []⟩
def f_need_run_D : He.DefD := ⟨("need_run", none), "need_run", "need_run", defArgs (top 10), defBody (top 10), defScope (top 10), [], []⟩
def f_root_of_D : He.DefD := ⟨("root_of", none), "root_of", "root_of", defArgs (top 11), defBody (top 11), defScope (top 11), [], []⟩
def f_least_run_D : He.DefD := ⟨("least_run", none), "least_run", "least_run", defArgs (top 12), defBody (top 12), defScope (top 12), [], []⟩
def f_same_run_D : He.DefD := ⟨("same_run", none), "same_run", "same_run", defArgs (top 13), defBody (top 13), defScope (top 13), [], []⟩
def f__law_begin_D : He.DefD := ⟨("_law_begin", none), "_law_begin", "_law_begin", defArgs (top 15), defBody (top 15), defScope (top 15), [], []⟩
def f__law_draw_D : He.DefD := ⟨("_law_draw", none), "_law_draw", "_law_draw", defArgs (top 16), defBody (top 16), defScope (top 16), [], []⟩
def f__law_pick_D : He.DefD := ⟨("_law_pick", none), "_law_pick", "_law_pick", defArgs (top 17), defBody (top 17), defScope (top 17), [], []⟩
def f__law_mixed_D : He.DefD := ⟨("_law_mixed", none), "_law_mixed", "_law_mixed", defArgs (top 18), defBody (top 18), defScope (top 18), [], []⟩
def f__law_names_D : He.DefD := ⟨("_law_names", none), "_law_names", "_law_names", defArgs (top 19), defBody (top 19), defScope (top 19), [], []⟩
def f__law_run_D : He.DefD := ⟨("_law_run", none), "_law_run", "_law_run", defArgs (top 20), defBody (top 20), defScope (top 20), [], []⟩
def f__law_plain_D : He.DefD := ⟨("_law_plain", none), "_law_plain", "_law_plain", defArgs (top 21), defBody (top 21), defScope (top 21), [], []⟩
def f__law_same_D : He.DefD := ⟨("_law_same", none), "_law_same", "_law_same", defArgs (top 22), defBody (top 22), defScope (top 22), [], []⟩
def f__law_longer_D : He.DefD := ⟨("_law_longer", none), "_law_longer", "_law_longer", defArgs (top 23), defBody (top 23), defScope (top 23), [], []⟩
def f__law_near_D : He.DefD := ⟨("_law_near", none), "_law_near", "_law_near", defArgs (top 24), defBody (top 24), defScope (top 24), [], []⟩
def f__law_is_least_D : He.DefD := ⟨("_law_is_least", none), "_law_is_least", "_law_is_least", defArgs (top 25), defBody (top 25), defScope (top 25), [], []⟩
def f__law_long_right_D : He.DefD := ⟨("_law_long_right", none), "_law_long_right", "_law_long_right", defArgs (top 26), defBody (top 26), defScope (top 26), [], []⟩
def f_law_D : He.DefD := ⟨("law", none), "law", "law", defArgs (top 27), defBody (top 27), defScope (top 27), [], []⟩
def fn : List He.DefD := [f_is_name_D, f_are_names_D, f_is_run_D, f_need_run_D, f_root_of_D, f_least_run_D, f_same_run_D, f__law_begin_D, f__law_draw_D, f__law_pick_D, f__law_mixed_D, f__law_names_D, f__law_run_D, f__law_plain_D, f__law_same_D, f__law_longer_D, f__law_near_D, f__law_is_least_D, f__law_long_right_D, f_law_D]
def fa : List He.Fa := [.free "isinstance",
  .free "str",
  .free "len",
  .int "LONGEST" 6,
  .str "LETTERS" "abcdefghijklmnopqrstuvwxyz",
  .free "all",
  .free "tuple",
  .glo "is_name",
  .glo "are_names",
  .glo "is_run",
  .exc "NoRun",
  .glo "NoRun",
  .free "range",
  .glo "need_run",
  .glo "root_of",
  .glo "least_run",
  .free "abs",
  .free "int",
  .glo "_law_draw",
  .free "list",
  .glo "_law_pick",
  .glo "_law_mixed",
  .glo "_law_plain",
  .free "max",
  .glo "_law_same",
  .glo "_law_run",
  .glo "same_run",
  .free "repr",
  .glo "_law_begin",
  .glo "_law_names",
  .glo "_law_long_right",
  .glo "_law_is_least",
  .glo "_law_near",
  .glo "_law_longer",
  .glo "law"]
def cn : List Str := ["AgainError", "NoRun"]
abbrev gOf (K : PySem.W.Frag) : Cfg := ⟨K, fun c => He.ga K (cn.getD c "")⟩
section
variable {P : Program} {w : World} {K : PySem.W.Frag} {mg : Str → Option Value} {base : Heap}
abbrev f_is_name_N : List Str := ["thing", "sign"]
theorem f_is_name_sc : FnScope f_is_name_N (f_is_name_N.take 1) f_is_name_D.scope := ⟨rfl, rfl, rfl, by decide +kernel, rfl, by decide +kernel, by decide +kernel⟩
theorem f_is_name_B (T : Tx fa fn (gOf K) mg) {k : Nat} {C : Calls} {cdv : Value} {A : Around} {outer : List Env} {s : Shared} {H : Hp} {E : XK} (B : Tab P w (gOf K) mg base fn k C) (hr : Room k (A.deeper (envOfC f_is_name_D.qual f_is_name_D.scope s.heap.objs.size (He.fAd K f_is_name_D.at_) cdv)) ∧ A.guards = some []) :
    PSs (cxOf (L2.CX P w) P w K mg base f_is_name_N f_is_name_D.qual f_is_name_D.scope (He.fAd K f_is_name_D.at_) cdv A outer s H E) f_is_name_D.body (TSof (gOf K) (fun cls dd _ H => E cls dd H) (f_is_name_S C)) :=
  (s_cons (s_if (PW.pt (t_or (t_not (t_val (x_isi rfl (pe_callB cr_isi (by rfl) (T.free 0) (by decide +kernel) (pa_cons (xv 0) (pa_cons (pe_bltn (v := .ty "str") (by rfl) (T.free 1) (by decide +kernel) rfl) pa_nil)))))) (t_or1 (t_not (t_chain (od_cmpI _) (od_cmpI _) (pt_chain op_le op_le x_int (x_cb cd_len (pe_callB cr_len (by rfl) (T.free 2) boot_len (a_cons (xv 0) a_nil))) (x_gint (T.int 3)))))))) (s_one (s_ret (ps_ret x_bl))) s_nil)
    (s_one (s_ret (ps_ret (x_cb cd_all (pe_callB (cr_all rfl) (by rfl) (T.free 5) (by decide +kernel) (a_cons (x_frz (f_lc yes_tt (pe_lc (own := [("sign", 1)]) rfl f_is_name_sc.nd (i_str (pi_str (xv 0))) (blkOk_by (N := f_is_name_N) (sc := f_is_name_D.scope) (by decide +kernel)) (fun _ _ _ _ _ => (g_name (pg_name (i := 1) f_is_name_sc.nd rfl (by first | exact Or.inl rfl | exact Or.inr rfl)))) (fun _ _ _ _ _ => pts_nil) (fun _ _ _ _ _ => (x_cmp (or_inA ((u65 hr))) (od_inA rfl) (xv 1) (x_gstr (T.str 4))))))) a_nil)))))))
theorem f_is_name_1 (T : Tx fa fn (gOf K) mg) : Def1 P w (gOf K) mg base fn f_is_name_D f_is_name_N 1 f_is_name_S := ⟨T.says.def_ 0, rfl, f_is_name_sc, by decide, fun _ _ _ _ _ _ us hl => match us, hl with | [_], _ => rfl, fun _ _ _ _ _ _ _ _ B hr => f_is_name_B T B hr⟩
abbrev f_are_names_N : List Str := ["thing", "name"]
theorem f_are_names_sc : FnScope f_are_names_N (f_are_names_N.take 1) f_are_names_D.scope := ⟨rfl, rfl, rfl, by decide +kernel, rfl, by decide +kernel, by decide +kernel⟩
theorem f_are_names_B (T : Tx fa fn (gOf K) mg) {k : Nat} {C : Calls} {cdv : Value} {A : Around} {outer : List Env} {s : Shared} {H : Hp} {E : XK} (B : Tab P w (gOf K) mg base fn k C) (hr : Room k (A.deeper (envOfC f_are_names_D.qual f_are_names_D.scope s.heap.objs.size (He.fAd K f_are_names_D.at_) cdv)) ∧ A.guards = some []) :
    PSs (cxOf (L2.CX P w) P w K mg base f_are_names_N f_are_names_D.qual f_are_names_D.scope (He.fAd K f_are_names_D.at_) cdv A outer s H E) f_are_names_D.body (TSof (gOf K) (fun cls dd _ H => E cls dd H) (f_are_names_S C)) :=
  (s_one (s_ret (ps_ret (x_and (x_isi rfl (pe_callB cr_isi (by rfl) (T.free 0) (by decide +kernel) (pa_cons (xv 0) (pa_cons (pe_bltn (v := .ty "tuple") (by rfl) (T.free 6) (by decide +kernel) rfl) pa_nil)))) (x_one (x_cb cd_all (pe_callB (cr_all rfl) (by rfl) (T.free 5) (by decide +kernel) (a_cons (x_frz (f_lc yes_tt (pe_lc (own := [("name", 1)]) rfl f_are_names_sc.nd (i_seq (pi_list (xv 0)) (pi_tup (xv 0)) rfl) (blkOk_by (N := f_are_names_N) (sc := f_are_names_D.scope) (by decide +kernel)) (fun _ _ _ _ _ => (g_name (pg_name (i := 1) f_are_names_sc.nd rfl (by first | exact Or.inl rfl | exact Or.inr rfl)))) (fun _ _ _ _ _ => pts_nil) (fun _ _ _ _ _ => (x_fn 0 T B 7 hr L2.takes0 (a_cons (xv 1) a_nil)))))) a_nil))))))))
theorem f_are_names_1 (T : Tx fa fn (gOf K) mg) : Def1 P w (gOf K) mg base fn f_are_names_D f_are_names_N 1 f_are_names_S := ⟨T.says.def_ 1, rfl, f_are_names_sc, by decide, fun _ _ _ _ _ _ us hl => match us, hl with | [_], _ => rfl, fun _ _ _ _ _ _ _ _ B hr => f_are_names_B T B hr⟩
abbrev f_is_run_N : List Str := ["thing"]
theorem f_is_run_sc : FnScope f_is_run_N (f_is_run_N.take 1) f_is_run_D.scope := ⟨rfl, rfl, rfl, by decide +kernel, rfl, by decide +kernel, by decide +kernel⟩
theorem f_is_run_B (T : Tx fa fn (gOf K) mg) {k : Nat} {C : Calls} {cdv : Value} {A : Around} {outer : List Env} {s : Shared} {H : Hp} {E : XK} (B : Tab P w (gOf K) mg base fn k C) (hr : Room k (A.deeper (envOfC f_is_run_D.qual f_is_run_D.scope s.heap.objs.size (He.fAd K f_is_run_D.at_) cdv)) ∧ A.guards = some []) :
    PSs (cxOf (L2.CX P w) P w K mg base f_is_run_N f_is_run_D.qual f_is_run_D.scope (He.fAd K f_is_run_D.at_) cdv A outer s H E) f_is_run_D.body (TSof (gOf K) (fun cls dd _ H => E cls dd H) (f_is_run_S C)) :=
  (s_cons (s_if (PW.pt (t_or (t_not (t_val (x_isi rfl (pe_callB cr_isi (by rfl) (T.free 0) (by decide +kernel) (pa_cons (xv 0) (pa_cons (pe_bltn (v := .ty "tuple") (by rfl) (T.free 6) (by decide +kernel) rfl) pa_nil)))))) (t_or (t_cmp (or_ne (u64 hr)) (od_ne rfl) (x_cb cd_len (pe_callB cr_len (by rfl) (T.free 2) boot_len (a_cons (xv 0) a_nil))) x_int) (t_or1 (t_not (t_val (x_fn 1 T B 8 hr takes_cx (a_cons (x_ix (u1 hr) (xv 0) x_int) a_nil)))))))) (s_one (s_ret (ps_ret x_bl))) s_nil)
    (s_one (s_ret (ps_ret (x_and (x_fn 1 T B 8 hr takes_cx (a_cons (x_ix (u1 hr) (xv 0) x_int) a_nil)) (x_one (x_cmp or_gt od_gt (x_cb cd_len (pe_callB cr_len (by rfl) (T.free 2) boot_len (a_cons (x_ix (u1 hr) (xv 0) x_int) a_nil))) x_int)))))))
theorem f_is_run_1 (T : Tx fa fn (gOf K) mg) : Def1 P w (gOf K) mg base fn f_is_run_D f_is_run_N 1 f_is_run_S := ⟨T.says.def_ 2, rfl, f_is_run_sc, by decide, fun _ _ _ _ _ _ us hl => match us, hl with | [_], _ => rfl, fun _ _ _ _ _ _ _ _ B hr => f_is_run_B T B hr⟩
abbrev f_need_run_N : List Str := ["thing"]
theorem f_need_run_sc : FnScope f_need_run_N (f_need_run_N.take 1) f_need_run_D.scope := ⟨rfl, rfl, rfl, by decide +kernel, rfl, by decide +kernel, by decide +kernel⟩
theorem f_need_run_B (T : Tx fa fn (gOf K) mg) {k : Nat} {C : Calls} {cdv : Value} {A : Around} {outer : List Env} {s : Shared} {H : Hp} {E : XK} (B : Tab P w (gOf K) mg base fn k C) (hr : Room k (A.deeper (envOfC f_need_run_D.qual f_need_run_D.scope s.heap.objs.size (He.fAd K f_need_run_D.at_) cdv)) ∧ A.guards = some []) :
    PSs (cxOf (L2.CX P w) P w K mg base f_need_run_N f_need_run_D.qual f_need_run_D.scope (He.fAd K f_need_run_D.at_) cdv A outer s H E) f_need_run_D.body (TSof (gOf K) (fun cls dd _ H => E cls dd H) (f_need_run_S C)) :=
  (s_one (s_if (t_not (t_val (x_fn 2 T B 9 hr takes_cx (a_cons (xv 0) a_nil)))) (s_one (s_raise (ps_raise rfl takes_cx (pmk_own PySem.F.excBase_ValueError (T.exc 10).1 (T.glo 11) (T.exc 10).2.1 (raises_own (T.exc 10).2.2.1 (T.exc 10).2.2.2) (by rfl))))) s_nil))
theorem f_need_run_1 (T : Tx fa fn (gOf K) mg) : Def1 P w (gOf K) mg base fn f_need_run_D f_need_run_N 1 f_need_run_S := ⟨T.says.def_ 3, rfl, f_need_run_sc, by decide, fun _ _ _ _ _ _ us hl => match us, hl with | [_], _ => rfl, fun _ _ _ _ _ _ _ _ B hr => f_need_run_B T B hr⟩
abbrev f_root_of_N : List Str := ["ring", "size"]
theorem f_root_of_sc : FnScope f_root_of_N (f_root_of_N.take 1) f_root_of_D.scope := ⟨rfl, rfl, rfl, by decide +kernel, rfl, by decide +kernel, by decide +kernel⟩
theorem f_root_of_B (T : Tx fa fn (gOf K) mg) {k : Nat} {C : Calls} {cdv : Value} {A : Around} {outer : List Env} {s : Shared} {H : Hp} {E : XK} (B : Tab P w (gOf K) mg base fn k C) (hr : Room k (A.deeper (envOfC f_root_of_D.qual f_root_of_D.scope s.heap.objs.size (He.fAd K f_root_of_D.at_) cdv)) ∧ A.guards = some []) :
    PSs (cxOf (L2.CX P w) P w K mg base f_root_of_N f_root_of_D.qual f_root_of_D.scope (He.fAd K f_root_of_D.at_) cdv A outer s H E) f_root_of_D.body (TSof (gOf K) (fun cls dd _ H => E cls dd H) (f_root_of_S C)) :=
  (s_cons (s_for (ws := [1]) (tgN_ne 1) (ps_for owns_cx rfl (i_rng2 (pi_range2 (by rfl) (T.free 12) (pa_cons x_int (pa_cons (x_cb cd_len (pe_callB cr_len (by rfl) (T.free 2) boot_len (a_cons (xv 0) a_nil))) pa_nil)))) (g_name (pg_name (i := 1) f_root_of_sc.nd rfl (by first | exact Or.inl rfl | exact Or.inr rfl))) (s_one (s_if (PW.pt (t_and (t_cmp (or_eq (u64 hr)) (od_eq rfl) (x_bin or_mod od_mod (x_cb cd_len (pe_callB cr_len (by rfl) (T.free 2) boot_len (a_cons (xv 0) a_nil))) (xv 1)) x_int) (t_and1 (t_cmp (or_eq (u64 hr)) (od_eq rfl) (x_bin or_mulE (od_mulE rfl) (x_sl rfl (pe_slice sl_all (xv 0) o_none (o_some (xv 1)))) (x_bin or_fdiv od_fdiv (x_cb cd_len (pe_callB cr_len (by rfl) (T.free 2) boot_len (a_cons (xv 0) a_nil))) (xv 1))) (xv 0))))) (s_one (s_ret (ps_ret (x_sl rfl (pe_slice sl_all (xv 0) o_none (o_some (xv 1))))))) s_nil))))
    (s_one (s_ret (ps_ret (xv 0)))))
theorem f_root_of_1 (T : Tx fa fn (gOf K) mg) : Def1 P w (gOf K) mg base fn f_root_of_D f_root_of_N 1 f_root_of_S := ⟨T.says.def_ 4, rfl, f_root_of_sc, by decide, fun _ _ _ _ _ _ us hl => match us, hl with | [_], _ => rfl, fun _ _ _ _ _ _ _ _ B hr => f_root_of_B T B hr⟩
abbrev f_least_run_N : List Str := ["run", "beginning", "ring"]
theorem f_least_run_sc : FnScope f_least_run_N (f_least_run_N.take 1) f_least_run_D.scope := ⟨rfl, rfl, rfl, by decide +kernel, rfl, by decide +kernel, by decide +kernel⟩
theorem f_least_run_B (T : Tx fa fn (gOf K) mg) {k : Nat} {C : Calls} {cdv : Value} {A : Around} {outer : List Env} {s : Shared} {H : Hp} {E : XK} (B : Tab P w (gOf K) mg base fn k C) (hr : Room k (A.deeper (envOfC f_least_run_D.qual f_least_run_D.scope s.heap.objs.size (He.fAd K f_least_run_D.at_) cdv)) ∧ A.guards = some []) :
    PSs (cxOf (L2.CX P w) P w K mg base f_least_run_N f_least_run_D.qual f_least_run_D.scope (He.fAd K f_least_run_D.at_) cdv A outer s H E) f_least_run_D.body (TSof (gOf K) (fun cls dd _ H => E cls dd H) (f_least_run_S C)) :=
  (s_cons (s_ex (ps_expr (x_fn 3 T B 13 hr takes_cx (a_cons (xv 0) a_nil))))
    (s_cons (s_par2 (ps_par (i := 1) (j := 2) rfl f_least_run_sc.nd rfl rfl (by decide) rfl rfl (q_val (x_ix (u1 hr) (xv 0) x_int) (q_val (x_fn 4 T B 14 hr takes_cx (a_cons (x_ix (u1 hr) (xv 0) x_int) a_nil)) q_nil)) (by rfl)))
    (s_cons (s_while (ps_while owns_cx (PW.pt (t_and (t_cmp (or_ne (u64 hr)) (od_ne rfl) (xv 1) (x_tup a_nil)) (t_and1 (t_cmp (or_eq (u64 hr)) (od_eq rfl) (x_ix (u1 hr) (xv 1) (x_un un_neg ud_neg x_int)) (x_ix (u1 hr) (xv 2) (x_un un_neg ud_neg x_int)))))) (s_one (s_par2 (ps_par (i := 1) (j := 2) rfl f_least_run_sc.nd rfl rfl (by decide) rfl rfl (q_val (x_sl rfl (pe_slice sl_all (xv 1) o_none (o_some (x_un un_neg ud_neg x_int)))) (q_val (x_bin or_add (od_add rfl) (x_sl rfl (pe_slice sl_all (xv 2) (o_some (x_un un_neg ud_neg x_int)) o_none)) (x_sl rfl (pe_slice sl_all (xv 2) o_none (o_some (x_un un_neg ud_neg x_int))))) q_nil)) (by rfl))))))
    (s_one (s_ret (ps_ret (x_tup (a_cons (xv 1) (a_cons (xv 2) a_nil)))))))))
theorem f_least_run_1 (T : Tx fa fn (gOf K) mg) : Def1 P w (gOf K) mg base fn f_least_run_D f_least_run_N 1 f_least_run_S := ⟨T.says.def_ 5, rfl, f_least_run_sc, by decide, fun _ _ _ _ _ _ us hl => match us, hl with | [_], _ => rfl, fun _ _ _ _ _ _ _ _ B hr => f_least_run_B T B hr⟩
abbrev f_same_run_N : List Str := ["one", "other"]
theorem f_same_run_sc : FnScope f_same_run_N (f_same_run_N.take 2) f_same_run_D.scope := ⟨rfl, rfl, rfl, by decide +kernel, rfl, by decide +kernel, by decide +kernel⟩
theorem f_same_run_B (T : Tx fa fn (gOf K) mg) {k : Nat} {C : Calls} {cdv : Value} {A : Around} {outer : List Env} {s : Shared} {H : Hp} {E : XK} (B : Tab P w (gOf K) mg base fn k C) (hr : Room k (A.deeper (envOfC f_same_run_D.qual f_same_run_D.scope s.heap.objs.size (He.fAd K f_same_run_D.at_) cdv)) ∧ A.guards = some []) :
    PSs (cxOf (L2.CX P w) P w K mg base f_same_run_N f_same_run_D.qual f_same_run_D.scope (He.fAd K f_same_run_D.at_) cdv A outer s H E) f_same_run_D.body (TSof (gOf K) (fun cls dd _ H => E cls dd H) (f_same_run_S C)) :=
  (s_one (s_ret (ps_ret (x_cmp (or_eq (u64 hr)) (od_eq rfl) (x_fn 5 T B 15 hr takes_cx (a_cons (xv 0) a_nil)) (x_fn 5 T B 15 hr takes_cx (a_cons (xv 1) a_nil))))))
theorem f_same_run_1 (T : Tx fa fn (gOf K) mg) : Def1 P w (gOf K) mg base fn f_same_run_D f_same_run_N 2 f_same_run_S := ⟨T.says.def_ 6, rfl, f_same_run_sc, by decide, fun _ _ _ _ _ _ us hl => match us, hl with | [_, _], _ => rfl, fun _ _ _ _ _ _ _ _ B hr => f_same_run_B T B hr⟩
abbrev f__law_begin_N : List Str := ["_law_script", "_law_cells", "_law_cell"]
theorem f__law_begin_sc : FnScope f__law_begin_N (f__law_begin_N.take 1) f__law_begin_D.scope := ⟨rfl, rfl, rfl, by decide +kernel, rfl, by decide +kernel, by decide +kernel⟩
theorem f__law_begin_B (T : Tx fa fn (gOf K) mg) {k : Nat} {C : Calls} {cdv : Value} {A : Around} {outer : List Env} {s : Shared} {H : Hp} {E : XK} (B : Tab P w (gOf K) mg base fn k C) (hr : Room k (A.deeper (envOfC f__law_begin_D.qual f__law_begin_D.scope s.heap.objs.size (He.fAd K f__law_begin_D.at_) cdv)) ∧ A.guards = some []) :
    PSs (cxOf (L2.CX P w) P w K mg base f__law_begin_N f__law_begin_D.qual f__law_begin_D.scope (He.fAd K f__law_begin_D.at_) cdv A outer s H E) f__law_begin_D.body (TSof (gOf K) (fun cls dd _ H => E cls dd H) (f__law_begin_S C)) :=
  (s_cons (s_setLc yes_tt (ps_setLc (i := 1) (own := [("_law_cell", 2)]) rfl f__law_begin_sc.nd rfl rfl (sw_true rfl rfl rfl (by decide +kernel)) (i_seq (pi_list (xv 0)) (pi_tup (xv 0)) rfl) (blkOk_by (N := f__law_begin_N) (sc := f__law_begin_D.scope) (by decide +kernel)) (fun _ _ _ _ _ => (g_name (pg_name (i := 2) f__law_begin_sc.nd rfl (by first | exact Or.inl rfl | exact Or.inr rfl)))) (fun _ _ _ _ _ => pts_nil) (fun _ _ _ _ _ => (x_cb cd_abs (pe_callB call_abs (by rfl) (T.free 16) (by decide +kernel) (a_cons (xv 2) a_nil))))))
    (s_one (s_ret (ps_ret (x_hnd (f_disp (p_cons (p_cons (p_cons (p_cons p_nil)))) (pe_disp (pps_cons x_str (x_hnd (f_lc (fun _ _ _ h => h) (pe_lc (own := [("_law_cell", 2)]) rfl f__law_begin_sc.nd (i_seq (pi_list (xv 1)) (pi_tup (xv 1)) rfl) (blkOk_by (N := f__law_begin_N) (sc := f__law_begin_D.scope) (by decide +kernel)) (fun _ _ _ _ _ => (g_name (pg_name (i := 2) f__law_begin_sc.nd rfl (by first | exact Or.inl rfl | exact Or.inr rfl)))) (fun _ _ _ _ _ => (pts_one (t_cmp op_ge (od_cmpI _) (xv 2) (x_bin or_pow od_pow x_int x_int)))) (fun _ _ _ _ _ => (x_bin or_sub od_sub (xv 2) (x_bin or_pow od_pow x_int x_int)))))) (pps_cons x_str (xv 1) (pps_cons x_str x_int (pps_cons x_str x_int pps_nil)))) (by rfl) (by rfl) (fun z => by cases z) (by decide))))))))
theorem f__law_begin_1 (T : Tx fa fn (gOf K) mg) : Def1 P w (gOf K) mg base fn f__law_begin_D f__law_begin_N 1 f__law_begin_S := ⟨T.says.def_ 7, rfl, f__law_begin_sc, by decide, fun _ _ _ _ _ _ us hl => match us, hl with | [_], _ => rfl, fun _ _ _ _ _ _ _ _ B hr => f__law_begin_B T B hr⟩
abbrev f__law_draw_N : List Str := ["_law_state", "_law_size", "_law_turn", "_law_cell", "_law_mixed_here", "_law_found"]
theorem f__law_draw_sc : FnScope f__law_draw_N (f__law_draw_N.take 2) f__law_draw_D.scope := ⟨rfl, rfl, rfl, by decide +kernel, rfl, by decide +kernel, by decide +kernel⟩
theorem f__law_draw_B (T : Tx fa fn (gOf K) mg) {k : Nat} {C : Calls} {cdv : Value} {A : Around} {outer : List Env} {s : Shared} {H : Hp} {E : XK} (B : Tab P w (gOf K) mg base fn k C) (hr : Room k (A.deeper (envOfC f__law_draw_D.qual f__law_draw_D.scope s.heap.objs.size (He.fAd K f__law_draw_D.at_) cdv)) ∧ A.guards = some []) :
    PSs (cxOf (L2.CX P w) P w K mg base f__law_draw_N f__law_draw_D.qual f__law_draw_D.scope (He.fAd K f__law_draw_D.at_) cdv A outer s H E) f__law_draw_D.body (TSof (gOf K) (fun cls dd _ H => E cls dd H) (f__law_draw_S C)) :=
  (s_cons (s_while (ps_while owns_cx (PW.pt (t_and (t_cmp (or_eq (u64 hr)) (od_eq rfl) (x_ix (u1 hr) (xv 0) x_str) x_int) (t_and1 (t_cmp (or_ne (u64 hr)) (od_ne rfl) (x_ix (u1 hr) (xv 0) x_str) (x_frz (f_lst a_nil)))))) (s_one (s_dput (ps_dput ((u1 hr)) (xv 0) x_str (x_popAt rfl (pe_bm PySem.F.plainAttrs_list PySem.F.slot_list_pop PySem.F.type_list_pop mt_popAt (x_ix (u1 hr) (xv 0) x_str) (pa_cons x_int pa_nil))) rfl)))))
    (s_cons (s_if (t_cmp or_gt od_gt (x_ix (u1 hr) (xv 0) x_str) x_int) (s_cons (s_set (ps_set (i := 5) f__law_draw_sc.nd rfl (by first | exact Or.inl rfl | exact Or.inr rfl) (x_bin or_mod od_mod (x_cb cd_int (pe_callTy call_int1 (by rfl) (T.free 17) (by decide +kernel) (a_cons (x_ix (u1 hr) (xv 0) x_str) a_nil))) (xv 1))))
    (s_cons (s_dput (ps_dput ((u1 hr)) (xv 0) x_str (x_bin or_fdiv od_fdiv (x_ix (u1 hr) (xv 0) x_str) (xv 1)) rfl))
    (s_one (s_ret (ps_ret (xv 5)))))) s_nil)
    (s_cons (s_set (ps_set (i := 2) f__law_draw_sc.nd rfl (by first | exact Or.inl rfl | exact Or.inr rfl) (x_bin or_add (od_add rfl) (x_ix (u1 hr) (xv 0) x_str) x_int)))
    (s_cons (s_dput (ps_dput ((u1 hr)) (xv 0) x_str (xv 2) rfl))
    (s_cons (s_set (ps_set (i := 3) f__law_draw_sc.nd rfl (by first | exact Or.inl rfl | exact Or.inr rfl) (x_ite (t_cmp (or_ne (u64 hr)) (od_ne rfl) (x_ix (u1 hr) (xv 0) x_str) (x_frz (f_lst a_nil))) (x_ix (u1 hr) (x_ix (u1 hr) (xv 0) x_str) (x_bin or_mod od_mod (x_cb cd_int (pe_callTy call_int1 (by rfl) (T.free 17) (by decide +kernel) (a_cons (xv 2) a_nil))) (x_cb cd_len (pe_callB cr_len (by rfl) (T.free 2) boot_len (a_cons (x_ix (u1 hr) (xv 0) x_str) a_nil))))) x_int)))
    (s_cons (s_set (ps_set (i := 4) f__law_draw_sc.nd rfl (by first | exact Or.inl rfl | exact Or.inr rfl) (x_bin or_mod od_mod (x_cb cd_int (pe_callTy call_int1 (by rfl) (T.free 17) (by decide +kernel) (a_cons (x_bin or_pow od_pow (x_bin or_add (od_add rfl) (x_bin or_add (od_add rfl) (x_bin or_mod od_mod (x_cb cd_int (pe_callTy call_int1 (by rfl) (T.free 17) (by decide +kernel) (a_cons (xv 3) a_nil))) x_int) (x_bin or_mulE (od_mulE rfl) x_int (xv 2))) x_int) x_int) a_nil))) x_int)))
    (s_one (s_ret (ps_ret (x_bin or_mod od_mod (x_cb cd_int (pe_callTy call_int1 (by rfl) (T.free 17) (by decide +kernel) (a_cons (x_bin or_fdiv od_fdiv (x_bin or_mod od_mod (x_cb cd_int (pe_callTy call_int1 (by rfl) (T.free 17) (by decide +kernel) (a_cons (x_bin or_pow od_pow (x_bin or_add (od_add rfl) (xv 4) (x_bin or_mulE (od_mulE rfl) x_int (xv 2))) x_int) a_nil))) x_int) x_int) a_nil))) (xv 1)))))))))))
theorem f__law_draw_1 (T : Tx fa fn (gOf K) mg) : Def1 P w (gOf K) mg base fn f__law_draw_D f__law_draw_N 2 f__law_draw_S := ⟨T.says.def_ 8, rfl, f__law_draw_sc, by decide, fun _ _ _ _ _ _ us hl => match us, hl with | [_, _], _ => rfl, fun _ _ _ _ _ _ _ _ B hr => f__law_draw_B T B hr⟩
abbrev f__law_pick_N : List Str := ["_law_state", "_law_some"]
theorem f__law_pick_sc : FnScope f__law_pick_N (f__law_pick_N.take 2) f__law_pick_D.scope := ⟨rfl, rfl, rfl, by decide +kernel, rfl, by decide +kernel, by decide +kernel⟩
theorem f__law_pick_B (T : Tx fa fn (gOf K) mg) {k : Nat} {C : Calls} {cdv : Value} {A : Around} {outer : List Env} {s : Shared} {H : Hp} {E : XK} (B : Tab P w (gOf K) mg base fn k C) (hr : Room k (A.deeper (envOfC f__law_pick_D.qual f__law_pick_D.scope s.heap.objs.size (He.fAd K f__law_pick_D.at_) cdv)) ∧ A.guards = some []) :
    PSs (cxOf (L2.CX P w) P w K mg base f__law_pick_N f__law_pick_D.qual f__law_pick_D.scope (He.fAd K f__law_pick_D.at_) cdv A outer s H E) f__law_pick_D.body (TSof (gOf K) (fun cls dd _ H => E cls dd H) (f__law_pick_S C)) :=
  (s_one (s_ret (ps_ret (x_ix (u1 hr) (xv 1) (x_fn 8 T B 18 hr takes_cx (a_cons (xv 0) (a_cons (x_cb cd_len (pe_callB cr_len (by rfl) (T.free 2) boot_len (a_cons (xv 1) a_nil))) a_nil)))))))
theorem f__law_pick_1 (T : Tx fa fn (gOf K) mg) : Def1 P w (gOf K) mg base fn f__law_pick_D f__law_pick_N 2 f__law_pick_S := ⟨T.says.def_ 9, rfl, f__law_pick_sc, by decide, fun _ _ _ _ _ _ us hl => match us, hl with | [_, _], _ => rfl, fun _ _ _ _ _ _ _ _ B hr => f__law_pick_B T B hr⟩
abbrev f__law_mixed_N : List Str := ["_law_state", "_law_some", "_law_left", "_law_found"]
theorem f__law_mixed_sc : FnScope f__law_mixed_N (f__law_mixed_N.take 2) f__law_mixed_D.scope := ⟨rfl, rfl, rfl, by decide +kernel, rfl, by decide +kernel, by decide +kernel⟩
theorem f__law_mixed_B (T : Tx fa fn (gOf K) mg) {k : Nat} {C : Calls} {cdv : Value} {A : Around} {outer : List Env} {s : Shared} {H : Hp} {E : XK} (B : Tab P w (gOf K) mg base fn k C) (hr : Room k (A.deeper (envOfC f__law_mixed_D.qual f__law_mixed_D.scope s.heap.objs.size (He.fAd K f__law_mixed_D.at_) cdv)) ∧ A.guards = some []) :
    PSs (cxOf (L2.CX P w) P w K mg base f__law_mixed_N f__law_mixed_D.qual f__law_mixed_D.scope (He.fAd K f__law_mixed_D.at_) cdv A outer s H E) f__law_mixed_D.body (TSof (gOf K) (fun cls dd _ H => E cls dd H) (f__law_mixed_S C)) :=
  (s_cons (s_par2 (ps_par (i := 2) (j := 3) rfl f__law_mixed_sc.nd rfl rfl (by decide) rfl rfl (q_new (f_cb cn_list (pe_callTy cr_list (by rfl) (T.free 19) (by decide +kernel) (a_cons (xv 1) a_nil))) (q_new (f_lst a_nil) q_nil)) (by rfl)))
    (s_cons (s_while (ps_while owns_cx (t_cmp (or_ne (u64 hr)) (od_ne rfl) (xv 2) (x_frz (f_lst a_nil))) (s_one (s_app rfl (ps_expr (pe_bm PySem.F.plainAttrs_list PySem.F.slot_list_append PySem.F.type_list_append mt_append (xv 3) (pa_cons (x_popAt rfl (pe_bm PySem.F.plainAttrs_list PySem.F.slot_list_pop PySem.F.type_list_pop mt_popAt (xv 2) (pa_cons (x_fn 8 T B 18 hr takes_cx (a_cons (xv 0) (a_cons (x_cb cd_len (pe_callB cr_len (by rfl) (T.free 2) boot_len (a_cons (xv 2) a_nil))) a_nil))) pa_nil))) pa_nil)))))))
    (s_one (s_ret (ps_ret (xv 3))))))
theorem f__law_mixed_1 (T : Tx fa fn (gOf K) mg) : Def1 P w (gOf K) mg base fn f__law_mixed_D f__law_mixed_N 2 f__law_mixed_S := ⟨T.says.def_ 10, rfl, f__law_mixed_sc, by decide, fun _ _ _ _ _ _ us hl => match us, hl with | [_, _], _ => rfl, fun _ _ _ _ _ _ _ _ B hr => f__law_mixed_B T B hr⟩
abbrev f__law_names_N : List Str := ["_law_state", "_law_many", "_law_letters", "_law_near_here", "_law_found", "_law_turn", "_law_word", "_law_sign"]
theorem f__law_names_sc : FnScope f__law_names_N (f__law_names_N.take 2) f__law_names_D.scope := ⟨rfl, rfl, rfl, by decide +kernel, rfl, by decide +kernel, by decide +kernel⟩
theorem f__law_names_B (T : Tx fa fn (gOf K) mg) {k : Nat} {C : Calls} {cdv : Value} {A : Around} {outer : List Env} {s : Shared} {H : Hp} {E : XK} (B : Tab P w (gOf K) mg base fn k C) (hr : Room k (A.deeper (envOfC f__law_names_D.qual f__law_names_D.scope s.heap.objs.size (He.fAd K f__law_names_D.at_) cdv)) ∧ A.guards = some []) :
    PSs (cxOf (L2.CX P w) P w K mg base f__law_names_N f__law_names_D.qual f__law_names_D.scope (He.fAd K f__law_names_D.at_) cdv A outer s H E) f__law_names_D.body (TSof (gOf K) (fun cls dd _ H => E cls dd H) (f__law_names_S C)) :=
  (s_cons (s_set (ps_set (i := 2) f__law_names_sc.nd rfl (by first | exact Or.inl rfl | exact Or.inr rfl) x_str))
    (s_cons (s_set (ps_set (i := 3) f__law_names_sc.nd rfl (by first | exact Or.inl rfl | exact Or.inr rfl) (x_frz (f_lst (a_cons x_str (a_cons x_str (a_cons x_str (a_cons x_str (a_cons x_str (a_cons x_str (a_cons x_str (a_cons x_str (a_cons x_str (a_cons x_str (a_cons x_str (a_cons x_str (a_cons x_str a_nil)))))))))))))))))
    (s_cons (s_own (ps_set (i := 4) f__law_names_sc.nd rfl (by first | exact Or.inl rfl | exact Or.inr rfl) (f_lst a_nil)))
    (s_cons (s_for (ws := [5]) (tgN_ne 5) (ps_for owns_cx rfl (i_rng (pi_range1 (by rfl) (T.free 12) (pa_cons (xv 1) pa_nil))) (g_name (pg_name (i := 5) f__law_names_sc.nd rfl (by first | exact Or.inl rfl | exact Or.inr rfl))) (s_cons (s_set (ps_set (i := 6) f__law_names_sc.nd rfl (by first | exact Or.inl rfl | exact Or.inr rfl) (x_fn 9 T B 20 hr takes_cx (a_cons (xv 0) (a_cons (xv 3) a_nil)))))
    (s_cons (s_if (t_cmp or_gt od_gt (x_fn 8 T B 18 hr takes_cx (a_cons (xv 0) (a_cons x_int a_nil))) x_int) (s_one (s_set (ps_set (i := 6) f__law_names_sc.nd rfl (by first | exact Or.inl rfl | exact Or.inr rfl) (x_join rfl (pe_join x_str (x_frz (f_lc yes_tt (pe_lc (own := [("_law_sign", 7)]) rfl f__law_names_sc.nd (i_rng (pi_range1 (by rfl) (T.free 12) (pa_cons (x_fn 9 T B 20 hr takes_cx (a_cons (xv 0) (a_cons (x_frz (f_lst (a_cons x_int (a_cons x_int (a_cons x_int (a_cons x_int a_nil)))))) a_nil))) pa_nil))) (blkOk_by (N := f__law_names_N) (sc := f__law_names_D.scope) (by decide +kernel)) (fun _ _ _ _ _ => (g_name (pg_name (i := 7) f__law_names_sc.nd rfl (by first | exact Or.inl rfl | exact Or.inr rfl)))) (fun _ _ _ _ _ => pts_nil) (fun _ _ _ _ _ => (x_fn 9 T B 20 hr L2.takes0 (a_cons (xv 0) (a_cons (xv 2) a_nil)))))))))))) s_nil)
    (s_cons (s_while (ps_while owns_cx (t_cmp (or_inA ((u65 hr))) (od_inA rfl) (xv 6) (xv 4)) (s_one (s_set (ps_set (i := 6) f__law_names_sc.nd rfl (by first | exact Or.inl rfl | exact Or.inr rfl) (x_ite (t_cmp or_lt od_lt (x_cb cd_len (pe_callB cr_len (by rfl) (T.free 2) boot_len (a_cons (xv 6) a_nil))) x_int) (x_bin or_add (od_add rfl) (x_sl rfl (pe_slice sl_all (xv 6) o_none (o_some x_int))) (x_fn 9 T B 20 hr takes_cx (a_cons (xv 0) (a_cons (xv 2) a_nil)))) (x_sl rfl (pe_slice sl_all (xv 6) (o_some x_int) o_none))))))))
    (s_one (s_app rfl (ps_expr (pe_bm PySem.F.plainAttrs_list PySem.F.slot_list_append PySem.F.type_list_append mt_append (xv 4) (pa_cons (xv 6) pa_nil))))))))))
    (s_one (s_ret (ps_ret (xv 4))))))))
theorem f__law_names_1 (T : Tx fa fn (gOf K) mg) : Def1 P w (gOf K) mg base fn f__law_names_D f__law_names_N 2 f__law_names_S := ⟨T.says.def_ 11, rfl, f__law_names_sc, by decide, fun _ _ _ _ _ _ us hl => match us, hl with | [_, _], _ => rfl, fun _ _ _ _ _ _ _ _ B hr => f__law_names_B T B hr⟩
abbrev f__law_run_N : List Str := ["_law_state", "_law_signals", "_law_beginning", "_law_some", "_law_turn"]
theorem f__law_run_sc : FnScope f__law_run_N (f__law_run_N.take 2) f__law_run_D.scope := ⟨rfl, rfl, rfl, by decide +kernel, rfl, by decide +kernel, by decide +kernel⟩
theorem f__law_run_B (T : Tx fa fn (gOf K) mg) {k : Nat} {C : Calls} {cdv : Value} {A : Around} {outer : List Env} {s : Shared} {H : Hp} {E : XK} (B : Tab P w (gOf K) mg base fn k C) (hr : Room k (A.deeper (envOfC f__law_run_D.qual f__law_run_D.scope s.heap.objs.size (He.fAd K f__law_run_D.at_) cdv)) ∧ A.guards = some []) :
    PSs (cxOf (L2.CX P w) P w K mg base f__law_run_N f__law_run_D.qual f__law_run_D.scope (He.fAd K f__law_run_D.at_) cdv A outer s H E) f__law_run_D.body (TSof (gOf K) (fun cls dd _ H => E cls dd H) (f__law_run_S C)) :=
  (s_cons (s_setLc yes_tt (ps_setLc (i := 2) (own := [("_law_turn", 4)]) rfl f__law_run_sc.nd rfl rfl (sw_true rfl rfl rfl (by decide +kernel)) (i_rng (pi_range1 (by rfl) (T.free 12) (pa_cons (x_fn 8 T B 18 hr takes_cx (a_cons (xv 0) (a_cons x_int a_nil))) pa_nil))) (blkOk_by (N := f__law_run_N) (sc := f__law_run_D.scope) (by decide +kernel)) (fun _ _ _ _ _ => (g_name (pg_name (i := 4) f__law_run_sc.nd rfl (by first | exact Or.inl rfl | exact Or.inr rfl)))) (fun _ _ _ _ _ => pts_nil) (fun _ _ _ _ _ => (x_fn 9 T B 20 hr L2.takes0 (a_cons (xv 0) (a_cons (xv 1) a_nil))))))
    (s_cons (s_set (ps_set (i := 3) f__law_run_sc.nd rfl (by first | exact Or.inl rfl | exact Or.inr rfl) (x_sl rfl (pe_slice sl_all (x_fn 10 T B 21 hr takes_cx (a_cons (xv 0) (a_cons (xv 1) a_nil))) o_none (o_some (x_bin or_add (od_add rfl) x_int (x_fn 8 T B 18 hr takes_cx (a_cons (xv 0) (a_cons (x_cb cd_len (pe_callB cr_len (by rfl) (T.free 2) boot_len (a_cons (xv 1) a_nil))) a_nil)))))))))
    (s_one (s_ret (ps_ret (x_tup (a_cons (x_cb cd_tuple (pe_callTy cr_tuple (by rfl) (T.free 6) (by decide +kernel) (a_cons (xv 2) a_nil))) (a_cons (x_cb cd_tuple (pe_callTy cr_tuple (by rfl) (T.free 6) (by decide +kernel) (a_cons (x_frz (f_lc yes_tt (pe_lc (own := [("_law_turn", 4)]) rfl f__law_run_sc.nd (i_rng (pi_range1 (by rfl) (T.free 12) (pa_cons (x_bin or_add (od_add rfl) x_int (x_fn 8 T B 18 hr takes_cx (a_cons (xv 0) (a_cons x_int a_nil)))) pa_nil))) (blkOk_by (N := f__law_run_N) (sc := f__law_run_D.scope) (by decide +kernel)) (fun _ _ _ _ _ => (g_name (pg_name (i := 4) f__law_run_sc.nd rfl (by first | exact Or.inl rfl | exact Or.inr rfl)))) (fun _ _ _ _ _ => pts_nil) (fun _ _ _ _ _ => (x_fn 9 T B 20 hr L2.takes0 (a_cons (xv 0) (a_cons (xv 3) a_nil))))))) a_nil))) a_nil))))))))
theorem f__law_run_1 (T : Tx fa fn (gOf K) mg) : Def1 P w (gOf K) mg base fn f__law_run_D f__law_run_N 2 f__law_run_S := ⟨T.says.def_ 12, rfl, f__law_run_sc, by decide, fun _ _ _ _ _ _ us hl => match us, hl with | [_, _], _ => rfl, fun _ _ _ _ _ _ _ _ B hr => f__law_run_B T B hr⟩
abbrev f__law_plain_N : List Str := ["_law_run_here", "_law_many", "_law_found"]
theorem f__law_plain_sc : FnScope f__law_plain_N (f__law_plain_N.take 2) f__law_plain_D.scope := ⟨rfl, rfl, rfl, by decide +kernel, rfl, by decide +kernel, by decide +kernel⟩
theorem f__law_plain_B (T : Tx fa fn (gOf K) mg) {k : Nat} {C : Calls} {cdv : Value} {A : Around} {outer : List Env} {s : Shared} {H : Hp} {E : XK} (B : Tab P w (gOf K) mg base fn k C) (hr : Room k (A.deeper (envOfC f__law_plain_D.qual f__law_plain_D.scope s.heap.objs.size (He.fAd K f__law_plain_D.at_) cdv)) ∧ A.guards = some []) :
    PSs (cxOf (L2.CX P w) P w K mg base f__law_plain_N f__law_plain_D.qual f__law_plain_D.scope (He.fAd K f__law_plain_D.at_) cdv A outer s H E) f__law_plain_D.body (TSof (gOf K) (fun cls dd _ H => E cls dd H) (f__law_plain_S C)) :=
  (s_cons (s_own (ps_set (i := 2) f__law_plain_sc.nd rfl (by first | exact Or.inl rfl | exact Or.inr rfl) (f_sl rfl (pe_slice sl_all (x_frz (f_cb cn_list (pe_callTy cr_list (by rfl) (T.free 19) (by decide +kernel) (a_cons (x_ix (u1 hr) (xv 0) x_int) a_nil)))) o_none (o_some (xv 1))))))
    (s_cons (s_while (ps_while owns_cx (t_cmp or_lt od_lt (x_cb cd_len (pe_callB cr_len (by rfl) (T.free 2) boot_len (a_cons (xv 2) a_nil))) (xv 1)) (s_one (s_app rfl (ps_expr (pe_bm PySem.F.plainAttrs_list PySem.F.slot_list_append PySem.F.type_list_append mt_append (xv 2) (pa_cons (x_ix (u1 hr) (x_ix (u1 hr) (xv 0) x_int) (x_bin or_mod od_mod (x_cb cd_int (pe_callTy call_int1 (by rfl) (T.free 17) (by decide +kernel) (a_cons (x_bin or_sub od_sub (x_cb cd_len (pe_callB cr_len (by rfl) (T.free 2) boot_len (a_cons (xv 2) a_nil))) (x_cb cd_len (pe_callB cr_len (by rfl) (T.free 2) boot_len (a_cons (x_ix (u1 hr) (xv 0) x_int) a_nil)))) a_nil))) (x_cb cd_len (pe_callB cr_len (by rfl) (T.free 2) boot_len (a_cons (x_ix (u1 hr) (xv 0) x_int) a_nil))))) pa_nil)))))))
    (s_one (s_ret (ps_ret (x_cb cd_tuple (pe_callTy cr_tuple (by rfl) (T.free 6) (by decide +kernel) (a_cons (xv 2) a_nil))))))))
theorem f__law_plain_1 (T : Tx fa fn (gOf K) mg) : Def1 P w (gOf K) mg base fn f__law_plain_D f__law_plain_N 2 f__law_plain_S := ⟨T.says.def_ 13, rfl, f__law_plain_sc, by decide, fun _ _ _ _ _ _ us hl => match us, hl with | [_, _], _ => rfl, fun _ _ _ _ _ _ _ _ B hr => f__law_plain_B T B hr⟩
abbrev f__law_same_N : List Str := ["_law_one", "_law_other", "_law_many"]
theorem f__law_same_sc : FnScope f__law_same_N (f__law_same_N.take 2) f__law_same_D.scope := ⟨rfl, rfl, rfl, by decide +kernel, rfl, by decide +kernel, by decide +kernel⟩
theorem f__law_same_B (T : Tx fa fn (gOf K) mg) {k : Nat} {C : Calls} {cdv : Value} {A : Around} {outer : List Env} {s : Shared} {H : Hp} {E : XK} (B : Tab P w (gOf K) mg base fn k C) (hr : Room k (A.deeper (envOfC f__law_same_D.qual f__law_same_D.scope s.heap.objs.size (He.fAd K f__law_same_D.at_) cdv)) ∧ A.guards = some []) :
    PSs (cxOf (L2.CX P w) P w K mg base f__law_same_N f__law_same_D.qual f__law_same_D.scope (He.fAd K f__law_same_D.at_) cdv A outer s H E) f__law_same_D.body (TSof (gOf K) (fun cls dd _ H => E cls dd H) (f__law_same_S C)) :=
  (s_cons (s_set (ps_set (i := 2) f__law_same_sc.nd rfl (by first | exact Or.inl rfl | exact Or.inr rfl) (x_bin or_add (od_add rfl) (x_bin or_add (od_add rfl) (x_cb cd_len (pe_callB cr_len (by rfl) (T.free 2) boot_len (a_cons (x_ix (u1 hr) (xv 0) x_int) a_nil))) (x_cb cd_len (pe_callB cr_len (by rfl) (T.free 2) boot_len (a_cons (x_ix (u1 hr) (xv 1) x_int) a_nil)))) (x_bin or_mulE (od_mulE rfl) (x_cb cd_len (pe_callB cr_len (by rfl) (T.free 2) boot_len (a_cons (x_ix (u1 hr) (xv 0) x_int) a_nil))) (x_cb cd_len (pe_callB cr_len (by rfl) (T.free 2) boot_len (a_cons (x_ix (u1 hr) (xv 1) x_int) a_nil)))))))
    (s_cons (s_set (ps_set (i := 2) f__law_same_sc.nd rfl (by first | exact Or.inl rfl | exact Or.inr rfl) (x_bin or_add (od_add rfl) (x_bin or_add (od_add rfl) (xv 2) (x_cb cd_len (pe_callB cr_len (by rfl) (T.free 2) boot_len (a_cons (x_ix (u1 hr) (xv 0) x_int) a_nil)))) (x_cb cd_len (pe_callB cr_len (by rfl) (T.free 2) boot_len (a_cons (x_ix (u1 hr) (xv 1) x_int) a_nil))))))
    (s_one (s_ret (ps_ret (x_cmp (or_eq (u64 hr)) (od_eq rfl) (x_fn 13 T B 22 hr takes_cx (a_cons (xv 0) (a_cons (xv 2) a_nil))) (x_fn 13 T B 22 hr takes_cx (a_cons (xv 1) (a_cons (xv 2) a_nil)))))))))
theorem f__law_same_1 (T : Tx fa fn (gOf K) mg) : Def1 P w (gOf K) mg base fn f__law_same_D f__law_same_N 2 f__law_same_S := ⟨T.says.def_ 14, rfl, f__law_same_sc, by decide, fun _ _ _ _ _ _ us hl => match us, hl with | [_, _], _ => rfl, fun _ _ _ _ _ _ _ _ B hr => f__law_same_B T B hr⟩
abbrev f__law_longer_N : List Str := ["_law_state", "_law_run_here", "_law_steps", "_law_at", "_law_begun", "_law_ring"]
theorem f__law_longer_sc : FnScope f__law_longer_N (f__law_longer_N.take 2) f__law_longer_D.scope := ⟨rfl, rfl, rfl, by decide +kernel, rfl, by decide +kernel, by decide +kernel⟩
theorem f__law_longer_B (T : Tx fa fn (gOf K) mg) {k : Nat} {C : Calls} {cdv : Value} {A : Around} {outer : List Env} {s : Shared} {H : Hp} {E : XK} (B : Tab P w (gOf K) mg base fn k C) (hr : Room k (A.deeper (envOfC f__law_longer_D.qual f__law_longer_D.scope s.heap.objs.size (He.fAd K f__law_longer_D.at_) cdv)) ∧ A.guards = some []) :
    PSs (cxOf (L2.CX P w) P w K mg base f__law_longer_N f__law_longer_D.qual f__law_longer_D.scope (He.fAd K f__law_longer_D.at_) cdv A outer s H E) f__law_longer_D.body (TSof (gOf K) (fun cls dd _ H => E cls dd H) (f__law_longer_S C)) :=
  (s_cons (s_set (ps_set (i := 2) f__law_longer_sc.nd rfl (by first | exact Or.inl rfl | exact Or.inr rfl) (x_fn 8 T B 18 hr takes_cx (a_cons (xv 0) (a_cons x_int a_nil)))))
    (s_cons (s_set (ps_set (i := 3) f__law_longer_sc.nd rfl (by first | exact Or.inl rfl | exact Or.inr rfl) (x_bin or_mod od_mod (x_cb cd_int (pe_callTy call_int1 (by rfl) (T.free 17) (by decide +kernel) (a_cons (x_cb cd_max (pe_callB (call_max2 rfl) (by rfl) (T.free 23) (by decide +kernel) (a_cons x_int (a_cons (x_bin or_sub od_sub (xv 2) (x_cb cd_len (pe_callB cr_len (by rfl) (T.free 2) boot_len (a_cons (x_ix (u1 hr) (xv 1) x_int) a_nil)))) a_nil)))) a_nil))) (x_cb cd_len (pe_callB cr_len (by rfl) (T.free 2) boot_len (a_cons (x_ix (u1 hr) (xv 1) x_int) a_nil))))))
    (s_cons (s_set (ps_set (i := 4) f__law_longer_sc.nd rfl (by first | exact Or.inl rfl | exact Or.inr rfl) (x_cb cd_max (pe_callB (call_max2 rfl) (by rfl) (T.free 23) (by decide +kernel) (a_cons (xv 2) (a_cons (x_cb cd_len (pe_callB cr_len (by rfl) (T.free 2) boot_len (a_cons (x_ix (u1 hr) (xv 1) x_int) a_nil))) a_nil))))))
    (s_cons (s_set (ps_set (i := 5) f__law_longer_sc.nd rfl (by first | exact Or.inl rfl | exact Or.inr rfl) (x_ite (t_cmp (or_eq (u64 hr)) (od_eq rfl) (xv 4) (x_cb cd_len (pe_callB cr_len (by rfl) (T.free 2) boot_len (a_cons (x_ix (u1 hr) (xv 1) x_int) a_nil)))) (x_ix (u1 hr) (xv 1) x_int) (x_bin or_add (od_add rfl) (x_sl rfl (pe_slice sl_all (x_ix (u1 hr) (xv 1) x_int) (o_some (xv 3)) o_none)) (x_sl rfl (pe_slice sl_all (x_ix (u1 hr) (xv 1) x_int) o_none (o_some (xv 3))))))))
    (s_one (s_ret (ps_ret (x_tup (a_cons (x_fn 13 T B 22 hr takes_cx (a_cons (xv 1) (a_cons (xv 4) a_nil))) (a_cons (x_bin or_mulE (od_mulE rfl) (xv 5) (x_bin or_add (od_add rfl) x_int (x_fn 8 T B 18 hr takes_cx (a_cons (xv 0) (a_cons x_int a_nil))))) a_nil))))))))))
theorem f__law_longer_1 (T : Tx fa fn (gOf K) mg) : Def1 P w (gOf K) mg base fn f__law_longer_D f__law_longer_N 2 f__law_longer_S := ⟨T.says.def_ 15, rfl, f__law_longer_sc, by decide, fun _ _ _ _ _ _ us hl => match us, hl with | [_, _], _ => rfl, fun _ _ _ _ _ _ _ _ B hr => f__law_longer_B T B hr⟩
abbrev f__law_near_N : List Str := ["_law_state", "_law_signals", "_law_run_here", "_law_found", "_law_at", "_law_pair", "_law_part", "_law_way", "_law_name"]
theorem f__law_near_sc : FnScope f__law_near_N (f__law_near_N.take 3) f__law_near_D.scope := ⟨rfl, rfl, rfl, by decide +kernel, rfl, by decide +kernel, by decide +kernel⟩
theorem f__law_near_B (T : Tx fa fn (gOf K) mg) {k : Nat} {C : Calls} {cdv : Value} {A : Around} {outer : List Env} {s : Shared} {H : Hp} {E : XK} (B : Tab P w (gOf K) mg base fn k C) (hr : Room k (A.deeper (envOfC f__law_near_D.qual f__law_near_D.scope s.heap.objs.size (He.fAd K f__law_near_D.at_) cdv)) ∧ A.guards = some []) :
    PSs (cxOf (L2.CX P w) P w K mg base f__law_near_N f__law_near_D.qual f__law_near_D.scope (He.fAd K f__law_near_D.at_) cdv A outer s H E) f__law_near_D.body (TSof (gOf K) (fun cls dd _ H => E cls dd H) (f__law_near_S C)) :=
  (s_cons (s_par3 (ps_par3 (i := 6) (j := 7) (l := 8) rfl f__law_near_sc.nd rfl rfl rfl (by decide) (by decide) (by decide) rfl rfl rfl (q_val (x_fn 8 T B 18 hr takes_cx (a_cons (xv 0) (a_cons x_int a_nil))) (q_val (x_fn 8 T B 18 hr takes_cx (a_cons (xv 0) (a_cons x_int a_nil))) (q_val (x_fn 9 T B 20 hr takes_cx (a_cons (xv 0) (a_cons (xv 1) a_nil))) q_nil))) (by rfl)))
    (s_cons (s_set (ps_set (i := 3) f__law_near_sc.nd rfl (by first | exact Or.inl rfl | exact Or.inr rfl) (x_frz (f_cb cn_list (pe_callTy cr_list (by rfl) (T.free 19) (by decide +kernel) (a_cons (x_ix (u1 hr) (xv 2) (xv 6)) a_nil))))))
    (s_cons (s_set (ps_set (i := 4) f__law_near_sc.nd rfl (by first | exact Or.inl rfl | exact Or.inr rfl) (x_fn 8 T B 18 hr takes_cx (a_cons (xv 0) (a_cons (x_bin or_add (od_add rfl) (x_cb cd_len (pe_callB cr_len (by rfl) (T.free 2) boot_len (a_cons (xv 3) a_nil))) x_int) a_nil)))))
    (s_cons (s_set (ps_set (i := 3) f__law_near_sc.nd rfl (by first | exact Or.inl rfl | exact Or.inr rfl) (x_bin or_add (od_add rfl) (x_bin or_add (od_add rfl) (x_sl rfl (pe_slice sl_all (xv 3) o_none (o_some (xv 4)))) (x_ite (t_cmp or_lt od_lt (xv 7) x_int) (x_frz (f_lst (a_cons (xv 8) a_nil))) (x_frz (f_lst a_nil)))) (x_sl rfl (pe_slice sl_all (xv 3) (o_some (x_bin or_add (od_add rfl) (xv 4) (x_cb cd_int (pe_callTy call_int1 (by rfl) (T.free 17) (by decide +kernel) (a_cons (x_cmp or_gt od_gt (xv 7) x_int) a_nil))))) o_none)))))
    (s_cons (s_own (ps_set (i := 5) f__law_near_sc.nd rfl (by first | exact Or.inl rfl | exact Or.inr rfl) (f_lst (a_cons (x_ix (u1 hr) (xv 2) x_int) (a_cons (x_ix (u1 hr) (xv 2) x_int) a_nil)))))
    (s_cons (s_lput (ps_asg (x_orT rfl (x_cb cd_tuple (pe_callTy cr_tuple (by rfl) (T.free 6) (by decide +kernel) (a_cons (xv 3) a_nil))) (x_one (x_tup (a_cons (xv 8) a_nil)))) (pg_sub (xv 5) (xv 6) set_list)))
    (s_one (s_ret (ps_ret (x_tup (a_cons (x_ix (u1 hr) (xv 5) x_int) (a_cons (x_ix (u1 hr) (xv 5) x_int) a_nil))))))))))))
theorem f__law_near_1 (T : Tx fa fn (gOf K) mg) : Def1 P w (gOf K) mg base fn f__law_near_D f__law_near_N 3 f__law_near_S := ⟨T.says.def_ 16, rfl, f__law_near_sc, by decide, fun _ _ _ _ _ _ us hl => match us, hl with | [_, _, _], _ => rfl, fun _ _ _ _ _ _ _ _ B hr => f__law_near_B T B hr⟩
abbrev f__law_is_least_N : List Str := ["_law_run_here", "_law_size"]
theorem f__law_is_least_sc : FnScope f__law_is_least_N (f__law_is_least_N.take 1) f__law_is_least_D.scope := ⟨rfl, rfl, rfl, by decide +kernel, rfl, by decide +kernel, by decide +kernel⟩
theorem f__law_is_least_B (T : Tx fa fn (gOf K) mg) {k : Nat} {C : Calls} {cdv : Value} {A : Around} {outer : List Env} {s : Shared} {H : Hp} {E : XK} (B : Tab P w (gOf K) mg base fn k C) (hr : Room k (A.deeper (envOfC f__law_is_least_D.qual f__law_is_least_D.scope s.heap.objs.size (He.fAd K f__law_is_least_D.at_) cdv)) ∧ A.guards = some []) :
    PSs (cxOf (L2.CX P w) P w K mg base f__law_is_least_N f__law_is_least_D.qual f__law_is_least_D.scope (He.fAd K f__law_is_least_D.at_) cdv A outer s H E) f__law_is_least_D.body (TSof (gOf K) (fun cls dd _ H => E cls dd H) (f__law_is_least_S C)) :=
  (s_cons (s_if (PW.pt (t_and (t_cmp (or_ne (u64 hr)) (od_ne rfl) (x_ix (u1 hr) (xv 0) x_int) (x_tup a_nil)) (t_and1 (t_cmp (or_eq (u64 hr)) (od_eq rfl) (x_ix (u1 hr) (x_ix (u1 hr) (xv 0) x_int) (x_un un_neg ud_neg x_int)) (x_ix (u1 hr) (x_ix (u1 hr) (xv 0) x_int) (x_un un_neg ud_neg x_int)))))) (s_one (s_ret (ps_ret x_bl))) s_nil)
    (s_cons (s_for (ws := [1]) (tgN_ne 1) (ps_for owns_cx rfl (i_rng2 (pi_range2 (by rfl) (T.free 12) (pa_cons x_int (pa_cons (x_cb cd_len (pe_callB cr_len (by rfl) (T.free 2) boot_len (a_cons (x_ix (u1 hr) (xv 0) x_int) a_nil))) pa_nil)))) (g_name (pg_name (i := 1) f__law_is_least_sc.nd rfl (by first | exact Or.inl rfl | exact Or.inr rfl))) (s_one (s_if (t_val (x_fn 14 T B 24 hr takes_cx (a_cons (xv 0) (a_cons (x_tup (a_cons (x_ix (u1 hr) (xv 0) x_int) (a_cons (x_sl rfl (pe_slice sl_all (x_ix (u1 hr) (xv 0) x_int) o_none (o_some (xv 1)))) a_nil))) a_nil)))) (s_one (s_ret (ps_ret x_bl))) s_nil))))
    (s_one (s_ret (ps_ret x_bl)))))
theorem f__law_is_least_1 (T : Tx fa fn (gOf K) mg) : Def1 P w (gOf K) mg base fn f__law_is_least_D f__law_is_least_N 1 f__law_is_least_S := ⟨T.says.def_ 17, rfl, f__law_is_least_sc, by decide, fun _ _ _ _ _ _ us hl => match us, hl with | [_], _ => rfl, fun _ _ _ _ _ _ _ _ B hr => f__law_is_least_B T B hr⟩
abbrev f__law_long_right_N : List Str := ["_law_state", "_law_signals", "_law_part", "_law_other", "_law_tail", "_law_pairs", "_law_least", "_law_one", "_law_two", "_law_due", "_law_turn"]
theorem f__law_long_right_sc : FnScope f__law_long_right_N (f__law_long_right_N.take 2) f__law_long_right_D.scope := ⟨rfl, rfl, rfl, by decide +kernel, rfl, by decide +kernel, by decide +kernel⟩
theorem f__law_long_right_B (T : Tx fa fn (gOf K) mg) {k : Nat} {C : Calls} {cdv : Value} {A : Around} {outer : List Env} {s : Shared} {H : Hp} {E : XK} (B : Tab P w (gOf K) mg base fn k C) (hr : Room k (A.deeper (envOfC f__law_long_right_D.qual f__law_long_right_D.scope s.heap.objs.size (He.fAd K f__law_long_right_D.at_) cdv)) ∧ A.guards = some []) :
    PSs (cxOf (L2.CX P w) P w K mg base f__law_long_right_N f__law_long_right_D.qual f__law_long_right_D.scope (He.fAd K f__law_long_right_D.at_) cdv A outer s H E) f__law_long_right_D.body (TSof (gOf K) (fun cls dd _ H => E cls dd H) (f__law_long_right_S C)) :=
  (s_cons (s_set (ps_set (i := 2) f__law_long_right_sc.nd rfl (by first | exact Or.inl rfl | exact Or.inr rfl) (x_cb cd_tuple (pe_callTy cr_tuple (by rfl) (T.free 6) (by decide +kernel) (a_cons (x_frz (f_lc yes_tt (pe_lc (own := [("_law_turn", 10)]) rfl f__law_long_right_sc.nd (i_rng (pi_range1 (by rfl) (T.free 12) (pa_cons (x_bin or_add (od_add rfl) x_int (x_fn 8 T B 18 hr takes_cx (a_cons (xv 0) (a_cons x_int a_nil)))) pa_nil))) (blkOk_by (N := f__law_long_right_N) (sc := f__law_long_right_D.scope) (by decide +kernel)) (fun _ _ _ _ _ => (g_name (pg_name (i := 10) f__law_long_right_sc.nd rfl (by first | exact Or.inl rfl | exact Or.inr rfl)))) (fun _ _ _ _ _ => pts_nil) (fun _ _ _ _ _ => (x_fn 9 T B 20 hr L2.takes0 (a_cons (xv 0) (a_cons (xv 1) a_nil))))))) a_nil)))))
    (s_cons (s_set (ps_set (i := 3) f__law_long_right_sc.nd rfl (by first | exact Or.inl rfl | exact Or.inr rfl) (x_bin or_add (od_add rfl) (x_sl rfl (pe_slice sl_all (xv 2) o_none (o_some (x_un un_neg ud_neg x_int)))) (x_tup (a_cons (x_ite (t_cmp (or_eq (u64 hr)) (od_eq rfl) (x_ix (u1 hr) (xv 2) (x_un un_neg ud_neg x_int)) (x_ix (u1 hr) (xv 1) x_int)) (x_ix (u1 hr) (xv 1) x_int) (x_ix (u1 hr) (xv 1) x_int)) a_nil)))))
    (s_cons (s_set (ps_set (i := 4) f__law_long_right_sc.nd rfl (by first | exact Or.inl rfl | exact Or.inr rfl) (x_ix (u1 hr) (x_fn 12 T B 25 hr takes_cx (a_cons (xv 0) (a_cons (xv 1) a_nil))) x_int)))
    (s_cons (s_set (ps_set (i := 5) f__law_long_right_sc.nd rfl (by first | exact Or.inl rfl | exact Or.inr rfl) (x_frz (f_lst (a_cons (x_tup (a_cons (x_tup (a_cons (xv 2) (a_cons (xv 4) a_nil))) (a_cons (x_tup (a_cons (xv 3) (a_cons (xv 4) a_nil))) a_nil))) (a_cons (x_tup (a_cons (x_tup (a_cons (x_tup a_nil) (a_cons (xv 2) a_nil))) (a_cons (x_tup (a_cons (x_tup a_nil) (a_cons (xv 3) a_nil))) a_nil))) (a_cons (x_tup (a_cons (x_tup (a_cons (xv 2) (a_cons (xv 2) a_nil))) (a_cons (x_tup (a_cons (x_tup a_nil) (a_cons (x_bin or_add (od_add rfl) (xv 2) (xv 3)) a_nil))) a_nil))) a_nil)))))))
    (s_cons (s_for (ws := [7, 8]) (tgT_ne ⟨(tgN_ne 7), (tgN_ne 8), trivial⟩) (ps_for owns_cx rfl (i_seq (pi_list (xv 5)) (pi_tup (xv 5)) rfl) (g_tup rfl (gs_cons (g_name (pg_name (i := 7) f__law_long_right_sc.nd rfl (by first | exact Or.inl rfl | exact Or.inr rfl))) (gs_cons (g_name (pg_name (i := 8) f__law_long_right_sc.nd rfl (by first | exact Or.inl rfl | exact Or.inr rfl))) gs_nil))) (s_cons (s_set (ps_set (i := 9) f__law_long_right_sc.nd rfl (by first | exact Or.inl rfl | exact Or.inr rfl) (x_fn 14 T B 24 hr takes_cx (a_cons (xv 7) (a_cons (xv 8) a_nil)))))
    (s_one (s_if (t_cmp (or_ne (u64 hr)) (od_ne rfl) (x_cb (cd_repr rfl) (pe_callB (cr_repr hr.2 (u64 hr)) (by rfl) (T.free 27) (by decide +kernel) (a_cons (x_frz (f_lst (a_cons (x_fn 6 T B 26 hr takes_cx (a_cons (xv 7) (a_cons (xv 8) a_nil))) (a_cons (x_fn 6 T B 26 hr takes_cx (a_cons (xv 8) (a_cons (xv 7) a_nil))) (a_cons (x_fn 6 T B 26 hr takes_cx (a_cons (xv 7) (a_cons (xv 7) a_nil))) a_nil))))) a_nil))) (x_cb (cd_repr rfl) (pe_callB (cr_repr hr.2 (u64 hr)) (by rfl) (T.free 27) (by decide +kernel) (a_cons (x_frz (f_lst (a_cons (xv 9) (a_cons (xv 9) (a_cons x_bl a_nil))))) a_nil)))) (s_one (s_ret (ps_ret x_bl))) s_nil)))))
    (s_cons (s_set (ps_set (i := 6) f__law_long_right_sc.nd rfl (by first | exact Or.inl rfl | exact Or.inr rfl) (x_fn 5 T B 15 hr takes_cx (a_cons (x_tup (a_cons (x_tup a_nil) (a_cons (x_bin or_mulE (od_mulE rfl) (xv 2) x_int) a_nil))) a_nil))))
    (s_one (s_ret (ps_ret (x_and (x_fn 14 T B 24 hr takes_cx (a_cons (xv 6) (a_cons (x_tup (a_cons (x_tup a_nil) (a_cons (xv 2) a_nil))) a_nil))) (x_and (x_cmp op_le (od_cmpI _) (x_cb cd_len (pe_callB cr_len (by rfl) (T.free 2) boot_len (a_cons (x_ix (u1 hr) (xv 6) x_int) a_nil))) (x_cb cd_len (pe_callB cr_len (by rfl) (T.free 2) boot_len (a_cons (xv 2) a_nil)))) (x_one (x_fn 6 T B 26 hr takes_cx (a_cons (x_tup (a_cons (x_tup a_nil) (a_cons (x_bin or_mulE (od_mulE rfl) (xv 2) x_int) a_nil))) (a_cons (x_tup (a_cons (x_tup a_nil) (a_cons (xv 2) a_nil))) a_nil)))))))))))))))
theorem f__law_long_right_1 (T : Tx fa fn (gOf K) mg) : Def1 P w (gOf K) mg base fn f__law_long_right_D f__law_long_right_N 2 f__law_long_right_S := ⟨T.says.def_ 18, rfl, f__law_long_right_sc, by decide, fun _ _ _ _ _ _ us hl => match us, hl with | [_, _], _ => rfl, fun _ _ _ _ _ _ _ _ B hr => f__law_long_right_B T B hr⟩
abbrev f_law_N : List Str := ["_law_script", "_law_state", "_law_turn", "_law_signals", "_law_run_here", "_law_least", "_law_other", "_law_due", "_law_told"]
theorem f_law_sc : FnScope f_law_N (f_law_N.take 1) f_law_D.scope := ⟨rfl, rfl, rfl, by decide +kernel, rfl, by decide +kernel, by decide +kernel⟩
theorem f_law_B (T : Tx fa fn (gOf K) mg) {k : Nat} {C : Calls} {cdv : Value} {A : Around} {outer : List Env} {s : Shared} {H : Hp} {E : XK} (B : Tab P w (gOf K) mg base fn k C) (hr : Room k (A.deeper (envOfC f_law_D.qual f_law_D.scope s.heap.objs.size (He.fAd K f_law_D.at_) cdv)) ∧ A.guards = some []) :
    PSs (cxOf (L2.CX P w) P w K mg base f_law_N f_law_D.qual f_law_D.scope (He.fAd K f_law_D.at_) cdv A outer s H E) f_law_D.body (TSof (gOf K) (fun cls dd _ H => E cls dd H) (f_law_S C)) :=
  (s_cons (s_set (ps_set (i := 1) f_law_sc.nd rfl (by first | exact Or.inl rfl | exact Or.inr rfl) (x_fn 7 T B 28 hr takes_cx (a_cons (xv 0) a_nil))))
    (s_cons (s_if (t_not (t_val (x_fn 18 T B 30 hr takes_cx (a_cons (xv 1) (a_cons (x_fn 11 T B 29 hr takes_cx (a_cons (xv 1) (a_cons x_int a_nil))) a_nil))))) (s_one (s_ret (ps_ret x_bl))) s_nil)
    (s_cons (s_for (ws := [2]) (tgN_ne 2) (ps_for owns_cx rfl (i_rng (pi_range1 (by rfl) (T.free 12) (pa_cons x_int pa_nil))) (g_name (pg_name (i := 2) f_law_sc.nd rfl (by first | exact Or.inl rfl | exact Or.inr rfl))) (s_cons (s_set (ps_set (i := 3) f_law_sc.nd rfl (by first | exact Or.inl rfl | exact Or.inr rfl) (x_fn 11 T B 29 hr takes_cx (a_cons (xv 1) (a_cons (x_bin or_add (od_add rfl) x_int (x_fn 8 T B 18 hr takes_cx (a_cons (xv 1) (a_cons x_int a_nil)))) a_nil)))))
    (s_cons (s_set (ps_set (i := 4) f_law_sc.nd rfl (by first | exact Or.inl rfl | exact Or.inr rfl) (x_fn 12 T B 25 hr takes_cx (a_cons (xv 1) (a_cons (xv 3) a_nil)))))
    (s_cons (s_if (t_cmp (or_eq (u64 hr)) (od_eq rfl) (x_fn 8 T B 18 hr takes_cx (a_cons (xv 1) (a_cons x_int a_nil))) x_int) (s_one (s_set (ps_set (i := 4) f_law_sc.nd rfl (by first | exact Or.inl rfl | exact Or.inr rfl) (x_tup (a_cons (x_bin or_add (od_add rfl) (x_ix (u1 hr) (xv 4) x_int) (x_sl rfl (pe_slice sl_all (x_ix (u1 hr) (xv 4) x_int) (o_some x_int) o_none))) (a_cons (x_bin or_mulE (od_mulE rfl) (x_ix (u1 hr) (xv 4) x_int) x_int) a_nil)))))) s_nil)
    (s_cons (s_set (ps_set (i := 5) f_law_sc.nd rfl (by first | exact Or.inl rfl | exact Or.inr rfl) (x_fn 5 T B 15 hr takes_cx (a_cons (xv 4) a_nil))))
    (s_cons (s_if (PW.pt (t_or (t_not (t_val (x_fn 14 T B 24 hr takes_cx (a_cons (xv 5) (a_cons (xv 4) a_nil))))) (t_or (t_not (t_val (x_fn 17 T B 31 hr takes_cx (a_cons (xv 5) a_nil)))) (t_or1 (t_cmp (or_ne (u64 hr)) (od_ne rfl) (x_fn 5 T B 15 hr takes_cx (a_cons (xv 5) a_nil)) (xv 5)))))) (s_one (s_ret (ps_ret x_bl))) s_nil)
    (s_one (s_for (ws := [6]) (tgN_ne 6) (ps_for owns_cx rfl (i_seq (pi_list (x_frz (f_lst (a_cons (x_fn 15 T B 33 hr takes_cx (a_cons (xv 1) (a_cons (xv 4) a_nil))) (a_cons (x_fn 16 T B 32 hr takes_cx (a_cons (xv 1) (a_cons (xv 3) (a_cons (xv 4) a_nil)))) (a_cons (x_fn 12 T B 25 hr takes_cx (a_cons (xv 1) (a_cons (xv 3) a_nil))) (a_cons (xv 4) a_nil))))))) (pi_tup (x_frz (f_lst (a_cons (x_fn 15 T B 33 hr takes_cx (a_cons (xv 1) (a_cons (xv 4) a_nil))) (a_cons (x_fn 16 T B 32 hr takes_cx (a_cons (xv 1) (a_cons (xv 3) (a_cons (xv 4) a_nil)))) (a_cons (x_fn 12 T B 25 hr takes_cx (a_cons (xv 1) (a_cons (xv 3) a_nil))) (a_cons (xv 4) a_nil))))))) rfl) (g_name (pg_name (i := 6) f_law_sc.nd rfl (by first | exact Or.inl rfl | exact Or.inr rfl))) (s_cons (s_set (ps_set (i := 7) f_law_sc.nd rfl (by first | exact Or.inl rfl | exact Or.inr rfl) (x_fn 14 T B 24 hr takes_cx (a_cons (xv 4) (a_cons (xv 6) a_nil)))))
    (s_cons (s_set (ps_set (i := 8) f_law_sc.nd rfl (by first | exact Or.inl rfl | exact Or.inr rfl) (x_frz (f_lst (a_cons (x_fn 6 T B 26 hr takes_cx (a_cons (xv 4) (a_cons (xv 6) a_nil))) (a_cons (x_fn 6 T B 26 hr takes_cx (a_cons (xv 6) (a_cons (xv 4) a_nil))) (a_cons (x_cmp (or_eq (u64 hr)) (od_eq rfl) (x_fn 5 T B 15 hr takes_cx (a_cons (xv 6) a_nil)) (xv 5)) a_nil)))))))
    (s_one (s_if (t_cmp (or_ne (u64 hr)) (od_ne rfl) (x_cb (cd_repr rfl) (pe_callB (cr_repr hr.2 (u64 hr)) (by rfl) (T.free 27) (by decide +kernel) (a_cons (xv 8) a_nil))) (x_cb (cd_repr rfl) (pe_callB (cr_repr hr.2 (u64 hr)) (by rfl) (T.free 27) (by decide +kernel) (a_cons (x_bin or_mulE (od_mulE rfl) (x_frz (f_lst (a_cons (xv 7) a_nil))) x_int) a_nil)))) (s_one (s_ret (ps_ret x_bl))) s_nil))))))))))))))
    (s_one (s_ret (ps_ret x_bl))))))
theorem f_law_1 (T : Tx fa fn (gOf K) mg) : Def1 P w (gOf K) mg base fn f_law_D f_law_N 1 f_law_S := ⟨T.says.def_ 19, rfl, f_law_sc, by decide, fun _ _ _ _ _ _ us hl => match us, hl with | [_], _ => rfl, fun _ _ _ _ _ _ _ _ B hr => f_law_B T B hr⟩
theorem tab (T : Tx fa fn (gOf K) mg) : ∀ k, Tab P w (gOf K) mg base fn k (callK body k) := tab_all fun j d hj => match j, hj with
  | 0, hj => by cases hj; exact ⟨f_is_name_N, 1, f_is_name_S, f_is_name_1 T, fun _ => rfl⟩
  | 1, hj => by cases hj; exact ⟨f_are_names_N, 1, f_are_names_S, f_are_names_1 T, fun _ => rfl⟩
  | 2, hj => by cases hj; exact ⟨f_is_run_N, 1, f_is_run_S, f_is_run_1 T, fun _ => rfl⟩
  | 3, hj => by cases hj; exact ⟨f_need_run_N, 1, f_need_run_S, f_need_run_1 T, fun _ => rfl⟩
  | 4, hj => by cases hj; exact ⟨f_root_of_N, 1, f_root_of_S, f_root_of_1 T, fun _ => rfl⟩
  | 5, hj => by cases hj; exact ⟨f_least_run_N, 1, f_least_run_S, f_least_run_1 T, fun _ => rfl⟩
  | 6, hj => by cases hj; exact ⟨f_same_run_N, 2, f_same_run_S, f_same_run_1 T, fun _ => rfl⟩
  | 7, hj => by cases hj; exact ⟨f__law_begin_N, 1, f__law_begin_S, f__law_begin_1 T, fun _ => rfl⟩
  | 8, hj => by cases hj; exact ⟨f__law_draw_N, 2, f__law_draw_S, f__law_draw_1 T, fun _ => rfl⟩
  | 9, hj => by cases hj; exact ⟨f__law_pick_N, 2, f__law_pick_S, f__law_pick_1 T, fun _ => rfl⟩
  | 10, hj => by cases hj; exact ⟨f__law_mixed_N, 2, f__law_mixed_S, f__law_mixed_1 T, fun _ => rfl⟩
  | 11, hj => by cases hj; exact ⟨f__law_names_N, 2, f__law_names_S, f__law_names_1 T, fun _ => rfl⟩
  | 12, hj => by cases hj; exact ⟨f__law_run_N, 2, f__law_run_S, f__law_run_1 T, fun _ => rfl⟩
  | 13, hj => by cases hj; exact ⟨f__law_plain_N, 2, f__law_plain_S, f__law_plain_1 T, fun _ => rfl⟩
  | 14, hj => by cases hj; exact ⟨f__law_same_N, 2, f__law_same_S, f__law_same_1 T, fun _ => rfl⟩
  | 15, hj => by cases hj; exact ⟨f__law_longer_N, 2, f__law_longer_S, f__law_longer_1 T, fun _ => rfl⟩
  | 16, hj => by cases hj; exact ⟨f__law_near_N, 3, f__law_near_S, f__law_near_1 T, fun _ => rfl⟩
  | 17, hj => by cases hj; exact ⟨f__law_is_least_N, 1, f__law_is_least_S, f__law_is_least_1 T, fun _ => rfl⟩
  | 18, hj => by cases hj; exact ⟨f__law_long_right_N, 2, f__law_long_right_S, f__law_long_right_1 T, fun _ => rfl⟩
  | 19, hj => by cases hj; exact ⟨f_law_N, 1, f_law_S, f_law_1 T, fun _ => rfl⟩
  | _ + 20, hj => by cases hj
end
end AG.K07

set_option Elab.async false
set_option linter.all false
set_option maxRecDepth 100000
set_option maxHeartbeats 0
namespace AG.K07
open PySem L2 PySem.Spec PyProof.Rows AG
abbrev RR : PySem.W.OpenRow := PySem.W.OpenLaw.row PySem.Challenge.rw_againtrees_k07_least_pairs
abbrev hk : PySem.W.Hook := He.hookD 5 fa fn
def ob (s : PySem.W.SharedT) : He.AlD := He.obsDG 5 fa fn (HandSHeadRun.getT s)
theorem ob_eq (s : PySem.W.SharedT) : ob s = hk.obs s.abs := He.obsDG_eq (HandSHeadRun.getT_eq s)
def loose : List PySem.Str := ([PySem.Str.ofString "__name__", PySem.Str.ofString "AgainError", PySem.Str.ofString "NoRun", PySem.Str.ofString "LONGEST", PySem.Str.ofString "LETTERS", PySem.Str.ofString "is_name", PySem.Str.ofString "are_names", PySem.Str.ofString "is_run", PySem.Str.ofString "need_run", PySem.Str.ofString "root_of", PySem.Str.ofString "least_run", PySem.Str.ofString "same_run", PySem.Str.ofString "_law_begin", PySem.Str.ofString "_law_draw", PySem.Str.ofString "_law_pick", PySem.Str.ofString "_law_mixed", PySem.Str.ofString "_law_names", PySem.Str.ofString "_law_run", PySem.Str.ofString "_law_plain", PySem.Str.ofString "_law_same"] : List PySem.Str) ++ ([PySem.Str.ofString "_law_longer", PySem.Str.ofString "_law_near", PySem.Str.ofString "_law_is_least", PySem.Str.ofString "_law_long_right"] : List PySem.Str)
theorem run (w : World) : HandSHeadRun.RunEq RR (PySem.W.view RR.prog [27]) hk ob 40000 loose w := by
  intro os
  kernel_rfl
theorem ended (w : World) (mg : Str → Option Value) (fA : Addr) (h : Heap) (K : PySem.W.Frag) (inK : K.In h) (names : h.Ns mainGlobals mg) (c : He.SaysD fa fn K) (hmg : mg "law" = some (.ref fA)) : AtEnd PySem.Challenge.rw_againtrees_k07_least_pairs w (L2.CX (PySem.Challenge.rw_againtrees_k07_least_pairs).prog w) (KK + 1) 63 "_law_script" mg fA h := by
  have T : Tx fa fn (gOf K) mg := ⟨c, h, inK, names⟩
  have hg := T.glo 34 (x := "law") rfl
  have e := hmg.symm.trans hg
  cases e
  exact at_end (G := gOf K) (body := body) (d := f_law_D) (bf := f_law_S) inK 19 (fun base => f_law_1 T) (fun base => tab T KK) rfl rfl (fun ns hl => pure_law ns hl)
end AG.K07
open PySem PySem.W PySem.Calls PyProof.Rows
theorem PySem.Challenge.cw_againtrees_k07_least_pairs_holds : PySem.Challenge.rw_againtrees_k07_least_pairs.Holds := by
  w_on; o_law
  refine HandSHeadRun.head_any (r := OpenLaw.row PySem.Challenge.rw_againtrees_k07_least_pairs) (q := view (OpenLaw.row PySem.Challenge.rw_againtrees_k07_least_pairs).prog [27]) (H := AG.K07.hk) (ob := AG.K07.ob) (M := 40000) (loose := AG.K07.loose) (d := HandSHeadRun.topDef (OpenLaw.row PySem.Challenge.rw_againtrees_k07_least_pairs).prog 27) (kwd := []) AG.K07.ob_eq
    (by kernel_rfl) (fun s => by kernel_rfl) AG.K07.run (by kernel_rfl) (by kernel_rfl) (by kernel_rfl) (by rfl) (by first | assumption | decide +kernel) (by decide +kernel) ⟨rfl, rfl, rfl, rfl, rfl, by decide +kernel⟩ ?hw ?hc
  case hw => w_witness2
  case hc =>
    refine AG.walk_g (l := PySem.Challenge.rw_againtrees_k07_least_pairs) (n := 63) (k := AG.K07.KK + 1) (x := "_law_script") (CX := fun w => L2.CX (PySem.Challenge.rw_againtrees_k07_least_pairs).prog w) rfl (by decide) (by kernel_rfl) ⟨rfl, by decide, by decide⟩ ?F (fun _ _ _ _ _ z => by obtain ⟨_, _, _, _, _, _, _, _, _, _, _, _, z⟩ := z; exact z.elim)
    intro w mg fA h Y G hmg0
    obtain ⟨K, KX, c⟩ := Y
    have hmg : mg ("law" : PySem.Str) = some (.ref fA) := by
      have e : (HandSHeadRun.topDef (OpenLaw.row PySem.Challenge.rw_againtrees_k07_least_pairs).prog 27).name = ("law" : PySem.Str) := by kernel_rfl
      rw [← e]
      exact hmg0
    exact AG.K07.ended w mg fA h K KX G c hmg
