import PyProof.Rows.All
import Wide.All
import OpenK.AllK
import Wide.FinOn
import HandS.ForMost
import HandS.Evl
import HandS.Defaults
import HandS.IsInst
import HandS.SortInts
import HandS.Text
import HandS.Conv
import HandS.Deep
import HandS.NoneIn
import HandS.DictComp
import HandS.Rev
import HandS.More
import HandS.Lambda
import HandS.SortKw
import HandS.HeadWalk
import KE.SortKeyHeap
import HandS.HeadHook4
import HandS.Head2
import PySem.Challenge.RW_markthenpurge_k78_whole_ranges_one_by_on
set_option Elab.async false
set_option linter.all false
set_option maxRecDepth 100000
set_option maxHeartbeats 4000000
/-! DLCore: what a frame holds, told by typed data: frozen data, lists and dicts that one name owns, lists that are handed in to be changed -/
namespace DL
open PySem L2

/-! ### predicates on values and on contents -/
structure Pd where
  p : Hp → V → Prop
  mono : ∀ {F F' : Hp} {v : V}, Same F F' → p F v → p F' v
structure Ct where
  c : Hp → HO → Prop
  mono : ∀ {F F' : Hp} {o : HO}, Same F F' → c F o → c F' o

inductive Sl where
  | un
  | dat (P : Pd)
  | own (C : Ct)
  | io (j : Nat) (C : Ct)
def Sl.isOwn : Sl → Bool
  | .own _ => true
  | .io _ _ => true
  | _ => false
/-- the content told of a slot that owns -/
def Sl.has : Sl → Ct → Prop
  | .own C, D => C = D
  | .io _ C, D => C = D
  | _, _ => False
def Sl.put : Sl → Ct → Sl
  | .own _, D => .own D
  | .io j _, D => .io j D
  | s, _ => s

def isD : HO → Bool
  | .dK _ => true
  | .dT _ => true
  | _ => false

structure Bs where
  F0 : Hp
  H0 : Hp
  ps : List Addr
  lk : List Addr
  ml : List Addr

/-- what is frozen stands in the heap (a dict that is walked is locked there) -/
def Fh (lk : List Addr) (F H : Hp) : Prop := ∀ a o, F a = some o → H a = some o ∨ (a ∈ lk ∧ isD o = true ∧ ∃ od, H a = some (.frz od o))
theorem Fh.at {lk : List Addr} {F H : Hp} {a : Addr} {o : HO} (h : Fh lk F H) (e : F a = some o) (d : isD o = false) : H a = some o := by
  rcases h a o e with z | ⟨_, z, _⟩
  · exact z
  · rw [d] at z; cases z
theorem Fh.some {lk : List Addr} {F H : Hp} {a : Addr} {o : HO} (h : Fh lk F H) (e : F a = some o) : H a ≠ none := by
  rcases h a o e with z | ⟨_, _, _, z⟩ <;> rw [z] <;> intro q <;> cases q
theorem Fh.none {lk : List Addr} {F H : Hp} {a : Addr} (h : Fh lk F H) (e : H a = none) : F a = none := by
  cases q : F a with
  | none => rfl
  | some o => exact absurd e (h.some q)

def Owned (r : List Sl) (σ : L2.St) (b : Addr) : Prop := ∃ (i : Nat) (s : Sl), r[i]? = some s ∧ s.isOwn = true ∧ σ[i]? = some (some (.ref b))

def SlOk (B : Bs) (F H : Hp) (x : Option (Option V)) : Sl → Prop
  | .un => True
  | .dat P => ∃ v, x = some (some v) ∧ P.p F v
  | .own C => ∃ p o, x = some (some (.ref p)) ∧ F p = none ∧ H p = some o ∧ C.c F o ∧ B.H0 p = none
  | .io j C => ∃ p o, x = some (some (.ref p)) ∧ F p = none ∧ H p = some o ∧ C.c F o ∧ B.ps[j]? = some p

structure Ok (B : Bs) (r : List Sl) (σ : L2.St) (F H : Hp) : Prop where
  fh : Fh B.lk F H
  f0 : Same B.F0 F
  nw : ∀ b o, F b = some o → B.F0 b = some o ∨ B.H0 b = none
  kp : ∀ b o, B.H0 b = some o → b ∉ B.ps → H b = some o ∨ (b ∈ B.ml ∧ isD o = true ∧ ∃ od, H b = some (.frz od o))
  dm : ∀ b, B.H0 b ≠ none → H b ≠ none
  pk : ∀ p ∈ B.ps, B.H0 p ≠ none
  len : r.length = σ.length
  sl : ∀ (i : Nat) (s : Sl), r[i]? = some s → SlOk B F H σ[i]? s
  dj : ∀ (i j : Nat) (s t : Sl) (p : Addr), i ≠ j → r[i]? = some s → r[j]? = some t → s.isOwn = true → t.isOwn = true → σ[i]? = some (some (.ref p)) → σ[j]? = some (some (.ref p)) → False

structure Stp (O : Addr → Prop) (F H F' H' : Hp) : Prop where
  f : Same F F'
  nw : ∀ b o, F' b = some o → F b = some o ∨ H b = none ∨ O b
  kp : ∀ b o, H b = some o → ¬ O b → H' b = some o
  dm : ∀ b, H b ≠ none → H' b ≠ none
theorem Stp.refl (O : Addr → Prop) (F H : Hp) : Stp O F H F H := ⟨fun _ _ h => h, fun _ _ h => .inl h, fun _ _ h _ => h, fun _ h => h⟩
theorem Stp.trans {O O' : Addr → Prop} {F H F1 H1 F2 H2 : Hp} (a : Stp O F H F1 H1) (b : Stp O' F1 H1 F2 H2) (h : ∀ x, O' x → O x) : Stp O F H F2 H2 where
  f := fun x o e => b.f x o (a.f x o e)
  nw := fun x o e => by
    rcases b.nw x o e with z | z | z
    · exact a.nw x o z
    · refine .inr (.inl ?_)
      cases q : H x with
      | none => rfl
      | some o' => exact absurd z (a.dm x (by rw [q]; intro y; cases y))
    · exact .inr (.inr (h x z))
  kp := fun x o e n => b.kp x o (a.kp x o e n) fun z => n (h x z)
  dm := fun x e => b.dm x (a.dm x e)
theorem Stp.mono {O O' : Addr → Prop} {F H F1 H1 : Hp} (a : Stp O F H F1 H1) (h : ∀ x, O x → O' x) : Stp O' F H F1 H1 :=
  ⟨a.f, fun x o e => (a.nw x o e).imp id (.imp id (h x)), fun x o e n => a.kp x o e fun z => n (h x z), a.dm⟩

section
variable {B : Bs} {r r' : List Sl} {σ σ' : L2.St} {F H F' H' : Hp} {p : Addr} {o : HO}
theorem Ok.h0 (k : Ok B r σ F H) (h : H p = none) : B.H0 p = none := by
  cases q : B.H0 p with
  | none => rfl
  | some o => exact absurd h (k.dm p (by rw [q]; intro z; cases z))
theorem Ok.owned (k : Ok B r σ F H) (h : Owned r σ p) : F p = none ∧ ∃ o, H p = some o := by
  obtain ⟨i, s, e, ow, z⟩ := h
  have q := k.sl i s e
  cases s with
  | un => cases ow
  | dat P => cases ow
  | own C =>
    obtain ⟨p', o, e1, e2, e3, _⟩ := q
    rw [z] at e1; cases e1
    exact ⟨e2, o, e3⟩
  | io j C =>
    obtain ⟨p', o, e1, e2, e3, _⟩ := q
    rw [z] at e1; cases e1
    exact ⟨e2, o, e3⟩
theorem Ok.fresh (k : Ok B r σ F H) (h : H p = none) : F p = none ∧ B.H0 p = none ∧ ¬ Owned r σ p :=
  ⟨k.fh.none h, k.h0 h, fun z => by obtain ⟨_, o, e⟩ := k.owned z; rw [h] at e; cases e⟩
theorem SlOk.step {x : Option (Option V)} {s : Sl} (q : SlOk B F H x s) (st : Same F F') (hk : s.isOwn = true → ∀ p o, x = some (some (.ref p)) → F p = none → H p = some o → F' p = none ∧ H' p = some o) : SlOk B F' H' x s := by
  cases s with
  | un => trivial
  | dat P =>
    obtain ⟨v, e, h⟩ := q
    exact ⟨v, e, P.mono st h⟩
  | own C =>
    obtain ⟨p, o, e1, e2, e3, e4, e5⟩ := q
    obtain ⟨z1, z2⟩ := hk rfl p o e1 e2 e3
    exact ⟨p, o, e1, z1, z2, C.mono st e4, e5⟩
  | io j C =>
    obtain ⟨p, o, e1, e2, e3, e4, e5⟩ := q
    obtain ⟨z1, z2⟩ := hk rfl p o e1 e2 e3
    exact ⟨p, o, e1, z1, z2, C.mono st e4, e5⟩
/-- new frozen things, nothing changed -/
theorem Ok.step {O : Addr → Prop} (k : Ok B r σ F H) (st : Stp O F H F' H') (hO : ∀ x, O x → H x ≠ none ∧ B.H0 x = none ∧ ¬ Owned r σ x) (fh : Fh B.lk F' H') : Ok B r σ F' H' where
  fh := fh
  f0 := fun b o e => st.f b o (k.f0 b o e)
  nw := fun b o e => by
    rcases st.nw b o e with z | z | z
    · exact k.nw b o z
    · exact .inr (k.h0 z)
    · exact .inr (hO b z).2.1
  kp := fun b o e n => by
    have nO : ¬ O b := fun z => by rw [(hO b z).2.1] at e; cases e
    rcases k.kp b o e n with z | ⟨z1, z2, od, z⟩
    · exact .inl (st.kp b o z nO)
    · exact .inr ⟨z1, z2, od, st.kp b _ z nO⟩
  dm := fun b e => st.dm b (k.dm b e)
  pk := k.pk
  len := k.len
  sl := fun i s e => (k.sl i s e).step st.f fun ow p o e1 e2 e3 => by
    have w : Owned r σ p := ⟨i, s, e, ow, e1⟩
    refine ⟨?_, st.kp p o e3 fun z => (hO p z).2.2 w⟩
    cases q : F' p with
    | none => rfl
    | some u =>
      rcases st.nw p u q with z | z | z
      · rw [e2] at z; cases z
      · rw [e3] at z; cases z
      · exact absurd w (hO p z).2.2
  dj := k.dj
end

/-! ### what an expression leaves -/
structure Post (B : Bs) (r : List Sl) (σ : L2.St) (F H : Hp) (r' : List Sl) (F' H' : Hp) : Prop where
  ok : Ok B r' σ F' H'
  st : Stp (Owned r σ) F H F' H'
  ow : ∀ b, Owned r' σ b → Owned r σ b
theorem Post.refl {B : Bs} {r : List Sl} {σ : L2.St} {F H : Hp} (k : Ok B r σ F H) : Post B r σ F H r F H := ⟨k, Stp.refl _ _ _, fun _ h => h⟩
theorem Post.trans {B : Bs} {r r1 r2 : List Sl} {σ : L2.St} {F H F1 H1 F2 H2 : Hp} (a : Post B r σ F H r1 F1 H1) (b : Post B r1 σ F1 H1 r2 F2 H2) : Post B r σ F H r2 F2 H2 :=
  ⟨b.ok, a.st.trans b.st a.ow, fun x h => a.ow x (b.ow x h)⟩

inductive Rk where
  | dat (P : Pd)
  | slot (i : Nat)
  | new (C : Ct)
/-- v is such a result, of an evaluation that began at Hs -/
def RkOk (r : List Sl) (Hs : Hp) (σ : L2.St) (F H : Hp) (v : V) : Rk → Prop
  | .dat P => P.p F v
  | .slot i => σ[i]? = some (some v)
  | .new C => ∃ p o, v = .ref p ∧ F p = none ∧ H p = some o ∧ C.c F o ∧ Hs p = none ∧ ¬ Owned r σ p
theorem RkOk.step {B : Bs} {r1 r2 : List Sl} {σ : L2.St} {Hs F1 H1 F2 H2 : Hp} {v : V} {x : Rk} (h : RkOk r1 Hs σ F1 H1 v x) (b : Post B r1 σ F1 H1 r2 F2 H2) : RkOk r2 Hs σ F2 H2 v x := by
  cases x with
  | dat P => exact P.mono b.st.f h
  | slot i => exact h
  | new C =>
    obtain ⟨p, o, e1, e2, e3, e4, e5, e6⟩ := h
    refine ⟨p, o, e1, ?_, b.st.kp p o e3 e6, C.mono b.st.f e4, e5, fun z => e6 (b.ow p z)⟩
    cases q : F2 p with
    | none => rfl
    | some u =>
      rcases b.st.nw p u q with z | z | z
      · rw [e2] at z; cases z
      · rw [e3] at z; cases z
      · exact absurd z e6
theorem RkOk.back {r : List Sl} {Hs Hs' : Hp} {σ : L2.St} {F H : Hp} {v : V} {x : Rk} (h : RkOk r Hs σ F H v x) (e : ∀ b, Hs' b ≠ none → Hs b ≠ none) : RkOk r Hs' σ F H v x := by
  cases x with
  | dat P => exact h
  | slot i => exact h
  | new C =>
    obtain ⟨p, o, e1, e2, e3, e4, e5, e6⟩ := h
    refine ⟨p, o, e1, e2, e3, e4, ?_, e6⟩
    cases q : Hs' p with
    | none => rfl
    | some u => exact absurd e5 (e p (by rw [q]; intro z; cases z))

/-! ### the readings that stand for a typed evaluation -/
def tcan (B : Bs) (r : List Sl) (x : Rk) (r' : List Sl) : TE := fun σ H Q => ∃ F, Ok B r σ F H ∧ ∀ v F' H', Post B r σ F H r' F' H' → RkOk r' H σ F' H' v x → Q v H'
def ttan (B : Bs) (r : List Sl) (b : Bool) (r' : List Sl) : TT := fun σ H Q => ∃ F, Ok B r σ F H ∧ ∀ F' H', Post B r σ F H r' F' H' → Q b H'
def tacan (B : Bs) (r : List Sl) (xs : List Rk) (r' : List Sl) : TA := fun σ H Q => ∃ F, Ok B r σ F H ∧ ∀ vs F' H', Post B r σ F H r' F' H' → Paired (RkOk r' H σ F' H') vs xs → Q vs H'

def Ex (X : Cx) (B : Bs) (e : Expr) (r : List Sl) (x : Rk) (r' : List Sl) : Prop := PE X e (tcan B r x r')
def Tx (X : Cx) (B : Bs) (e : Expr) (r : List Sl) (b : Bool) (r' : List Sl) : Prop := PT X e (ttan B r b r')
def Ax (X : Cx) (B : Bs) (es : List Expr) (r : List Sl) (xs : List Rk) (r' : List Sl) : Prop := PA X es (tacan B r xs r')
end DL
namespace L2
open PySem
theorem PE.imp {X : Cx} {e : Expr} {t t' : TE} (h : PE X e t) (i : ∀ σ H Q, t' σ H Q → t σ H Q) : PE X e t' := ⟨fun pins s σ H Q I q => h.run pins s σ H Q I (i σ H Q q)⟩
theorem PT.imp {X : Cx} {e : Expr} {t t' : TT} (h : PT X e t) (i : ∀ σ H Q, t' σ H Q → t σ H Q) : PT X e t' := ⟨fun pins s σ H Q I q => h.run pins s σ H Q I (i σ H Q q)⟩
theorem PW.imp {X : Cx} {e : Expr} {t t' : TT} (h : PW X e t) (i : ∀ σ H Q, t' σ H Q → t σ H Q) : PW X e t' := ⟨fun w pins s σ H Q I q => h.run w pins s σ H Q I (i σ H Q q)⟩
theorem PA.imp {X : Cx} {es : List Expr} {t t' : TA} (h : PA X es t) (i : ∀ σ H Q, t' σ H Q → t σ H Q) : PA X es t' := ⟨fun pos pins s σ H Q I q => h.run pos pins s σ H Q I (i σ H Q q)⟩
theorem PSs.imp {X : Cx} {e : List Stmt} {t t' : TS} (h : PSs X e t) (i : ∀ D σ H, t' D σ H → t D σ H) : PSs X e t' := ⟨fun pins s σ H D I q => h.run pins s σ H D I (i D σ H q)⟩
theorem PS.imp {X : Cx} {e : Stmt} {t t' : TS} (h : PS X e t) (i : ∀ D σ H, t' D σ H → t D σ H) : PS X e t' := ⟨fun pins s σ H D I q => h.run pins s σ H D I (i D σ H q)⟩
end L2
namespace DL
open PySem L2

/-! ### typed data -/
class Rp (α : Type) where
  rp : PySem.W.Frag → Hp → V → α → Prop
  mono : ∀ {K : PySem.W.Frag} {F F' : Hp} {v : V} {x : α}, Same F F' → rp K F v x → rp K F' v x
/-- never None -/
class Nn (α : Type) [Rp α] : Prop where
  nn : ∀ {K : PySem.W.Frag} {F : Hp} {v : V} {x : α}, Rp.rp K F v x → v ≠ .non
def is (K : PySem.W.Frag) {α : Type} [Rp α] (x : α) : Pd := ⟨fun F v => Rp.rp K F v x, fun e h => Rp.mono e h⟩
abbrev All2 {α : Type} [Rp α] (K : PySem.W.Frag) (F : Hp) (vs : List V) (xs : List α) : Prop := Paired (fun v x => Rp.rp K F v x) vs xs
theorem All2.mono {α : Type} [Rp α] {K : PySem.W.Frag} {F F' : Hp} {vs : List V} {xs : List α} (e : Same F F') (h : All2 K F vs xs) : All2 K F' vs xs := Paired.mapP h fun _ _ q => Rp.mono e q
instance : Rp Int := ⟨fun _ _ v x => v = .int x, fun _ h => h⟩
instance : Rp Nat := ⟨fun _ _ v x => v = .int (x : Int), fun _ h => h⟩
instance : Rp Bool := ⟨fun _ _ v x => v = .bl x, fun _ h => h⟩
instance : Rp Str := ⟨fun _ _ v x => v = .str x, fun _ h => h⟩
instance : Rp Unit := ⟨fun _ _ v _ => v = .non, fun _ h => h⟩
instance {α : Type} [Rp α] : Rp (Option α) := ⟨fun K F v x => match x with
  | none => v = .non
  | some y => Rp.rp K F v y, fun {K F F' v x} e h => by
    cases x with
    | none => exact h
    | some y => exact Rp.mono e h⟩
instance {α : Type} [Rp α] : Rp (List α) := ⟨fun K F v xs => ∃ a vs, v = .ref a ∧ F a = some (.lst vs) ∧ All2 K F vs xs, fun e ⟨a, vs, e1, e2, e3⟩ => ⟨a, vs, e1, e _ _ e2, e3.mono e⟩⟩
theorem sqt_same {K : PySem.W.Frag} {F F' : Hp} {a : Addr} {xs : List V} (e : Same F F') (h : SqT K F a xs) : SqT K F' a xs := Evl.ex_t e h
instance {α β : Type} [Rp α] [Rp β] : Rp (α × β) := ⟨fun K F v x => ∃ a u w, v = .ref a ∧ SqT K F a [u, w] ∧ Rp.rp K F u x.1 ∧ Rp.rp K F w x.2, fun e ⟨a, u, w, e1, e2, e3, e4⟩ => ⟨a, u, w, e1, sqt_same e e2, Rp.mono e e3, Rp.mono e e4⟩⟩
/-- a tuple of three -/
structure T3 (α β γ : Type) where
  a : α
  b : β
  c : γ
  deriving DecidableEq
instance {α β γ : Type} [Rp α] [Rp β] [Rp γ] : Rp (T3 α β γ) := ⟨fun K F v x => ∃ a u w z, v = .ref a ∧ SqT K F a [u, w, z] ∧ Rp.rp K F u x.a ∧ Rp.rp K F w x.b ∧ Rp.rp K F z x.c,
  fun e ⟨a, u, w, z, e1, e2, e3, e4, e5⟩ => ⟨a, u, w, z, e1, sqt_same e e2, Rp.mono e e3, Rp.mono e e4, Rp.mono e e5⟩⟩
/-- a tuple of any length, its items of one kind -/
structure Tp (α : Type) where
  l : List α
instance {α : Type} [Rp α] : Rp (Tp α) := ⟨fun K F v x => ∃ a vs, v = .ref a ∧ SqT K F a vs ∧ All2 K F vs x.l, fun e ⟨a, vs, e1, e2, e3⟩ => ⟨a, vs, e1, sqt_same e e2, e3.mono e⟩⟩
/-- the script: a list of ints that is only read -/
structure Scr where
  l : List Int
instance : Rp Scr := ⟨fun K F v x => ∃ a, v = .ref a ∧ SqL K F a (x.l.map V.int), fun e ⟨a, e1, e2⟩ => ⟨a, e1, Evl.ex_l e e2⟩⟩
/-- a dict with int or text keys -/
structure Dc (β : Type) where
  l : List (Key × β)
abbrev KAll {β : Type} [Rp β] (K : PySem.W.Frag) (F : Hp) (vs : List (Key × V)) (xs : List (Key × β)) : Prop := Paired (fun v x => v.1 = x.1 ∧ Rp.rp K F v.2 x.2) vs xs
theorem KAll.mono {β : Type} [Rp β] {K : PySem.W.Frag} {F F' : Hp} {vs : List (Key × V)} {xs : List (Key × β)} (e : Same F F') (h : KAll K F vs xs) : KAll K F' vs xs := Paired.mapP h fun _ _ q => ⟨q.1, Rp.mono e q.2⟩
instance {β : Type} [Rp β] : Rp (Dc β) := ⟨fun K F v x => ∃ a kvs, v = .ref a ∧ F a = some (.dK kvs) ∧ KAll K F kvs x.l, fun e ⟨a, kvs, e1, e2, e3⟩ => ⟨a, kvs, e1, e _ _ e2, e3.mono e⟩⟩

instance : Nn Int := ⟨fun h => by rw [show _ = _ from h]; intro z; cases z⟩
instance : Nn Nat := ⟨fun h => by rw [show _ = _ from h]; intro z; cases z⟩
instance : Nn Bool := ⟨fun h => by rw [show _ = _ from h]; intro z; cases z⟩
instance : Nn Str := ⟨fun h => by rw [show _ = _ from h]; intro z; cases z⟩
instance {α : Type} [Rp α] : Nn (List α) := ⟨fun ⟨_, _, h, _⟩ => by rw [h]; intro z; cases z⟩
instance {α β : Type} [Rp α] [Rp β] : Nn (α × β) := ⟨fun ⟨_, _, _, h, _⟩ => by rw [h]; intro z; cases z⟩
instance {α β γ : Type} [Rp α] [Rp β] [Rp γ] : Nn (T3 α β γ) := ⟨fun ⟨_, _, _, _, h, _⟩ => by rw [h]; intro z; cases z⟩
instance {α : Type} [Rp α] : Nn (Tp α) := ⟨fun ⟨_, _, h, _⟩ => by rw [h]; intro z; cases z⟩
instance {β : Type} [Rp β] : Nn (Dc β) := ⟨fun ⟨_, _, h, _⟩ => by rw [h]; intro z; cases z⟩

/-! ### contents -/
def lstC (K : PySem.W.Frag) {α : Type} [Rp α] (xs : List α) : Ct := ⟨fun F o => ∃ vs, o = .lst vs ∧ All2 K F vs xs, fun e ⟨vs, e1, e2⟩ => ⟨vs, e1, e2.mono e⟩⟩
def tupC (K : PySem.W.Frag) {α : Type} [Rp α] (xs : List α) : Ct := ⟨fun F o => ∃ vs, o = .tup vs ∧ All2 K F vs xs, fun e ⟨vs, e1, e2⟩ => ⟨vs, e1, e2.mono e⟩⟩
def dicC (K : PySem.W.Frag) {β : Type} [Rp β] (xs : List (Key × β)) : Ct := ⟨fun F o => ∃ kvs, o = .dK kvs ∧ KAll K F kvs xs, fun e ⟨kvs, e1, e2⟩ => ⟨kvs, e1, e2.mono e⟩⟩

theorem Paired.get {α β : Type} {R : α → β → Prop} : ∀ {xs : List α} {ys : List β} {i : Nat} {y : β}, Paired R xs ys → ys[i]? = some y → ∃ x, xs[i]? = some x ∧ R x y
  | _, _, _, _, .nil, e => by simp at e
  | _, _, 0, _, .cons r _, e => by simp at e; subst e; exact ⟨_, rfl, r⟩
  | _, _, i + 1, y, .cons _ t, e => by
    obtain ⟨u, h1, h2⟩ := Paired.get (i := i) (y := y) t (by simpa using e)
    exact ⟨u, by simpa using h1, h2⟩
theorem Paired.append {α β : Type} {R : α → β → Prop} : ∀ {xs xs' : List α} {ys ys' : List β}, Paired R xs ys → Paired R xs' ys' → Paired R (xs ++ xs') (ys ++ ys')
  | _, _, _, _, .nil, h => h
  | _, _, _, _, .cons r t, h => .cons r (Paired.append t h)

/-! ### steps of the heap that evaluations take -/
section
variable {B : Bs} {r r' : List Sl} {σ σ' : L2.St} {F H F' H' : Hp} {p : Addr} {o : HO}
/-- a new object, not yet frozen -/
theorem Post.alloc (k : Ok B r σ F H) (hp : H p = none) : Post B r σ F H r F (upd H p o) := by
  have st : Stp (fun _ => False) F H F (upd H p o) := ⟨fun _ _ e => e, fun _ _ e => .inl e, fun b u e _ => by rw [upd_ne (ne_of_none e hp)]; exact e, fun b e => by
    by_cases hb : b = p
    · rw [hb, upd_same]; intro z; cases z
    · rw [upd_ne hb]; exact e⟩
  refine ⟨k.step st (fun _ z => z.elim) fun a u e => ?_, st.mono fun _ z => z.elim, fun _ z => z⟩
  have ne : a ≠ p := fun z => by rw [z, (k.fresh hp).1] at e; cases e
  rw [upd_ne ne]
  exact k.fh a u e
theorem RkOk.alloc {C : Ct} (k : Ok B r σ F H) (hp : H p = none) (c : C.c F o) : RkOk r H σ F (upd H p o) (.ref p) (.new C) :=
  ⟨p, o, rfl, (k.fresh hp).1, upd_same, c, hp, (k.fresh hp).2.2⟩
/-- what is new and unowned is frozen -/
theorem Post.freeze (k : Ok B r σ F H) {Fs Hs : Hp} {rs : List Sl} (b : Post B rs σ Fs Hs r F H) (e : H p = some o) (hn : F p = none) (hs : Hs p = none) (ho : ¬ Owned r σ p) (h0 : B.H0 p = none) : Post B rs σ Fs Hs r (upd F p o) H := by
  have st : Stp (fun x => x = p) F H (upd F p o) H := ⟨fun a u q => by rw [upd_ne (ne_of_none q hn)]; exact q, fun a u q => by
    by_cases h : a = p
    · exact .inr (.inr h)
    · rw [upd_ne h] at q; exact .inl q, fun _ _ q _ => q, fun _ q => q⟩
  have ok : Ok B r σ (upd F p o) H := k.step st (fun x z => by subst z; exact ⟨(by rw [e]; intro z; cases z), h0, ho⟩) fun a u q => by
    by_cases h : a = p
    · subst h; rw [upd_same] at q; cases q; exact .inl e
    · rw [upd_ne h] at q; exact k.fh a u q
  refine ⟨ok, ⟨fun a u q => ?_, fun a u q => ?_, b.st.kp, b.st.dm⟩, b.ow⟩
  · exact st.f a u (b.st.f a u q)
  · by_cases h : a = p
    · exact .inr (.inl (by rw [h]; exact hs))
    · rw [upd_ne h] at q; exact b.st.nw a u q
/-- a slot that owns becomes data -/
theorem Ok.frz {i : Nat} {C : Ct} {P : Pd} (k : Ok B r σ F H) (e : r[i]? = some (.own C)) (hP : ∀ F' p o, C.c F' o → F' p = some o → P.p F' (.ref p)) : ∃ F', Post B r σ F H (r.set i (.dat P)) F' H := by
  obtain ⟨p, o, e1, e2, e3, e4, e5⟩ := k.sl i _ e
  have hi : i < r.length := (List.getElem?_eq_some_iff.mp e).1
  have st : Stp (fun x => x = p) F H (upd F p o) H := ⟨fun a u q => by rw [upd_ne (ne_of_none q e2)]; exact q, fun a u q => by
    by_cases h : a = p
    · exact .inr (.inr h)
    · rw [upd_ne h] at q; exact .inl q, fun _ _ q _ => q, fun _ q => q⟩
  have ow : ∀ b, Owned (r.set i (.dat P)) σ b → Owned r σ b ∧ b ≠ p := by
    rintro b ⟨j, s, q1, q2, q3⟩
    by_cases hj : i = j
    · subst hj
      rw [List.getElem?_set_self hi] at q1; cases q1; cases q2
    · rw [List.getElem?_set_ne hj] at q1
      exact ⟨⟨j, s, q1, q2, q3⟩, fun z => k.dj i j _ s p hj e q1 rfl q2 e1 (by rw [← z]; exact q3)⟩
  refine ⟨upd F p o, ⟨⟨fun a u q => ?_, fun b u q => st.f b u (k.f0 b u q), fun b u q => ?_, k.kp, k.dm, k.pk, by rw [List.length_set]; exact k.len, fun j s q => ?_, fun j j' s t q hne h1 h2 h3 h4 => ?_⟩, st.mono fun x z => ⟨i, _, e, rfl, by rw [z]; exact e1⟩, fun b z => (ow b z).1⟩⟩
  · by_cases h : a = p
    · subst h; rw [upd_same] at q; cases q; exact .inl e3
    · rw [upd_ne h] at q; exact k.fh a u q
  · by_cases h : b = p
    · exact .inr (by rw [h]; exact e5)
    · rw [upd_ne h] at q; exact k.nw b u q
  · by_cases hj : i = j
    · subst hj
      rw [List.getElem?_set_self hi] at q; cases q
      exact ⟨_, e1, hP _ _ _ (C.mono st.f e4) upd_same⟩
    · rw [List.getElem?_set_ne hj] at q
      refine (k.sl j s q).step st.f fun hs p' o' q1 q2 q3 => ⟨?_, q3⟩
      have ne : p' ≠ p := fun z => k.dj i j _ s p hj e q rfl hs e1 (by rw [← z]; exact q1)
      rw [upd_ne ne]; exact q2
  · have aux : ∀ (j : Nat) (s : Sl), (r.set i (.dat P))[j]? = some s → s.isOwn = true → r[j]? = some s := fun j s q z => by
      by_cases hj : i = j
      · subst hj
        rw [List.getElem?_set_self hi] at q; cases q; cases z
      · rw [List.getElem?_set_ne hj] at q; exact q
    exact k.dj j j' s t q hne (aux j s h1 h3) (aux j' t h2 h4) h3 h4
/-- the content of a slot that owns is written -/
theorem Ok.write {i : Nat} {s : Sl} {C' : Ct} {o' : HO} (k : Ok B r σ F H) (e : r[i]? = some s) (hs : s.isOwn = true) (e1 : σ[i]? = some (some (.ref p))) (c : C'.c F o') : Post B r σ F H (r.set i (s.put C')) F (upd H p o') := by
  have hi : i < r.length := (List.getElem?_eq_some_iff.mp e).1
  have w : Owned r σ p := ⟨i, s, e, hs, e1⟩
  obtain ⟨n1, o, h1⟩ := k.owned w
  have ow : ∀ (j : Nat) (t : Sl), (r.set i (s.put C'))[j]? = some t → t.isOwn = true → ∃ t' : Sl, r[j]? = some t' ∧ t'.isOwn = true := fun j t q z => by
    by_cases hj : i = j
    · subst hj; exact ⟨s, e, hs⟩
    · rw [List.getElem?_set_ne hj] at q; exact ⟨t, q, z⟩
  have hd : ∀ b, b ≠ p → H b = (upd H p o') b := fun b h => (upd_ne h).symm
  have dm : ∀ b, H b ≠ none → (upd H p o') b ≠ none := fun b q => by
    by_cases h : b = p
    · rw [h, upd_same]; intro z; cases z
    · rw [upd_ne h]; exact q
  refine ⟨⟨fun a u q => ?_, k.f0, k.nw, fun b u q n => ?_, fun b q => dm b (k.dm b q), k.pk, by rw [List.length_set]; exact k.len, fun j t q => ?_, fun j j' t t' q hne g1 g2 g3 g4 => ?_⟩, ⟨fun _ _ q => q, fun _ _ q => .inl q, fun b u q n => ?_, dm⟩, fun b z => ?_⟩
  · have ne : a ≠ p := fun z => by rw [z, n1] at q; cases q
    rw [upd_ne ne]; exact k.fh a u q
  · by_cases h : b = p
    · exfalso
      have sl := k.sl i s e
      cases s with
      | un => cases hs
      | dat P => cases hs
      | own C =>
        obtain ⟨p', _, q1, _, _, _, q5⟩ := sl
        rw [e1] at q1; cases q1
        rw [h, q5] at q; cases q
      | io j C =>
        obtain ⟨p', _, q1, _, _, _, q5⟩ := sl
        rw [e1] at q1; cases q1
        exact n (by rw [h]; exact List.mem_of_getElem? q5)
    · rw [upd_ne h]; exact k.kp b u q n
  · by_cases hj : i = j
    · subst hj
      rw [List.getElem?_set_self hi] at q; cases q
      have sl := k.sl i s e
      cases s with
      | un => cases hs
      | dat P => cases hs
      | own C =>
        obtain ⟨p', _, q1, _, _, _, q5⟩ := sl
        rw [e1] at q1; cases q1
        exact ⟨p, o', e1, n1, upd_same, c, q5⟩
      | io j C =>
        obtain ⟨p', _, q1, _, _, _, q5⟩ := sl
        rw [e1] at q1; cases q1
        exact ⟨p, o', e1, n1, upd_same, c, q5⟩
    · rw [List.getElem?_set_ne hj] at q
      refine (k.sl j t q).step (fun _ _ z => z) fun ht p' u q1 q2 q3 => ⟨q2, ?_⟩
      have ne : p' ≠ p := fun z => k.dj i j s t p hj e q hs ht e1 (by rw [← z]; exact q1)
      rw [upd_ne ne]; exact q3
  · obtain ⟨u, u1, u2⟩ := ow j t g1 g3
    obtain ⟨u', u3, u4⟩ := ow j' t' g2 g4
    exact k.dj j j' u u' q hne u1 u3 u2 u4
  · have ne : b ≠ p := fun z => n (by rw [z]; exact w)
    rw [upd_ne ne]; exact q
  · obtain ⟨j, t, q1, q2, q3⟩ := z
    obtain ⟨u, u1, u2⟩ := ow j t q1 q2
    exact ⟨j, u, u1, u2, q3⟩
/-- a name is stored -/
theorem Ok.store {i : Nat} {v : V} {s : Sl} (k : Ok B r σ F H) (hs : SlOk B F H (some (some v)) s) (hd : s.isOwn = true → ∀ p, v = .ref p → ∀ (j : Nat) (t : Sl), j ≠ i → r[j]? = some t → t.isOwn = true → σ[j]? = some (some (.ref p)) → False) : Ok B (r.set i s) (σ.set i (some v)) F H := by
  refine ⟨k.fh, k.f0, k.nw, k.kp, k.dm, k.pk, by rw [List.length_set, List.length_set]; exact k.len, fun j t q => ?_, fun j j' t t' q hne g1 g2 g3 g4 e1 e2 => ?_⟩
  · by_cases hj : i = j
    · subst hj
      have hi : i < r.length := by
        have z := (List.getElem?_eq_some_iff.mp q).1
        rwa [List.length_set] at z
      rw [List.getElem?_set_self hi] at q; cases q
      rw [List.getElem?_set_self (by rw [← k.len]; exact hi)]
      exact hs
    · rw [List.getElem?_set_ne hj] at q
      rw [List.getElem?_set_ne hj]
      exact k.sl j t q
  · have hlen : ∀ (j : Nat) (t : Sl), (r.set i s)[j]? = some t → j < r.length := fun j t q => by
      have z := (List.getElem?_eq_some_iff.mp q).1
      rwa [List.length_set] at z
    by_cases hj : i = j
    · subst hj
      have hi := hlen _ _ g1
      rw [List.getElem?_set_self hi] at g1; cases g1
      rw [List.getElem?_set_self (by rw [← k.len]; exact hi)] at e1
      rw [List.getElem?_set_ne hne] at g2 e2
      exact hd g3 q (Option.some.inj (Option.some.inj e1)) j' t' (Ne.symm hne) g2 g4 e2
    · rw [List.getElem?_set_ne hj] at g1 e1
      by_cases hj' : i = j'
      · subst hj'
        have hi := hlen _ _ g2
        rw [List.getElem?_set_self hi] at g2; cases g2
        rw [List.getElem?_set_self (by rw [← k.len]; exact hi)] at e2
        exact hd g4 q (Option.some.inj (Option.some.inj e2)) j t (fun z => hj z.symm) g1 g3 e1
      · rw [List.getElem?_set_ne hj'] at g2 e2
        exact k.dj j j' t t' q hne g1 g2 g3 g4 e1 e2
end
end DL

/-! DLExpr: typed rules for expressions -/
namespace DL
open PySem L2

/-! ### families of outcomes: for draws -/
def tcanS (B : Bs) (r : List Sl) {S : Type} (c : S → Prop) (x : S → Rk) (r' : S → List Sl) : TE := fun σ H Q => ∃ F, Ok B r σ F H ∧ ∀ s v F' H', c s → Post B r σ F H (r' s) F' H' → RkOk (r' s) H σ F' H' v (x s) → Q v H'
def ExS (X : Cx) (B : Bs) (e : Expr) (r : List Sl) {S : Type} (c : S → Prop) (x : S → Rk) (r' : S → List Sl) : Prop := PE X e (tcanS B r c x r')

section
variable {X : Cx} {B : Bs} {e a b : Expr} {r r1 r2 r3 : List Sl} {x y z ra rb rz : Rk} {pos : Pos}
theorem Ex.s (h : Ex X B e r x r1) : ExS X B e r (S := Unit) (fun _ => True) (fun _ => x) (fun _ => r1) := PE.imp h fun σ H Q ⟨F, k, q⟩ => ⟨F, k, fun v F' H' p w => q () v F' H' trivial p w⟩
theorem ExS.det {S : Type} {c : S → Prop} (h : ExS X B e r c (fun _ => x) (fun _ => r1)) : Ex X B e r x r1 := PE.imp h fun σ H Q ⟨F, k, q⟩ => ⟨F, k, fun s v F' H' _ p w => q v F' H' p w⟩
theorem ExS.map {S S' : Type} {c : S → Prop} {c' : S' → Prop} {f : S → Rk} {g : S → List Sl} {f' : S' → Rk} {g' : S' → List Sl} (h : ExS X B e r c f g) (m : ∀ s, c s → ∃ s', c' s' ∧ f' s' = f s ∧ g' s' = g s) : ExS X B e r c' f' g' :=
  PE.imp h fun σ H Q ⟨F, k, q⟩ => ⟨F, k, fun s v F' H' cs p w => by
    obtain ⟨s', h1, h2, h3⟩ := m s cs
    exact q s' v F' H' h1 (by rw [h3]; exact p) (by rw [h2, h3]; exact w)⟩

theorem post_back {σ : L2.St} {F H F' H' : Hp} (p : Post B r σ F H r1 F' H') : ∀ b, H b ≠ none → H' b ≠ none := p.st.dm

/-- what is asked by values: from any state, an end of the kind x is enough -/
abbrev Vl (B : Bs) (r : List Sl) (σ : L2.St) (F H : Hp) (z : Rk) (k : VK → Prop) : Prop := ∀ Q : VK, (∀ v F' H', Post B r σ F H r F' H' → RkOk r H σ F' H' v z → Q v H') → k Q
theorem vl_val {σ : L2.St} {F H : Hp} {P : Pd} {v : V} {k : VK → Prop} (ok : Ok B r σ F H) (hp : P.p F v) (hk : ∀ Q : VK, Q v H → k Q) : Vl B r σ F H (.dat P) k := fun Q q => hk Q (q v F H (Post.refl ok) hp)
theorem vl_new {σ : L2.St} {F H : Hp} {C : Ct} {o : HO} {k : VK → Prop} (ok : Ok B r σ F H) (hc : C.c F o) (hk : ∀ Q : VK, (∀ p, H p = none → Q (.ref p) (upd H p o)) → k Q) : Vl B r σ F H (.new C) k := fun Q q => hk Q fun p hp =>
  q (.ref p) F (upd H p o) (Post.alloc ok hp) (RkOk.alloc ok hp hc)

/-- two operands, then an operation by values -/
theorem exs_bin {rr : R2} {S S' : Type} {c : S → Prop} {c' : S → S' → Prop} {xa : S → Rk} {g1 : S → List Sl} {xb : S → S' → Rk} {g2 : S → S' → List Sl} {xz : S → S' → Rk} {ta tb : S → TE}
    (hp : ∀ {ta tb : TE}, PE X a ta → PE X b tb → PE X e (tOp rr ta tb)) (ha : ExS X B a r c xa g1) (hb : ∀ s, c s → ExS X B b (g1 s) (c' s) (xb s) (g2 s))
    (hv : ∀ s s' σ Hs F H u v, c s → c' s s' → Ok B (g2 s s') σ F H → RkOk (g2 s s') Hs σ F H u (xa s) → RkOk (g2 s s') Hs σ F H v (xb s s') → Vl B (g2 s s') σ F H (xz s s') (rr u v H)) :
    ExS X B e r (S := S × S') (fun s => c s.1 ∧ c' s.1 s.2) (fun s => xz s.1 s.2) (fun s => g2 s.1 s.2) := by
  -- the second operand's rule for any first outcome
  have hb' : PE X b (fun σ H Q => ∃ s F, c s ∧ Ok B (g1 s) σ F H ∧ ∀ s' v F' H', c' s s' → Post B (g1 s) σ F H (g2 s s') F' H' → RkOk (g2 s s') H σ F' H' v (xb s s') → Q v H') :=
    ⟨fun pins st σ H Q I ⟨s, F, cs, k, q⟩ => (hb s cs).run pins st σ H Q I ⟨F, k, q⟩⟩
  refine (hp ha hb').imp fun σ H Q ⟨F, k, q⟩ => ⟨F, k, fun s u F1 H1 cs p1 w1 => ⟨s, F1, cs, p1.ok, fun s' v F2 H2 cs' p2 w2 => ?_⟩⟩
  refine hv s s' σ H F2 H2 u v cs cs' p2.ok (w1.step p2) (w2.back p1.st.dm) Q fun z F3 H3 p3 w3 => ?_
  exact q (s, s') z F3 H3 ⟨cs, cs'⟩ ((p1.trans p2).trans p3) (w3.back (p1.trans p2).st.dm)
theorem ex_bin {rr : R2} (hp : ∀ {ta tb : TE}, PE X a ta → PE X b tb → PE X e (tOp rr ta tb)) (ha : Ex X B a r ra r1) (hb : Ex X B b r1 rb r2)
    (hv : ∀ σ Hs F H u v, Ok B r2 σ F H → RkOk r2 Hs σ F H u ra → RkOk r2 Hs σ F H v rb → Vl B r2 σ F H rz (rr u v H)) : Ex X B e r rz r2 := by
  refine (hp ha hb).imp fun σ H Q ⟨F, k, q⟩ => ⟨F, k, fun u F1 H1 p1 w1 => ⟨F1, p1.ok, fun v F2 H2 p2 w2 => ?_⟩⟩
  refine hv σ H F2 H2 u v p2.ok (w1.step p2) (w2.back p1.st.dm) Q fun z F3 H3 p3 w3 => ?_
  exact q z F3 H3 ((p1.trans p2).trans p3) (w3.back (p1.trans p2).st.dm)
theorem ex_un {rr : V → Hp → VK → Prop} (hp : ∀ {ta : TE}, PE X a ta → PE X e (tUn rr ta)) (ha : Ex X B a r ra r1)
    (hv : ∀ σ Hs F H u, Ok B r1 σ F H → RkOk r1 Hs σ F H u ra → Vl B r1 σ F H rz (rr u H)) : Ex X B e r rz r1 := by
  refine (hp ha).imp fun σ H Q ⟨F, k, q⟩ => ⟨F, k, fun u F1 H1 p1 w1 => ?_⟩
  exact hv σ H F1 H1 u p1.ok w1 Q fun z F3 H3 p3 w3 => q z F3 H3 (p1.trans p3) (w3.back p1.st.dm)

/-! ### names, constants -/
theorem ex_var {i : Nat} {P : Pd} (h : PE X e (tVar i)) (hr : r[i]? = some (.dat P)) : Ex X B e r (.dat P) r := PE.imp h fun σ H Q ⟨F, k, q⟩ => by
  obtain ⟨v, e, hp⟩ := k.sl i _ hr
  exact ⟨v, e, q v F H (Post.refl k) hp⟩
theorem ex_own {i : Nat} {s : Sl} (h : PE X e (tVar i)) (hr : r[i]? = some s) (hs : s.isOwn = true := by rfl) : Ex X B e r (.slot i) r := PE.imp h fun σ H Q ⟨F, k, q⟩ => by
  have z := k.sl i _ hr
  cases s with
  | un => cases hs
  | dat P => cases hs
  | own C =>
    obtain ⟨p, o, e, _⟩ := z
    exact ⟨_, e, q _ F H (Post.refl k) e⟩
  | io j C =>
    obtain ⟨p, o, e, _⟩ := z
    exact ⟨_, e, q _ F H (Post.refl k) e⟩
theorem ex_c {v : V} {P : Pd} (h : PE X e (tC v)) (hp : ∀ F, P.p F v) : Ex X B e r (.dat P) r := PE.imp h fun σ H Q ⟨F, k, q⟩ => q v F H (Post.refl k) (hp F)
theorem ex_int {i : Int} {j} : Ex X B (.Constant (.int i) j pos) r (.dat (is X.K i)) r := ex_c pe_int fun _ => rfl
theorem ex_bl {i : Bool} {j} : Ex X B (.Constant (.bool i) j pos) r (.dat (is X.K i)) r := ex_c pe_bl fun _ => rfl
theorem ex_str {i : Str} {j} : Ex X B (.Constant (.str i) j pos) r (.dat (is X.K i)) r := ex_c pe_str fun _ => rfl
theorem ex_non {j} {α : Type} [Rp α] : Ex X B (.Constant .none j pos) r (.dat (is X.K (none : Option α))) r := ex_c pe_non fun _ => rfl
theorem ex_unit {j} : Ex X B (.Constant .none j pos) r (.dat (is X.K ())) r := ex_c pe_non fun _ => rfl

/-! ### casts -/
theorem ex_eq {α : Type} [Rp α] {u v : α} (h : Ex X B e r (.dat (is X.K u)) r1) (q : u = v) : Ex X B e r (.dat (is X.K v)) r1 := by rw [← q]; exact h
theorem ex_imp {P P' : Pd} (h : Ex X B e r (.dat P) r1) (q : ∀ F v, P.p F v → P'.p F v) : Ex X B e r (.dat P') r1 := PE.imp h fun σ H Q ⟨F, k, z⟩ => ⟨F, k, fun v F' H' p w => z v F' H' p (q F' v w)⟩
theorem ex_some {α : Type} [Rp α] {u : α} (h : Ex X B e r (.dat (is X.K u)) r1) : Ex X B e r (.dat (is X.K (some u))) r1 := ex_imp h fun _ _ q => q
/-- what is new is frozen -/
theorem ex_frz {C : Ct} {P : Pd} (h : Ex X B e r (.new C) r1) (hP : ∀ F p o, C.c F o → F p = some o → P.p F (.ref p)) : Ex X B e r (.dat P) r1 := PE.imp h fun σ H Q ⟨F, k, z⟩ => ⟨F, k, fun v F' H' p w => by
  obtain ⟨a, o, rfl, e2, e3, e4, e5, e6⟩ := w
  have st : Same F' (upd F' a o) := fun b u q => by rw [upd_ne (ne_of_none q e2)]; exact q
  exact z (.ref a) _ H' (Post.freeze p.ok p e3 e2 e5 e6 (k.h0 e5)) (hP _ a o (C.mono st e4) upd_same)⟩
theorem ex_frzL {α : Type} [Rp α] {xs : List α} (h : Ex X B e r (.new (lstC X.K xs)) r1) : Ex X B e r (.dat (is X.K xs)) r1 := ex_frz h fun F p o ⟨vs, e, a⟩ h => ⟨p, vs, rfl, by rw [h, e], a⟩
theorem ex_frzD {α : Type} [Rp α] {xs : List (Key × α)} (h : Ex X B e r (.new (dicC X.K xs)) r1) : Ex X B e r (.dat (is X.K (Dc.mk xs))) r1 := ex_frz h fun F p o ⟨vs, e, a⟩ h => ⟨p, vs, rfl, by rw [h, e], a⟩
theorem ex_frzT {α : Type} [Rp α] {xs : List α} (h : Ex X B e r (.new (tupC X.K xs)) r1) : Ex X B e r (.dat (is X.K (Tp.mk xs))) r1 := ex_frz h fun F p o ⟨vs, e, a⟩ h => ⟨p, vs, rfl, Evl.st_of (by rw [h, e]), a⟩
/-- a slot that owns is frozen ahead of the expression -/
theorem ex_frzS {i : Nat} {C : Ct} {P : Pd} (e1 : r[i]? = some (.own C)) (hP : ∀ F' p o, C.c F' o → F' p = some o → P.p F' (.ref p)) (h : Ex X B e (r.set i (.dat P)) x r1) : Ex X B e r x r1 := PE.imp h fun σ H Q ⟨F, k, z⟩ => by
  obtain ⟨F', p⟩ := k.frz e1 hP
  exact ⟨F', p.ok, fun v F2 H2 p2 w => z v F2 H2 (p.trans p2) w⟩
theorem lst_frz {K : PySem.W.Frag} {α : Type} [Rp α] {xs : List α} : ∀ F' p o, (lstC K xs).c F' o → F' p = some o → (is K xs).p F' (.ref p) := fun F p o ⟨vs, e, a⟩ h => ⟨p, vs, rfl, by rw [h, e], a⟩
theorem dic_frz {K : PySem.W.Frag} {α : Type} [Rp α] {xs : List (Key × α)} : ∀ F' p o, (dicC K xs).c F' o → F' p = some o → (is K (Dc.mk xs)).p F' (.ref p) := fun F p o ⟨vs, e, a⟩ h => ⟨p, vs, rfl, by rw [h, e], a⟩

/-! ### ints -/
def CPowW (i j : Int) : Prop := 0 ≤ j ∧ (Builtin.Int.intBits i : Int) * j ≤ 2 ^ 27
theorem op_powW : OpR X (binaryOp .Pow) (rI CPowW fun i j => .int (i ^ j.toNat)) := opI fun _ _ _ _ _ _ _ hc q => PyProof.Rows.pow_int hc.1 hc.2 q
theorem ex_ii {rr : R2} {γ : Type} [Rp γ] {i j : Int} {w : γ} {g : V} (hp : ∀ {ta tb : TE}, PE X a ta → PE X b tb → PE X e (tOp rr ta tb)) (ha : Ex X B a r (.dat (is X.K i)) r1) (hb : Ex X B b r1 (.dat (is X.K j)) r2)
    (hq : ∀ (H : Hp) (Q : VK), Q g H → rr (.int i) (.int j) H Q) (hg : ∀ F, (is X.K w).p F g) : Ex X B e r (.dat (is X.K w)) r2 :=
  ex_bin hp ha hb fun σ Hs F H u v k hu hv => by
    cases hu; cases hv
    exact vl_val k (hg F) fun Q q => hq H Q q
theorem ex_add {i j : Int} (ha : Ex X B a r (.dat (is X.K i)) r1) (hb : Ex X B b r1 (.dat (is X.K j)) r2) : Ex X B (.BinOp a .Add b pos) r (.dat (is X.K (i + j))) r2 := ex_ii (pe_op op_add) ha hb (fun H Q q => ⟨i, j, rfl, rfl, q⟩) fun _ => rfl
theorem ex_sub {i j : Int} (ha : Ex X B a r (.dat (is X.K i)) r1) (hb : Ex X B b r1 (.dat (is X.K j)) r2) : Ex X B (.BinOp a .Sub b pos) r (.dat (is X.K (i - j))) r2 := ex_ii (pe_op op_sub) ha hb (fun H Q q => ⟨i, j, rfl, rfl, q⟩) fun _ => rfl
theorem ex_mul {i j : Int} (ha : Ex X B a r (.dat (is X.K i)) r1) (hb : Ex X B b r1 (.dat (is X.K j)) r2) (h : CMul i j) : Ex X B (.BinOp a .Mult b pos) r (.dat (is X.K (i * j))) r2 := ex_ii (pe_op op_mul) ha hb (fun H Q q => ⟨i, j, rfl, rfl, h, q⟩) fun _ => rfl
theorem ex_mod {i j : Int} (ha : Ex X B a r (.dat (is X.K i)) r1) (hb : Ex X B b r1 (.dat (is X.K j)) r2) (h : 0 < j) : Ex X B (.BinOp a .Mod b pos) r (.dat (is X.K (i % j))) r2 := ex_ii (pe_op op_mod) ha hb (fun H Q q => ⟨i, j, rfl, rfl, h, q⟩) fun _ => rfl
theorem ex_fdiv {i j : Int} (ha : Ex X B a r (.dat (is X.K i)) r1) (hb : Ex X B b r1 (.dat (is X.K j)) r2) (h : 0 < j ∧ j.natAbs < 1073741824) : Ex X B (.BinOp a .FloorDiv b pos) r (.dat (is X.K (i / j))) r2 := ex_ii (pe_op op_fdivN) ha hb (fun H Q q => ⟨i, j, rfl, rfl, ⟨by omega, h.2⟩, (by show Q (.int (i.fdiv j)) H; rw [Int.fdiv_eq_ediv_of_nonneg _ (by omega)]; exact q)⟩) fun _ => rfl
theorem ex_pow {i j : Int} (ha : Ex X B a r (.dat (is X.K i)) r1) (hb : Ex X B b r1 (.dat (is X.K j)) r2) (h : CPowW i j) : Ex X B (.BinOp a .Pow b pos) r (.dat (is X.K (i ^ j.toNat))) r2 := ex_ii (pe_op op_powW) ha hb (fun H Q q => ⟨i, j, rfl, rfl, h, q⟩) fun _ => rfl
theorem ex_neg {i : Int} (ha : Ex X B a r (.dat (is X.K i)) r1) : Ex X B (.UnaryOp .USub a pos) r (.dat (is X.K (-i))) r1 := ex_un (pe_un un_neg) ha fun σ Hs F H u k hu => by
  cases hu
  exact vl_val k (show (is X.K (-i)).p F (.int (-i)) from rfl) fun Q q => ⟨i, rfl, q⟩
theorem ex_addS {i j : Str} (ha : Ex X B a r (.dat (is X.K i)) r1) (hb : Ex X B b r1 (.dat (is X.K j)) r2) (h : i.length + j.length ≤ sizeLine) : Ex X B (.BinOp a .Add b pos) r (.dat (is X.K (i ++ j))) r2 :=
  ex_bin (pe_op op_add_str) ha hb fun σ Hs F H u v k hu hv => by
    cases hu; cases hv
    exact vl_val k (show (is X.K (i ++ j)).p F (.str (i ++ j)) from rfl) fun Q q => ⟨i, j, rfl, rfl, h, q⟩

/-! ### comparisons as values; tests -/
theorem pc_of {op : CmpOp} {rr : R2} {ta tb : TE} (ho : OpR X (compareOp op) rr) (ha : PE X a ta) (hb : PE X b tb) : PC X op a b (tOp rr ta tb) :=
  ⟨fun pins s σ H Q I h => bin ha hb I h fun v u s2 x y H2 I2 rx ry q => ho pins s2 σ H2 x y v u Q I2 rx ry q⟩
theorem PC.imp {op : CmpOp} {t t' : TE} (h : PC X op a b t) (i : ∀ σ H Q, t' σ H Q → t σ H Q) : PC X op a b t' := ⟨fun pins s σ H Q I q => h.run pins s σ H Q I (i σ H Q q)⟩
/-- a comparison that gives P -/
structure Pc (X : Cx) (B : Bs) (op : CmpOp) (a b : Expr) (r : List Sl) (P : Pd) (r' : List Sl) : Prop where
  pc : PC X op a b (tcan B r (.dat P) r')
  m : behindInMarks op b = false
theorem Pc.mk' {op : CmpOp} {P : Pd} (h : behindInMarks op b = false) (h1 : PC X op a b (tcan B r (.dat P) r1)) : Pc X B op a b r P r1 := ⟨h1, h⟩
theorem ex_cmp {op : CmpOp} {P : Pd} (h : Pc X B op a b r P r1) : Ex X B (.Compare a [op] [b] pos) r (.dat P) r1 := pe_cmp h.pc h.m
theorem pc_bin {op : CmpOp} {rr : R2} {P : Pd} (ho : OpR X (compareOp op) rr) (hm : behindInMarks op b = false) (ha : Ex X B a r ra r1) (hb : Ex X B b r1 rb r2)
    (hv : ∀ σ Hs F H u v, Ok B r2 σ F H → RkOk r2 Hs σ F H u ra → RkOk r2 Hs σ F H v rb → Vl B r2 σ F H (.dat P) (rr u v H)) : Pc X B op a b r P r2 := by
  refine ⟨(PC.imp (pc_of ho ha hb) fun σ H Q ⟨F, k, q⟩ => ⟨F, k, fun u F1 H1 p1 w1 => ⟨F1, p1.ok, fun v F2 H2 p2 w2 => ?_⟩⟩), hm⟩
  refine hv σ H F2 H2 u v p2.ok (w1.step p2) (w2.back p1.st.dm) Q fun z F3 H3 p3 w3 => ?_
  exact q z F3 H3 ((p1.trans p2).trans p3) w3
theorem pc_ii {op : CmpOp} {i j : Int} {f : Int → Int → Bool} (ho : OpR X (compareOp op) (rI0 fun i j => .bl (f i j))) (hm : behindInMarks op b = false) (ha : Ex X B a r (.dat (is X.K i)) r1) (hb : Ex X B b r1 (.dat (is X.K j)) r2) : Pc X B op a b r (is X.K (f i j)) r2 :=
  pc_bin ho hm ha hb fun σ Hs F H u v k hu hv => by
    cases hu; cases hv
    exact vl_val k (show (is X.K (f i j)).p F (.bl (f i j)) from rfl) fun Q q => ⟨i, j, rfl, rfl, q⟩
section
variable {i j : Int}
theorem q_lt (ha : Ex X B a r (.dat (is X.K i)) r1) (hb : Ex X B b r1 (.dat (is X.K j)) r2) : Pc X B .Lt a b r (is X.K (decide (i < j))) r2 := pc_ii op_lt (nomark _) ha hb
theorem q_le (ha : Ex X B a r (.dat (is X.K i)) r1) (hb : Ex X B b r1 (.dat (is X.K j)) r2) : Pc X B .LtE a b r (is X.K (decide (i ≤ j))) r2 := pc_ii op_le (nomark _) ha hb
theorem q_gt (ha : Ex X B a r (.dat (is X.K i)) r1) (hb : Ex X B b r1 (.dat (is X.K j)) r2) : Pc X B .Gt a b r (is X.K (decide (j < i))) r2 := pc_ii op_gt (nomark _) ha hb
theorem q_ge (ha : Ex X B a r (.dat (is X.K i)) r1) (hb : Ex X B b r1 (.dat (is X.K j)) r2) : Pc X B .GtE a b r (is X.K (decide (j ≤ i))) r2 := pc_ii op_ge (nomark _) ha hb
end
/-- scalars: ints, bools, texts -/
class Sc (α : Type) [Rp α] where
  v : α → V
  is : ∀ {K : PySem.W.Frag} {F : Hp} {u : V} {x : α}, Rp.rp K F u x → u = v x
  sc : ∀ x y, scal (v x) (v y) = true
  inj : ∀ x y, v x = v y → x = y
instance : Sc Int := ⟨.int, fun h => h, fun _ _ => rfl, fun _ _ h => by cases h; rfl⟩
instance : Sc Bool := ⟨.bl, fun h => h, fun _ _ => rfl, fun _ _ h => by cases h; rfl⟩
instance : Sc Str := ⟨.str, fun h => h, fun _ _ => rfl, fun _ _ h => by cases h; rfl⟩
theorem sc_dec {α : Type} [Rp α] [Sc α] [DecidableEq α] (x y : α) : decide (Sc.v x = Sc.v y) = decide (x = y) := by
  by_cases h : x = y
  · subst h; simp
  · rw [decide_eq_false h, decide_eq_false fun z => h (Sc.inj x y z)]
theorem q_eqv {α : Type} [Rp α] [Sc α] [DecidableEq α] {i j : α} (ha : Ex X B a r (.dat (is X.K i)) r1) (hb : Ex X B b r1 (.dat (is X.K j)) r2) : Pc X B .Eq a b r (is X.K (decide (i = j))) r2 :=
  pc_bin op_eq (nomark _) ha hb fun σ Hs F H u v k hu hv => by
    have e1 := Sc.is hu
    have e2 := Sc.is hv
    subst e1 e2
    exact vl_val k (show (is X.K (decide (i = j))).p F (.bl (decide (i = j))) from rfl) fun Q q => ⟨Sc.sc _ _, by rw [sc_dec]; exact q⟩
theorem q_nev {α : Type} [Rp α] [Sc α] [DecidableEq α] {i j : α} (ha : Ex X B a r (.dat (is X.K i)) r1) (hb : Ex X B b r1 (.dat (is X.K j)) r2) : Pc X B .NotEq a b r (is X.K (!decide (i = j))) r2 :=
  pc_bin op_ne (nomark _) ha hb fun σ Hs F H u v k hu hv => by
    have e1 := Sc.is hu
    have e2 := Sc.is hv
    subst e1 e2
    exact vl_val k (show (is X.K (!decide (i = j))).p F (.bl (!decide (i = j))) from rfl) fun Q q => ⟨Sc.sc _ _, by rw [sc_dec]; exact q⟩
/-- is None, is not None -/
theorem q_isN {α : Type} [Rp α] [Nn α] {i : Option α} {j pos'} (ha : Ex X B a r (.dat (is X.K i)) r1) : Pc X B .Is a (.Constant .none j pos') r (is X.K i.isNone) r1 :=
  ⟨PC.imp (pc_isN ha) fun σ H Q ⟨F, k, q⟩ => ⟨F, k, fun v F' H' p w => by
    refine q _ F' H' p ?_
    cases i with
    | none => cases (show v = .non from w); rfl
    | some y => show V.bl _ = V.bl _; rw [decide_eq_false (Nn.nn (show Rp.rp X.K F' v y from w))]; rfl⟩, nobehind _ (by decide) (by decide)⟩
theorem q_notN {α : Type} [Rp α] [Nn α] {i : Option α} {j pos'} (ha : Ex X B a r (.dat (is X.K i)) r1) : Pc X B .IsNot a (.Constant .none j pos') r (is X.K i.isSome) r1 :=
  ⟨PC.imp (pc_notN ha) fun σ H Q ⟨F, k, q⟩ => ⟨F, k, fun v F' H' p w => by
    refine q _ F' H' p ?_
    cases i with
    | none => cases (show v = .non from w); rfl
    | some y => show V.bl _ = V.bl _; rw [decide_eq_false (Nn.nn (show Rp.rp X.K F' v y from w))]; rfl⟩, nobehind _ (by decide) (by decide)⟩
/-- a < b <= c and its like, of ints; the third operand leaves the slots as they are -/
theorem ex_chain {op op' : CmpOp} {f g : Int → Int → Bool} {c : Expr} {i j l : Int} (ho : OpR X (compareOp op) (rI0 fun i j => .bl (f i j))) (ho' : OpR X (compareOp op') (rI0 fun i j => .bl (g i j))) (ha : Ex X B a r (.dat (is X.K i)) r1) (hb : Ex X B b r1 (.dat (is X.K j)) r2) (hc : Ex X B c r2 (.dat (is X.K l)) r2)
    (hm : lastMarks [op, op'] [b, c] = false := by with_unfolding_all rfl) : Ex X B (.Compare a [op, op'] [b, c] pos) r (.dat (is X.K (f i j && g j l))) r2 :=
  PE.imp (pe_chain ho ho' ha hb hc hm) fun σ H Q ⟨F, k, q⟩ => ⟨F, k, fun u F1 H1 p1 w1 => ⟨F1, p1.ok, fun v F2 H2 p2 w2 => by
    cases w1; cases w2
    refine ⟨i, j, rfl, rfl, _, rfl, ?_⟩
    cases h : f i j with
    | false =>
      rw [h] at q
      exact q _ F2 H2 (p1.trans p2) rfl
    | true =>
      rw [h] at q
      refine ⟨F2, p2.ok, fun z F3 H3 p3 w3 => ?_⟩
      cases w3
      exact ⟨j, l, rfl, rfl, q _ F3 H3 ((p1.trans p2).trans p3) rfl⟩⟩⟩

/-- a test of an expression that gives a truth value -/
theorem tx_val {c : Bool} (h : Ex X B e r (.dat (is X.K c)) r1) (he : ∀ whole, isTrue e X.env whole = (do let v ← whole; standAt e.pos; holding [v] (truthy v)) := by intro _; rfl) : Tx X B e r c r1 :=
  PT.imp (pt_val h he) fun σ H Q ⟨F, k, q⟩ => ⟨F, k, fun v F' H' p w => ⟨c, w, q F' H' p⟩⟩
theorem tx_cmp {op : CmpOp} {c : Bool} (h : Pc X B op a b r (is X.K c) r1) : Tx X B (.Compare a [op] [b] pos) r c r1 := PT.imp (pt_cmp h.pc h.m) fun σ H Q ⟨F, k, q⟩ => ⟨F, k, fun v F' H' p w => ⟨c, w, q F' H' p⟩⟩
theorem tx_chain {op op' : CmpOp} {f g : Int → Int → Bool} {c : Expr} {i j l : Int} (ho : OpR X (compareOp op) (rI0 fun i j => .bl (f i j))) (ho' : OpR X (compareOp op') (rI0 fun i j => .bl (g i j))) (ha : Ex X B a r (.dat (is X.K i)) r1) (hb : Ex X B b r1 (.dat (is X.K j)) r2) (hc : Ex X B c r2 (.dat (is X.K l)) r2)
    (hm : lastMarks [op, op'] [b, c] = false := by with_unfolding_all rfl) : Tx X B (.Compare a [op, op'] [b, c] pos) r (f i j && g j l) r2 :=
  PT.imp (pt_chain ho ho' ha hb hc hm) fun σ H Q ⟨F, k, q⟩ => ⟨F, k, fun u F1 H1 p1 w1 => ⟨F1, p1.ok, fun v F2 H2 p2 w2 => by
    cases w1; cases w2
    refine ⟨i, j, rfl, rfl, _, rfl, ?_⟩
    cases h : f i j with
    | false =>
      rw [h] at q
      exact iteF ⟨false, rfl, q F2 H2 (p1.trans p2)⟩
    | true =>
      rw [h] at q
      refine iteT ⟨F2, p2.ok, fun z F3 H3 p3 w3 => ?_⟩
      cases w3
      exact ⟨j, l, rfl, rfl, _, rfl, q F3 H3 ((p1.trans p2).trans p3)⟩⟩⟩
theorem tx_eqT {b' c : Bool} (h : Tx X B e r b' r1) (q : b' = c) : Tx X B e r c r1 := by rw [← q]; exact h
theorem tx_not {c : Bool} (h : Tx X B a r c r1) : Tx X B (.UnaryOp .Not a pos) r (!c) r1 := PT.imp (pt_not h) fun σ H Q ⟨F, k, q⟩ => ⟨F, k, fun F' H' p => q F' H' p⟩
/-- and, or as tests -/
def Wx (X : Cx) (B : Bs) (e : Expr) (r : List Sl) (b : Bool) (r' : List Sl) : Prop := PW X e (ttan B r b r')
theorem Wx.t {c : Bool} (h : Wx X B e r c r1) : Tx X B e r c r1 := PW.pt h
theorem wx_and1 {c : Bool} (h : Tx X B a r c r1) : Wx X B (.BoolOp .And [a] pos) r c r1 := pw_and1 h
theorem wx_or1 {c : Bool} (h : Tx X B a r c r1) : Wx X B (.BoolOp .Or [a] pos) r c r1 := pw_or1 h
theorem wx_and {c d : Bool} {rest : List Expr} (h : Tx X B a r c r1) (h2 : c = true → Wx X B (.BoolOp .And (b :: rest) pos) r1 d r2) (h3 : c = false → r1 = r2) : Wx X B (.BoolOp .And (a :: b :: rest) pos) r (c && d) r2 := by
  cases c with
  | true =>
    refine PW.imp (pw_and h (h2 rfl)) fun σ H Q ⟨F, k, q⟩ => ⟨F, k, fun F' H' p => ?_⟩
    exact iteT ⟨F', p.ok, fun F2 H2 p2 => q F2 H2 (p.trans p2)⟩
  | false =>
    have e := h3 rfl
    subst e
    refine PW.imp (pw_and h (tB' := fun _ _ _ => False) ⟨fun _ _ _ _ _ _ _ z => z.elim⟩) fun σ H Q ⟨F, k, q⟩ => ⟨F, k, fun F' H' p => ?_⟩
    exact iteF (q F' H' p)
theorem wx_or {c d : Bool} {rest : List Expr} (h : Tx X B a r c r1) (h2 : c = false → Wx X B (.BoolOp .Or (b :: rest) pos) r1 d r2) (h3 : c = true → r1 = r2) : Wx X B (.BoolOp .Or (a :: b :: rest) pos) r (c || d) r2 := by
  cases c with
  | false =>
    refine PW.imp (pw_or h (h2 rfl)) fun σ H Q ⟨F, k, q⟩ => ⟨F, k, fun F' H' p => ?_⟩
    exact iteF ⟨F', p.ok, fun F2 H2 p2 => q F2 H2 (p.trans p2)⟩
  | true =>
    have e := h3 rfl
    subst e
    refine PW.imp (pw_or h (tB' := fun _ _ _ => False) ⟨fun _ _ _ _ _ _ _ z => z.elim⟩) fun σ H Q ⟨F, k, q⟩ => ⟨F, k, fun F' H' p => ?_⟩
    exact iteT (q F' H' p)
/-- and, or, not as values -/
theorem ex_one {op} {x : Rk} (h : Ex X B a r x r1) : Ex X B (.BoolOp op [a] pos) r x r1 := pe_one h
theorem ex_and {c d : Bool} {rest : List Expr} (h : Ex X B a r (.dat (is X.K c)) r1) (h2 : c = true → Ex X B (.BoolOp .And (b :: rest) pos) r1 (.dat (is X.K d)) r1) : Ex X B (.BoolOp .And (a :: b :: rest) pos) r (.dat (is X.K (c && d))) r1 := by
  cases c with
  | true =>
    refine PE.imp (pe_and h (h2 rfl)) fun σ H Q ⟨F, k, q⟩ => ⟨F, k, fun v F' H' p w => ⟨true, w, ?_⟩⟩
    exact iteT ⟨F', p.ok, fun v2 F2 H2 p2 w2 => q v2 F2 H2 (p.trans p2) w2⟩
  | false =>
    refine PE.imp (pe_and h (tb := fun _ _ _ => False) ⟨fun _ _ _ _ _ _ z => z.elim⟩) fun σ H Q ⟨F, k, q⟩ => ⟨F, k, fun v F' H' p w => ⟨false, w, ?_⟩⟩
    exact iteF (q _ F' H' p rfl)
theorem ex_or {c d : Bool} {rest : List Expr} (h : Ex X B a r (.dat (is X.K c)) r1) (h2 : c = false → Ex X B (.BoolOp .Or (b :: rest) pos) r1 (.dat (is X.K d)) r1) : Ex X B (.BoolOp .Or (a :: b :: rest) pos) r (.dat (is X.K (c || d))) r1 := by
  cases c with
  | false =>
    refine PE.imp (pe_or h (h2 rfl)) fun σ H Q ⟨F, k, q⟩ => ⟨F, k, fun v F' H' p w => ⟨false, w, ?_⟩⟩
    exact iteF ⟨F', p.ok, fun v2 F2 H2 p2 w2 => q v2 F2 H2 (p.trans p2) w2⟩
  | true =>
    refine PE.imp (pe_or h (tb := fun _ _ _ => False) ⟨fun _ _ _ _ _ _ z => z.elim⟩) fun σ H Q ⟨F, k, q⟩ => ⟨F, k, fun v F' H' p w => ⟨true, w, ?_⟩⟩
    exact iteT (q _ F' H' p rfl)
theorem ex_not {c : Bool} (h : Ex X B a r (.dat (is X.K c)) r1) : Ex X B (.UnaryOp .Not a pos) r (.dat (is X.K (!c))) r1 :=
  PE.imp (pe_not h) fun σ H Q ⟨F, k, q⟩ => ⟨F, k, fun v F' H' p w => ⟨c, w, q _ F' H' p rfl⟩⟩
/-- a if t else b -/
theorem ex_if {c : Bool} {t : Expr} {x : Rk} (ht : Tx X B t r c r1) (ha : c = true → Ex X B a r1 x r2) (hb : c = false → Ex X B b r1 x r2) : Ex X B (.IfExp t a b pos) r x r2 := by
  cases c with
  | true =>
    refine PE.imp (pe_ifExp ht (ha rfl) (tb := fun _ _ _ => False) ⟨fun _ _ _ _ _ _ z => z.elim⟩) fun σ H Q ⟨F, k, q⟩ => ⟨F, k, fun F' H' p => ?_⟩
    exact iteT ⟨F', p.ok, fun v2 F2 H2 p2 w2 => q v2 F2 H2 (p.trans p2) (w2.back p.st.dm)⟩
  | false =>
    refine PE.imp (pe_ifExp ht (ta := fun _ _ _ => False) ⟨fun _ _ _ _ _ _ z => z.elim⟩ (hb rfl)) fun σ H Q ⟨F, k, q⟩ => ⟨F, k, fun F' H' p => ?_⟩
    exact iteF ⟨F', p.ok, fun v2 F2 H2 p2 w2 => q v2 F2 H2 (p.trans p2) (w2.back p.st.dm)⟩

/-! ### argument lists, displays -/
theorem ax_nil : Ax X B [] r [] r := PA.imp pa_nil fun σ H Q ⟨F, k, q⟩ => q [] F H (Post.refl k) .nil
theorem paired_step {σ : L2.St} {Hs F1 H1 F2 H2 : Hp} : ∀ {vs : List V} {xs : List Rk}, Paired (RkOk r1 Hs σ F1 H1) vs xs → Post B r1 σ F1 H1 r2 F2 H2 → Paired (RkOk r2 Hs σ F2 H2) vs xs
  | _, _, .nil, _ => .nil
  | _, _, .cons h t, p => .cons (h.step p) (paired_step t p)
theorem paired_back {σ : L2.St} {Hs Hs' F H : Hp} (e : ∀ b, Hs' b ≠ none → Hs b ≠ none) : ∀ {vs : List V} {xs : List Rk}, Paired (RkOk r Hs σ F H) vs xs → Paired (RkOk r Hs' σ F H) vs xs
  | _, _, .nil => .nil
  | _, _, .cons h t => .cons (h.back e) (paired_back e t)
theorem ax_cons {es : List Expr} {xs : List Rk} (ha : Ex X B a r x r1) (hr : Ax X B es r1 xs r2) (hs : starEach (a :: es) X.env = (false, eval a X.env) :: starEach es X.env := by rfl) : Ax X B (a :: es) r (x :: xs) r2 :=
  PA.imp (pa_cons ha hr hs) fun σ H Q ⟨F, k, q⟩ => ⟨F, k, fun v F1 H1 p1 w1 => ⟨F1, p1.ok, fun vs F2 H2 p2 w2 => q (v :: vs) F2 H2 (p1.trans p2) (.cons (w1.step p2) (paired_back p1.st.dm w2))⟩⟩
/-- data of one kind, from an argument list -/
theorem all2_of {K : PySem.W.Frag} {α : Type} [Rp α] {σ : L2.St} {Hs F H : Hp} : ∀ {vs : List V} {xs : List α}, Paired (RkOk r Hs σ F H) vs (xs.map fun x => .dat (is K x)) → All2 K F vs xs
  | [], [], _ => .nil
  | _ :: _, [], h => nomatch h
  | [], _ :: _, h => nomatch h
  | v :: vs, x :: xs, .cons h t => .cons h (all2_of t)
theorem paired_len {α β : Type} {R : α → β → Prop} : ∀ {xs : List α} {ys : List β}, Paired R xs ys → xs.length = ys.length
  | _, _, .nil => rfl
  | _, _, .cons _ t => congrArg Nat.succ (paired_len t)
theorem ex_lst {es : List Expr} {α : Type} [Rp α] {xs : List α} {ys : List Rk} (h : Ax X B es r ys r1) (e : ys = xs.map fun x => .dat (is X.K x)) (hl : xs.length ≤ sizeLine := by decide) : Ex X B (.List es pos) r (.new (lstC X.K xs)) r1 := by
  subst e
  refine PE.imp (pe_lst h) fun σ H Q ⟨F, k, q⟩ => ⟨F, k, fun vs F' H' p w => ⟨?_, fun a ha => ?_⟩⟩
  · rw [paired_len w, List.length_map]; exact hl
  · have p2 : Post B r1 σ F' H' r1 F' (upd H' a (.lst vs)) := Post.alloc p.ok ha
    exact q (.ref a) F' _ (p.trans p2) (RkOk.back (RkOk.alloc p.ok ha ⟨vs, rfl, all2_of w⟩) p.st.dm)
/-- tuples of two, of three -/
theorem ex_pair {α β : Type} [Rp α] [Rp β] {u : α} {w : β} {x1} (ha : Ex X B a r (.dat (is X.K u)) r1) (hb : Ex X B b r1 (.dat (is X.K w)) r2) (hs : starEach [a, b] X.env = (false, eval a X.env) :: starEach [b] X.env := by rfl) (hs2 : starEach [b] X.env = (false, eval b X.env) :: starEach [] X.env := by rfl) :
    Ex X B (.Tuple [a, b] x1 pos) r (.dat (is X.K (u, w))) r2 := by
  have h : Ex X B (.Tuple [a, b] x1 pos) r (.new ⟨fun F o => ∃ v1 v2, o = .tup [v1, v2] ∧ Rp.rp X.K F v1 u ∧ Rp.rp X.K F v2 w, fun e ⟨v1, v2, e1, e2, e3⟩ => ⟨v1, v2, e1, Rp.mono e e2, Rp.mono e e3⟩⟩) r2 := by
    refine PE.imp (pe_tup (ax_cons ha (ax_cons hb ax_nil hs2) hs)) fun σ H Q ⟨F, k, q⟩ => ⟨F, k, fun vs F' H' p w => ?_⟩
    cases w with
    | cons w1 t => cases t with
      | cons w2 t => cases t with
        | nil => exact ⟨by show 2 ≤ sizeLine; decide, fun a ha => q (.ref a) F' _ (p.trans (Post.alloc p.ok ha)) (RkOk.back (RkOk.alloc p.ok ha ⟨_, _, rfl, w1, w2⟩) p.st.dm)⟩
  exact ex_frz h fun F p o ⟨v1, v2, e1, e2, e3⟩ e => ⟨p, v1, v2, rfl, Evl.st_of (by rw [e, e1]), e2, e3⟩
theorem ex_tri {α β γ : Type} [Rp α] [Rp β] [Rp γ] {c : Expr} {u : α} {w : β} {z : γ} {x1} (ha : Ex X B a r (.dat (is X.K u)) r1) (hb : Ex X B b r1 (.dat (is X.K w)) r2) (hc : Ex X B c r2 (.dat (is X.K z)) r3) (hs : starEach [a, b, c] X.env = (false, eval a X.env) :: starEach [b, c] X.env := by rfl) (hs2 : starEach [b, c] X.env = (false, eval b X.env) :: starEach [c] X.env := by rfl)
    (hs3 : starEach [c] X.env = (false, eval c X.env) :: starEach [] X.env := by rfl) :
    Ex X B (.Tuple [a, b, c] x1 pos) r (.dat (is X.K (T3.mk u w z))) r3 := by
  have h : Ex X B (.Tuple [a, b, c] x1 pos) r (.new ⟨fun F o => ∃ v1 v2 v3, o = .tup [v1, v2, v3] ∧ Rp.rp X.K F v1 u ∧ Rp.rp X.K F v2 w ∧ Rp.rp X.K F v3 z, fun e ⟨v1, v2, v3, e1, e2, e3, e4⟩ => ⟨v1, v2, v3, e1, Rp.mono e e2, Rp.mono e e3, Rp.mono e e4⟩⟩) r3 := by
    refine PE.imp (pe_tup (ax_cons ha (ax_cons hb (ax_cons hc ax_nil hs3) hs2) hs)) fun σ H Q ⟨F, k, q⟩ => ⟨F, k, fun vs F' H' p w => ?_⟩
    cases w with
    | cons w1 t => cases t with
      | cons w2 t => cases t with
        | cons w3 t => cases t with
          | nil => exact ⟨by show 3 ≤ sizeLine; decide, fun a ha => q (.ref a) F' _ (p.trans (Post.alloc p.ok ha)) (RkOk.back (RkOk.alloc p.ok ha ⟨_, _, _, rfl, w1, w2, w3⟩) p.st.dm)⟩
  exact ex_frz h fun F p o ⟨v1, v2, v3, e1, e2, e3, e4⟩ e => ⟨p, v1, v2, v3, rfl, Evl.st_of (by rw [e, e1]), e2, e3, e4⟩

/-! ### lists that are read -/
structure LsR (K : PySem.W.Frag) (B : Bs) (r : List Sl) (x : Rk) {α : Type} [Rp α] (xs : List α) : Prop where
  rd : ∀ σ Hs F H v, Ok B r σ F H → RkOk r Hs σ F H v x → ∃ a vs, v = .ref a ∧ H a = some (.lst vs) ∧ All2 K F vs xs
theorem rd_dat {K : PySem.W.Frag} {α : Type} [Rp α] {xs : List α} : LsR K B r (.dat (is K xs)) xs := ⟨fun σ Hs F H v k ⟨a, vs, e1, e2, e3⟩ => ⟨a, vs, e1, k.fh.at e2 rfl, e3⟩⟩
theorem rd_new {K : PySem.W.Frag} {α : Type} [Rp α] {xs : List α} : LsR K B r (.new (lstC K xs)) xs := ⟨fun σ Hs F H v k ⟨p, o, e1, e2, e3, ⟨vs, e4, e5⟩, _⟩ => ⟨p, vs, e1, by rw [e3, e4], e5⟩⟩
theorem rd_own {K : PySem.W.Frag} {α : Type} [Rp α] {xs : List α} {i : Nat} (h : r[i]? = some (.own (lstC K xs))) : LsR K B r (.slot i) xs := ⟨fun σ Hs F H v k w => by
  obtain ⟨p, o, e1, e2, e3, ⟨vs, e4, e5⟩, _⟩ := k.sl i _ h
  have e := (show σ[i]? = some (some v) from w).symm.trans e1
  cases e
  exact ⟨p, vs, rfl, by rw [e3, e4], e5⟩⟩
theorem rd_io {K : PySem.W.Frag} {α : Type} [Rp α] {xs : List α} {i j : Nat} (h : r[i]? = some (.io j (lstC K xs))) : LsR K B r (.slot i) xs := ⟨fun σ Hs F H v k w => by
  obtain ⟨p, o, e1, e2, e3, ⟨vs, e4, e5⟩, _⟩ := k.sl i _ h
  have e := (show σ[i]? = some (some v) from w).symm.trans e1
  cases e
  exact ⟨p, vs, rfl, by rw [e3, e4], e5⟩⟩
theorem All2.len {K : PySem.W.Frag} {α : Type} [Rp α] {F : Hp} {vs : List V} {xs : List α} (h : All2 K F vs xs) : vs.length = xs.length := paired_len h
theorem All2.atI {K : PySem.W.Frag} {α : Type} [Rp α] {F : Hp} {vs : List V} {xs : List α} {i : Int} {y : α} (h : All2 K F vs xs) (e : L2.atI xs i = some y) : ∃ v, L2.atI vs i = some v ∧ Rp.rp K F v y := by
  unfold L2.atI at e ⊢
  rw [h.len]
  cases q : ixN xs.length i with
  | none => rw [q] at e; cases e
  | some j =>
    rw [q] at e
    exact Paired.get h e
/-- xs[i] -/
theorem ex_ix {α : Type} [Rp α] {xs : List α} {i : Int} {y : α} (ha : Ex X B a r ra r1) (hb : Ex X B b r1 (.dat (is X.K i)) r2) (rd : LsR X.K B r2 ra xs) (h : L2.atI xs i = some y) (hs : PlainIx b := by exact fun _ _ => rfl) : Ex X B (.Subscript a b pos) r (.dat (is X.K y)) r2 :=
  ex_bin (fun ha hb => pe_ix ix_list ha hb hs) ha hb fun σ Hs F H u v k hu hv => by
    obtain ⟨p, vs, e1, e2, e3⟩ := rd.rd σ Hs F H u k hu
    cases hv
    obtain ⟨w, e4, e5⟩ := e3.atI h
    exact vl_val k (show (is X.K y).p F w from e5) fun Q q => ⟨p, vs, i, w, e1, rfl, .of e2, e4, q⟩
theorem atI_getD {α : Type} [Inhabited α] {xs : List α} {i : Int} (h : 0 ≤ i ∧ i < xs.length) : L2.atI xs i = some (xs.getD i.toNat default) := by
  have e : i = (i.toNat : Int) := by omega
  have hl : i.toNat < xs.length := by omega
  rw [e]
  refine atI_nat ?_
  rw [show ((i.toNat : Int)).toNat = i.toNat from rfl]
  simp [List.getD, hl]
theorem ex_ixD {α : Type} [Rp α] [Inhabited α] {xs : List α} {i : Int} (ha : Ex X B a r ra r1) (hb : Ex X B b r1 (.dat (is X.K i)) r2) (rd : LsR X.K B r2 ra xs) (h : 0 ≤ i ∧ i < xs.length) (hs : PlainIx b := by exact fun _ _ => rfl) : Ex X B (.Subscript a b pos) r (.dat (is X.K (xs.getD i.toNat default))) r2 :=
  ex_ix ha hb rd (atI_getD h) hs
/-- t[0], t[1] of pairs; of triples -/
theorem ex_tup {τ α : Type} [Rp τ] [Rp α] {t : τ} {y : α} {j : Nat} (ha : Ex X B a r (.dat (is X.K t)) r1) (hb : Ex X B b r1 (.dat (is X.K ((j : Int)))) r2) (h : ∀ F v, Rp.rp X.K F v t → ∃ p vs w, v = .ref p ∧ SqT X.K F p vs ∧ vs[j]? = some w ∧ Rp.rp X.K F w y) (hs : PlainIx b := by exact fun _ _ => rfl) : Ex X B (.Subscript a b pos) r (.dat (is X.K y)) r2 :=
  ex_bin (fun ha hb => pe_ix ix_tup ha hb hs) ha hb fun σ Hs F H u v k hu hv => by
    obtain ⟨p, vs, w, e1, e2, e3, e4⟩ := h F u hu
    cases hv
    have e5 : SqT X.K H p vs := by
      rcases e2 with (z | ⟨o, z⟩) | z
      · exact Evl.st_of (k.fh.at z rfl)
      · exact .inl (.inr ⟨o, k.fh.at z rfl⟩)
      · exact .inr z
    exact vl_val k (show (is X.K y).p F w from e4) fun Q q => ⟨p, vs, j, w, e1, rfl, e5, atI_nat e3, q⟩
theorem ex_fst {α β : Type} [Rp α] [Rp β] {t : α × β} {j pos'} (ha : Ex X B a r (.dat (is X.K t)) r1) : Ex X B (.Subscript a (.Constant (.int 0) j pos') pos) r (.dat (is X.K t.1)) r1 :=
  ex_tup (j := 0) ha ex_int fun F v ⟨p, u, w, e1, e2, e3, e4⟩ => ⟨p, _, u, e1, e2, rfl, e3⟩
theorem ex_snd {α β : Type} [Rp α] [Rp β] {t : α × β} {j pos'} (ha : Ex X B a r (.dat (is X.K t)) r1) : Ex X B (.Subscript a (.Constant (.int 1) j pos') pos) r (.dat (is X.K t.2)) r1 :=
  ex_tup (j := 1) ha ex_int fun F v ⟨p, u, w, e1, e2, e3, e4⟩ => ⟨p, _, w, e1, e2, rfl, e4⟩
theorem ex_t1 {α β γ : Type} [Rp α] [Rp β] [Rp γ] {t : T3 α β γ} {j pos'} (ha : Ex X B a r (.dat (is X.K t)) r1) : Ex X B (.Subscript a (.Constant (.int 0) j pos') pos) r (.dat (is X.K t.a)) r1 :=
  ex_tup (j := 0) ha ex_int fun F v ⟨p, u, w, z, e1, e2, e3, e4, e5⟩ => ⟨p, _, u, e1, e2, rfl, e3⟩
theorem ex_t2 {α β γ : Type} [Rp α] [Rp β] [Rp γ] {t : T3 α β γ} {j pos'} (ha : Ex X B a r (.dat (is X.K t)) r1) : Ex X B (.Subscript a (.Constant (.int 1) j pos') pos) r (.dat (is X.K t.b)) r1 :=
  ex_tup (j := 1) ha ex_int fun F v ⟨p, u, w, z, e1, e2, e3, e4, e5⟩ => ⟨p, _, w, e1, e2, rfl, e4⟩
theorem ex_t3 {α β γ : Type} [Rp α] [Rp β] [Rp γ] {t : T3 α β γ} {j pos'} (ha : Ex X B a r (.dat (is X.K t)) r1) : Ex X B (.Subscript a (.Constant (.int 2) j pos') pos) r (.dat (is X.K t.c)) r1 :=
  ex_tup (j := 2) ha ex_int fun F v ⟨p, u, w, z, e1, e2, e3, e4, e5⟩ => ⟨p, _, z, e1, e2, rfl, e5⟩

/-! ### calls of built-ins -/
theorem ex_cb {es : List Expr} {xs : List Rk} {rr : List V → Hp → VK → Prop} (hp : ∀ {t : TA}, PA X es t → PE X e (tCB rr t)) (ha : Ax X B es r xs r1)
    (hv : ∀ σ Hs F H vs, Ok B r1 σ F H → Paired (RkOk r1 Hs σ F H) vs xs → Vl B r1 σ F H rz (rr vs H)) : Ex X B e r rz r1 := by
  refine (hp ha).imp fun σ H Q ⟨F, k, q⟩ => ⟨F, k, fun vs F1 H1 p1 w1 => ?_⟩
  exact hv σ H F1 H1 vs p1.ok w1 Q fun z F3 H3 p3 w3 => q z F3 H3 (p1.trans p3) (w3.back p1.st.dm)
section
variable {p : Pos}
theorem ax1 (ha : Ex X B a r x r1) (hs : starEach [a] X.env = (false, eval a X.env) :: starEach [] X.env := by rfl) : Ax X B [a] r [x] r1 := ax_cons ha ax_nil hs
theorem ax2 (ha : Ex X B a r x r1) (hb : Ex X B b r1 y r2) (hs : starEach [a, b] X.env = (false, eval a X.env) :: starEach [b] X.env := by rfl) (hs2 : starEach [b] X.env = (false, eval b X.env) :: starEach [] X.env := by rfl) : Ax X B [a, b] r [x, y] r2 := ax_cons ha (ax_cons hb ax_nil hs2) hs
theorem pr1 {R : V → Rk → Prop} {vs : List V} (h : Paired R vs [x]) : ∃ v, vs = [v] ∧ R v x := by
  cases h with
  | cons h t => cases t; exact ⟨_, rfl, h⟩
theorem pr2 {R : V → Rk → Prop} {vs : List V} (h : Paired R vs [x, y]) : ∃ v w, vs = [v, w] ∧ R v x ∧ R w y := by
  cases h with
  | cons h t => cases t with
    | cons h2 t => cases t; exact ⟨_, _, rfl, h, h2⟩
/-- len of a list; of a text; of a pair -/
theorem ex_len {α : Type} [Rp α] {xs : List α} (hm : X.mg "len" = none) (ha : Ex X B a r ra r1) (rd : LsR X.K B r1 ra xs) (hg : Gl X "len" := by rfl) (hs : starEach [a] X.env = (false, eval a X.env) :: starEach [] X.env := by rfl) (hpl : (backTo pos (starEach [] X.env)).any (·.1) = false := by rfl) :
    Ex X B (.Call (.Name "len" p) [a] [] pos) r (.dat (is X.K (xs.length : Int))) r1 :=
  ex_cb (fun h => pe_callB call_len_seq hg hm PySem.boot_len h (he := hs) (hpl := hpl)) (ax1 ha hs) fun σ Hs F H vs k w => by
    obtain ⟨v, rfl, w1⟩ := pr1 w
    obtain ⟨q, ys, e1, e2, e3⟩ := rd.rd σ Hs F H v k w1
    subst e1
    exact vl_val k (show (is X.K (xs.length : Int)).p F (.int (ys.length : Int)) from by rw [e3.len]; rfl) fun Q z => ⟨q, ys, rfl, .inl (.of e2), z⟩
theorem ex_lenS {z : Str} (hm : X.mg "len" = none) (ha : Ex X B a r (.dat (is X.K z)) r1) (hl : z.length ≤ sizeLine) (hg : Gl X "len" := by rfl) (hs : starEach [a] X.env = (false, eval a X.env) :: starEach [] X.env := by rfl) (hpl : (backTo pos (starEach [] X.env)).any (·.1) = false := by rfl) :
    Ex X B (.Call (.Name "len" p) [a] [] pos) r (.dat (is X.K (z.length : Int))) r1 :=
  ex_cb (fun h => pe_callB call_len_str hg hm PySem.boot_len h (he := hs) (hpl := hpl)) (ax1 ha hs) fun σ Hs F H vs k w => by
    obtain ⟨v, rfl, w1⟩ := pr1 w
    cases w1
    exact vl_val k (show (is X.K (z.length : Int)).p F (.int (z.length : Int)) from rfl) fun Q q => ⟨z, rfl, hl, q⟩
end
end
end DL

/-! DLStmt: typed rules for statements, loops, comprehensions, defs -/
namespace DL
open PySem L2

structure Dn where
  nx : L2.St → Hp → Hp → Prop
  rt : V → Hp → Hp → Prop
  bk : L2.St → Hp → Hp → Prop := fun _ _ _ => False
  ct : L2.St → Hp → Hp → Prop := fun _ _ _ => False
/-- the ends, from a state whose frozen part was F: it has grown -/
def Dn.E (D : Dn) (F : Hp) : Ends := { nx := fun σ H => ∃ F', Same F F' ∧ D.nx σ F' H, rt := fun v H => ∃ F', Same F F' ∧ D.rt v F' H, bk := fun σ H => ∃ F', Same F F' ∧ D.bk σ F' H, ct := fun σ H => ∃ F', Same F F' ∧ D.ct σ F' H }
def Go (X : Cx) (B : Bs) (ss : List Stmt) (r : List Sl) (D : Dn) : Prop := ∃ t, PSs X ss t ∧ ∀ σ F H, Ok B r σ F H → t (D.E F) σ H
/-- one statement, and what it leaves -/
def Gs (X : Cx) (B : Bs) (s : Stmt) (r : List Sl) (D : Dn) : Prop := ∃ t, PS X s t ∧ ∀ σ F H, Ok B r σ F H → t (D.E F) σ H

def Sl.of : Rk → Sl
  | .dat P => .dat P
  | .new C => .own C
  | .slot _ => .un
/-- r' knows no more than r -/
inductive Weak : List Sl → List Sl → Prop
  | nil : Weak [] []
  | same (s : Sl) {r r' : List Sl} : Weak r r' → Weak (s :: r) (s :: r')
  | drop (s : Sl) {r r' : List Sl} : Weak r r' → Weak (s :: r) (.un :: r')
theorem Weak.refl : ∀ r, Weak r r
  | [] => .nil
  | s :: r => .same s (Weak.refl r)
theorem Weak.len : ∀ {r r'}, Weak r r' → r'.length = r.length
  | _, _, .nil => rfl
  | _, _, .same _ h => congrArg Nat.succ h.len
  | _, _, .drop _ h => congrArg Nat.succ h.len
theorem Weak.get : ∀ {r r'} {i : Nat} {s : Sl}, Weak r r' → r'[i]? = some s → s = .un ∨ r[i]? = some s
  | _, _, i, s, .nil, h => by simp at h
  | _, _, 0, s, .same _ _, h => .inr h
  | _, _, 0, s, .drop _ _, h => by simp at h; exact .inl h.symm
  | _, _, i + 1, s, .same _ t, h => Weak.get (i := i) t (by simpa using h)
  | _, _, i + 1, s, .drop _ t, h => Weak.get (i := i) t (by simpa using h)
theorem Ok.weak {B : Bs} {r r' : List Sl} {σ : L2.St} {F H : Hp} (k : Ok B r σ F H) (w : Weak r r') : Ok B r' σ F H := by
  have own : ∀ (i : Nat) (s : Sl), r'[i]? = some s → s.isOwn = true → r[i]? = some s := fun i s e h => by
    rcases w.get e with z | z
    · subst z; cases h
    · exact z
  refine ⟨k.fh, k.f0, k.nw, k.kp, k.dm, k.pk, w.len.trans k.len, fun i s e => ?_, fun i j s t p hne e1 e2 h1 h2 => k.dj i j s t p hne (own i s e1 h1) (own j t e2 h2) h1 h2⟩
  rcases w.get e with z | z
  · subst z; trivial
  · exact k.sl i s z
theorem Owned.weak {r r' : List Sl} {σ : L2.St} {b : Addr} (w : Weak r r') (h : Owned r' σ b) : Owned r σ b := by
  obtain ⟨i, s, e, h1, h2⟩ := h
  rcases w.get e with z | z
  · subst z; cases h1
  · exact ⟨i, s, z, h1, h2⟩
theorem ex_weak {X : Cx} {B : Bs} {e : Expr} {r r' r1 : List Sl} {x : Rk} (w : Weak r r') (h : Ex X B e r' x r1) : Ex X B e r x r1 := PE.imp h fun σ H Q ⟨F, k, q⟩ => ⟨F, k.weak w, fun v F' H' p g => q v F' H' ⟨p.ok, p.st.mono fun _ z => z.weak w, fun b z => (p.ow b z).weak w⟩ g⟩

section
variable {X : Cx} {B : Bs} {e a b : Expr} {ss rest : List Stmt} {s : Stmt} {r r1 r2 : List Sl} {x : Rk} {D : Dn} {pos : Pos}

theorem same0 (F : Hp) : Same F F := fun _ _ z => z
theorem sp_to {pins : List (Addr × Obj)} {D1 D2 : Ends} {f : PySem.Flow} {s : PySem.Shared} (q : SP X pins D1 f s) (h1 : ∀ σ H, D1.nx σ H → D2.nx σ H) (h2 : ∀ v H, D1.rt v H → D2.rt v H) (h3 : ∀ σ H, D1.bk σ H → D2.bk σ H) (h4 : ∀ σ H, D1.ct σ H → D2.ct σ H) : SP X pins D2 f s := by
  cases f with
  | next => obtain ⟨σ', H', I', q⟩ := q; exact ⟨σ', H', I', h1 _ _ q⟩
  | brk => obtain ⟨σ', H', I', q⟩ := q; exact ⟨σ', H', I', h3 _ _ q⟩
  | cont => obtain ⟨σ', H', I', q⟩ := q; exact ⟨σ', H', I', h4 _ _ q⟩
  | ret u => obtain ⟨v, σ', H', I', rv, q⟩ := q; exact ⟨v, σ', H', I', rv, h2 _ _ q⟩
theorem go_nil (h : ∀ σ F H, Ok B r σ F H → D.nx σ F H) : Go X B [] r D := ⟨tNext, pss_nil, fun σ F H k => ⟨F, same0 F, h σ F H k⟩⟩
theorem go_weak (w : Weak r r1) (h : Go X B ss r1 D) : Go X B ss r D := by
  obtain ⟨t, h1, h2⟩ := h
  exact ⟨t, h1, fun σ F H k => h2 σ F H (k.weak w)⟩
theorem go_mono {D' : Dn} (h : Go X B ss r D) (h1 : ∀ σ F H, D.nx σ F H → D'.nx σ F H) (h2 : ∀ σ F H, D.rt σ F H → D'.rt σ F H) (h3 : ∀ σ F H, D.bk σ F H → D'.bk σ F H) (h4 : ∀ σ F H, D.ct σ F H → D'.ct σ F H) : Go X B ss r D' := by
  obtain ⟨t, h5, h6⟩ := h
  refine ⟨fun D2 σ H => ∃ F, D2 = D'.E F ∧ t (D.E F) σ H, ⟨fun pins s σ H D2 I ⟨F, e, q⟩ => ?_⟩, fun σ F H k => ⟨F, rfl, h6 σ F H k⟩⟩
  subst e
  exact thn (h5.run pins s σ H (D.E F) I q) fun f s1 q => sp_to q (fun σ H ⟨F, a, z⟩ => ⟨F, a, h1 _ _ _ z⟩) (fun σ H ⟨F, a, z⟩ => ⟨F, a, h2 _ _ _ z⟩) (fun σ H ⟨F, a, z⟩ => ⟨F, a, h3 _ _ _ z⟩) fun σ H ⟨F, a, z⟩ => ⟨F, a, h4 _ _ _ z⟩
theorem gs_mono {D' : Dn} (h : Gs X B s r D) (h1 : ∀ σ F H, D.nx σ F H → D'.nx σ F H) (h2 : ∀ σ F H, D.rt σ F H → D'.rt σ F H) (h3 : ∀ σ F H, D.bk σ F H → D'.bk σ F H) (h4 : ∀ σ F H, D.ct σ F H → D'.ct σ F H) : Gs X B s r D' := by
  obtain ⟨t, h5, h6⟩ := h
  refine ⟨fun D2 σ H => ∃ F, D2 = D'.E F ∧ t (D.E F) σ H, ⟨fun pins s σ H D2 I ⟨F, e, q⟩ => ?_⟩, fun σ F H k => ⟨F, rfl, h6 σ F H k⟩⟩
  subst e
  exact thn (h5.run pins s σ H (D.E F) I q) fun f s1 q => sp_to q (fun σ H ⟨F, a, z⟩ => ⟨F, a, h1 _ _ _ z⟩) (fun σ H ⟨F, a, z⟩ => ⟨F, a, h2 _ _ _ z⟩) (fun σ H ⟨F, a, z⟩ => ⟨F, a, h3 _ _ _ z⟩) fun σ H ⟨F, a, z⟩ => ⟨F, a, h4 _ _ _ z⟩
/-- a block's reading, its ends told from an earlier frozen part -/
theorem end_to {t : TS} (h : PSs X ss t) : PSs X ss (fun D2 σ H => ∃ F F0, Same F0 F ∧ D2 = D.E F0 ∧ t (D.E F) σ H) := ⟨fun pins s σ H D2 I ⟨F, F0, sm, e, q⟩ => by
  subst e
  exact thn (h.run pins s σ H (D.E F) I q) fun f s1 q => sp_to q (fun σ H ⟨F, a, z⟩ => ⟨F, sm.trans a, z⟩) (fun σ H ⟨F, a, z⟩ => ⟨F, sm.trans a, z⟩) (fun σ H ⟨F, a, z⟩ => ⟨F, sm.trans a, z⟩) fun σ H ⟨F, a, z⟩ => ⟨F, sm.trans a, z⟩⟩
/-- a statement, then the rest from any of several ends -/
theorem go_seq {ι : Type} {R : ι → List Sl} {C : ι → Prop} (h : Gs X B s r { D with nx := fun σ F H => ∃ i, C i ∧ Ok B (R i) σ F H }) (hr : ∀ i, C i → Go X B rest (R i) D) : Go X B (s :: rest) r D := by
  obtain ⟨t, h1, h2⟩ := h
  have hr' : PSs X rest (fun D2 σ H => ∃ i F F0, D2 = D.E F0 ∧ Same F0 F ∧ C i ∧ Ok B (R i) σ F H) := ⟨fun pins s σ H D2 I ⟨i, F, F0, e, sm, c, k⟩ => by
    subst e
    obtain ⟨t', g1, g2⟩ := hr i c
    exact thn (g1.run pins s σ H (D.E F) I (g2 σ F H k)) fun f s1 q => sp_to q (fun σ H ⟨F, a, z⟩ => ⟨F, sm.trans a, z⟩) (fun σ H ⟨F, a, z⟩ => ⟨F, sm.trans a, z⟩) (fun σ H ⟨F, a, z⟩ => ⟨F, sm.trans a, z⟩) fun σ H ⟨F, a, z⟩ => ⟨F, sm.trans a, z⟩⟩
  refine ⟨fun D2 σ H => ∃ F, D2 = D.E F ∧ t (Dn.E { D with nx := fun σ F H => ∃ i, C i ∧ Ok B (R i) σ F H } F) σ H, ⟨fun pins s σ H D2 I ⟨F, e, q⟩ => ?_⟩, fun σ F H k => ⟨F, rfl, h2 σ F H k⟩⟩
  subst e
  refine PySem.wpAny_execs_cons (thn (h1.run pins s σ H _ I q) fun f s1 q => ?_)
  cases f with
  | next =>
    obtain ⟨σ', H', I', F', sm, i, c, k⟩ := q
    exact hr'.run pins s1 σ' H' (D.E F) I' ⟨i, F', F, rfl, sm, c, k⟩
  | ret v => exact q
  | brk => exact q
  | cont => exact q
theorem go_seq1 (h : Gs X B s r { D with nx := fun σ F H => Ok B r1 σ F H }) (hr : Go X B rest r1 D) : Go X B (s :: rest) r D :=
  go_seq (ι := Unit) (R := fun _ => r1) (C := fun _ => True) (gs_mono h (fun σ F H k => ⟨(), trivial, k⟩) (fun _ _ _ z => z) (fun _ _ _ z => z) fun _ _ _ z => z) fun _ _ => hr
/-- the last statement -/
theorem go_one (h : Gs X B s r D) : Go X B [s] r D := by
  obtain ⟨t, h1, h2⟩ := h
  exact ⟨t, pss_one h1, h2⟩

/-! ### small statements -/
/-- what is stored at a name -/
theorem ok_set {i : Nat} {v : V} {σ : L2.St} {Hs F H : Hp} (k : Ok B r σ F H) (hx : RkOk r Hs σ F H v x) (h0 : ∀ b, B.H0 b ≠ none → Hs b ≠ none) : Ok B (r.set i (Sl.of x)) (σ.set i (some v)) F H := by
  cases x with
  | dat P => exact k.store ⟨v, rfl, hx⟩ fun h => by cases h
  | slot j => exact k.store trivial fun h => by cases h
  | new C =>
    obtain ⟨p, o, rfl, e2, e3, e4, e5, e6⟩ := hx
    refine k.store ⟨p, o, rfl, e2, e3, e4, ?_⟩ fun _ p' ep j t _ h1 h2 h3 => ?_
    · cases q : B.H0 p with
      | none => rfl
      | some u => exact absurd e5 (h0 p (by rw [q]; intro z; cases z))
    · cases ep
      exact e6 ⟨j, t, h1, h2, h3⟩
theorem gs_set {i : Nat} (h : Ex X B e r x r1) {tg : Expr} (hs : ∀ {te : TE}, PE X e te → PS X s (tAsg te (gName i))) : Gs X B s r { D with nx := fun σ F H => Ok B (r1.set i (Sl.of x)) σ F H } :=
  ⟨_, hs h, fun σ F H k => ⟨F, k, fun v F' H' p w => ⟨F', p.st.f, ok_set p.ok w k.dm⟩⟩⟩
/-- x = e -/
theorem go_set {i : Nat} {n : Str} {pos' : Pos} (h : Ex X B e r x r1) (hN : X.N.Nodup) (hi : X.N[i]? = some n) (hx : Loc X.env.scope n) (k : Go X B rest (r1.set i (Sl.of x)) D)
    (hs : swapsWith e (some (.Name n pos')) pos.line X.env = pure false := by rfl) (hf : X.fn n = true ∨ X.env.scope.names.lookup n = some .local := by first | exact .inl rfl | exact .inr rfl | assumption) : Go X B (.Assign [.Name n pos'] e pos :: rest) r D :=
  go_seq1 (gs_set (tg := e) h fun he => ps_set hN hi hx he hs hf) k
/-- e (its value is dropped) -/
theorem go_expr (h : Ex X B e r x r1) (k : Go X B rest r1 D) (hs : swapsWith e none pos.line X.env = pure false := by rfl) : Go X B (.Expr e pos :: rest) r D :=
  go_seq1 ⟨_, ps_expr h hs, fun σ F H k => ⟨F, k, fun v F' H' p w => ⟨F', p.st.f, p.ok⟩⟩⟩ k
theorem go_ret (h : Ex X B e r x r1) (k : ∀ σ Hs F H v, Ok B r1 σ F H → RkOk r1 Hs σ F H v x → (∀ b, B.H0 b ≠ none → Hs b ≠ none) → D.rt v F H) : Go X B (.Return (some e) pos :: rest) r D :=
  go_seq (ι := Empty) (R := fun z => nomatch z) (C := fun _ => True) ⟨_, ps_ret h, fun σ F H ok => ⟨F, ok, fun v F' H' p w => ⟨F', p.st.f, k σ H F' H' v p.ok w ok.dm⟩⟩⟩ fun z => nomatch z
theorem go_if {c : Expr} {bt be : List Stmt} {d : Bool} {ι : Type} {R : ι → List Sl} {C : ι → Prop} (ht : Tx X B c r d r1) (h1 : d = true → Go X B bt r1 { D with nx := fun σ F H => ∃ i, C i ∧ Ok B (R i) σ F H }) (h2 : d = false → Go X B be r1 { D with nx := fun σ F H => ∃ i, C i ∧ Ok B (R i) σ F H })
    (k : ∀ i, C i → Go X B rest (R i) D) : Go X B (.If c bt be pos :: rest) r D := by
  refine go_seq ?_ k
  cases d with
  | true =>
    obtain ⟨t, g1, g2⟩ := h1 rfl
    refine ⟨_, ps_if ht (end_to g1) pss_never, fun σ F H k => ⟨F, k, fun F' H' p => iteT ⟨F', F, p.st.f, rfl, g2 σ F' H' p.ok⟩⟩⟩
  | false =>
    obtain ⟨t, g1, g2⟩ := h2 rfl
    refine ⟨_, ps_if ht pss_never (end_to g1), fun σ F H k => ⟨F, k, fun F' H' p => iteF ⟨F', F, p.st.f, rfl, g2 σ F' H' p.ok⟩⟩⟩
/-- one end for both ways -/
theorem go_ifJ {c : Expr} {bt be : List Stmt} {d : Bool} (ht : Tx X B c r d r1) (h1 : d = true → Go X B bt r1 { D with nx := fun σ F H => Ok B r2 σ F H }) (h2 : d = false → Go X B be r1 { D with nx := fun σ F H => Ok B r2 σ F H })
    (k : Go X B rest r2 D) : Go X B (.If c bt be pos :: rest) r D :=
  go_if (ι := Unit) (R := fun _ => r2) (C := fun _ => True) ht (fun z => go_mono (h1 z) (fun σ F H k => ⟨(), trivial, k⟩) (fun _ _ _ z => z) (fun _ _ _ z => z) fun _ _ _ z => z) (fun z => go_mono (h2 z) (fun σ F H k => ⟨(), trivial, k⟩) (fun _ _ _ z => z) (fun _ _ _ z => z) fun _ _ _ z => z) fun _ _ => k
/-- if c: .. that always leaves -/
theorem go_ifR {c : Expr} {bt : List Stmt} {d : Bool} (ht : Tx X B c r d r1) (h1 : d = true → Go X B bt r1 { D with nx := fun _ _ _ => False })
    (k : d = false → Go X B rest r1 D) : Go X B (.If c bt [] pos :: rest) r D :=
  go_if (ι := PLift (d = false)) (R := fun _ => r1) (C := fun _ => True) ht (fun z => go_mono (h1 z) (fun σ F H k => k.elim) (fun _ _ _ z => z) (fun _ _ _ z => z) fun _ _ _ z => z) (fun z => go_nil fun σ F H k => ⟨⟨z⟩, trivial, k⟩) fun i _ => k i.down
/-- a test whose answer is known -/
theorem go_ifF {c : Expr} {bt : List Stmt} (ht : Tx X B c r false r1) (k : Go X B rest r1 D) : Go X B (.If c bt [] pos :: rest) r D :=
  go_ifR ht (fun z => nomatch z) fun _ => k
theorem go_ifT {c : Expr} {bt be : List Stmt} (ht : Tx X B c r true r1) (h1 : Go X B bt r1 { D with nx := fun σ F H => Ok B r2 σ F H }) (k : Go X B rest r2 D) : Go X B (.If c bt be pos :: rest) r D :=
  go_ifJ ht (fun _ => h1) (fun z => nomatch z) k
/-- a slot that owns is frozen -/
theorem go_frz {i : Nat} {C : Ct} {P : Pd} (e1 : r[i]? = some (.own C)) (hP : ∀ F' p o, C.c F' o → F' p = some o → P.p F' (.ref p)) (h : Go X B ss (r.set i (.dat P)) D) : Go X B ss r D := by
  obtain ⟨t, h1, h2⟩ := h
  exact ⟨_, end_to (D := D) h1, fun σ F H k => by
    obtain ⟨F', p⟩ := k.frz e1 hP
    exact ⟨F', F, p.st.f, rfl, h2 σ F' H p.ok⟩⟩
/-- a thing known to be one of several is opened -/
theorem go_open {i : Nat} {ι : Type} {P : Pd} {Pi : ι → Pd} {C : ι → Prop} (e1 : r[i]? = some (.dat P)) (hP : ∀ F v, P.p F v → ∃ j, C j ∧ (Pi j).p F v) (h : ∀ j, C j → Go X B ss (r.set i (.dat (Pi j))) D) : Go X B ss r D := by
  refine ⟨fun D2 σ H => ∃ F j, D2 = D.E F ∧ C j ∧ Ok B (r.set i (.dat (Pi j))) σ F H, ⟨fun pins s σ H D2 I ⟨F, j, e, c, k⟩ => ?_⟩, fun σ F H k => ?_⟩
  · subst e
    obtain ⟨t, g1, g2⟩ := h j c
    exact g1.run pins s σ H (D.E F) I (g2 σ F H k)
  · obtain ⟨v, e, hp⟩ := k.sl i _ e1
    obtain ⟨j, c, hp⟩ := hP F v hp
    refine ⟨F, j, rfl, c, ?_⟩
    have hi : i < σ.length := (List.getElem?_eq_some_iff.mp e).1
    have z := k.store (i := i) (v := v) (s := .dat (Pi j)) ⟨v, rfl, hp⟩ fun h => by cases h
    have eσ : σ.set i (some v) = σ := by
      apply List.ext_getElem? 
      intro m
      by_cases hm : i = m
      · subst hm; rw [List.getElem?_set_self hi, e]
      · rw [List.getElem?_set_ne hm]
    rw [eσ] at z
    exact z
/-- a slot's told value is told in other words -/
theorem go_slot {i : Nat} {P P' : Pd} (e1 : r[i]? = some (.dat P)) (hP : ∀ F v, P.p F v → P'.p F v) (h : Go X B ss (r.set i (.dat P')) D) : Go X B ss r D :=
  go_open (ι := Unit) (Pi := fun _ => P') (C := fun _ => True) e1 (fun F v z => ⟨(), trivial, hP F v z⟩) fun _ _ => h
theorem go_env (h : Go X B ss r1 D) (e : r1 = r) : Go X B ss r D := by rw [← e]; exact h

/-! ### lists and dicts that a name owns, changed -/
/-- the list at a slot -/
structure LsS (K : PySem.W.Frag) (r : List Sl) (i : Nat) {α : Type} [Rp α] (xs : List α) (sl : Sl) : Prop where
  g : r[i]? = some sl
  h : sl = .own (lstC K xs) ∨ ∃ j, sl = .io j (lstC K xs)
theorem ls_own {K : PySem.W.Frag} {i : Nat} {α : Type} [Rp α] {xs : List α} (h : r[i]? = some (.own (lstC K xs))) : LsS K r i xs (.own (lstC K xs)) := ⟨h, .inl rfl⟩
theorem ls_io {K : PySem.W.Frag} {i j : Nat} {α : Type} [Rp α] {xs : List α} (h : r[i]? = some (.io j (lstC K xs))) : LsS K r i xs (.io j (lstC K xs)) := ⟨h, .inr ⟨j, rfl⟩⟩
theorem LsS.own {K : PySem.W.Frag} {i : Nat} {α : Type} [Rp α] {xs : List α} {sl : Sl} (h : LsS K r i xs sl) : sl.isOwn = true := by
  rcases h.h with e | ⟨j, e⟩ <;> subst e <;> rfl
theorem LsS.at {K : PySem.W.Frag} {i : Nat} {α : Type} [Rp α] {xs : List α} {sl : Sl} (h : LsS K r i xs sl) {σ : L2.St} {F H : Hp} (k : Ok B r σ F H) : ∃ p vs, σ[i]? = some (some (.ref p)) ∧ H p = some (.lst vs) ∧ All2 K F vs xs ∧ F p = none := by
  have z := k.sl i _ h.g
  rcases h.h with e | ⟨j, e⟩ <;> subst e
  · obtain ⟨p, o, e1, e2, e3, ⟨vs, e4, e5⟩, _⟩ := z
    exact ⟨p, vs, e1, by rw [e3, e4], e5, e2⟩
  · obtain ⟨p, o, e1, e2, e3, ⟨vs, e4, e5⟩, _⟩ := z
    exact ⟨p, vs, e1, by rw [e3, e4], e5, e2⟩
section
variable {α : Type} [Rp α] {xs0 xs : List α} {y : α} {i : Nat} {sl0 sl : Sl} {o : Expr} {apos : Pos}
/-- xs.append(e) -/
theorem go_app (ho : PE X o (tVar i)) (h : Ex X B e r (.dat (is X.K y)) r1) (hr0 : LsS X.K r i xs0 sl0) (hr : LsS X.K r1 i xs sl) (hl : xs.length < sizeLine)
    (k : Go X B rest (r1.set i (sl.put (lstC X.K (xs ++ [y])))) D) (hs : swapsWith (.Call (.Attribute o "append" apos) [e] [] pos) none pos.line X.env = pure false := by rfl)
    (hbase : attributeBase o "append" X.env (eval o X.env) = eval o X.env := by rfl)
    (hfew : ((backTo pos (starEach [e] X.env)).all (fun x => !x.1) && (backToKw pos (keywordEach [] X.env)).all (fun x => x.1.isSome)
      && decide ([e].length + ([] : List Keyword).length + (if ([] : List Keyword).isEmpty then 0 else 1) < 30)) = true := by rfl)
    (hline : (apos.endLine == pos.line) = true := by rfl) (hst : starEach [e] X.env = (false, eval e X.env) :: starEach [] X.env := by rfl) (hplain : (backTo pos (starEach [] X.env)).any (·.1) = false := by rfl) :
    Go X B (.Expr (.Call (.Attribute o "append" apos) [e] [] pos) pos :: rest) r D := by
  refine go_seq1 ⟨_, ps_expr (pe_bm PySem.F.plainAttrs_list PySem.F.slot_list_append PySem.F.type_list_append mt_append ho (pa_cons h pa_nil hst) hbase hfew hline hst hplain) hs, fun σ F H ok => ?_⟩ k
  obtain ⟨p, vs0, hσ, hp, _, _⟩ := hr0.at ok
  refine ⟨_, hσ, Or.inl ⟨rfl, vs0, .of hp⟩, F, ok, fun v F1 H1 p1 w1 => ?_⟩
  obtain ⟨p', vs, hσ', hp', a2, hn⟩ := hr.at p1.ok
  rw [hσ] at hσ'; cases hσ'
  refine ⟨p, vs, v, rfl, rfl, hp', by rw [a2.len]; exact hl, F1, p1.st.f, ?_⟩
  exact (p1.ok.write (C' := lstC X.K (xs ++ [y])) hr.g hr.own hσ ⟨_, rfl, Paired.append a2 (.cons w1 .nil)⟩).ok
theorem Paired.set {α β : Type} {R : α → β → Prop} : ∀ {xs : List α} {ys : List β} (i : Nat) {x : α} {y : β}, Paired R xs ys → R x y → Paired R (xs.set i x) (ys.set i y)
  | _, _, _, _, _, .nil, _ => .nil
  | _, _, 0, _, _, .cons _ t, h => .cons h t
  | _, _, i + 1, _, _, .cons q t, h => .cons q (Paired.set i t h)
/-- xs[i] = e -/
theorem go_setL {ti : Expr} {j : Int} {sp : Pos} {xs1 : List α} {sl1 : Sl} (ho : PE X o (tVar i)) (h : Ex X B e r (.dat (is X.K y)) r1) (hi : Ex X B ti r1 (.dat (is X.K j)) r2) (hr1 : LsS X.K r1 i xs1 sl1) (hr : LsS X.K r2 i xs sl) (hj : 0 ≤ j ∧ j < xs.length)
    (k : Go X B rest (r2.set i (sl.put (lstC X.K (xs.set j.toNat y)))) D) (hs : swapsWithSole [.Subscript o ti sp] e pos.line X.env = pure false := by rfl) (hw : swappedStores [.Subscript o ti sp] e X.env = pure none := by rfl)
    (h1 : (assignEach [.Subscript o ti sp] X.env).map (·.2) = [assign (.Subscript o ti sp) X.env] := by rfl) (ha : ∀ v, assign (.Subscript o ti sp) X.env v = (do
      let ov ← holding [v] (eval o X.env)
      let iv ← holding [v, ov] (eval ti X.env)
      standAt sp
      holding [v, ov, iv] (setItem ov iv v)
      release [v, ov, iv] []) := by intro _; rfl) :
    Go X B (.Assign [.Subscript o ti sp] e pos :: rest) r D := by
  refine go_seq1 ⟨_, ps_asg h (pg_sub ho hi set_list ha) hs hw h1, fun σ F H ok => ⟨F, ok, fun v F1 H1 p1 w1 => ?_⟩⟩ k
  obtain ⟨p, vs0, hσ, _⟩ := hr1.at p1.ok
  refine ⟨_, hσ, F1, p1.ok, fun u F2 H2 p2 w2 => ?_⟩
  obtain ⟨p', vs, hσ', hp', a2, hn⟩ := hr.at p2.ok
  rw [hσ] at hσ'; cases hσ'
  cases w2
  refine ⟨p, vs, j, j.toNat, rfl, rfl, hp', ?_, F2, p1.st.f.trans p2.st.f, ?_⟩
  · unfold ixN
    rw [a2.len, if_pos hj.1, if_pos hj.2]
  · exact (p2.ok.write (C' := lstC X.K (xs.set j.toNat y)) hr.g hr.own hσ ⟨_, rfl, Paired.set _ a2 (Rp.mono p2.st.f w1)⟩).ok
end

/-! ### dicts -/
def dget {β : Type} (kvs : List (Key × β)) (k : Key) : Option β := (kvs.find? fun kv => decide (kv.1 = k)).map (·.2)
def dput {β : Type} (kvs : List (Key × β)) (k : Key) (v : β) : List (Key × β) :=
  if (kvs.any fun kv => decide (kv.1 = k)) = true then kvs.map (fun kv => if kv.1 = k then (kv.1, v) else kv) else kvs ++ [(k, v)]
theorem KAll.get {β : Type} [Rp β] {K : PySem.W.Frag} {F : Hp} {k : Key} : ∀ {vs : List (Key × V)} {xs : List (Key × β)}, KAll K F vs xs → match dget xs k with
    | some x => ∃ v, valV vs k = some v ∧ Rp.rp K F v x
    | none => valV vs k = none
  | [], [], _ => rfl
  | [], _ :: _, h => nomatch h
  | _ :: _, [], h => nomatch h
  | v :: vs, x :: xs, .cons h t => by
    by_cases e : x.1 = k
    · have e2 : dget (x :: xs) k = some x.2 := by simp [dget, List.find?_cons, e]
      rw [e2]
      exact ⟨v.2, valV_pos (h.1.trans e), h.2⟩
    · have e2 : dget (x :: xs) k = dget xs k := by simp [dget, List.find?_cons, e]
      rw [e2, valV_neg (fun z => e (h.1.symm.trans z))]
      exact KAll.get t
theorem KAll.any {β : Type} [Rp β] {K : PySem.W.Frag} {F : Hp} {k : Key} : ∀ {vs : List (Key × V)} {xs : List (Key × β)}, KAll K F vs xs → (vs.any fun kv => decide (kv.1 = k)) = xs.any fun kv => decide (kv.1 = k)
  | [], [], _ => rfl
  | [], _ :: _, h => nomatch h
  | _ :: _, [], h => nomatch h
  | v :: vs, x :: xs, .cons h t => by
    rw [List.any_cons, List.any_cons, h.1, KAll.any t]
theorem KAll.map {β : Type} [Rp β] {K : PySem.W.Frag} {F : Hp} {k : Key} {w : V} {y : β} (q : Rp.rp K F w y) : ∀ {vs : List (Key × V)} {xs : List (Key × β)}, KAll K F vs xs →
    KAll K F (vs.map fun kv => if kv.1 = k then (kv.1, w) else kv) (xs.map fun kv => if kv.1 = k then (kv.1, y) else kv)
  | [], [], _ => .nil
  | [], _ :: _, h => nomatch h
  | _ :: _, [], h => nomatch h
  | v :: vs, x :: xs, .cons h t => by
    refine .cons ?_ (KAll.map q t)
    dsimp only
    rw [h.1]
    by_cases e : x.1 = k
    · rw [if_pos e, if_pos e]; exact ⟨rfl, q⟩
    · rw [if_neg e, if_neg e]; exact h
theorem KAll.put {β : Type} [Rp β] {K : PySem.W.Frag} {F : Hp} {k : Key} {w : V} {y : β} {vs : List (Key × V)} {xs : List (Key × β)} (h : KAll K F vs xs) (q : Rp.rp K F w y) : KAll K F (putK vs k w) (dput xs k y) := by
  unfold putK dput
  rw [KAll.any h]
  by_cases e : (xs.any fun kv => decide (kv.1 = k)) = true
  · rw [if_pos e, if_pos e]; exact KAll.map q h
  · rw [if_neg e, if_neg e]; exact Paired.append h (.cons ⟨rfl, q⟩ .nil)
class KeyT (α : Type) [Rp α] where
  k : α → Key
  is : ∀ {K : PySem.W.Frag} {F : Hp} {u : V} {x : α}, Rp.rp K F u x → u = kV (k x)
instance : KeyT Int := ⟨.inl, fun h => h⟩
instance : KeyT Str := ⟨.inr, fun h => h⟩
structure DcS (K : PySem.W.Frag) (r : List Sl) (i : Nat) {β : Type} [Rp β] (xs : List (Key × β)) (sl : Sl) : Prop where
  g : r[i]? = some sl
  h : sl = .own (dicC K xs) ∨ ∃ j, sl = .io j (dicC K xs)
theorem dc_own {K : PySem.W.Frag} {i : Nat} {α : Type} [Rp α] {xs : List (Key × α)} (h : r[i]? = some (.own (dicC K xs))) : DcS K r i xs (.own (dicC K xs)) := ⟨h, .inl rfl⟩
theorem dc_io {K : PySem.W.Frag} {i j : Nat} {α : Type} [Rp α] {xs : List (Key × α)} (h : r[i]? = some (.io j (dicC K xs))) : DcS K r i xs (.io j (dicC K xs)) := ⟨h, .inr ⟨j, rfl⟩⟩
theorem DcS.own {K : PySem.W.Frag} {i : Nat} {α : Type} [Rp α] {xs : List (Key × α)} {sl : Sl} (h : DcS K r i xs sl) : sl.isOwn = true := by
  rcases h.h with e | ⟨j, e⟩ <;> subst e <;> rfl
theorem DcS.at {K : PySem.W.Frag} {i : Nat} {α : Type} [Rp α] {xs : List (Key × α)} {sl : Sl} (h : DcS K r i xs sl) {σ : L2.St} {F H : Hp} (k : Ok B r σ F H) : ∃ p vs, σ[i]? = some (some (.ref p)) ∧ H p = some (.dK vs) ∧ KAll K F vs xs ∧ F p = none := by
  have z := k.sl i _ h.g
  rcases h.h with e | ⟨j, e⟩ <;> subst e
  · obtain ⟨p, o, e1, e2, e3, ⟨vs, e4, e5⟩, _⟩ := z
    exact ⟨p, vs, e1, by rw [e3, e4], e5, e2⟩
  · obtain ⟨p, o, e1, e2, e3, ⟨vs, e4, e5⟩, _⟩ := z
    exact ⟨p, vs, e1, by rw [e3, e4], e5, e2⟩
/-- d[k] = e -/
theorem go_dput {κ β : Type} [Rp κ] [KeyT κ] [Rp β] {xs1 xs : List (Key × β)} {y : β} {i : Nat} {sl1 sl : Sl} {o ti : Expr} {q : κ} {sp : Pos} (hu : X.A.units + 1 < cLine) (ho : PE X o (tVar i)) (h : Ex X B e r (.dat (is X.K y)) r1) (hi : Ex X B ti r1 (.dat (is X.K q)) r2) (hr1 : DcS X.K r1 i xs1 sl1) (hr : DcS X.K r2 i xs sl) (hl : xs.length < sizeLine)
    (k : Go X B rest (r2.set i (sl.put (dicC X.K (dput xs (KeyT.k q) y)))) D) (hs : swapsWith e (some (.Subscript o ti sp)) pos.line X.env = pure false := by rfl) : Go X B (.Assign [.Subscript o ti sp] e pos :: rest) r D := by
  refine go_seq1 ⟨_, ps_dput hu ho hi h hs, fun σ F H ok => ⟨F, ok, fun v F1 H1 p1 w1 => ?_⟩⟩ k
  obtain ⟨p, vs0, hσ, _⟩ := hr1.at p1.ok
  refine ⟨_, hσ, F1, p1.ok, fun u F2 H2 p2 w2 => ?_⟩
  obtain ⟨p', vs, hσ', hp', a2, hn⟩ := hr.at p2.ok
  rw [hσ] at hσ'; cases hσ'
  have e := KeyT.is w2
  subst e
  refine ⟨p, _, rfl, DPut.k hp' (by rw [paired_len a2]; exact hl), F2, p1.st.f.trans p2.st.f, ?_⟩
  exact (p2.ok.write (C' := dicC X.K (dput xs (KeyT.k q) y)) hr.g hr.own hσ ⟨_, rfl, KAll.put a2 (Rp.mono p2.st.f w1)⟩).ok
/-- dicts that are read -/
structure DcR (K : PySem.W.Frag) (B : Bs) (r : List Sl) (x : Rk) {β : Type} [Rp β] (xs : List (Key × β)) : Prop where
  rd : ∀ σ Hs F H v, Ok B r σ F H → RkOk r Hs σ F H v x → ∃ a vs, v = .ref a ∧ Rd H a (.dK vs) ∧ KAll K F vs xs
theorem dr_dat {K : PySem.W.Frag} {α : Type} [Rp α] {xs : Dc α} : DcR K B r (.dat (is K xs)) xs.l := ⟨fun σ Hs F H v k ⟨a, vs, e1, e2, e3⟩ => ⟨a, vs, e1, by
  rcases k.fh a _ e2 with z | ⟨_, _, od, z⟩
  · exact .inl z
  · exact .inr ⟨od, z⟩, e3⟩⟩
theorem dr_sl {K : PySem.W.Frag} {α : Type} [Rp α] {xs : List (Key × α)} {i : Nat} {sl : Sl} (h : DcS K r i xs sl) : DcR K B r (.slot i) xs := ⟨fun σ Hs F H v k w => by
  obtain ⟨p, vs, e1, e2, e3, _⟩ := h.at k
  have e := (show σ[i]? = some (some v) from w).symm.trans e1
  cases e
  exact ⟨p, vs, rfl, .inl e2, e3⟩⟩
theorem rd_sl {K : PySem.W.Frag} {α : Type} [Rp α] {xs : List α} {i : Nat} {sl : Sl} (h : LsS K r i xs sl) : LsR K B r (.slot i) xs := ⟨fun σ Hs F H v k w => by
  obtain ⟨p, vs, e1, e2, e3, _⟩ := h.at k
  have e := (show σ[i]? = some (some v) from w).symm.trans e1
  cases e
  exact ⟨p, vs, rfl, e2, e3⟩⟩
theorem dgetAt {H : Hp} {a : Addr} {kvs : List (Key × V)} {k : Key} (e : Rd H a (.dK kvs)) : DGet H a (kV k) (valV kvs k) := .inl ⟨kvs, k, e, rfl, rfl⟩
section
variable {κ β : Type} [Rp κ] [KeyT κ] [Rp β] {kvs : List (Key × β)} {q : κ} {ra : Rk}
theorem q_din (hu : X.A.units + 1 < cLine) (ha : Ex X B a r (.dat (is X.K q)) r1) (hb : Ex X B b r1 ra r2) (rd : DcR X.K B r2 ra kvs) (hm : behindInMarks .In b = false := by first | exact nobehind _ (by decide) (by decide) | rfl) : Pc X B .In a b r (is X.K (dget kvs (KeyT.k q)).isSome) r2 :=
  Pc.mk' hm <| PC.imp (pc_din hu ha hb) fun σ H Q ⟨F, k, g⟩ => ⟨F, k, fun u F1 H1 p1 w1 => ⟨F1, p1.ok, fun v F2 H2 p2 w2 => by
    obtain ⟨p, vs, e1, e2, e3⟩ := rd.rd σ H1 F2 H2 v p2.ok w2
    have e := KeyT.is w1
    subst e
    refine ⟨p, _, e1, dgetAt e2, g _ F2 H2 (p1.trans p2) ?_⟩
    have z := KAll.get (k := KeyT.k q) e3
    show V.bl _ = V.bl _
    cases h : dget kvs (KeyT.k q) with
    | none => rw [h] at z; rw [show valV vs (KeyT.k q) = none from z]; rfl
    | some x => rw [h] at z; obtain ⟨w, z1, _⟩ := z; rw [z1]; rfl⟩⟩
theorem q_dnotin (hu : X.A.units + 1 < cLine) (ha : Ex X B a r (.dat (is X.K q)) r1) (hb : Ex X B b r1 ra r2) (rd : DcR X.K B r2 ra kvs) (hm : behindInMarks .NotIn b = false := by first | exact nobehind _ (by decide) (by decide) | rfl) : Pc X B .NotIn a b r (is X.K (!(dget kvs (KeyT.k q)).isSome)) r2 :=
  Pc.mk' hm <| PC.imp (pc_dnotin hu ha hb) fun σ H Q ⟨F, k, g⟩ => ⟨F, k, fun u F1 H1 p1 w1 => ⟨F1, p1.ok, fun v F2 H2 p2 w2 => by
    obtain ⟨p, vs, e1, e2, e3⟩ := rd.rd σ H1 F2 H2 v p2.ok w2
    have e := KeyT.is w1
    subst e
    refine ⟨p, _, e1, dgetAt e2, g _ F2 H2 (p1.trans p2) ?_⟩
    have z := KAll.get (k := KeyT.k q) e3
    show V.bl _ = V.bl _
    cases h : dget kvs (KeyT.k q) with
    | none => rw [h] at z; rw [show valV vs (KeyT.k q) = none from z]; rfl
    | some x => rw [h] at z; obtain ⟨w, z1, _⟩ := z; rw [z1]; rfl⟩⟩
theorem ex_dget {y : β} (hu : X.A.units + 1 < cLine) (ha : Ex X B a r ra r1) (hb : Ex X B b r1 (.dat (is X.K q)) r2) (rd : DcR X.K B r2 ra kvs) (h : dget kvs (KeyT.k q) = some y) (hs : NoSl b := by exact fun _ _ => rfl) : Ex X B (.Subscript a b pos) r (.dat (is X.K y)) r2 :=
  PE.imp (pe_dget hu ha hb hs) fun σ H Q ⟨F, k, g⟩ => ⟨F, k, fun u F1 H1 p1 w1 => ⟨F1, p1.ok, fun v F2 H2 p2 w2 => by
    obtain ⟨p, vs, e1, e2, e3⟩ := rd.rd σ H F2 H2 u p2.ok (w1.step p2)
    have e := KeyT.is w2
    subst e
    have z := KAll.get (k := KeyT.k q) e3
    rw [h] at z
    obtain ⟨w, z1, z2⟩ := z
    refine ⟨p, w, e1, ?_, g _ F2 H2 (p1.trans p2) z2⟩
    rw [← z1]
    exact dgetAt e2⟩⟩
end
theorem ex_dnew {β : Type} [Rp β] : Ex X B (.Dict [] [] pos) r (.new (dicC X.K ([] : List (Key × β)))) r := PE.imp pe_dnewK fun σ H Q ⟨F, k, g⟩ d hd => g (.ref d) F _ (Post.alloc k hd) (RkOk.alloc k hd ⟨[], rfl, .nil⟩)

/-! ### what is walked -/
/-- the turns of a walk yield these -/
def Yl (lk : List Addr) {α : Type} (xs : List α) (P : α → Pd) (F1 : Hp) (J : It) : Prop := ∀ i F' H', Same F1 F' → Fh lk F' H' →
  (∀ x, xs[i]? = some x → J.go i H' ∧ ∀ u H'', J.yld i H' u H'' → ∃ F'', Stp (fun _ => False) F' H' F'' H'' ∧ Fh lk F'' H'' ∧ (P x).p F'' u) ∧ (xs.length ≤ i → J.stop i H')
def Src (X : Cx) (B : Bs) (tg iter : Expr) (r : List Sl) {α : Type} (xs : List α) (P : α → Pd) (r1 : List Sl) : Prop :=
  ∃ wi, PI X tg iter wi ∧ ∀ σ F H (R : It → Hp → Prop), Ok B r σ F H → (∀ J F1 H1, Post B r σ F H r1 F1 H1 → Yl B.lk xs P F1 J → R J H1) → wi σ H R
theorem yl_list {lk : List Addr} {K : PySem.W.Frag} {α : Type} [Rp α] {xs : List α} {F1 : Hp} {p : Addr} {vs : List V} (e : F1 p = some (.lst vs)) (a : All2 K F1 vs xs) : Yl lk xs (is K) F1 (Itl K p) := fun i F' H' sm fh => by
  have h1 : SqL K H' p vs := .of (fh.at (sm _ _ e) rfl)
  refine ⟨fun x hx => ?_, fun hi => ⟨vs, h1, by rw [a.len]; exact hi⟩⟩
  obtain ⟨u, hu, ru⟩ := Paired.get a hx
  refine ⟨⟨vs, u, h1, hu⟩, fun w H'' y => ?_⟩
  obtain ⟨rfl, y⟩ := y
  have e2 := y vs h1
  rw [hu] at e2; cases e2
  exact ⟨F', Stp.refl _ _ _, fh, Rp.mono sm ru⟩
theorem src_list {tg iter : Expr} {α : Type} [Rp α] {xs : List α} (h : Ex X B iter r (.dat (is X.K xs)) r1) : Src X B tg iter r xs (is X.K) r1 :=
  ⟨_, pi_list h, fun σ F H R k q => ⟨F, k, fun v F1 H1 p w => by
    obtain ⟨a, vs, e1, e2, e3⟩ := w
    exact ⟨a, e1, ⟨vs, .of (p.ok.fh.at e2 rfl)⟩, q _ F1 H1 p (yl_list e2 e3)⟩⟩⟩
def rangeI (lo hi : Int) : List Int := (List.range (hi - lo).toNat).map fun (i : Nat) => lo + (i : Int)
theorem rangeI_get {lo hi : Int} {i : Nat} {x : Int} (h : (rangeI lo hi)[i]? = some x) : x = lo + i ∧ i < (hi - lo).toNat := by
  unfold rangeI at h
  rw [List.getElem?_map] at h
  cases q : (List.range (hi - lo).toNat)[i]? with
  | none => rw [q] at h; cases h
  | some j =>
    rw [q] at h
    obtain ⟨h1, h2⟩ := List.getElem?_eq_some_iff.mp q
    rw [List.getElem_range] at h2
    subst h2
    exact ⟨(Option.some.inj h).symm, by simpa using h1⟩
theorem yl_range {lk : List Addr} {K : PySem.W.Frag} {lo hi : Int} {F1 : Hp} : Yl lk (rangeI lo hi) (is K) F1 (Itr lo (hi - lo).toNat) := fun i F' H' sm fh => by
  refine ⟨fun x hx => ?_, fun h => ?_⟩
  · obtain ⟨e, hlt⟩ := rangeI_get hx
    refine ⟨hlt, fun u H'' y => ?_⟩
    obtain ⟨rfl, rfl⟩ := y
    exact ⟨F', Stp.refl _ _ _, fh, by subst e; rfl⟩
  · have e : (rangeI lo hi).length = (hi - lo).toNat := by unfold rangeI; rw [List.length_map, List.length_range]
    exact e ▸ h
section
variable {tg : Expr} {p : Pos}
theorem src_range1 {n : Int} (hm : X.mg "range" = none) (ha : Ex X B a r (.dat (is X.K n)) r1) (hn : -(2 ^ 62) ≤ n ∧ n < 2 ^ 62) (hg : Gl X "range" := by rfl) (hs : starEach [a] X.env = [(false, eval a X.env)] := by rfl) : Src X B tg (.Call (.Name "range" p) [a] [] pos) r (rangeI 0 n) (is X.K) r1 :=
  ⟨_, pi_range1 hg hm (ax1 ha hs) hs, fun σ F H R k q => ⟨F, k, fun vs F1 H1 p w => by
    obtain ⟨v, rfl, w1⟩ := pr1 w
    cases w1
    refine ⟨n, rfl, hn.1, hn.2, q _ F1 H1 p ?_⟩
    have z := yl_range (lk := B.lk) (K := X.K) (lo := 0) (hi := n) (F1 := F1)
    rw [Int.sub_zero] at z
    exact z⟩⟩
theorem src_range2 {m n : Int} (hm : X.mg "range" = none) (ha : Ex X B a r (.dat (is X.K m)) r1) (hb : Ex X B b r1 (.dat (is X.K n)) r2) (hn : -(2 ^ 62) ≤ m ∧ m < 2 ^ 62 ∧ -(2 ^ 62) ≤ n ∧ n < 2 ^ 62) (hg : Gl X "range" := by rfl) (hs : starEach [a, b] X.env = [(false, eval a X.env), (false, eval b X.env)] := by rfl) (hs2 : starEach [b] X.env = [(false, eval b X.env)] := by rfl) : Src X B tg (.Call (.Name "range" p) [a, b] [] pos) r (rangeI m n) (is X.K) r2 :=
  ⟨_, pi_range2 hg hm (ax2 ha hb (by rw [hs, hs2]) hs2) hs hs2, fun σ F H R k q => ⟨F, k, fun vs F1 H1 p w => by
    obtain ⟨v, u, rfl, w1, w2⟩ := pr2 w
    cases w1; cases w2
    exact ⟨m, n, rfl, hn, q _ F1 H1 p yl_range⟩⟩⟩
end

/-! ### targets -/
/-- the target g binds a thing like P: from r to r', only names at vs change -/
def Bnd (B : Bs) (g : TG) (P : Pd) (vs : List Nat) (r r' : List Sl) : Prop := ∀ σ F H v (Q : L2.St → Hp → Prop), Ok B r σ F H → P.p F v → (∀ σ', Ok B r' σ' F H → σ'.length = σ.length → (∀ i, i ∉ vs → σ'[i]? = σ[i]?) → (∀ b, Owned r' σ' b → Owned r σ b) → Q σ' H) → g v σ H Q
theorem owned_set {i : Nat} {v : V} {P : Pd} {σ : L2.St} {b0 : Addr} (h : Owned (r.set i (.dat P)) (σ.set i (some v)) b0) : Owned r σ b0 := by
  obtain ⟨j, s, e, h1, h2⟩ := h
  by_cases hj : i = j
  · subst hj
    have z := (List.getElem?_eq_some_iff.mp e).1
    rw [List.length_set] at z
    rw [List.getElem?_set_self z] at e; cases e; cases h1
  · rw [List.getElem?_set_ne hj] at e h2
    exact ⟨j, s, e, h1, h2⟩
theorem bnd_name {i : Nat} {P : Pd} : Bnd B (gName i) P [i] r (r.set i (.dat P)) := fun σ F H v Q k hp q =>
  q _ (k.store ⟨v, rfl, hp⟩ fun h => by cases h) (List.length_set) (fun j hj => List.getElem?_set_ne fun z => hj (by simp [z])) fun b z => owned_set z
theorem bnd_pair {i j : Nat} {K : PySem.W.Frag} {α β : Type} [Rp α] [Rp β] {x : α × β} : Bnd B (gTup K 2 (gCons (gName i) (gCons (gName j) gNil))) (is K x) [i, j] r ((r.set i (.dat (is K x.1))).set j (.dat (is K x.2))) := fun σ F H v Q k ⟨p, u, w, e1, e2, e3, e4⟩ q => by
  have e5 : SqT K H p [u, w] := by
    rcases e2 with (z | ⟨o, z⟩) | z
    · exact Evl.st_of (k.fh.at z rfl)
    · exact .inl (.inr ⟨o, k.fh.at z rfl⟩)
    · exact .inr z
  refine ⟨p, _, e1, e5, rfl, u, _, rfl, w, _, rfl, rfl, ?_⟩
  have k1 := k.store (i := i) (v := u) (s := .dat (is K x.1)) ⟨u, rfl, e3⟩ fun h => by cases h
  have k2 := k1.store (i := j) (v := w) (s := .dat (is K x.2)) ⟨w, rfl, e4⟩ fun h => by cases h
  exact q _ k2 (by rw [List.length_set, List.length_set]) (fun m hm => by
    rw [List.getElem?_set_ne fun z => hm (by simp [z]), List.getElem?_set_ne fun z => hm (by simp [z])]) fun b z => owned_set (owned_set z)

/-! ### for -/
theorem go_for {α S : Type} {xs : List α} {P : α → Pd} {tg iter : Expr} {body : List Stmt} {g : TG} {vs : List Nat} (J : Nat → S → Prop) (R : S → List Sl) (rb : S → α → List Sl) (Bk : L2.St → Hp → Hp → Prop) (src : Src X B tg iter r xs P r1) (hg : PG X tg g)
    (bnd : ∀ i x s, xs[i]? = some x → J i s → Bnd B g (P x) vs (R s) (rb s x)) (s0 : S) (w0 : Weak r1 (R s0)) (h0 : J 0 s0)
    (hb : ∀ i x s, xs[i]? = some x → J i s → Go X B body (rb s x) { D with nx := fun σ F H => ∃ s', J (i + 1) s' ∧ Ok B (R s') σ F H, ct := fun σ F H => ∃ s', J (i + 1) s' ∧ Ok B (R s') σ F H, bk := Bk })
    {ι : Type} {Rk : ι → List Sl} {C : ι → Prop} (hk : ∀ σ F H, Bk σ F H → ∃ i, C i ∧ Ok B (Rk i) σ F H) (hd : ∀ s, J xs.length s → ∃ i, C i ∧ Weak (R s) (Rk i)) (k : ∀ i, C i → Go X B rest (Rk i) D)
    (hp : PassesOwn (model X.prog X.w) X.A X.env X.xe := by exact PassesOwn.never) (hc : X.calm = true := by rfl) (hfs : ∀ x, foldedSetIterable iter X.env x = pure x := by intro _; rfl) : Go X B (.For tg iter body [] pos :: rest) r D := by
  refine go_seq (R := Rk) (C := C) ?_ k
  obtain ⟨wi, s1, s2⟩ := src
  -- the body, its ends told as the loop wants them
  have hbody : PSs X body (fun D2 σ H => ∃ i x s F, xs[i]? = some x ∧ J i s ∧ Ok B (rb s x) σ F H ∧ (∀ v F' H', Same F F' → D.rt v F' H' → D2.rt v H') ∧ (∀ σ' F' H' s', Same F F' → J (i + 1) s' → Ok B (R s') σ' F' H' → D2.nx σ' H' ∧ D2.ct σ' H') ∧ (∀ σ' F' H', Same F F' → Bk σ' F' H' → D2.bk σ' H')) :=
    ⟨fun pins st σ H D2 I ⟨i, x, s, F, hx, hj, ok, e1, e2, e3⟩ => by
      obtain ⟨t, g1, g2⟩ := hb i x s hx hj
      exact thn (g1.run pins st σ H _ I (g2 σ F H ok)) fun f s1 q => sp_to q (fun σ H ⟨F', a, s', j', o'⟩ => (e2 σ F' H s' a j' o').1) (fun v H ⟨F', a, z⟩ => e1 v F' H a z) (fun σ H ⟨F', a, z⟩ => e3 σ F' H a z) fun σ H ⟨F', a, s', j', o'⟩ => (e2 σ F' H s' a j' o').2⟩
  refine ⟨_, ps_for hp hc s1 hg hbody hfs, fun σ F H ok => s2 σ F H _ ok fun It F1 H1 p1 yl => ?_⟩
  refine ⟨fun i m σ' H' => m = xs.length - i ∧ i ≤ xs.length ∧ ∃ s F', J i s ∧ Same F1 F' ∧ Ok B (R s) σ' F' H', ⟨xs.length, by simp, Nat.zero_le _, s0, F1, h0, fun _ _ z => z, p1.ok.weak w0⟩, ?_⟩
  rintro i m σ' H' ⟨rfl, hi, s, F', hj, sm, ok'⟩
  obtain ⟨y1, y2⟩ := yl i F' H' sm ok'.fh
  by_cases hlt : i < xs.length
  · have hx : xs[i]? = some xs[i] := List.getElem?_eq_getElem hlt
    obtain ⟨z1, z2⟩ := y1 _ hx
    refine .inr ⟨z1, fun σ2 H2 => ∃ s' F2, J (i + 1) s' ∧ Same F1 F2 ∧ Ok B (R s') σ2 F2 H2, fun σ2 H2 ⟨s', F2, j', sm2, o2⟩ => ⟨xs.length - (i + 1), by omega, rfl, hlt, s', F2, j', sm2, o2⟩, fun u H'' yy => ?_⟩
    obtain ⟨F'', st, fh, pu⟩ := z2 u H'' yy
    have ok2 := ok'.step st (fun _ z => z.elim) fh
    have sF : Same F1 F'' := sm.trans st.f
    refine bnd i _ s hx hj σ' F'' H'' u _ ok2 pu fun σ3 ok3 _ _ _ => ⟨i, _, s, F'', hx, hj, ok3, fun v F4 H4 a z => ⟨F4, p1.st.f.trans (sF.trans a), z⟩, fun σ4 F4 H4 s' a j' o' => ⟨⟨s', F4, j', sF.trans a, o'⟩, ⟨s', F4, j', sF.trans a, o'⟩⟩, fun σ4 F4 H4 a z => ⟨F4, p1.st.f.trans (sF.trans a), hk σ4 F4 H4 z⟩⟩
  · have e : i = xs.length := by omega
    subst e
    obtain ⟨j, c, w⟩ := hd s hj
    exact .inl ⟨y2 (Nat.le_refl _), F', p1.st.f.trans sm, j, c, ok'.weak w⟩
end
end DL

/-! DLDef: comprehensions, while, defs and their calls -/
namespace DL
open PySem L2

/-! ### comprehensions -/
def wipeS (r : List Sl) : List Nat → List Sl
  | [] => r
  | v :: vs => (wipeS r vs).set v .un
theorem wipeS_len (r : List Sl) : ∀ vs, (wipeS r vs).length = r.length
  | [] => rfl
  | v :: vs => by unfold wipeS; rw [List.length_set, wipeS_len r vs]
theorem wipeS_out {r : List Sl} {i : Nat} : ∀ {vs : List Nat}, i ∉ vs → (wipeS r vs)[i]? = r[i]?
  | [], _ => rfl
  | v :: vs, h => by
    unfold wipeS
    rw [List.getElem?_set_ne fun z => h (by simp [z])]
    exact wipeS_out fun z => h (by simp [z])
theorem wipeS_in {r : List Sl} {i : Nat} {s : Sl} : ∀ {vs : List Nat}, i ∈ vs → (wipeS r vs)[i]? = some s → s = .un
  | [], h, _ => by simp at h
  | v :: vs, h, e => by
    unfold wipeS at e
    by_cases z : v = i
    · subst z
      have q := (List.getElem?_eq_some_iff.mp e).1
      rw [List.length_set] at q
      rw [List.getElem?_set_self q] at e
      exact (Option.some.inj e).symm
    · rw [List.getElem?_set_ne z] at e
      refine wipeS_in (vs := vs) ?_ e
      rcases List.mem_cons.mp h with q | q
      · exact absurd q.symm z
      · exact q
theorem wipe_out' {σ : L2.St} {i : Nat} : ∀ {vs : List Nat}, i ∉ vs → (wipe σ vs)[i]? = σ[i]?
  | [], _ => rfl
  | v :: vs, h => by
    unfold wipe
    rw [List.getElem?_set_ne fun z => h (by simp [z])]
    exact wipe_out' fun z => h (by simp [z])
theorem wipe_in {σ : L2.St} {i : Nat} : ∀ {vs : List Nat}, i ∈ vs → i < σ.length → (wipe σ vs)[i]? = some none
  | [], h, _ => by simp at h
  | v :: vs, h, hl => by
    unfold wipe
    by_cases z : v = i
    · subst z
      rw [List.getElem?_set_self (by rw [wipe_length]; exact hl)]
    · rw [List.getElem?_set_ne z]
      refine wipe_in (vs := vs) ?_ hl
      rcases List.mem_cons.mp h with q | q
      · exact absurd q.symm z
      · exact q
theorem wipe_eq {σ σ2 : L2.St} {vs : List Nat} (hl : σ2.length = σ.length) (h : ∀ i, i ∉ vs → σ2[i]? = σ[i]?) : wipe σ2 vs = wipe σ vs := by
  apply List.ext_getElem?
  intro i
  by_cases hi : i ∈ vs
  · by_cases hlt : i < σ.length
    · rw [wipe_in hi hlt, wipe_in hi (by omega)]
    · rw [List.getElem?_eq_none (by rw [wipe_length]; omega), List.getElem?_eq_none (by rw [wipe_length]; omega)]
  · rw [wipe_out' hi, wipe_out' hi, h i hi]
section
variable {X : Cx} {B : Bs} {e a b : Expr} {ss rest : List Stmt} {s : Stmt} {r r1 r2 : List Sl} {x : Rk} {D : Dn} {pos : Pos}
theorem Ok.wipe {σ : L2.St} {F H : Hp} {vs : List Nat} (k : Ok B r σ F H) : Ok B (wipeS r vs) (L2.wipe σ vs) F H ∧ ∀ b, Owned (wipeS r vs) (L2.wipe σ vs) b → Owned r σ b := by
  have own : ∀ (i : Nat) (s : Sl), (wipeS r vs)[i]? = some s → s.isOwn = true → i ∉ vs ∧ r[i]? = some s := fun i s e h => by
    by_cases hi : i ∈ vs
    · rw [wipeS_in hi e] at h; cases h
    · exact ⟨hi, by rw [← wipeS_out hi]; exact e⟩
  refine ⟨⟨k.fh, k.f0, k.nw, k.kp, k.dm, k.pk, by rw [wipeS_len, wipe_length]; exact k.len, fun i s e => ?_, fun i j s t p hne e1 e2 h1 h2 q1 q2 => ?_⟩, ?_⟩
  · by_cases hi : i ∈ vs
    · rw [wipeS_in hi e]; trivial
    · rw [wipe_out' hi]; exact k.sl i s (by rw [← wipeS_out hi]; exact e)
  · obtain ⟨n1, g1⟩ := own i s e1 h1
    obtain ⟨n2, g2⟩ := own j t e2 h2
    rw [wipe_out' n1] at q1
    rw [wipe_out' n2] at q2
    exact k.dj i j s t p hne g1 g2 h1 h2 q1 q2
  · rintro b ⟨i, s, e, h1, h2⟩
    obtain ⟨n1, g1⟩ := own i s e h1
    rw [wipe_out' n1] at h2
    exact ⟨i, s, g1, h1, h2⟩
/-- from a block back: rb, rb' its slots ahead and behind, σ2 its names; r, r' those outside -/
theorem Post.back {rb rb' r' : List Sl} {σ σ2 : L2.St} {F H F' H' : Hp} {vs : List Nat} (k : Ok B r σ F H) (b : Post B rb σ2 F H rb' F' H') (hσ : ∀ i, i ∉ vs → σ2[i]? = σ[i]?) (hr : ∀ i, i ∉ vs → rb'[i]? = r'[i]?)
    (hv : ∀ i, i ∈ vs → ∀ s, r'[i]? = some s → s.isOwn = false ∧ r[i]? = some s) (hl : r'.length = r.length) (ow : ∀ b, Owned rb σ2 b → Owned r σ b) : Post B r σ F H r' F' H' := by
  have own : ∀ (i : Nat) (s : Sl), r'[i]? = some s → s.isOwn = true → i ∉ vs ∧ rb'[i]? = some s := fun i s e h => by
    by_cases hi : i ∈ vs
    · rw [(hv i hi s e).1] at h; cases h
    · exact ⟨hi, by rw [hr i hi]; exact e⟩
  refine ⟨⟨b.ok.fh, b.ok.f0, b.ok.nw, b.ok.kp, b.ok.dm, b.ok.pk, hl.trans k.len, fun i s e => ?_, fun i j s t p hne e1 e2 h1 h2 q1 q2 => ?_⟩, b.st.mono ow, ?_⟩
  · by_cases hi : i ∈ vs
    · obtain ⟨h1, h2⟩ := hv i hi s e
      exact (k.sl i s h2).step b.st.f fun z => by rw [h1] at z; cases z
    · rw [← hσ i hi]; exact b.ok.sl i s (by rw [hr i hi]; exact e)
  · obtain ⟨n1, g1⟩ := own i s e1 h1
    obtain ⟨n2, g2⟩ := own j t e2 h2
    rw [← hσ i n1] at q1
    rw [← hσ j n2] at q2
    exact b.ok.dj i j s t p hne g1 g2 h1 h2 q1 q2
  · rintro b' ⟨i, s, e, h1, h2⟩
    obtain ⟨n1, g1⟩ := own i s e h1
    rw [← hσ i n1] at h2
    exact ow b' (b.ow b' ⟨i, s, g1, h1, h2⟩)
/-- an object of our own, neither frozen nor owned by a name, is written -/
theorem Post.wr {σ : L2.St} {Fs Hs F H : Hp} {rs : List Sl} {p : Addr} {o o' : HO} (b : Post B rs σ Fs Hs r F H) (hn : F p = none) (hp : H p = some o) (hs : Hs p = none) (ho : ¬ Owned r σ p) (h0 : B.H0 p = none) : Post B rs σ Fs Hs r F (upd H p o') := by
  have dm : ∀ b, H b ≠ none → (upd H p o') b ≠ none := fun b q => by
    by_cases h : b = p
    · rw [h, upd_same]; intro z; cases z
    · rw [upd_ne h]; exact q
  have k := b.ok
  refine ⟨⟨fun a u q => ?_, k.f0, k.nw, fun b u q n => ?_, fun b q => dm b (k.dm b q), k.pk, k.len, fun i s e => ?_, k.dj⟩, ⟨b.st.f, b.st.nw, fun a u q n => ?_, fun a q => dm a (b.st.dm a q)⟩, b.ow⟩
  · have ne : a ≠ p := fun z => by rw [z, hn] at q; cases q
    rw [upd_ne ne]; exact k.fh a u q
  · have ne : b ≠ p := fun z => by rw [z, h0] at q; cases q
    rw [upd_ne ne]; exact k.kp b u q n
  · refine (k.sl i s e).step (same0 F) fun hs p' u q1 q2 q3 => ⟨q2, ?_⟩
    have ne : p' ≠ p := fun z => ho ⟨i, s, e, hs, by rw [← z]; exact q1⟩
    rw [upd_ne ne]; exact q3
  · have ne : a ≠ p := fun z => by rw [z, hs] at q; cases q
    rw [upd_ne ne]; exact b.st.kp a u q n

/-- the block of a comprehension -/
abbrev blkX (X : Cx) (scope : Scope) (s : Shared) (H : Hp) (C : Addr) (cl : List (Str × Addr)) (fp : List Addr) : Cx := X.blk s H scope (compEnvC scope cl C X.env) fp
/-- a comprehension's parts, and its reading from T -/
structure LcOk (X : Cx) (scope : Scope) (own : List (Str × Nat)) (elt tg iter : Expr) (ifs : List Expr) (T : TE) : Prop where
  ex : ∃ wi g tt te, PI X tg iter wi ∧ (∀ s H C cl fp, PG (blkX X scope s H C cl fp) tg g) ∧ (∀ s H C cl fp, PTs (blkX X scope s H C cl fp) ifs tt) ∧ (∀ s H C cl fp, PE (blkX X scope s H C cl fp) elt te) ∧ ∀ σ H Q, T σ H Q → tLc wi g tt te (own.map (·.2)) σ H Q
/-- a clause's tests -/
def Tsx (X : Cx) (B : Bs) (ifs : List Expr) (r : List Sl) (b : Bool) (r' : List Sl) : Prop := PTs X ifs (ttan B r b r')
theorem PTs.imp {ifs : List Expr} {t t' : TT} (h : PTs X ifs t) (i : ∀ σ H Q, t' σ H Q → t σ H Q) : PTs X ifs t' := ⟨fun pins s σ H Q I q => h.run pins s σ H Q I (i σ H Q q)⟩
theorem tsx_nil : Tsx X B [] r true r := PTs.imp pts_nil fun σ H Q ⟨F, k, q⟩ => q F H (Post.refl k)
theorem tsx_one {c : Expr} {d : Bool} (h : Tx X B c r d r1) : Tsx X B [c] r d r1 := pts_one h
/-- how a target binds, all told -/
structure Bd (B : Bs) (g : TG) (P : Pd) (vs : List Nat) (r r' : List Sl) : Prop where
  run : Bnd B g P vs r r'
  ag : ∀ i, i ∉ vs → r'[i]? = r[i]?
theorem bd_name {i : Nat} {P : Pd} {vs : List Nat} (h : i ∈ vs := by simp) : Bd B (gName i) P vs r (r.set i (.dat P)) :=
  ⟨fun σ F H v Q k hp q => bnd_name σ F H v Q k hp fun σ' k' hl h2 h3 => q σ' k' hl (fun j hj => h2 j fun z => hj (by simp at z; rw [z]; exact h)) h3, fun j hj => List.getElem?_set_ne fun z => hj (by rw [← z]; exact h)⟩
theorem bd_pair {i j : Nat} {K : PySem.W.Frag} {α β : Type} [Rp α] [Rp β] {x : α × β} {vs : List Nat} (hi : i ∈ vs := by simp) (hj : j ∈ vs := by simp) : Bd B (gTup K 2 (gCons (gName i) (gCons (gName j) gNil))) (is K x) vs r ((r.set i (.dat (is K x.1))).set j (.dat (is K x.2))) :=
  ⟨fun σ F H v Q k hp q => bnd_pair σ F H v Q k hp fun σ' k' hl h2 h3 => q σ' k' hl (fun m hm => h2 m fun z => hm (by
    rcases List.mem_cons.mp z with z | z
    · rw [z]; exact hi
    · simp at z; rw [z]; exact hj)) h3, fun m hm => by rw [List.getElem?_set_ne fun z => hm (by rw [← z]; exact hj), List.getElem?_set_ne fun z => hm (by rw [← z]; exact hi)]⟩

/-- no name at these places owns -/
def nov (r : List Sl) (vs : List Nat) : Bool := vs.all fun i => match r[i]? with
  | some s => !s.isOwn
  | none => true
theorem nov_ok {vs : List Nat} (h : nov r vs = true) : ∀ i, i ∈ vs → ∀ s, r[i]? = some s → s.isOwn = false := fun i hi s e => by
  have z := List.all_eq_true.mp h i hi
  rw [e] at z
  simpa using z
theorem lc_ok {α β : Type} [Rp β] {xs : List α} {P : α → Pd} {p : α → Bool} {f : α → β} {rb : α → List Sl} {scope : Scope} {own : List (Str × Nat)} {elt tg iter : Expr} {ifs : List Expr} {g : TG} (src : Src X B tg iter r xs P r1)
    (hg : ∀ s H C cl fp, PG (blkX X scope s H C cl fp) tg g) (bnd : ∀ x, x ∈ xs → Bd B g (P x) (own.map (·.2)) (wipeS r1 (own.map (·.2))) (rb x))
    (ht : ∀ x, x ∈ xs → ∀ s H C cl fp, Tsx (blkX X scope s H C cl fp) B ifs (rb x) (p x) (rb x)) (he : ∀ x, x ∈ xs → p x = true → ∀ s H C cl fp, Ex (blkX X scope s H C cl fp) B elt (rb x) (.dat (is X.K (f x))) (rb x))
    (hl : xs.length < sizeLine) (hv0 : nov r1 (own.map (·.2)) = true := by rfl) : LcOk X scope own elt tg iter ifs (tcan B r (.new (lstC X.K ((xs.filter p).map f))) r1) := by
  have hv := nov_ok hv0
  clear hv0
  obtain ⟨wi, s1, s2⟩ := src
  generalize hvs : own.map (·.2) = vs at *
  refine ⟨wi, g, (fun σ H Q => ∃ x, x ∈ xs ∧ ttan B (rb x) (p x) (rb x) σ H Q), (fun σ H Q => ∃ x, x ∈ xs ∧ p x = true ∧ tcan B (rb x) (.dat (is X.K (f x))) (rb x) σ H Q), s1, hg,
    fun s H C cl fp => ⟨fun pins st σ H Q I ⟨x, hx, q⟩ => (ht x hx _ _ _ _ _).run pins st σ H Q I q⟩, fun s H C cl fp => ⟨fun pins st σ H Q I ⟨x, hx, hpx, q⟩ => (he x hx hpx _ _ _ _ _).run pins st σ H Q I q⟩, fun σ H Q ⟨F, ok, q⟩ => ?_⟩
  rw [hvs]
  refine s2 σ F H _ ok fun J F1 H1 p1 yl Dl hD => ?_
  have fr := p1.ok.fresh hD
  have hHD : H Dl = none := by
    cases z : H Dl with
    | none => rfl
    | some u => exact absurd hD (p1.st.dm Dl (by rw [z]; intro y; cases y))
  refine ⟨fun i m H' => m = xs.length - i ∧ i ≤ xs.length ∧ ∃ F' ws, Post B r1 σ F1 H1 r1 F' H' ∧ F' Dl = none ∧ H' Dl = some (.lst ws) ∧ All2 X.K F' ws (((xs.take i).filter p).map f),
    ⟨xs.length, by simp, Nat.zero_le _, F1, [], Post.alloc p1.ok hD, fr.1, upd_same, .nil⟩, ?_⟩
  rintro i m H' ⟨rfl, hi, F', ws, p2, n2, d2, a2⟩
  obtain ⟨y1, y2⟩ := yl i F' H' p2.st.f p2.ok.fh
  by_cases hlt : i < xs.length
  · have hx : xs[i]? = some xs[i] := List.getElem?_eq_getElem hlt
    have hm : xs[i] ∈ xs := List.getElem_mem hlt
    obtain ⟨z1, z2⟩ := y1 _ hx
    refine .inr ⟨z1, fun H2 => ∃ F2 ws2, Post B r1 σ F1 H1 r1 F2 H2 ∧ F2 Dl = none ∧ H2 Dl = some (.lst ws2) ∧ All2 X.K F2 ws2 (((xs.take (i + 1)).filter p).map f), fun H2 ⟨F2, ws2, q1, q2, q3, q4⟩ => ⟨xs.length - (i + 1), by omega, rfl, hlt, F2, ws2, q1, q2, q3, q4⟩, fun u H'' yy => ?_⟩
    obtain ⟨F'', st, fh, pu⟩ := z2 u H'' yy
    have ok2 := p2.ok.step st (fun _ z => z.elim) fh
    have p3 : Post B r1 σ F' H' r1 F'' H'' := ⟨ok2, st.mono fun _ z => z.elim, fun _ z => z⟩
    obtain ⟨okw, oww⟩ := ok2.wipe (vs := vs)
    have bd := bnd _ hm
    have nOD : ¬ Owned r1 σ Dl := fr.2.2
    have n3 : F'' Dl = none := by
      cases z : F'' Dl with
      | none => rfl
      | some u =>
        rcases st.nw Dl u z with y | y | y
        · rw [n2] at y; cases y
        · rw [d2] at y; cases y
        · exact y.elim
    refine bd.run _ _ _ _ _ okw pu fun σ2 ok3 hl3 ag3 ow3 => ⟨wipe_eq (by rw [hl3, wipe_length]) fun j hj => (ag3 j hj).trans (wipe_out' hj), ⟨_, hm, F'', ok3, fun F4 H4 p4 => ?_⟩⟩
    -- back outside, from the block's state
    have bk : ∀ {F5 H5 : Hp}, Post B (rb xs[i]) σ2 F'' H'' (rb xs[i]) F5 H5 → Post B r1 σ F'' H'' r1 F5 H5 := fun {F5 H5} p5 =>
      Post.back (vs := vs) ok2 p5 (fun j hj => (ag3 j hj).trans (wipe_out' hj)) (fun j hj => (bd.ag j hj).trans (wipeS_out hj)) (fun j hj s e => ⟨hv j hj s e, e⟩) rfl fun b z => oww b (ow3 b z)
    have keepD : ∀ {F5 H5 : Hp}, Post B r1 σ F'' H'' r1 F5 H5 → F5 Dl = none ∧ H5 Dl = some (.lst ws) := fun {F5 H5} p5 => by
      have h2 : H'' Dl = some (.lst ws) := st.kp Dl _ d2 fun z => z
      refine ⟨?_, p5.st.kp Dl _ h2 nOD⟩
      cases z : F5 Dl with
      | none => rfl
      | some u =>
        rcases p5.st.nw Dl u z with y | y | y
        · rw [n3] at y; cases y
        · rw [h2] at y; cases y
        · exact absurd y nOD
    have tk : xs.take (i + 1) = xs.take i ++ [xs[i]] := by
      rw [List.take_add_one, hx]; rfl
    cases hp : p xs[i] with
    | false =>
      refine iteF ?_
      have p5 := bk p4
      obtain ⟨k1, k2⟩ := keepD p5
      refine ⟨F4, ws, (p2.trans p3).trans p5, k1, k2, ?_⟩
      have e : ((xs.take (i + 1)).filter p).map f = ((xs.take i).filter p).map f := by
        rw [tk, List.filter_append, List.filter_cons, if_neg (by rw [hp]; decide)]
        simp
      rw [e]
      exact a2.mono ((st.f).trans p5.st.f)
    | true =>
      refine iteT ⟨_, hm, hp, F4, p4.ok, fun v F5 H5 p5 w5 => ?_⟩
      have p6 := bk (p4.trans p5)
      obtain ⟨k1, k2⟩ := keepD p6
      refine ⟨ws, k2, ?_, ?_⟩
      · rw [a2.len, List.length_map]
        refine Nat.lt_of_le_of_lt (List.length_filter_le _ _) ?_
        rw [List.length_take]
        omega
      · have p7 := (p2.trans p3).trans p6
        refine ⟨F5, ws ++ [v], p7.wr k1 k2 hD (p1.ok.fresh hD).2.2 fr.2.1, k1, upd_same, ?_⟩
        have e : ((xs.take (i + 1)).filter p).map f = ((xs.take i).filter p).map f ++ [f xs[i]] := by
          rw [tk, List.filter_append, List.filter_cons, if_pos hp]
          simp
        rw [e]
        exact Paired.append (a2.mono ((st.f).trans p6.st.f)) (.cons w5 .nil)
  · have e : i = xs.length := by omega
    subst e
    refine .inl ⟨y2 (Nat.le_refl _), q _ F' H' (p1.trans p2) ⟨Dl, _, rfl, n2, d2, ⟨ws, rfl, ?_⟩, hHD, fr.2.2⟩⟩
    rw [List.take_length] at a2
    exact a2
theorem ex_lcO {scope : Scope} {own : List (Str × Nat)} {elt tg iter : Expr} {ifs : List Expr} {T : TE} (h : LcOk X scope own elt tg iter ifs T) (ok : BlkOk X.N X.env.scope scope own) (hN : X.N.Nodup) (hc : X.calm = true := by rfl) (hs : ∀ x, foldedSetIterable iter X.env x = pure x := by intro _; rfl) : PE X (.ListComp elt [⟨tg, iter, ifs, 0⟩] scope pos) T := by
  obtain ⟨wi, g, tt, te, h1, h2, h3, h4, h5⟩ := h.ex
  exact PE.imp (pe_lc hc hN h1 ok h2 h3 h4 hs) h5
/-- x = [..], x a plain local -/
theorem go_setLc {i : Nat} {y : Str} {py lpos : Pos} {scope : Scope} {own : List (Str × Nat)} {elt tg iter : Expr} {ifs : List Expr} (h : LcOk X scope own elt tg iter ifs (tcan B r x r1)) (ok : BlkOk X.N X.env.scope scope own) (hN : X.N.Nodup) (hy : X.N[i]? = some y) (hyl : X.env.scope.names.lookup y = some .local)
    (hsw : swapsWith (.ListComp elt [⟨tg, iter, ifs, 0⟩] scope lpos) (some (.Name y py)) pos.line X.env = pure true) (k : Go X B rest (r1.set i (Sl.of x)) D) (hc : X.calm = true := by rfl) (hs : ∀ x, foldedSetIterable iter X.env x = pure x := by intro _; rfl) :
    Go X B (.Assign [.Name y py] (.ListComp elt [⟨tg, iter, ifs, 0⟩] scope lpos) pos :: rest) r D := by
  obtain ⟨wi, g, tt, te, h1, h2, h3, h4, h5⟩ := h.ex
  exact go_seq1 ⟨_, PS.imp (ps_setLc hc hN hy hyl hsw h1 ok h2 h3 h4 hs) (t' := tAsg (tcan B r x r1) (gName i)) fun D σ H q => h5 σ H _ q, fun σ F H k => ⟨F, k, fun v F' H' p w => ⟨F', p.st.f, ok_set p.ok w k.dm⟩⟩⟩ k

/-! ### while -/
theorem go_while {S : Type} {c : Expr} {body : List Stmt} (J : S → Prop) (R Rt : S → List Sl) (μ : S → Nat) (d : S → Bool) (s0 : S) (h0 : J s0) (w0 : Weak r (R s0)) (ht : ∀ s, J s → Tx X B c (R s) (d s) (Rt s))
    (hb : ∀ s, J s → d s = true → Go X B body (Rt s) { D with nx := fun σ F H => ∃ s', J s' ∧ μ s' < μ s ∧ Ok B (R s') σ F H, ct := fun σ F H => ∃ s', J s' ∧ μ s' < μ s ∧ Ok B (R s') σ F H, bk := fun _ _ _ => False })
    (k : ∀ s, J s → d s = false → Go X B rest (Rt s) D) (hp : PassesOwn (model X.prog X.w) X.A X.env X.xe := by exact PassesOwn.never) : Go X B (.While c body [] pos :: rest) r D := by
  refine go_seq (ι := { s : S // J s ∧ d s = false }) (R := fun s => Rt s.1) (C := fun _ => True) ?_ fun s _ => k s.1 s.2.1 s.2.2
  have htc : PT X c (fun σ H Q => ∃ s, J s ∧ ttan B (R s) (d s) (Rt s) σ H Q) := ⟨fun pins st σ H Q I ⟨s, hj, q⟩ => (ht s hj).run pins st σ H Q I q⟩
  have hbody : PSs X body (fun D2 σ H => ∃ s F, J s ∧ d s = true ∧ Ok B (Rt s) σ F H ∧ (∀ v F' H', Same F F' → D.rt v F' H' → D2.rt v H') ∧ (∀ σ' F' H' s', Same F F' → J s' → μ s' < μ s → Ok B (R s') σ' F' H' → D2.nx σ' H' ∧ D2.ct σ' H')) :=
    ⟨fun pins st σ H D2 I ⟨s, F, hj, hd, ok, e1, e2⟩ => by
      obtain ⟨t, g1, g2⟩ := hb s hj hd
      exact thn (g1.run pins st σ H _ I (g2 σ F H ok)) fun f s1 q => sp_to q (fun σ H ⟨F', a, s', j', m', o'⟩ => (e2 σ F' H s' a j' m' o').1) (fun v H ⟨F', a, z⟩ => e1 v F' H a z) (fun σ H ⟨F', a, z⟩ => z.elim) fun σ H ⟨F', a, s', j', m', o'⟩ => (e2 σ F' H s' a j' m' o').2⟩
  refine ⟨_, ps_while hp htc hbody, fun σ F H ok => ?_⟩
  refine ⟨fun m σ' H' => ∃ s F', m = μ s ∧ J s ∧ Same F F' ∧ Ok B (R s) σ' F' H', ⟨_, s0, F, rfl, h0, same0 F, ok.weak w0⟩, ?_⟩
  rintro m σ' H' ⟨s, F', rfl, hj, sm, ok'⟩
  refine ⟨s, hj, F', ok', fun F2 H2 p2 => ?_⟩
  have sF : Same F F2 := sm.trans p2.st.f
  cases hd : d s with
  | true =>
    refine iteT ⟨fun σ3 H3 => ∃ s' F3, J s' ∧ μ s' < μ s ∧ Same F F3 ∧ Ok B (R s') σ3 F3 H3, fun σ3 H3 ⟨s', F3, j', m', a, o'⟩ => ⟨μ s', m', s', F3, rfl, j', a, o'⟩, ⟨s, F2, hj, hd, p2.ok, fun v F4 H4 a z => ⟨F4, sF.trans a, z⟩, fun σ4 F4 H4 s' a j' m' o' => ⟨⟨s', F4, j', m', sF.trans a, o'⟩, ⟨s', F4, j', m', sF.trans a, o'⟩⟩⟩⟩
  | false => exact iteF ⟨F2, sF, ⟨s, hj, hd⟩, trivial, p2.ok⟩
end

/-! ### defs -/
inductive Ar where
  | dat (P : Pd)
  | io (C : Ct)
inductive Re where
  | dat (P : Pd)
  | new (C : Ct)
def ReOk (Hs F H : Hp) (v : V) : Re → Prop
  | .dat P => P.p F v
  | .new C => ∃ p o, v = .ref p ∧ F p = none ∧ H p = some o ∧ C.c F o ∧ Hs p = none
inductive ArsOk (F H : Hp) : List Ar → List V → List Addr → Prop
  | nil : ArsOk F H [] [] []
  | dat {P : Pd} {v : V} {as : List Ar} {vs : List V} {ps : List Addr} : P.p F v → ArsOk F H as vs ps → ArsOk F H (.dat P :: as) (v :: vs) ps
  | io {C : Ct} {p : Addr} {o : HO} {as : List Ar} {vs : List V} {ps : List Addr} : F p = none → H p = some o → C.c F o → p ∉ ps → ArsOk F H as vs ps → ArsOk F H (.io C :: as) (.ref p :: vs) (p :: ps)
theorem ArsOk.len {F H : Hp} : ∀ {as : List Ar} {vs : List V} {ps : List Addr}, ArsOk F H as vs ps → vs.length = as.length
  | _, _, _, .nil => rfl
  | _, _, _, .dat _ t => congrArg Nat.succ t.len
  | _, _, _, .io _ _ _ _ t => congrArg Nat.succ t.len
def ioLen : List Ar → Nat
  | [] => 0
  | .dat _ :: as => ioLen as
  | .io _ :: as => ioLen as + 1
theorem ArsOk.ioLen {F H : Hp} : ∀ {as : List Ar} {vs : List V} {ps : List Addr}, ArsOk F H as vs ps → ps.length = DL.ioLen as
  | _, _, _, .nil => rfl
  | _, _, _, .dat _ t => t.ioLen
  | _, _, _, .io _ _ _ _ t => congrArg Nat.succ t.ioLen
/-- what a def does: its arguments, its result, the new contents of what it was handed to change -/
structure Spec (α : Type) where
  dom : α → Prop
  ars : α → List Ar
  re : α → Re
  po : α → List Ct
/-- behind the def -/
structure Rt (B : Bs) (re : Re) (po : List Ct) (v : V) (F H : Hp) : Prop where
  fh : Fh B.lk F H
  f0 : Same B.F0 F
  nw : ∀ b o, F b = some o → B.F0 b = some o ∨ B.H0 b = none
  kp : ∀ b o, B.H0 b = some o → b ∉ B.ps → H b = some o
  dm : ∀ b, B.H0 b ≠ none → H b ≠ none
  re : ReOk B.H0 F H v re
  io : Paired (fun p (c : Ct) => F p = none ∧ ∃ o, H p = some o ∧ c.c F o) B.ps po
def spOf {α : Type} (S : Spec α) : Sp := fun vs H Q _ => ∃ x F lk ps, S.dom x ∧ Fh lk F H ∧ ArsOk F H (S.ars x) vs ps ∧ ∀ v F' H', Rt ⟨F, H, ps, lk, []⟩ (S.re x) (S.po x) v F' H' → Q v H'
/-- the slots at the entry -/
def slotsOf : List Ar → Nat → List Sl
  | [], _ => []
  | .dat P :: as, j => .dat P :: slotsOf as j
  | .io C :: as, j => .io j C :: slotsOf as (j + 1)
theorem slotsOf_len : ∀ (as : List Ar) (j : Nat), (slotsOf as j).length = as.length
  | [], _ => rfl
  | .dat P :: as, j => congrArg Nat.succ (slotsOf_len as j)
  | .io C :: as, j => congrArg Nat.succ (slotsOf_len as (j + 1))
theorem ArsOk.mem {F H : Hp} : ∀ {as : List Ar} {vs : List V} {ps : List Addr}, ArsOk F H as vs ps → ∀ p ∈ ps, F p = none ∧ H p ≠ none
  | _, _, _, .nil, p, h => by simp at h
  | _, _, _, .dat _ t, p, h => t.mem p h
  | _, _, _, .io h1 h2 _ _ t, p, h => by
    rcases List.mem_cons.mp h with e | h
    · subst e; exact ⟨h1, by rw [h2]; intro z; cases z⟩
    · exact t.mem p h
theorem slots_at {B : Bs} {F H : Hp} (ps0 : List Addr) : ∀ {as : List Ar} {vs : List V} {ps : List Addr}, ArsOk F H as vs ps → B.ps = ps0 ++ ps → ∀ (i : Nat) (s : Sl), (slotsOf as ps0.length)[i]? = some s → SlOk B F H (vs.map some)[i]? s ∧ (s.isOwn = true → ∃ p, vs[i]? = some (.ref p) ∧ p ∈ ps)
  | _, _, _, .nil, _, i, s, e => by simp [slotsOf] at e
  | .dat P :: as, v :: vs, ps, .dat h t, hp, 0, s, e => by
    simp [slotsOf] at e; subst e
    exact ⟨⟨v, rfl, h⟩, fun z => by cases z⟩
  | .dat P :: as, v :: vs, ps, .dat h t, hp, i + 1, s, e => by
    have z := slots_at ps0 t hp i s (by simpa [slotsOf] using e)
    exact ⟨by simpa using z.1, by simpa using z.2⟩
  | .io C :: as, .ref p :: vs, _ :: ps, .io (o := o) h1 h2 h3 h4 t, hp, 0, s, e => by
    simp [slotsOf] at e; subst e
    exact ⟨⟨p, o, rfl, h1, h2, h3, by rw [hp]; simp⟩, fun _ => ⟨p, rfl, by simp⟩⟩
  | .io C :: as, .ref p :: vs, _ :: ps, .io (o := o) h1 h2 h3 h4 t, hp, i + 1, s, e => by
    have z := slots_at (ps0 ++ [p]) t (by rw [hp]; simp) i s (by simpa [slotsOf] using e)
    exact ⟨by simpa using z.1, fun w => by
      obtain ⟨p', q1, q2⟩ := z.2 w
      exact ⟨p', by simpa using q1, List.mem_cons_of_mem _ q2⟩⟩
theorem slots_dj {F H : Hp} : ∀ {as : List Ar} {vs : List V} {ps : List Addr} (n : Nat), ArsOk F H as vs ps → ∀ (i j : Nat) (s t : Sl) (p : Addr), i < j → (slotsOf as n)[i]? = some s → (slotsOf as n)[j]? = some t → s.isOwn = true → t.isOwn = true → vs[i]? = some (.ref p) → vs[j]? = some (.ref p) → False
  | _, _, _, n, .nil, i, j, s, t, p, hij, e1, e2, h1, h2, q1, q2 => by simp [slotsOf] at e1
  | .dat P :: as, v :: vs, ps, n, .dat h tt, 0, j, s, t, p, hij, e1, e2, h1, h2, q1, q2 => by simp [slotsOf] at e1; subst e1; cases h1
  | .dat P :: as, v :: vs, ps, n, .dat h tt, i + 1, 0, s, t, p, hij, e1, e2, h1, h2, q1, q2 => by omega
  | .dat P :: as, v :: vs, ps, n, .dat h tt, i + 1, j + 1, s, t, p, hij, e1, e2, h1, h2, q1, q2 =>
    slots_dj n tt i j s t p (by omega) (by simpa [slotsOf] using e1) (by simpa [slotsOf] using e2) h1 h2 (by simpa using q1) (by simpa using q2)
  | .io C :: as, .ref p' :: vs, _ :: ps, n, .io g1 g2 g3 g4 tt, 0, 0, s, t, p, hij, e1, e2, h1, h2, q1, q2 => by omega
  | .io C :: as, .ref p' :: vs, _ :: ps, n, .io g1 g2 g3 g4 tt, 0, j + 1, s, t, p, hij, e1, e2, h1, h2, q1, q2 => by
    have e : p' = p := by simpa using q1
    subst e
    have z : ∀ {as : List Ar} {vs : List V} {ps : List Addr} (n j : Nat) (t : Sl), ArsOk F H as vs ps → (slotsOf as n)[j]? = some t → t.isOwn = true → vs[j]? = some (.ref p') → p' ∈ ps := by
      intro as vs ps n j t a
      induction a generalizing n j with
      | nil => intro e; simp [slotsOf] at e
      | dat hh tt ih =>
        intro e ho q
        cases j with
        | zero => simp [slotsOf] at e; subst e; cases ho
        | succ j => exact ih n j (by simpa [slotsOf] using e) ho (by simpa using q)
      | io k1 k2 k3 k4 tt ih =>
        intro e ho q
        cases j with
        | zero => simp at q; subst q; simp
        | succ j => exact List.mem_cons_of_mem _ (ih (n + 1) j (by simpa [slotsOf] using e) ho (by simpa using q))
    exact g4 (z (n + 1) j t tt (by simpa [slotsOf] using e2) h2 (by simpa using q2))
  | .io C :: as, .ref p' :: vs, _ :: ps, n, .io g1 g2 g3 g4 tt, i + 1, 0, s, t, p, hij, e1, e2, h1, h2, q1, q2 => by omega
  | .io C :: as, .ref p' :: vs, _ :: ps, n, .io g1 g2 g3 g4 tt, i + 1, j + 1, s, t, p, hij, e1, e2, h1, h2, q1, q2 =>
    slots_dj (n + 1) tt i j s t p (by omega) (by simpa [slotsOf] using e1) (by simpa [slotsOf] using e2) h1 h2 (by simpa using q1) (by simpa using q2)
/-- the state at the entry -/
theorem ok_start {α : Type} {S : Spec α} {x : α} {F H : Hp} {lk ps : List Addr} {vs : List V} {N : List Str} (hF : Fh lk F H) (ha : ArsOk F H (S.ars x) vs ps) (hN : vs.length ≤ N.length) :
    Ok ⟨F, H, ps, lk, []⟩ (slotsOf (S.ars x) 0 ++ List.replicate (N.length - vs.length) Sl.un) (L2.start N vs) F H := by
  have hl := ha.len
  have hsl := slotsOf_len (S.ars x) 0
  have own : ∀ (i : Nat) (s : Sl), (slotsOf (S.ars x) 0 ++ List.replicate (N.length - vs.length) Sl.un)[i]? = some s → s ≠ .un → (slotsOf (S.ars x) 0)[i]? = some s ∧ i < vs.length := fun i s e h => by
    by_cases hi : i < (slotsOf (S.ars x) 0).length
    · rw [List.getElem?_append_left hi] at e
      exact ⟨e, by omega⟩
    · rw [List.getElem?_append_right (by omega)] at e
      have z := List.mem_of_getElem? e
      rw [List.mem_replicate] at z
      exact absurd z.2 h
  have st : ∀ i, i < vs.length → (L2.start N vs)[i]? = (vs.map some)[i]? := fun i hi => by
    unfold L2.start
    rw [List.getElem?_append_left (by rw [List.length_map]; exact hi)]
  refine ⟨hF, same0 F, fun b o e => .inl e, fun b o e _ => .inl e, fun b e => e, fun p hp => (ha.mem p hp).2, ?_, fun i s e => ?_, fun i j s t p hne e1 e2 h1 h2 q1 q2 => ?_⟩
  · unfold L2.start
    rw [List.length_append, List.length_append, List.length_replicate, List.length_replicate, List.length_map]
    omega
  · by_cases hs : s = .un
    · subst hs; trivial
    · obtain ⟨e', hi⟩ := own i s e hs
      have z := (slots_at (B := ⟨F, H, ps, lk, []⟩) [] ha rfl i s e').1
      rw [st i hi]
      exact z
  · obtain ⟨e1', i1⟩ := own i s e1 (fun z => by subst z; cases h1)
    obtain ⟨e2', i2⟩ := own j t e2 (fun z => by subst z; cases h2)
    rw [st i i1] at q1
    rw [st j i2] at q2
    have g1 : vs[i]? = some (.ref p) := by simpa using q1
    have g2 : vs[j]? = some (.ref p) := by simpa using q2
    rcases Nat.lt_or_gt_of_ne hne with h | h
    · exact slots_dj 0 ha i j s t p h e1' e2' h1 h2 g1 g2
    · exact slots_dj 0 ha j i t s p h e2' e1' h2 h1 g2 g1
section
variable {P : Program} {w : World} {K : PySem.W.Frag} {mg : Str → Option Value} {base : Heap} {x qual : Str} {params : Arguments} {body : List Stmt} {scope : Scope} {dvs : List V} {kws : List (Str × V)} {f : Addr} {fd : FuncData}
/-- where a def's body runs -/
abbrev bX (P : Program) (w : World) (K : PySem.W.Frag) (mg : Str → Option Value) (base : Heap) (N : List Str) (qual : Str) (scope : Scope) (f : Addr) (cdv : Value) (A : Around) (outer : List Env) (s : Shared) (H : Hp) (E : XK) : Cx := (cxOf CX0 P w K mg base N qual scope f cdv A outer s H E).nox
/-- what a def's end asks -/
abbrev Dr (B : Bs) (re : Re) (po : List Ct) : Dn := { nx := fun _ F H => Rt B re po .non F H, rt := fun v F H => Rt B re po v F H }
theorem fn_ok {α : Type} {N ps : List Str} {k : Nat} {S : Spec α} (F : FunD K x qual params body scope dvs kws f fd) (Sc : FnScope N ps scope) (hlen : ∀ x, (S.ars x).length = ps.length) (hN : ps.length ≤ N.length := by decide)
    (hb : ∀ cdv A outer s H E, Room k (A.deeper (PyProof.Rows.envOfC qual scope s.heap.objs.size f cdv)) → ∀ x, S.dom x → ∀ B : Bs, B.ml = [] → B.ps.length = ioLen (S.ars x) → Go (bX P w K mg base N qual scope f cdv A outer s H E) B body (slotsOf (S.ars x) 0 ++ List.replicate (N.length - ps.length) Sl.un) (Dr B (S.re x) (S.po x))) :
    FnOk P w K mg base CX0 (k + 1) f fd ps (spOf S) := by
  refine F.ok Sc (fun vs H Q E ⟨x, F, lk, qs, h1, h2, h3, h4⟩ => h3.len.trans (hlen x)) fun cdv A outer s H vs Q E hr ⟨x, Fz, lk, qs, h1, h2, h3, h4⟩ => ?_
  have hvl : vs.length = ps.length := h3.len.trans (hlen x)
  obtain ⟨t, g1, g2⟩ := hb cdv A outer s H E hr x h1 ⟨Fz, H, qs, lk, []⟩ rfl h3.ioLen
  have ok := ok_start (S := S) (x := x) (N := N) h2 h3 (by omega)
  rw [hvl] at ok
  refine ⟨fun D2 σ H' => D2.nx = (fun _ H' => Q .non H') ∧ D2.rt = Q ∧ ∃ F, t ((Dr ⟨Fz, H, qs, lk, []⟩ (S.re x) (S.po x)).E F) σ H', PSs.nox ⟨fun pins st σ H' D2 I ⟨e1, e2, F, q⟩ => ?_⟩, rfl, rfl, Fz, g2 _ Fz H ok⟩
  refine thn (g1.run pins st σ H' _ I q) fun fl s1 q => sp_to q (fun σ H ⟨F', a, z⟩ => ?_) (fun v H ⟨F', a, z⟩ => ?_) (fun σ H ⟨F', a, z⟩ => z.elim) fun σ H ⟨F', a, z⟩ => z.elim
  · rw [e1]; exact h4 _ F' H z
  · rw [e2]; exact h4 _ F' H z
end
section
variable {X : Cx} {B : Bs} {e a b : Expr} {ss rest : List Stmt} {s : Stmt} {r r1 r2 : List Sl} {x : Rk} {D : Dn} {pos : Pos} {re : Re} {po : List Ct}
/-- the ends of a def -/
theorem rt_of {σ : L2.St} {F H : Hp} {v : V} (hB : B.ml = []) (k : Ok B r σ F H) (hre : ReOk B.H0 F H v re) (hl : po.length = B.ps.length) (hio : ∀ (j : Nat) (c : Ct), po[j]? = some c → ∃ i : Nat, r[i]? = some (.io j c)) : Rt B re po v F H := by
  refine ⟨k.fh, k.f0, k.nw, fun b o e n => ?_, k.dm, hre, ?_⟩
  · rcases k.kp b o e n with z | ⟨z, _⟩
    · exact z
    · rw [hB] at z; cases z
  · have all : ∀ (ps : List Addr) (po : List Ct), po.length = ps.length → (∀ (j : Nat) (p : Addr) (c : Ct), ps[j]? = some p → po[j]? = some c → F p = none ∧ ∃ o, H p = some o ∧ c.c F o) → Paired (fun p (c : Ct) => F p = none ∧ ∃ o, H p = some o ∧ c.c F o) ps po := by
      intro ps
      induction ps with
      | nil => intro po h _; cases po with
        | nil => exact .nil
        | cons _ _ => cases h
      | cons p ps ih => intro po h g; cases po with
        | nil => cases h
        | cons c po => exact .cons (g 0 p c rfl rfl) (ih po (by simpa using h) fun j p' c' h1 h2 => g (j + 1) p' c' (by simpa using h1) (by simpa using h2))
    refine all _ _ hl fun j p c h1 h2 => ?_
    obtain ⟨i, hi⟩ := hio j c h2
    obtain ⟨p', o, e1, e2, e3, e4, e5⟩ := k.sl i _ hi
    rw [h1] at e5; cases e5
    exact ⟨e2, o, e3, e4⟩
/-- the contents of what was handed in to be changed, as they are told behind -/
structure IoOk (B : Bs) (r : List Sl) (po : List Ct) : Prop where
  l : po.length = B.ps.length
  io : ∀ (j : Nat) (c : Ct), po[j]? = some c → ∃ i : Nat, r[i]? = some (.io j c)
theorem go_retD {nx bk ct : L2.St → Hp → Hp → Prop} {P P' : Pd} (hB : B.ml = []) (h : Ex X B e r (.dat P) r1) (hre : ∀ F v, P.p F v → P'.p F v) (io : IoOk B r1 po) : Go X B (.Return (some e) pos :: rest) r { nx := nx, rt := (Dr B (.dat P') po).rt, bk := bk, ct := ct } :=
  go_ret h fun σ Hs F H v k w _ => rt_of hB k (hre F v w) io.l io.io
theorem go_retN {nx bk ct : L2.St → Hp → Hp → Prop} {C C' : Ct} (hB : B.ml = []) (h : Ex X B e r (.new C) r1) (hre : ∀ F v, C.c F v → C'.c F v) (io : IoOk B r1 po) : Go X B (.Return (some e) pos :: rest) r { nx := nx, rt := (Dr B (.new C') po).rt, bk := bk, ct := ct } :=
  go_ret h fun σ Hs F H v k ⟨p, o, e1, e2, e3, e4, e5, e6⟩ hd => rt_of hB k ⟨p, o, e1, e2, e3, hre F o e4, by
    cases q : B.H0 p with
    | none => rfl
    | some u => exact absurd e5 (hd p (by rw [q]; intro z; cases z))⟩ io.l io.io
theorem go_retS {nx bk ct : L2.St → Hp → Hp → Prop} {i : Nat} {C C' : Ct} (hB : B.ml = []) (h : Ex X B e r (.slot i) r1) (hi : r1[i]? = some (.own C)) (hre : ∀ F v, C.c F v → C'.c F v) (io : IoOk B r1 po) : Go X B (.Return (some e) pos :: rest) r { nx := nx, rt := (Dr B (.new C') po).rt, bk := bk, ct := ct } :=
  go_ret h fun σ Hs F H v k w hd => by
    obtain ⟨p, o, e1, e2, e3, e4, e5⟩ := k.sl i _ hi
    rw [show σ[i]? = some (some v) from w] at e1; cases e1
    exact rt_of hB k ⟨p, o, rfl, e2, e3, hre F o e4, e5⟩ io.l io.io
/-- the def ends without a return -/
theorem go_end {P' : Pd} (hB : B.ml = []) (hre : ∀ F, P'.p F .non) (io : IoOk B r po) : Go X B [] r (Dr B (.dat P') po) :=
  go_nil fun σ F H k => rt_of hB k (hre F) io.l io.io
theorem go_retU {nx bk ct : L2.St → Hp → Hp → Prop} {P' : Pd} (hB : B.ml = []) (hre : ∀ F, P'.p F .non) (io : IoOk B r po) : Go X B (.Return none pos :: rest) r { nx := nx, rt := (Dr B (.dat P') po).rt, bk := bk, ct := ct } :=
  go_seq (ι := Empty) (R := fun z => nomatch z) (C := fun _ => True) ⟨_, ps_retN, fun σ F H ok => ⟨F, same0 F, rt_of hB ok (hre F) io.l io.io⟩⟩ fun z => nomatch z
theorem io0 (h : B.ps.length = 0) : IoOk B r [] := ⟨h.symm, fun j c z => by simp at z⟩
theorem io1 {i : Nat} {c : Ct} (h : B.ps.length = 1) (hi : r[i]? = some (.io 0 c)) : IoOk B r [c] := ⟨h.symm, fun j c' z => by
  cases j with
  | zero => cases z; exact ⟨i, hi⟩
  | succ j => simp at z⟩

/-! ### calls -/
/-- a def behind the top: by its name -/
structure Fn (P : Program) (w : World) (K : PySem.W.Frag) (mg : Str → Option Value) (base : Heap) (x : Str) (k : Nat) (ps : List Str) (sp : Sp) : Prop where
  ex : ∃ f fd, FnOk P w K mg base CX0 k f fd ps sp ∧ mg x = some (.ref f) ∧ PySem.W.keepIn K (.ref f) = true ∧ Binds K fd ps []
/-- the result as the caller has it -/
def Rk.ofRe : Re → Rk
  | .dat P => .dat P
  | .new C => .new C
def arK : List Ar → List Rk
  | [] => []
  | .dat P :: as => .dat P :: arK as
  | .io C :: as => .dat ⟨fun _ _ => False, fun _ h => h⟩ :: arK as
theorem ars_dat {σ : L2.St} {Hs F H : Hp} : ∀ {as : List Ar} {vs : List V}, DL.ioLen as = 0 → Paired (RkOk r Hs σ F H) vs (arK as) → ArsOk F H as vs []
  | [], [], _, .nil => .nil
  | .dat P :: as, v :: vs, h0, .cons h t => .dat h (ars_dat h0 t)
/-- f(e, ..), nothing handed in to be changed -/
theorem ex_call {α : Type} {S : Spec α} {f : Str} {k : Nat} {ps : List Str} {es : List Expr} {e0 : Expr} {p : Pos} (G : Fn X.prog X.w X.K X.mg X.base f k ps (spOf S)) (hr : Room k X.A) (x : α) (ha : Ax X B (e0 :: es) r (arK (S.ars x)) r1) (hx : S.dom x) (hn : DL.ioLen (S.ars x) = 0 := by rfl)
    (hg : Gl X f := by rfl) (hdb : (f == ("__debug__" : Str)) = false := by decide) (he : starEach (e0 :: es) X.env = (false, eval e0 X.env) :: starEach es X.env := by rfl) (hpl : (backTo pos (starEach es X.env)).any (·.1) = false := by rfl) :
    Ex X B (.Call (.Name f p) (e0 :: es) [] pos) r (Rk.ofRe (S.re x)) r1 := by
  obtain ⟨fa, fd, G1, G2, G3, G4⟩ := G.ex
  refine PE.imp (pe_call G1 hr hg G2 G3 G4 .nil pass0 ha hdb he hpl) fun σ H Q ⟨F, k, q⟩ => ⟨F, k, fun vs F1 H1 p1 w1 => ?_⟩
  show spOf S (vs ++ []) H1 Q E0
  rw [List.append_nil]
  refine ⟨x, F1, B.lk, [], hx, p1.ok.fh, ars_dat hn w1, fun v F' H' rt => ?_⟩
  have st : Stp (fun _ => False) F1 H1 F' H' := ⟨rt.f0, fun b o e => (rt.nw b o e).imp id .inl, fun b o e _ => rt.kp b o e (by simp), rt.dm⟩
  have ok2 := p1.ok.step st (fun _ z => z.elim) rt.fh
  have p2 : Post B r1 σ F1 H1 r1 F' H' := ⟨ok2, st.mono fun _ z => z.elim, fun _ z => z⟩
  refine q v F' H' (p1.trans p2) ?_
  have z := rt.re
  cases h : S.re x with
  | dat P => rw [h] at z; exact z
  | new C =>
    rw [h] at z
    obtain ⟨a, o, e1, e2, e3, e4, e5⟩ := z
    refine RkOk.back (Hs := H1) ⟨a, o, e1, e2, e3, e4, e5, fun ow => ?_⟩ p1.st.dm
    obtain ⟨_, o', z⟩ := p1.ok.owned ow
    rw [show H1 a = none from e5] at z; cases z
end
end DL

/-! DLCall: typed rules for built-ins -/
namespace DL
open PySem L2
/-- a datum's built-in type -/
class Ty (α : Type) [Rp α] where
  n : α → String
  ty : ∀ {K : PySem.W.Frag} {F H : Hp} {lk : List Addr} {v : V} {x : α}, Fh lk F H → Rp.rp K F v x → TyX K H v (.type (n x))
instance : Ty Int := ⟨fun _ => "int", fun _ h => by cases h; exact .base (.int _)⟩
instance : Ty Bool := ⟨fun _ => "bool", fun _ h => by cases h; exact .base (.bl _)⟩
instance : Ty Str := ⟨fun _ => "str", fun _ h => by cases h; exact .base (.str _)⟩
instance : Ty Unit := ⟨fun _ => "NoneType", fun _ h => by cases h; exact .base .non⟩
instance {α : Type} [Rp α] : Ty (List α) := ⟨fun _ => "list", fun fh ⟨a, vs, e, h, _⟩ => by subst e; exact .base (.lst (fh.at h rfl))⟩
theorem ty_tup {K : PySem.W.Frag} {F H : Hp} {lk : List Addr} {a : Addr} {vs : List V} (fh : Fh lk F H) (h : SqT K F a vs) : TyX K H (.ref a) (.type "tuple") := by
  rcases h with (h | ⟨o, h⟩) | ⟨o, its, n, h, c, _⟩
  · exact .base (.tup (fh.at h rfl))
  · exact .fTuple (fh.at h rfl)
  · exact .kTuple h c
instance {α β : Type} [Rp α] [Rp β] : Ty (α × β) := ⟨fun _ => "tuple", fun fh ⟨a, _, _, e, h, _⟩ => by subst e; exact ty_tup fh h⟩
instance {α β γ : Type} [Rp α] [Rp β] [Rp γ] : Ty (T3 α β γ) := ⟨fun _ => "tuple", fun fh ⟨a, _, _, _, e, h, _⟩ => by subst e; exact ty_tup fh h⟩
instance {α : Type} [Rp α] : Ty (Tp α) := ⟨fun _ => "tuple", fun fh ⟨a, _, e, h, _⟩ => by subst e; exact ty_tup fh h⟩
instance {α : Type} [Rp α] [Ty α] : Ty (Option α) := ⟨fun x => match x with
  | none => "NoneType"
  | some y => Ty.n y, fun {K F H lk v x} fh h => by
    cases x with
    | none => cases (show v = .non from h); exact .base .non
    | some y => exact Ty.ty fh (show Rp.rp K F v y from h)⟩
theorem ty_dict {K : PySem.W.Frag} {H : Hp} {a : Addr} {kvs : List (Key × V)} (h : Rd H a (.dK kvs)) : TyX K H (.ref a) (.type "dict") := by
  rcases h with h | ⟨o, h⟩
  · exact .base (.dK h)
  · exact .fDict h
instance {β : Type} [Rp β] : Ty (Dc β) := ⟨fun _ => "dict", fun fh ⟨a, kvs, e, h, _⟩ => by
  subst e
  rcases fh a _ h with z | ⟨_, _, od, z⟩
  · exact ty_dict (.inl z)
  · exact ty_dict (.inr ⟨od, z⟩)⟩
section
variable {X : Cx} {B : Bs} {e a b : Expr} {r r1 r2 : List Sl} {ra rb x : Rk} {pos p : Pos}
/-- the name of a built-in type as a value -/
theorem ex_tyN {T : Str} {T' : String} (hm : X.mg T = none) (hv : bootBuiltins T = some (.type T')) (hg : Gl X T := by rfl) (hn : T ≠ "__name__" := by decide) (hd : (T == ("__debug__" : Str)) = false := by decide) :
    Ex X B (.Name T pos) r (.dat ⟨fun _ v => v = .ty T', fun _ h => h⟩) r := ex_c (pe_bltn (v := .ty T') hg hm hv rfl hn hd) fun _ => rfl
/-- isinstance(x, T) -/
theorem ex_isi {α : Type} [Rp α] [Ty α] {x : α} {T : String} {d : Bool} (hm : X.mg "isinstance" = none) (ha : Ex X B a r (.dat (is X.K x)) r1) (hb : Ex X B b r1 (.dat ⟨fun _ v => v = .ty T, fun _ h => h⟩) r2) (hk : kitB (Ty.n x) T = some d) (hg : Gl X "isinstance" := by rfl)
    (hs : starEach [a, b] X.env = (false, eval a X.env) :: starEach [b] X.env := by rfl) (hs2 : starEach [b] X.env = (false, eval b X.env) :: starEach [] X.env := by rfl) (hpl : (backTo pos (starEach [b] X.env)).any (·.1) = false := by rfl) :
    Ex X B (.Call (.Name "isinstance" p) [a, b] [] pos) r (.dat (is X.K d)) r2 :=
  ex_cb (fun h => pe_callB call_isi hg hm (by decide +kernel) h (he := hs) (hpl := hpl)) (ax2 ha hb hs hs2) fun σ Hs F H vs k w => by
    obtain ⟨v, u, rfl, w1, w2⟩ := pr2 w
    cases w2
    exact vl_val k (show (is X.K d).p F (.bl d) from rfl) fun Q q => ⟨v, .ty T, .type (Ty.n x), .type T, d, rfl, .ty T, Ty.ty k.fh w1, kit_ty hk, q⟩
/-- isinstance of a list that a name owns -/
theorem ex_isiL {α : Type} [Rp α] {xs : List α} {T : String} {d : Bool} (hm : X.mg "isinstance" = none) (ha : Ex X B a r ra r1) (rd : LsR X.K B r2 ra xs) (hb : Ex X B b r1 (.dat ⟨fun _ v => v = .ty T, fun _ h => h⟩) r2) (hk : kitB "list" T = some d) (hg : Gl X "isinstance" := by rfl)
    (hs : starEach [a, b] X.env = (false, eval a X.env) :: starEach [b] X.env := by rfl) (hs2 : starEach [b] X.env = (false, eval b X.env) :: starEach [] X.env := by rfl) (hpl : (backTo pos (starEach [b] X.env)).any (·.1) = false := by rfl) :
    Ex X B (.Call (.Name "isinstance" p) [a, b] [] pos) r (.dat (is X.K d)) r2 :=
  ex_cb (fun h => pe_callB call_isi hg hm (by decide +kernel) h (he := hs) (hpl := hpl)) (ax2 ha hb hs hs2) fun σ Hs F H vs k w => by
    obtain ⟨v, u, rfl, w1, w2⟩ := pr2 w
    obtain ⟨q, ys, e1, e2, e3⟩ := rd.rd σ Hs F H v k w1
    cases w2
    subst e1
    exact vl_val k (show (is X.K d).p F (.bl d) from rfl) fun Q q => ⟨_, .ty T, .type "list", .type T, d, rfl, .ty T, .base (.lst e2), kit_ty hk, q⟩
section
variable (hs : starEach [a] X.env = (false, eval a X.env) :: starEach [] X.env) (hpl : (backTo pos (starEach [] X.env)).any (·.1) = false)
theorem all2_bl {K : PySem.W.Frag} {F : Hp} : ∀ {vs : List V} {bs : List Bool}, All2 K F vs bs → vs = bs.map V.bl
  | [], [], _ => rfl
  | [], _ :: _, h => nomatch h
  | _ :: _, [], h => nomatch h
  | v :: vs, b :: bs, .cons h t => by rw [all2_bl t, show v = .bl b from h]; rfl
theorem all2_int {K : PySem.W.Frag} {F : Hp} : ∀ {vs : List V} {bs : List Int}, All2 K F vs bs → vs = bs.map V.int
  | [], [], _ => rfl
  | [], _ :: _, h => nomatch h
  | _ :: _, [], h => nomatch h
  | v :: vs, b :: bs, .cons h t => by rw [all2_int t, show v = .int b from h]; rfl
theorem int_all2 {K : PySem.W.Frag} {F : Hp} : ∀ {bs : List Int}, All2 K F (bs.map V.int) bs
  | [] => .nil
  | b :: bs => .cons rfl int_all2
theorem all2_str {K : PySem.W.Frag} {F : Hp} : ∀ {vs : List V} {bs : List Str}, All2 K F vs bs → vs = bs.map V.str
  | [], [], _ => rfl
  | [], _ :: _, h => nomatch h
  | _ :: _, [], h => nomatch h
  | v :: vs, b :: bs, .cons h t => by rw [all2_str t, show v = .str b from h]; rfl
theorem str_all2 {K : PySem.W.Frag} {F : Hp} : ∀ {bs : List Str}, All2 K F (bs.map V.str) bs
  | [] => .nil
  | b :: bs => .cons rfl str_all2
end
theorem ex_all {bs : List Bool} (hm : X.mg "all" = none) (ha : Ex X B a r ra r1) (rd : LsR X.K B r1 ra bs) (hc : X.calm = true := by rfl) (hg : Gl X "all" := by rfl) (hs : starEach [a] X.env = (false, eval a X.env) :: starEach [] X.env := by rfl) (hpl : (backTo pos (starEach [] X.env)).any (·.1) = false := by rfl) :
    Ex X B (.Call (.Name "all" p) [a] [] pos) r (.dat (is X.K (bs.all id))) r1 :=
  ex_cb (fun h => pe_callB (cr_all hc) hg hm (by decide +kernel) h (he := hs) (hpl := hpl)) (ax1 ha hs) fun σ Hs F H vs k w => by
    obtain ⟨v, rfl, w1⟩ := pr1 w
    obtain ⟨q, ys, e1, e2, e3⟩ := rd.rd σ Hs F H v k w1
    subst e1
    exact vl_val k (show (is X.K (bs.all id)).p F (.bl (bs.all id)) from rfl) fun Q z => ⟨q, bs, rfl, .of (by rw [e2, all2_bl e3]), z⟩
theorem ex_any {bs : List Bool} (hm : X.mg "any" = none) (ha : Ex X B a r ra r1) (rd : LsR X.K B r1 ra bs) (hc : X.calm = true := by rfl) (hg : Gl X "any" := by rfl) (hs : starEach [a] X.env = (false, eval a X.env) :: starEach [] X.env := by rfl) (hpl : (backTo pos (starEach [] X.env)).any (·.1) = false := by rfl) :
    Ex X B (.Call (.Name "any" p) [a] [] pos) r (.dat (is X.K (bs.any id))) r1 :=
  ex_cb (fun h => pe_callB (cr_any hc) hg hm (by decide +kernel) h (he := hs) (hpl := hpl)) (ax1 ha hs) fun σ Hs F H vs k w => by
    obtain ⟨v, rfl, w1⟩ := pr1 w
    obtain ⟨q, ys, e1, e2, e3⟩ := rd.rd σ Hs F H v k w1
    subst e1
    exact vl_val k (show (is X.K (bs.any id)).p F (.bl (bs.any id)) from rfl) fun Q z => ⟨q, bs, rfl, .of (by rw [e2, all2_bl e3]), z⟩
theorem ex_abs {i : Int} (hm : X.mg "abs" = none) (ha : Ex X B a r (.dat (is X.K i)) r1) (hg : Gl X "abs" := by rfl) (hs : starEach [a] X.env = (false, eval a X.env) :: starEach [] X.env := by rfl) (hpl : (backTo pos (starEach [] X.env)).any (·.1) = false := by rfl) :
    Ex X B (.Call (.Name "abs" p) [a] [] pos) r (.dat (is X.K (if i < 0 then -i else i))) r1 :=
  ex_cb (fun h => pe_callB call_abs hg hm (by decide +kernel) h (he := hs) (hpl := hpl)) (ax1 ha hs) fun σ Hs F H vs k w => by
    obtain ⟨v, rfl, w1⟩ := pr1 w
    cases w1
    exact vl_val k (show (is X.K (if i < 0 then -i else i)).p F (.int (if i < 0 then -i else i)) from rfl) fun Q z => ⟨i, rfl, z⟩
theorem ex_int1 {i : Int} (hm : X.mg "int" = none) (ha : Ex X B a r (.dat (is X.K i)) r1) (hg : Gl X "int" := by rfl) (hs : starEach [a] X.env = (false, eval a X.env) :: starEach [] X.env := by rfl) (hpl : (backTo pos (starEach [] X.env)).any (·.1) = false := by rfl) :
    Ex X B (.Call (.Name "int" p) [a] [] pos) r (.dat (is X.K i)) r1 :=
  ex_cb (fun h => pe_callTy call_int1 hg hm (by decide +kernel) h (he := hs) (hpl := hpl)) (ax1 ha hs) fun σ Hs F H vs k w => by
    obtain ⟨v, rfl, w1⟩ := pr1 w
    cases w1
    exact vl_val k (show (is X.K i).p F (.int i) from rfl) fun Q z => .inl ⟨i, rfl, z⟩
theorem ex_max2 {i j : Int} (hm : X.mg "max" = none) (ha : Ex X B a r (.dat (is X.K i)) r1) (hb : Ex X B b r1 (.dat (is X.K j)) r2) (hc : X.calm = true := by rfl) (hg : Gl X "max" := by rfl) (hs : starEach [a, b] X.env = (false, eval a X.env) :: starEach [b] X.env := by rfl) (hs2 : starEach [b] X.env = (false, eval b X.env) :: starEach [] X.env := by rfl) (hpl : (backTo pos (starEach [b] X.env)).any (·.1) = false := by rfl) :
    Ex X B (.Call (.Name "max" p) [a, b] [] pos) r (.dat (is X.K (if j > i then j else i))) r2 :=
  ex_cb (fun h => pe_callB (call_max2 hc) hg hm (by decide +kernel) h (he := hs) (hpl := hpl)) (ax2 ha hb hs hs2) fun σ Hs F H vs k w => by
    obtain ⟨v, u, rfl, w1, w2⟩ := pr2 w
    cases w1; cases w2
    exact vl_val k (show (is X.K (if j > i then j else i)).p F (.int (if j > i then j else i)) from rfl) fun Q z => ⟨i, j, rfl, z⟩
theorem ex_min2 {i j : Int} (hm : X.mg "min" = none) (ha : Ex X B a r (.dat (is X.K i)) r1) (hb : Ex X B b r1 (.dat (is X.K j)) r2) (hc : X.calm = true := by rfl) (hg : Gl X "min" := by rfl) (hs : starEach [a, b] X.env = (false, eval a X.env) :: starEach [b] X.env := by rfl) (hs2 : starEach [b] X.env = (false, eval b X.env) :: starEach [] X.env := by rfl) (hpl : (backTo pos (starEach [b] X.env)).any (·.1) = false := by rfl) :
    Ex X B (.Call (.Name "min" p) [a, b] [] pos) r (.dat (is X.K (if j < i then j else i))) r2 :=
  ex_cb (fun h => pe_callB (call_min2 hc) hg hm (by decide +kernel) h (he := hs) (hpl := hpl)) (ax2 ha hb hs hs2) fun σ Hs F H vs k w => by
    obtain ⟨v, u, rfl, w1, w2⟩ := pr2 w
    cases w1; cases w2
    exact vl_val k (show (is X.K (if j < i then j else i)).p F (.int (if j < i then j else i)) from rfl) fun Q z => ⟨i, j, rfl, z⟩
/-- list(xs) -/
theorem ex_listOf {α : Type} [Rp α] {xs : List α} (hm : X.mg "list" = none) (ha : Ex X B a r ra r1) (rd : LsR X.K B r1 ra xs) (hg : Gl X "list" := by rfl) (hs : starEach [a] X.env = (false, eval a X.env) :: starEach [] X.env := by rfl) (hpl : (backTo pos (starEach [] X.env)).any (·.1) = false := by rfl) :
    Ex X B (.Call (.Name "list" p) [a] [] pos) r (.new (lstC X.K xs)) r1 :=
  ex_cb (fun h => pe_callTy call_list_of hg hm (by decide +kernel) h (he := hs) (hpl := hpl)) (ax1 ha hs) fun σ Hs F H vs k w => by
    obtain ⟨v, rfl, w1⟩ := pr1 w
    obtain ⟨q, ys, e1, e2, e3⟩ := rd.rd σ Hs F H v k w1
    subst e1
    exact vl_new k ⟨ys, rfl, e3⟩ fun Q z => ⟨q, ys, rfl, .inl (.of e2), z⟩
/-- xs + ys of lists -/
theorem ex_cat {α : Type} [Rp α] {xs ys : List α} (ha : Ex X B a r ra r1) (hb : Ex X B b r1 rb r2) (rd1 : LsR X.K B r2 ra xs) (rd2 : LsR X.K B r2 rb ys) (hl : xs.length + ys.length ≤ sizeLine) : Ex X B (.BinOp a .Add b pos) r (.new (lstC X.K (xs ++ ys))) r2 :=
  ex_bin (pe_op op_cat) ha hb fun σ Hs F H u v k hu hv => by
    obtain ⟨p1, v1, e1, e2, e3⟩ := rd1.rd σ Hs F H u k hu
    obtain ⟨p2, v2, g1, g2, g3⟩ := rd2.rd σ Hs F H v k hv
    exact vl_new k ⟨v1 ++ v2, rfl, Paired.append e3 g3⟩ fun Q z => ⟨p1, p2, v1, v2, e1, g1, e2, g2, by rw [e3.len, g3.len]; exact hl, z⟩
/-- xs * n -/
theorem ex_rep {α : Type} [Rp α] {xs : List α} {n : Int} (ha : Ex X B a r ra r1) (hb : Ex X B b r1 (.dat (is X.K n)) r2) (rd1 : LsR X.K B r2 ra xs) (h1 : -(2 ^ 63) ≤ n ∧ n < 2 ^ 63) (hl : xs.length * n.toNat ≤ sizeLine) : Ex X B (.BinOp a .Mult b pos) r (.new (lstC X.K ((List.replicate n.toNat xs).flatten))) r2 :=
  ex_bin (pe_op op_rep) ha hb fun σ Hs F H u v k hu hv => by
    obtain ⟨p1, v1, e1, e2, e3⟩ := rd1.rd σ Hs F H u k hu
    cases hv
    refine vl_new (o := .lst ((List.replicate n.toNat v1).flatten)) k ⟨_, rfl, ?_⟩ fun Q z => ⟨p1, n, v1, e1, rfl, e2, h1.1, h1.2, by rw [e3.len]; exact hl, z⟩
    induction n.toNat with
    | zero => exact .nil
    | succ m ih => rw [List.replicate_succ, List.replicate_succ, List.flatten_cons, List.flatten_cons]; exact Paired.append e3 ih
/-- c in s, c one sign -/
theorem q_inS {c : Nat} {z : Str} (ha : Ex X B a r (.dat (is X.K (⟨#[c]⟩ : Str))) r1) (hb : Ex X B b r1 (.dat (is X.K z)) r2) (hm : behindInMarks .In b = false := by rfl) : Pc X B .In a b r (is X.K (decide (c ∈ z.cps.toList))) r2 :=
  pc_bin op_in_sign hm ha hb fun σ Hs F H u v k hu hv => by
    cases hu; cases hv
    exact vl_val k (show (is X.K (decide (c ∈ z.cps.toList))).p F (.bl (decide (c ∈ z.cps.toList))) from rfl) fun Q q => ⟨c, z, rfl, rfl, q⟩
/-- the signs of a text, one by one, by their codes -/
theorem src_str {tg iter : Expr} {z : Str} (h : Ex X B iter r (.dat (is X.K z)) r1) : Src X B tg iter r z.cps.toList (fun c => is X.K (⟨#[c]⟩ : Str)) r1 :=
  ⟨_, pi_str h, fun σ F H R k q => ⟨F, k, fun v F1 H1 p w => by
    cases w
    refine ⟨z, rfl, q _ F1 H1 p fun i F' H' sm fh => ⟨fun c hc => ?_, fun hi => ?_⟩⟩
    · have hc' : z.cps[i]? = some c := by simpa using hc
      refine ⟨by
        show i < z.cps.size
        rw [Array.getElem?_eq_some_iff] at hc'
        exact hc'.1, fun u H'' y => ?_⟩
      obtain ⟨rfl, c', h1, rfl⟩ := y
      rw [hc'] at h1; cases h1
      exact ⟨F', Stp.refl _ _ _, fh, rfl⟩
    · show z.cps.size ≤ i
      simpa using hi⟩⟩
end
end DL

/-! DLMore: more typed rules: enumerate, zip, reversed, deep ==, in, texts, dict comprehensions, pop -/
namespace DL
open PySem L2
section
variable {X : Cx} {B : Bs} {e a b : Expr} {ss rest : List Stmt} {r r1 r2 : List Sl} {ra rb x : Rk} {D : Dn} {pos p : Pos}

/-! ### a new tuple that a walk hands out -/
theorem stp_alloc {F H : Hp} {T : Addr} {o : HO} {lk : List Addr} (fh : Fh lk F H) (hT : H T = none) : Stp (fun _ => False) F H (upd F T o) (upd H T o) ∧ Fh lk (upd F T o) (upd H T o) := by
  have hF := fh.none hT
  refine ⟨⟨fun b u q => by rw [upd_ne (ne_of_none q hF)]; exact q, fun b u q => ?_, fun b u q _ => by rw [upd_ne (ne_of_none q hT)]; exact q, fun b q => ?_⟩, fun b u q => ?_⟩
  · by_cases h : b = T
    · exact .inr (.inl (by rw [h]; exact hT))
    · rw [upd_ne h] at q; exact .inl q
  · by_cases h : b = T
    · rw [h, upd_same]; intro z; cases z
    · rw [upd_ne h]; exact q
  · by_cases h : b = T
    · subst h; rw [upd_same] at q; cases q; exact .inl upd_same
    · rw [upd_ne h] at q ⊢
      exact fh b u q
/-! ### enumerate, zip, reversed -/
def enumI {α : Type} (xs : List α) : List (Int × α) := xs.mapIdx fun i x => ((i : Int), x)
theorem enumI_get {α : Type} {xs : List α} {i : Nat} {y : Int × α} (h : (enumI xs)[i]? = some y) : ∃ x, xs[i]? = some x ∧ y = ((i : Int), x) := by
  unfold enumI at h
  rw [List.getElem?_mapIdx] at h
  cases q : xs[i]? with
  | none => rw [q] at h; cases h
  | some x => rw [q] at h; exact ⟨x, rfl, (Option.some.inj h).symm⟩
theorem src_enum {elts : List Expr} {kk : Nat} {tpos : Pos} {α : Type} [Rp α] {xs : List α} (hm : X.mg "enumerate" = none) (h : Ex X B a r (.dat (is X.K xs)) r1) (hg : Gl X "enumerate" := by rfl) (hs : starEach [a] X.env = [(false, eval a X.env)] := by rfl) : Src X B (.Tuple elts kk tpos) (.Call (.Name "enumerate" p) [a] [] pos) r (enumI xs) (is X.K) r1 :=
  ⟨_, pi_enum hg hm (ax1 h hs) hs, fun σ F H R k q => ⟨F, k, fun vs F1 H1 p w => by
    obtain ⟨v, rfl, w1⟩ := pr1 w
    obtain ⟨c, us, e1, e2, e3⟩ := w1
    subst e1
    refine ⟨c, us, rfl, .of (p.ok.fh.at e2 rfl), q _ F1 H1 p fun i F' H' sm fh => ?_⟩
    have h1 : SqL X.K H' c us := .of (fh.at (sm _ _ e2) rfl)
    refine ⟨fun y hy => ?_, fun hi => ⟨us, h1, by rw [e3.len]; unfold enumI at hi; simpa using hi⟩⟩
    obtain ⟨x, hx, rfl⟩ := enumI_get hy
    obtain ⟨u, hu, ru⟩ := Paired.get e3 hx
    refine ⟨⟨us, u, h1, hu⟩, fun w H'' yy => ?_⟩
    obtain ⟨T, u', rfl, hT, rfl, g⟩ := yy
    have e := g us h1
    rw [hu] at e; cases e
    obtain ⟨s1, s2⟩ := stp_alloc (o := .tup [.int (i : Nat), u]) fh hT
    exact ⟨_, s1, s2, ⟨T, _, _, rfl, Evl.st_of upd_same, rfl, Rp.mono (sm.trans s1.f) ru⟩⟩⟩⟩
theorem src_zip {elts : List Expr} {kk : Nat} {tpos : Pos} {α β : Type} [Rp α] [Rp β] {xs : List α} {ys : List β} (hm : X.mg "zip" = none) (h : Ex X B a r (.dat (is X.K xs)) r1) (h2 : Ex X B b r1 (.dat (is X.K ys)) r2) (hg : Gl X "zip" := by rfl) (hs : starEach [a, b] X.env = (false, eval a X.env) :: starEach [b] X.env := by rfl) (hs2 : starEach [b] X.env = (false, eval b X.env) :: starEach [] X.env := by rfl) (hpl : (backTo pos (starEach [b] X.env)).any (·.1) = false := by rfl) : Src X B (.Tuple elts kk tpos) (.Call (.Name "zip" p) [a, b] [] pos) r (xs.zip ys) (is X.K) r2 :=
  ⟨_, pi_zip hg hm (ax2 h h2 hs hs2) hs hpl, fun σ F H R k q => ⟨F, k, fun vs F1 H1 p w => by
    obtain ⟨v, w', rfl, w1, w2⟩ := pr2 w
    obtain ⟨c, us, e1, e2, e3⟩ := w1
    obtain ⟨d, ws, g1, g2, g3⟩ := w2
    subst e1 g1
    refine ⟨c, d, us, ws, rfl, .of (p.ok.fh.at e2 rfl), .of (p.ok.fh.at g2 rfl), q _ F1 H1 p fun i F' H' sm fh => ?_⟩
    have h1 : SqL X.K H' c us := .of (fh.at (sm _ _ e2) rfl)
    have h2 : SqL X.K H' d ws := .of (fh.at (sm _ _ g2) rfl)
    refine ⟨fun y hy => ?_, fun hi => ⟨us, ws, h1, h2, by rw [e3.len, g3.len]; rw [List.length_zip] at hi; omega⟩⟩
    rw [List.getElem?_zip_eq_some] at hy
    obtain ⟨u, hu, ru⟩ := Paired.get e3 hy.1
    obtain ⟨z, hz, rz⟩ := Paired.get g3 hy.2
    refine ⟨⟨us, ws, u, z, h1, h2, hu, hz⟩, fun w H'' yy => ?_⟩
    obtain ⟨T, u', z', rfl, hT, rfl, g, g'⟩ := yy
    have e := g us h1
    rw [hu] at e; cases e
    have e' := g' ws h2
    rw [hz] at e'; cases e'
    obtain ⟨s1, s2⟩ := stp_alloc (o := .tup [u, z]) fh hT
    exact ⟨_, s1, s2, ⟨T, _, _, rfl, Evl.st_of upd_same, Rp.mono (sm.trans s1.f) ru, Rp.mono (sm.trans s1.f) rz⟩⟩⟩⟩
theorem src_rev {tg : Expr} {α : Type} [Rp α] {xs : List α} (hm : X.mg "reversed" = none) (h : Ex X B a r (.dat (is X.K xs)) r1) (hg : Gl X "reversed" := by rfl) (hs : starEach [a] X.env = [(false, eval a X.env)] := by rfl) : Src X B tg (.Call (.Name "reversed" p) [a] [] pos) r xs.reverse (is X.K) r1 :=
  ⟨_, pi_reversed hg hm (ax1 h hs) hs, fun σ F H R k q => ⟨F, k, fun vs F1 H1 p w => by
    obtain ⟨v, rfl, w1⟩ := pr1 w
    obtain ⟨c, us, e1, e2, e3⟩ := w1
    subst e1
    refine ⟨c, us, rfl, .of (p.ok.fh.at e2 rfl), q _ F1 H1 p fun i F' H' sm fh => ?_⟩
    have h1 : SqL X.K H' c us := .of (fh.at (sm _ _ e2) rfl)
    refine ⟨fun y hy => ?_, fun hi => by rw [List.length_reverse, ← e3.len] at hi; exact hi⟩
    have hlt : i < xs.length := by
      have z := (List.getElem?_eq_some_iff.mp hy).1
      rwa [List.length_reverse] at z
    rw [List.getElem?_reverse hlt, ← e3.len] at hy
    obtain ⟨u, hu, ru⟩ := Paired.get e3 hy
    refine ⟨⟨by rw [e3.len]; exact hlt, us, u, h1, hu⟩, fun w H'' yy => ?_⟩
    obtain ⟨rfl, g⟩ := yy
    have e := g us h1
    rw [hu] at e; cases e
    exact ⟨F', Stp.refl _ _ _, fh, Rp.mono sm ru⟩⟩⟩

/-! ### data compared deeply -/
class Enc (α : Type) [Rp α] where
  e : α → PyData
  ok : α → Prop
  d : Nat
  dp : ∀ {K : PySem.W.Frag} {F H : Hp} {lk : List Addr} {v : V} {x : α}, Fh lk F H → Rp.rp K F v x → Dp K H v (e x)
  lay : ∀ {x : α}, ok x → (e x).canLay0 = true
  dep : ∀ x, (e x).depth ≤ d
  eqv : ∀ x y, PyData.eqv (e x) (e y) = true ↔ x = y
class EncN (α : Type) [Rp α] [Enc α] : Prop where
  n1 : ∀ x : α, PyData.eqv .none (Enc.e x) = false
  n2 : ∀ x : α, PyData.eqv (Enc.e x) .none = false
instance : Enc Int := ⟨.int, fun _ => True, 0, fun _ h => by cases h; exact .int _, fun _ => rfl, fun _ => Nat.le_of_eq (by simp [PyData.depth]), fun x y => by simp [PyData.eqv]⟩
instance : EncN Int := ⟨fun x => by simp [Enc.e, PyData.eqv], fun x => by simp [Enc.e, PyData.eqv]⟩
instance : Enc Bool := ⟨.bool, fun _ => True, 0, fun _ h => by cases h; exact .bl _, fun _ => rfl, fun _ => Nat.le_of_eq (by simp [PyData.depth]), fun x y => by simp [PyData.eqv]⟩
instance : EncN Bool := ⟨fun x => by simp [Enc.e, PyData.eqv], fun x => by simp [Enc.e, PyData.eqv]⟩
instance : Enc Str := ⟨.str, fun x => PyData.strOk x = true, 0, fun _ h => by cases h; exact .str _, fun h => by simp [PyData.canLay0]; exact h, fun _ => Nat.le_of_eq (by simp [PyData.depth]), fun x y => by simp [PyData.eqv]⟩
instance : EncN Str := ⟨fun x => by simp [Enc.e, PyData.eqv], fun x => by simp [Enc.e, PyData.eqv]⟩
instance {α : Type} [Rp α] [Enc α] [EncN α] : Enc (Option α) := ⟨fun x => match x with
    | none => .none
    | some y => Enc.e y, fun x => ∀ y, x = some y → Enc.ok y, Enc.d α, fun {K F H lk v x} fh h => by
      cases x with
      | none => cases (show v = .non from h); exact .non
      | some y => exact Enc.dp fh (show Rp.rp K F v y from h), fun {x} h => by
      cases x with
      | none => rfl
      | some y => exact Enc.lay (h y rfl), fun x => by
      cases x with
      | none => exact Nat.le_trans (Nat.le_of_eq (by simp [PyData.depth])) (Nat.zero_le _)
      | some y => exact Enc.dep y, fun x y => by
      cases x with
      | none => cases y with
        | none => simp [PyData.eqv]
        | some y => show PyData.eqv .none (Enc.e y) = true ↔ _; rw [EncN.n1]; simp
      | some x => cases y with
        | none => show PyData.eqv (Enc.e x) .none = true ↔ _; rw [EncN.n2]; simp
        | some y => show PyData.eqv (Enc.e x) (Enc.e y) = true ↔ _; rw [Enc.eqv]; simp⟩
theorem dp_all {K : PySem.W.Frag} {F H : Hp} {lk : List Addr} {α : Type} [Rp α] [Enc α] (fh : Fh lk F H) : ∀ {vs : List V} {xs : List α}, All2 K F vs xs → DpAll K H vs (xs.map Enc.e)
  | [], [], _ => .nil
  | [], _ :: _, h => nomatch h
  | _ :: _, [], h => nomatch h
  | v :: vs, x :: xs, .cons h t => .cons (Enc.dp fh h) (dp_all fh t)
theorem lay_all {α : Type} [Rp α] [Enc α] : ∀ {xs : List α}, (∀ x ∈ xs, Enc.ok x) → PyData.canLayAll0 (xs.map Enc.e) = true
  | [], _ => rfl
  | x :: xs, h => by
    simp only [List.map_cons, PyData.canLayAll0, Bool.and_eq_true]
    exact ⟨Enc.lay (h x (by simp)), lay_all fun y hy => h y (by simp [hy])⟩
theorem dep_all {α : Type} [Rp α] [Enc α] : ∀ xs : List α, PyData.depthAll (xs.map Enc.e) ≤ Enc.d α
  | [] => by simp [PyData.depthAll]
  | x :: xs => by
    simp only [List.map_cons, PyData.depthAll]
    exact Nat.max_le.mpr ⟨Enc.dep x, dep_all xs⟩
theorem eqv_all {α : Type} [Rp α] [Enc α] : ∀ xs ys : List α, PyData.eqvAll (xs.map Enc.e) (ys.map Enc.e) = true ↔ xs = ys
  | [], [] => by simp [PyData.eqvAll]
  | [], y :: ys => by simp [PyData.eqvAll]
  | x :: xs, [] => by simp [PyData.eqvAll]
  | x :: xs, y :: ys => by
    simp only [List.map_cons, PyData.eqvAll, Bool.and_eq_true, List.cons.injEq]
    rw [Enc.eqv, eqv_all xs ys]
instance {α : Type} [Rp α] [Enc α] : Enc (List α) := ⟨fun xs => .list (xs.map Enc.e), fun xs => ∀ x ∈ xs, Enc.ok x, Enc.d α + 1, fun fh ⟨a, vs, e1, e2, e3⟩ => by subst e1; exact .lst (.of (fh.at e2 rfl)) (dp_all fh e3), fun h => by
    simp only [PyData.canLay0]; exact lay_all h, fun xs => by simp only [PyData.depth]; have := dep_all xs; omega, fun x y => by
    simp only [PyData.eqv]
    rw [eqv_all]⟩
instance {α : Type} [Rp α] [Enc α] : EncN (List α) := ⟨fun x => by simp [Enc.e, PyData.eqv], fun x => by simp [Enc.e, PyData.eqv]⟩
theorem sqt_fh {K : PySem.W.Frag} {F H : Hp} {lk : List Addr} {a : Addr} {vs : List V} (fh : Fh lk F H) (e2 : SqT K F a vs) : SqT K H a vs := by
  rcases e2 with (z | ⟨o, z⟩) | z
  · exact Evl.st_of (fh.at z rfl)
  · exact .inl (.inr ⟨o, fh.at z rfl⟩)
  · exact .inr z
instance {α β : Type} [Rp α] [Rp β] [Enc α] [Enc β] : Enc (α × β) := ⟨fun x => .tuple [Enc.e x.1, Enc.e x.2], fun x => Enc.ok x.1 ∧ Enc.ok x.2, max (Enc.d α) (Enc.d β) + 1, fun fh ⟨a, u, w, e1, e2, e3, e4⟩ => by subst e1; exact .tup (sqt_fh fh e2) (.cons (Enc.dp fh e3) (.cons (Enc.dp fh e4) .nil)), fun h => by
    simp only [PyData.canLay0, PyData.canLayAll0, Enc.lay h.1, Enc.lay h.2, Bool.and_self], fun x => by
    simp only [PyData.depth, PyData.depthAll]
    have h1 := Enc.dep x.1
    have h2 := Enc.dep x.2
    omega, fun x y => by
    simp only [PyData.eqv, PyData.eqvAll, Bool.and_eq_true, Enc.eqv, and_true]
    constructor
    · rintro ⟨h1, h2⟩; exact Prod.ext h1 h2
    · rintro rfl; exact ⟨rfl, rfl⟩⟩
instance {α β : Type} [Rp α] [Rp β] [Enc α] [Enc β] : EncN (α × β) := ⟨fun x => by simp [Enc.e, PyData.eqv], fun x => by simp [Enc.e, PyData.eqv]⟩
theorem enc_shaped {α : Type} [Rp α] [Enc α] {x : α} (h : Enc.ok x) (hd : Enc.d α ≤ 64) : SeqAt.shaped (Enc.e x) = true := by
  unfold SeqAt.shaped
  rw [Enc.lay h, Bool.true_and]
  exact decide_eq_true (Nat.le_trans (Enc.dep x) hd)
theorem enc_eqv {α : Type} [Rp α] [Enc α] [DecidableEq α] (x y : α) : PyData.eqv (Enc.e x) (Enc.e y) = decide (x = y) := by
  by_cases h : x = y
  · rw [decide_eq_true h]; exact (Enc.eqv x y).mpr h
  · rw [decide_eq_false h]
    cases q : PyData.eqv (Enc.e x) (Enc.e y) with
    | false => rfl
    | true => exact absurd ((Enc.eqv x y).mp q) h
/-- data that may be read as such: frozen, or a list that a name owns -/
structure DtR (K : PySem.W.Frag) (B : Bs) (r : List Sl) (x : Rk) {α : Type} [Rp α] [Enc α] (y : α) : Prop where
  rd : ∀ σ Hs F H v, Ok B r σ F H → RkOk r Hs σ F H v x → Dp K H v (Enc.e y)
theorem dt_dat {K : PySem.W.Frag} {α : Type} [Rp α] [Enc α] {y : α} : DtR K B r (.dat (is K y)) y := ⟨fun σ Hs F H v k w => Enc.dp k.fh w⟩
theorem dt_ls {K : PySem.W.Frag} {α : Type} [Rp α] [Enc α] {xs : List α} {x : Rk} (h : LsR K B r x xs) : DtR K B r x xs := ⟨fun σ Hs F H v k w => by
  obtain ⟨a, vs, e1, e2, e3⟩ := h.rd σ Hs F H v k w
  subst e1
  exact .lst (.of e2) (dp_all k.fh e3)⟩
section
variable {α : Type} [Rp α] [Enc α] [DecidableEq α] {u w : α}
theorem q_eqD (hu : X.A.units + 64 < cLine) (ha : Ex X B a r ra r1) (hb : Ex X B b r1 rb r2) (da : DtR X.K B r2 ra u) (db : DtR X.K B r2 rb w) (h1 : Enc.ok u) (h2 : Enc.ok w) (hd : Enc.d α ≤ 64 := by decide) : Pc X B .Eq a b r (is X.K (decide (u = w))) r2 :=
  pc_bin (op_eqD hu) (nomark _) ha hb fun σ Hs F H v1 v2 k g1 g2 =>
    vl_val k (show (is X.K (decide (u = w))).p F (.bl (PyData.eqv (Enc.e u) (Enc.e w))) from by rw [enc_eqv]; rfl) fun Q q => ⟨_, _, da.rd σ Hs F H v1 k g1, db.rd σ Hs F H v2 k g2, enc_shaped h1 hd, enc_shaped h2 hd, q⟩
theorem q_neD (hu : X.A.units + 64 < cLine) (ha : Ex X B a r ra r1) (hb : Ex X B b r1 rb r2) (da : DtR X.K B r2 ra u) (db : DtR X.K B r2 rb w) (h1 : Enc.ok u) (h2 : Enc.ok w) (hd : Enc.d α ≤ 64 := by decide) : Pc X B .NotEq a b r (is X.K (!decide (u = w))) r2 :=
  pc_bin (op_neD hu) (nomark _) ha hb fun σ Hs F H v1 v2 k g1 g2 =>
    vl_val k (show (is X.K (!decide (u = w))).p F (.bl (!PyData.eqv (Enc.e u) (Enc.e w))) from by rw [enc_eqv]; rfl) fun Q q => ⟨_, _, da.rd σ Hs F H v1 k g1, db.rd σ Hs F H v2 k g2, enc_shaped h1 hd, enc_shaped h2 hd, q⟩
variable {ws : List α}
theorem any_enc (u : α) : ∀ ws : List α, ((ws.map Enc.e).any fun z => PyData.eqv z (Enc.e u)) = decide (u ∈ ws)
  | [] => by simp
  | w :: ws => by
    rw [List.map_cons, List.any_cons, any_enc u ws, enc_eqv]
    by_cases h : w = u
    · subst h; simp
    · have h' : ¬ u = w := fun z => h z.symm
      simp [h, h']
theorem q_inL (hu : X.A.units + 65 < cLine) (ha : Ex X B a r ra r1) (hb : Ex X B b r1 rb r2) (da : DtR X.K B r2 ra u) (rd : DtR X.K B r2 rb ws) (h1 : Enc.ok u) (h2 : Enc.ok ws) (hd : Enc.d α ≤ 63 := by decide) (hm : behindInMarks .In b = false := by rfl) : Pc X B .In a b r (is X.K (decide (u ∈ ws))) r2 :=
  pc_bin (op_inD hu) hm ha hb fun σ Hs F H v1 v2 k g1 g2 =>
    vl_val k (show (is X.K (decide (u ∈ ws))).p F (.bl ((ws.map Enc.e).any fun z => PyData.eqv z (Enc.e u))) from by rw [any_enc]; rfl) fun Q q => ⟨_, _, da.rd σ Hs F H v1 k g1, rd.rd σ Hs F H v2 k g2, enc_shaped h1 (by omega), enc_shaped h2 (by show Enc.d α + 1 ≤ 64; omega), q⟩
theorem q_ninL (hu : X.A.units + 65 < cLine) (ha : Ex X B a r ra r1) (hb : Ex X B b r1 rb r2) (da : DtR X.K B r2 ra u) (rd : DtR X.K B r2 rb ws) (h1 : Enc.ok u) (h2 : Enc.ok ws) (hd : Enc.d α ≤ 63 := by decide) (hm : behindInMarks .NotIn b = false := by rfl) : Pc X B .NotIn a b r (is X.K (!decide (u ∈ ws))) r2 :=
  pc_bin (op_notInD hu) hm ha hb fun σ Hs F H v1 v2 k g1 g2 =>
    vl_val k (show (is X.K (!decide (u ∈ ws))).p F (.bl (!(ws.map Enc.e).any fun z => PyData.eqv z (Enc.e u))) from by rw [any_enc]; rfl) fun Q q => ⟨_, _, da.rd σ Hs F H v1 k g1, rd.rd σ Hs F H v2 k g2, enc_shaped h1 (by omega), enc_shaped h2 (by show Enc.d α + 1 ≤ 64; omega), q⟩
end

/-! ### texts -/
theorem ex_ixS {z : Str} {i : Int} {c : Nat} (ha : Ex X B a r (.dat (is X.K z)) r1) (hb : Ex X B b r1 (.dat (is X.K i)) r2) (h : z.length ≤ sizeLine ∧ L2.atI z.cps.toList i = some c) (hs : PlainIx b := by exact fun _ _ => rfl) : Ex X B (.Subscript a b pos) r (.dat (is X.K (⟨#[c]⟩ : Str))) r2 :=
  ex_bin (fun ha hb => pe_ix ix_str ha hb hs) ha hb fun σ Hs F H u v k hu hv => by
    cases hu; cases hv
    exact vl_val k (show (is X.K (⟨#[c]⟩ : Str)).p F (.str ⟨#[c]⟩) from rfl) fun Q q => ⟨z, i, c, rfl, rfl, h.1, h.2, q⟩
/-- the parts of a slice -/
def tocan (B : Bs) (r : List Sl) (o : Option Int) (r' : List Sl) : TO := fun σ H Q => ∃ F, Ok B r σ F H ∧ ∀ F' H', Post B r σ F H r' F' H' → Q o H'
def Ox (X : Cx) (B : Bs) (e : Option Expr) (r : List Sl) (o : Option Int) (r' : List Sl) : Prop := PO X e (tocan B r o r')
theorem PO.imp {e : Option Expr} {t t' : TO} (h : PO X e t) (i : ∀ σ H Q, t' σ H Q → t σ H Q) : PO X e t' := ⟨fun pins s σ H Q I q => h.run pins s σ H Q I (i σ H Q q)⟩
theorem ox_none : Ox X B none r none r := PO.imp po_none fun σ H Q ⟨F, k, q⟩ => q F H (Post.refl k)
theorem ox_some {i : Int} (h : Ex X B a r (.dat (is X.K i)) r1) : Ox X B (some a) r (some i) r1 := PO.imp (po_some h) fun σ H Q ⟨F, k, q⟩ => ⟨F, k, fun v F' H' p w => ⟨i, w, q F' H' p⟩⟩
theorem ex_slS {z : Str} {lo hi : Option Expr} {l h : Option Int} {r3 : List Sl} {p2 : Pos} (ha : Ex X B a r (.dat (is X.K z)) r1) (hl : Ox X B lo r1 l r2) (hh : Ox X B hi r2 h r3) (hz : z.length ≤ sizeLine) : Ex X B (.Subscript a (.Slice lo hi none p2) pos) r (.dat (is X.K (cutS z l h))) r3 :=
  PE.imp (pe_slice sl_str ha hl hh) fun σ H Q ⟨F, k, q⟩ => ⟨F, k, fun v F1 H1 p1 w1 => ⟨F1, p1.ok, fun F2 H2 p2 => ⟨F2, p2.ok, fun F3 H3 p3 => by
    cases w1
    exact ⟨z, rfl, hz, q _ F3 H3 ((p1.trans p2).trans p3) rfl⟩⟩⟩⟩
/-- xs[a:b] -/
def cutL {α : Type} (xs : List α) (lo hi : Option Int) : List α := (xs.drop (HT.sIx xs.length 0 lo)).take (HT.sIx xs.length xs.length hi - HT.sIx xs.length 0 lo)
theorem Paired.drop {α β : Type} {R : α → β → Prop} : ∀ {xs : List α} {ys : List β} (n : Nat), Paired R xs ys → Paired R (xs.drop n) (ys.drop n)
  | _, _, 0, r => r
  | _, _, _ + 1, .nil => .nil
  | _, _, n + 1, .cons _ t => Paired.drop n t
theorem Paired.take {α β : Type} {R : α → β → Prop} : ∀ {xs : List α} {ys : List β} (n : Nat), Paired R xs ys → Paired R (xs.take n) (ys.take n)
  | _, _, 0, _ => .nil
  | _, _, _ + 1, .nil => .nil
  | _, _, n + 1, .cons h t => .cons h (Paired.take n t)
theorem ex_slL {α : Type} [Rp α] {xs : List α} {lo hi : Option Expr} {l h : Option Int} {r3 : List Sl} {p2 : Pos} (ha : Ex X B a r ra r1) (hl : Ox X B lo r1 l r2) (hh : Ox X B hi r2 h r3) (rd : LsR X.K B r3 ra xs) : Ex X B (.Subscript a (.Slice lo hi none p2) pos) r (.new (lstC X.K (cutL xs l h))) r3 :=
  PE.imp (pe_slice sl_list ha hl hh) fun σ H Q ⟨F, k, q⟩ => ⟨F, k, fun v F1 H1 p1 w1 => ⟨F1, p1.ok, fun F2 H2 p2 => ⟨F2, p2.ok, fun F3 H3 p3 => by
    obtain ⟨c, vs, e1, e2, e3⟩ := rd.rd σ H F3 H3 v p3.ok ((w1.step p2).step p3)
    have pp := (p1.trans p2).trans p3
    refine ⟨c, vs, e1, .of e2, fun d hd => q _ F3 _ (pp.trans (Post.alloc p3.ok hd)) (RkOk.back (RkOk.alloc p3.ok hd ⟨_, rfl, ?_⟩) pp.st.dm)⟩
    unfold cutV cutL
    rw [e3.len]
    exact Paired.take _ (Paired.drop _ e3)⟩⟩⟩
/-- s.join(xs) -/
theorem ex_join {s : Str} {ys : List Str} {apos : Pos} (ha : Ex X B a r (.dat (is X.K s)) r1) (hb : Ex X B b r1 rb r2) (rd : LsR X.K B r2 rb ys) (hl : (ys.map (·.length)).sum + ys.length * s.length ≤ 16777216) (hs : starEach [b] X.env = [(false, eval b X.env)] := by rfl) (hbase : attributeBase a "join" X.env (eval a X.env) = eval a X.env := by rfl) (hline : (apos.endLine == pos.line) = true := by rfl) :
    Ex X B (.Call (.Attribute a "join" apos) [b] [] pos) r (.dat (is X.K (Txt.join s ys))) r2 :=
  PE.imp (pe_m1 F.slot_str_join F.type_str_join mt_join ha hb hs hbase hline) fun σ H Q ⟨F, k, q⟩ => ⟨F, k, fun v F1 H1 p1 w1 => by
    cases w1
    refine ⟨⟨s, rfl⟩, F1, p1.ok, fun w F2 H2 p2 w2 => ?_⟩
    obtain ⟨c, vs, e1, e2, e3⟩ := rd.rd σ H1 F2 H2 w p2.ok w2
    subst e1
    exact ⟨s, c, ys, rfl, rfl, .inl (.of (by rw [e2, all2_str e3])), hl, q _ F2 H2 (p1.trans p2) rfl⟩⟩

/-! ### list(range(n)), sorted -/
theorem rgV_all {K : PySem.W.Frag} {F : Hp} {lo hi : Int} : All2 K F (rgV lo hi) (rangeI lo hi) := by
  unfold rgV rangeI
  induction (List.range (hi - lo).toNat) with
  | nil => exact .nil
  | cons i t ih => exact .cons rfl ih
theorem ex_listRange {n : Int} {p1 p2 : Pos} (hm : X.mg "list" = none) (hm2 : X.mg "range" = none) (ha : Ex X B a r (.dat (is X.K n)) r1) (h : 0 ≤ n ∧ n ≤ 16777216) (hc : X.calm = true := by rfl) (hg : Gl X "list" := by rfl) (hg2 : Gl X "range" := by rfl) (na : starEach [.Call (.Name "range" p1) [a] [] p2] X.env = (false, eval (.Call (.Name "range" p1) [a] [] p2) X.env) :: starEach [] X.env := by rfl) (na2 : starEach [a] X.env = (false, eval a X.env) :: starEach [] X.env := by rfl) :
    Ex X B (.Call (.Name "list" p) [.Call (.Name "range" p1) [a] [] p2] [] pos) r (.new (lstC X.K (rangeI 0 n))) r1 :=
  PE.imp (pe_listRg hc hg hm (prg_1 hg2 hm2 ha na2) na) fun σ H Q ⟨F, k, q⟩ => ⟨F, k, fun v F1 H1 p1 w1 => by
    refine ⟨n, w1, RgOk.of_le (Int.le_refl _) h.2 (by decide) h.1, fun d hd => q _ F1 _ (p1.trans (Post.alloc p1.ok hd)) (RkOk.back (RkOk.alloc p1.ok hd ⟨_, rfl, rgV_all⟩) p1.st.dm)⟩⟩
def sortI (ns : List Int) : List Int := ns.mergeSort (fun a b => decide (a ≤ b))
theorem sortI_perm (ns : List Int) : (sortI ns).Perm ns := List.mergeSort_perm ns _
theorem sortI_sorted (ns : List Int) : (sortI ns).Pairwise (· ≤ ·) := by
  have h := List.pairwise_mergeSort (le := fun a b : Int => decide (a ≤ b)) (fun a b c h1 h2 => by simp only [decide_eq_true_eq] at *; omega) (fun a b => by simp only [Bool.or_eq_true, decide_eq_true_eq]; omega) ns
  exact h.imp fun h => of_decide_eq_true h
theorem sorted_uniq : ∀ {xs ys : List Int}, xs.Perm ys → xs.Pairwise (· ≤ ·) → ys.Pairwise (· ≤ ·) → xs = ys := fun {xs ys} p h1 h2 =>
  p.eq_of_pairwise (le := (· ≤ ·)) (fun a b _ _ h1 h2 => Int.le_antisymm h1 h2) h1 h2
theorem ex_sorted {ns : List Int} (hm : X.mg "sorted" = none) (ha : Ex X B a r ra r1) (rd : LsR X.K B r1 ra ns) (hg : Gl X "sorted" := by rfl) (hs : starEach [a] X.env = (false, eval a X.env) :: starEach [] X.env := by rfl) (hpl : (backTo pos (starEach [] X.env)).any (·.1) = false := by rfl) :
    Ex X B (.Call (.Name "sorted" p) [a] [] pos) r (.new (lstC X.K (sortI ns))) r1 :=
  ex_cb (fun h => pe_callB cr_sortedI hg hm (by decide +kernel) h (he := hs) (hpl := hpl)) (ax1 ha hs) fun σ Hs F H vs k w => by
    obtain ⟨v, rfl, w1⟩ := pr1 w
    obtain ⟨q, ys, e1, e2, e3⟩ := rd.rd σ Hs F H v k w1
    subst e1
    refine vl_new (o := .lst ((sortI ns).map V.int)) k ⟨_, rfl, int_all2⟩ fun Q z => ⟨q, ns, rfl, .of (by rw [e2, all2_int e3]), fun ns' p pm pw hp => ?_⟩
    rw [sorted_uniq (pm.trans (sortI_perm ns).symm) pw (sortI_sorted ns)]
    exact z p hp

/-! ### module constants, pairs' len -/
theorem ex_gl {x : Str} {v : V} {u : Value} {P : Pd} (hm : X.mg x = some u) (hr : RelV v u) (hp : ∀ F, P.p F v) (hg : Gl X x := by rfl) (hd : (x == ("__debug__" : Str)) = false := by decide) : Ex X B (.Name x pos) r (.dat P) r := ex_c (pe_glob hg hm hr hd) hp
theorem ex_lenT {α : Type} [Rp α] {t : α} {n : Nat} (hm : X.mg "len" = none) (ha : Ex X B a r (.dat (is X.K t)) r1) (h : ∀ F v, Rp.rp X.K F v t → ∃ p vs, v = .ref p ∧ SqT X.K F p vs ∧ vs.length = n) (hg : Gl X "len" := by rfl) (hs : starEach [a] X.env = (false, eval a X.env) :: starEach [] X.env := by rfl) (hpl : (backTo pos (starEach [] X.env)).any (·.1) = false := by rfl) :
    Ex X B (.Call (.Name "len" p) [a] [] pos) r (.dat (is X.K ((n : Nat) : Int))) r1 :=
  ex_cb (fun h => pe_callB call_len_seq hg hm PySem.boot_len h (he := hs) (hpl := hpl)) (ax1 ha hs) fun σ Hs F H vs k w => by
    obtain ⟨v, rfl, w1⟩ := pr1 w
    obtain ⟨q, ys, e1, e2, e3⟩ := h F v w1
    subst e1
    exact vl_val k (show (is X.K ((n : Nat) : Int)).p F (.int (ys.length : Int)) from by rw [e3]; rfl) fun Q z => ⟨q, ys, rfl, .inr (sqt_fh k.fh e2), z⟩
theorem ex_lenP {α β : Type} [Rp α] [Rp β] {t : α × β} (hm : X.mg "len" = none) (ha : Ex X B a r (.dat (is X.K t)) r1) (hg : Gl X "len" := by rfl) (hs : starEach [a] X.env = (false, eval a X.env) :: starEach [] X.env := by rfl) (hpl : (backTo pos (starEach [] X.env)).any (·.1) = false := by rfl) :
    Ex X B (.Call (.Name "len" p) [a] [] pos) r (.dat (is X.K (2 : Int))) r1 := ex_lenT (n := 2) hm ha (fun F v ⟨p, u, w, e1, e2, _⟩ => ⟨p, _, e1, e2, rfl⟩) hg hs hpl
theorem ex_lenScr {t : Scr} (hm : X.mg "len" = none) (ha : Ex X B a r (.dat (is X.K t)) r1) (hg : Gl X "len" := by rfl) (hs : starEach [a] X.env = (false, eval a X.env) :: starEach [] X.env := by rfl) (hpl : (backTo pos (starEach [] X.env)).any (·.1) = false := by rfl) :
    Ex X B (.Call (.Name "len" p) [a] [] pos) r (.dat (is X.K (t.l.length : Int))) r1 :=
  ex_cb (fun h => pe_callB call_len_seq hg hm PySem.boot_len h (he := hs) (hpl := hpl)) (ax1 ha hs) fun σ Hs F H vs k w => by
    obtain ⟨v, rfl, w1⟩ := pr1 w
    obtain ⟨q, e1, e2⟩ := w1
    subst e1
    have e3 : SqL X.K H q (t.l.map V.int) := by
      rcases e2 with (z | ⟨o, z⟩) | z
      · exact .of (k.fh.at z rfl)
      · exact .inl (.inr ⟨o, k.fh.at z rfl⟩)
      · exact .inr z
    exact vl_val k (show (is X.K (t.l.length : Int)).p F (.int ((t.l.map V.int).length : Int)) from by rw [List.length_map]; rfl) fun Q z => ⟨q, _, rfl, .inl e3, z⟩
theorem ex_ixScr {t : Scr} {i y : Int} (ha : Ex X B a r (.dat (is X.K t)) r1) (hb : Ex X B b r1 (.dat (is X.K i)) r2) (h : L2.atI t.l i = some y) (hs : PlainIx b := by exact fun _ _ => rfl) : Ex X B (.Subscript a b pos) r (.dat (is X.K y)) r2 :=
  ex_bin (fun ha hb => pe_ix ix_list ha hb hs) ha hb fun σ Hs F H u v k hu hv => by
    obtain ⟨q, e1, e2⟩ := hu
    cases hv
    have e3 : SqL X.K H q (t.l.map V.int) := by
      rcases e2 with (z | ⟨o, z⟩) | z
      · exact .of (k.fh.at z rfl)
      · exact .inl (.inr ⟨o, k.fh.at z rfl⟩)
      · exact .inr z
    obtain ⟨w, e4, e5⟩ := All2.atI (K := X.K) (F := F) int_all2 h
    exact vl_val k (show (is X.K y).p F w from e5) fun Q z => ⟨q, _, i, w, e1, rfl, e3, e4, z⟩

/-! ### x in d, x None or a key -/
theorem q_dinN {κ β : Type} [Rp κ] [KeyT κ] [Rp β] {kvs : List (Key × β)} {q : Option κ} (hu : X.A.units + 1 < cLine) (ha : Ex X B a r (.dat (is X.K q)) r1) (hb : Ex X B b r1 ra r2) (rd : DcR X.K B r2 ra kvs) (hm : behindInMarks .In b = false := by first | exact nobehind _ (by decide) (by decide) | rfl) : Pc X B .In a b r (is X.K (match q with | some y => (dget kvs (KeyT.k y)).isSome | none => false)) r2 :=
  Pc.mk' hm <| PC.imp (pc_dinN hu ha hb) fun σ H Q ⟨F, k, g⟩ => ⟨F, k, fun u F1 H1 p1 w1 => ⟨F1, p1.ok, fun v F2 H2 p2 w2 => by
    obtain ⟨p, vs, e1, e2, e3⟩ := rd.rd σ H1 F2 H2 v p2.ok w2
    cases q with
    | none =>
      cases (show u = .non from w1)
      exact .inr ⟨p, vs, e1, rfl, e2, g _ F2 H2 (p1.trans p2) rfl⟩
    | some y =>
      have e := KeyT.is (show Rp.rp X.K F1 u y from w1)
      subst e
      refine .inl ⟨p, _, e1, dgetAt e2, g _ F2 H2 (p1.trans p2) ?_⟩
      have z := KAll.get (k := KeyT.k y) e3
      show V.bl _ = V.bl (dget kvs (KeyT.k y)).isSome
      cases h : dget kvs (KeyT.k y) with
      | none => rw [h] at z; rw [show valV vs (KeyT.k y) = none from z]; rfl
      | some x => rw [h] at z; obtain ⟨w, z1, _⟩ := z; rw [z1]; rfl⟩⟩
end
end DL

/-! DLDraw: values of which only a property is known; tests of open outcome; a list handed in to be changed -/
namespace DL
open PySem L2

def some_ (K : PySem.W.Frag) {α : Type} [Rp α] (c : α → Prop) : Pd := ⟨fun F v => ∃ x, c x ∧ Rp.rp K F v x, fun e ⟨x, h, q⟩ => ⟨x, h, Rp.mono e q⟩⟩
def someC (K : PySem.W.Frag) {α : Type} [Rp α] (c : List α → Prop) : Ct := ⟨fun F o => ∃ xs, c xs ∧ (lstC K xs).c F o, fun e ⟨x, h, q⟩ => ⟨x, h, (lstC K x).mono e q⟩⟩

/-- r' tells no more than r -/
inductive Cv : List Sl → List Sl → Prop
  | nil : Cv [] []
  | same (s : Sl) {r r' : List Sl} : Cv r r' → Cv (s :: r) (s :: r')
  | drop (s : Sl) {r r' : List Sl} : Cv r r' → Cv (s :: r) (.un :: r')
  | dat {P P' : Pd} (h : ∀ F v, P.p F v → P'.p F v) {r r' : List Sl} : Cv r r' → Cv (.dat P :: r) (.dat P' :: r')
  | own {C C' : Ct} (h : ∀ F o, C.c F o → C'.c F o) {r r' : List Sl} : Cv r r' → Cv (.own C :: r) (.own C' :: r')
  | io (j : Nat) {C C' : Ct} (h : ∀ F o, C.c F o → C'.c F o) {r r' : List Sl} : Cv r r' → Cv (.io j C :: r) (.io j C' :: r')
inductive Cv1 : Sl → Sl → Prop
  | same (s : Sl) : Cv1 s s
  | drop (s : Sl) : Cv1 s .un
  | dat {P P' : Pd} (h : ∀ F v, P.p F v → P'.p F v) : Cv1 (.dat P) (.dat P')
  | own {C C' : Ct} (h : ∀ F o, C.c F o → C'.c F o) : Cv1 (.own C) (.own C')
  | io (j : Nat) {C C' : Ct} (h : ∀ F o, C.c F o → C'.c F o) : Cv1 (.io j C) (.io j C')
theorem Cv.refl : ∀ r, Cv r r
  | [] => .nil
  | s :: r => .same s (Cv.refl r)
theorem Cv.len : ∀ {r r'}, Cv r r' → r'.length = r.length
  | _, _, .nil => rfl
  | _, _, .same _ h => congrArg Nat.succ h.len
  | _, _, .drop _ h => congrArg Nat.succ h.len
  | _, _, .dat _ h => congrArg Nat.succ h.len
  | _, _, .own _ h => congrArg Nat.succ h.len
  | _, _, .io _ _ h => congrArg Nat.succ h.len
theorem Cv.get : ∀ {r r'} {i : Nat} {s : Sl}, Cv r r' → r'[i]? = some s → ∃ s0, r[i]? = some s0 ∧ Cv1 s0 s
  | _, _, i, s, .nil, h => by simp at h
  | _, _, 0, s, .same t _, h => by simp at h; subst h; exact ⟨_, rfl, .same _⟩
  | _, _, 0, s, .drop t _, h => by simp at h; subst h; exact ⟨_, rfl, .drop _⟩
  | _, _, 0, s, .dat q _, h => by simp at h; subst h; exact ⟨_, rfl, .dat q⟩
  | _, _, 0, s, .own q _, h => by simp at h; subst h; exact ⟨_, rfl, .own q⟩
  | _, _, 0, s, .io j q _, h => by simp at h; subst h; exact ⟨_, rfl, .io j q⟩
  | _, _, i + 1, s, .same _ t, h => by simpa using Cv.get (i := i) t (by simpa using h)
  | _, _, i + 1, s, .drop _ t, h => by simpa using Cv.get (i := i) t (by simpa using h)
  | _, _, i + 1, s, .dat _ t, h => by simpa using Cv.get (i := i) t (by simpa using h)
  | _, _, i + 1, s, .own _ t, h => by simpa using Cv.get (i := i) t (by simpa using h)
  | _, _, i + 1, s, .io _ _ t, h => by simpa using Cv.get (i := i) t (by simpa using h)
theorem Cv1.isOwn {s s' : Sl} (h : Cv1 s s') (q : s'.isOwn = true) : s.isOwn = true := by
  cases h with
  | same => exact q
  | drop => cases q
  | dat => cases q
  | own => rfl
  | io => rfl
theorem Ok.conv {B : Bs} {r r' : List Sl} {σ : L2.St} {F H : Hp} (k : Ok B r σ F H) (w : Cv r r') : Ok B r' σ F H := by
  refine ⟨k.fh, k.f0, k.nw, k.kp, k.dm, k.pk, w.len.trans k.len, fun i s e => ?_, fun i j s t p hne e1 e2 h1 h2 => ?_⟩
  · obtain ⟨s0, e0, c⟩ := w.get e
    have z := k.sl i s0 e0
    cases c with
    | same => exact z
    | drop => trivial
    | dat h => obtain ⟨v, e, q⟩ := z; exact ⟨v, e, h _ _ q⟩
    | own h => obtain ⟨p, o, a1, a2, a3, a4, a5⟩ := z; exact ⟨p, o, a1, a2, a3, h _ _ a4, a5⟩
    | io j h => obtain ⟨p, o, a1, a2, a3, a4, a5⟩ := z; exact ⟨p, o, a1, a2, a3, h _ _ a4, a5⟩
  · obtain ⟨s0, e0, c⟩ := w.get e1
    obtain ⟨t0, e0', c'⟩ := w.get e2
    exact k.dj i j s0 t0 p hne e0 e0' (c.isOwn h1) (c'.isOwn h2)
theorem Owned.conv {r r' : List Sl} {σ : L2.St} {b : Addr} (w : Cv r r') (h : Owned r' σ b) : Owned r σ b := by
  obtain ⟨i, s, e, h1, h2⟩ := h
  obtain ⟨s0, e0, c⟩ := w.get e
  exact ⟨i, s0, e0, c.isOwn h1, h2⟩
section
variable {X : Cx} {B : Bs} {e a b : Expr} {ss rest : List Stmt} {r r1 r2 r3 : List Sl} {ra rb x : Rk} {D : Dn} {pos p : Pos}
theorem Post.conv {σ : L2.St} {F H F' H' : Hp} (p : Post B r σ F H r1 F' H') (w : Cv r1 r2) : Post B r σ F H r2 F' H' := ⟨p.ok.conv w, p.st, fun b h => p.ow b (h.conv w)⟩
/-- the slots behind are told more loosely -/
theorem ex_cv (h : Ex X B e r x r1) (w : Cv r1 r2) : Ex X B e r x r2 := PE.imp h fun σ H Q ⟨F, k, q⟩ => ⟨F, k, fun v F' H' p g => q v F' H' (p.conv w) (by
  cases x with
  | dat P => exact g
  | slot i => exact g
  | new C => obtain ⟨p, o, e1, e2, e3, e4, e5, e6⟩ := g; exact ⟨p, o, e1, e2, e3, e4, e5, fun z => e6 (z.conv w)⟩)⟩
theorem ex_cv0 (h : Ex X B e r1 x r2) (w : Cv r r1) : Ex X B e r x r2 := PE.imp h fun σ H Q ⟨F, k, q⟩ => ⟨F, k.conv w, fun v F' H' p g => q v F' H' ⟨p.ok, p.st.mono fun _ z => z.conv w, fun b z => (p.ow b z).conv w⟩ g⟩
theorem tx_cv {d : Bool} (h : Tx X B e r d r1) (w : Cv r1 r2) : Tx X B e r d r2 := PT.imp h fun σ H Q ⟨F, k, q⟩ => ⟨F, k, fun F' H' p => q F' H' (p.conv w)⟩
theorem go_cv (w : Cv r r1) (h : Go X B ss r1 D) : Go X B ss r D := by
  obtain ⟨t, h1, h2⟩ := h
  exact ⟨t, h1, fun σ F H k => h2 σ F H (k.conv w)⟩
theorem ok_cv {σ : L2.St} {F H : Hp} (w : Cv r r1) (h : Ok B r σ F H) : Ok B r1 σ F H := h.conv w
/-- a content known to be one of several is opened -/
theorem go_openC {i : Nat} {ι : Type} {C : Ct} {Ci : ι → Ct} {c : ι → Prop} {sl : Sl} (e1 : r[i]? = some sl) (hs : sl = .own C ∨ ∃ j, sl = .io j C) (hC : ∀ F o, C.c F o → ∃ j, c j ∧ (Ci j).c F o) (h : ∀ j, c j → Go X B ss (r.set i (sl.put (Ci j))) D) : Go X B ss r D := by
  refine ⟨fun D2 σ H => ∃ F j, D2 = D.E F ∧ c j ∧ Ok B (r.set i (sl.put (Ci j))) σ F H, ⟨fun pins s σ H D2 I ⟨F, j, e, cj, k⟩ => ?_⟩, fun σ F H k => ?_⟩
  · subst e
    obtain ⟨t, g1, g2⟩ := h j cj
    exact g1.run pins s σ H (D.E F) I (g2 σ F H k)
  · have z := k.sl i _ e1
    have hi : i < r.length := (List.getElem?_eq_some_iff.mp e1).1
    obtain ⟨p, o, q1, q2, q3, q4⟩ : ∃ p o, σ[i]? = some (some (.ref p)) ∧ F p = none ∧ H p = some o ∧ C.c F o := by
      rcases hs with e | ⟨j, e⟩ <;> subst e
      · obtain ⟨p, o, a1, a2, a3, a4, _⟩ := z; exact ⟨p, o, a1, a2, a3, a4⟩
      · obtain ⟨p, o, a1, a2, a3, a4, _⟩ := z; exact ⟨p, o, a1, a2, a3, a4⟩
    obtain ⟨j, cj, hj⟩ := hC F o q4
    have hso : sl.isOwn = true := by rcases hs with e | ⟨j, e⟩ <;> subst e <;> rfl
    refine ⟨F, j, rfl, cj, ?_⟩
    have w := (k.write (C' := Ci j) (o' := o) e1 hso q1 hj).ok
    have eH : upd H p o = H := by
      funext b
      unfold upd
      split
      · next h => rw [h, q3]
      · rfl
    rw [eH] at w
    exact w
/-! ### some value with a property -/
theorem ex_sm {α : Type} [Rp α] {u : α} {c : α → Prop} (h : Ex X B e r (.dat (is X.K u)) r1) (hc : c u) : Ex X B e r (.dat (some_ X.K c)) r1 := ex_imp h fun _ _ q => ⟨u, hc, q⟩
theorem ex_smi {α : Type} [Rp α] {c c' : α → Prop} (h : Ex X B e r (.dat (some_ X.K c)) r1) (hc : ∀ u, c u → c' u) : Ex X B e r (.dat (some_ X.K c')) r1 := ex_imp h fun _ _ ⟨u, q, w⟩ => ⟨u, hc u q, w⟩
theorem ex_smf {α : Type} [Rp α] {c : List α → Prop} (h : Ex X B e r (.new (someC X.K c)) r1) : Ex X B e r (.dat (some_ X.K c)) r1 := ex_frz h fun F p o ⟨xs, hc, vs, e, a⟩ h => ⟨xs, hc, p, vs, rfl, by rw [h, e], a⟩
theorem ex_bS {rr : R2} {α β γ : Type} [Rp α] [Rp β] [Rp γ] {ca : α → Prop} {cb : β → Prop} {cz : γ → Prop} (hp : ∀ {ta tb : TE}, PE X a ta → PE X b tb → PE X e (tOp rr ta tb)) (ha : Ex X B a r (.dat (some_ X.K ca)) r1) (hb : Ex X B b r1 (.dat (some_ X.K cb)) r2)
    (hv : ∀ σ F H u v x y, Ok B r2 σ F H → ca x → cb y → Rp.rp X.K F u x → Rp.rp X.K F v y → Vl B r2 σ F H (.dat (some_ X.K cz)) (rr u v H)) : Ex X B e r (.dat (some_ X.K cz)) r2 :=
  ex_bin hp ha hb fun σ Hs F H u v k ⟨x, cx, wx⟩ ⟨y, cy, wy⟩ => hv σ F H u v x y k cx cy wx wy
theorem ex_addN {ca cb cz : Int → Prop} (ha : Ex X B a r (.dat (some_ X.K ca)) r1) (hb : Ex X B b r1 (.dat (some_ X.K cb)) r2) (h : ∀ i j, ca i → cb j → cz (i + j)) : Ex X B (.BinOp a .Add b pos) r (.dat (some_ X.K cz)) r2 :=
  ex_bS (pe_op op_add) ha hb fun σ F H u v i j k ci cj hu hv => by
    cases hu; cases hv
    exact vl_val k (show (some_ X.K cz).p F (.int (i + j)) from ⟨_, h i j ci cj, rfl⟩) fun Q q => ⟨i, j, rfl, rfl, q⟩
theorem ex_addSN {ca cb cz : Str → Prop} (ha : Ex X B a r (.dat (some_ X.K ca)) r1) (hb : Ex X B b r1 (.dat (some_ X.K cb)) r2) (hl : ∀ i j, ca i → cb j → i.length + j.length ≤ sizeLine) (h : ∀ i j, ca i → cb j → cz (i ++ j)) : Ex X B (.BinOp a .Add b pos) r (.dat (some_ X.K cz)) r2 :=
  ex_bS (pe_op op_add_str) ha hb fun σ F H u v i j k ci cj hu hv => by
    cases hu; cases hv
    exact vl_val k (show (some_ X.K cz).p F (.str (i ++ j)) from ⟨_, h i j ci cj, rfl⟩) fun Q q => ⟨i, j, rfl, rfl, hl i j ci cj, q⟩
/-- xs[i], i drawn, xs some list -/
theorem ex_ixN {α : Type} [Rp α] {cx : List α → Prop} {ci : Int → Prop} {cz : α → Prop} (ha : Ex X B a r (.dat (some_ X.K cx)) r1) (hb : Ex X B b r1 (.dat (some_ X.K ci)) r2) (h : ∀ xs i, cx xs → ci i → ∃ y, L2.atI xs i = some y ∧ cz y) (hs : PlainIx b := by exact fun _ _ => rfl) : Ex X B (.Subscript a b pos) r (.dat (some_ X.K cz)) r2 :=
  ex_bS (fun ha hb => pe_ix ix_list ha hb hs) ha hb fun σ F H u v xs i k c1 c2 hu hv => by
    obtain ⟨y, hy, cy⟩ := h xs i c1 c2
    obtain ⟨p, vs, e1, e2, e3⟩ := hu
    cases hv
    obtain ⟨w, e4, e5⟩ := e3.atI hy
    exact vl_val k (show (some_ X.K cz).p F w from ⟨y, cy, e5⟩) fun Q q => ⟨p, vs, i, w, e1, rfl, .of (k.fh.at e2 rfl), e4, q⟩
theorem ex_ixSN {z : Str} {ci : Int → Prop} {cz : Str → Prop} (ha : Ex X B a r (.dat (is X.K z)) r1) (hb : Ex X B b r1 (.dat (some_ X.K ci)) r2) (hz : z.length ≤ sizeLine) (h : ∀ i, ci i → ∃ c, L2.atI z.cps.toList i = some c ∧ cz ⟨#[c]⟩) (hs : PlainIx b := by exact fun _ _ => rfl) : Ex X B (.Subscript a b pos) r (.dat (some_ X.K cz)) r2 :=
  ex_bin (fun ha hb => pe_ix ix_str ha hb hs) ha hb fun σ Hs F H u v k hu ⟨i, c2, hv⟩ => by
    obtain ⟨c, hc, cc⟩ := h i c2
    cases hu; cases hv
    exact vl_val k (show (some_ X.K cz).p F (.str ⟨#[c]⟩) from ⟨_, cc, rfl⟩) fun Q q => ⟨z, i, c, rfl, rfl, hz, hc, q⟩
/-! ### tests of open outcome -/
def ttanN (B : Bs) (r : List Sl) (c : Bool → Prop) (r' : List Sl) : TT := fun σ H Q => ∃ F, Ok B r σ F H ∧ ∀ b F' H', c b → Post B r σ F H r' F' H' → Q b H'
def Tn (X : Cx) (B : Bs) (e : Expr) (r : List Sl) (c : Bool → Prop) (r' : List Sl) : Prop := PT X e (ttanN B r c r')
def Wn (X : Cx) (B : Bs) (e : Expr) (r : List Sl) (c : Bool → Prop) (r' : List Sl) : Prop := PW X e (ttanN B r c r')
theorem Tx.n {d : Bool} {c : Bool → Prop} (h : Tx X B e r d r1) (hc : c d) : Tn X B e r c r1 := PT.imp h fun σ H Q ⟨F, k, q⟩ => ⟨F, k, fun F' H' p => q d F' H' hc p⟩
theorem Wn.t {c : Bool → Prop} (h : Wn X B e r c r1) : Tn X B e r c r1 := PW.pt h
theorem wn_and1 {c : Bool → Prop} (h : Tn X B a r c r1) : Wn X B (.BoolOp .And [a] pos) r c r1 := pw_and1 h
theorem wn_and {c d c2 : Bool → Prop} {rest : List Expr} (h : Tn X B a r c r1) (h2 : c true → Wn X B (.BoolOp .And (b :: rest) pos) r1 d r2) (w : Cv r1 r2) (hc : c false → c2 false) (hd : ∀ x, c true → d x → c2 x) : Wn X B (.BoolOp .And (a :: b :: rest) pos) r c2 r2 := by
  have h2' : PW X (.BoolOp .And (b :: rest) pos) (fun σ H Q => c true ∧ ttanN B r1 d r2 σ H Q) := ⟨fun wh pins s σ H Q I ⟨z, q⟩ => (h2 z).run wh pins s σ H Q I q⟩
  refine PW.imp (pw_and h h2') fun σ H Q ⟨F, k, q⟩ => ⟨F, k, fun x F' H' cx p => ?_⟩
  cases x with
  | true => exact iteT ⟨cx, F', p.ok, fun y F2 H2 cy p2 => q y F2 H2 (hd y cx cy) (p.trans p2)⟩
  | false => exact iteF (q false F' H' (hc cx) (p.conv w))
theorem tn_val {c : Bool → Prop} (h : Ex X B e r (.dat (some_ X.K c)) r1) (he : ∀ whole, isTrue e X.env whole = (do let v ← whole; standAt e.pos; holding [v] (truthy v)) := by intro _; rfl) : Tn X B e r c r1 :=
  PT.imp (pt_val h he) fun σ H Q ⟨F, k, q⟩ => ⟨F, k, fun v F' H' p ⟨x, cx, w⟩ => ⟨x, w, q x F' H' cx p⟩⟩
/-- a drawn number compared -/
theorem q_eqN {ca cb : Int → Prop} {cz : Bool → Prop} (ha : Ex X B a r (.dat (some_ X.K ca)) r1) (hb : Ex X B b r1 (.dat (some_ X.K cb)) r2) (h : ∀ i j, ca i → cb j → cz (decide (i = j))) : Pc X B .Eq a b r (some_ X.K cz) r2 :=
  pc_bin op_eq (nomark _) ha hb fun σ Hs F H u v k ⟨i, ci, hu⟩ ⟨j, cj, hv⟩ => by
    cases hu; cases hv
    exact vl_val k (show (some_ X.K cz).p F (.bl (decide (i = j))) from ⟨_, h i j ci cj, rfl⟩) fun Q q => ⟨rfl, by rw [show decide ((V.int i) = V.int j) = decide (i = j) from sc_dec i j]; exact q⟩
theorem tn_cmp {op : CmpOp} {c : Bool → Prop} (h : Pc X B op a b r (some_ X.K c) r1) : Tn X B (.Compare a [op] [b] pos) r c r1 := PT.imp (pt_cmp h.pc h.m) fun σ H Q ⟨F, k, q⟩ => ⟨F, k, fun v F' H' p ⟨x, cx, w⟩ => ⟨x, w, q x F' H' cx p⟩⟩
theorem go_ifN {c : Expr} {bt be : List Stmt} {d : Bool → Prop} {ι : Type} {R : ι → List Sl} {C : ι → Prop} (ht : Tn X B c r d r1) (h1 : d true → Go X B bt r1 { D with nx := fun σ F H => ∃ i, C i ∧ Ok B (R i) σ F H }) (h2 : d false → Go X B be r1 { D with nx := fun σ F H => ∃ i, C i ∧ Ok B (R i) σ F H })
    (k : ∀ i, C i → Go X B rest (R i) D) : Go X B (.If c bt be pos :: rest) r D := by
  refine go_seq ?_ k
  have g : ∀ {ss : List Stmt} {z : Bool}, (d z → Go X B ss r1 { D with nx := fun σ F H => ∃ i, C i ∧ Ok B (R i) σ F H }) → PSs X ss (fun D2 σ H => d z ∧ ∃ F F0, Same F0 F ∧ D2 = Dn.E { D with nx := fun σ F H => ∃ i, C i ∧ Ok B (R i) σ F H } F0 ∧ Ok B r1 σ F H) := fun {ss z} h =>
    ⟨fun pins s σ H D2 I ⟨hz, F, F0, sm, e, k⟩ => by
      subst e
      obtain ⟨t, g1, g2⟩ := h hz
      exact thn (g1.run pins s σ H _ I (g2 σ F H k)) fun f s1 q => sp_to q (fun σ H ⟨F, a, z⟩ => ⟨F, sm.trans a, z⟩) (fun σ H ⟨F, a, z⟩ => ⟨F, sm.trans a, z⟩) (fun σ H ⟨F, a, z⟩ => ⟨F, sm.trans a, z⟩) fun σ H ⟨F, a, z⟩ => ⟨F, sm.trans a, z⟩⟩
  refine ⟨_, ps_if ht (g h1) (g h2), fun σ F H k => ⟨F, k, fun z F' H' cz p => ?_⟩⟩
  cases z with
  | true => exact iteT ⟨cz, F', F, p.st.f, rfl, p.ok⟩
  | false => exact iteF ⟨cz, F', F, p.st.f, rfl, p.ok⟩
/-- one end for both ways -/
theorem go_ifNJ {c : Expr} {bt be : List Stmt} {d : Bool → Prop} (ht : Tn X B c r d r1) (h1 : d true → Go X B bt r1 { D with nx := fun σ F H => Ok B r2 σ F H }) (h2 : d false → Go X B be r1 { D with nx := fun σ F H => Ok B r2 σ F H })
    (k : Go X B rest r2 D) : Go X B (.If c bt be pos :: rest) r D :=
  go_ifN (ι := Unit) (R := fun _ => r2) (C := fun _ => True) ht (fun z => go_mono (h1 z) (fun σ F H k => ⟨(), trivial, k⟩) (fun _ _ _ z => z) (fun _ _ _ z => z) fun _ _ _ z => z) (fun z => go_mono (h2 z) (fun σ F H k => ⟨(), trivial, k⟩) (fun _ _ _ z => z) (fun _ _ _ z => z) fun _ _ _ z => z) fun _ _ => k
theorem ex_ifN {d : Bool → Prop} {t : Expr} {P : Pd} (ht : Tn X B t r d r1) (ha : d true → Ex X B a r1 (.dat P) r2) (hb : d false → Ex X B b r1 (.dat P) r2) : Ex X B (.IfExp t a b pos) r (.dat P) r2 := by
  have g : ∀ {a : Expr} {z : Bool}, (d z → Ex X B a r1 (.dat P) r2) → PE X a (fun σ H Q => d z ∧ tcan B r1 (.dat P) r2 σ H Q) := fun h => ⟨fun pins s σ H Q I ⟨hz, q⟩ => (h hz).run pins s σ H Q I q⟩
  refine PE.imp (pe_ifExp ht (g ha) (g hb)) fun σ H Q ⟨F, k, q⟩ => ⟨F, k, fun z F' H' cz p => ?_⟩
  cases z with
  | true => exact iteT ⟨cz, F', p.ok, fun v2 F2 H2 p2 w2 => q v2 F2 H2 (p.trans p2) w2⟩
  | false => exact iteF ⟨cz, F', p.ok, fun v2 F2 H2 p2 w2 => q v2 F2 H2 (p.trans p2) w2⟩

/-! ### a call that changes the list at its first argument -/
theorem post_call1 {σ : L2.St} {F H F' H' : Hp} {i : Nat} {sl : Sl} {C : Ct} {p : Addr} {o : HO} (k : Ok B r σ F H) (hi : r[i]? = some sl) (hs : sl.isOwn = true) (hp : σ[i]? = some (some (.ref p))) (sm : Same F F') (fh : Fh B.lk F' H') (nw : ∀ b o, F' b = some o → F b = some o ∨ H b = none)
    (kp : ∀ b o, H b = some o → b ≠ p → H' b = some o) (dm : ∀ b, H b ≠ none → H' b ≠ none) (n' : F' p = none) (hp' : H' p = some o) (hc : C.c F' o) : Post B r σ F H (r.set i (sl.put C)) F' H' := by
  have w : Owned r σ p := ⟨i, sl, hi, hs, hp⟩
  obtain ⟨n1, o1, h1⟩ := k.owned w
  -- first everything but p, then p
  have hlt : i < r.length := (List.getElem?_eq_some_iff.mp hi).1
  refine ⟨⟨fh, fun b u q => sm b u (k.f0 b u q), fun b u q => ?_, fun b u q n => ?_, fun b q => dm b (k.dm b q), k.pk, by rw [List.length_set]; exact k.len, fun j t q => ?_, fun j j' t t' q hne g1 g2 g3 g4 => ?_⟩, ⟨sm, fun b u q => (nw b u q).imp id .inl, fun b u q n => kp b u q fun z => n (by rw [z]; exact w), dm⟩, fun b z => ?_⟩
  · rcases nw b u q with z | z
    · exact k.nw b u z
    · exact .inr (k.h0 z)
  · have ne : b ≠ p := fun z => by
      subst z
      have s := k.sl i sl hi
      cases sl with
      | un => cases hs
      | dat P => cases hs
      | own C =>
        obtain ⟨p', _, q1, _, _, _, q5⟩ := s
        rw [hp] at q1; cases q1
        rw [q5] at q; cases q
      | io j C =>
        obtain ⟨p', _, q1, _, _, _, q5⟩ := s
        rw [hp] at q1; cases q1
        exact n (List.mem_of_getElem? q5)
    rcases k.kp b u q n with z | ⟨z1, z2, od, z⟩
    · exact .inl (kp b u z ne)
    · exact .inr ⟨z1, z2, od, kp b _ z ne⟩
  · by_cases hj : i = j
    · subst hj
      rw [List.getElem?_set_self hlt] at q; cases q
      have s := k.sl i sl hi
      cases sl with
      | un => cases hs
      | dat P => cases hs
      | own C0 =>
        obtain ⟨p', _, q1, _, _, _, q5⟩ := s
        rw [hp] at q1; cases q1
        exact ⟨p, o, hp, n', hp', hc, q5⟩
      | io j C0 =>
        obtain ⟨p', _, q1, _, _, _, q5⟩ := s
        rw [hp] at q1; cases q1
        exact ⟨p, o, hp, n', hp', hc, q5⟩
    · rw [List.getElem?_set_ne hj] at q
      refine (k.sl j t q).step sm fun ht p' u q1 q2 q3 => ?_
      have ne : p' ≠ p := fun z => k.dj i j sl t p hj hi q hs ht hp (by rw [← z]; exact q1)
      refine ⟨?_, kp p' u q3 ne⟩
      cases z : F' p' with
      | none => rfl
      | some y =>
        rcases nw p' y z with z | z
        · rw [q2] at z; cases z
        · rw [q3] at z; cases z
  · have ow : ∀ (j : Nat) (t : Sl), (r.set i (sl.put C))[j]? = some t → t.isOwn = true → ∃ t' : Sl, r[j]? = some t' ∧ t'.isOwn = true := fun j t q z => by
      by_cases hj : i = j
      · subst hj; exact ⟨sl, hi, hs⟩
      · rw [List.getElem?_set_ne hj] at q; exact ⟨t, q, z⟩
    obtain ⟨u, u1, u2⟩ := ow j t g1 g3
    obtain ⟨u', u3, u4⟩ := ow j' t' g2 g4
    exact k.dj j j' u u' q hne u1 u3 u2 u4
  · obtain ⟨j, t, q1, q2, q3⟩ := z
    by_cases hj : i = j
    · subst hj; exact ⟨i, sl, hi, hs, q3⟩
    · rw [List.getElem?_set_ne hj] at q1; exact ⟨j, t, q1, q2, q3⟩
/-- z tells no more than a result -/
def ReLe : Re → Rk → Prop
  | .dat P, .dat P' => ∀ F v, P.p F v → P'.p F v
  | .new C, .new C' => ∀ F o, C.c F o → C'.c F o
  | _, _ => False
theorem ars_of {F H : Hp} : ∀ {Ps : List Pd} {vs : List V}, Paired (fun v (P : Pd) => P.p F v) vs Ps → ArsOk F H (Ps.map .dat) vs []
  | [], [], .nil => .nil
  | P :: Ps, v :: vs, .cons h t => .dat h (ars_of t)
theorem ex_callIO {α : Type} {S : Spec α} {f : Str} {k : Nat} {ps : List Str} {es : List Expr} {e0 : Expr} {Ps : List Pd} {i : Nat} {sl : Sl} {C C' : Ct} {z : Rk} (G : Fn X.prog X.w X.K X.mg X.base f k ps (spOf S)) (hr : Room k X.A) (ha : Ax X B (e0 :: es) r (.slot i :: Ps.map .dat) r1)
    (hi : r1[i]? = some sl) (hsl : sl = .own C ∨ ∃ j, sl = .io j C)
    (hx : ∀ F vs, Paired (fun v (P : Pd) => P.p F v) vs Ps → ∃ (x : α) (qs : List Pd), S.dom x ∧ S.ars x = .io C :: qs.map .dat ∧ Paired (fun v (P : Pd) => P.p F v) vs qs ∧ S.po x = [C'] ∧ ReLe (S.re x) z)
    (hg : Gl X f := by rfl) (hdb : (f == ("__debug__" : Str)) = false := by decide) (he : starEach (e0 :: es) X.env = (false, eval e0 X.env) :: starEach es X.env := by rfl) (hpl : (backTo pos (starEach es X.env)).any (·.1) = false := by rfl) :
    Ex X B (.Call (.Name f p) (e0 :: es) [] pos) r z (r1.set i (sl.put C')) := by
  obtain ⟨fa, fd, G1, G2, G3, G4⟩ := G.ex
  refine PE.imp (pe_call G1 hr hg G2 G3 G4 .nil pass0 ha hdb he hpl) fun σ H Q ⟨F, k, q⟩ => ⟨F, k, fun vs F1 H1 p1 w1 => ?_⟩
  show spOf S (vs ++ []) H1 Q E0
  rw [List.append_nil]
  cases w1 with
  | @cons v0 _ vs _ h0 t =>
    have ht : Paired (fun v (P : Pd) => P.p F1 v) vs Ps := by
      clear hx ha
      revert t
      induction Ps generalizing vs with
      | nil => intro t; cases t; exact .nil
      | cons P Ps ih => intro t; cases t with
        | cons a b => exact .cons a (ih b)
    obtain ⟨x, qs, h1, h2, h3, h4, h5⟩ := hx F1 vs ht
    have hso : sl.isOwn = true := by rcases hsl with e | ⟨j, e⟩ <;> subst e <;> rfl
    have s := p1.ok.sl i sl hi
    obtain ⟨pa, o, q1, q2, q3, q4⟩ : ∃ pa o, σ[i]? = some (some (.ref pa)) ∧ F1 pa = none ∧ H1 pa = some o ∧ C.c F1 o := by
      rcases hsl with e | ⟨j, e⟩ <;> subst e
      · obtain ⟨p, o, a1, a2, a3, a4, _⟩ := s; exact ⟨p, o, a1, a2, a3, a4⟩
      · obtain ⟨p, o, a1, a2, a3, a4, _⟩ := s; exact ⟨p, o, a1, a2, a3, a4⟩
    have ev : v0 = .ref pa := by
      have e := (show σ[i]? = some (some v0) from h0).symm.trans q1
      cases e; rfl
    subst ev
    refine ⟨x, F1, B.lk, [pa], h1, p1.ok.fh, by rw [h2]; exact .io q2 q3 q4 (by simp) (ars_of h3), fun v F' H' rt => ?_⟩
    have io := rt.io
    rw [h4] at io
    cases io with
    | cons c0 ct =>
      obtain ⟨n', o', hp', hc⟩ := c0
      have p2 := post_call1 (C := C') p1.ok hi hso q1 rt.f0 rt.fh rt.nw (fun b u e n => rt.kp b u e (by simp; exact n)) rt.dm n' hp' hc
      refine q v F' H' (p1.trans p2) ?_
      have zz := rt.re
      cases e : S.re x with
      | dat P =>
        rw [e] at zz h5
        cases z with
        | dat P' => exact h5 _ _ zz
        | slot _ => exact h5.elim
        | new _ => exact h5.elim
      | new Cn =>
        rw [e] at zz h5
        cases z with
        | dat P' => exact h5.elim
        | slot _ => exact h5.elim
        | new C2 =>
          obtain ⟨a, o2, e1, e2, e3, e4, e5⟩ := zz
          refine RkOk.back (Hs := H1) ⟨a, o2, e1, e2, e3, h5 _ _ e4, e5, fun ow => ?_⟩ p1.st.dm
          obtain ⟨_, o3, z⟩ := p1.ok.owned (p2.ow a ow)
          rw [show H1 a = none from e5] at z; cases z

/-! ### comprehensions of drawn things -/
theorem lc_okS {α β : Type} [Rp β] {xs : List α} {P : α → Pd} {c : α → β → Prop} {R : Nat → List Sl} {rb re : Nat → α → List Sl} {r' : List Sl} {scope : Scope} {own : List (Str × Nat)} {elt tg iter : Expr} {g : TG} (src : Src X B tg iter r xs P r1)
    (hg : ∀ s H C cl fp, PG (blkX X scope s H C cl fp) tg g) (hR : ∀ i, (R i).length = r1.length) (h0 : Cv r1 (R 0)) (bnd : ∀ i x, xs[i]? = some x → Bd B g (P x) (own.map (·.2)) (wipeS (R i) (own.map (·.2))) (rb i x))
    (he : ∀ i x, xs[i]? = some x → ∀ s H C cl fp, Ex (blkX X scope s H C cl fp) B elt (rb i x) (.dat (some_ X.K (c x))) (re i x))
    (hre : ∀ i x, xs[i]? = some x → ∀ j, j ∉ own.map (·.2) → (re i x)[j]? = (R (i + 1))[j]?) (hkeep : ∀ i j, j ∈ own.map (·.2) → (R i)[j]? = (R 0)[j]?) (hend : Cv (R xs.length) r')
    (hl : xs.length < sizeLine) (hv0 : nov (R 0) (own.map (·.2)) = true := by rfl) : LcOk X scope own elt tg iter [] (tcan B r (.new (someC X.K fun ys : List β => ys.length = xs.length ∧ ∀ (i : Nat) (x : α) (y : β), xs[i]? = some x → ys[i]? = some y → c x y)) r') := by
  have hv := nov_ok hv0
  clear hv0
  obtain ⟨wi, s1, s2⟩ := src
  generalize hvs : own.map (·.2) = vs at *
  refine ⟨wi, g, tYes, (fun σ H Q => ∃ i x, xs[i]? = some x ∧ tcan B (rb i x) (.dat (some_ X.K (c x))) (re i x) σ H Q), s1, hg, fun _ _ _ _ _ => pts_nil, fun s H C cl fp => ⟨fun pins st σ H Q I ⟨i, x, hx, q⟩ => (he i x hx _ _ _ _ _).run pins st σ H Q I q⟩, fun σ H Q ⟨F, ok, q⟩ => ?_⟩
  rw [hvs]
  refine s2 σ F H _ ok fun J F1 H1 p1 yl Dl hD => ?_
  have fr := p1.ok.fresh hD
  have hHD : H Dl = none := by
    cases z : H Dl with
    | none => rfl
    | some u => exact absurd hD (p1.st.dm Dl (by rw [z]; intro y; cases y))
  refine ⟨fun i m H' => m = xs.length - i ∧ i ≤ xs.length ∧ ∃ F' ws, ∃ ys : List β, Post B r1 σ F1 H1 (R i) F' H' ∧ F' Dl = none ∧ H' Dl = some (.lst ws) ∧ All2 X.K F' ws ys ∧ ys.length = i ∧ ∀ (j : Nat) (x : α) (y : β), xs[j]? = some x → ys[j]? = some y → c x y,
    ⟨xs.length, by simp, Nat.zero_le _, F1, [], [], (Post.alloc p1.ok hD).conv h0, fr.1, upd_same, .nil, rfl, fun j x y _ e => by simp at e⟩, ?_⟩
  rintro i m H' ⟨rfl, hi, F', ws, ys, p2, n2, d2, a2, ly, cy⟩
  obtain ⟨y1, y2⟩ := yl i F' H' p2.st.f p2.ok.fh
  have nOD : ∀ i F' H', Post B r1 σ F1 H1 (R i) F' H' → ¬ Owned (R i) σ Dl := fun i F' H' p z => fr.2.2 (p.ow Dl z)
  by_cases hlt : i < xs.length
  · have hx : xs[i]? = some xs[i] := List.getElem?_eq_getElem hlt
    obtain ⟨z1, z2⟩ := y1 _ hx
    refine .inr ⟨z1, fun H2 => ∃ F2 ws2, ∃ ys2 : List β, Post B r1 σ F1 H1 (R (i + 1)) F2 H2 ∧ F2 Dl = none ∧ H2 Dl = some (.lst ws2) ∧ All2 X.K F2 ws2 ys2 ∧ ys2.length = i + 1 ∧ ∀ (j : Nat) (x : α) (y : β), xs[j]? = some x → ys2[j]? = some y → c x y, fun H2 ⟨F2, ws2, ys2, q1, q2, q3, q4, q5, q6⟩ => ⟨xs.length - (i + 1), by omega, rfl, hlt, F2, ws2, ys2, q1, q2, q3, q4, q5, q6⟩, fun u H'' yy => ?_⟩
    obtain ⟨F'', st, fh, pu⟩ := z2 u H'' yy
    have ok2 := p2.ok.step st (fun _ z => z.elim) fh
    have p3 : Post B (R i) σ F' H' (R i) F'' H'' := ⟨ok2, st.mono fun _ z => z.elim, fun _ z => z⟩
    obtain ⟨okw, oww⟩ := ok2.wipe (vs := vs)
    have bd := bnd i _ hx
    have n3 : F'' Dl = none := by
      cases z : F'' Dl with
      | none => rfl
      | some u =>
        rcases st.nw Dl u z with y | y | y
        · rw [n2] at y; cases y
        · rw [d2] at y; cases y
        · exact y.elim
    refine bd.run _ _ _ _ _ okw pu fun σ2 ok3 hl3 ag3 ow3 => ⟨wipe_eq (by rw [hl3, wipe_length]) fun j hj => (ag3 j hj).trans (wipe_out' hj), ?_⟩
    unfold tYes
    dsimp only
    rw [if_pos rfl]
    refine ⟨i, _, hx, F'', ok3, fun v F5 H5 p5 w5 => ?_⟩
    have p6 : Post B (R i) σ F'' H'' (R (i + 1)) F5 H5 := Post.back (vs := vs) ok2 p5 (fun j hj => (ag3 j hj).trans (wipe_out' hj)) (fun j hj => hre i _ hx j hj) (fun j hj s e => by
      rw [hkeep (i + 1) j hj] at e
      exact ⟨hv j hj s e, by rw [hkeep i j hj]; exact e⟩) ((hR _).trans (hR _).symm) fun b z => oww b (ow3 b z)
    have nO := nOD i F' H' p2
    have h2 : H'' Dl = some (.lst ws) := st.kp Dl _ d2 fun z => z
    have k2 : H5 Dl = some (.lst ws) := p6.st.kp Dl _ h2 nO
    have k1 : F5 Dl = none := by
      cases z : F5 Dl with
      | none => rfl
      | some u =>
        rcases p6.st.nw Dl u z with y | y | y
        · rw [n3] at y; cases y
        · rw [h2] at y; cases y
        · exact absurd y nO
    refine ⟨ws, k2, by rw [a2.len, ly]; omega, ?_⟩
    have p7 := (p2.trans p3).trans p6
    obtain ⟨y, cy1, wy⟩ := w5
    refine ⟨F5, ws ++ [v], ys ++ [y], p7.wr k1 k2 hD (fun z => fr.2.2 (p7.ow Dl z)) fr.2.1, k1, upd_same, Paired.append (a2.mono ((st.f).trans p6.st.f)) (.cons wy .nil), by rw [List.length_append, ly]; rfl, fun j x0 y0 e1 e2 => ?_⟩
    by_cases hj : j < ys.length
    · rw [List.getElem?_append_left hj] at e2
      exact cy j x0 y0 e1 e2
    · have hjl := (List.getElem?_eq_some_iff.mp e2).1
      rw [List.length_append] at hjl
      have ej : j = i := by simp at hjl; omega
      subst ej
      rw [hx] at e1; cases e1
      rw [List.getElem?_append_right (by omega), ly] at e2
      simp at e2
      subst e2
      exact cy1
  · have e : i = xs.length := by omega
    subst e
    refine .inl ⟨y2 (Nat.le_refl _), q _ F' H' ((p1.trans p2).conv hend) ⟨Dl, _, rfl, n2, d2, ⟨ys, ⟨ly, cy⟩, ws, rfl, a2⟩, hHD, fun z => fr.2.2 (p2.ow Dl (z.conv hend))⟩⟩
end
end DL

/-! DLFold: loops that are folds; dict comprehensions; constants; small helpers -/
namespace DL
open PySem L2
section
variable {X : Cx} {B : Bs} {e a b : Expr} {ss rest : List Stmt} {r r1 r2 r3 : List Sl} {ra rb x : Rk} {D : Dn} {pos p : Pos}
theorem flt_true {α : Type} (l : List α) : l.filter (fun _ => true) = l := List.filter_eq_self.mpr fun _ _ => rfl
theorem is_eq {K : PySem.W.Frag} {α : Type} [Rp α] {u v : α} (h : u = v) : ∀ F w, (is K u).p F w → (is K v).p F w := fun F w q => by rw [← h]; exact q
theorem ct_eq {K : PySem.W.Frag} {α : Type} [Rp α] {u v : List α} (h : u = v) : ∀ F w, (lstC K u).c F w → (lstC K v).c F w := fun F w q => by rw [← h]; exact q
theorem ex_glS {n z : Str} (hm : ∃ t, X.mg n = some (.str z t)) (hg : Gl X n := by rfl) (hd : (n == ("__debug__" : Str)) = false := by decide) : Ex X B (.Name n pos) r (.dat (is X.K z)) r := by
  obtain ⟨t, hm⟩ := hm
  exact ex_gl (v := .str z) hm ⟨t, rfl⟩ (fun _ => rfl) hg hd
theorem ex_glI {n : Str} {z : Int} (hm : ∃ t, X.mg n = some (.int z t)) (hg : Gl X n := by rfl) (hd : (n == ("__debug__" : Str)) = false := by decide) : Ex X B (.Name n pos) r (.dat (is X.K z)) r := by
  obtain ⟨t, hm⟩ := hm
  exact ex_gl (v := .int z) hm ⟨t, rfl⟩ (fun _ => rfl) hg hd
/-- a for that is a fold -/
theorem go_fold {α S : Type} {xs : List α} {P : α → Pd} {tg iter : Expr} {body : List Stmt} {g : TG} {vs : List Nat} (f : S → α → S) (s0 : S) (I : Nat → S → Prop) (R : S → List Sl) (rb : S → α → List Sl) (src : Src X B tg iter r xs P r1) (hg : PG X tg g)
    (bnd : ∀ s x, Bnd B g (P x) vs (R s) (rb s x)) (w0 : Weak r1 (R s0)) (h0 : I 0 s0)
    (hb : ∀ i x s, xs[i]? = some x → s = (xs.take i).foldl f s0 → I i s → I (i + 1) (f s x) ∧ Go X B body (rb s x) { D with nx := fun σ F H => Ok B (R (f s x)) σ F H, ct := fun σ F H => Ok B (R (f s x)) σ F H, bk := fun _ _ _ => False })
    (k : ∀ s, s = xs.foldl f s0 → I xs.length s → Go X B rest (R s) D)
    (hp : PassesOwn (model X.prog X.w) X.A X.env X.xe := by exact PassesOwn.never) (hc : X.calm = true := by rfl) (hfs : ∀ x, foldedSetIterable iter X.env x = pure x := by intro _; rfl) : Go X B (.For tg iter body [] pos :: rest) r D := by
  refine go_for (S := S) (ι := S) (Rk := R) (C := fun s => s = xs.foldl f s0 ∧ I xs.length s) (fun i s => s = (xs.take i).foldl f s0 ∧ I i s) R rb (fun _ _ _ => False) src hg (fun i x s _ _ => bnd s x) s0 w0 ⟨by simp, h0⟩ (fun i x s hx ⟨e, hi⟩ => ?_) (fun _ _ _ z => z.elim) (fun s ⟨e, hi⟩ => ⟨s, ⟨by rw [e, List.take_length], hi⟩, Weak.refl _⟩) (fun s ⟨e, hi⟩ => k s e hi) hp hc hfs
  obtain ⟨h1, h2⟩ := hb i x s hx e hi
  have e2 : f s x = (xs.take (i + 1)).foldl f s0 := by
    rw [List.take_add_one, hx, List.foldl_append, ← e]
    rfl
  exact go_mono h2 (fun σ F H z => ⟨f s x, ⟨e2, h1⟩, z⟩) (fun _ _ _ z => z) (fun _ _ _ z => z) fun σ F H z => ⟨f s x, ⟨e2, h1⟩, z⟩

/-! ### dict comprehensions -/
def dcOf {α β : Type} (xs : List α) (p : α → Bool) (k : α → Key) (v : α → β) : List (Key × β) := (xs.filter p).foldl (fun d x => dput d (k x) (v x)) []
structure DcOk (X : Cx) (scope : Scope) (own : List (Str × Nat)) (kx vx tg iter : Expr) (ifs : List Expr) (T : TE) : Prop where
  ex : ∃ wi g tt tk tv, PI X tg iter wi ∧ (∀ s H C cl fp, PG (blkX X scope s H C cl fp) tg g) ∧ (∀ s H C cl fp, PTs (blkX X scope s H C cl fp) ifs tt) ∧ (∀ s H C cl fp, PE (blkX X scope s H C cl fp) kx tk) ∧ (∀ s H C cl fp, PE (blkX X scope s H C cl fp) vx tv) ∧ ∀ σ H Q, T σ H Q → tDc wi g tt tk tv (own.map (·.2)) σ H Q
theorem dput_len {β : Type} (d : List (Key × β)) (k : Key) (v : β) : (dput d k v).length ≤ d.length + 1 := by
  unfold dput
  split
  · rw [List.length_map]; omega
  · rw [List.length_append]; simp
theorem dcOf_len {α β : Type} (xs : List α) (p : α → Bool) (k : α → Key) (v : α → β) : (dcOf xs p k v).length ≤ xs.length := by
  unfold dcOf
  have aux : ∀ (l : List α) (d : List (Key × β)), (l.foldl (fun d x => dput d (k x) (v x)) d).length ≤ d.length + l.length := by
    intro l
    induction l with
    | nil => intro d; simp
    | cons x t ih => intro d; have h1 := ih (dput d (k x) (v x)); have h2 := dput_len d (k x) (v x); simp only [List.foldl_cons, List.length_cons]; omega
  have h := aux (xs.filter p) []
  have h2 := List.length_filter_le p xs
  simp only [List.length_nil] at h
  omega
theorem dc_ok {α β κ : Type} [Rp β] [Rp κ] [KeyT κ] {xs : List α} {P : α → Pd} {p : α → Bool} {f : α → β} {kf : α → κ} {rb : α → List Sl} {scope : Scope} {own : List (Str × Nat)} {kx vx tg iter : Expr} {ifs : List Expr} {g : TG} (src : Src X B tg iter r xs P r1)
    (hg : ∀ s H C cl fp, PG (blkX X scope s H C cl fp) tg g) (bnd : ∀ x, x ∈ xs → Bd B g (P x) (own.map (·.2)) (wipeS r1 (own.map (·.2))) (rb x))
    (ht : ∀ x, x ∈ xs → ∀ s H C cl fp, Tsx (blkX X scope s H C cl fp) B ifs (rb x) (p x) (rb x)) (hk : ∀ x, x ∈ xs → p x = true → ∀ s H C cl fp, Ex (blkX X scope s H C cl fp) B kx (rb x) (.dat (is X.K (kf x))) (rb x)) (he : ∀ x, x ∈ xs → p x = true → ∀ s H C cl fp, Ex (blkX X scope s H C cl fp) B vx (rb x) (.dat (is X.K (f x))) (rb x))
    (hl : xs.length < sizeLine) (hv0 : nov r1 (own.map (·.2)) = true := by rfl) : DcOk X scope own kx vx tg iter ifs (tcan B r (.new (dicC X.K (dcOf xs p (fun x => KeyT.k (kf x)) f))) r1) := by
  have hv := nov_ok hv0
  clear hv0
  obtain ⟨wi, s1, s2⟩ := src
  generalize hvs : own.map (·.2) = vs at *
  refine ⟨wi, g, (fun σ H Q => ∃ x, x ∈ xs ∧ ttan B (rb x) (p x) (rb x) σ H Q), (fun σ H Q => ∃ x, x ∈ xs ∧ p x = true ∧ tcan B (rb x) (.dat (is X.K (kf x))) (rb x) σ H Q), (fun σ H Q => ∃ x, x ∈ xs ∧ p x = true ∧ tcan B (rb x) (.dat (is X.K (f x))) (rb x) σ H Q), s1, hg,
    fun s H C cl fp => ⟨fun pins st σ H Q I ⟨x, hx, q⟩ => (ht x hx _ _ _ _ _).run pins st σ H Q I q⟩, fun s H C cl fp => ⟨fun pins st σ H Q I ⟨x, hx, hpx, q⟩ => (hk x hx hpx _ _ _ _ _).run pins st σ H Q I q⟩, fun s H C cl fp => ⟨fun pins st σ H Q I ⟨x, hx, hpx, q⟩ => (he x hx hpx _ _ _ _ _).run pins st σ H Q I q⟩, fun σ H Q ⟨F, ok, q⟩ => ?_⟩
  rw [hvs]
  refine s2 σ F H _ ok fun J F1 H1 p1 yl Dl hD => ?_
  have fr := p1.ok.fresh hD
  have hHD : H Dl = none := by
    cases z : H Dl with
    | none => rfl
    | some u => exact absurd hD (p1.st.dm Dl (by rw [z]; intro y; cases y))
  refine ⟨fun i m H' => m = xs.length - i ∧ i ≤ xs.length ∧ ∃ F' ws, Post B r1 σ F1 H1 r1 F' H' ∧ F' Dl = none ∧ H' Dl = some (.dK ws) ∧ KAll X.K F' ws (dcOf (xs.take i) p (fun x => KeyT.k (kf x)) f),
    ⟨xs.length, by simp, Nat.zero_le _, F1, [], Post.alloc p1.ok hD, fr.1, upd_same, .nil⟩, ?_⟩
  rintro i m H' ⟨rfl, hi, F', ws, p2, n2, d2, a2⟩
  obtain ⟨y1, y2⟩ := yl i F' H' p2.st.f p2.ok.fh
  by_cases hlt : i < xs.length
  · have hx : xs[i]? = some xs[i] := List.getElem?_eq_getElem hlt
    have hm : xs[i] ∈ xs := List.getElem_mem hlt
    obtain ⟨z1, z2⟩ := y1 _ hx
    refine .inr ⟨z1, fun H2 => ∃ F2 ws2, Post B r1 σ F1 H1 r1 F2 H2 ∧ F2 Dl = none ∧ H2 Dl = some (.dK ws2) ∧ KAll X.K F2 ws2 (dcOf (xs.take (i + 1)) p (fun x => KeyT.k (kf x)) f), fun H2 ⟨F2, ws2, q1, q2, q3, q4⟩ => ⟨xs.length - (i + 1), by omega, rfl, hlt, F2, ws2, q1, q2, q3, q4⟩, fun u H'' yy => ?_⟩
    obtain ⟨F'', st, fh, pu⟩ := z2 u H'' yy
    have ok2 := p2.ok.step st (fun _ z => z.elim) fh
    have p3 : Post B r1 σ F' H' r1 F'' H'' := ⟨ok2, st.mono fun _ z => z.elim, fun _ z => z⟩
    obtain ⟨okw, oww⟩ := ok2.wipe (vs := vs)
    have bd := bnd _ hm
    have nOD : ¬ Owned r1 σ Dl := fr.2.2
    have n3 : F'' Dl = none := by
      cases z : F'' Dl with
      | none => rfl
      | some u =>
        rcases st.nw Dl u z with y | y | y
        · rw [n2] at y; cases y
        · rw [d2] at y; cases y
        · exact y.elim
    refine bd.run _ _ _ _ _ okw pu fun σ2 ok3 hl3 ag3 ow3 => ⟨wipe_eq (by rw [hl3, wipe_length]) fun j hj => (ag3 j hj).trans (wipe_out' hj), ⟨_, hm, F'', ok3, fun F4 H4 p4 => ?_⟩⟩
    have bk : ∀ {F5 H5 : Hp}, Post B (rb xs[i]) σ2 F'' H'' (rb xs[i]) F5 H5 → Post B r1 σ F'' H'' r1 F5 H5 := fun {F5 H5} p5 =>
      Post.back (vs := vs) ok2 p5 (fun j hj => (ag3 j hj).trans (wipe_out' hj)) (fun j hj => (bd.ag j hj).trans (wipeS_out hj)) (fun j hj s e => ⟨hv j hj s e, e⟩) rfl fun b z => oww b (ow3 b z)
    have keepD : ∀ {F5 H5 : Hp}, Post B r1 σ F'' H'' r1 F5 H5 → F5 Dl = none ∧ H5 Dl = some (.dK ws) := fun {F5 H5} p5 => by
      have h2 : H'' Dl = some (.dK ws) := st.kp Dl _ d2 fun z => z
      refine ⟨?_, p5.st.kp Dl _ h2 nOD⟩
      cases z : F5 Dl with
      | none => rfl
      | some u =>
        rcases p5.st.nw Dl u z with y | y | y
        · rw [n3] at y; cases y
        · rw [h2] at y; cases y
        · exact absurd y nOD
    have tk : xs.take (i + 1) = xs.take i ++ [xs[i]] := by
      rw [List.take_add_one, hx]; rfl
    cases hp : p xs[i] with
    | false =>
      refine iteF ?_
      have p5 := bk p4
      obtain ⟨k1, k2⟩ := keepD p5
      refine ⟨F4, ws, (p2.trans p3).trans p5, k1, k2, ?_⟩
      have e : dcOf (xs.take (i + 1)) p (fun x => KeyT.k (kf x)) f = dcOf (xs.take i) p (fun x => KeyT.k (kf x)) f := by
        unfold dcOf
        rw [tk, List.filter_append, List.filter_cons, if_neg (by rw [hp]; decide)]
        simp
      rw [e]
      exact a2.mono ((st.f).trans p5.st.f)
    | true =>
      refine iteT ⟨_, hm, hp, F4, p4.ok, fun v F5 H5 p5 w5 => ⟨_, hm, hp, F5, p5.ok, fun v2 F6 H6 p6' w6 => ?_⟩⟩
      have p6 := bk ((p4.trans p5).trans p6')
      obtain ⟨k1, k2⟩ := keepD p6
      have ek := KeyT.is w5
      refine ⟨ws, _, ek, k2, ?_, ?_⟩
      · rw [paired_len a2]
        refine Nat.lt_of_le_of_lt (dcOf_len _ _ _ _) ?_
        rw [List.length_take]
        omega
      · have p7 := (p2.trans p3).trans p6
        refine ⟨F6, putK ws (KeyT.k (kf xs[i])) v2, p7.wr k1 k2 hD (p1.ok.fresh hD).2.2 fr.2.1, k1, upd_same, ?_⟩
        have e : dcOf (xs.take (i + 1)) p (fun x => KeyT.k (kf x)) f = dput (dcOf (xs.take i) p (fun x => KeyT.k (kf x)) f) (KeyT.k (kf xs[i])) (f xs[i]) := by
          unfold dcOf
          rw [tk, List.filter_append, List.filter_cons, if_pos hp, List.foldl_append]
          rfl
        rw [e]
        exact KAll.put (a2.mono ((st.f).trans p6.st.f)) w6
  · have e : i = xs.length := by omega
    subst e
    refine .inl ⟨y2 (Nat.le_refl _), q _ F' H' (p1.trans p2) ⟨Dl, _, rfl, n2, d2, ⟨ws, rfl, ?_⟩, hHD, fr.2.2⟩⟩
    rw [List.take_length] at a2
    exact a2
theorem ex_dcO {scope : Scope} {own : List (Str × Nat)} {kx vx tg iter : Expr} {ifs : List Expr} {T : TE} (h : DcOk X scope own kx vx tg iter ifs T) (ok : BlkOk X.N X.env.scope scope own) (hN : X.N.Nodup) (hc : X.calm = true := by rfl) (hs : ∀ x, foldedSetIterable iter X.env x = pure x := by intro _; rfl) : PE X (.DictComp kx vx [⟨tg, iter, ifs, 0⟩] scope pos) T := by
  obtain ⟨wi, g, tt, tk, tv, h1, h2, h3, h4, h4', h5⟩ := h.ex
  exact PE.imp (pe_dc hc hN h1 ok h2 h3 h4 h4' hs) h5
theorem dget_dput {β : Type} (d : List (Key × β)) (k j : Key) (v : β) : dget (dput d k v) j = if j = k then some v else dget d j := by
  unfold dput
  by_cases h : (d.any fun kv => decide (kv.1 = k)) = true
  · rw [if_pos h]
    induction d with
    | nil => simp at h
    | cons q t ih =>
      unfold dget at *
      simp only [List.map_cons, List.find?_cons]
      by_cases hq : q.1 = k
      · subst hq
        by_cases hj : q.1 = j
        · subst hj; simp
        · simp only [if_pos, hj, decide_false]
          have hj' : ¬ j = q.1 := fun z => hj z.symm
          simp only [hj', if_false]
          have aux : ∀ l : List (Key × β), (List.find? (fun kv => decide (kv.1 = j)) (l.map fun kv => if kv.1 = q.1 then (kv.1, v) else kv)) = List.find? (fun kv => decide (kv.1 = j)) l := by
            intro l
            induction l with
            | nil => rfl
            | cons p t ih2 =>
              simp only [List.map_cons, List.find?_cons]
              by_cases h1 : p.1 = q.1
              · simp [h1, hj, ih2]
              · simp only [h1, if_false, ih2]
          rw [aux]
      · simp only [hq, if_false]
        have h' : (t.any fun kv => decide (kv.1 = k)) = true := by simpa [hq] using h
        by_cases hj : q.1 = j
        · subst hj
          simp [hq]
        · simp only [hj, decide_false]
          exact ih h'
  · rw [if_neg h]
    unfold dget
    rw [List.find?_append]
    have hn : ∀ kv ∈ d, ¬ kv.1 = k := fun kv hkv z => h (List.any_eq_true.mpr ⟨kv, hkv, by simp [z]⟩)
    by_cases hj : j = k
    · subst hj
      rw [if_pos rfl, List.find?_eq_none.mpr (by simpa using hn)]
      simp
    · rw [if_neg hj]
      have hj' : ¬ k = j := fun z => hj z.symm
      simp [List.find?_cons, hj']
end
end DL

/-! DLLaw: what the laws' own helpers need: a, b = e, f; lists of drawn items; max of a list; pop at a drawn place -/
namespace DL
open PySem L2
section
variable {X : Cx} {B : Bs} {e a b : Expr} {ss rest : List Stmt} {r r1 r2 r3 : List Sl} {ra rb x y : Rk} {D : Dn} {pos p : Pos}
/-- two results stored at two names -/
theorem ok_set2 {i j : Nat} {v w : V} {σ : L2.St} {H0' H1 F H : Hp} (k : Ok B r σ F H) (hx : RkOk r H0' σ F H v x) (hy : RkOk r H1 σ F H w y) (h0 : ∀ b, B.H0 b ≠ none → H0' b ≠ none) (h1 : ∀ b, B.H0 b ≠ none → H1 b ≠ none)
    (hap : ∀ p C, x = .new C → v = .ref p → H1 p ≠ none) (hns : ∀ q, y ≠ .slot q) : Ok B ((r.set i (Sl.of x)).set j (Sl.of y)) ((σ.set i (some v)).set j (some w)) F H := by
  have s1 := ok_set (i := i) k hx h0
  refine ok_set (Hs := H1) s1 ?_ h1
  cases y with
  | dat P => exact hy
  | slot q => exact absurd rfl (hns q)
  | new C =>
    obtain ⟨p, o, e1, e2, e3, e4, e5, e6⟩ := hy
    refine ⟨p, o, e1, e2, e3, e4, e5, fun z => ?_⟩
    obtain ⟨t, s, q1, q2, q3⟩ := z
    by_cases ht : i = t
    · subst ht
      have hlt := (List.getElem?_eq_some_iff.mp q3).1
      rw [List.length_set] at hlt
      rw [List.getElem?_set_self hlt] at q3
      cases q3
      rw [List.getElem?_set_self (by rw [k.len]; exact hlt)] at q1
      cases q1
      cases x with
      | dat P => cases q2
      | slot q => cases q2
      | new C' => exact hap p C' rfl rfl e5
    · rw [List.getElem?_set_ne ht] at q1 q3
      exact e6 ⟨t, s, q1, q2, q3⟩
theorem ap_of {v : V} {σ : L2.St} {Hs F1 H1 : Hp} (w1 : RkOk r1 Hs σ F1 H1 v x) : ∀ p C, x = .new C → v = .ref p → H1 p ≠ none := fun p C e e2 => by
  subst e
  obtain ⟨p', o', g1, g2, g3, _⟩ := w1
  rw [e2] at g1
  cases g1
  rw [g3]; intro z; cases z
/-- a, b = e, f (two plain locals) -/
theorem go_par {i j : Nat} {n m : Str} {px py pt : Pos} {kt k2 pt2} (h1 : Ex X B a r x r1) (h2 : Ex X B b r1 y r2) (hN : X.N.Nodup) (hi : X.N[i]? = some n) (hj : X.N[j]? = some m) (hij : i ≠ j) (hx : X.env.scope.names.lookup n = some .local) (hy : X.env.scope.names.lookup m = some .local)
    (k : Go X B rest ((r2.set i (Sl.of x)).set j (Sl.of y)) D)
    (hw : swappedStores [.Tuple [.Name n px, .Name m py] kt pt] (.Tuple [a, b] k2 pt2) X.env = pure (some [n, m])) (hns : ∀ q, y ≠ .slot q := by intro q h; cases h) (hc : X.calm = true := by rfl)
    (hs : swapsWithSole [.Tuple [.Name n px, .Name m py] kt pt] (.Tuple [a, b] k2 pt2) pos.line X.env = pure false := by rfl) (hst : starEach [a, b] X.env = (false, eval a X.env) :: starEach [b] X.env := by rfl) (hst2 : starEach [b] X.env = (false, eval b X.env) :: starEach [] X.env := by rfl) :
    Go X B (.Assign [.Tuple [.Name n px, .Name m py] kt pt] (.Tuple [a, b] k2 pt2) pos :: rest) r D := by
  refine go_seq1 ⟨_, ps_par hc hN hi hj hij hx hy (pa_cons h1 (pa_cons h2 pa_nil hst2) hst) hw hs, fun σ F H ok => ?_⟩ k
  refine ⟨F, ok, fun v F1 H1 p1 w1 => ⟨F1, p1.ok, fun w F2 H2 p2 w2 => ⟨v, w, rfl, F2, p1.st.f.trans p2.st.f, ?_⟩⟩⟩
  exact ok_set2 p2.ok (w1.step p2) w2 (fun b hb => ok.dm b hb) (fun b hb => p1.ok.dm b hb) (ap_of w1) hns
/-- a, b = e, f through a tuple -/
theorem go_tup2 {i j : Nat} {t1 t2 : Expr} {pt : Pos} {kt k2 pt2} (h1 : Ex X B a r x r1) (h2 : Ex X B b r1 y r2) (g1 : PG X t1 (gName i)) (g2 : PG X t2 (gName j))
    (k : Go X B rest ((r2.set i (Sl.of x)).set j (Sl.of y)) D) (hns : ∀ q, y ≠ .slot q := by intro q h; cases h) (hc : X.calm = true := by rfl)
    (hs : swapsWithSole [.Tuple [t1, t2] kt pt] (.Tuple [a, b] k2 pt2) pos.line X.env = pure false := by rfl) (hw : swappedStores [.Tuple [t1, t2] kt pt] (.Tuple [a, b] k2 pt2) X.env = pure none := by rfl)
    (ha : (assignEach [.Tuple [t1, t2] kt pt] X.env).map (·.2) = [assign (.Tuple [t1, t2] kt pt) X.env] := by rfl) (hst : starEach [a, b] X.env = (false, eval a X.env) :: starEach [b] X.env := by rfl) (hst2 : starEach [b] X.env = (false, eval b X.env) :: starEach [] X.env := by rfl)
    (ht : (assignEach [t1, t2] X.env).map (·.2) = assign t1 X.env :: (assignEach [t2] X.env).map (·.2) := by rfl) (ht2 : (assignEach [t2] X.env).map (·.2) = assign t2 X.env :: (assignEach [] X.env).map (·.2) := by rfl)
    (hn : (assignEach [t1, t2] X.env).length = 2 := by rfl) (hst3 : (assignEach [t1, t2] X.env).findIdx? (·.1) = none := by rfl) :
    Go X B (.Assign [.Tuple [t1, t2] kt pt] (.Tuple [a, b] k2 pt2) pos :: rest) r D := by
  refine go_seq1 ⟨_, ps_asg (pe_tup (pa_cons h1 (pa_cons h2 pa_nil hst2) hst)) (pg_tup hc (pgs_cons g1 (pgs_cons g2 pgs_nil ht2) ht) hn hst3) hs hw ha, fun σ F H ok => ?_⟩ k
  refine ⟨F, ok, fun v F1 H1 p1 w1 => ⟨F1, p1.ok, fun w F2 H2 p2 w2 => ⟨by show 2 ≤ sizeLine; decide, fun T hT => ?_⟩⟩⟩
  have p3 : Post B r2 σ F2 H2 r2 F2 (upd H2 T (.tup [v, w])) := Post.alloc p2.ok hT
  refine ⟨T, [v, w], rfl, Evl.st_of upd_same, rfl, v, [w], rfl, w, [], rfl, rfl, F2, p1.st.f.trans p2.st.f, ?_⟩
  exact ok_set2 p3.ok ((w1.step p2).step p3) (w2.step p3) (fun b hb => ok.dm b hb) (fun b hb => p1.ok.dm b hb) (ap_of w1) hns
/-- a list of items of which a property is known -/
theorem all_some {K : PySem.W.Frag} {α : Type} [Rp α] {c : α → Prop} {σ : L2.St} {Hs F H : Hp} : ∀ {Ps : List Pd} {vs : List V}, (∀ P ∈ Ps, ∀ F v, P.p F v → ∃ x : α, c x ∧ Rp.rp K F v x) → Paired (RkOk r Hs σ F H) vs (Ps.map .dat) → ∃ xs : List α, xs.length = Ps.length ∧ (∀ x ∈ xs, c x) ∧ All2 K F vs xs
  | [], [], _, .nil => ⟨[], rfl, fun x h => by simp at h, .nil⟩
  | P :: Ps, v :: vs, h, .cons q t => by
    obtain ⟨x, cx, rx⟩ := h P (by simp) F v q
    obtain ⟨xs, l, hc, a⟩ := all_some (fun P' hP => h P' (by simp [hP])) t
    exact ⟨x :: xs, by simp [l], fun y hy => by
      rcases List.mem_cons.mp hy with e | e
      · rw [e]; exact cx
      · exact hc y e, .cons rx a⟩
theorem ex_lstN {es : List Expr} {α : Type} [Rp α] {c : α → Prop} {Ps : List Pd} (h : Ax X B es r (Ps.map .dat) r1) (hP : ∀ P ∈ Ps, ∀ F v, P.p F v → ∃ x : α, c x ∧ Rp.rp X.K F v x) (hl : Ps.length ≤ sizeLine := by decide) : Ex X B (.List es pos) r (.new (someC X.K fun xs : List α => xs.length = Ps.length ∧ ∀ x ∈ xs, c x)) r1 :=
  PE.imp (pe_lst h) fun σ H Q ⟨F, k, q⟩ => ⟨F, k, fun vs F' H' p w => by
    obtain ⟨xs, l, hc, a⟩ := all_some hP w
    refine ⟨by rw [paired_len w, List.length_map]; exact hl, fun d hd => ?_⟩
    exact q (.ref d) F' _ (p.trans (Post.alloc p.ok hd)) (RkOk.back (RkOk.alloc p.ok hd ⟨xs, ⟨l, hc⟩, vs, rfl, a⟩) p.st.dm)⟩
/-- the greatest of a list -/
def maxL (xs : List Int) : Int := xs.max?.getD 0
theorem maxL_mem {xs : List Int} (h : xs ≠ []) : maxL xs ∈ xs ∧ ∀ y ∈ xs, y ≤ maxL xs := by
  unfold maxL
  cases e : xs.max? with
  | none => rw [List.max?_eq_none_iff] at e; exact absurd e h
  | some m => exact List.max?_eq_some_iff.mp e
theorem ex_maxL {xs : List Int} (hm : X.mg "max" = none) (ha : Ex X B a r ra r1) (rd : LsR X.K B r1 ra xs) (hne : xs ≠ []) (hc : X.calm = true := by rfl) (hg : Gl X "max" := by rfl) (hs : starEach [a] X.env = (false, eval a X.env) :: starEach [] X.env := by rfl) (hpl : (backTo pos (starEach [] X.env)).any (·.1) = false := by rfl) :
    Ex X B (.Call (.Name "max" p) [a] [] pos) r (.dat (is X.K (maxL xs))) r1 :=
  ex_cb (fun h => pe_callB (cr_max hc) hg hm (by decide +kernel) h (he := hs) (hpl := hpl)) (ax1 ha hs) fun σ Hs F H vs k w => by
    obtain ⟨v, rfl, w1⟩ := pr1 w
    obtain ⟨q, ys, e1, e2, e3⟩ := rd.rd σ Hs F H v k w1
    subst e1
    refine vl_val k (show (is X.K (maxL xs)).p F (.int (maxL xs)) from rfl) fun Q z => ⟨q, xs, rfl, .of (by rw [e2, all2_int e3]), by cases xs with | nil => exact absurd rfl hne | cons _ _ => simp, fun m h1 h2 => ?_⟩
    obtain ⟨g1, g2⟩ := maxL_mem hne
    rw [Int.le_antisymm (g2 m h1) (h2 _ g1)]
    exact z
/-- xs.pop(i), i drawn -/
theorem exs_pop {α : Type} [Rp α] [Inhabited α] {xs : List α} {ci : Int → Prop} {i : Nat} {sl : Sl} {o : Expr} {apos : Pos} (ho : PE X o (tVar i)) (h : Ex X B e r (.dat (some_ X.K ci)) r1) (hr0 : LsS X.K r i xs sl) (hr : LsS X.K r1 i xs sl) (hi : ∀ d, ci d → 0 ≤ d ∧ d < xs.length) (hl : xs.length ≤ sizeLine)
    (hbase : attributeBase o "pop" X.env (eval o X.env) = eval o X.env := by rfl)
    (hfew : ((backTo pos (starEach [e] X.env)).all (fun x => !x.1) && (backToKw pos (keywordEach [] X.env)).all (fun x => x.1.isSome)
      && decide ([e].length + ([] : List Keyword).length + (if ([] : List Keyword).isEmpty then 0 else 1) < 30)) = true := by rfl)
    (hline : (apos.endLine == pos.line) = true := by rfl) (hst : starEach [e] X.env = (false, eval e X.env) :: starEach [] X.env := by rfl) (hplain : (backTo pos (starEach [] X.env)).any (·.1) = false := by rfl) :
    ExS X B (.Call (.Attribute o "pop" apos) [e] [] pos) r (S := Nat) (fun k => k < xs.length) (fun k => .dat (is X.K (xs.getD k default))) (fun k => r1.set i (sl.put (lstC X.K (xs.eraseIdx k)))) :=
  PE.imp (pe_bm PySem.F.plainAttrs_list PySem.F.slot_list_pop PySem.F.type_list_pop mt_popAt ho (pa_cons h pa_nil hst) hbase hfew hline hst hplain) fun σ H Q ⟨F, ok, q⟩ => by
    obtain ⟨p, vs0, hσ, hp, _, _⟩ := hr0.at ok
    refine ⟨_, hσ, Or.inl ⟨rfl, vs0, .of hp⟩, F, ok, fun v F1 H1 p1 w1 => ?_⟩
    obtain ⟨p', vs, hσ', hp', a2, hn⟩ := hr.at p1.ok
    rw [hσ] at hσ'; cases hσ'
    obtain ⟨d, cd, wd⟩ := w1
    cases wd
    obtain ⟨d0, d1⟩ := hi d cd
    have hk : d.toNat < xs.length := by omega
    have hg : xs[d.toNat]? = some (xs.getD d.toNat default) := by simp [List.getD, hk]
    obtain ⟨u, hu, ru⟩ := Paired.get a2 hg
    have hz : (xs.length : Int) < 2 ^ 63 := Int.lt_of_le_of_lt (Int.ofNat_le.mpr hl) (by decide)
    refine ⟨p, vs, d, d.toNat, u, rfl, rfl, hp', by omega, by omega, ?_, hu, ?_⟩
    · unfold seqIndex?
      rw [a2.len]
      simp only [show ¬ d < 0 by omega, if_false]
      first
        | rw [if_pos (by omega)]
        | (simp; omega)
    · have a3 : All2 X.K F1 (vs.eraseIdx d.toNat) (xs.eraseIdx d.toNat) := by
        rw [List.eraseIdx_eq_take_drop_succ, List.eraseIdx_eq_take_drop_succ]
        exact Paired.append (Paired.take _ a2) (Paired.drop _ a2)
      have w := p1.ok.write (C' := lstC X.K (xs.eraseIdx d.toNat)) hr.g hr.own hσ ⟨_, rfl, a3⟩
      exact q d.toNat u F1 _ hk (p1.trans w) ru
/-- xs.append(e), e of several outcomes -/
theorem go_appS {α S : Type} [Rp α] {c : S → Prop} {f : S → α} {g : S → List Sl} {xs0 xs : List α} {i : Nat} {sl0 sl : Sl} {o : Expr} {apos : Pos} (ho : PE X o (tVar i)) (h : ExS X B e r c (fun s => .dat (is X.K (f s))) g) (hr0 : LsS X.K r i xs0 sl0) (hr : ∀ s, c s → LsS X.K (g s) i xs sl) (hl : xs.length < sizeLine)
    (k : ∀ s, c s → Go X B rest ((g s).set i (sl.put (lstC X.K (xs ++ [f s])))) D) (hs : swapsWith (.Call (.Attribute o "append" apos) [e] [] pos) none pos.line X.env = pure false := by rfl)
    (hbase : attributeBase o "append" X.env (eval o X.env) = eval o X.env := by rfl)
    (hfew : ((backTo pos (starEach [e] X.env)).all (fun x => !x.1) && (backToKw pos (keywordEach [] X.env)).all (fun x => x.1.isSome)
      && decide ([e].length + ([] : List Keyword).length + (if ([] : List Keyword).isEmpty then 0 else 1) < 30)) = true := by rfl)
    (hline : (apos.endLine == pos.line) = true := by rfl) (hst : starEach [e] X.env = (false, eval e X.env) :: starEach [] X.env := by rfl) (hplain : (backTo pos (starEach [] X.env)).any (·.1) = false := by rfl) :
    Go X B (.Expr (.Call (.Attribute o "append" apos) [e] [] pos) pos :: rest) r D := by
  refine go_seq (ι := S) (C := c) ⟨_, ps_expr (pe_bm PySem.F.plainAttrs_list PySem.F.slot_list_append PySem.F.type_list_append mt_append ho (pa_cons h pa_nil hst) hbase hfew hline hst hplain) hs, fun σ F H ok => ?_⟩ k
  obtain ⟨p, vs0, hσ, hp, _, _⟩ := hr0.at ok
  refine ⟨_, hσ, Or.inl ⟨rfl, vs0, .of hp⟩, F, ok, fun s v F1 H1 cs p1 w1 => ?_⟩
  obtain ⟨p', vs, hσ', hp', a2, hn⟩ := (hr s cs).at p1.ok
  rw [hσ] at hσ'; cases hσ'
  refine ⟨p, vs, v, rfl, rfl, hp', by rw [a2.len]; exact hl, F1, p1.st.f, s, cs, ?_⟩
  exact (p1.ok.write (C' := lstC X.K (xs ++ [f s])) (hr s cs).g (hr s cs).own hσ ⟨_, rfl, Paired.append a2 (.cons w1 .nil)⟩).ok
theorem hu65 {A : Around} {k : Nat} (hr : Room k A) : A.units + 65 < cLine := by have := hr.un; omega
/-- a value taken as one of several -/
theorem ex_pick {α : Type} [Rp α] {c : α → Prop} (h : Ex X B e r (.dat (some_ X.K c)) r1) : ExS X B e r c (fun d => .dat (is X.K d)) (fun _ => r1) := PE.imp h fun σ H Q ⟨F, k, q⟩ => ⟨F, k, fun v F' H' p ⟨d, cd, w⟩ => q d v F' H' cd p w⟩
end
end DL

/-! DLDrawn: walks and comprehensions over a drawn range -/
namespace DL
open PySem L2
section
variable {X : Cx} {B : Bs} {e a b : Expr} {ss rest : List Stmt} {r r1 r2 r3 : List Sl} {ra rb x y : Rk} {D : Dn} {pos p : Pos}
def SrcD (X : Cx) (B : Bs) (tg iter : Expr) (r : List Sl) {δ α : Type} (c0 : δ → Prop) (xs : δ → List α) (P : α → Pd) (r1 : List Sl) : Prop :=
  ∃ wi, PI X tg iter wi ∧ ∀ σ F H (R : It → Hp → Prop), Ok B r σ F H → (∀ d J F1 H1, c0 d → Post B r σ F H r1 F1 H1 → Yl B.lk (xs d) P F1 J → R J H1) → wi σ H R
theorem srcD_range {tg : Expr} {c0 : Int → Prop} (hm : X.mg "range" = none) (ha : Ex X B a r (.dat (some_ X.K c0)) r1) (hn : ∀ n, c0 n → -(2 ^ 62) ≤ n ∧ n < 2 ^ 62) (hg : Gl X "range" := by rfl) (hs : starEach [a] X.env = [(false, eval a X.env)] := by rfl) : SrcD X B tg (.Call (.Name "range" p) [a] [] pos) r c0 (fun n => rangeI 0 n) (is X.K) r1 :=
  ⟨_, pi_range1 hg hm (ax1 ha hs) hs, fun σ F H R k q => ⟨F, k, fun vs F1 H1 p w => by
    obtain ⟨v, rfl, w1⟩ := pr1 w
    obtain ⟨n, cn, w1⟩ := w1
    cases w1
    obtain ⟨h1, h2⟩ := hn n cn
    refine ⟨n, rfl, h1, h2, q n _ F1 H1 cn p ?_⟩
    have e : (n - 0).toNat = n.toNat := by simp
    first
      | exact yl_range
      | (rw [← e]; exact yl_range)⟩⟩
theorem lc_okD {δ α β : Type} [Rp β] {c0 : δ → Prop} {xs : δ → List α} {P : α → Pd} {c : δ → α → β → Prop} {cz : List β → Prop} {R : δ → Nat → List Sl} {rb re : δ → Nat → α → List Sl} {r' : List Sl} {scope : Scope} {own : List (Str × Nat)} {elt tg iter : Expr} {g : TG} (src : SrcD X B tg iter r c0 xs P r1)
    (hg : ∀ s H C cl fp, PG (blkX X scope s H C cl fp) tg g) (hR : ∀ d i, (R d i).length = r1.length) (h0 : ∀ d, c0 d → Cv r1 (R d 0)) (bnd : ∀ d i x, (xs d)[i]? = some x → Bd B g (P x) (own.map (·.2)) (wipeS (R d i) (own.map (·.2))) (rb d i x))
    (he : ∀ d i x, c0 d → (xs d)[i]? = some x → ∀ s H C cl fp, Ex (blkX X scope s H C cl fp) B elt (rb d i x) (.dat (some_ X.K (c d x))) (re d i x))
    (hre : ∀ d i x, (xs d)[i]? = some x → ∀ j, j ∉ own.map (·.2) → (re d i x)[j]? = (R d (i + 1))[j]?) (hkeep : ∀ d i j, j ∈ own.map (·.2) → (R d i)[j]? = (R d 0)[j]?) (hend : ∀ d, c0 d → Cv (R d (xs d).length) r')
    (hl : ∀ d, c0 d → (xs d).length < sizeLine) (hz : ∀ d (ys : List β), c0 d → ys.length = (xs d).length → (∀ (i : Nat) (x : α) (y : β), (xs d)[i]? = some x → ys[i]? = some y → c d x y) → cz ys) (hv0 : ∀ d, nov (R d 0) (own.map (·.2)) = true := by intro _; rfl) : LcOk X scope own elt tg iter [] (tcan B r (.new (someC X.K cz)) r') := by
  have hv := fun d => nov_ok (hv0 d)
  clear hv0
  obtain ⟨wi, s1, s2⟩ := src
  generalize hvs : own.map (·.2) = vs at *
  refine ⟨wi, g, tYes, (fun σ H Q => ∃ d i x, c0 d ∧ (xs d)[i]? = some x ∧ tcan B (rb d i x) (.dat (some_ X.K (c d x))) (re d i x) σ H Q), s1, hg, fun _ _ _ _ _ => pts_nil, fun s H C cl fp => ⟨fun pins st σ H Q I ⟨d, i, x, hc0, hx, q⟩ => (he d i x hc0 hx _ _ _ _ _).run pins st σ H Q I q⟩, fun σ H Q ⟨F, ok, q⟩ => ?_⟩
  rw [hvs]
  refine s2 σ F H _ ok fun d J F1 H1 hc0 p1 yl Dl hD => ?_
  have fr := p1.ok.fresh hD
  have hHD : H Dl = none := by
    cases z : H Dl with
    | none => rfl
    | some u => exact absurd hD (p1.st.dm Dl (by rw [z]; intro y; cases y))
  refine ⟨fun i m H' => m = (xs d).length - i ∧ i ≤ (xs d).length ∧ ∃ F' ws, ∃ ys : List β, Post B r1 σ F1 H1 (R d i) F' H' ∧ F' Dl = none ∧ H' Dl = some (.lst ws) ∧ All2 X.K F' ws ys ∧ ys.length = i ∧ ∀ (j : Nat) (x : α) (y : β), (xs d)[j]? = some x → ys[j]? = some y → c d x y,
    ⟨(xs d).length, by simp, Nat.zero_le _, F1, [], [], (Post.alloc p1.ok hD).conv (h0 d hc0), fr.1, upd_same, .nil, rfl, fun j x y _ e => by simp at e⟩, ?_⟩
  rintro i m H' ⟨rfl, hi, F', ws, ys, p2, n2, d2, a2, ly, cy⟩
  obtain ⟨y1, y2⟩ := yl i F' H' p2.st.f p2.ok.fh
  have nOD : ∀ i F' H', Post B r1 σ F1 H1 (R d i) F' H' → ¬ Owned (R d i) σ Dl := fun i F' H' p z => fr.2.2 (p.ow Dl z)
  by_cases hlt : i < (xs d).length
  · have hx : (xs d)[i]? = some (xs d)[i] := List.getElem?_eq_getElem hlt
    obtain ⟨z1, z2⟩ := y1 _ hx
    refine .inr ⟨z1, fun H2 => ∃ F2 ws2, ∃ ys2 : List β, Post B r1 σ F1 H1 (R d (i + 1)) F2 H2 ∧ F2 Dl = none ∧ H2 Dl = some (.lst ws2) ∧ All2 X.K F2 ws2 ys2 ∧ ys2.length = i + 1 ∧ ∀ (j : Nat) (x : α) (y : β), (xs d)[j]? = some x → ys2[j]? = some y → c d x y, fun H2 ⟨F2, ws2, ys2, q1, q2, q3, q4, q5, q6⟩ => ⟨(xs d).length - (i + 1), by omega, rfl, hlt, F2, ws2, ys2, q1, q2, q3, q4, q5, q6⟩, fun u H'' yy => ?_⟩
    obtain ⟨F'', st, fh, pu⟩ := z2 u H'' yy
    have ok2 := p2.ok.step st (fun _ z => z.elim) fh
    have p3 : Post B (R d i) σ F' H' (R d i) F'' H'' := ⟨ok2, st.mono fun _ z => z.elim, fun _ z => z⟩
    obtain ⟨okw, oww⟩ := ok2.wipe (vs := vs)
    have bd := bnd d i _ hx
    have n3 : F'' Dl = none := by
      cases z : F'' Dl with
      | none => rfl
      | some u =>
        rcases st.nw Dl u z with y | y | y
        · rw [n2] at y; cases y
        · rw [d2] at y; cases y
        · exact y.elim
    refine bd.run _ _ _ _ _ okw pu fun σ2 ok3 hl3 ag3 ow3 => ⟨wipe_eq (by rw [hl3, wipe_length]) fun j hj => (ag3 j hj).trans (wipe_out' hj), ?_⟩
    unfold tYes
    dsimp only
    rw [if_pos rfl]
    refine ⟨d, i, _, hc0, hx, F'', ok3, fun v F5 H5 p5 w5 => ?_⟩
    have p6 : Post B (R d i) σ F'' H'' (R d (i + 1)) F5 H5 := Post.back (vs := vs) ok2 p5 (fun j hj => (ag3 j hj).trans (wipe_out' hj)) (fun j hj => hre d i _ hx j hj) (fun j hj s e => by
      rw [hkeep d (i + 1) j hj] at e
      exact ⟨hv d j hj s e, by rw [hkeep d i j hj]; exact e⟩) ((hR d _).trans (hR d _).symm) fun b z => oww b (ow3 b z)
    have nO := nOD i F' H' p2
    have h2 : H'' Dl = some (.lst ws) := st.kp Dl _ d2 fun z => z
    have k2 : H5 Dl = some (.lst ws) := p6.st.kp Dl _ h2 nO
    have k1 : F5 Dl = none := by
      cases z : F5 Dl with
      | none => rfl
      | some u =>
        rcases p6.st.nw Dl u z with y | y | y
        · rw [n3] at y; cases y
        · rw [h2] at y; cases y
        · exact absurd y nO
    refine ⟨ws, k2, by rw [a2.len, ly]; have := hl d hc0; omega, ?_⟩
    have p7 := (p2.trans p3).trans p6
    obtain ⟨y, cy1, wy⟩ := w5
    refine ⟨F5, ws ++ [v], ys ++ [y], p7.wr k1 k2 hD (fun z => fr.2.2 (p7.ow Dl z)) fr.2.1, k1, upd_same, Paired.append (a2.mono ((st.f).trans p6.st.f)) (.cons wy .nil), by rw [List.length_append, ly]; rfl, fun j x0 y0 e1 e2 => ?_⟩
    by_cases hj : j < ys.length
    · rw [List.getElem?_append_left hj] at e2
      exact cy j x0 y0 e1 e2
    · have hjl := (List.getElem?_eq_some_iff.mp e2).1
      rw [List.length_append] at hjl
      have ej : j = i := by simp at hjl; omega
      subst ej
      rw [hx] at e1; cases e1
      rw [List.getElem?_append_right (by omega), ly] at e2
      simp at e2
      subst e2
      exact cy1
  · have e : i = (xs d).length := by omega
    subst e
    refine .inl ⟨y2 (Nat.le_refl _), q _ F' H' ((p1.trans p2).conv (hend d hc0)) ⟨Dl, _, rfl, n2, d2, ⟨ys, hz d ys hc0 ly cy, ws, rfl, a2⟩, hHD, fun z => fr.2.2 (p2.ow Dl (z.conv (hend d hc0)))⟩⟩
theorem go_forD {δ α S : Type} {c0 : δ → Prop} {xs : δ → List α} {P : α → Pd} {tg iter : Expr} {body : List Stmt} {g : TG} {vs : List Nat} (J : δ → Nat → S → Prop) (R : S → List Sl) (rb : S → α → List Sl) (Bk : L2.St → Hp → Hp → Prop) (src : SrcD X B tg iter r c0 xs P r1) (hg : PG X tg g)
    (bnd : ∀ d i x s, (xs d)[i]? = some x → J d i s → Bnd B g (P x) vs (R s) (rb s x)) (s0 : S) (w0 : Weak r1 (R s0)) (h0 : ∀ d, c0 d → J d 0 s0)
    (hb : ∀ d i x s, c0 d → (xs d)[i]? = some x → J d i s → Go X B body (rb s x) { D with nx := fun σ F H => ∃ s', J d (i + 1) s' ∧ Ok B (R s') σ F H, ct := fun σ F H => ∃ s', J d (i + 1) s' ∧ Ok B (R s') σ F H, bk := Bk })
    {ι : Type} {Rk : ι → List Sl} {C : ι → Prop} (hk : ∀ σ F H, Bk σ F H → ∃ i, C i ∧ Ok B (Rk i) σ F H) (hd : ∀ d s, c0 d → J d (xs d).length s → ∃ i, C i ∧ Weak (R s) (Rk i)) (k : ∀ i, C i → Go X B rest (Rk i) D)
    (hp : PassesOwn (model X.prog X.w) X.A X.env X.xe := by exact PassesOwn.never) (hc : X.calm = true := by rfl) (hfs : ∀ x, foldedSetIterable iter X.env x = pure x := by intro _; rfl) : Go X B (.For tg iter body [] pos :: rest) r D := by
  refine go_seq (R := Rk) (C := C) ?_ k
  obtain ⟨wi, s1, s2⟩ := src
  -- the body, its ends told as the loop wants them
  have hbody : PSs X body (fun D2 σ H => ∃ d i x s F, c0 d ∧ (xs d)[i]? = some x ∧ J d i s ∧ Ok B (rb s x) σ F H ∧ (∀ v F' H', Same F F' → D.rt v F' H' → D2.rt v H') ∧ (∀ σ' F' H' s', Same F F' → J d (i + 1) s' → Ok B (R s') σ' F' H' → D2.nx σ' H' ∧ D2.ct σ' H') ∧ (∀ σ' F' H', Same F F' → Bk σ' F' H' → D2.bk σ' H')) :=
    ⟨fun pins st σ H D2 I ⟨d, i, x, s, F, hc0, hx, hj, ok, e1, e2, e3⟩ => by
      obtain ⟨t, g1, g2⟩ := hb d i x s hc0 hx hj
      exact thn (g1.run pins st σ H _ I (g2 σ F H ok)) fun f s1 q => sp_to q (fun σ H ⟨F', a, s', j', o'⟩ => (e2 σ F' H s' a j' o').1) (fun v H ⟨F', a, z⟩ => e1 v F' H a z) (fun σ H ⟨F', a, z⟩ => e3 σ F' H a z) fun σ H ⟨F', a, s', j', o'⟩ => (e2 σ F' H s' a j' o').2⟩
  refine ⟨_, ps_for hp hc s1 hg hbody hfs, fun σ F H ok => s2 σ F H _ ok fun d It F1 H1 hc0 p1 yl => ?_⟩
  refine ⟨fun i m σ' H' => m = (xs d).length - i ∧ i ≤ (xs d).length ∧ ∃ s F', J d i s ∧ Same F1 F' ∧ Ok B (R s) σ' F' H', ⟨(xs d).length, by simp, Nat.zero_le _, s0, F1, h0 d hc0, fun _ _ z => z, p1.ok.weak w0⟩, ?_⟩
  rintro i m σ' H' ⟨rfl, hi, s, F', hj, sm, ok'⟩
  obtain ⟨y1, y2⟩ := yl i F' H' sm ok'.fh
  by_cases hlt : i < (xs d).length
  · have hx : (xs d)[i]? = some (xs d)[i] := List.getElem?_eq_getElem hlt
    obtain ⟨z1, z2⟩ := y1 _ hx
    refine .inr ⟨z1, fun σ2 H2 => ∃ s' F2, J d (i + 1) s' ∧ Same F1 F2 ∧ Ok B (R s') σ2 F2 H2, fun σ2 H2 ⟨s', F2, j', sm2, o2⟩ => ⟨(xs d).length - (i + 1), by omega, rfl, hlt, s', F2, j', sm2, o2⟩, fun u H'' yy => ?_⟩
    obtain ⟨F'', st, fh, pu⟩ := z2 u H'' yy
    have ok2 := ok'.step st (fun _ z => z.elim) fh
    have sF : Same F1 F'' := sm.trans st.f
    refine bnd d i _ s hx hj σ' F'' H'' u _ ok2 pu fun σ3 ok3 _ _ _ => ⟨d, i, _, s, F'', hc0, hx, hj, ok3, fun v F4 H4 a z => ⟨F4, p1.st.f.trans (sF.trans a), z⟩, fun σ4 F4 H4 s' a j' o' => ⟨⟨s', F4, j', sF.trans a, o'⟩, ⟨s', F4, j', sF.trans a, o'⟩⟩, fun σ4 F4 H4 a z => ⟨F4, p1.st.f.trans (sF.trans a), hk σ4 F4 H4 z⟩⟩
  · have e : i = (xs d).length := by omega
    subst e
    obtain ⟨j, c, w⟩ := hd d s hc0 hj
    exact .inl ⟨y2 (Nat.le_refl _), F', p1.st.f.trans sm, j, c, ok'.weak w⟩
end
end DL

/-! DLSort: a lambda of one parameter as a key; sorted(.., key=lambda x: x[1]) -/
namespace DL
open PySem PySem.Spec PyProof.Rows L2 LamX
/-- a lambda's data -/
structure LF where
  qual : Str
  params : Arguments
  body : Expr
  scope : Scope
  cl : List (Str × Addr)
  c : Addr
def LamO (f : Addr) (L : LF) : HO := .ext fun h => ∃ pm ctv, h.get? f = some (PySem.W.kla_obj "<lambda>" L.qual L.params L.body L.scope L.cl pm L.c ctv)
section
variable {X : Cx} {pins : List (Addr × Obj)} {σ : L2.St} {H : Hp} {s : Shared}
theorem lamO_at {P : Program} {w : World} {h : Heap} {f : Addr} {L : LF} (hok : HOk P w H h) (e : H f = some (LamO f L)) : ∃ pm ctv, h.get? f = some (PySem.W.kla_obj "<lambda>" L.qual L.params L.body L.scope L.cl pm L.c ctv) := by
  obtain ⟨z, _, _⟩ := hok f _ e
  exact z
theorem inv_lam {L : LF} {o : Obj} {t' : Nat} {pm ctv : Value} (I : Inv X pins σ H s) (ho : o = PySem.W.kla_obj "<lambda>" L.qual L.params L.body L.scope L.cl pm L.c ctv) :
    Inv X pins σ (upd H s.heap.objs.size (LamO s.heap.objs.size L)) { s with heap := s.heap.push o, toks := t' } := by
  subst ho
  refine I.laid (a := s.heap.objs.size) (fun b u e => Heap.get?_push_of_some _ e) (Nat.le_refl _) ?_
  have e : (s.heap.push (PySem.W.kla_obj "<lambda>" L.qual L.params L.body L.scope L.cl pm L.c ctv)).get? s.heap.objs.size = some (PySem.W.kla_obj "<lambda>" L.qual L.params L.body L.scope L.cl pm L.c ctv) := Heap.get?_push_size _ rfl
  exact ⟨⟨pm, ctv, e⟩, ⟨_, e⟩, fun h1 h2 ⟨p, t, z⟩ st => ⟨p, t, st _ z⟩⟩
/-- the heap behind the making of a lambda -/
structure LamMade (P : Addr) (q : Str) (H : Hp) (ps : Array Value) (f c' : Addr) (L : LF) (ps' : Array Value) (H1 : Hp) : Prop where
  nf : H f = none
  fn : H1 f = some (LamO f L)
  co : H1 c' = some (CodeO c' q)
  tb : H1 P = some (.tbl ps')
  ok : TriplesOk ps'.toList
  am : ∀ pos cv, codeAmong pos ps'.toList = some cv → codeAmong pos ps.toList = some cv ∨ cv = .ref c'
  old : ∀ b, b ≠ P → b ≠ f → b ≠ c' → H1 b = H b
  hit : (H c' = none ∧ c' ≠ f) ∨ (H c' = some (CodeO c' q) ∧ ∃ pos, codeAmong pos ps.toList = some (.ref c'))
theorem lam_makeP {c P : Addr} {ps : Array Value} {params : Arguments} {body : Expr} {scope : Scope} {pos : Pos} {E : Value → Shared → Prop} {Q : Value → Shared → Prop} (I : Inv X pins σ H s) (TB : TabB X.base X.mg c P) (hcode : X.env.code = .ref c)
    (hP : H P = some (.tbl ps)) (ht : TriplesOk ps.toList) (ha : ∀ pos cv, codeAmong pos ps.toList = some cv → ∃ c, cv = .ref c ∧ H c = some (CodeO c (X.env.qual ++ "<lambda>"))) (hdef : defaultsOf params X.env = ([], [])) (hfree : ∀ y ∈ scope.names, y.2 = .free → ∃ c, X.env.cells.lookup y.1 = some c)
    (h : ∀ (f c' : Addr) (ps' : Array Value) (H1 : Hp) (s' : Shared), Inv X pins σ H1 s' → LamMade P (X.env.qual ++ "<lambda>") H ps f c' ⟨X.env.qual ++ "<lambda>", params, body, scope, cloFrom X.env.cells scope.names [], c'⟩ ps' H1 → Q (.ref f) s') :
    wpAny (model X.prog X.w) X.A (eval (.Lambda params body scope pos) X.env) Q E s := by
  refine PySem.W.kla_eval hdef ?_
  have bP : s.heap.BuiltinsAt X.mg P := TB.bm.keeps I.bk
  have hP' : s.heap.get? P = some { cls := .none, data := .fields ps } := I.hok P _ hP
  cases hc : codeAmong pos ps.toList with
  | none =>
    refine PySem.W.kla_makeFunction (mg := X.mg) (c := c) (P := P) (ps := ps) (closure_ok hfree) I.ok.glob (I.mod.glob.keeps I.bk) hcode (TB.code.keeps I.bk) hP' ht hc TB.gP bP fun c' ctv h' tk hx hge hlt hrec htb => ?_
    obtain ⟨c2, oc, vs, t, e2, hoc, hd, hv⟩ := hrec
    cases e2
    have hsz : s.heap.objs.size ≤ h'.objs.size := Nat.le_trans hge (Nat.le_of_lt hlt)
    have nC : H c' = none := I.hok.fresh hge
    have nF : H h'.objs.size = none := I.hok.fresh hsz
    have I1 := inv_table (t' := tk) (more := #[rawInt pos.line, rawInt pos.col, .ref c']) (h' := h') I hP (fun b o hb e => hx b o hb e) htb hge ⟨oc, vs, t, hoc, hd, hv⟩
    have I2 := inv_lam (L := ⟨X.env.qual ++ "<lambda>", params, body, scope, cloFrom X.env.cells scope.names [], c'⟩) (t' := tk) (pm := (X.mg "__name__").getD .none) (ctv := ctv) I1 rfl
    have cf : c' ≠ h'.objs.size := Nat.ne_of_lt hlt
    have cP : P ≠ c' := ne_of_none hP nC
    have fP : P ≠ h'.objs.size := ne_of_none hP nF
    have eL : (ps ++ #[rawInt pos.line, rawInt pos.col, .ref c']).toList = ps.toList ++ [rawInt pos.line, rawInt pos.col, .ref c'] := by simp
    refine h h'.objs.size c' (ps ++ #[rawInt pos.line, rawInt pos.col, .ref c']) _ _ I2 ⟨nF, upd_same, ?_, ?_, by rw [eL]; exact PySem.TriplesOk_snoc _ _ _ _ ht, fun p' cv hcv => ?_, fun b h1 h2 h3 => ?_, .inl ⟨nC, cf⟩⟩
    · rw [upd_ne cf, upd_same]
    · rw [upd_ne fP, upd_ne cP, upd_same]
    · rw [eL] at hcv
      exact among_app _ ht hcv
    · rw [upd_ne h2, upd_ne h3, upd_ne h1]
  | some cv =>
    obtain ⟨c', e, hco⟩ := ha pos cv hc
    subst e
    refine PySem.W.kla_makeFunctionHit (mg := X.mg) (c := c) (P := P) (ps := ps) (closure_ok hfree) I.ok.glob (I.mod.glob.keeps I.bk) hcode (TB.code.keeps I.bk) hP' ht hc bP fun ctv h' tk hx hsz => ?_
    have nF : H h'.objs.size = none := I.hok.fresh hsz
    have I0 : Inv X pins σ H { s with heap := h', toks := tk } := I.kept fun b o e => hx b o e
    have I2 := inv_lam (L := ⟨X.env.qual ++ "<lambda>", params, body, scope, cloFrom X.env.cells scope.names [], c'⟩) (t' := tk) (pm := (X.mg "__name__").getD .none) (ctv := ctv) I0 rfl
    have cf : c' ≠ h'.objs.size := ne_of_none hco nF
    have fP : P ≠ h'.objs.size := ne_of_none hP nF
    refine h h'.objs.size c' ps _ _ I2 ⟨nF, upd_same, ?_, ?_, ht, fun p' cv hcv => .inl hcv, fun b h1 h2 h3 => ?_, .inr ⟨hco, pos, hc⟩⟩
    · rw [upd_ne cf]; exact hco
    · rw [upd_ne fP]; exact hP
    · rw [upd_ne h2]
def tLamP (P : Addr) (q : Str) (mk : Addr → LF) : TE := fun σ H Q => ∃ ps, H P = some (.tbl ps) ∧ TriplesOk ps.toList ∧ (∀ pos cv, codeAmong pos ps.toList = some cv → ∃ c, cv = .ref c ∧ H c = some (CodeO c q)) ∧
  ∀ f c' ps' H1, LamMade P q H ps f c' (mk c') ps' H1 → Q (.ref f) H1
theorem pe_lamP {c P : Addr} {params : Arguments} {body : Expr} {scope : Scope} {pos : Pos} (TB : TabB X.base X.mg c P) (hcode : X.env.code = .ref c) (hdef : defaultsOf params X.env = ([], [])) (hfree : ∀ y ∈ scope.names, y.2 ≠ .free) :
    PE X (.Lambda params body scope pos) (tLamP P (X.env.qual ++ "<lambda>") fun c' => ⟨X.env.qual ++ "<lambda>", params, body, scope, cloFrom X.env.cells scope.names [], c'⟩) := by
  refine ⟨fun pins s σ H Q I h => ?_⟩
  obtain ⟨ps, h1, h2, h3, q⟩ := h
  exact lam_makeP I TB hcode h1 h2 h3 hdef (fun y hy e => absurd e (hfree y hy)) fun f c' ps' H1 s' I1 m => ⟨.ref f, H1, I1, rfl, q f c' ps' H1 m⟩
end
/-! ### the call of such a key -/
section
variable {prog : Program} {w : World} {A : Around} {s : Shared}
/-- lambda x: x[1] called with a tuple -/
theorem lam_snd {f p : Addr} {L : LF} {pm ctv : Value} {n : Str} {np : Pos} {its : Array Value} {k : Int} {t : Tok} {oc : Obj} {vs : Array Value} {tk : Tok} {E : Value → Shared → Prop}
    (hf : s.heap.get? f = some (PySem.W.kla_obj "<lambda>" L.qual L.params L.body L.scope L.cl pm L.c ctv)) (hc : s.heap.get? L.c = some oc) (hcd : oc.data = .fields vs) (hcq : vs[1]? = some (.str L.qual tk))
    {j : Nat} {ip sp : Pos} (hbody : L.body = .Subscript (.Name n np) (.Constant (.int 1) j ip) sp) (hbind : bindArgs (PySem.W.kla_fn "<lambda>" L.qual L.params L.body L.scope L.cl pm (.ref L.c) ctv) ⟨[.ref p], []⟩ = pure [(n, .ref p)])
    (hco : L.scope.isCoroutine = false) (hgen : L.scope.isGenerator = false) (hk : L.scope.kind = .function) (hcell : ∀ y ∈ L.scope.names, y.2 ≠ .cell) (hloc : L.scope.names.lookup n = some .local) (hdb : (n == ("__debug__" : Str)) = false)
    (hroom : A.depth < recursionLimit) (hlim : s.heap.NoLimit) (ht : IsTup s.heap p its) (hsz : its.size = 2) (hx : its[1]? = some (.int k t)) :
    wpAny (model prog w) A (call (.ref f) [.ref p]) (PySem.W.KeyPure (.int k) s) E s := by
  refine wpAny_call ?_
  refine PySem.W.kla_callFunE hroom hf rfl hco hgen rfl ⟨L.c, oc, vs, tk, rfl, hc, hcd, hcq⟩ ?_
  rw [hbind]
  refine wpAny_pure (wpAny_newFunctionEnv hcell (fun y hy => ?_) (fun h₁ hns hsb => ⟨hlim.fresh _ hsb, ?_⟩) hk)
  · rw [List.mem_singleton.mp hy]
    exact hloc
  have kp : ∀ b o, s.heap.get? b = some o → h₁.get? b = some o := fun b o e => hsb.extBut b o (Nat.ne_of_lt (Heap.lt_size e)) (Heap.get?_push_of_some _ e)
  refine PySem.W.kla_codeExpr ?_
  show wpAny _ _ (eval L.body _) _ _ _
  rw [hbody]
  refine PyProof.Rows.Subscript_ (wpAny_Name (wpAny_loadName_local hk hloc hns (v := .ref p) (by simp) ?_) hdb)
  refine wpAny_Constant_int ?_
  have ht' : IsTup h₁ p its := ht.keeps kp
  refine PyProof.Rows.subscriptTail_builtinR (x := .int k t) ht'.typeIs slot_tuple_getitem.lookup (PyProof.Rows.getItem_tuple (j := 1) (Q := fun r s' => r = Value.int k t ∧ _) ht' (by decide) (by decide) (by rw [hsz]; rfl) hx ⟨rfl, ?_⟩) (by rfl)
  exact ⟨h₁, _, rfl, kp, .int k t⟩
end
/-! ### sorted(xs, key=lambda x: x[1]), xs pairs -/
/-- a lambda x: x[1] -/
structure SndL (params : Arguments) (body : Expr) (scope : Scope) : Prop where
  ex : ∃ n np j ip sp, body = .Subscript (.Name n np) (.Constant (.int 1) j ip) sp ∧ (∀ qual cl pm cdv ctv v, bindArgs (PySem.W.kla_fn "<lambda>" qual params body scope cl pm cdv ctv) ⟨[v], []⟩ = pure [(n, v)]) ∧ scope.names.lookup n = some .local ∧ (n == ("__debug__" : Str)) = false
  co : scope.isCoroutine = false
  gen : scope.isGenerator = false
  kind : scope.kind = .function
  nocell : ∀ y ∈ scope.names, y.2 ≠ .cell
  nofree : ∀ y ∈ scope.names, y.2 ≠ .free
section
variable {X : Cx}
def sortSnd {α : Type} (xs : List (α × Int)) : List (α × Int) := xs.mergeSort fun p q => decide (p.2 ≤ q.2)
def rSortSnd {α : Type} [Rp α] (K : PySem.W.Frag) : List V → List V → Hp → VK → Prop := fun vs zs H Q => ∃ (a f : Addr) (us : List V) (L : LF) (F0 : Hp) (lk : List Addr) (xs : List (α × Int)), vs = [.ref a] ∧ zs = [.ref f] ∧ SqL K H a us ∧ H f = some (LamO f L) ∧ H L.c = some (CodeO L.c L.qual) ∧ SndL L.params L.body L.scope ∧
  Fh lk F0 H ∧ All2 K F0 us xs ∧ ∀ us' p, All2 K F0 us' (sortSnd xs) → H p = none → Q (.ref p) (upd H p (.lst us'))
theorem each_of {α : Type} {R : Value → α → Prop} {S : V → α → Prop} : ∀ {us : List V} {its : List Value} {xs : List α}, Vals us its → Paired S us xs → (∀ u v x, RelV u v → S u x → R v x) → PySem.W.EachIs R its xs
  | _, _, _, .nil, .nil, _ => .nil
  | _, _, _, .cons a t, .cons b t2, h => .cons (h _ _ _ a b) (each_of t t2 h)
theorem each_to {α : Type} {S : V → α → Prop} : ∀ {its : List Value} {xs : List α}, PySem.W.EachIs (fun v x => ∃ u, RelV u v ∧ S u x) its xs → ∃ us, Vals us its ∧ Paired S us xs
  | _, _, .nil => ⟨[], .nil, .nil⟩
  | _, _, .cons ⟨u, a, b⟩ t => by
    obtain ⟨us, h1, h2⟩ := each_to t
    exact ⟨u :: us, .cons a h1, .cons b h2⟩
theorem cr_sortSnd {α : Type} [Rp α] {k : Nat} (hr : Room k X.A) : CallRK X (.builtin "sorted") [Str.ofString "key"] (rSortSnd (α := α) X.K) := by
  intro pins s σ H vs zs us0 ws Q I r rz h
  obtain ⟨a, f, us, L, F0, lk, xs, rfl, rfl, hs, hf, hc, hL, hF, ha, q⟩ := h
  obtain rfl := Vals.ref1 r
  obtain ⟨w1, rfl, e1⟩ := vals1 rz
  obtain rfl : w1 = Value.ref f := e1
  obtain ⟨its, rv, hl, hz⟩ := I.list hs
  obtain ⟨pm, ctv, of⟩ := lamO_at I.hok hf
  obtain ⟨⟨oc, cvs, ctk, c1, c2, c3⟩, _, _⟩ := I.hok L.c _ hc
  obtain ⟨n, np, j, ip, sp, b1, b2, b3, b4⟩ := hL.ex
  have hlen : xs.length = us.length := ha.len.symm
  have e : PySem.W.EachIs (fun v (x : α × Int) => ∃ u, RelV u v ∧ Rp.rp X.K F0 u x) its xs := each_of rv ha fun u v x h1 h2 => ⟨u, h1, h2⟩
  show wpAny (model X.prog X.w) X.A (call (.builtin "sorted") [.ref a] [(Str.ofString "key", .ref f)]) _ _ _
  refine PySem.W.sorted_key_data (b := false) (fun x : α × Int => .int x.2) hl.isList e (PySem.W.AllAlike.of fun _ _ => by simp [PySem.W.alike]) (PySem.W.Sortable.others fun _ => ⟨by simp, by simp⟩) (by rw [hlen]; exact hz) (fun x _ => ?_) (ksk_s1 _ _) (fun _ => ksk_l1 _ _) (fun _ => ksk_t1 _ _)
    (fun v x hR hx h tk kp => ?_) fun out c h' tk kp hn hD ho eo => ?_
  · have := hr.un
    have hd : (PyData.int x.2).depth = 0 := by simp [PyData.depth]
    omega
  · obtain ⟨u, ru, a0, u1, u2, e0, e2, e3, e4⟩ := hR
    subst e0
    obtain rfl : v = Value.ref a0 := ru
    have e4 : u2 = V.int x.2 := e4
    subst e4
    have e5 : SqT X.K H a0 [u1, .int x.2] := by
      rcases e2 with (z | ⟨o, z⟩) | z
      · exact Evl.st_of (hF.at z rfl)
      · exact .inl (.inr ⟨o, hF.at z rfl⟩)
      · exact .inr z
    obtain ⟨its2, r2, t2, _⟩ := I.tuple e5
    cases r2 with
    | cons q1 t =>
      cases t with
      | cons q2 t =>
        cases t
        obtain ⟨tt, rfl⟩ := q2
        exact lam_snd (s := { s with heap := h, toks := tk }) (L := L) (kp _ _ of) (kp _ _ c1) c2 c3 b1 (b2 _ _ _ _ _ _) hL.co hL.gen hL.kind hL.nocell b3 b4 (by show X.A.depth < recursionLimit; have := hr.dp; omega) (I.nolimit.keeps kp) (t2.keeps kp) rfl rfl
  · obtain ⟨us', v1, a1⟩ := each_to eo
    rw [PySem.W.dataLe_int] at a1
    have hl2 : us'.length ≤ sizeLine := by
      have q1 := Paired.length a1
      rw [List.length_mergeSort] at q1
      omega
    exact ⟨.ref _, upd H (s.heap.objs.size + 1) (.lst us'), I.laid kp (Nat.le_succ _) ⟨hl2, out, c, v1, hD⟩, rfl, q us' _ a1 (I.hok.fresh (Nat.le_succ _))⟩
end
/-! ### the table's slot -/
def tabC (q : Str) : Ct := ⟨fun F o => ∃ ps, o = .tbl ps ∧ TriplesOk ps.toList ∧ ∀ pos cv, codeAmong pos ps.toList = some cv → ∃ c, cv = .ref c ∧ F c = some (CodeO c q), fun e ⟨ps, h1, h2, h3⟩ => ⟨ps, h1, h2, fun pos cv h => by
  obtain ⟨c, e1, e2⟩ := h3 pos cv h
  exact ⟨c, e1, e _ _ e2⟩⟩⟩
theorem isD_code {c : Addr} {q : Str} : isD (CodeO c q) = false := by
  unfold CodeO
  rfl
section
variable {X : Cx} {B : Bs} {r : List Sl} {σ : L2.St} {F H H1 : Hp}
theorem post_lam {i j : Nat} {q : Str} {P f c' : Addr} {ps ps' : Array Value} {L : LF} (k : Ok B r σ F H) (hi : r[i]? = some (.io j (tabC q))) (hP : B.ps[j]? = some P) (hps : H P = some (.tbl ps)) (hco : ∀ pos cv, codeAmong pos ps.toList = some cv → ∃ c, cv = .ref c ∧ F c = some (CodeO c q)) (m : LamMade P q H ps f c' L ps' H1) :
    Post B r σ F H r (upd F c' (CodeO c' q)) H1 := by
  have hs := k.sl i _ hi
  obtain ⟨p0, o0, s1, s2, s3, s4, s5⟩ := hs
  rw [hP] at s5; cases s5
  have hm : P ∈ B.ps := List.mem_of_getElem? hP
  have ownP : Owned r σ P := ⟨i, _, hi, rfl, s1⟩
  have hF : (H c' = none ∧ F c' = none) ∨ (H c' = some (CodeO c' q) ∧ F c' = some (CodeO c' q)) := by
    rcases m.hit with ⟨z, _⟩ | ⟨z, pos, hp⟩
    · exact .inl ⟨z, k.fh.none z⟩
    · obtain ⟨c, e1, e2⟩ := hco pos _ hp
      cases e1
      exact .inr ⟨z, e2⟩
  have fF : F f = none := k.fh.none m.nf
  have sF : Same F (upd F c' (CodeO c' q)) := fun b o e => by
    by_cases h : b = c'
    · subst h
      rcases hF with ⟨_, z⟩ | ⟨_, z⟩
      · rw [z] at e; cases e
      · rw [z] at e; cases e; exact upd_same
    · rw [upd_ne h]; exact e
  have hk : ∀ b o, b ≠ P → H b = some o → H1 b = some o := fun b o h e => by
    by_cases h2 : b = c'
    · subst h2
      rcases hF with ⟨z, _⟩ | ⟨z, _⟩
      · rw [z] at e; cases e
      · rw [z] at e; cases e; exact m.co
    · rw [m.old b h (ne_of_none e m.nf) h2]; exact e
  have dm : ∀ b, H b ≠ none → H1 b ≠ none := fun b e => by
    by_cases h : b = P
    · rw [h, m.tb]; intro z; cases z
    · cases z : H b with
      | none => exact absurd z e
      | some o => rw [hk b o h z]; intro y; cases y
  have nF : ∀ b o, upd F c' (CodeO c' q) b = some o → F b = some o ∨ H b = none := fun b o e => by
    by_cases h : b = c'
    · subst h
      rw [upd_same] at e; cases e
      rcases hF with ⟨z, _⟩ | ⟨_, z⟩
      · exact .inr z
      · exact .inl z
    · rw [upd_ne h] at e; exact .inl e
  have nP : ∀ b, F b = none → (∃ o, H b = some o) → upd F c' (CodeO c' q) b = none := fun b e ⟨o, eo⟩ => by
    have h : b ≠ c' := fun z => by
      subst z
      rcases hF with ⟨z, _⟩ | ⟨_, z⟩
      · rw [z] at eo; cases eo
      · rw [z] at e; cases e
    rw [upd_ne h]; exact e
  refine ⟨⟨fun a o e => ?_, fun b o e => sF b o (k.f0 b o e), fun b o e => ?_, fun b o e n => ?_, fun b e => dm b (k.dm b e), k.pk, k.len, fun i' s e => ?_, k.dj⟩, ⟨sF, fun b o e => (nF b o e).imp_right .inl, fun b o e n => hk b o (fun z => n (z ▸ ownP)) e, dm⟩, fun _ z => z⟩
  · by_cases h : a = c'
    · subst h
      rw [upd_same] at e; cases e
      exact .inl m.co
    · rw [upd_ne h] at e
      have aP : a ≠ P := fun z => by subst z; rw [s2] at e; cases e
      rcases k.fh a o e with z | ⟨z1, z2, od, z3⟩
      · exact .inl (hk a o aP z)
      · exact .inr ⟨z1, z2, od, hk a _ aP z3⟩
  · rcases nF b o e with z | z
    · exact k.nw b o z
    · refine .inr ?_
      cases y : B.H0 b with
      | none => rfl
      | some u => exact absurd z (k.dm b (by rw [y]; intro w; cases w))
  · have bP : b ≠ P := fun z => n (z ▸ hm)
    rcases k.kp b o e n with z | ⟨z1, z2, od, z3⟩
    · exact .inl (hk b o bP z)
    · exact .inr ⟨z1, z2, od, hk b _ bP z3⟩
  · have hs := k.sl i' s e
    cases s with
    | un => trivial
    | dat P => obtain ⟨v, h1, h2⟩ := hs; exact ⟨v, h1, P.mono sF h2⟩
    | own C =>
      obtain ⟨p, o, h1, h2, h3, h4, h5⟩ := hs
      have pP : p ≠ P := fun z => by subst z; exact k.pk _ hm h5
      exact ⟨p, o, h1, nP p h2 ⟨o, h3⟩, hk p o pP h3, C.mono sF h4, h5⟩
    | io j' C =>
      obtain ⟨p, o, h1, h2, h3, h4, h5⟩ := hs
      by_cases pP : p = P
      · subst pP
        by_cases hii : i' = i
        · subst hii
          rw [hi] at e; cases e
          refine ⟨p, .tbl ps', h1, nP p h2 ⟨o, h3⟩, m.tb, ⟨ps', rfl, m.ok, fun pos cv hc => ?_⟩, h5⟩
          rcases m.am pos cv hc with z | z
          · obtain ⟨c, e1, e2⟩ := hco pos cv z
            exact ⟨c, e1, sF _ _ e2⟩
          · exact ⟨c', z, upd_same⟩
        · exact (k.dj i' i _ _ p hii e hi rfl rfl h1 s1).elim
      · exact ⟨p, o, h1, nP p h2 ⟨o, h3⟩, hk p o pP h3, C.mono sF h4, h5⟩
theorem ex_sortSnd {α : Type} [Rp α] {c0 c1 : List (α × Int) → Prop} {kl : Nat} {c P : Addr} {i j : Nat} {r1 : List Sl} {e : Expr} {params : Arguments} {body : Expr} {scope : Scope} {p pos lpos kpos : Pos} (TB : TabB X.base X.mg c P) (hcode : X.env.code = .ref c) (hr : Room kl X.A) (hm : X.mg "sorted" = none)
    (h : Ex X B e r (.dat (some_ X.K c0)) r1) (hc : ∀ xs, c0 xs → c1 (sortSnd xs)) (hi : r1[i]? = some (.io j (tabC (X.env.qual ++ "<lambda>")))) (hP : B.ps[j]? = some P) (hL : SndL params body scope) (hdef : defaultsOf params X.env = ([], []) := by rfl)
    (hg : Gl X "sorted" := by rfl) (hst : starEach [e] X.env = (false, eval e X.env) :: starEach [] X.env := by rfl)
    (he : backTo pos (starEach [e] X.env) = (false, eval e X.env) :: backTo pos (starEach [] X.env) := by rfl) (hpl : (backTo pos (starEach [e] X.env)).any (·.1) = false := by rfl)
    (hall : (backToKw pos (keywordEach [⟨some "key", .Lambda params body scope lpos, kpos⟩] X.env)).all (·.1.isSome) = true := by rfl) (hnone : (backToKw pos (keywordEach [⟨some "key", .Lambda params body scope lpos, kpos⟩] X.env)).any (·.1.isNone) = false := by rfl) (hks : (backToKw pos (keywordEach [⟨some "key", .Lambda params body scope lpos, kpos⟩] X.env)).filterMap (·.1) = [Str.ofString "key"] := by rfl) :
    Ex X B (.Call (.Name "sorted" p) [e] [⟨some "key", .Lambda params body scope lpos, kpos⟩] pos) r (.dat (some_ X.K c1)) r1 := by
  refine ex_smf ?_
  refine PE.imp (pe_callBK (cr_sortSnd (α := α) hr) hg hm (by decide +kernel) (pa_cons h pa_nil hst) (pk_cons (pe_lamP TB hcode hdef hL.nofree) pk_nil) (he := he) (hpl := hpl) (hall := hall) (hnone := hnone) (hks := hks)) fun σ H Q ⟨F, k, q⟩ => ⟨F, k, fun v F1 H1 p1 w1 => ?_⟩
  obtain ⟨p0, o0, s1, s2, s3, ⟨ps, e0, t1, t2⟩, s5⟩ := p1.ok.sl i _ hi
  rw [hP] at s5; cases s5
  subst e0
  refine ⟨ps, s3, t1, fun pos cv hcv => ?_, fun f c' ps' H2 m => ?_⟩
  · obtain ⟨c0, e1, e2⟩ := t2 pos cv hcv
    exact ⟨c0, e1, p1.ok.fh.at e2 isD_code⟩
  have p2 := post_lam p1.ok hi hP s3 t2 m
  obtain ⟨xs, cx, a, us, rfl, w2, w3⟩ := w1
  refine ⟨a, f, us, _, _, B.lk, xs, rfl, rfl, .of (p2.ok.fh.at (p2.st.f _ _ w2) rfl), m.fn, m.co, hL, p2.ok.fh, w3.mono p2.st.f, fun us' d a1 hd => ?_⟩
  exact q (.ref d) _ _ ((p1.trans p2).trans (Post.alloc p2.ok hd)) (RkOk.back (RkOk.alloc p2.ok hd ⟨_, hc xs cx, us', rfl, a1⟩) (fun b hb => p2.st.dm b (p1.st.dm b hb)))
end
/-! ### the law's own entry, its table known -/
section
variable {X : Cx} {pins : List (Addr × Obj)} {σ : L2.St} {H : Hp} {s : Shared}
theorem inv_hid {i : Nat} {y : Str} (I : Inv X pins σ H s) (hN : X.N[i]? = some y) (hv : ¬ Vis X.env.scope y) (v : Option V) : Inv X pins (σ.set i v) H s :=
  ⟨I.ok, I.os, I.bare, I.base, let ⟨m, hn, hl⟩ := I.loc; ⟨m, hn, fun j x u e1 e2 e3 => by
    by_cases h : i = j
    · subst h
      rw [hN] at e1; cases e1
      exact absurd e3 hv
    · rw [List.getElem?_set_ne h] at e2
      exact hl j x u e1 e2 e3⟩, I.cell, I.free, I.freeC, I.pin, I.hok, by rw [List.length_set]; exact I.len⟩
end
/-- what is asked of a law with a table at P -/
def lawSp (K : PySem.W.Frag) (P : Addr) (dom : Scr → Prop) : Sp := fun vs H Q _ => ∃ (x : Scr) (a : Addr), dom x ∧ vs = [.ref a] ∧ H P = some (.tbl #[]) ∧ SqL K H a (x.l.map V.int) ∧ ∀ H', Q (.bl true) H'
section
variable {Pg : Program} {w : World} {K : PySem.W.Frag} {mg : Str → Option Value} {base : Heap} {x qual pn hn q : Str} {params : Arguments} {body : List Stmt} {scope : Scope} {f c P : Addr} {fd : FuncData}
theorem law_ok {N : List Str} {k hi : Nat} {dom : Scr → Prop} (F : FunD K x qual params body scope [] [] f fd) (Sc : FnScope N [pn] scope) (hc : fd.code = .ref c) (hh : N[hi]? = some hn) (hv : ¬ Vis scope hn) (h1 : 1 ≤ hi)
    (hb : ∀ A outer s H E, Room k (A.deeper (PyProof.Rows.envOfC qual scope s.heap.objs.size f (.ref c))) → ∀ x, dom x → ∀ B : Bs, B.ml = [] → B.ps = [P] → Go (bX Pg w K mg base N qual scope f (.ref c) A outer s H E) B body ((Sl.dat (is K x) :: List.replicate (N.length - 1) Sl.un).set hi (.io 0 (tabC q))) (Dr B (.dat (is K true)) [tabC q])) :
    FnOk Pg w K mg base CX0 (k + 1) f fd [pn] (lawSp K P dom) := by
  obtain ⟨oc, od, dV, kV, doc, pm, an, cdv, ct, osl, rfl, lk, hcd, _, _⟩ := F.ex
  have hcc : cdv = .ref c := hc
  subst hcc
  refine fn_of lk hcd Sc (fun vs H Q E ⟨x, a, _, e, _⟩ => by rw [e]; rfl) fun A outer s H vs Q E hr ⟨x, a, hd, e, hP, hS, hQ⟩ => ?_
  subst e
  have hlt : hi < N.length := (List.getElem?_eq_some_iff.mp hh).1
  let F0 : Hp := fun b => if b = P then none else H b
  have F0P : F0 P = none := if_pos rfl
  have F0n : ∀ b, b ≠ P → F0 b = H b := fun b h => if_neg h
  obtain ⟨t, g1, g2⟩ := hb A outer s H E hr x hd ⟨F0, H, [P], [], []⟩ rfl rfl
  have hS0 : SqL K F0 a (x.l.map V.int) := by
    rcases hS with (z | ⟨o, z⟩) | z
    · exact .inl (.inl (by rw [F0n a (fun e => by rw [e, hP] at z; cases z)]; exact z))
    · exact .inl (.inr ⟨o, by rw [F0n a (fun e => by rw [e, hP] at z; cases z)]; exact z⟩)
    · exact .inr z
  have sl : L2.start N [V.ref a] = some (V.ref a) :: List.replicate (N.length - 1) none := rfl
  have ok : Ok ⟨F0, H, [P], [], []⟩ ((Sl.dat (is K x) :: List.replicate (N.length - 1) Sl.un).set hi (.io 0 (tabC q))) ((L2.start N [V.ref a]).set hi (some (.ref P))) F0 H := by
    refine ⟨fun b o e => ?_, fun _ _ e => e, fun b o e => .inl e, fun b o e _ => .inl e, fun b e => e, fun p hp => ?_, ?_, fun i s e => ?_, fun i j s t p hne e1 e2 o1 o2 q1 q2 => ?_⟩
    · by_cases h : b = P
      · subst h; rw [F0P] at e; cases e
      · rw [F0n b h] at e; exact .inl e
    · obtain rfl : p = P := List.mem_singleton.mp hp
      show H p ≠ none
      rw [hP]; intro z; cases z
    · rw [sl]; simp
    · by_cases h : i = hi
      · subst h
        rw [List.getElem?_set_self (by simp; omega)] at e; cases e
        refine ⟨P, .tbl #[], by rw [List.getElem?_set_self (by rw [sl]; simp; omega)], F0P, hP, ⟨#[], rfl, True.intro, fun pos cv hc => ?_⟩, rfl⟩
        have z : codeAmong pos [] = some cv := hc
        simp [codeAmong] at z
      · rw [List.getElem?_set_ne (Ne.symm h)] at e ⊢
        cases i with
        | zero => cases e; exact ⟨.ref a, by rw [sl]; rfl, a, rfl, hS0⟩
        | succ i =>
          have z : (List.replicate (N.length - 1) Sl.un)[i]? = some s := e
          rw [(List.mem_replicate.mp (List.mem_of_getElem? z)).2]
          trivial
    · have key : ∀ (i : Nat) (s : Sl), ((Sl.dat (is K x) :: List.replicate (N.length - 1) Sl.un).set hi (.io 0 (tabC q)))[i]? = some s → s.isOwn = true → i = hi := fun i s e o => by
        by_cases h : i = hi
        · exact h
        · rw [List.getElem?_set_ne (Ne.symm h)] at e
          cases i with
          | zero => cases e; cases o
          | succ i =>
            have z : (List.replicate (N.length - 1) Sl.un)[i]? = some s := e
            rw [(List.mem_replicate.mp (List.mem_of_getElem? z)).2] at o
            cases o
      exact hne ((key i s e1 o1).trans (key j t e2 o2).symm)
  refine ⟨fun D2 σ H' => D2.nx = (fun _ H' => Q .non H') ∧ D2.rt = Q ∧ ∃ F, t ((Dr ⟨F0, H, [P], [], []⟩ (.dat (is K true)) [tabC q]).E F) (σ.set hi (some (.ref P))) H', PSs.nox ⟨fun pins st σ H' D2 I ⟨e1, e2, F, q⟩ => ?_⟩, rfl, rfl, F0, g2 _ F0 H ok⟩
  have I2 := inv_hid I (i := hi) (y := hn) hh hv (some (.ref P))
  refine thn (g1.run pins st _ H' _ I2 q) fun fl s1 q => sp_to q (fun σ H ⟨F', a, z⟩ => ?_) (fun v H ⟨F', a, z⟩ => ?_) (fun σ H ⟨F', a, z⟩ => z.elim) fun σ H ⟨F', a, z⟩ => z.elim
  · exact nomatch (show V.non = V.bl true from z.re)
  · rw [e2, show v = V.bl true from z.re]; exact hQ H
end
end DL

/-! DLMix: more rules for drawn things -/
namespace DL
open PySem L2
section
variable {X : Cx} {B : Bs} {e a b : Expr} {ss rest : List Stmt} {r r1 r2 r3 : List Sl} {ra rb x y : Rk} {D : Dn} {pos p : Pos}
theorem ex_pairN {α β : Type} [Rp α] [Rp β] {ca : α → Prop} {cb : β → Prop} {cz : α × β → Prop} {x1} (ha : Ex X B a r (.dat (some_ X.K ca)) r1) (hb : Ex X B b r1 (.dat (some_ X.K cb)) r2) (hz : ∀ u w, ca u → cb w → cz (u, w)) (hs : starEach [a, b] X.env = (false, eval a X.env) :: starEach [b] X.env := by rfl) (hs2 : starEach [b] X.env = (false, eval b X.env) :: starEach [] X.env := by rfl) :
    Ex X B (.Tuple [a, b] x1 pos) r (.dat (some_ X.K cz)) r2 := by
  have h : Ex X B (.Tuple [a, b] x1 pos) r (.new ⟨fun F o => ∃ v1 v2 u w, o = .tup [v1, v2] ∧ cz (u, w) ∧ Rp.rp X.K F v1 u ∧ Rp.rp X.K F v2 w, fun e ⟨v1, v2, u, w, e1, e0, e2, e3⟩ => ⟨v1, v2, u, w, e1, e0, Rp.mono e e2, Rp.mono e e3⟩⟩) r2 := by
    refine PE.imp (pe_tup (ax_cons ha (ax_cons hb ax_nil hs2) hs)) fun σ H Q ⟨F, k, q⟩ => ⟨F, k, fun vs F' H' p w => ?_⟩
    cases w with
    | cons w1 t => cases t with
      | cons w2 t => cases t with
        | nil =>
          obtain ⟨u1, c1, w1⟩ := w1
          obtain ⟨u2, c2, w2⟩ := w2
          exact ⟨by show 2 ≤ sizeLine; decide, fun a ha => q (.ref a) F' _ (p.trans (Post.alloc p.ok ha)) (RkOk.back (RkOk.alloc p.ok ha ⟨_, _, _, _, rfl, hz _ _ c1 c2, w1, w2⟩) p.st.dm)⟩
  exact ex_frz h fun F p o ⟨v1, v2, u, w, e1, e0, e2, e3⟩ e => ⟨(u, w), e0, p, v1, v2, rfl, Evl.st_of (by rw [e, e1]), e2, e3⟩
theorem ex_joinN {s : Str} {cb : List Str → Prop} {cz : Str → Prop} {apos : Pos} (ha : Ex X B a r (.dat (is X.K s)) r1) (hb : Ex X B b r1 (.dat (some_ X.K cb)) r2) (hl : ∀ ys, cb ys → (ys.map (·.length)).sum + ys.length * s.length ≤ 16777216) (hz : ∀ ys, cb ys → cz (Txt.join s ys)) (hs : starEach [b] X.env = [(false, eval b X.env)] := by rfl) (hbase : attributeBase a "join" X.env (eval a X.env) = eval a X.env := by rfl) (hline : (apos.endLine == pos.line) = true := by rfl) :
    Ex X B (.Call (.Attribute a "join" apos) [b] [] pos) r (.dat (some_ X.K cz)) r2 :=
  PE.imp (pe_m1 F.slot_str_join F.type_str_join mt_join ha hb hs hbase hline) fun σ H Q ⟨F, k, q⟩ => ⟨F, k, fun v F1 H1 p1 w1 => by
    cases w1
    refine ⟨⟨s, rfl⟩, F1, p1.ok, fun w F2 H2 p2 w2 => ?_⟩
    obtain ⟨ys, cy, c, vs, e1, e2, e3⟩ := w2
    subst e1
    exact ⟨s, c, ys, rfl, rfl, .inl (.of (by rw [p2.ok.fh.at e2 rfl, all2_str e3])), hl ys cy, q _ F2 H2 (p1.trans p2) ⟨_, hz ys cy, rfl⟩⟩⟩
/-- xs.extend(e) -/
theorem go_ext {α : Type} [Rp α] {xs0 xs ys : List α} {i : Nat} {sl0 sl : Sl} {o : Expr} {apos : Pos} (ho : PE X o (tVar i)) (h : Ex X B e r (.dat (is X.K ys)) r1) (hr0 : LsS X.K r i xs0 sl0) (hr : LsS X.K r1 i xs sl) (hl : xs.length + ys.length ≤ sizeLine)
    (k : Go X B rest (r1.set i (sl.put (lstC X.K (xs ++ ys)))) D) (hs : swapsWith (.Call (.Attribute o "extend" apos) [e] [] pos) none pos.line X.env = pure false := by rfl)
    (hbase : attributeBase o "extend" X.env (eval o X.env) = eval o X.env := by rfl)
    (hfew : ((backTo pos (starEach [e] X.env)).all (fun x => !x.1) && (backToKw pos (keywordEach [] X.env)).all (fun x => x.1.isSome)
      && decide ([e].length + ([] : List Keyword).length + (if ([] : List Keyword).isEmpty then 0 else 1) < 30)) = true := by rfl)
    (hline : (apos.endLine == pos.line) = true := by rfl) (hst : starEach [e] X.env = (false, eval e X.env) :: starEach [] X.env := by rfl) (hplain : (backTo pos (starEach [] X.env)).any (·.1) = false := by rfl) :
    Go X B (.Expr (.Call (.Attribute o "extend" apos) [e] [] pos) pos :: rest) r D := by
  refine go_seq1 ⟨_, ps_expr (pe_bm PySem.F.plainAttrs_list PySem.F.slot_list_extend PySem.F.type_list_extend mt_extend ho (pa_cons h pa_nil hst) hbase hfew hline hst hplain) hs, fun σ F H ok => ?_⟩ k
  obtain ⟨p, vs0, hσ, hp, _, _⟩ := hr0.at ok
  refine ⟨_, hσ, Or.inl ⟨rfl, vs0, .of hp⟩, F, ok, fun v F1 H1 p1 w1 => ?_⟩
  obtain ⟨p', vs, hσ', hp', a2, hn⟩ := hr.at p1.ok
  rw [hσ] at hσ'; cases hσ'
  obtain ⟨b, zs, e1, e2, e3⟩ := w1
  subst e1
  refine ⟨p, b, vs, zs, rfl, rfl, hp', p1.ok.fh.at e2 rfl, by rw [a2.len, Paired.length e3]; exact hl, F1, p1.st.f, ?_⟩
  exact (p1.ok.write (C' := lstC X.K (xs ++ ys)) hr.g hr.own hσ ⟨_, rfl, Paired.append a2 e3⟩).ok
theorem srcD_list {tg iter : Expr} {α : Type} [Rp α] {c : List α → Prop} (h : Ex X B iter r (.dat (some_ X.K c)) r1) : SrcD X B tg iter r c (fun xs => xs) (is X.K) r1 :=
  ⟨_, pi_list h, fun σ F H R k q => ⟨F, k, fun v F1 H1 p w => by
    obtain ⟨xs, cx, a, vs, e1, e2, e3⟩ := w
    exact ⟨a, e1, ⟨vs, .of (p.ok.fh.at e2 rfl)⟩, q xs _ F1 H1 cx p (yl_list e2 e3)⟩⟩⟩
/-- a list as long as one without doubles whose items it holds -/
theorem nodup_le {α : Type} [DecidableEq α] : ∀ {l m : List α}, l.Nodup → (∀ x, x ∈ l → x ∈ m) → l.length ≤ m.length
  | [], m, _, _ => Nat.zero_le _
  | a :: l, m, hd, h => by
    obtain ⟨h1, h2⟩ := List.nodup_cons.mp hd
    have hm : a ∈ m := h a (by simp)
    have hl := nodup_le (m := m.erase a) h2 fun x hx => (List.mem_erase_of_ne (show x ≠ a from fun e => h1 (by rw [← e]; exact hx))).mpr (h x (by simp [hx]))
    have := List.length_erase_of_mem hm
    have : 0 < m.length := List.length_pos_of_mem hm
    simp only [List.length_cons]
    omega
theorem Src.d {tg iter : Expr} {α : Type} {xs : List α} {P : α → Pd} (h : Src X B tg iter r xs P r1) : SrcD X B tg iter r (fun _ : Unit => True) (fun _ => xs) P r1 := by
  obtain ⟨wi, h1, h2⟩ := h
  exact ⟨wi, h1, fun σ F H R k q => h2 σ F H R k fun J F1 H1 p y => q () J F1 H1 trivial p y⟩
theorem set_out {r : List Sl} {i j : Nat} {s : Sl} (h : j ∉ [i]) : (r.set i s)[j]? = r[j]? := List.getElem?_set_ne fun e => h (by rw [e]; simp)
theorem ex_eqN {α : Type} [Rp α] {u w : List α} (h : Ex X B e r (.new (lstC X.K u)) r1) (hu : u = w) : Ex X B e r (.new (lstC X.K w)) r1 := hu ▸ h
theorem ex_catN {α : Type} [Rp α] {ca cb cz : List α → Prop} (ha : Ex X B a r (.dat (some_ X.K ca)) r1) (hb : Ex X B b r1 (.dat (some_ X.K cb)) r2) (hl : ∀ u w, ca u → cb w → u.length + w.length ≤ sizeLine) (hz : ∀ u w, ca u → cb w → cz (u ++ w)) : Ex X B (.BinOp a .Add b pos) r (.new (someC X.K cz)) r2 :=
  ex_bin (pe_op op_cat) ha hb fun σ Hs F H u v k ⟨xs, cx, hu⟩ ⟨ys, cy, hv⟩ => by
    obtain ⟨p1, v1, e1, e2, e3⟩ := hu
    obtain ⟨p2, v2, g1, g2, g3⟩ := hv
    subst e1; subst g1
    refine fun Q q => ⟨p1, p2, v1, v2, rfl, rfl, k.fh.at e2 rfl, k.fh.at g2 rfl, by rw [Paired.length e3, Paired.length g3]; exact hl xs ys cx cy, fun d hd => ?_⟩
    exact q (.ref d) F _ (Post.alloc k hd) (RkOk.alloc k hd ⟨_, hz xs ys cx cy, _, rfl, Paired.append e3 g3⟩)
theorem smc_frz {K : PySem.W.Frag} {α : Type} [Rp α] {c : List α → Prop} : ∀ F' p o, (someC K c).c F' o → F' p = some o → (some_ K c).p F' (.ref p) := fun F p o ⟨xs, hc, vs, e, a⟩ h => ⟨xs, hc, p, vs, rfl, by rw [h, e], a⟩
end
end DL

namespace M
open PySem L2 DL
def top (i : Nat) : Stmt := PySem.Challenge.pw_markthenpurge_k78_whole_ranges_one_by_on.main.body.getD i (.Pass ⟨0, 0, 0, 0⟩)
abbrev s_is_integer : Stmt := top 7
abbrev sc_is_integer_N : List Str := ["thing"]
theorem sc_is_integer : FnScope sc_is_integer_N ["thing"] (defScope s_is_integer) := ⟨rfl, rfl, rfl, by decide +kernel, rfl, by decide +kernel, by decide +kernel⟩

abbrev s_is_position : Stmt := top 8
abbrev sc_is_position_N : List Str := ["size", "thing"]
theorem sc_is_position : FnScope sc_is_position_N ["size", "thing"] (defScope s_is_position) := ⟨rfl, rfl, rfl, by decide +kernel, rfl, by decide +kernel, by decide +kernel⟩

abbrev s_is_key : Stmt := top 9
abbrev sc_is_key_N : List Str := ["thing", "sign"]
theorem sc_is_key : FnScope sc_is_key_N ["thing"] (defScope s_is_key) := ⟨rfl, rfl, rfl, by decide +kernel, rfl, by decide +kernel, by decide +kernel⟩

abbrev s_is_value : Stmt := top 10
abbrev sc_is_value_N : List Str := ["thing"]
theorem sc_is_value : FnScope sc_is_value_N ["thing"] (defScope s_is_value) := ⟨rfl, rfl, rfl, by decide +kernel, rfl, by decide +kernel, by decide +kernel⟩

abbrev s_is_record : Stmt := top 11
abbrev sc_is_record_N : List Str := ["thing"]
theorem sc_is_record : FnScope sc_is_record_N ["thing"] (defScope s_is_record) := ⟨rfl, rfl, rfl, by decide +kernel, rfl, by decide +kernel, by decide +kernel⟩

abbrev s_is_log : Stmt := top 12
abbrev sc_is_log_N : List Str := ["thing", "record"]
theorem sc_is_log : FnScope sc_is_log_N ["thing"] (defScope s_is_log) := ⟨rfl, rfl, rfl, by decide +kernel, rfl, by decide +kernel, by decide +kernel⟩

abbrev s_check_log : Stmt := top 13
abbrev sc_check_log_N : List Str := ["log"]
theorem sc_check_log : FnScope sc_check_log_N ["log"] (defScope s_check_log) := ⟨rfl, rfl, rfl, by decide +kernel, rfl, by decide +kernel, by decide +kernel⟩

abbrev s_is_range : Stmt := top 14
abbrev sc_is_range_N : List Str := ["size", "thing"]
theorem sc_is_range : FnScope sc_is_range_N ["size", "thing"] (defScope s_is_range) := ⟨rfl, rfl, rfl, by decide +kernel, rfl, by decide +kernel, by decide +kernel⟩

abbrev s_check_ranges : Stmt := top 15
abbrev sc_check_ranges_N : List Str := ["size", "thing", "part"]
theorem sc_check_ranges : FnScope sc_check_ranges_N ["size", "thing"] (defScope s_check_ranges) := ⟨rfl, rfl, rfl, by decide +kernel, rfl, by decide +kernel, by decide +kernel⟩

abbrev s_nexts_of : Stmt := top 16
abbrev sc_nexts_of_N : List Str := ["log", "found", "last", "position", "record"]
theorem sc_nexts_of : FnScope sc_nexts_of_N ["log"] (defScope s_nexts_of) := ⟨rfl, rfl, rfl, by decide +kernel, rfl, by decide +kernel, by decide +kernel⟩

abbrev s_arcs_of : Stmt := top 17
abbrev sc_arcs_of_N : List Str := ["nexts", "position", "end"]
theorem sc_arcs_of : FnScope sc_arcs_of_N ["nexts"] (defScope s_arcs_of) := ⟨rfl, rfl, rfl, by decide +kernel, rfl, by decide +kernel, by decide +kernel⟩

abbrev s_is_marked : Stmt := top 18
abbrev sc_is_marked_N : List Str := ["arc", "part"]
theorem sc_is_marked : FnScope sc_is_marked_N ["arc", "part"] (defScope s_is_marked) := ⟨rfl, rfl, rfl, by decide +kernel, rfl, by decide +kernel, by decide +kernel⟩

abbrev s_marked_by : Stmt := top 19
abbrev sc_marked_by_N : List Str := ["nexts", "ranges", "arc", "part"]
theorem sc_marked_by : FnScope sc_marked_by_N ["nexts", "ranges"] (defScope s_marked_by) := ⟨rfl, rfl, rfl, by decide +kernel, rfl, by decide +kernel, by decide +kernel⟩

abbrev s_marked : Stmt := top 20
abbrev sc_marked_N : List Str := ["log", "ranges"]
theorem sc_marked : FnScope sc_marked_N ["log", "ranges"] (defScope s_marked) := ⟨rfl, rfl, rfl, by decide +kernel, rfl, by decide +kernel, by decide +kernel⟩

abbrev s_check_rounds : Stmt := top 22
abbrev sc_check_rounds_N : List Str := ["log", "rounds", "ranges"]
theorem sc_check_rounds : FnScope sc_check_rounds_N ["log", "rounds"] (defScope s_check_rounds) := ⟨rfl, rfl, rfl, by decide +kernel, rfl, by decide +kernel, by decide +kernel⟩

abbrev s_standing_nexts : Stmt := top 23
abbrev sc_standing_nexts_N : List Str := ["log", "standing", "found", "last", "position", "key"]
theorem sc_standing_nexts : FnScope sc_standing_nexts_N ["log", "standing"] (defScope s_standing_nexts) := ⟨rfl, rfl, rfl, by decide +kernel, rfl, by decide +kernel, by decide +kernel⟩

abbrev s_removed_by : Stmt := top 24
abbrev sc_removed_by_N : List Str := ["log", "rounds", "standing", "found", "ranges", "nexts", "gone", "is_gone", "at", "a", "b", "position"]
theorem sc_removed_by : FnScope sc_removed_by_N ["log", "rounds"] (defScope s_removed_by) := ⟨rfl, rfl, rfl, by decide +kernel, rfl, by decide +kernel, by decide +kernel⟩

abbrev s_after : Stmt := top 25
abbrev sc_after_N : List Str := ["log", "rounds"]
theorem sc_after : FnScope sc_after_N ["log", "rounds"] (defScope s_after) := ⟨rfl, rfl, rfl, by decide +kernel, rfl, by decide +kernel, by decide +kernel⟩

abbrev s__law_crate : Stmt := top 27
abbrev sc__law_crate_N : List Str := ["script", "at", "cell"]
theorem sc__law_crate : FnScope sc__law_crate_N ["script", "at"] (defScope s__law_crate) := ⟨rfl, rfl, rfl, by decide +kernel, rfl, by decide +kernel, by decide +kernel⟩

abbrev s__law_grab : Stmt := top 28
abbrev sc__law_grab_N : List Str := ["crate", "span", "digit", "chaff"]
theorem sc__law_grab : FnScope sc__law_grab_N ["crate", "span"] (defScope s__law_grab) := ⟨rfl, rfl, rfl, by decide +kernel, rfl, by decide +kernel, by decide +kernel⟩

abbrev s__law_names : Stmt := top 29
abbrev sc__law_names_N : List Str := ["crate", "many", "signs", "found", "k", "size", "sign", "name", "spare", "turn", "word"]
theorem sc__law_names : FnScope sc__law_names_N ["crate", "many"] (defScope s__law_names) := ⟨rfl, rfl, rfl, by decide +kernel, rfl, by decide +kernel, by decide +kernel⟩

abbrev s__law_any_value : Stmt := top 30
abbrev sc__law_any_value_N : List Str := ["crate", "some"]
theorem sc__law_any_value : FnScope sc__law_any_value_N ["crate"] (defScope s__law_any_value) := ⟨rfl, rfl, rfl, by decide +kernel, rfl, by decide +kernel, by decide +kernel⟩

abbrev s__law_key : Stmt := top 31
abbrev sc__law_key_N : List Str := ["number_here", "signs"]
theorem sc__law_key : FnScope sc__law_key_N ["number_here"] (defScope s__law_key) := ⟨rfl, rfl, rfl, by decide +kernel, rfl, by decide +kernel, by decide +kernel⟩

abbrev s__law_keyed : Stmt := top 32
abbrev sc__law_keyed_N : List Str := ["crate", "shape_here", "count", "turn", "names", "number_here"]
theorem sc__law_keyed : FnScope sc__law_keyed_N ["crate", "shape_here"] (defScope s__law_keyed) := ⟨rfl, rfl, rfl, by decide +kernel, rfl, by decide +kernel, by decide +kernel⟩

abbrev s__law_drawn_spans : Stmt := top 33
abbrev sc__law_drawn_spans_N : List Str := ["crate", "size", "many", "found", "turn", "a", "wide"]
theorem sc__law_drawn_spans : FnScope sc__law_drawn_spans_N ["crate", "size", "many"] (defScope s__law_drawn_spans) := ⟨rfl, rfl, rfl, by decide +kernel, rfl, by decide +kernel, by decide +kernel⟩

abbrev s__law_drawn_rounds : Stmt := top 34
abbrev sc__law_drawn_rounds_N : List Str := ["crate", "size", "most_here", "many", "turn"]
theorem sc__law_drawn_rounds : FnScope sc__law_drawn_rounds_N ["crate", "size", "most_here", "many"] (defScope s__law_drawn_rounds) := ⟨rfl, rfl, rfl, by decide +kernel, rfl, by decide +kernel, by decide +kernel⟩

abbrev s__law_few_keys : Stmt := top 35
abbrev sc__law_few_keys_N : List Str := ["crate", "most_here", "keys_here", "some", "k"]
theorem sc__law_few_keys : FnScope sc__law_few_keys_N ["crate", "most_here", "keys_here"] (defScope s__law_few_keys) := ⟨rfl, rfl, rfl, by decide +kernel, rfl, by decide +kernel, by decide +kernel⟩

abbrev s__law_copies : Stmt := top 36
abbrev sc__law_copies_N : List Str := ["rounds_here", "spans"]
theorem sc__law_copies : FnScope sc__law_copies_N ["rounds_here"] (defScope s__law_copies) := ⟨rfl, rfl, rfl, by decide +kernel, rfl, by decide +kernel, by decide +kernel⟩

abbrev s__law_shuffled : Stmt := top 37
abbrev sc__law_shuffled_N : List Str := ["crate", "spans", "left", "found", "turn"]
theorem sc__law_shuffled : FnScope sc__law_shuffled_N ["crate", "spans"] (defScope s__law_shuffled) := ⟨rfl, rfl, rfl, by decide +kernel, rfl, by decide +kernel, by decide +kernel⟩

abbrev s__law_all_lost : Stmt := top 38
abbrev sc__law_all_lost_N : List Str := ["rows_here", "rounds_here", "found", "lost"]
theorem sc__law_all_lost : FnScope sc__law_all_lost_N ["rows_here", "rounds_here"] (defScope s__law_all_lost) := ⟨rfl, rfl, rfl, by decide +kernel, rfl, by decide +kernel, by decide +kernel⟩

abbrev s_law : Stmt := top 39
abbrev sc_law_N : List Str := ["script", "at", "crate", "rows_here", "rounds_here", "last", "ahead", "lost_before", "spans", "singles", "other_here", "whole", "span", "k"]
theorem sc_law : FnScope sc_law_N ["script"] (defScope s_law) := ⟨rfl, rfl, rfl, by decide +kernel, rfl, by decide +kernel, by decide +kernel⟩

/-- what the defs ask of the top: built-ins that it leaves, its constants -/
structure Tx (K : PySem.W.Frag) (mg : Str → Option Value) : Prop where
  b_ValueError : mg "ValueError" = none
  b_abs : mg "abs" = none
  b_all : mg "all" = none
  b_any : mg "any" = none
  b_bool : mg "bool" = none
  b_enumerate : mg "enumerate" = none
  b_int : mg "int" = none
  b_isinstance : mg "isinstance" = none
  b_len : mg "len" = none
  b_list : mg "list" = none
  b_max : mg "max" = none
  b_min : mg "min" = none
  b_range : mg "range" = none
  b_sorted : mg "sorted" = none
  b_str : mg "str" = none
  b_tuple : mg "tuple" = none
  c_LETTERS : ∃ t, mg "LETTERS" = some (.str "abcdefghijklmnopqrstuvwxyz" t)
  c_LONGEST_KEY : ∃ t, mg "LONGEST_KEY" = some (.int 8 t)
section
variable {P : Program} {w : World} {K : PySem.W.Frag} {mg : Str → Option Value} {base : Heap}
end
end M

namespace M
open PySem L2 DL
section
variable {P : Program} {w : World} {K : PySem.W.Frag} {mg : Str → Option Value} {base : Heap}
/-! ### logs.py -/
abbrev Rec := Str × Option Int
abbrev Log := List Rec
abbrev Rng := Int × Int
def letters : Str := "abcdefghijklmnopqrstuvwxyz"
def keyB (z : Str) : Bool := (decide (0 < (z.length : Int)) && decide ((z.length : Int) ≤ 8)) && z.cps.toList.all fun c => decide (c ∈ letters.cps.toList)
theorem keyB_len {z : Str} (h : keyB z = true) : z.length ≤ 8 := by
  unfold keyB at h
  simp only [Bool.and_eq_true, decide_eq_true_eq] at h
  omega
/-- a log as it is handed in -/
structure GoodLog (log : Log) : Prop where
  len : log.length ≤ 1000
  key : ∀ t, t ∈ log → keyB t.1 = true
def inRange (n : Int) (r : Rng) : Bool := (decide (0 ≤ r.1) && decide (r.1 < n)) && ((decide (0 ≤ r.2) && decide (r.2 < n)) && decide (r.1 ≤ r.2))
structure GoodRs (n : Int) (rs : List Rng) : Prop where
  len : rs.length ≤ 1000
  ok : ∀ r, r ∈ rs → inRange n r = true
section
variable (K : PySem.W.Frag)
def S_is_integer : Spec (Option Int) := ⟨fun _ => True, fun x => [.dat (is K x)], fun x => .dat (is K x.isSome), fun _ => []⟩
def S_is_position : Spec (Int × Int) := ⟨fun _ => True, fun (a, b) => [.dat (is K a), .dat (is K b)], fun x => .dat (is K (decide (0 ≤ x.2) && decide (x.2 < x.1))), fun _ => []⟩
def S_is_key : Spec Str := ⟨fun x => x.length ≤ 1000, fun x => [.dat (is K x)], fun x => .dat (is K (keyB x)), fun _ => []⟩
def S_is_value : Spec (Option Int) := ⟨fun _ => True, fun x => [.dat (is K x)], fun x => .dat (is K true), fun _ => []⟩
def S_is_record : Spec Rec := ⟨fun x => x.1.length ≤ 1000, fun x => [.dat (is K x)], fun x => .dat (is K (keyB x.1)), fun _ => []⟩
def S_is_log : Spec Log := ⟨fun x => x.length ≤ 1000 ∧ ∀ t, t ∈ x → t.1.length ≤ 1000, fun x => [.dat (is K x)], fun x => .dat (is K (x.all fun t => keyB t.1)), fun _ => []⟩
def S_check_log : Spec Log := ⟨GoodLog, fun x => [.dat (is K x)], fun _ => .dat (is K ()), fun _ => []⟩
def S_is_range : Spec (Int × Rng) := ⟨fun _ => True, fun (a, b) => [.dat (is K a), .dat (is K b)], fun x => .dat (is K (inRange x.1 x.2)), fun _ => []⟩
def S_check_ranges : Spec (Int × List Rng) := ⟨fun x => GoodRs x.1 x.2, fun (a, b) => [.dat (is K a), .dat (is K b)], fun _ => .dat (is K ()), fun _ => []⟩
end
theorem ok_is_integer {f : Addr} {fd : FuncData} (T : Tx K mg)  (F : FunD K "is_integer" "is_integer" (defArgs s_is_integer) (defBody s_is_integer) (defScope s_is_integer) [] [] f fd) : FnOk P w K mg base CX0 1 f fd ["thing"] (spOf (S_is_integer K)) := by
  refine fn_ok F sc_is_integer (fun _ => rfl) (hb := fun cdv A outer s H E hr x hx B hB hI => ?_)
  cases x with
  | none => exact go_retD hB (ex_and (d := true) (ex_isi (d := false) (α := Option Int) T.b_isinstance (ex_var (pv 0) rfl) (ex_tyN (T' := "int") T.b_int (by decide +kernel)) (by rfl)) fun hh => nomatch hh) (fun _ _ h => h) (io0 hI)
  | some i => exact go_retD hB (ex_and (ex_isi (d := true) (α := Option Int) T.b_isinstance (ex_var (pv 0) rfl) (ex_tyN (T' := "int") T.b_int (by decide +kernel)) (by rfl)) fun hh => (ex_one (ex_not (ex_isi (d := false) (α := Option Int) T.b_isinstance (ex_var (pv 0) rfl) (ex_tyN (T' := "bool") T.b_bool (by decide +kernel)) (by rfl))))) (fun _ _ h => h) (io0 hI)

theorem ok_is_position {f : Addr} {fd : FuncData} (T : Tx K mg) (G_is_integer : Fn P w K mg base "is_integer" 1 ["thing"] (spOf (S_is_integer K))) (F : FunD K "is_position" "is_position" (defArgs s_is_position) (defBody s_is_position) (defScope s_is_position) [] [] f fd) : FnOk P w K mg base CX0 2 f fd ["size", "thing"] (spOf (S_is_position K)) := by
  refine fn_ok F sc_is_position (fun _ => rfl) (hb := fun cdv A outer s H E hr x hx B hB hI => ?_)
  exact go_retD hB (ex_and (ex_call (S := S_is_integer K) G_is_integer (hr.mono (by decide)) (some x.2) (ax_cons (ex_some (ex_var (pv 1) rfl)) ax_nil) trivial) fun hh => (ex_one (ex_chain op_le op_lt ex_int (ex_var (pv 1) rfl) (ex_var (pv 0) rfl)))) (fun _ _ h => h) (io0 hI)

theorem ok_is_key {f : Addr} {fd : FuncData} (T : Tx K mg)  (F : FunD K "is_key" "is_key" (defArgs s_is_key) (defBody s_is_key) (defScope s_is_key) [] [] f fd) : FnOk P w K mg base CX0 1 f fd ["thing"] (spOf (S_is_key K)) := by
  refine fn_ok F sc_is_key (fun _ => rfl) (hb := fun cdv A outer s H E hr x hx B hB hI => ?_)
  have hx : x.length ≤ 1000 := hx
  refine go_retD hB (ex_and (ex_isi T.b_isinstance (ex_var (pv 0) rfl) (ex_tyN (T' := "str") T.b_str (by decide +kernel)) (by rfl)) fun hh => (ex_and (ex_chain op_lt op_le ex_int (ex_lenS T.b_len (ex_var (pv 0) rfl) (Evl.sz_of (by omega))) (ex_glI T.c_LONGEST_KEY)) fun hh => (ex_one (ex_all T.b_all (ex_lcO (lc_ok (own := [("sign", 1)]) (src_str (ex_var (pv 0) rfl)) (fun _ _ _ _ _ => (pg_name (i := 1) sc_is_key.nd rfl (Or.inl rfl))) (fun x hm => bd_name) (fun x hm _ _ _ _ _ => tsx_nil) (fun x hm hp _ _ _ _ _ => (ex_cmp (q_inS (ex_var (pv 1) rfl) (ex_glS T.c_LETTERS)))) (Evl.sz_lt (Nat.lt_of_le_of_lt hx (by decide)))) (blkOk_by (own := [("sign", 1)]) (N := sc_is_key_N) (sc := defScope s_is_key) (by decide +kernel)) sc_is_key.nd) rd_new)))) (is_eq ?_) (io0 hI)
  simp [keyB, List.all_map]
  rfl

theorem ok_is_value {f : Addr} {fd : FuncData} (T : Tx K mg) (G_is_integer : Fn P w K mg base "is_integer" 1 ["thing"] (spOf (S_is_integer K))) (F : FunD K "is_value" "is_value" (defArgs s_is_value) (defBody s_is_value) (defScope s_is_value) [] [] f fd) : FnOk P w K mg base CX0 2 f fd ["thing"] (spOf (S_is_value K)) := by
  refine fn_ok F sc_is_value (fun _ => rfl) (hb := fun cdv A outer s H E hr x hx B hB hI => ?_)
  refine go_retD hB (ex_or (ex_cmp (q_isN (ex_var (pv 0) rfl))) fun hh => (ex_one (ex_call (S := S_is_integer K) G_is_integer (hr.mono (by decide)) _ (ax_cons (ex_var (pv 0) rfl) ax_nil) trivial))) (is_eq ?_) (io0 hI)
  cases x <;> rfl

theorem ok_is_record {f : Addr} {fd : FuncData} (T : Tx K mg) (G_is_key : Fn P w K mg base "is_key" 1 ["thing"] (spOf (S_is_key K))) (G_is_value : Fn P w K mg base "is_value" 2 ["thing"] (spOf (S_is_value K))) (F : FunD K "is_record" "is_record" (defArgs s_is_record) (defBody s_is_record) (defScope s_is_record) [] [] f fd) : FnOk P w K mg base CX0 3 f fd ["thing"] (spOf (S_is_record K)) := by
  refine fn_ok F sc_is_record (fun _ => rfl) (hb := fun cdv A outer s H E hr x hx B hB hI => ?_)
  refine go_retD hB (ex_and (ex_isi T.b_isinstance (ex_var (pv 0) rfl) (ex_tyN (T' := "tuple") T.b_tuple (by decide +kernel)) (by rfl)) fun hh => (ex_and (ex_cmp (q_eqv (ex_lenP T.b_len (ex_var (pv 0) rfl)) ex_int)) fun hh => (ex_and (ex_call (S := S_is_key K) G_is_key (hr.mono (by decide)) _ (ax_cons (ex_fst (ex_var (pv 0) rfl)) ax_nil) hx) fun hh => (ex_one (ex_call (S := S_is_value K) G_is_value (hr.mono (by decide)) _ (ax_cons (ex_snd (ex_var (pv 0) rfl)) ax_nil) trivial))))) (is_eq ?_) (io0 hI)
  simp

theorem ok_is_log {f : Addr} {fd : FuncData} (T : Tx K mg) (G_is_record : Fn P w K mg base "is_record" 3 ["thing"] (spOf (S_is_record K))) (F : FunD K "is_log" "is_log" (defArgs s_is_log) (defBody s_is_log) (defScope s_is_log) [] [] f fd) : FnOk P w K mg base CX0 4 f fd ["thing"] (spOf (S_is_log K)) := by
  refine fn_ok F sc_is_log (fun _ => rfl) (hb := fun cdv A outer s H E hr x hx B hB hI => ?_)
  refine go_retD hB (ex_and (ex_isi T.b_isinstance (ex_var (pv 0) rfl) (ex_tyN (T' := "list") T.b_list (by decide +kernel)) (by rfl)) fun hh => (ex_one (ex_all T.b_all (ex_lcO (lc_ok (own := [("record", 1)]) (src_list (ex_var (pv 0) rfl)) (fun _ _ _ _ _ => (pg_name (i := 1) sc_is_log.nd rfl (Or.inl rfl))) (fun x hm => bd_name) (fun x hm _ _ _ _ _ => tsx_nil) (fun y hm hp _ _ _ _ _ => (ex_call (S := S_is_record K) G_is_record (hr.mono (by decide)) _ (ax_cons (ex_var (pv 1) rfl) ax_nil) (hx.2 y hm))) (Evl.sz_lt (Nat.lt_of_le_of_lt hx.1 (by decide)))) (blkOk_by (own := [("record", 1)]) (N := sc_is_log_N) (sc := defScope s_is_log) (by decide +kernel)) sc_is_log.nd) rd_new))) (is_eq ?_) (io0 hI)
  simp [List.all_map]

theorem ok_check_log {f : Addr} {fd : FuncData} (T : Tx K mg) (G_is_log : Fn P w K mg base "is_log" 4 ["thing"] (spOf (S_is_log K))) (F : FunD K "check_log" "check_log" (defArgs s_check_log) (defBody s_check_log) (defScope s_check_log) [] [] f fd) : FnOk P w K mg base CX0 5 f fd ["log"] (spOf (S_check_log K)) := by
  refine fn_ok F sc_check_log (fun _ => rfl) (hb := fun cdv A outer s H E hr x hx B hB hI => ?_)
  have hx : GoodLog x := hx
  refine go_ifF (tx_eqT (tx_not (tx_val (ex_call (S := S_is_log K) G_is_log (hr.mono (by decide)) _ (ax_cons (ex_var (pv 0) rfl) ax_nil) ⟨hx.len, fun t ht => Nat.le_trans (keyB_len (hx.key t ht)) (by decide)⟩))) ?_) (go_end hB (fun _ => rfl) (io0 hI))
  have e : (x.all fun t => keyB t.1) = true := List.all_eq_true.mpr fun t ht => hx.key t ht
  rw [e]
  rfl

theorem ok_is_range {f : Addr} {fd : FuncData} (T : Tx K mg) (G_is_position : Fn P w K mg base "is_position" 2 ["size", "thing"] (spOf (S_is_position K))) (F : FunD K "is_range" "is_range" (defArgs s_is_range) (defBody s_is_range) (defScope s_is_range) [] [] f fd) : FnOk P w K mg base CX0 3 f fd ["size", "thing"] (spOf (S_is_range K)) := by
  refine fn_ok F sc_is_range (fun _ => rfl) (hb := fun cdv A outer s H E hr x hx B hB hI => ?_)
  refine go_ifF (tx_eqT (wx_or (tx_not (tx_val (ex_isi T.b_isinstance (ex_var (pv 1) rfl) (ex_tyN (T' := "tuple") T.b_tuple (by decide +kernel)) (by rfl)))) (fun hh => (wx_or1 (tx_cmp (q_nev (ex_lenP T.b_len (ex_var (pv 1) rfl)) ex_int)))) (fun _ => rfl)).t (by rfl)) ?_
  refine go_retD hB (ex_and (ex_call (S := S_is_position K) G_is_position (hr.mono (by decide)) (_, _) (ax_cons (ex_var (pv 0) rfl) (ax_cons (ex_fst (ex_var (pv 1) rfl)) ax_nil)) trivial) fun hh => (ex_and (ex_call (S := S_is_position K) G_is_position (hr.mono (by decide)) (_, _) (ax_cons (ex_var (pv 0) rfl) (ax_cons (ex_snd (ex_var (pv 1) rfl)) ax_nil)) trivial) fun hh => (ex_one (ex_cmp (q_le (ex_fst (ex_var (pv 1) rfl)) (ex_snd (ex_var (pv 1) rfl))))))) (is_eq ?_) (io0 hI)
  rfl

theorem ok_check_ranges {f : Addr} {fd : FuncData} (T : Tx K mg) (G_is_range : Fn P w K mg base "is_range" 3 ["size", "thing"] (spOf (S_is_range K))) (F : FunD K "check_ranges" "check_ranges" (defArgs s_check_ranges) (defBody s_check_ranges) (defScope s_check_ranges) [] [] f fd) : FnOk P w K mg base CX0 4 f fd ["size", "thing"] (spOf (S_check_ranges K)) := by
  refine fn_ok F sc_check_ranges (fun _ => rfl) (hb := fun cdv A outer s H E hr x hx B hB hI => ?_)
  have hx : GoodRs x.1 x.2 := hx
  refine go_ifF (tx_eqT (wx_or (tx_not (tx_val (ex_isi T.b_isinstance (ex_var (pv 1) rfl) (ex_tyN (T' := "list") T.b_list (by decide +kernel)) (by rfl)))) (fun hh => (wx_or1 (tx_not (tx_val (ex_all T.b_all (ex_lcO (lc_ok (own := [("part", 2)]) (src_list (ex_var (pv 1) rfl)) (fun _ _ _ _ _ => (pg_name (i := 2) sc_check_ranges.nd rfl (Or.inl rfl))) (fun x hm => bd_name) (fun x hm _ _ _ _ _ => tsx_nil) (fun x hm hp _ _ _ _ _ => (ex_call (S := S_is_range K) G_is_range (hr.mono (by decide)) (_, _) (ax_cons (ex_var (pv 0) rfl) (ax_cons (ex_var (pv 2) rfl) ax_nil)) trivial)) (Evl.sz_lt (Nat.lt_of_le_of_lt hx.len (by decide)))) (blkOk_by (own := [("part", 2)]) (N := sc_check_ranges_N) (sc := defScope s_check_ranges) (by decide +kernel)) sc_check_ranges.nd) rd_new))))) (fun _ => rfl)).t ?_) (go_end hB (fun _ => rfl) (io0 hI))
  have e : (x.2.all fun t => inRange x.1 t) = true := List.all_eq_true.mpr fun t ht => hx.ok t ht
  simp [List.all_map]
  exact fun a b hab => by
    have z := hx.ok (a, b) hab
    exact z

/-! next positions -/
abbrev NxS := List (Option Int) × List (Key × Int)
def nxStep (s : NxS) (p : Int × Rec) : NxS := (match dget s.2 (Sum.inr p.2.1) with
  | some j => s.1.set j.toNat (some p.1)
  | none => s.1, dput s.2 (Sum.inr p.2.1) p.1)
def nx0 (log : Log) : NxS := ((List.replicate (log.length : Int).toNat [none]).flatten, [])
def nextsOf (log : Log) : List (Option Int) := ((enumI log).foldl nxStep (nx0 log)).1
theorem flat_none {α : Type} (x : α) : ∀ n, (List.replicate n [x]).flatten = List.replicate n x
  | 0 => rfl
  | n + 1 => by rw [List.replicate_succ, List.flatten_cons, flat_none x n, List.replicate_succ]; rfl
theorem nx0_len (log : Log) : (nx0 log).1.length = log.length := by unfold nx0; rw [flat_none, List.length_replicate]; simp
theorem nxStep_len (s : NxS) (p : Int × Rec) : (nxStep s p).1.length = s.1.length := by
  unfold nxStep
  cases dget s.2 (Sum.inr p.2.1) with
  | none => rfl
  | some j => exact List.length_set
theorem nextsOf_len (log : Log) : (nextsOf log).length = log.length := by
  unfold nextsOf
  rw [← nx0_len log]
  generalize nx0 log = s
  induction enumI log generalizing s with
  | nil => rfl
  | cons p t ih => rw [List.foldl_cons, ih, nxStep_len]
theorem enumI_len {α : Type} (xs : List α) : (enumI xs).length = xs.length := by unfold enumI; simp
/-- what holds between two turns -/
structure NxI (log : Log) (i : Nat) (s : NxS) : Prop where
  l1 : s.1.length = log.length
  l2 : s.2.length ≤ i
  g : ∀ k j, dget s.2 k = some j → 0 ≤ j ∧ j < log.length
def arcsOf (nexts : List (Option Int)) : List Rng := ((enumI nexts).filter fun p => p.2.isSome).map fun p => (p.1, p.2.getD 0)
def isMarked (arc part : Rng) : Bool := decide (part.1 ≤ arc.1) && decide (arc.2 ≤ part.2)
def markedBy (nexts : List (Option Int)) (ranges : List Rng) : List Int := ((arcsOf nexts).filter fun arc => ranges.any fun part => isMarked arc part).map (·.1)
theorem arcsOf_len (nexts : List (Option Int)) : (arcsOf nexts).length ≤ nexts.length := by
  unfold arcsOf
  rw [List.length_map, ← enumI_len nexts]
  exact List.length_filter_le _ _
section
variable (K : PySem.W.Frag)
def S_nexts_of : Spec Log := ⟨fun x => x.length ≤ 1000, fun x => [.dat (is K x)], fun x => .dat (is K (nextsOf x)), fun _ => []⟩
def S_arcs_of : Spec (List (Option Int)) := ⟨fun x => x.length ≤ 1000, fun x => [.dat (is K x)], fun x => .dat (is K (arcsOf x)), fun _ => []⟩
def S_is_marked : Spec (Rng × Rng) := ⟨fun _ => True, fun (a, b) => [.dat (is K a), .dat (is K b)], fun x => .dat (is K (isMarked x.1 x.2)), fun _ => []⟩
def S_marked_by : Spec (List (Option Int) × List Rng) := ⟨fun x => x.1.length ≤ 1000 ∧ x.2.length ≤ 1000, fun (a, b) => [.dat (is K a), .dat (is K b)], fun x => .dat (is K (markedBy x.1 x.2)), fun _ => []⟩
def S_marked : Spec (Log × List Rng) := ⟨fun x => GoodLog x.1 ∧ GoodRs x.1.length x.2, fun (a, b) => [.dat (is K a), .dat (is K b)], fun x => .dat (is K (markedBy (nextsOf x.1) x.2)), fun _ => []⟩
end
theorem ok_nexts_of {f : Addr} {fd : FuncData} (T : Tx K mg)  (F : FunD K "nexts_of" "nexts_of" (defArgs s_nexts_of) (defBody s_nexts_of) (defScope s_nexts_of) [] [] f fd) : FnOk P w K mg base CX0 1 f fd ["log"] (spOf (S_nexts_of K)) := by
  refine fn_ok F sc_nexts_of (fun _ => rfl) (hb := fun cdv A outer s H E hr x hx B hB hI => ?_)
  have hx : x.length ≤ 1000 := hx
  refine go_set (i := 1) (ex_rep (xs := [(none : Option Int)]) (ex_lst (ax_cons (ex_non (α := Int)) ax_nil) rfl) (ex_len T.b_len (ex_var (pv 0) rfl) rd_dat) rd_new (by omega) (Evl.sz_of (by simp; omega))) sc_nexts_of.nd rfl (Or.inl rfl) ?_
  refine go_set (i := 2) (ex_dnew (β := Int)) sc_nexts_of.nd rfl (Or.inl rfl) ?_
  refine go_fold (vs := [3, 4]) nxStep (nx0 x) (NxI x) (fun s => [.dat (is K x), .own (lstC K s.1), .own (dicC K s.2), .un, .un]) (fun s y => [.dat (is K x), .own (lstC K s.1), .own (dicC K s.2), .dat (is K y.1), .dat (is K y.2)]) (src_enum T.b_enumerate (ex_var (pv 0) rfl)) (pg_tup rfl (pgs_cons (pg_name (i := 3) sc_nexts_of.nd rfl (Or.inl rfl)) (pgs_cons (pg_name (i := 4) sc_nexts_of.nd rfl (Or.inl rfl)) pgs_nil))) (fun s y => bnd_pair) (Weak.refl _) ⟨nx0_len x, Nat.le_refl _, fun k j h => by simp [nx0, dget] at h⟩ (fun i y s hy he hi => ?_) fun s he hi => ?_
  · obtain ⟨y0, hy0, rfl⟩ := enumI_get hy
    have hil : i < x.length := (List.getElem?_eq_some_iff.mp hy0).1
    constructor
    · refine ⟨(nxStep_len s _).trans hi.l1, Nat.le_trans (dput_len _ _ _) (Nat.succ_le_succ hi.l2), fun k j h => ?_⟩
      have h' : dget (dput s.2 (Sum.inr y0.1) (i : Int)) k = some j := h
      rw [dget_dput] at h'
      split at h'
      · cases h'; omega
      · exact hi.g k j h'
    · have hil2 := hi.l2
      refine go_ifJ (r2 := [.dat (is K x), .own (lstC K (nxStep s ((i : Int), y0)).1), .own (dicC K s.2), .dat (is K (i : Int)), .dat (is K y0)]) (tx_cmp (q_din (hu_of hr) (ex_fst (ex_var (pv 4) rfl)) (ex_own (pv 2) rfl) (dr_sl (dc_own rfl)))) (fun hd => ?_) (fun hd => ?_) ?_
      · obtain ⟨j, hj⟩ := Option.isSome_iff_exists.mp hd
        have hjj : dget s.2 (Sum.inr y0.1) = some j := hj
        have hg := hi.g _ _ hjj
        refine go_setL (xs := s.1) (sl := .own (lstC K s.1)) (pv 1) (ex_some (ex_var (pv 3) rfl)) (ex_dget (hu_of hr) (ex_own (pv 2) rfl) (ex_fst (ex_var (pv 4) rfl)) (dr_sl (dc_own rfl)) hj) (ls_own rfl) (ls_own rfl) (by rw [hi.l1]; exact hg) (go_nil fun σ F H k => ?_)
        have e : (nxStep s ((i : Int), y0)).1 = s.1.set j.toNat (some (i : Int)) := by
          unfold nxStep
          rw [hjj]
        rw [e]
        exact k
      · refine go_nil fun σ F H k => ?_
        have hn : dget s.2 (Sum.inr y0.1) = none := by
          cases q : dget s.2 (Sum.inr y0.1) with
          | none => rfl
          | some j => exact absurd (show (dget s.2 (Sum.inr y0.1)).isSome = false from hd) (by rw [q]; simp)
        have e : (nxStep s ((i : Int), y0)).1 = s.1 := by
          unfold nxStep
          rw [hn]
        rw [e]
        exact k
      · refine go_dput (xs := s.2) (sl := .own (dicC K s.2)) (hu_of hr) (pv 2) (ex_var (pv 3) rfl) (ex_fst (ex_var (pv 4) rfl)) (dc_own rfl) (dc_own rfl) (Evl.sz_lt (by omega)) (go_nil fun σ F H k => k.weak ?_)
        exact .same _ (.same _ (.same _ (.drop _ (.drop _ .nil))))
  · subst he
    refine go_frz (i := 1) rfl lst_frz ?_
    exact go_retD hB (ex_var (pv 1) rfl) (fun _ _ h => h) (io0 hI)

theorem ok_arcs_of {f : Addr} {fd : FuncData} (T : Tx K mg)  (F : FunD K "arcs_of" "arcs_of" (defArgs s_arcs_of) (defBody s_arcs_of) (defScope s_arcs_of) [] [] f fd) : FnOk P w K mg base CX0 1 f fd ["nexts"] (spOf (S_arcs_of K)) := by
  refine fn_ok F sc_arcs_of (fun _ => rfl) (hb := fun cdv A outer s H E hr x hx B hB hI => ?_)
  have hx : x.length ≤ 1000 := hx
  refine go_retD hB (ex_frzL (ex_lcO (lc_ok (own := [("position", 1), ("end", 2)]) (f := fun (p : Int × Option Int) => (p.1, p.2.getD 0)) (src_enum T.b_enumerate (ex_var (pv 0) rfl)) (fun _ _ _ _ _ => (pg_tup rfl (pgs_cons (pg_name (i := 1) sc_arcs_of.nd rfl (Or.inl rfl)) (pgs_cons (pg_name (i := 2) sc_arcs_of.nd rfl (Or.inl rfl)) pgs_nil)))) (fun x hm => bd_pair) (fun x hm _ _ _ _ _ => (tsx_one (tx_cmp (q_notN (ex_var (pv 2) rfl))))) (fun x hm hp _ _ _ _ _ => (ex_pair (ex_var (pv 1) rfl) (ex_imp (ex_var (pv 2) rfl) fun F v h => ?_))) (Evl.sz_lt (by rw [enumI_len]; omega))) (blkOk_by (own := [("position", 1), ("end", 2)]) (N := sc_arcs_of_N) (sc := defScope s_arcs_of) (by decide +kernel)) sc_arcs_of.nd)) (is_eq (by rfl)) (io0 hI)
  obtain ⟨j, hj⟩ := Option.isSome_iff_exists.mp hp
  rw [hj] at h ⊢
  exact h

theorem ok_is_marked {f : Addr} {fd : FuncData} (T : Tx K mg)  (F : FunD K "is_marked" "is_marked" (defArgs s_is_marked) (defBody s_is_marked) (defScope s_is_marked) [] [] f fd) : FnOk P w K mg base CX0 1 f fd ["arc", "part"] (spOf (S_is_marked K)) := by
  refine fn_ok F sc_is_marked (fun _ => rfl) (hb := fun cdv A outer s H E hr x hx B hB hI => ?_)
  exact go_retD hB (ex_and (ex_cmp (q_le (ex_fst (ex_var (pv 1) rfl)) (ex_fst (ex_var (pv 0) rfl)))) fun hh => (ex_one (ex_cmp (q_le (ex_snd (ex_var (pv 0) rfl)) (ex_snd (ex_var (pv 1) rfl)))))) (fun _ _ h => h) (io0 hI)

theorem ok_marked_by {f : Addr} {fd : FuncData} (T : Tx K mg) (G_arcs_of : Fn P w K mg base "arcs_of" 1 ["nexts"] (spOf (S_arcs_of K))) (G_is_marked : Fn P w K mg base "is_marked" 1 ["arc", "part"] (spOf (S_is_marked K))) (F : FunD K "marked_by" "marked_by" (defArgs s_marked_by) (defBody s_marked_by) (defScope s_marked_by) [] [] f fd) : FnOk P w K mg base CX0 2 f fd ["nexts", "ranges"] (spOf (S_marked_by K)) := by
  refine fn_ok F sc_marked_by (fun _ => rfl) (hb := fun cdv A outer s H E hr x hx B hB hI => ?_)
  refine go_retD hB (ex_frzL (ex_lcO (lc_ok (own := [("arc", 2)]) (src_list (ex_call (S := S_arcs_of K) G_arcs_of (hr.mono (by decide)) _ (ax_cons (ex_var (pv 0) rfl) ax_nil) hx.1)) (fun _ _ _ _ _ => (pg_name (i := 2) sc_marked_by.nd rfl (Or.inr rfl))) (fun x hm => bd_name) (fun y hm _ _ _ _ _ => (tsx_one (tx_val (ex_any T.b_any (ex_lcO (lc_ok (own := [("part", 3)]) (src_list (ex_var (pv 1) rfl)) (fun _ _ _ _ _ => (pg_name (i := 3) sc_marked_by.nd rfl (Or.inl rfl))) (fun x hm => bd_name) (fun x hm _ _ _ _ _ => tsx_nil) (fun z hm hp _ _ _ _ _ => (ex_call (S := S_is_marked K) G_is_marked (hr.mono (by decide)) (_, _) (ax_cons (ex_var (pv 2) rfl) (ax_cons (ex_var (pv 3) rfl) ax_nil)) trivial)) (Evl.sz_lt (Nat.lt_of_le_of_lt hx.2 (by decide)))) (blkOk_by (own := [("part", 3)]) (N := sc_marked_by_N) (by rfl)) sc_marked_by.nd) rd_new)))) (fun x hm hp _ _ _ _ _ => (ex_fst (ex_var (pv 2) rfl))) (Evl.sz_lt (Nat.lt_of_le_of_lt (Nat.le_trans (arcsOf_len _) hx.1) (by decide)))) (blkOk_by (own := [("arc", 2)]) (N := sc_marked_by_N) (sc := defScope s_marked_by) (by decide +kernel)) sc_marked_by.nd)) (is_eq ?_) (io0 hI)
  unfold markedBy
  congr 1
  apply List.filter_congr
  intro arc _
  simp only [List.any_map, flt_true]
  rfl

theorem ok_marked {f : Addr} {fd : FuncData} (T : Tx K mg) (G_check_log : Fn P w K mg base "check_log" 5 ["log"] (spOf (S_check_log K))) (G_check_ranges : Fn P w K mg base "check_ranges" 4 ["size", "thing"] (spOf (S_check_ranges K))) (G_marked_by : Fn P w K mg base "marked_by" 2 ["nexts", "ranges"] (spOf (S_marked_by K))) (G_nexts_of : Fn P w K mg base "nexts_of" 1 ["log"] (spOf (S_nexts_of K))) (F : FunD K "marked" "marked" (defArgs s_marked) (defBody s_marked) (defScope s_marked) [] [] f fd) : FnOk P w K mg base CX0 6 f fd ["log", "ranges"] (spOf (S_marked K)) := by
  refine fn_ok F sc_marked (fun _ => rfl) (hb := fun cdv A outer s H E hr x hx B hB hI => ?_)
  have hx : GoodLog x.1 ∧ GoodRs x.1.length x.2 := hx
  refine go_expr (ex_call (S := S_check_log K) G_check_log (hr.mono (by decide)) _ (ax_cons (ex_var (pv 0) rfl) ax_nil) hx.1) ?_
  refine go_expr (ex_call (S := S_check_ranges K) G_check_ranges (hr.mono (by decide)) (_, _) (ax_cons (ex_len T.b_len (ex_var (pv 0) rfl) rd_dat) (ax_cons (ex_var (pv 1) rfl) ax_nil)) hx.2) ?_
  exact go_retD hB (ex_call (S := S_marked_by K) G_marked_by (hr.mono (by decide)) (_, _) (ax_cons (ex_call (S := S_nexts_of K) G_nexts_of (hr.mono (by decide)) _ (ax_cons (ex_var (pv 0) rfl) ax_nil) hx.1.len) (ax_cons (ex_var (pv 1) rfl) ax_nil)) ⟨by show (nextsOf x.1).length ≤ 1000; rw [nextsOf_len]; exact hx.1.len, hx.2.len⟩) (fun _ _ h => h) (io0 hI)
end
end M

namespace M
open PySem L2 DL
section
variable {P : Program} {w : World} {K : PySem.W.Frag} {mg : Str → Option Value} {base : Heap}
/-! ### rounds.py: simulation -/
abbrev SnS := List (Key × Int) × List (Key × Int)
def keyAt (log : Log) (p : Int) : Str := (log.getD p.toNat default).1
def snStep (log : Log) (s : SnS) (p : Int) : SnS := (match dget s.2 (Sum.inr (keyAt log p)) with
  | some j => dput s.1 (Sum.inl j) p
  | none => s.1, dput s.2 (Sum.inr (keyAt log p)) p)
def standingNexts (log : Log) (standing : List Int) : List (Key × Int) := (standing.foldl (snStep log) ([], [])).1
def goneIn (nexts : List (Key × Int)) (ranges : List Rng) (standing : List Int) : List Int :=
  standing.filter fun at_ => (dget nexts (Sum.inl at_)).isSome && ranges.any fun r => decide (r.1 ≤ at_) && decide ((dget nexts (Sum.inl at_)).getD 0 ≤ r.2)
def trueAt (xs : List Int) : List (Key × Bool) := dcOf xs (fun _ => true) (fun p => Sum.inl p) fun _ => true
abbrev RmS := List Int × List (List Int)
def rmStep (log : Log) (s : RmS) (ranges : List Rng) : RmS :=
  (s.1.filter fun p => !(dget (trueAt (goneIn (standingNexts log s.1) ranges s.1)) (Sum.inl p)).isSome, s.2 ++ [goneIn (standingNexts log s.1) ranges s.1])
def removedBy (log : Log) (rounds : List (List Rng)) : List (List Int) := (rounds.foldl (rmStep log) (rangeI 0 log.length, [])).2
structure GoodRounds (n : Int) (rounds : List (List Rng)) : Prop where
  len : rounds.length ≤ 1000
  ok : ∀ rs, rs ∈ rounds → GoodRs n rs
structure SnI (log : Log) (i : Nat) (s : SnS) : Prop where
  l1 : s.1.length ≤ i
  l2 : s.2.length ≤ i
structure RmI (log : Log) (i : Nat) (s : RmS) : Prop where
  l1 : s.1.length ≤ log.length
  l2 : s.2.length = i
  b : ∀ p, p ∈ s.1 → 0 ≤ p ∧ p < log.length
section
variable (K : PySem.W.Frag)
def S_check_rounds : Spec (Log × List (List Rng)) := ⟨fun x => GoodRounds x.1.length x.2, fun (a, b) => [.dat (is K a), .dat (is K b)], fun _ => .dat (is K ()), fun _ => []⟩
def S_standing_nexts : Spec (Log × List Int) := ⟨fun x => x.2.length ≤ 1000 ∧ ∀ p, p ∈ x.2 → 0 ≤ p ∧ p < x.1.length, fun (a, b) => [.dat (is K a), .dat (is K b)], fun (a, b) => .dat (is K (Dc.mk (standingNexts a b))), fun _ => []⟩
def S_removed_by : Spec (Log × List (List Rng)) := ⟨fun x => x.1.length ≤ 1000 ∧ GoodRounds x.1.length x.2, fun (a, b) => [.dat (is K a), .dat (is K b)], fun (a, b) => .dat (is K (removedBy a b)), fun _ => []⟩
def S_after : Spec (Log × List (List Rng)) := ⟨fun x => GoodLog x.1 ∧ GoodRounds x.1.length x.2, fun (a, b) => [.dat (is K a), .dat (is K b)], fun (a, b) => .dat (is K (removedBy a b)), fun _ => []⟩
end
theorem ok_check_rounds {f : Addr} {fd : FuncData} (T : Tx K mg) (G_check_ranges : Fn P w K mg base "check_ranges" 4 ["size", "thing"] (spOf (S_check_ranges K))) (F : FunD K "check_rounds" "check_rounds" (defArgs s_check_rounds) (defBody s_check_rounds) (defScope s_check_rounds) [] [] f fd) : FnOk P w K mg base CX0 5 f fd ["log", "rounds"] (spOf (S_check_rounds K)) := by
  refine fn_ok F sc_check_rounds (fun _ => rfl) (hb := fun cdv A outer s H E hr x hx B hB hI => ?_)
  have hx : GoodRounds x.1.length x.2 := hx
  refine go_ifF (tx_eqT (tx_not (tx_val (ex_isi T.b_isinstance (ex_var (pv 1) rfl) (ex_tyN (T' := "list") T.b_list (by decide +kernel)) (by rfl)))) (by rfl)) ?_
  refine go_fold (S := Unit) (vs := [2]) (fun _ _ => ()) () (fun _ _ => True) (fun _ => [.dat (is K x.1), .dat (is K x.2), .un]) (fun _ y => [.dat (is K x.1), .dat (is K x.2), .dat (is K y)]) (src_list (ex_var (pv 1) rfl)) (pg_name (i := 2) sc_check_rounds.nd rfl (Or.inl rfl)) (fun s y => bnd_name) (Weak.refl _) trivial (fun i y s hy he hi => ⟨trivial, ?_⟩) fun s he hi => go_end hB (fun _ => rfl) (io0 hI)
  exact go_expr (ex_call (S := S_check_ranges K) G_check_ranges (hr.mono (by decide)) (_, _) (ax_cons (ex_len T.b_len (ex_var (pv 0) rfl) rd_dat) (ax_cons (ex_var (pv 2) rfl) ax_nil)) (hx.ok y (List.mem_of_getElem? hy))) (go_nil fun σ F H k => k.weak (.same _ (.same _ (.drop _ .nil))))

theorem keyAt_eq {log : Log} {p : Int} (h : 0 ≤ p ∧ p < log.length) : L2.atI log p = some (log.getD p.toNat default) := atI_getD h

theorem ok_standing_nexts {f : Addr} {fd : FuncData} (T : Tx K mg)  (F : FunD K "standing_nexts" "standing_nexts" (defArgs s_standing_nexts) (defBody s_standing_nexts) (defScope s_standing_nexts) [] [] f fd) : FnOk P w K mg base CX0 1 f fd ["log", "standing"] (spOf (S_standing_nexts K)) := by
  refine fn_ok F sc_standing_nexts (fun _ => rfl) (hb := fun cdv A outer s H E hr x hx B hB hI => ?_)
  have hx : x.2.length ≤ 1000 ∧ ∀ p, p ∈ x.2 → 0 ≤ p ∧ p < x.1.length := hx
  refine go_set (i := 2) (ex_dnew (β := Int)) sc_standing_nexts.nd rfl (Or.inl rfl) ?_
  refine go_set (i := 3) (ex_dnew (β := Int)) sc_standing_nexts.nd rfl (Or.inl rfl) ?_
  refine go_fold (vs := [4]) (snStep x.1) ([], []) (SnI x.1) (fun s => [.dat (is K x.1), .dat (is K x.2), .own (dicC K s.1), .own (dicC K s.2), .un, .un]) (fun s y => [.dat (is K x.1), .dat (is K x.2), .own (dicC K s.1), .own (dicC K s.2), .dat (is K y), .un]) (src_list (ex_var (pv 1) rfl)) (pg_name (i := 4) sc_standing_nexts.nd rfl (Or.inl rfl)) (fun s y => bnd_name) (Weak.refl _) ⟨Nat.le_refl _, Nat.le_refl _⟩ (fun i y s hy he hi => ?_) fun s he hi => ?_
  · have hyb := hx.2 y (List.mem_of_getElem? hy)
    have hil : i < x.2.length := (List.getElem?_eq_some_iff.mp hy).1
    have hi1 := hi.l1
    have hi2 := hi.l2
    constructor
    · refine ⟨?_, Nat.le_trans (dput_len _ _ _) (Nat.succ_le_succ hi.l2)⟩
      unfold snStep
      cases dget s.2 (Sum.inr (keyAt x.1 y)) with
      | none => exact Nat.le_succ_of_le hi.l1
      | some j => exact Nat.le_trans (dput_len _ _ _) (Nat.succ_le_succ hi.l1)
    · refine go_set (i := 5) (ex_fst (ex_ix (ex_var (pv 0) rfl) (ex_var (pv 4) rfl) rd_dat (keyAt_eq hyb))) sc_standing_nexts.nd rfl (Or.inl rfl) ?_
      refine go_ifJ (r2 := [.dat (is K x.1), .dat (is K x.2), .own (dicC K (snStep x.1 s y).1), .own (dicC K s.2), .dat (is K y), .dat (is K (keyAt x.1 y))]) (tx_cmp (q_din (hu_of hr) (ex_var (pv 5) rfl) (ex_own (pv 3) rfl) (dr_sl (dc_own rfl)))) (fun hd => ?_) (fun hd => ?_) ?_
      · obtain ⟨j, hj⟩ := Option.isSome_iff_exists.mp hd
        have hjj : dget s.2 (Sum.inr (keyAt x.1 y)) = some j := hj
        refine go_dput (xs := s.1) (sl := .own (dicC K s.1)) (hu_of hr) (pv 2) (ex_var (pv 4) rfl) (ex_dget (hu_of hr) (ex_own (pv 3) rfl) (ex_var (pv 5) rfl) (dr_sl (dc_own rfl)) hj) (dc_own rfl) (dc_own rfl) (Evl.sz_lt (by omega)) (go_nil fun σ F H k => ?_)
        have e : (snStep x.1 s y).1 = dput s.1 (Sum.inl j) y := by
          unfold snStep
          rw [hjj]
        rw [e]
        exact k
      · refine go_nil fun σ F H k => ?_
        have hn : dget s.2 (Sum.inr (keyAt x.1 y)) = none := by
          cases q : dget s.2 (Sum.inr (keyAt x.1 y)) with
          | none => rfl
          | some j => exact absurd (show (dget s.2 (Sum.inr (keyAt x.1 y))).isSome = false from hd) (by rw [q]; simp)
        have e : (snStep x.1 s y).1 = s.1 := by
          unfold snStep
          rw [hn]
        rw [e]
        exact k
      · refine go_dput (xs := s.2) (sl := .own (dicC K s.2)) (hu_of hr) (pv 3) (ex_var (pv 4) rfl) (ex_var (pv 5) rfl) (dc_own rfl) (dc_own rfl) (Evl.sz_lt (by omega)) (go_nil fun σ F H k => k.weak ?_)
        exact .same _ (.same _ (.same _ (.same _ (.drop _ (.drop _ .nil)))))
  · subst he
    refine go_frz (i := 2) rfl dic_frz ?_
    exact go_retD hB (ex_var (pv 2) rfl) (fun _ _ h => h) (io0 hI)

theorem sn_some {log : Log} : ∀ (st : List Int) (s : SnS), (∀ k j, dget s.1 k = some j → True) → True := fun _ _ _ => trivial

theorem ok_removed_by {f : Addr} {fd : FuncData} (T : Tx K mg) (G_standing_nexts : Fn P w K mg base "standing_nexts" 1 ["log", "standing"] (spOf (S_standing_nexts K))) (F : FunD K "removed_by" "removed_by" (defArgs s_removed_by) (defBody s_removed_by) (defScope s_removed_by) [] [] f fd) : FnOk P w K mg base CX0 2 f fd ["log", "rounds"] (spOf (S_removed_by K)) := by
  refine fn_ok F sc_removed_by (fun _ => rfl) (hb := fun cdv A outer s H E hr x hx B hB hI => ?_)
  have hx : x.1.length ≤ 1000 ∧ GoodRounds x.1.length x.2 := hx
  have hx1 := hx.1
  refine go_set (i := 2) (ex_frzL (ex_listRange T.b_list T.b_range (ex_len T.b_len (ex_var (pv 0) rfl) rd_dat) (by omega))) sc_removed_by.nd rfl (Or.inl rfl) ?_
  refine go_set (i := 3) (ex_lst (xs := ([] : List (List Int))) ax_nil rfl) sc_removed_by.nd rfl (Or.inl rfl) ?_
  refine go_fold (vs := [4]) (rmStep x.1) (rangeI 0 x.1.length, []) (RmI x.1) (fun s => [.dat (is K x.1), .dat (is K x.2), .dat (is K s.1), .own (lstC K s.2), .un, .un, .un, .un, .un, .un, .un, .un]) (fun s y => [.dat (is K x.1), .dat (is K x.2), .dat (is K s.1), .own (lstC K s.2), .dat (is K y), .un, .un, .un, .un, .un, .un, .un]) (src_list (ex_var (pv 1) rfl)) (pg_name (i := 4) sc_removed_by.nd rfl (Or.inr rfl)) (fun s y => bnd_name) (Weak.refl _) ⟨?_, rfl, ?_⟩ (fun i y s hy he hi => ?_) fun s he hi => ?_
  · unfold rangeI; simp
  · intro p hp
    obtain ⟨j, hj⟩ := List.getElem?_of_mem hp
    have z := rangeI_get hj
    omega
  · have hyy := hx.2.ok y (List.mem_of_getElem? hy)
    have hil : i < x.2.length := (List.getElem?_eq_some_iff.mp hy).1
    have hxl := hx.2.len
    have hi1 := hi.l1
    have hi2 := hi.l2
    have hyl := hyy.len
    constructor
    · refine ⟨Nat.le_trans (List.length_filter_le _ _) hi.l1, ?_, fun p hp => hi.b p (List.mem_filter.mp hp).1⟩
      show (s.2 ++ [_]).length = i + 1
      rw [List.length_append, hi.l2]; rfl
    · refine go_set (i := 5) (ex_call (S := S_standing_nexts K) G_standing_nexts (hr.mono (by decide)) (_, _) (ax_cons (ex_var (pv 0) rfl) (ax_cons (ex_var (pv 2) rfl) ax_nil)) ⟨by show s.1.length ≤ 1000; omega, hi.b⟩) sc_removed_by.nd rfl (Or.inr rfl) ?_
      refine go_setLc (i := 6) (lc_ok (own := [("at", 8)]) (p := fun at_ => (dget (standingNexts x.1 s.1) (Sum.inl at_)).isSome && y.any fun r => decide (r.1 ≤ at_) && decide ((dget (standingNexts x.1 s.1) (Sum.inl at_)).getD 0 ≤ r.2)) (src_list (ex_var (pv 2) rfl)) (fun _ _ _ _ _ => (pg_name (i := 8) sc_removed_by.nd rfl (Or.inr rfl))) (fun x hm => bd_name) (fun z hm _ _ _ _ _ => tsx_one (tx_eqT (wx_and (tx_cmp (q_din (hu_of hr) (ex_var (pv 8) rfl) (ex_var (pv 5) rfl) dr_dat)) (fun hh => (wx_and1 (tx_val (ex_any T.b_any (ex_lcO (lc_ok (own := [("a", 9), ("b", 10)]) (src_list (ex_var (pv 4) rfl)) (fun _ _ _ _ _ => (pg_tup rfl (pgs_cons (pg_name (i := 9) sc_removed_by.nd rfl (Or.inl rfl)) (pgs_cons (pg_name (i := 10) sc_removed_by.nd rfl (Or.inl rfl)) pgs_nil)))) (fun x hm => bd_pair) (fun x hm _ _ _ _ _ => tsx_nil) (fun q hm hp _ _ _ _ _ => (ex_and (ex_cmp (q_le (ex_var (pv 9) rfl) (ex_var (pv 8) rfl))) fun hh2 => (ex_one (ex_cmp (q_le (ex_dget (hu_of hr) (ex_var (pv 5) rfl) (ex_var (pv 8) rfl) dr_dat (y := (dget (standingNexts x.1 s.1) (Sum.inl z)).getD 0) ?_) (ex_var (pv 10) rfl)))))) (Evl.sz_lt (by omega))) (blkOk_by (own := [("a", 9), ("b", 10)]) (N := sc_removed_by_N) (by rfl)) sc_removed_by.nd) rd_new)))) (fun _ => rfl)).t ?_)) (fun x hm hp _ _ _ _ _ => (ex_var (pv 8) rfl)) (Evl.sz_lt (by omega))) (blkOk_by (own := [("at", 8)]) (N := sc_removed_by_N) (sc := defScope s_removed_by) (by decide +kernel)) sc_removed_by.nd rfl rfl (sw_true rfl rfl rfl (by decide +kernel)) ?_
      · obtain ⟨j, hj⟩ := Option.isSome_iff_exists.mp hh
        have hjj : dget (standingNexts x.1 s.1) (Sum.inl z) = some j := hj
        show dget (standingNexts x.1 s.1) (Sum.inl z) = _
        rw [hjj]; rfl
      · simp only [List.any_map, flt_true]; rfl
      refine go_frz (i := 6) rfl lst_frz ?_
      refine go_set (i := 7) (ex_frzD (ex_dcO (dc_ok (κ := Int) (own := [("position", 11)]) (src_list (ex_var (pv 6) rfl)) (fun _ _ _ _ _ => (pg_name (i := 11) sc_removed_by.nd rfl (Or.inl rfl))) (fun x hm => bd_name) (fun x hm _ _ _ _ _ => tsx_nil) (fun x hm hp _ _ _ _ _ => (ex_var (pv 11) rfl)) (fun x hm hp _ _ _ _ _ => ex_bl) (Evl.sz_lt ?_)) (blkOk_by (own := [("position", 11)]) (N := sc_removed_by_N) (sc := defScope s_removed_by) (by decide +kernel)) sc_removed_by.nd)) sc_removed_by.nd rfl (Or.inr rfl) ?_
      · rw [List.length_map]
        exact Nat.lt_of_le_of_lt (List.length_filter_le _ _) (by omega)
      refine go_setLc (i := 2) (lc_ok (own := [("position", 11)]) (src_list (ex_var (pv 2) rfl)) (fun _ _ _ _ _ => (pg_name (i := 11) sc_removed_by.nd rfl (Or.inl rfl))) (fun x hm => bd_name) (fun x hm _ _ _ _ _ => (tsx_one (tx_cmp (q_dnotin (hu_of hr) (ex_var (pv 11) rfl) (ex_var (pv 7) rfl) dr_dat)))) (fun x hm hp _ _ _ _ _ => (ex_var (pv 11) rfl)) (Evl.sz_lt (by omega))) (blkOk_by (own := [("position", 11)]) (N := sc_removed_by_N) (sc := defScope s_removed_by) (by decide +kernel)) sc_removed_by.nd rfl rfl (sw_true rfl rfl rfl (by decide +kernel)) ?_
      refine go_frz (i := 2) rfl lst_frz ?_
      refine go_app (xs0 := s.2) (xs := s.2) (pv 3) (ex_var (pv 6) rfl) (ls_own rfl) (ls_own rfl) (Evl.sz_lt (by omega)) (go_nil fun σ F H k => ?_)
      have e1 : ∀ l : List Int, (l.map fun p => p) = l := fun l => List.map_id' l
      have k2 := k.weak (r' := [.dat (is K x.1), .dat (is K x.2), _, _, .un, .un, .un, .un, .un, .un, .un, .un]) (.same _ (.same _ (.same _ (.same _ (.drop _ (.drop _ (.drop _ (.drop _ (.same _ (.same _ (.same _ (.same _ .nil))))))))))))
      simp only [e1] at k2
      exact k2
  · subst he
    refine go_frz (i := 3) rfl lst_frz ?_
    exact go_retD hB (ex_var (pv 3) rfl) (fun _ _ h => h) (io0 hI)

theorem ok_after {f : Addr} {fd : FuncData} (T : Tx K mg) (G_check_log : Fn P w K mg base "check_log" 5 ["log"] (spOf (S_check_log K))) (G_check_rounds : Fn P w K mg base "check_rounds" 5 ["log", "rounds"] (spOf (S_check_rounds K))) (G_removed_by : Fn P w K mg base "removed_by" 2 ["log", "rounds"] (spOf (S_removed_by K))) (F : FunD K "after" "after" (defArgs s_after) (defBody s_after) (defScope s_after) [] [] f fd) : FnOk P w K mg base CX0 6 f fd ["log", "rounds"] (spOf (S_after K)) := by
  refine fn_ok F sc_after (fun _ => rfl) (hb := fun cdv A outer s H E hr x hx B hB hI => ?_)
  have hx : GoodLog x.1 ∧ GoodRounds x.1.length x.2 := hx
  refine go_expr (ex_call (S := S_check_log K) G_check_log (hr.mono (by decide)) _ (ax_cons (ex_var (pv 0) rfl) ax_nil) hx.1) ?_
  refine go_expr (ex_call (S := S_check_rounds K) G_check_rounds (hr.mono (by decide)) (_, _) (ax_cons (ex_var (pv 0) rfl) (ax_cons (ex_var (pv 1) rfl) ax_nil)) hx.2) ?_
  exact go_retD hB (ex_call (S := S_removed_by K) G_removed_by (hr.mono (by decide)) (_, _) (ax_cons (ex_var (pv 0) rfl) (ax_cons (ex_var (pv 1) rfl) ax_nil)) ⟨hx.1.len, hx.2⟩) (fun _ _ h => h) (io0 hI)
end
end M

namespace M
open PySem L2 DL
section
variable {P : Program} {w : World} {K : PySem.W.Frag} {mg : Str → Option Value} {base : Heap}
/-! ### the laws' draws -/
def crateC (n : Nat) : Ct := ⟨fun _ o => ∃ a b k : Int, o = .lst [.int a, .int b, .int k] ∧ 0 ≤ a ∧ 0 ≤ b ∧ b < 10 ^ 41 ∧ 0 ≤ k ∧ k ≤ n, fun _ h => h⟩
theorem crateC_up {n m : Nat} (h : n ≤ m) : ∀ F o, (crateC n).c F o → (crateC m).c F o := fun _ _ ⟨a, b, k, h1, h2, h3, h4, h5, h6⟩ => ⟨a, b, k, h1, h2, h3, h4, h5, by omega⟩
def S_crate (K : PySem.W.Frag) : Spec (Scr × Int) := ⟨fun x => x.1.l.length ≤ 63 ∧ 0 ≤ x.2 ∧ x.2 ≤ 1000, fun (a, b) => [.dat (is K a), .dat (is K b)], fun _ => .new (crateC 0), fun _ => []⟩
def S_grab (K : PySem.W.Frag) : Spec (Nat × Int) := ⟨fun x => x.1 ≤ 1000000000 ∧ 1 ≤ x.2 ∧ x.2 ≤ 1000000000, fun (n, s) => [.io (crateC n), .dat (is K s)], fun (n, s) => .dat (some_ K fun d : Int => 0 ≤ d ∧ d < s), fun (n, s) => [crateC (n + 1)]⟩
theorem p18 : (10 : Int) ^ (18 : Int).toNat = 1000000000000000000 := by decide +kernel
theorem p38 : (10 : Int) ^ (38 : Int).toNat = 100000000000000000000000000000000000000 := by decide +kernel
theorem p39 : (10 : Int) ^ (39 : Int).toNat = 1000000000000000000000000000000000000000 := by decide +kernel
theorem p40 : (10 : Int) ^ (40 : Int).toNat = 10000000000000000000000000000000000000000 := by decide +kernel
theorem ok__law_crate {f : Addr} {fd : FuncData} (T : Tx K mg) (F : FunD K "_law_crate" "_law_crate" (defArgs s__law_crate) (defBody s__law_crate) (defScope s__law_crate) [] [] f fd) : FnOk P w K mg base CX0 1 f fd ["script", "at"] (spOf (S_crate K)) := by
  refine fn_ok F sc__law_crate (fun _ => rfl) (hb := fun cdv A outer s H E hr x hx B hB hI => ?_)
  obtain ⟨scr, at_⟩ := x
  have hx : scr.l.length ≤ 63 ∧ 0 ≤ at_ ∧ at_ ≤ 1000 := hx
  refine go_set (i := 2) (x := .dat (is K (if at_ < (scr.l.length : Int) then scr.l.getD at_.toNat default else 0))) (ex_if (tx_cmp (q_lt (ex_var (pv 1) rfl) (ex_lenScr T.b_len (ex_var (pv 0) rfl)))) (fun hh => ex_eq (ex_ixScr (ex_var (pv 0) rfl) (ex_var (pv 1) rfl) (atI_getD ⟨hx.2.1, of_decide_eq_true hh⟩)) (by rw [if_pos (of_decide_eq_true hh)])) (fun hh => ex_eq ex_int (by rw [if_neg (of_decide_eq_false hh)]))) sc__law_crate.nd rfl (Or.inl rfl) ?_
  generalize (if at_ < (scr.l.length : Int) then scr.l.getD at_.toNat default else 0) = c
  refine go_retN hB (ex_lst (ax_cons (ex_max2 T.b_max ex_int (ex_sub (ex_abs T.b_abs (ex_var (pv 2) rfl)) (ex_pow ex_int ex_int (by unfold CPowW; decide +kernel)))) (ax_cons (ex_add (ex_add (ex_mul (ex_mod (ex_int1 T.b_int (ex_var (pv 2) rfl)) (ex_add (ex_pow ex_int ex_int (by unfold CPowW; decide +kernel)) ex_int) (by rw [p38]; decide)) ex_int (.inr ⟨by decide, by decide⟩)) (ex_mul ex_int (ex_var (pv 1) rfl) (.inl ⟨by decide, by decide⟩))) ex_int) (ax_cons ex_int ax_nil))) (xs := [_, _, (0 : Int)]) rfl (hl := by show 3 ≤ sizeLine; decide)) (fun F o ⟨vs, e, a⟩ => ?_) (io0 hI)
  rw [e, all2_int a]
  refine ⟨_, _, 0, rfl, ?_, ?_, ?_, Int.le_refl _, Int.le_refl _⟩
  · split <;> omega
  · rw [p38]; omega
  · rw [p38]; have := hx.2.2; omega

theorem ok__law_grab {f : Addr} {fd : FuncData} (T : Tx K mg) (F : FunD K "_law_grab" "_law_grab" (defArgs s__law_grab) (defBody s__law_grab) (defScope s__law_grab) [] [] f fd) : FnOk P w K mg base CX0 1 f fd ["crate", "span"] (spOf (S_grab K)) := by
  refine fn_ok F sc__law_grab (fun _ => rfl) (hb := fun cdv A outer s H E hr x hx B hB hI => ?_)
  obtain ⟨n, sp⟩ := x
  have hx : n ≤ 1000000000 ∧ 1 ≤ sp ∧ sp ≤ 1000000000 := hx
  refine go_openC (i := 0) (ι := Int × Int × Int) (c := fun t => 0 ≤ t.1 ∧ 0 ≤ t.2.1 ∧ t.2.1 < 10 ^ 41 ∧ 0 ≤ t.2.2 ∧ t.2.2 ≤ n) (Ci := fun t => lstC K [t.1, t.2.1, t.2.2]) rfl (.inr ⟨0, rfl⟩) (fun F o ⟨a, b, k, e, h1, h2, h3, h4, h5⟩ => ⟨(a, b, k), ⟨h1, h2, h3, h4, h5⟩, _, e, .cons rfl (.cons rfl (.cons rfl .nil))⟩) fun ⟨a, b, k⟩ hc => ?_
  have hc : 0 ≤ a ∧ 0 ≤ b ∧ b < 10 ^ 41 ∧ 0 ≤ k ∧ k ≤ n := hc
  have cv : ∀ {a' b' k' : Int} {m : Nat}, 0 ≤ a' → 0 ≤ b' → b' < 10 ^ 41 → 0 ≤ k' → k' ≤ m → ∀ F o, (lstC K [a', b', k']).c F o → (crateC m).c F o := fun {a' b' k' m} h1 h2 h3 h4 h5 F o ⟨vs, e, al⟩ => ⟨a', b', k', by rw [e, all2_int al]; rfl, h1, h2, h3, h4, h5⟩
  refine go_ifR (tx_cmp (q_gt (ex_ix (y := a) (ex_own (pv 0) rfl) ex_int (rd_io rfl) rfl) ex_int)) (fun hd => ?_) fun hd => ?_
  · refine go_set (i := 2) (ex_mod (ex_int1 T.b_int (ex_ix (y := a) (ex_own (pv 0) rfl) ex_int (rd_io rfl) rfl)) (ex_var (pv 1) rfl) (by omega)) sc__law_grab.nd rfl (Or.inl rfl) ?_
    refine go_setL (xs := [a, b, k]) (xs1 := [a, b, k]) (pv 0) (ex_fdiv (ex_ix (y := a) (ex_own (pv 0) rfl) ex_int (rd_io rfl) rfl) (ex_var (pv 1) rfl) (by omega)) ex_int (ls_io rfl) (ls_io rfl) (by simp) ?_
    refine go_cv (r1 := [.io 0 (crateC (n + 1)), .dat (is K sp), .dat (is K (a % sp)), .un]) (.io 0 (cv (a' := a / sp) (b' := b) (k' := k) (Int.ediv_nonneg hc.1 (by omega)) hc.2.1 hc.2.2.1 hc.2.2.2.1 (by have := hc.2.2.2.2; omega)) (.same _ (.same _ (.same _ .nil)))) ?_
    exact go_retD hB (ex_var (pv 2) rfl) (fun F v h => ⟨a % sp, ⟨Int.emod_nonneg _ (by omega), Int.emod_lt_of_pos _ (by omega)⟩, h⟩) (io1 (i := 0) hI rfl)
  · refine go_setL (xs := [a, b, k]) (xs1 := [a, b, k]) (pv 0) (ex_add (ex_ix (y := k) (ex_own (pv 0) rfl) ex_int (rd_io rfl) rfl) ex_int) ex_int (ls_io rfl) (ls_io rfl) (by simp) ?_
    refine go_env (r1 := [.io 0 (lstC K [a, b, k + 1]), .dat (is K sp), .un, .un]) ?_ rfl
    have hb1 : (b + 70003 * (k + 1)).natAbs < 2 ^ 200 := by
      have h1 := hc.2.2.1
      have h2 := hc.2.2.2.2
      have e : (2 : Nat) ^ 200 = 1606938044258990275541962092341162602522202993782792835301376 := by decide +kernel
      have e2 : (10 : Int) ^ 41 = 100000000000000000000000000000000000000000 := by decide +kernel
      omega
    have hp1 : CPowW (b + 70003 * (k + 1)) 2 := by
      refine ⟨by decide, ?_⟩
      have := PyProof.Rows.intBits_le hb1
      have e : (2 : Int) ^ 27 = 134217728 := by decide +kernel
      rw [e]; omega
    refine go_set (i := 3) (ex_mod (ex_pow (ex_int1 T.b_int (ex_add (ex_ix (y := b) (ex_own (pv 0) rfl) ex_int (rd_io rfl) rfl) (ex_mul ex_int (ex_ix (y := k + 1) (ex_own (pv 0) rfl) ex_int (rd_io rfl) rfl) (.inl ⟨by decide, by decide⟩)))) ex_int hp1) (ex_add (ex_pow ex_int ex_int (by unfold CPowW; decide +kernel)) ex_int) (by rw [p39]; decide)) sc__law_grab.nd rfl (Or.inl rfl) ?_
    have hch : ∀ z : Int, 0 ≤ z % ((10 : Int) ^ (39 : Int).toNat + 19) ∧ z % ((10 : Int) ^ (39 : Int).toNat + 19) < 10000000000000000000000000000000000000000 := fun z => by rw [p39]; omega
    have hz := hch ((b + 70003 * (k + 1)) ^ (2 : Int).toNat)
    generalize hg : (b + 70003 * (k + 1)) ^ (2 : Int).toNat % ((10 : Int) ^ (39 : Int).toNat + 19) = ch at hz
    refine go_env (r1 := [.io 0 (lstC K [a, b, k + 1]), .dat (is K sp), .un, .dat (is K ch)]) ?_ (by rw [← hg]; rfl)
    have hb2 : (ch + 300007 * (k + 1)).natAbs < 2 ^ 200 := by
      have h2 := hc.2.2.2.2
      have e : (2 : Nat) ^ 200 = 1606938044258990275541962092341162602522202993782792835301376 := by decide +kernel
      omega
    have hp2 : CPowW (ch + 300007 * (k + 1)) 3 := by
      refine ⟨by decide, ?_⟩
      have := PyProof.Rows.intBits_le hb2
      have e : (2 : Int) ^ 27 = 134217728 := by decide +kernel
      rw [e]; omega
    refine go_set (i := 3) (ex_mod (ex_pow (ex_int1 T.b_int (ex_add (ex_var (pv 3) rfl) (ex_mul ex_int (ex_ix (y := k + 1) (ex_own (pv 0) rfl) ex_int (rd_io rfl) rfl) (.inl ⟨by decide, by decide⟩)))) ex_int hp2) (ex_add (ex_pow ex_int ex_int (by unfold CPowW; decide +kernel)) ex_int) (by rw [p40]; decide)) sc__law_grab.nd rfl (Or.inl rfl) ?_
    generalize (ch + 300007 * (k + 1)) ^ (3 : Int).toNat % ((10 : Int) ^ (40 : Int).toNat + 171) = c2
    refine go_cv (r1 := [.io 0 (crateC (n + 1)), .dat (is K sp), .un, .dat (is K c2)]) (.io 0 (cv hc.1 hc.2.1 hc.2.2.1 (by omega) (by have := hc.2.2.2.2; omega)) (.same _ (.same _ (.same _ .nil)))) ?_
    exact go_retD hB (ex_mod (ex_fdiv (ex_var (pv 3) rfl) ex_int (by omega)) (ex_var (pv 1) rfl) (by omega)) (fun F v h => ⟨_, ⟨Int.emod_nonneg _ (by omega), Int.emod_lt_of_pos _ (by omega)⟩, h⟩) (io1 (i := 0) hI rfl)
/-- the draw as an expression -/
theorem ex_grab {X : Cx} {B : Bs} {e0 a : Expr} {r r1 : List Sl} {i : Nat} {sl : Sl} {n : Nat} {cs : Int → Prop} {p pos : Pos} {kl : Nat} (G : Fn X.prog X.w X.K X.mg X.base "_law_grab" 1 ["crate", "span"] (spOf (S_grab X.K))) (hr : Room kl X.A) (hk : 1 ≤ kl) (h0 : Ex X B e0 r (.slot i) r) (ha : Ex X B a r (.dat (some_ X.K cs)) r1)
    (hi : r1[i]? = some sl) (hsl : sl = .own (crateC n) ∨ ∃ j, sl = .io j (crateC n)) (hs : ∀ s, cs s → 1 ≤ s ∧ s ≤ 1000000000) (hn : n ≤ 1000000000)
    (hg : Gl X "_law_grab" := by rfl) (he : starEach [e0, a] X.env = (false, eval e0 X.env) :: starEach [a] X.env := by rfl) (he2 : starEach [a] X.env = (false, eval a X.env) :: starEach [] X.env := by rfl) (hpl : (backTo pos (starEach [a] X.env)).any (·.1) = false := by rfl) :
    Ex X B (.Call (.Name "_law_grab" p) [e0, a] [] pos) r (.dat (some_ X.K fun d : Int => ∃ s, cs s ∧ 0 ≤ d ∧ d < s)) (r1.set i (sl.put (crateC (n + 1)))) :=
  ex_callIO (S := S_grab X.K) (C := crateC n) (Ps := [some_ X.K cs]) G (hr.mono hk) (ax_cons h0 (ax_cons ha ax_nil he2) he) hi hsl (fun F vs h => by
    cases h with
    | cons h t =>
      cases t
      obtain ⟨s, c, w⟩ := h
      exact ⟨(n, s), [is X.K s], ⟨hn, hs s c⟩, rfl, .cons w .nil, rfl, fun F v ⟨d, h1, h2⟩ => ⟨d, ⟨s, c, h1⟩, h2⟩⟩) hg (by decide) he hpl
/-- .. of a known span -/
theorem ex_grabI {X : Cx} {B : Bs} {e0 a : Expr} {r r1 : List Sl} {i : Nat} {sl : Sl} {n : Nat} {s : Int} {p pos : Pos} {kl : Nat} (G : Fn X.prog X.w X.K X.mg X.base "_law_grab" 1 ["crate", "span"] (spOf (S_grab X.K))) (hr : Room kl X.A) (hk : 1 ≤ kl) (h0 : Ex X B e0 r (.slot i) r) (ha : Ex X B a r (.dat (is X.K s)) r1)
    (hi : r1[i]? = some sl) (hsl : sl = .own (crateC n) ∨ ∃ j, sl = .io j (crateC n)) (hs : 1 ≤ s ∧ s ≤ 1000000000) (hn : n ≤ 1000000000)
    (hg : Gl X "_law_grab" := by rfl) (he : starEach [e0, a] X.env = (false, eval e0 X.env) :: starEach [a] X.env := by rfl) (he2 : starEach [a] X.env = (false, eval a X.env) :: starEach [] X.env := by rfl) (hpl : (backTo pos (starEach [a] X.env)).any (·.1) = false := by rfl) :
    Ex X B (.Call (.Name "_law_grab" p) [e0, a] [] pos) r (.dat (some_ X.K fun d : Int => 0 ≤ d ∧ d < s)) (r1.set i (sl.put (crateC (n + 1)))) :=
  ex_smi (ex_grab (cs := fun z => z = s) G hr hk h0 (ex_sm ha rfl) hi hsl (fun z e => by rw [e]; exact hs) hn hg he he2 hpl) fun d ⟨z, e, h⟩ => by rw [← e]; exact h
end
end M

namespace M
open PySem L2 DL
section
variable {P : Program} {w : World} {K : PySem.W.Frag} {mg : Str → Option Value} {base : Heap}
/-! ### drawn keys -/
def Lt (z : Str) : Prop := ∀ c, c ∈ z.cps.toList → c ∈ letters.cps.toList
def ltr (i : Int) : Str := ⟨#[letters.cps.toList.getD i.toNat default]⟩
theorem letters_len : letters.cps.toList.length = 26 := by decide +kernel
theorem key_mk {z : Str} (h1 : 0 < z.length) (h2 : z.length ≤ 8) (h3 : Lt z) : keyB z = true := by
  unfold keyB
  simp only [Bool.and_eq_true, decide_eq_true_eq, List.all_eq_true]
  exact ⟨⟨by omega, by omega⟩, h3⟩
theorem key_of {z : Str} (h : keyB z = true) : 0 < z.length ∧ z.length ≤ 8 ∧ Lt z := by
  unfold keyB at h
  simp only [Bool.and_eq_true, decide_eq_true_eq, List.all_eq_true] at h
  exact ⟨by omega, by omega, h.2⟩
theorem cps_app (a b : Str) : (a ++ b).cps = a.cps ++ b.cps := rfl
theorem len_app (a b : Str) : (a ++ b).length = a.length + b.length := by show (a.cps ++ b.cps).size = _; rw [Array.size_append]; rfl
theorem lt_app {a b : Str} (ha : Lt a) (hb : Lt b) : Lt (a ++ b) := fun c h => by
  rw [cps_app, Array.toList_append] at h
  rcases List.mem_append.mp h with h | h
  · exact ha c h
  · exact hb c h
theorem at_ltr {i : Int} (h : 0 ≤ i ∧ i < 26) : L2.atI letters.cps.toList i = some (letters.cps.toList.getD i.toNat default) := atI_getD (by rw [letters_len]; exact h)
theorem lt_one {c : Nat} (h : c ∈ letters.cps.toList) : Lt ⟨#[c]⟩ := fun d hd => by
  have e : d = c := by simpa using hd
  rw [e]; exact h
theorem getD_mem {α : Type} {l : List α} {d : α} {n : Nat} (h : n < l.length) : l.getD n d ∈ l := by
  have e : l.getD n d = l[n] := by simp [List.getD, h]
  rw [e]; exact List.getElem_mem h
theorem lt_ltr {i : Int} (h : 0 ≤ i ∧ i < 26) : Lt (ltr i) := lt_one (getD_mem (by rw [letters_len]; omega))
theorem len_ltr (i : Int) : (ltr i).length = 1 := rfl
theorem lt_cut {z : Str} {lo hi : Option Int} (h : Lt z) : Lt (L2.cutS z lo hi) := fun c hc => by
  have hc : c ∈ (List.take (HT.sIx z.length z.length hi - HT.sIx z.length 0 lo) (List.drop (HT.sIx z.length 0 lo) z.cps.toList)) := by
    have e : (L2.cutS z lo hi).cps.toList = (List.take (HT.sIx z.length z.length hi - HT.sIx z.length 0 lo) (List.drop (HT.sIx z.length 0 lo) z.cps.toList)) := by unfold L2.cutS; simp
    rw [← e]; exact hc
  exact h c (List.mem_of_mem_drop (List.mem_of_mem_take hc))
theorem len_cut {z : Str} {lo hi : Option Int} : (L2.cutS z lo hi).length ≤ HT.sIx z.length z.length hi := by
  show (List.toArray _).size ≤ _
  rw [List.size_toArray, List.length_take]
  omega
theorem sIx7 (n : Nat) : HT.sIx n n (some 7) ≤ 7 := by simp [HT.sIx, PySem.clipAt] <;> omega
theorem sIxm1 (n : Nat) : HT.sIx n n (some (-1)) ≤ n - 1 := by simp [HT.sIx, PySem.clipAt] <;> omega
theorem lt_join : ∀ {ys : List Str}, (∀ y, y ∈ ys → Lt y) → Lt (Str.join "" ys)
  | [], _ => fun c h => by
    have h : c ∈ ([] : List Nat) := h
    cases h
  | [y], h => h y (by simp)
  | y :: z :: r, h => by
    show Lt (y ++ "" ++ Str.join "" (z :: r))
    refine lt_app (lt_app (h y (by simp)) fun c hc => ?_) (lt_join fun x hx => h x (by simp [hx]))
    have hc : c ∈ ([] : List Nat) := hc
    cases hc
theorem len_join : ∀ {ys : List Str}, (∀ y, y ∈ ys → y.length = 1) → (Str.join "" ys).length = ys.length
  | [], _ => rfl
  | [y], h => h y (by simp)
  | y :: z :: r, h => by
    show (y ++ "" ++ Str.join "" (z :: r)).length = _
    rw [len_app, len_app, h y (by simp), len_join fun x hx => h x (by simp [hx])]
    show 1 + 0 + _ = _
    simp only [List.length_cons]
    omega
theorem sum_ones : ∀ {ys : List Str}, (∀ y, y ∈ ys → y.length = 1) → (ys.map (·.length)).sum = ys.length
  | [], _ => rfl
  | y :: r, h => by
    have := sum_ones fun x hx => h x (List.mem_cons_of_mem y hx)
    simp only [List.map_cons, List.sum_cons, List.length_cons, h y (by simp), this]
    omega
theorem hu64 {A : Around} {k : Nat} (hr : Room k A) : A.units + 64 < cLine := by have := hr.un; omega
def keyNum (n : Int) : Str := ltr (n % 26) ++ ltr (n / 26 % 26) ++ (["", "x"] : List Str).getD (n % 2).toNat default
theorem keyNum_ok (n : Int) : keyB (keyNum n) = true := by
  have h : ∀ k : Int, 0 ≤ k % 26 ∧ k % 26 < 26 := fun k => ⟨Int.emod_nonneg _ (by decide), Int.emod_lt_of_pos _ (by decide)⟩
  have e : n % 2 = 0 ∨ n % 2 = 1 := by omega
  unfold keyNum
  rcases e with e | e <;> rw [e]
  · refine key_mk ?_ ?_ (lt_app (lt_app (lt_ltr (h _)) (lt_ltr (h _))) fun c hc => ?_)
    · rw [len_app, len_app, len_ltr, len_ltr]; omega
    · rw [len_app, len_app, len_ltr, len_ltr]; decide
    · have hc : c ∈ ([] : List Nat) := hc
      cases hc
  · refine key_mk ?_ ?_ (lt_app (lt_app (lt_ltr (h _)) (lt_ltr (h _))) (lt_one (by decide +kernel)))
    · rw [len_app, len_app, len_ltr, len_ltr]; omega
    · rw [len_app, len_app, len_ltr, len_ltr]; decide
theorem sz_l : letters.length ≤ sizeLine := by show 26 ≤ sizeLine; decide
def S_key (K : PySem.W.Frag) : Spec Int := ⟨fun n => 0 ≤ n, fun n => [.dat (is K n)], fun n => .dat (is K (keyNum n)), fun _ => []⟩
theorem ok__law_key {f : Addr} {fd : FuncData} (T : Tx K mg) (F : FunD K "_law_key" "_law_key" (defArgs s__law_key) (defBody s__law_key) (defScope s__law_key) [] [] f fd) : FnOk P w K mg base CX0 1 f fd ["number_here"] (spOf (S_key K)) := by
  refine fn_ok F sc__law_key (fun _ => rfl) (hb := fun cdv A outer s H E hr n hx B hB hI => ?_)
  have hx : 0 ≤ n := hx
  have h : ∀ k : Int, 0 ≤ k % 26 ∧ k % 26 < 26 := fun k => ⟨Int.emod_nonneg _ (by decide), Int.emod_lt_of_pos _ (by decide)⟩
  refine go_set (i := 1) (ex_str (i := letters)) sc__law_key.nd rfl (Or.inl rfl) ?_
  refine go_retD hB (ex_addS (ex_addS (ex_ixS (c := letters.cps.toList.getD (n % 26).toNat default) (ex_var (pv 1) rfl) (ex_mod (ex_var (pv 0) rfl) ex_int (by decide)) ⟨sz_l, at_ltr (h _)⟩) (ex_ixS (c := letters.cps.toList.getD (n / 26 % 26).toNat default) (ex_var (pv 1) rfl) (ex_mod (ex_fdiv (ex_var (pv 0) rfl) ex_int (by decide)) ex_int (by decide)) ⟨sz_l, at_ltr (h _)⟩) (by show 1 + 1 ≤ sizeLine; decide)) (ex_ix (ex_lst (xs := (["", "x"] : List Str)) (ax_cons ex_str (ax_cons ex_str ax_nil)) rfl (hl := by show 2 ≤ sizeLine; decide)) (ex_mod (ex_var (pv 0) rfl) ex_int (by decide)) rd_new (atI_getD ⟨Int.emod_nonneg _ (by decide), by show n % 2 < 2; omega⟩)) ?_) (fun _ _ h => h) (io0 hI)
  have e : n % 2 = 0 ∨ n % 2 = 1 := by omega
  rcases e with e | e <;> rw [e]
  · show 2 + 0 ≤ sizeLine; decide
  · show 2 + 1 ≤ sizeLine; decide
end
end M

namespace M
open PySem L2 DL
section
variable {P : Program} {w : World} {K : PySem.W.Frag} {mg : Str → Option Value} {base : Heap}
/-! ### drawn values, names, logs, spans -/
def S_any (K : PySem.W.Frag) : Spec Nat := ⟨fun n => n ≤ 100000000, fun n => [.io (crateC n)], fun _ => .dat (some_ K fun _ : Option Int => True), fun n => [crateC (n + 3)]⟩
theorem ok__law_any_value {f : Addr} {fd : FuncData} (T : Tx K mg) (G_grab : Fn P w K mg base "_law_grab" 1 ["crate", "span"] (spOf (S_grab K))) (F : FunD K "_law_any_value" "_law_any_value" (defArgs s__law_any_value) (defBody s__law_any_value) (defScope s__law_any_value) [] [] f fd) : FnOk P w K mg base CX0 2 f fd ["crate"] (spOf (S_any K)) := by
  refine fn_ok F sc__law_any_value (fun _ => rfl) (hb := fun cdv A outer s H E hr n hx B hB hI => ?_)
  have hx : n ≤ 100000000 := hx
  have sn : ∀ {e : Expr} {r r1 : List Sl} {X : Cx} (c : Int → Prop), Ex X B e r (.dat (some_ X.K c)) r1 → Ex X B e r (.dat (some_ X.K fun _ : Option Int => True)) r1 := fun c h => ex_imp h fun _ _ ⟨u, _, w⟩ => ⟨some u, trivial, w⟩
  refine go_set (i := 1) (ex_smf (ex_lstN (α := Option Int) (c := fun _ => True) (Ps := [some_ K fun _ : Option Int => True, some_ K fun _ : Option Int => True, some_ K fun _ : Option Int => True, some_ K fun _ : Option Int => True, some_ K fun _ : Option Int => True, some_ K fun _ : Option Int => True, some_ K fun _ : Option Int => True, some_ K fun _ : Option Int => True])
    (ax_cons (ex_sm (ex_non (α := Int)) trivial) (ax_cons (sn (fun _ => True) (ex_sm ex_int trivial)) (ax_cons (sn (fun _ => True) (ex_sm ex_int trivial)) (ax_cons (sn (fun _ => True) (ex_sm ex_int trivial)) (ax_cons (sn (fun _ => True) (ex_sm (ex_neg ex_int) trivial))
      (ax_cons (sn _ (ex_grabI (n := n) G_grab hr (by decide) (ex_own (pv 0) rfl) ex_int rfl (.inr ⟨0, rfl⟩) (by decide) (by omega)))
      (ax_cons (sn (fun _ => True) (ex_addN (ca := fun _ => True) (cz := fun _ => True) (ex_sm (ex_pow ex_int ex_int (by unfold CPowW; decide +kernel)) trivial) (ex_grabI (n := n + 1) G_grab hr (by decide) (ex_own (pv 0) rfl) ex_int rfl (.inr ⟨0, rfl⟩) (by decide) (by omega)) fun _ _ _ _ => trivial))
      (ax_cons (sn (fun _ => True) (ex_sm (ex_neg (ex_pow ex_int ex_int (by unfold CPowW; decide +kernel))) trivial)) ax_nil)))))))) (fun Q hQ F v h => by
        have e : Q = some_ K fun _ : Option Int => True := by simpa using hQ
        rw [e] at h; exact h) (by show 8 ≤ sizeLine; decide))) sc__law_any_value.nd rfl (Or.inl rfl) ?_
  refine go_retD (r := [.io 0 (crateC (n + 1 + 1)), .dat (some_ K fun xs : List (Option Int) => xs.length = 8 ∧ ∀ x ∈ xs, True)]) hB (ex_ixN (cz := fun _ => True) (ex_var (pv 1) rfl) (ex_grabI (n := n + 2) G_grab hr (by decide) (ex_own (pv 0) rfl) ex_int rfl (.inr ⟨0, rfl⟩) (by decide) (by omega)) fun xs i h1 h2 => ⟨_, atI_getD ⟨h2.1, by rw [h1.1]; exact h2.2⟩, trivial⟩) (fun _ _ h => h) (io1 (i := 0) hI rfl)
end
end M

namespace M
open PySem L2 DL
section
variable {P : Program} {w : World} {K : PySem.W.Frag} {mg : Str → Option Value} {base : Heap}
/-! ### drawn names -/
theorem strOk_lt {z : Str} (h : Lt z) : PyData.strOk z = true := by
  have hh : ∀ c, c ∈ letters.cps.toList → c < 1114112 := by decide +kernel
  unfold PyData.strOk
  rw [← Array.all_toList, List.all_eq_true]
  exact fun c hc => decide_eq_true (hh c (h c hc))
theorem ok_keys {s : List Str} (h : ∀ z, z ∈ s → keyB z = true) : Enc.ok s := fun z hz => strOk_lt (key_of (h z hz)).2.2
def S_names (K : PySem.W.Frag) : Spec (Nat × Int) := ⟨fun x => x.1 ≤ 10000000 ∧ 0 ≤ x.2 ∧ x.2 ≤ 20, fun (n, m) => [.io (crateC n), .dat (is K m)], fun (n, m) => .dat (some_ K fun s : List Str => s.length = m.toNat ∧ ∀ z, z ∈ s → keyB z = true), fun (n, m) => [crateC (n + 240)]⟩
abbrev nmE (K : PySem.W.Frag) (C : Ct) (many : Int) (s : List Str) (a4 a5 a6 a7 a8 a9 : Sl) : List Sl := [.io 0 C, .dat (is K many), .dat (is K letters), .own (lstC K s), a4, a5, a6, a7, a8, a9, .un]
def spareOf (sign k : Int) : List Str := (rangeI 0 26).map fun t => ltr ((sign + t) % 26) ++ ltr k
theorem spare_key {sign k : Int} (hk : 0 ≤ k ∧ k < 26) : ∀ z, z ∈ spareOf sign k → keyB z = true := fun z hz => by
  unfold spareOf at hz
  obtain ⟨t, _, e⟩ := List.mem_map.mp hz
  rw [← e]
  exact key_mk (by rw [len_app, len_ltr, len_ltr]; omega) (by rw [len_app, len_ltr, len_ltr]; omega) (lt_app (lt_ltr ⟨Int.emod_nonneg _ (by decide), Int.emod_lt_of_pos _ (by decide)⟩) (lt_ltr hk))
theorem ltr_inj {i j : Int} (hi : 0 ≤ i ∧ i < 26) (hj : 0 ≤ j ∧ j < 26) (h : letters.cps.toList.getD i.toNat default = letters.cps.toList.getD j.toNat default) : i = j := by
  have key : ∀ a b : Fin 26, letters.cps.toList.getD a.val default = letters.cps.toList.getD b.val default → a = b := by decide +kernel
  have := key ⟨i.toNat, by omega⟩ ⟨j.toNat, by omega⟩ h
  have := congrArg Fin.val this
  simp only at this
  omega
theorem spare_nodup {sign k : Int} : (spareOf sign k).Nodup := by
  unfold spareOf
  have hr : (rangeI 0 26).Nodup := by decide +kernel
  refine List.pairwise_map.mpr (hr.imp_of_mem ?_)
  intro a b ha hb hne e
  have ra : 0 ≤ a ∧ a < 26 := by
    obtain ⟨j, hj⟩ := List.getElem?_of_mem ha
    have := rangeI_get hj; omega
  have rb : 0 ≤ b ∧ b < 26 := by
    obtain ⟨j, hj⟩ := List.getElem?_of_mem hb
    have := rangeI_get hj; omega
  have e1 : (ltr ((sign + a) % 26) ++ ltr k).cps.toList = (ltr ((sign + b) % 26) ++ ltr k).cps.toList := by rw [e]
  have e2 : letters.cps.toList.getD ((sign + a) % 26).toNat default = letters.cps.toList.getD ((sign + b) % 26).toNat default := by
    have h : [letters.cps.toList.getD ((sign + a) % 26).toNat default, letters.cps.toList.getD k.toNat default] = [letters.cps.toList.getD ((sign + b) % 26).toNat default, letters.cps.toList.getD k.toNat default] := e1
    injection h
  have e3 := ltr_inj ⟨Int.emod_nonneg _ (by decide), Int.emod_lt_of_pos _ (by decide)⟩ ⟨Int.emod_nonneg _ (by decide), Int.emod_lt_of_pos _ (by decide)⟩ e2
  omega
theorem spare_len {sign k : Int} : (spareOf sign k).length = 26 := by unfold spareOf; rw [List.length_map]; decide +kernel
theorem spare_left {sign k : Int} {s : List Str} (h : s.length < 26) : 0 < ((spareOf sign k).filter fun w => !decide (w ∈ s)).length := by
  apply List.length_pos_iff.mpr
  intro e
  have : (spareOf sign k).length ≤ s.length := nodup_le spare_nodup fun x hx => by
    by_cases hm : x ∈ s
    · exact hm
    · have : x ∈ (spareOf sign k).filter fun w => !decide (w ∈ s) := List.mem_filter.mpr ⟨hx, by simp [hm]⟩
      rw [e] at this
      cases this
  rw [spare_len] at this
  omega
theorem ok__law_names {f : Addr} {fd : FuncData} (T : Tx K mg) (G_grab : Fn P w K mg base "_law_grab" 1 ["crate", "span"] (spOf (S_grab K))) (F : FunD K "_law_names" "_law_names" (defArgs s__law_names) (defBody s__law_names) (defScope s__law_names) [] [] f fd) : FnOk P w K mg base CX0 2 f fd ["crate", "many"] (spOf (S_names K)) := by
  refine fn_ok F sc__law_names (fun _ => rfl) (hb := fun cdv A outer s0 H E hr x hx B hB hI => ?_)
  obtain ⟨n, many⟩ := x
  have hx : n ≤ 10000000 ∧ 0 ≤ many ∧ many ≤ 20 := hx
  refine go_tup2 (i := 2) (j := 3) (ex_str (i := letters)) (ex_lst (xs := ([] : List Str)) ax_nil rfl) (pg_name (i := 2) sc__law_names.nd rfl (by first | exact .inl rfl | exact .inr rfl)) (pg_name (i := 3) sc__law_names.nd rfl (by first | exact .inl rfl | exact .inr rfl)) ?_
  refine go_for (S := List Str) (ι := List Str) (Rk := fun s => nmE K (crateC (n + 12 * s.length)) many s .un .un .un .un .un .un) (C := fun s => s.length = many.toNat ∧ ∀ z, z ∈ s → keyB z = true) (fun i s => s.length = i ∧ ∀ z, z ∈ s → keyB z = true) (fun s => nmE K (crateC (n + 12 * s.length)) many s .un .un .un .un .un .un) (fun s y => nmE K (crateC (n + 12 * s.length)) many s (.dat (is K y)) .un .un .un .un .un) (fun _ _ _ => False) (src_range1 T.b_range (ex_var (pv 1) rfl) ⟨by omega, by omega⟩) (pg_name (i := 4) sc__law_names.nd rfl (by first | exact .inl rfl | exact .inr rfl)) (fun i x s _ _ => bnd_name) [] (Weak.refl _) ⟨rfl, fun z hz => by simp at hz⟩ (fun i k s hk hj => ?_) (fun _ _ _ z => z.elim) (fun s hj => ⟨s, ⟨hj.1.trans (by unfold rangeI; simp), hj.2⟩, Weak.refl _⟩) fun s hs => ?_
  · obtain ⟨hk1, hk2⟩ := rangeI_get hk
    have hkk : 0 ≤ k ∧ k < 26 := by omega
    have hsl : s.length < 20 := by omega
    have hm : n + 12 * s.length ≤ 100000000 := by omega
    have hend : n + 12 * (s.length + 1) = n + 12 * s.length + 12 := by omega
    generalize n + 12 * s.length = m at hm hend
    refine go_tup2 (i := 5) (j := 6) (x := .dat (some_ K fun z : Int => 0 ≤ z ∧ z ≤ 7)) (y := .dat (some_ K fun z : Int => 0 ≤ z ∧ z < 26))
      (ex_ixN (cx := fun xs : List Int => xs.length = 3 ∧ ∀ z ∈ xs, 0 ≤ z ∧ z ≤ 7) (ex_smf (ex_lstN (c := fun z : Int => 0 ≤ z ∧ z ≤ 7) (Ps := [some_ K fun z : Int => 0 ≤ z ∧ z ≤ 7, some_ K fun z : Int => 0 ≤ z ∧ z ≤ 7, some_ K fun z : Int => 0 ≤ z ∧ z ≤ 7]) (ax_cons (ex_sm ex_int ⟨by decide, by decide⟩) (ax_cons (ex_sm ex_int ⟨by decide, by decide⟩) (ax_cons (ex_smi (ex_grabI (n := m) G_grab hr (by decide) (ex_own (pv 0) rfl) ex_int rfl (.inr ⟨0, rfl⟩) (by decide) (by omega)) fun z h => by omega) ax_nil))) (fun Q hQ F v h => by
        have e : Q = some_ K fun z : Int => 0 ≤ z ∧ z ≤ 7 := by simpa using hQ
        rw [e] at h; exact h) (by show 3 ≤ sizeLine; decide))) (ex_grabI (n := m + 1) G_grab hr (by decide) (ex_own (pv 0) rfl) ex_int rfl (.inr ⟨0, rfl⟩) (by decide) (by omega)) (fun xs i h1 h2 => ⟨_, atI_getD ⟨h2.1, by rw [h1.1]; exact h2.2⟩, h1.2 _ (getD_mem (by rw [h1.1]; omega))⟩))
      (ex_grabI (n := m + 2) G_grab hr (by decide) (ex_own (pv 0) rfl) ex_int rfl (.inr ⟨0, rfl⟩) (by decide) (by omega)) (pg_name (i := 5) sc__law_names.nd rfl (by first | exact .inl rfl | exact .inr rfl)) (pg_name (i := 6) sc__law_names.nd rfl (by first | exact .inl rfl | exact .inr rfl)) ?_
    refine go_open (i := 5) (ι := Int) (C := fun z => 0 ≤ z ∧ z ≤ 7) (Pi := fun z => is K z) rfl (fun _ _ h => h) fun size hsize => ?_
    refine go_open (i := 6) (ι := Int) (C := fun z => 0 ≤ z ∧ z < 26) (Pi := fun z => is K z) rfl (fun _ _ h => h) fun sign hsign => ?_
    refine go_env (r1 := nmE K (crateC (m + 3)) many s (.dat (is K k)) (.dat (is K size)) (.dat (is K sign)) .un .un .un) ?_ rfl
    have hrl : (rangeI 0 size).length ≤ 7 := by unfold rangeI; simp; omega
    refine go_set (i := 7) (x := .dat (some_ K fun z : Str => keyB z = true)) (r1 := nmE K (crateC (m + 10)) many s (.dat (is K k)) (.dat (is K size)) (.dat (is K sign)) .un .un .un)
      (ex_addSN (ca := fun z => z = ltr sign) (cb := fun z => Lt z ∧ z.length ≤ 7) (ex_sm (ex_ixS (c := letters.cps.toList.getD sign.toNat default) (ex_var (pv 2) rfl) (ex_var (pv 6) rfl) ⟨sz_l, at_ltr hsign⟩) rfl)
        (ex_joinN (cb := fun ys => (∀ y, y ∈ ys → Lt y ∧ y.length = 1) ∧ ys.length ≤ 7) ex_str (ex_smf (ex_lcO (lc_okD (own := [("turn", 9)]) (c := fun _ _ y => Lt y ∧ y.length = 1)
          (R := fun _ i => nmE K (crateC (m + 3 + i)) many s (.dat (is K k)) (.dat (is K size)) (.dat (is K sign)) .un .un .un) (rb := fun _ i x => nmE K (crateC (m + 3 + i)) many s (.dat (is K k)) (.dat (is K size)) (.dat (is K sign)) .un .un (.dat (is K x))) (re := fun _ i x => nmE K (crateC (m + 3 + i + 1)) many s (.dat (is K k)) (.dat (is K size)) (.dat (is K sign)) .un .un (.dat (is K x)))
          (Src.d (src_range1 T.b_range (ex_var (pv 5) rfl) ⟨by omega, by omega⟩)) (fun _ _ _ _ _ => pg_name (i := 9) sc__law_names.nd rfl (by first | exact .inl rfl | exact .inr rfl)) (fun _ _ => rfl) (fun _ _ => Cv.refl _) (fun _ i x hx => bd_name)
          (fun _ i x _ hx _ _ _ _ _ => ex_ixSN (ex_var (pv 2) rfl) (ex_grabI (n := m + 3 + i) G_grab hr (by decide) (ex_own (pv 0) rfl) ex_int rfl (.inr ⟨0, rfl⟩) (by decide) (by have := (List.getElem?_eq_some_iff.mp hx).1; omega)) sz_l fun i h => ⟨_, at_ltr h, lt_ltr h, rfl⟩)
          (fun _ i x hx j hj => ?_) (fun _ i j hj => ?_) (fun _ _ => .io 0 (crateC_up (by omega)) (Cv.refl _)) (fun _ _ => Evl.sz_lt (by omega)) (fun _ ys _ h1 h2 => ⟨fun y hy => ?_, by omega⟩)) (blkOk_by (own := [("turn", 9)]) (N := sc__law_names_N) (sc := defScope s__law_names) (by decide +kernel)) sc__law_names.nd)) ?_ ?_) ?_ ?_) sc__law_names.nd rfl (by first | exact .inl rfl | exact .inr rfl) ?_
    · exact set_out (i := 9) (r := nmE K (crateC (m + 3 + (i + 1))) many s (.dat (is K k)) (.dat (is K size)) (.dat (is K sign)) .un .un .un) hj
    · obtain rfl : j = 9 := by simpa using hj
      rfl
    · obtain ⟨i, hi⟩ := List.getElem?_of_mem hy
      have hlt := (List.getElem?_eq_some_iff.mp hi).1
      exact h2 i _ y (List.getElem?_eq_getElem (by omega)) hi
    · intro ys h
      have : (ys.map (·.length)).sum = ys.length := sum_ones fun y hy => (h.1 y hy).2
      have z : (Str.ofString "").length = 0 := by decide +kernel
      rw [this, z]
      omega
    · intro ys h
      rw [TL.join_eq]
      refine ⟨lt_join fun y hy => (h.1 y hy).1, ?_⟩
      rw [len_join fun y hy => (h.1 y hy).2]
      exact h.2
    · intro a b ha hb
      rw [ha, len_ltr]
      have := hb.2
      exact Evl.sz_of (by omega)
    · intro a b ha hb
      rw [ha]
      exact key_mk (by rw [len_app, len_ltr]; omega) (by rw [len_app, len_ltr]; omega) (lt_app (lt_ltr hsign) hb.1)
    refine go_ifNJ (r2 := nmE K (crateC (m + 12)) many s (.dat (is K k)) (.dat (is K size)) (.dat (is K sign)) (.dat (some_ K fun z : Str => keyB z = true)) .un .un) (d := fun b => b = true → s ≠ [])
      (Wn.t (wn_and (c := fun b => b = !decide (s = [])) (d := fun _ => True) (Tx.n (tx_cmp (q_neD (hu64 hr) (ex_own (pv 3) rfl) (ex_lst (xs := ([] : List Str)) ax_nil rfl) (dt_ls (rd_own rfl)) (dt_ls rd_new) (ok_keys hj.2) (ok_keys fun z hz => by simp at hz))) rfl)
        (fun hc => wn_and1 (tn_cmp (q_eqN (cz := fun _ => True) (ex_grabI (n := m + 10) G_grab hr (by decide) (ex_own (pv 0) rfl) ex_int rfl (.inr ⟨0, rfl⟩) (by decide) (by omega)) (ex_sm (c := fun _ => True) ex_int trivial) fun _ _ _ _ => trivial)))
        (.io 0 (crateC_up (by omega)) (Cv.refl _)) (fun _ h => nomatch h) (fun x hc _ _ => by simpa using hc))) (fun hs0 => ?_) (fun _ => go_cv (.io 0 (crateC_up (by omega)) (Cv.refl _)) (go_nil fun _ _ _ k => k)) ?_
    · have hne : s ≠ [] := hs0 rfl
      obtain ⟨s1, v, es⟩ : ∃ s1 v, s = s1 ++ [v] := ⟨s.dropLast, s.getLast hne, (List.dropLast_concat_getLast hne).symm⟩
      have hv : keyB v = true := hj.2 v (by rw [es]; simp)
      have hlast : L2.atI s (-1) = some v := by rw [es]; exact L2.atI_last _ _
      obtain ⟨v1, v2, v3⟩ := key_of hv
      have c7 : (L2.cutS v none (some 7)).length ≤ 7 := Nat.le_trans len_cut (sIx7 _)
      have c8 : (L2.cutS v none (some (-1))).length ≤ 7 := Nat.le_trans len_cut (Nat.le_trans (sIxm1 _) (by omega))
      have hz : v.length ≤ sizeLine := Evl.sz_of (by omega)
      have kk : ∀ z : Str, Lt z → z.length ≤ 7 → keyB (z ++ ltr sign) = true := fun z h1 h2 => key_mk (by rw [len_app, len_ltr]; omega) (by rw [len_app, len_ltr]; omega) (lt_app h1 (lt_ltr hsign))
      refine go_set (i := 7) (x := .dat (some_ K fun z : Str => keyB z = true)) (ex_ixN (cx := fun ws : List Str => ws = [L2.cutS v none (some 7) ++ ltr sign, L2.cutS v none (some (-1)) ++ ltr sign]) (ex_sm (ex_frzL (ex_lst (xs := [L2.cutS v none (some 7) ++ ltr sign, L2.cutS v none (some (-1)) ++ ltr sign])
        (ax_cons (ex_addS (ex_slS (ex_ix (ex_own (pv 3) rfl) (ex_neg ex_int) (rd_own rfl) hlast) ox_none (ox_some ex_int) hz) (ex_ixS (c := letters.cps.toList.getD sign.toNat default) (ex_var (pv 2) rfl) (ex_var (pv 6) rfl) ⟨sz_l, at_ltr hsign⟩) (by rw [show (⟨#[letters.cps.toList.getD sign.toNat default]⟩ : Str).length = 1 from rfl]; exact Evl.sz_of (by omega)))
          (ax_cons (ex_addS (ex_slS (ex_ix (ex_own (pv 3) rfl) (ex_neg ex_int) (rd_own rfl) hlast) ox_none (ox_some (ex_neg ex_int)) hz) (ex_ixS (c := letters.cps.toList.getD sign.toNat default) (ex_var (pv 2) rfl) (ex_var (pv 6) rfl) ⟨sz_l, at_ltr hsign⟩) (by rw [show (⟨#[letters.cps.toList.getD sign.toNat default]⟩ : Str).length = 1 from rfl]; exact Evl.sz_of (by omega))) ax_nil)) rfl (hl := by show 2 ≤ sizeLine; decide))) rfl)
        (ex_grabI (n := m + 11) G_grab hr (by decide) (ex_own (pv 0) rfl) ex_int rfl (.inr ⟨0, rfl⟩) (by decide) (by omega)) (fun ws i h1 h2 => ?_)) sc__law_names.nd rfl (by first | exact .inl rfl | exact .inr rfl) (go_nil fun _ _ _ k => k)
      subst h1
      refine ⟨_, atI_getD h2, ?_⟩
      have e : i = 0 ∨ i = 1 := by omega
      rcases e with e | e <;> rw [e]
      · exact kk _ (lt_cut v3) c7
      · exact kk _ (lt_cut v3) c8
    refine go_open (i := 7) (ι := Str) (C := fun z => keyB z = true) (Pi := fun z => is K z) rfl (fun _ _ h => h) fun name hname => ?_
    refine go_setLc (i := 8) (lc_ok (own := [("turn", 9)]) (p := fun _ => true) (f := fun t : Int => ltr ((sign + t) % 26) ++ ltr k) (src_range1 T.b_range ex_int ⟨by decide, by decide⟩) (fun _ _ _ _ _ => pg_name (i := 9) sc__law_names.nd rfl (by first | exact .inl rfl | exact .inr rfl)) (fun x hm => bd_name) (fun x hm _ _ _ _ _ => tsx_nil)
      (fun x hm hp _ _ _ _ _ => ex_addS (ex_ixS (c := letters.cps.toList.getD ((sign + x) % 26).toNat default) (ex_var (pv 2) rfl) (ex_mod (ex_add (ex_var (pv 6) rfl) (ex_var (pv 9) rfl)) ex_int (by decide)) ⟨sz_l, at_ltr ⟨Int.emod_nonneg _ (by decide), Int.emod_lt_of_pos _ (by decide)⟩⟩) (ex_ixS (c := letters.cps.toList.getD k.toNat default) (ex_var (pv 2) rfl) (ex_var (pv 4) rfl) ⟨sz_l, at_ltr hkk⟩) (by show 1 + 1 ≤ sizeLine; decide)) (by show 26 < sizeLine; decide)) (blkOk_by (own := [("turn", 9)]) (N := sc__law_names_N) (sc := defScope s__law_names) (by decide +kernel)) sc__law_names.nd rfl rfl (sw_true rfl rfl rfl (by decide +kernel)) ?_
    refine go_frz (i := 8) rfl lst_frz ?_
    refine go_env (r1 := nmE K (crateC (m + 12)) many s (.dat (is K k)) (.dat (is K size)) (.dat (is K sign)) (.dat (is K name)) (.dat (is K (spareOf sign k))) .un) ?_ (by rw [flt_true]; rfl)
    have hsk := spare_key (sign := sign) hkk
    have hpos := spare_left (sign := sign) (k := k) (s := s) (by omega)
    have hw : ((spareOf sign k).filter fun w => !decide (w ∈ s)).getD 0 default ∈ spareOf sign k := (List.mem_filter.mp (getD_mem hpos)).1
    refine go_app (y := if decide (name ∈ s) = false then name else ((spareOf sign k).filter fun w => !decide (w ∈ s)).getD 0 default) (xs0 := s) (xs := s) (pv 3) (ex_if (tx_cmp (q_ninL (hu65 hr) (ex_var (pv 7) rfl) (ex_own (pv 3) rfl) dt_dat (dt_ls (rd_own rfl)) (strOk_lt (key_of hname).2.2) (ok_keys hj.2)))
      (fun hh => ex_eq (ex_var (pv 7) rfl) (by rw [if_pos (by simpa using hh)]))
      (fun hh => ex_eq (ex_ix (xs := (spareOf sign k).filter fun w => !decide (w ∈ s)) (ex_lcO (lc_ok (own := [("word", 10)]) (p := fun w => !decide (w ∈ s)) (f := fun w => w) (src_list (ex_var (pv 8) rfl)) (fun _ _ _ _ _ => pg_name (i := 10) sc__law_names.nd rfl (by first | exact .inl rfl | exact .inr rfl)) (fun x hm => bd_name) (fun x hm _ _ _ _ _ => tsx_one (tx_cmp (q_ninL (hu65 hr) (ex_var (pv 10) rfl) (ex_own (pv 3) rfl) dt_dat (dt_ls (rd_own rfl)) (strOk_lt (key_of (hsk x hm)).2.2) (ok_keys hj.2)))) (fun x hm hp _ _ _ _ _ => ex_var (pv 10) rfl) (Evl.sz_lt (by rw [spare_len]; decide))) (blkOk_by (own := [("word", 10)]) (N := sc__law_names_N) (sc := defScope s__law_names) (by decide +kernel)) sc__law_names.nd) ex_int (by rw [List.map_id']; exact rd_new) (atI_getD ⟨by decide, by simpa using hpos⟩)) (by rw [if_neg (by simpa using hh)]; rfl))) (ls_own rfl) (ls_own rfl) (Evl.sz_lt (by omega)) (go_nil fun σ F H kk => ?_)
    generalize hy : (if decide (name ∈ s) = false then name else ((spareOf sign k).filter fun w => !decide (w ∈ s)).getD 0 default) = y at kk
    have hyk : keyB y = true := by
      rw [← hy]
      split
      · exact hname
      · exact hsk _ hw
    refine ⟨s ++ [y], ⟨by rw [List.length_append, hj.1]; rfl, fun z hz => ?_⟩, ?_⟩
    · rcases List.mem_append.mp hz with hz | hz
      · exact hj.2 z hz
      · rw [List.mem_singleton.mp hz]; exact hyk
    · have e : n + 12 * (s ++ [y]).length = m + 12 := by rw [List.length_append]; exact hend
      show Ok B (nmE K (crateC (n + 12 * (s ++ [y]).length)) many (s ++ [y]) .un .un .un .un .un .un) σ F H
      rw [e]
      exact kk.weak (.same _ (.same _ (.same _ (.same _ (.drop _ (.drop _ (.drop _ (.drop _ (.drop _ (.drop _ (.same _ .nil)))))))))))
  · have h20 : n + 12 * s.length ≤ n + 240 := by have := hs.1; omega
    refine go_frz (i := 3) rfl lst_frz ?_
    refine go_cv (r1 := [.io 0 (crateC (n + 240)), .dat (is K many), .dat (is K letters), .dat (is K s), .un, .un, .un, .un, .un, .un, .un]) (.io 0 (crateC_up h20) (Cv.refl _)) ?_
    exact go_retD hB (ex_var (pv 3) rfl) (fun F v h => ⟨s, hs, h⟩) (io1 (i := 0) hI rfl)
end
end M

namespace M
open PySem L2 DL
section
variable {P : Program} {w : World} {K : PySem.W.Frag} {mg : Str → Option Value} {base : Heap}
/-! ### drawn logs -/
def S_keyed (K : PySem.W.Frag) : Spec (Nat × List Int) := ⟨fun x => x.1 ≤ 1000000 ∧ x.2.length ≤ 100 ∧ ∀ v, v ∈ x.2 → 0 ≤ v ∧ v < 20, fun (n, s) => [.io (crateC n), .dat (is K s)], fun (n, s) => .dat (some_ K fun l : Log => l.length = s.length ∧ ∀ t, t ∈ l → keyB t.1 = true), fun (n, s) => [crateC (n + 1000)]⟩
abbrev keE (K : PySem.W.Frag) (C : Ct) (sh : List Int) (count turn : Int) (nm a5 : Sl) : List Sl := [.io 0 C, .dat (is K sh), .dat (is K count), .dat (is K turn), nm, a5]
theorem ok__law_keyed {f : Addr} {fd : FuncData} (T : Tx K mg) (G_grab : Fn P w K mg base "_law_grab" 1 ["crate", "span"] (spOf (S_grab K))) (G_any : Fn P w K mg base "_law_any_value" 2 ["crate"] (spOf (S_any K))) (G_key : Fn P w K mg base "_law_key" 1 ["number_here"] (spOf (S_key K))) (G_names : Fn P w K mg base "_law_names" 2 ["crate", "many"] (spOf (S_names K)))
    (F : FunD K "_law_keyed" "_law_keyed" (defArgs s__law_keyed) (defBody s__law_keyed) (defScope s__law_keyed) [] [] f fd) : FnOk P w K mg base CX0 3 f fd ["crate", "shape_here"] (spOf (S_keyed K)) := by
  refine fn_ok F sc__law_keyed (fun _ => rfl) (hb := fun cdv A outer s0 H E hr x hx B hB hI => ?_)
  obtain ⟨n, sh⟩ := x
  have hx : n ≤ 1000000 ∧ sh.length ≤ 100 ∧ ∀ v, v ∈ sh → 0 ≤ v ∧ v < 20 := hx
  have hn := hx.1
  have hsl := hx.2.1
  have hr1 := hr.mono (by decide : 1 ≤ 2)
  have hne : sh ++ [(-1 : Int)] ≠ [] := by simp
  obtain ⟨mx1, mx2⟩ := maxL_mem hne
  have hmx : 0 ≤ maxL (sh ++ [(-1 : Int)]) + 1 ∧ maxL (sh ++ [(-1 : Int)]) + 1 ≤ 20 := by
    refine ⟨by have := mx2 (-1) (by simp); omega, ?_⟩
    rcases List.mem_append.mp mx1 with h | h
    · have := (hx.2.2 _ h).2; omega
    · rw [List.mem_singleton.mp h]; decide
  have hin : ∀ v, v ∈ sh → 0 ≤ v ∧ v < maxL (sh ++ [(-1 : Int)]) + 1 := fun v hv => ⟨(hx.2.2 v hv).1, by have := mx2 v (List.mem_append_left _ hv); omega⟩
  refine go_tup2 (i := 2) (j := 3) (ex_add (ex_maxL T.b_max (ex_cat (xs := sh) (ys := [(-1 : Int)]) (ex_var (pv 1) rfl) (ex_lst (xs := [(-1 : Int)]) (ax_cons (ex_neg ex_int) ax_nil) rfl (hl := by show 1 ≤ sizeLine; decide)) rd_dat rd_new (Evl.sz_of (by show sh.length + 1 ≤ _; omega))) rd_new hne) ex_int)
    (ex_grabI (n := n) G_grab hr1 (by decide) (ex_own (pv 0) rfl) ex_int rfl (.inr ⟨0, rfl⟩) (by decide) (by omega)) (pg_name (i := 2) sc__law_keyed.nd rfl (by first | exact .inl rfl | exact .inr rfl)) (pg_name (i := 3) sc__law_keyed.nd rfl (by first | exact .inl rfl | exact .inr rfl)) ?_
  generalize maxL (sh ++ [(-1 : Int)]) + 1 = count at hin hmx
  refine go_open (i := 3) (ι := Int) (C := fun z => 0 ≤ z ∧ z < 400) (Pi := fun z => is K z) rfl (fun _ _ h => h) fun turn hturn => ?_
  refine go_env (r1 := keE K (crateC (n + 1)) sh count turn .un .un) ?_ rfl
  let Pn := fun l : List Str => l.length = count.toNat ∧ ∀ z, z ∈ l → keyB z = true
  have hrl : (rangeI 0 count).length = count.toNat := by unfold rangeI; simp
  refine go_set (i := 4) (x := .dat (some_ K Pn)) (r1 := keE K (crateC (n + 1)) sh count turn .un .un) (ex_sm (u := (rangeI 0 count).map fun nh => keyNum (nh + turn)) (ex_frzL (ex_eqN (ex_lcO (lc_ok (own := [("number_here", 5)]) (p := fun _ => true) (f := fun nh : Int => keyNum (nh + turn)) (src_range1 T.b_range (ex_var (pv 2) rfl) ⟨by omega, by omega⟩) (fun _ _ _ _ _ => pg_name (i := 5) sc__law_keyed.nd rfl (by first | exact .inl rfl | exact .inr rfl)) (fun x hm => bd_name) (fun x hm _ _ _ _ _ => tsx_nil)
    (fun y hm hp _ _ _ _ _ => ex_call (S := S_key K) G_key hr1 _ (ax_cons (ex_add (ex_var (pv 5) rfl) (ex_var (pv 3) rfl)) ax_nil) (by obtain ⟨j, hj⟩ := List.getElem?_of_mem hm; have := rangeI_get hj; show 0 ≤ y + turn; omega)) (Evl.sz_lt (by omega))) (blkOk_by (own := [("number_here", 5)]) (N := sc__law_keyed_N) (sc := defScope s__law_keyed) (by decide +kernel)) sc__law_keyed.nd) (by rw [flt_true]))) ⟨by rw [List.length_map, hrl], fun z hz => by
      obtain ⟨y, _, e⟩ := List.mem_map.mp hz
      rw [← e]; exact keyNum_ok _⟩) sc__law_keyed.nd rfl (by first | exact .inl rfl | exact .inr rfl) ?_
  refine go_ifNJ (r2 := keE K (crateC (n + 242)) sh count turn (.dat (some_ K Pn)) .un) (d := fun _ => True)
    (Wn.t (wn_and (c := fun _ => True) (d := fun _ => True) (Tx.n (tx_cmp (q_lt (ex_var (pv 2) rfl) ex_int)) trivial)
      (fun hc => wn_and1 (tn_cmp (q_eqN (cz := fun _ => True) (ex_grabI (n := n + 1) G_grab hr1 (by decide) (ex_own (pv 0) rfl) ex_int rfl (.inr ⟨0, rfl⟩) (by decide) (by omega)) (ex_sm (c := fun _ => True) ex_int trivial) fun _ _ _ _ => trivial)))
      (.io 0 (crateC_up (by omega)) (Cv.refl _)) (fun _ => trivial) (fun x hc _ => trivial))) (fun _ => ?_) (fun _ => go_cv (.io 0 (crateC_up (by omega)) (Cv.refl _)) (go_nil fun _ _ _ k => k)) ?_
  · refine go_set (i := 4) (x := .dat (some_ K Pn)) (ex_callIO (S := S_names K) (C := crateC (n + 2)) (C' := crateC (n + 242)) (Ps := [is K count]) G_names hr (ax_cons (ex_own (pv 0) rfl) (ax_cons (ex_var (pv 2) rfl) ax_nil)) rfl (.inr ⟨0, rfl⟩) (fun F vs h => ⟨(n + 2, count), [is K count], ⟨by show n + 2 ≤ 10000000; omega, hmx⟩, rfl, h, rfl, fun F v h => h⟩)) sc__law_keyed.nd rfl (by first | exact .inl rfl | exact .inr rfl) (go_nil fun _ _ _ k => k)
  refine go_open (i := 4) (ι := List Str) (C := Pn) (Pi := fun z => is K z) rfl (fun _ _ h => h) fun names hnm => ?_
  refine go_retD (r1 := keE K (crateC (n + 1000)) sh count turn (.dat (is K names)) .un) hB (ex_smf (ex_lcO (lc_okD (own := [("number_here", 5)]) (c := fun _ v (y : Rec) => keyB y.1 = true)
    (R := fun _ i => keE K (crateC (n + 242 + 3 * i)) sh count turn (.dat (is K names)) .un) (rb := fun _ i x => keE K (crateC (n + 242 + 3 * i)) sh count turn (.dat (is K names)) (.dat (is K x))) (re := fun _ i x => keE K (crateC (n + 242 + 3 * i + 3)) sh count turn (.dat (is K names)) (.dat (is K x)))
    (Src.d (src_list (ex_var (pv 1) rfl))) (fun _ _ _ _ _ => pg_name (i := 5) sc__law_keyed.nd rfl (by first | exact .inl rfl | exact .inr rfl)) (fun _ _ => rfl) (fun _ _ => Cv.refl _) (fun _ i x hx => bd_name)
    (fun _ i v _ hv _ _ _ _ _ => ex_pairN (ca := fun z : Str => keyB z = true) (cb := fun _ : Option Int => True) (ex_sm (ex_ix (xs := names) (ex_var (pv 4) rfl) (ex_var (pv 5) rfl) rd_dat (atI_getD ⟨(hin v (List.mem_of_getElem? hv)).1, by have := (hin v (List.mem_of_getElem? hv)).2; have := hnm.1; omega⟩)) (hnm.2 _ (getD_mem (by have := (hin v (List.mem_of_getElem? hv)); have := hnm.1; omega))))
      (ex_callIO (S := S_any K) (C := crateC (n + 242 + 3 * i)) (C' := crateC (n + 242 + 3 * i + 3)) (Ps := []) G_any hr (ax_cons (ex_own (pv 0) rfl) ax_nil) rfl (.inr ⟨0, rfl⟩) (fun F vs h => ⟨n + 242 + 3 * i, [], by have := (List.getElem?_eq_some_iff.mp hv).1; show n + 242 + 3 * i ≤ 100000000; omega, rfl, h, rfl, fun F v h => h⟩)) fun u w h _ => h)
    (fun _ i x hx j hj => set_out (i := 5) (r := keE K (crateC (n + 242 + 3 * (i + 1))) sh count turn (.dat (is K names)) .un) hj) (fun _ i j hj => by
      obtain rfl : j = 5 := by simpa using hj
      rfl) (fun _ _ => .io 0 (crateC_up (by omega)) (Cv.refl _)) (fun _ _ => Evl.sz_lt (by omega)) (fun _ ys _ h1 h2 => ⟨h1, fun y hy => ?_⟩)) (blkOk_by (own := [("number_here", 5)]) (N := sc__law_keyed_N) (sc := defScope s__law_keyed) (by decide +kernel)) sc__law_keyed.nd)) (fun _ _ h => h) (io1 (i := 0) hI rfl)
  obtain ⟨i, hi⟩ := List.getElem?_of_mem hy
  have hlt := (List.getElem?_eq_some_iff.mp hi).1
  exact h2 i _ y (List.getElem?_eq_getElem (by omega)) hi
end
end M

namespace M
open PySem L2 DL
section
variable {P : Program} {w : World} {K : PySem.W.Frag} {mg : Str → Option Value} {base : Heap}
/-! ### drawn spans, rounds, few keys; copies, shuffles, what is lost -/
def S_spans (K : PySem.W.Frag) : Spec (T3 Nat Int Int) := ⟨fun x => x.a ≤ 1000000 ∧ (0 ≤ x.b ∧ x.b ≤ 1000) ∧ 0 ≤ x.c ∧ x.c ≤ 10, fun x => [.io (crateC x.a), .dat (is K x.b), .dat (is K x.c)], fun x => .dat (some_ K fun l : List Rng => l.length ≤ 10 ∧ GoodRs x.b l), fun x => [crateC (x.a + 50)]⟩
abbrev spE (K : PySem.W.Frag) (C : Ct) (size many : Int) (s : List Rng) (a4 a5 a6 : Sl) : List Sl := [.io 0 C, .dat (is K size), .dat (is K many), .own (lstC K s), a4, a5, a6]
theorem ok__law_drawn_spans {f : Addr} {fd : FuncData} (T : Tx K mg) (G_grab : Fn P w K mg base "_law_grab" 1 ["crate", "span"] (spOf (S_grab K))) (F : FunD K "_law_drawn_spans" "_law_drawn_spans" (defArgs s__law_drawn_spans) (defBody s__law_drawn_spans) (defScope s__law_drawn_spans) [] [] f fd) : FnOk P w K mg base CX0 2 f fd ["crate", "size", "many"] (spOf (S_spans K)) := by
  refine fn_ok F sc__law_drawn_spans (fun _ => rfl) (hb := fun cdv A outer s0 H E hr x hx B hB hI => ?_)
  obtain ⟨n, size, many⟩ := x
  have hx : n ≤ 1000000 ∧ (0 ≤ size ∧ size ≤ 1000) ∧ 0 ≤ many ∧ many ≤ 10 := hx
  refine go_set (i := 3) (ex_lst (xs := ([] : List Rng)) ax_nil rfl) sc__law_drawn_spans.nd rfl (by first | exact .inl rfl | exact .inr rfl) ?_
  refine go_forD (δ := Int) (c0 := fun d => 0 ≤ d ∧ d < many + 1) (S := Nat × List Rng) (ι := Nat × List Rng) (Rk := fun s => spE K (crateC (n + 1 + 3 * s.1)) size many s.2 .un .un .un) (C := fun s => s.1 ≤ 11 ∧ s.2.length ≤ 10 ∧ GoodRs size s.2) (fun d i s => s.1 = i ∧ s.2.length ≤ i ∧ ∀ r, r ∈ s.2 → inRange size r = true) (fun s => spE K (crateC (n + 1 + 3 * s.1)) size many s.2 .un .un .un) (fun s y => spE K (crateC (n + 1 + 3 * s.1)) size many s.2 (.dat (is K y)) .un .un) (fun _ _ _ => False)
    (srcD_range T.b_range (ex_grabI (n := n) G_grab hr (by decide) (ex_own (pv 0) rfl) (ex_add (ex_var (pv 2) rfl) ex_int) rfl (.inr ⟨0, rfl⟩) (by omega) (by omega)) (fun d h => ⟨by omega, by omega⟩)) (pg_name (i := 4) sc__law_drawn_spans.nd rfl (by first | exact .inl rfl | exact .inr rfl)) (fun d i x s _ _ => bnd_name) (0, []) (Weak.refl _) (fun d _ => ⟨rfl, Nat.le_refl _, fun r hr => by simp at hr⟩) (fun d i y s hd hy hj => ?_) (fun _ _ _ z => z.elim) (fun d s hd hj => ?_) fun s hs => ?_
  · obtain ⟨hy1, hy2⟩ := rangeI_get hy
    obtain ⟨hj1, hj2, hj3⟩ := hj
    have hi : i ≤ 10 := by omega
    have hm : n + 1 + 3 * s.1 ≤ 1100000 := by omega
    have he : n + 1 + 3 * (i + 1) = n + 1 + 3 * s.1 + 3 := by omega
    generalize n + 1 + 3 * s.1 = m at hm he
    refine go_if (ι := Nat × List Rng) (R := fun s => spE K (crateC (n + 1 + 3 * s.1)) size many s.2 .un .un .un) (C := fun s => s.1 = i + 1 ∧ s.2.length ≤ i + 1 ∧ ∀ r, r ∈ s.2 → inRange size r = true) (tx_cmp (q_gt (ex_var (pv 1) rfl) ex_int)) (fun hd => ?_) (fun hd => ?_) fun s' hs' => go_nil fun _ _ _ k => ⟨s', hs', k⟩
    · have hsz : 0 < size := by simpa using hd
      refine go_set (i := 5) (ex_grabI (n := m) G_grab hr (by decide) (ex_own (pv 0) rfl) (ex_var (pv 1) rfl) rfl (.inr ⟨0, rfl⟩) (by omega) (by omega)) sc__law_drawn_spans.nd rfl (by first | exact .inl rfl | exact .inr rfl) ?_
      refine go_open (i := 5) (ι := Int) (C := fun z => 0 ≤ z ∧ z < size) (Pi := fun z => is K z) rfl (fun _ _ h => h) fun a ha => ?_
      refine go_env (r1 := spE K (crateC (m + 1)) size many s.2 (.dat (is K y)) (.dat (is K a)) .un) ?_ rfl
      refine go_set (i := 6) (x := .dat (some_ K fun z : Int => 1 ≤ z ∧ z ≤ size - a)) (ex_ifN (d := fun _ => True) (tn_cmp (q_eqN (cz := fun _ => True) (ex_grabI (n := m + 1) G_grab hr (by decide) (ex_own (pv 0) rfl) ex_int rfl (.inr ⟨0, rfl⟩) (by decide) (by omega)) (ex_sm (c := fun _ => True) ex_int trivial) fun _ _ _ _ => trivial))
        (fun _ => ex_sm (ex_sub (ex_var (pv 1) rfl) (ex_var (pv 5) rfl)) ⟨by omega, Int.le_refl _⟩) (fun _ => ex_sm (ex_min2 T.b_min (ex_sub (ex_var (pv 1) rfl) (ex_var (pv 5) rfl)) ex_int) (by split <;> omega))) sc__law_drawn_spans.nd rfl (by first | exact .inl rfl | exact .inr rfl) ?_
      refine go_open (i := 6) (ι := Int) (C := fun z => 1 ≤ z ∧ z ≤ size - a) (Pi := fun z => is K z) rfl (fun _ _ h => h) fun wide hw => ?_
      refine go_env (r1 := spE K (crateC (m + 2)) size many s.2 (.dat (is K y)) (.dat (is K a)) (.dat (is K wide))) ?_ rfl
      refine go_appS (S := Rng) (c := fun r => r.1 = a ∧ a ≤ r.2 ∧ r.2 < a + wide) (f := fun r => r) (g := fun _ => spE K (crateC (m + 3)) size many s.2 (.dat (is K y)) (.dat (is K a)) (.dat (is K wide))) (xs0 := s.2) (xs := s.2) (pv 3) (ex_pick (ex_pairN (ca := fun z : Int => z = a) (cb := fun z : Int => a ≤ z ∧ z < a + wide) (ex_sm (ex_var (pv 5) rfl) rfl) (ex_addN (ca := fun z => z = a) (cb := fun z => 0 ≤ z ∧ z < wide) (ex_sm (ex_var (pv 5) rfl) rfl) (ex_grabI (n := m + 2) G_grab hr (by decide) (ex_own (pv 0) rfl) (ex_var (pv 6) rfl) rfl (.inr ⟨0, rfl⟩) (by omega) (by omega)) fun i j h1 h2 => by omega) fun u w h1 h2 => ⟨h1, h2⟩)) (ls_own rfl) (fun _ _ => ls_own rfl) (Evl.sz_lt (by omega)) fun r hr => go_nil fun σ F H k => ⟨(i + 1, s.2 ++ [r]), ⟨rfl, by rw [List.length_append]; simp; omega, fun t ht => ?_⟩, ?_⟩
      · rcases List.mem_append.mp ht with ht | ht
        · exact hj3 t ht
        · rw [List.mem_singleton.mp ht]
          unfold inRange
          simp only [Bool.and_eq_true, decide_eq_true_eq]
          omega
      · show Ok B (spE K (crateC (n + 1 + 3 * (i + 1))) size many (s.2 ++ [r]) .un .un .un) σ F H
        rw [he]
        exact k.weak (.same _ (.same _ (.same _ (.same _ (.drop _ (.drop _ (.drop _ .nil)))))))
    · refine go_cv (r1 := spE K (crateC (m + 3)) size many s.2 .un .un .un) (.io 0 (crateC_up (by omega)) (.same _ (.same _ (.same _ (.drop _ (.same _ (.same _ .nil))))))) (go_nil fun σ F H k => ⟨(i + 1, s.2), ⟨rfl, by show s.2.length ≤ i + 1; omega, hj3⟩, ?_⟩)
      show Ok B (spE K (crateC (n + 1 + 3 * (i + 1))) size many s.2 .un .un .un) σ F H
      rw [he]
      exact k
  · obtain ⟨hj1, hj2, hj3⟩ := hj
    have hl : (rangeI 0 d).length = d.toNat := by unfold rangeI; simp
    rw [hl] at hj1 hj2
    exact ⟨s, ⟨by omega, by omega, ⟨by omega, hj3⟩⟩, Weak.refl _⟩
  · have hs1 := hs.1
    refine go_frz (i := 3) rfl lst_frz ?_
    refine go_cv (r1 := [.io 0 (crateC (n + 50)), .dat (is K size), .dat (is K many), .dat (is K s.2), .un, .un, .un]) (.io 0 (crateC_up (by omega)) (Cv.refl _)) ?_
    exact go_retD hB (ex_var (pv 3) rfl) (fun F v h => ⟨s.2, hs.2, h⟩) (io1 (i := 0) hI rfl)
def S_rounds (K : PySem.W.Frag) : Spec (T3 Nat Int (Int × Int)) := ⟨fun x => x.a ≤ 100000 ∧ (0 ≤ x.b ∧ x.b ≤ 1000) ∧ (0 ≤ x.c.1 ∧ x.c.1 ≤ 10) ∧ 0 ≤ x.c.2 ∧ x.c.2 ≤ 10, fun x => [.io (crateC x.a), .dat (is K x.b), .dat (is K x.c.1), .dat (is K x.c.2)], fun x => .new (someC K fun l : List (List Rng) => l.length ≤ 10 ∧ ∀ rs, rs ∈ l → rs.length ≤ 10 ∧ GoodRs x.b rs), fun x => [crateC (x.a + 1000)]⟩
abbrev roE (K : PySem.W.Frag) (C : Ct) (size most many : Int) (a4 : Sl) : List Sl := [.io 0 C, .dat (is K size), .dat (is K most), .dat (is K many), a4]
theorem ok__law_drawn_rounds {f : Addr} {fd : FuncData} (T : Tx K mg) (G_grab : Fn P w K mg base "_law_grab" 1 ["crate", "span"] (spOf (S_grab K))) (G_spans : Fn P w K mg base "_law_drawn_spans" 2 ["crate", "size", "many"] (spOf (S_spans K))) (F : FunD K "_law_drawn_rounds" "_law_drawn_rounds" (defArgs s__law_drawn_rounds) (defBody s__law_drawn_rounds) (defScope s__law_drawn_rounds) [] [] f fd) : FnOk P w K mg base CX0 3 f fd ["crate", "size", "most_here", "many"] (spOf (S_rounds K)) := by
  refine fn_ok F sc__law_drawn_rounds (fun _ => rfl) (hb := fun cdv A outer s0 H E hr x hx B hB hI => ?_)
  obtain ⟨n, size, most, many⟩ := x
  have hx : n ≤ 100000 ∧ (0 ≤ size ∧ size ≤ 1000) ∧ (0 ≤ most ∧ most ≤ 10) ∧ 0 ≤ many ∧ many ≤ 10 := hx
  have hr1 := hr.mono (by decide : 1 ≤ 2)
  have hrl : ∀ d : Int, (rangeI 0 d).length = d.toNat := fun d => by unfold rangeI; simp
  refine go_retN (r1 := roE K (crateC (n + 1000)) size most many .un) hB (ex_lcO (lc_okD (δ := Int) (c0 := fun d => 0 ≤ d ∧ d < most + 1) (own := [("turn", 4)]) (c := fun _ _ (y : List Rng) => y.length ≤ 10 ∧ GoodRs size y)
    (R := fun _ i => roE K (crateC (n + 1 + 50 * i)) size most many .un) (rb := fun _ i x => roE K (crateC (n + 1 + 50 * i)) size most many (.dat (is K x))) (re := fun _ i x => roE K (crateC (n + 1 + 50 * i + 50)) size most many (.dat (is K x)))
    (srcD_range T.b_range (ex_grabI (n := n) G_grab hr1 (by decide) (ex_own (pv 0) rfl) (ex_add (ex_var (pv 2) rfl) ex_int) rfl (.inr ⟨0, rfl⟩) (by omega) (by omega)) (fun d h => ⟨by omega, by omega⟩)) (fun _ _ _ _ _ => pg_name (i := 4) sc__law_drawn_rounds.nd rfl (by first | exact .inl rfl | exact .inr rfl)) (fun _ _ => rfl) (fun _ _ => Cv.refl _) (fun _ i x hx => bd_name)
    (fun d i v hd hv _ _ _ _ _ => ex_callIO (S := S_spans K) (C := crateC (n + 1 + 50 * i)) (C' := crateC (n + 1 + 50 * i + 50)) (Ps := [is K size, is K many]) G_spans hr (ax_cons (ex_own (pv 0) rfl) (ax_cons (ex_var (pv 1) rfl) (ax_cons (ex_var (pv 3) rfl) ax_nil))) rfl (.inr ⟨0, rfl⟩) (fun F vs h => ⟨⟨n + 1 + 50 * i, size, many⟩, [is K size, is K many], ⟨by have := (List.getElem?_eq_some_iff.mp hv).1; rw [hrl] at this; show n + 1 + 50 * i ≤ 1000000; omega, hx.2.1, hx.2.2.2⟩, rfl, h, rfl, fun F v h => h⟩))
    (fun _ i x hx j hj => set_out (i := 4) (r := roE K (crateC (n + 1 + 50 * (i + 1))) size most many .un) hj) (fun _ i j hj => by
      obtain rfl : j = 4 := by simpa using hj
      rfl) (fun d hd => .io 0 (crateC_up (by rw [hrl]; omega)) (Cv.refl _)) (fun d hd => Evl.sz_lt (by rw [hrl]; omega)) (fun d ys hd h1 h2 => ⟨by rw [h1, hrl]; omega, fun y hy => ?_⟩)) (blkOk_by (own := [("turn", 4)]) (N := sc__law_drawn_rounds_N) (sc := defScope s__law_drawn_rounds) (by decide +kernel)) sc__law_drawn_rounds.nd) (fun _ _ h => h) (io1 (i := 0) hI rfl)
  obtain ⟨i, hi⟩ := List.getElem?_of_mem hy
  have hlt := (List.getElem?_eq_some_iff.mp hi).1
  exact h2 i _ y (List.getElem?_eq_getElem (by omega)) hi
def S_few (K : PySem.W.Frag) : Spec (T3 Nat Int Int) := ⟨fun x => x.a ≤ 100000 ∧ (0 ≤ x.b ∧ x.b ≤ 50) ∧ 1 ≤ x.c ∧ x.c ≤ 20, fun x => [.io (crateC x.a), .dat (is K x.b), .dat (is K x.c)], fun x => .dat (some_ K fun l : Log => GoodLog l), fun x => [crateC (x.a + 1060)]⟩
abbrev feE (K : PySem.W.Frag) (C : Ct) (most keys : Int) (a3 a4 : Sl) : List Sl := [.io 0 C, .dat (is K most), .dat (is K keys), a3, a4]
theorem ok__law_few_keys {f : Addr} {fd : FuncData} (T : Tx K mg) (G_grab : Fn P w K mg base "_law_grab" 1 ["crate", "span"] (spOf (S_grab K))) (G_keyed : Fn P w K mg base "_law_keyed" 3 ["crate", "shape_here"] (spOf (S_keyed K))) (F : FunD K "_law_few_keys" "_law_few_keys" (defArgs s__law_few_keys) (defBody s__law_few_keys) (defScope s__law_few_keys) [] [] f fd) : FnOk P w K mg base CX0 4 f fd ["crate", "most_here", "keys_here"] (spOf (S_few K)) := by
  refine fn_ok F sc__law_few_keys (fun _ => rfl) (hb := fun cdv A outer s0 H E hr x hx B hB hI => ?_)
  obtain ⟨n, most, keys⟩ := x
  have hx : n ≤ 100000 ∧ (0 ≤ most ∧ most ≤ 50) ∧ 1 ≤ keys ∧ keys ≤ 20 := hx
  have hr1 := hr.mono (by decide : 1 ≤ 3)
  have hrl : ∀ d : Int, (rangeI 0 d).length = d.toNat := fun d => by unfold rangeI; simp
  refine go_set (i := 3) (ex_addN (ca := fun z => z = 1) (cz := fun z => 1 ≤ z ∧ z ≤ 20) (ex_sm ex_int rfl) (ex_grabI (n := n) (s := keys) G_grab hr1 (by decide) (ex_own (pv 0) rfl) (ex_var (pv 2) rfl) rfl (.inr ⟨0, rfl⟩) (by omega) (by omega)) fun i j h1 h2 => by omega) sc__law_few_keys.nd rfl (by first | exact .inl rfl | exact .inr rfl) ?_
  refine go_open (i := 3) (ι := Int) (C := fun z => 1 ≤ z ∧ z ≤ 20) (Pi := fun z => is K z) rfl (fun _ _ h => h) fun some_k hsome => ?_
  refine go_env (r1 := feE K (crateC (n + 1)) most keys (.dat (is K some_k)) .un) ?_ rfl
  refine go_retD (r1 := feE K (crateC (n + 1060)) most keys (.dat (is K some_k)) .un) hB (ex_callIO (S := S_keyed K) (C := crateC (n + 60)) (C' := crateC (n + 1060)) (z := .dat (some_ K fun l : Log => GoodLog l)) (Ps := [some_ K fun l : List Int => l.length ≤ 50 ∧ ∀ v, v ∈ l → 0 ≤ v ∧ v < 20]) G_keyed hr (r1 := feE K (crateC (n + 60)) most keys (.dat (is K some_k)) .un) (ax_cons (ex_own (pv 0) rfl) (ax_cons (ex_smf (ex_lcO (lc_okD (δ := Int) (c0 := fun d => 0 ≤ d ∧ d < most + 1) (own := [("k", 4)]) (c := fun _ _ (y : Int) => 0 ≤ y ∧ y < some_k)
    (R := fun _ i => feE K (crateC (n + 1 + 1 + i)) most keys (.dat (is K some_k)) .un) (rb := fun _ i x => feE K (crateC (n + 1 + 1 + i)) most keys (.dat (is K some_k)) (.dat (is K x))) (re := fun _ i x => feE K (crateC (n + 1 + 1 + i + 1)) most keys (.dat (is K some_k)) (.dat (is K x)))
    (srcD_range T.b_range (ex_grabI (n := n + 1) G_grab hr1 (by decide) (ex_own (pv 0) rfl) (ex_add (ex_var (pv 1) rfl) ex_int) rfl (.inr ⟨0, rfl⟩) (by omega) (by omega)) (fun d h => ⟨by omega, by omega⟩)) (fun _ _ _ _ _ => pg_name (i := 4) sc__law_few_keys.nd rfl (by first | exact .inl rfl | exact .inr rfl)) (fun _ _ => rfl) (fun _ _ => Cv.refl _) (fun _ i x hx => bd_name)
    (fun d i v hd hv _ _ _ _ _ => ex_grabI (n := n + 1 + 1 + i) G_grab hr1 (by decide) (ex_own (pv 0) rfl) (ex_var (pv 3) rfl) rfl (.inr ⟨0, rfl⟩) (by omega) (by have := (List.getElem?_eq_some_iff.mp hv).1; rw [hrl] at this; omega))
    (fun _ i x hx j hj => set_out (i := 4) (r := feE K (crateC (n + 1 + 1 + (i + 1))) most keys (.dat (is K some_k)) .un) hj) (fun _ i j hj => by
      obtain rfl : j = 4 := by simpa using hj
      rfl) (fun d hd => .io 0 (crateC_up (by rw [hrl]; omega)) (Cv.refl _)) (fun d hd => Evl.sz_lt (by rw [hrl]; omega)) (fun d ys hd h1 h2 => ⟨by rw [h1, hrl]; omega, fun y hy => ?_⟩)) (blkOk_by (own := [("k", 4)]) (N := sc__law_few_keys_N) (sc := defScope s__law_few_keys) (by decide +kernel)) sc__law_few_keys.nd)) ax_nil)) rfl (.inr ⟨0, rfl⟩) (fun F vs h => ?_)) (fun _ _ h => h) (io1 (i := 0) hI rfl)
  · obtain ⟨i, hi⟩ := List.getElem?_of_mem hy
    have hlt := (List.getElem?_eq_some_iff.mp hi).1
    have := h2 i _ y (List.getElem?_eq_getElem (by omega)) hi
    omega
  · cases h with
    | cons h t =>
      cases t
      obtain ⟨l, cl, wl⟩ := h
      exact ⟨(n + 60, l), [is K l], ⟨by show n + 60 ≤ 1000000; omega, by show l.length ≤ 100; omega, cl.2⟩, rfl, .cons wl .nil, rfl, fun F v ⟨lg, h1, h2⟩ => ⟨lg, ⟨by have := h1.1; omega, h1.2⟩, h2⟩⟩
end
end M

namespace M
open PySem L2 DL
section
variable {P : Program} {w : World} {K : PySem.W.Frag} {mg : Str → Option Value} {base : Heap}
/-! ### copies, shuffles, what is lost -/
def S_copies (K : PySem.W.Frag) : Spec (List (List Rng)) := ⟨fun x => x.length ≤ 1000, fun x => [.dat (is K x)], fun x => .dat (is K x), fun _ => []⟩
theorem ok__law_copies {f : Addr} {fd : FuncData} (T : Tx K mg) (F : FunD K "_law_copies" "_law_copies" (defArgs s__law_copies) (defBody s__law_copies) (defScope s__law_copies) [] [] f fd) : FnOk P w K mg base CX0 1 f fd ["rounds_here"] (spOf (S_copies K)) := by
  refine fn_ok F sc__law_copies (fun _ => rfl) (hb := fun cdv A outer s0 H E hr x hx B hB hI => ?_)
  have hx : x.length ≤ 1000 := hx
  exact go_retD hB (ex_frzL (ex_eqN (ex_lcO (lc_ok (own := [("spans", 1)]) (p := fun _ => true) (f := fun s : List Rng => s) (src_list (ex_var (pv 0) rfl)) (fun _ _ _ _ _ => pg_name (i := 1) sc__law_copies.nd rfl (by first | exact .inl rfl | exact .inr rfl)) (fun x hm => bd_name) (fun x hm _ _ _ _ _ => tsx_nil)
    (fun y hm hp _ _ _ _ _ => ex_frzL (ex_listOf T.b_list (ex_var (pv 1) rfl) rd_dat)) (Evl.sz_lt (by omega))) (blkOk_by (own := [("spans", 1)]) (N := sc__law_copies_N) (sc := defScope s__law_copies) (by decide +kernel)) sc__law_copies.nd) (by rw [flt_true, List.map_id']))) (fun _ _ h => h) (io0 hI)
theorem erase_perm {α : Type} : ∀ (l : List α) (k : Nat) (h : k < l.length), (l[k] :: l.eraseIdx k).Perm l
  | a :: l, 0, _ => .refl _
  | a :: l, k + 1, h => .trans (.swap a _ _) (.cons a (erase_perm l k (Nat.lt_of_succ_lt_succ h)))
def S_shuf (K : PySem.W.Frag) : Spec (Nat × List Rng) := ⟨fun x => x.1 ≤ 1000000 ∧ x.2.length ≤ 1000, fun (n, s) => [.io (crateC n), .dat (is K s)], fun (n, s) => .dat (some_ K fun l : List Rng => l.Perm s), fun (n, s) => [crateC (n + 1000)]⟩
theorem ok__law_shuffled {f : Addr} {fd : FuncData} (T : Tx K mg) (G_grab : Fn P w K mg base "_law_grab" 1 ["crate", "span"] (spOf (S_grab K))) (F : FunD K "_law_shuffled" "_law_shuffled" (defArgs s__law_shuffled) (defBody s__law_shuffled) (defScope s__law_shuffled) [] [] f fd) : FnOk P w K mg base CX0 2 f fd ["crate", "spans"] (spOf (S_shuf K)) := by
  refine fn_ok F sc__law_shuffled (fun _ => rfl) (hb := fun cdv A outer s0 H E hr x hx B hB hI => ?_)
  obtain ⟨n, sp⟩ := x
  have hx : n ≤ 1000000 ∧ sp.length ≤ 1000 := hx
  refine go_par (i := 2) (j := 3) (ex_listOf T.b_list (ex_var (pv 1) rfl) rd_dat) (ex_lst (xs := ([] : List Rng)) ax_nil rfl) sc__law_shuffled.nd rfl rfl (by decide) rfl rfl ?_ (by first | rfl | decide +kernel)
  refine go_for (S := List Rng × List Rng) (ι := List Rng × List Rng) (Rk := fun s => [.io 0 (crateC (n + s.2.length)), .dat (is K sp), .own (lstC K s.1), .own (lstC K s.2), .un]) (C := fun s => s.2.length ≤ 1000 ∧ s.2.Perm sp) (fun i s => s.1.length + i = sp.length ∧ s.2.length = i ∧ (s.2 ++ s.1).Perm sp)
    (fun s => [.io 0 (crateC (n + s.2.length)), .dat (is K sp), .own (lstC K s.1), .own (lstC K s.2), .un]) (fun s y => [.io 0 (crateC (n + s.2.length)), .dat (is K sp), .own (lstC K s.1), .own (lstC K s.2), .dat (is K y)]) (fun _ _ _ => False)
    (src_range1 T.b_range (ex_len T.b_len (ex_var (pv 1) rfl) rd_dat) ⟨by omega, by omega⟩) (pg_name (i := 4) sc__law_shuffled.nd rfl (by first | exact .inl rfl | exact .inr rfl)) (fun i x s _ _ => bnd_name) (sp, []) (Weak.refl _) ⟨rfl, rfl, .refl _⟩ (fun i y s hy hj => ?_) (fun _ _ _ z => z.elim) (fun s hj => ?_) fun s hs => ?_
  · obtain ⟨hy1, hy2⟩ := rangeI_get hy
    obtain ⟨hj1, hj2, hj3⟩ := hj
    have hpos : 0 < s.1.length := by omega
    refine go_appS (S := Nat) (c := fun k => k < s.1.length) (f := fun k => s.1.getD k default) (g := fun k => [.io 0 (crateC (n + s.2.length + 1)), .dat (is K sp), .own (lstC K (s.1.eraseIdx k)), .own (lstC K s.2), .dat (is K y)]) (xs0 := s.2) (xs := s.2) (pv 3)
      (exs_pop (i := 2) (xs := s.1) (sl := .own (lstC K s.1)) (r1 := [.io 0 (crateC (n + s.2.length + 1)), .dat (is K sp), .own (lstC K s.1), .own (lstC K s.2), .dat (is K y)]) (pv 2) (ex_grabI (n := n + s.2.length) G_grab hr (by decide) (ex_own (pv 0) rfl) (ex_len T.b_len (ex_own (pv 2) rfl) (rd_own rfl)) rfl (.inr ⟨0, rfl⟩) ⟨by omega, by omega⟩ (by omega)) (ls_own rfl) (ls_own rfl) (fun d h => h) (Evl.sz_of (by omega))) (ls_own rfl) (fun _ _ => ls_own rfl) (Evl.sz_lt (by omega)) fun k hk => go_nil fun σ F H kk => ⟨(s.1.eraseIdx k, s.2 ++ [s.1.getD k default]), ⟨?_, by rw [List.length_append, hj2]; rfl, ?_⟩, ?_⟩
    · show (s.1.eraseIdx k).length + (i + 1) = sp.length
      rw [List.length_eraseIdx_of_lt hk]
      omega
    · show (s.2 ++ [s.1.getD k default] ++ s.1.eraseIdx k).Perm sp
      refine .trans ?_ hj3
      rw [List.append_assoc]
      refine .append_left _ ?_
      have e : s.1.getD k default = s.1[k] := by simp [List.getD, hk]
      rw [e]
      exact erase_perm _ _ hk
    · show Ok B [.io 0 (crateC (n + (s.2 ++ [s.1.getD k default]).length)), .dat (is K sp), .own (lstC K (s.1.eraseIdx k)), .own (lstC K (s.2 ++ [s.1.getD k default])), .un] σ F H
      rw [show n + (s.2 ++ [s.1.getD k default]).length = n + s.2.length + 1 by rw [List.length_append]; rfl]
      exact kk.weak (.same _ (.same _ (.same _ (.same _ (.drop _ .nil)))))
  · obtain ⟨hj1, hj2, hj3⟩ := hj
    have hl : (rangeI 0 (sp.length : Int)).length = sp.length := by unfold rangeI; simp
    rw [hl] at hj1 hj2
    have e : s.1 = [] := List.length_eq_zero_iff.mp (by omega)
    rw [e, List.append_nil] at hj3
    exact ⟨s, ⟨by omega, hj3⟩, Weak.refl _⟩
  · have hs1 := hs.1
    refine go_frz (i := 3) rfl lst_frz ?_
    refine go_cv (r1 := [.io 0 (crateC (n + 1000)), .dat (is K sp), .own (lstC K s.1), .dat (is K s.2), .un]) (.io 0 (crateC_up (by omega)) (Cv.refl _)) ?_
    exact go_retD hB (ex_var (pv 3) rfl) (fun F v h => ⟨s.2, hs.2, h⟩) (io1 (i := 0) hI rfl)
theorem rm_len {log : Log} {N : Nat} : ∀ (rounds : List (List Rng)) (s : RmS), s.1.length ≤ N → (∀ l, l ∈ s.2 → l.length ≤ N) → (rounds.foldl (rmStep log) s).2.length = s.2.length + rounds.length ∧ ∀ l, l ∈ (rounds.foldl (rmStep log) s).2 → l.length ≤ N
  | [], s, _, h2 => ⟨rfl, h2⟩
  | rs :: t, s, h1, h2 => by
    have ih := rm_len (log := log) t (rmStep log s rs) (Nat.le_trans (List.length_filter_le _ _) h1) (fun l hl => by
      rcases List.mem_append.mp hl with hl | hl
      · exact h2 l hl
      · rw [List.mem_singleton.mp hl]
        exact Nat.le_trans (List.length_filter_le _ _) h1)
    refine ⟨?_, ih.2⟩
    show (t.foldl (rmStep log) (rmStep log s rs)).2.length = _
    rw [ih.1]
    show (s.2 ++ [_]).length + t.length = _
    simp only [List.length_append, List.length_cons, List.length_nil]
    omega
theorem removedBy_len (log : Log) (rounds : List (List Rng)) : (removedBy log rounds).length = rounds.length ∧ ∀ l, l ∈ removedBy log rounds → l.length ≤ log.length := by
  have h := rm_len (log := log) (N := log.length) rounds (rangeI 0 log.length, []) (by unfold rangeI; simp) (fun l hl => by simp at hl)
  refine ⟨h.1.trans (by simp), h.2⟩
/-- all that is lost by the rounds, in order -/
def allLost (log : Log) (rounds : List (List Rng)) : List Int := sortI (removedBy log rounds).flatten
def S_lost (K : PySem.W.Frag) : Spec (Log × List (List Rng)) := ⟨fun x => GoodLog x.1 ∧ GoodRounds x.1.length x.2, fun (a, b) => [.dat (is K a), .dat (is K b)], fun (a, b) => .dat (is K (allLost a b)), fun _ => []⟩
theorem ok__law_all_lost {f : Addr} {fd : FuncData} (T : Tx K mg) (G_after : Fn P w K mg base "after" 6 ["log", "rounds"] (spOf (S_after K))) (G_copies : Fn P w K mg base "_law_copies" 1 ["rounds_here"] (spOf (S_copies K))) (F : FunD K "_law_all_lost" "_law_all_lost" (defArgs s__law_all_lost) (defBody s__law_all_lost) (defScope s__law_all_lost) [] [] f fd) : FnOk P w K mg base CX0 7 f fd ["rows_here", "rounds_here"] (spOf (S_lost K)) := by
  refine fn_ok F sc__law_all_lost (fun _ => rfl) (hb := fun cdv A outer s0 H E hr x hx B hB hI => ?_)
  obtain ⟨log, rounds⟩ := x
  have hx : GoodLog log ∧ GoodRounds log.length rounds := hx
  have hl1 := hx.1.len
  have hl2 := hx.2.len
  obtain ⟨rl1, rl2⟩ := removedBy_len log rounds
  refine go_set (i := 2) (ex_lst (xs := ([] : List Int)) ax_nil rfl) sc__law_all_lost.nd rfl (by first | exact .inl rfl | exact .inr rfl) ?_
  refine go_fold (vs := [3]) (fun (s : List Int) l => s ++ l) [] (fun i s => s.length ≤ 1000 * i) (fun s => [.dat (is K log), .dat (is K rounds), .own (lstC K s), .un]) (fun s y => [.dat (is K log), .dat (is K rounds), .own (lstC K s), .dat (is K y)]) (src_list (ex_call (S := S_after K) G_after hr (_, _) (ax_cons (ex_frzL (ex_listOf T.b_list (ex_var (pv 0) rfl) rd_dat)) (ax_cons (ex_call (S := S_copies K) G_copies (hr.mono (by decide)) _ (ax_cons (ex_var (pv 1) rfl) ax_nil) hl2) ax_nil)) hx)) (pg_name (i := 3) sc__law_all_lost.nd rfl (by first | exact .inl rfl | exact .inr rfl)) (fun s y => bnd_name) (Weak.refl _) (Nat.le_refl _) (fun i y s hy he hi => ?_) fun s he hi => ?_
  · have hyl := rl2 y (List.mem_of_getElem? hy)
    have hil := (List.getElem?_eq_some_iff.mp hy).1
    have hil2 : i < 1000 := by
      have : (removedBy log rounds).length ≤ 1000 := by omega
      exact Nat.lt_of_lt_of_le hil this
    have hyl2 : y.length ≤ 1000 := Nat.le_trans hyl hl1
    refine ⟨by rw [List.length_append]; omega, ?_⟩
    exact go_ext (xs0 := s) (xs := s) (pv 2) (ex_var (pv 3) rfl) (ls_own rfl) (ls_own rfl) (by rw [PySem.sizeLine_eq]; omega) (go_nil fun σ F H k => k.weak (.same _ (.same _ (.same _ (.drop _ .nil)))))
  · have e : s = (removedBy log rounds).flatten := by
      rw [he]
      have aux : ∀ (ls : List (List Int)) (a : List Int), ls.foldl (fun s l => s ++ l) a = a ++ ls.flatten := by
        intro ls
        induction ls with
        | nil => intro a; simp
        | cons l t ih => intro a; rw [List.foldl_cons, ih, List.flatten_cons, List.append_assoc]
      rw [aux]; rfl
    subst e
    exact go_retD hB (ex_frzL (ex_sorted T.b_sorted (ex_own (pv 2) rfl) (rd_own rfl))) (fun _ _ h => h) (io0 hI)
end
end M

namespace M
open PySem L2 DL
section
variable {P : Program} {w : World} {K : PySem.W.Frag} {mg : Str → Option Value} {base : Heap}
/-! ### the plain law: removing a round's ranges one by one -/
section
variable {k : Int → Str} {S S0 : List Int} {r : Rng} {p : Int}
/-- p goes by the range r when S stands -/
def Rmd (k : Int → Str) (S : List Int) (r : Rng) (p : Int) : Prop := r.1 ≤ p ∧ ∃ y, y ∈ S ∧ p < y ∧ k y = k p ∧ y ≤ r.2
def nxt (k : Int → Str) (S : List Int) (p : Int) : Option Int := S.find? fun y => decide (p < y) && decide (k y = k p)
theorem nxt_some {y : Int} (h : nxt k S p = some y) : y ∈ S ∧ p < y ∧ k y = k p := by
  have h1 := List.find?_some h
  simp only [Bool.and_eq_true, decide_eq_true_eq] at h1
  exact ⟨List.mem_of_find?_eq_some h, h1⟩
theorem nxt_none (h : nxt k S p = none) {y : Int} (hy : y ∈ S) (h1 : p < y) (h2 : k y = k p) : False := by
  have := List.find?_eq_none.mp h y hy
  simp [h1, h2] at this
theorem nxt_le : ∀ {S : List Int}, S.Pairwise (· < ·) → ∀ {y}, y ∈ S → p < y → k y = k p → ∃ z, nxt k S p = some z ∧ z ≤ y
  | a :: t, hs, y, hy, h1, h2 => by
    unfold nxt
    rw [List.find?_cons]
    obtain ⟨ha, ht⟩ := List.pairwise_cons.mp hs
    cases e : decide (p < a) && decide (k a = k p) with
    | true =>
      refine ⟨a, rfl, ?_⟩
      rcases List.mem_cons.mp hy with q | q
      · rw [q]; exact Int.le_refl _
      · exact Int.le_of_lt (ha y q)
    | false =>
      rcases List.mem_cons.mp hy with q | q
      · subst q; simp [h1, h2] at e
      · exact nxt_le ht q h1 h2
theorem rmd_iff (hs : S.Pairwise (· < ·)) : Rmd k S r p ↔ r.1 ≤ p ∧ ∃ z, nxt k S p = some z ∧ z ≤ r.2 := by
  constructor
  · rintro ⟨h1, y, hy, h2, h3, h4⟩
    obtain ⟨z, e, hz⟩ := nxt_le hs hy h2 h3
    exact ⟨h1, z, e, Int.le_trans hz h4⟩
  · rintro ⟨h1, z, e, hz⟩
    obtain ⟨a, b, c⟩ := nxt_some e
    exact ⟨h1, z, a, b, c, hz⟩
theorem max_of {P : Int → Prop} : ∀ {S : List Int}, (∃ y, y ∈ S ∧ P y) → ∃ y, y ∈ S ∧ P y ∧ ∀ z, z ∈ S → P z → z ≤ y
  | [], ⟨y, h, _⟩ => by simp at h
  | a :: t, ⟨y, hy, py⟩ => by
    by_cases ht : ∃ y, y ∈ t ∧ P y
    · obtain ⟨m, h1, h2, h3⟩ := max_of ht
      by_cases hc : P a ∧ m < a
      · refine ⟨a, by simp, hc.1, fun z hz pz => ?_⟩
        rcases List.mem_cons.mp hz with q | q
        · rw [q]; exact Int.le_refl _
        · have := h3 z q pz; omega
      · refine ⟨m, by simp [h1], h2, fun z hz pz => ?_⟩
        rcases List.mem_cons.mp hz with q | q
        · subst q
          by_cases hh : m < z
          · exact absurd ⟨pz, hh⟩ hc
          · omega
        · exact h3 z q pz
    · rcases List.mem_cons.mp hy with q | q
      · subst q
        refine ⟨y, by simp, py, fun z hz pz => ?_⟩
        rcases List.mem_cons.mp hz with q | q
        · rw [q]; exact Int.le_refl _
        · exact absurd ⟨z, q, pz⟩ ht
      · exact absurd ⟨y, q, py⟩ ht
end
/-! the dict of next positions -/
structure SnJ (log : Log) (done : List Int) (s : SnS) : Prop where
  l1 : ∀ key j, dget s.2 (Sum.inr key) = some j → j ∈ done ∧ keyAt log j = key ∧ ∀ y, y ∈ done → keyAt log y = key → y ≤ j
  l2 : ∀ key, dget s.2 (Sum.inr key) = none → ∀ y, y ∈ done → keyAt log y ≠ key
  n1 : ∀ p, p ∈ done → dget s.1 (Sum.inl p) = nxt (keyAt log) done p
  n2 : ∀ p, p ∉ done → dget s.1 (Sum.inl p) = none
theorem snJ_step {log : Log} {done : List Int} {s : SnS} {q : Int} (h : SnJ log done s) (hq : ∀ y, y ∈ done → y < q) : SnJ log (done ++ [q]) (snStep log s q) := by
  have nq : q ∉ done := fun z => by have := hq q z; omega
  have nx : ∀ p, nxt (keyAt log) (done ++ [q]) p = (nxt (keyAt log) done p).or (if p < q ∧ keyAt log q = keyAt log p then some q else none) := fun p => by
    unfold nxt
    rw [List.find?_append]
    congr 1
    by_cases hc : p < q ∧ keyAt log q = keyAt log p
    · rw [if_pos hc]; simp [hc.1, hc.2]
    · rw [if_neg hc]
      have : (decide (p < q) && decide (keyAt log q = keyAt log p)) = false := by
        cases e : (decide (p < q) && decide (keyAt log q = keyAt log p)) with
        | false => rfl
        | true => exact absurd (by simpa using e) hc
      rw [List.find?_cons, this]; rfl
  have nqq : nxt (keyAt log) (done ++ [q]) q = none := by
    rw [nx, if_neg (fun z => by omega)]
    cases e : nxt (keyAt log) done q with
    | none => rfl
    | some y => have := hq y (nxt_some e).1; have := (nxt_some e).2.1; omega
  have d2 : ∀ key, dget (snStep log s q).2 (Sum.inr key) = if key = keyAt log q then some q else dget s.2 (Sum.inr key) := fun key => by
    show dget (dput s.2 (Sum.inr (keyAt log q)) q) (Sum.inr key) = _
    rw [dget_dput]
    by_cases e : key = keyAt log q
    · rw [if_pos e, if_pos (by rw [e])]
    · rw [if_neg e, if_neg (fun z => e (Sum.inr.inj z))]
  have base : (∀ key j, dget (snStep log s q).2 (Sum.inr key) = some j → j ∈ done ++ [q] ∧ keyAt log j = key ∧ ∀ y, y ∈ done ++ [q] → keyAt log y = key → y ≤ j) ∧ (∀ key, dget (snStep log s q).2 (Sum.inr key) = none → ∀ y, y ∈ done ++ [q] → keyAt log y ≠ key) := by
    constructor
    · intro key j hj
      rw [d2] at hj
      split at hj
      · next e =>
        cases hj
        refine ⟨by simp, e.symm, fun y hy _ => ?_⟩
        rcases List.mem_append.mp hy with w | w
        · exact Int.le_of_lt (hq y w)
        · rw [List.mem_singleton.mp w]; exact Int.le_refl _
      · next e =>
        obtain ⟨a, b, c⟩ := h.l1 key j hj
        refine ⟨List.mem_append_left _ a, b, fun y hy ey => ?_⟩
        rcases List.mem_append.mp hy with w | w
        · exact c y w ey
        · rw [List.mem_singleton.mp w] at ey; exact absurd ey.symm e
    · intro key hj y hy
      rw [d2] at hj
      split at hj
      · cases hj
      · next e =>
        rcases List.mem_append.mp hy with w | w
        · exact h.l2 key hj y w
        · rw [List.mem_singleton.mp w]; exact fun z => e z.symm
  cases hj : dget s.2 (Sum.inr (keyAt log q)) with
  | none =>
    have e1 : (snStep log s q).1 = s.1 := by unfold snStep; rw [hj]
    refine ⟨base.1, base.2, fun p hp => ?_, fun p hp => ?_⟩
    · rw [e1]
      rcases List.mem_append.mp hp with w | w
      · rw [h.n1 p w, nx, if_neg (fun z => h.l2 _ hj p w z.2.symm)]
        cases nxt (keyAt log) done p <;> rfl
      · obtain rfl := List.mem_singleton.mp w
        rw [nqq]; exact h.n2 p nq
    · rw [e1]; exact h.n2 p fun z => hp (List.mem_append_left _ z)
  | some j =>
    have e1 : (snStep log s q).1 = dput s.1 (Sum.inl j) q := by unfold snStep; rw [hj]
    obtain ⟨j1, j2, j3⟩ := h.l1 _ j hj
    have d1 : ∀ p, dget (snStep log s q).1 (Sum.inl p) = if p = j then some q else dget s.1 (Sum.inl p) := fun p => by
      rw [e1, dget_dput]
      by_cases e : p = j
      · rw [if_pos e, if_pos (by rw [e])]
      · rw [if_neg e, if_neg (fun z => e (Sum.inl.inj z))]
    refine ⟨base.1, base.2, fun p hp => ?_, fun p hp => ?_⟩
    · rcases List.mem_append.mp hp with w | w
      · rw [d1, nx]
        by_cases e : p = j
        · subst e
          rw [if_pos rfl, if_pos ⟨hq p w, j2.symm⟩]
          cases e2 : nxt (keyAt log) done p with
          | none => rfl
          | some y =>
            obtain ⟨a, b, c⟩ := nxt_some e2
            have := j3 y a (c.trans j2)
            omega
        · rw [if_neg e, h.n1 p w]
          cases e2 : nxt (keyAt log) done p with
          | some y => rfl
          | none =>
            have hn : ¬ (p < q ∧ keyAt log q = keyAt log p) := fun z => by
              have := j3 p w z.2.symm
              exact nxt_none e2 j1 (by omega) (j2.trans z.2)
            rw [if_neg hn]; rfl
      · have w := List.mem_singleton.mp w
        rw [w, d1, if_neg (show ¬ q = j from fun z => nq (by rw [z]; exact j1)), nqq]
        exact h.n2 q nq
    · rw [d1, if_neg (show ¬ p = j from fun z => hp (List.mem_append_left _ (by rw [z]; exact j1)))]
      exact h.n2 p fun z => hp (List.mem_append_left _ z)
theorem snJ_fold {log : Log} : ∀ (l done : List Int) (s : SnS), SnJ log done s → (done ++ l).Pairwise (· < ·) → SnJ log (done ++ l) (l.foldl (snStep log) s)
  | [], done, s, h, _ => by rw [List.append_nil]; exact h
  | q :: t, done, s, h, hs => by
    have h1 := snJ_step (q := q) h fun y hy => (List.pairwise_append.mp hs).2.2 y hy q (by simp)
    have h2 := snJ_fold t (done ++ [q]) _ h1 (by rw [List.append_assoc]; exact hs)
    rw [List.append_assoc] at h2
    exact h2
theorem sn_next {log : Log} {S : List Int} (hs : S.Pairwise (· < ·)) {p : Int} (hp : p ∈ S) : dget (standingNexts log S) (Sum.inl p) = nxt (keyAt log) S p := by
  have h := snJ_fold (log := log) S [] ([], []) ⟨fun key j h => by simp [dget] at h, fun key _ y hy => by simp at hy, fun p hp => by simp at hp, fun p _ => rfl⟩ (by simpa using hs)
  exact h.n1 p (by simpa using hp)
/-! a round -/
theorem gone_iff {log : Log} {S : List Int} {ranges : List Rng} (hs : S.Pairwise (· < ·)) {p : Int} : p ∈ goneIn (standingNexts log S) ranges S ↔ p ∈ S ∧ ∃ r, r ∈ ranges ∧ Rmd (keyAt log) S r p := by
  unfold goneIn
  rw [List.mem_filter]
  refine and_congr_right fun hp => ?_
  rw [sn_next hs hp]
  simp only [Bool.and_eq_true, List.any_eq_true, decide_eq_true_eq]
  constructor
  · rintro ⟨h1, r, hr, h2, h3⟩
    obtain ⟨z, hz⟩ := Option.isSome_iff_exists.mp h1
    rw [hz] at h3
    exact ⟨r, hr, (rmd_iff hs).mpr ⟨h2, z, hz, h3⟩⟩
  · rintro ⟨r, hr, h⟩
    obtain ⟨h1, z, hz, h2⟩ := (rmd_iff hs).mp h
    rw [hz]
    exact ⟨rfl, r, hr, h1, h2⟩
theorem trueAt_iff {xs : List Int} {p : Int} : (dget (trueAt xs) (Sum.inl p)).isSome = true ↔ p ∈ xs := by
  unfold trueAt dcOf
  rw [flt_true]
  have aux : ∀ (l : List Int) (d : List (Key × Bool)), (dget (l.foldl (fun d x => dput d (Sum.inl x) true) d) (Sum.inl p)).isSome = true ↔ (dget d (Sum.inl p)).isSome = true ∨ p ∈ l := by
    intro l
    induction l with
    | nil => intro d; simp
    | cons a t ih =>
      intro d
      rw [List.foldl_cons, ih, dget_dput]
      by_cases e : (Sum.inl p : Key) = Sum.inl a
      · have e2 : p = a := Sum.inl.inj e
        rw [if_pos e]; simp [e2]
      · have e2 : p ≠ a := fun z => e (by rw [z])
        rw [if_neg e]; simp [e2]
  rw [aux]
  simp [dget]
/-- what stands behind a round -/
def stp (log : Log) (S : List Int) (ranges : List Rng) : List Int := (rmStep log (S, []) ranges).1
theorem stp_sub {log : Log} {S : List Int} {ranges : List Rng} : (stp log S ranges).Sublist S := List.filter_sublist
theorem stp_iff {log : Log} {S : List Int} {ranges : List Rng} (hs : S.Pairwise (· < ·)) {p : Int} : p ∈ stp log S ranges ↔ p ∈ S ∧ ¬ ∃ r, r ∈ ranges ∧ Rmd (keyAt log) S r p := by
  show p ∈ S.filter _ ↔ _
  rw [List.mem_filter]
  refine and_congr_right fun hp => ?_
  have e := trueAt_iff (xs := goneIn (standingNexts log S) ranges S) (p := p)
  rw [gone_iff hs] at e
  constructor
  · intro h hn
    have := e.mpr ⟨hp, hn⟩
    rw [this] at h
    cases h
  · intro h
    cases q : (dget (trueAt (goneIn (standingNexts log S) ranges S)) (Sum.inl p)).isSome with
    | false => rfl
    | true => exact absurd (e.mp q).2 h
theorem fold_stp {log : Log} : ∀ (rounds : List (List Rng)) (s : RmS), (rounds.foldl (rmStep log) s).1 = rounds.foldl (stp log) s.1
  | [], _ => rfl
  | a :: t, s => fold_stp t (rmStep log s a)
theorem fstp_sub {log : Log} : ∀ (rounds : List (List Rng)) (S : List Int), (rounds.foldl (stp log) S).Sublist S
  | [], S => .refl _
  | a :: t, S => (fstp_sub t (stp log S a)).trans stp_sub
theorem one_iff {k : Int → Str} {S : List Int} {r : Rng} {p : Int} : (∃ r', r' ∈ [r] ∧ Rmd k S r' p) ↔ Rmd k S r p := ⟨fun ⟨r', h1, h2⟩ => by rw [List.mem_singleton.mp h1] at h2; exact h2, fun h => ⟨r, by simp, h⟩⟩
/-- ranges one by one, in any order, take no more than all at once -/
theorem some_gone {log : Log} {S0 : List Int} : ∀ (rs : List Rng) (S : List Int), S.Pairwise (· < ·) → (∀ y, y ∈ S → y ∈ S0) → ∀ p, p ∈ S → p ∉ (rs.map fun r => [r]).foldl (stp log) S → ∃ r, r ∈ rs ∧ Rmd (keyAt log) S0 r p
  | [], S, _, _, p, hp, hn => absurd hp hn
  | r :: t, S, hs, hsub, p, hp, hn => by
    by_cases h : p ∈ stp log S [r]
    · obtain ⟨r', h1, h2⟩ := some_gone t (stp log S [r]) (hs.sublist stp_sub) (fun y hy => hsub y (stp_sub.subset hy)) p h hn
      exact ⟨r', by simp [h1], h2⟩
    · rw [stp_iff hs, one_iff] at h
      have hr : Rmd (keyAt log) S r p := Classical.byContradiction fun z => h ⟨hp, z⟩
      obtain ⟨h1, y, h2, h3, h4, h5⟩ := hr
      exact ⟨r, by simp, h1, y, hsub y h2, h3, h4, h5⟩
/-- .. in the order of their ends they take all -/
theorem all_gone {log : Log} {S0 : List Int} : ∀ (rs : List Rng) (S : List Int) (m : Int), S.Pairwise (· < ·) → (∀ y, y ∈ S → y ∈ S0) → (∀ x, x ∈ S0 → x ∉ S → ∃ y, y ∈ S ∧ x < y ∧ keyAt log y = keyAt log x ∧ y ≤ m) → (∀ r, r ∈ rs → m ≤ r.2) → rs.Pairwise (fun a b => a.2 ≤ b.2) →
    ∀ p, p ∈ S → ∀ r, r ∈ rs → Rmd (keyAt log) S0 r p → p ∉ (rs.map fun r => [r]).foldl (stp log) S
  | [], S, m, _, _, _, _, _, p, hp, r, hr, _ => by simp at hr
  | a :: t, S, m, hs, hsub, hJ, hm, ho, p, hp, r, hr, h => by
    have ham := hm a (by simp)
    obtain ⟨oa, ot⟩ := List.pairwise_cons.mp ho
    show p ∉ (t.map fun r => [r]).foldl (stp log) (stp log S [a])
    by_cases hp2 : p ∈ stp log S [a]
    · rcases List.mem_cons.mp hr with q | q
      · subst q
        exfalso
        rw [stp_iff hs, one_iff] at hp2
        obtain ⟨h1, y, h2, h3, h4, h5⟩ := h
        refine hp2.2 ⟨h1, ?_⟩
        by_cases hy : y ∈ S
        · exact ⟨y, hy, h3, h4, h5⟩
        · obtain ⟨z, z1, z2, z3, z4⟩ := hJ y h2 hy
          exact ⟨z, z1, by omega, z3.trans h4, by omega⟩
      · refine all_gone t (stp log S [a]) a.2 (hs.sublist stp_sub) (fun y hy => hsub y (stp_sub.subset hy)) (fun x hx hn => ?_) (fun r hr => oa r hr) ot p hp2 r q h
        have ex : ∃ y, y ∈ S ∧ (x < y ∧ keyAt log y = keyAt log x ∧ y ≤ a.2) := by
          by_cases hxS : x ∈ S
          · rw [stp_iff hs, one_iff] at hn
            obtain ⟨_, y, h2, h3, h4, h5⟩ : Rmd (keyAt log) S a x := Classical.byContradiction fun z => hn ⟨hxS, z⟩
            exact ⟨y, h2, h3, h4, h5⟩
          · obtain ⟨y, h2, h3, h4, h5⟩ := hJ x hx hxS
            exact ⟨y, h2, h3, h4, by omega⟩
        obtain ⟨y, y1, ⟨y2, y3, y4⟩, y5⟩ := max_of ex
        refine ⟨y, ?_, y2, y3, y4⟩
        rw [stp_iff hs, one_iff]
        refine ⟨y1, fun ⟨_, z, z1, z2, z3, z4⟩ => ?_⟩
        have := y5 z z1 ⟨by omega, z3.trans y3, z4⟩
        omega
    · exact fun z => hp2 ((fstp_sub _ _).subset z)
end
end M

namespace M
open PySem L2 DL
section
variable {P : Program} {w : World} {K : PySem.W.Frag} {mg : Str → Option Value} {base : Heap}
/-! ### what is lost, told by what stands -/
def st (log : Log) (A : List (List Rng)) : List Int := A.foldl (stp log) (rangeI 0 log.length)
theorem range_asc (n : Int) : (rangeI 0 n).Pairwise (· < ·) := by
  unfold rangeI
  refine List.pairwise_map.mpr (List.pairwise_lt_range.imp ?_)
  intro a b h
  omega
theorem st_sub (log : Log) (A : List (List Rng)) : (st log A).Sublist (rangeI 0 log.length) := fstp_sub A _
theorem st_asc (log : Log) (A : List (List Rng)) : (st log A).Pairwise (· < ·) := (range_asc _).sublist (st_sub log A)
theorem asc_nodup {l : List Int} (h : l.Pairwise (· < ·)) : l.Nodup := h.imp fun h => by omega
theorem asc_ext {l m : List Int} (h1 : l.Pairwise (· < ·)) (h2 : m.Pairwise (· < ·)) (h : ∀ x, x ∈ l ↔ x ∈ m) : l = m :=
  sorted_uniq ((List.perm_ext_iff_of_nodup (asc_nodup h1) (asc_nodup h2)).mpr h) (h1.imp fun h => Int.le_of_lt h) (h2.imp fun h => Int.le_of_lt h)
theorem st_app (log : Log) (A B : List (List Rng)) : st log (A ++ B) = B.foldl (stp log) (st log A) := List.foldl_append
theorem rm_perm {log : Log} : ∀ (rounds : List (List Rng)) (s : RmS), s.1.Pairwise (· < ·) → ((rounds.foldl (rmStep log) s).2.flatten ++ (rounds.foldl (rmStep log) s).1).Perm (s.2.flatten ++ s.1)
  | [], s, _ => .refl _
  | rs :: t, s, hs => by
    refine .trans (rm_perm t (rmStep log s rs) (hs.sublist List.filter_sublist)) ?_
    show ((s.2 ++ [goneIn (standingNexts log s.1) rs s.1]).flatten ++ (s.1.filter _)).Perm _
    rw [List.flatten_append, List.append_assoc]
    refine .append_left _ ?_
    have e : goneIn (standingNexts log s.1) rs s.1 = s.1.filter fun p => (dget (trueAt (goneIn (standingNexts log s.1) rs s.1)) (Sum.inl p)).isSome := by
      refine asc_ext (hs.sublist List.filter_sublist) (hs.sublist List.filter_sublist) fun x => ?_
      rw [List.mem_filter, trueAt_iff, gone_iff hs]
      exact ⟨fun h => ⟨h.1, h⟩, fun h => h.2⟩
    show ([goneIn (standingNexts log s.1) rs s.1].flatten ++ _).Perm s.1
    rw [List.flatten_cons, List.flatten_nil, List.append_nil]
    rw [show goneIn (standingNexts log s.1) rs s.1 ++ s.1.filter (fun p => !(dget (trueAt (goneIn (standingNexts log s.1) rs s.1)) (Sum.inl p)).isSome) = s.1.filter (fun p => (dget (trueAt (goneIn (standingNexts log s.1) rs s.1)) (Sum.inl p)).isSome) ++ s.1.filter (fun p => !(dget (trueAt (goneIn (standingNexts log s.1) rs s.1)) (Sum.inl p)).isSome) by rw [← e]]
    exact List.filter_append_perm _ _
theorem lost_perm (log : Log) (A : List (List Rng)) : ((removedBy log A).flatten ++ st log A).Perm (rangeI 0 log.length) := by
  have h := rm_perm (log := log) A (rangeI 0 log.length, []) (range_asc _)
  rw [fold_stp] at h
  exact h
theorem lost_mem {log : Log} {A : List (List Rng)} {x : Int} : x ∈ allLost log A ↔ x ∈ rangeI 0 log.length ∧ x ∉ st log A := by
  have h := lost_perm log A
  have hd : ((removedBy log A).flatten ++ st log A).Nodup := h.nodup_iff.mpr (asc_nodup (range_asc _))
  have hm : x ∈ allLost log A ↔ x ∈ (removedBy log A).flatten := (sortI_perm _).mem_iff
  rw [hm, ← h.mem_iff, List.mem_append]
  constructor
  · intro z
    exact ⟨.inl z, fun w => (List.nodup_append.mp hd).2.2 x z x w rfl⟩
  · rintro ⟨z | z, w⟩
    · exact z
    · exact absurd z w
theorem lost_eq {log : Log} {A B : List (List Rng)} (h : st log A = st log B) : allLost log A = allLost log B := by
  refine sorted_uniq ?_ (sortI_sorted _) (sortI_sorted _)
  refine (sortI_perm _).trans (.trans ?_ (sortI_perm _).symm)
  have h1 := (lost_perm log A).trans (lost_perm log B).symm
  rw [h] at h1
  exact (List.perm_append_right_iff _).mp h1
theorem lost_sub {log : Log} {A B : List (List Rng)} (h : ∀ x, x ∈ st log B → x ∈ st log A) : ∀ x, x ∈ allLost log A → x ∈ allLost log B := fun x hx => by
  rw [lost_mem] at hx ⊢
  exact ⟨hx.1, fun z => hx.2 (h x z)⟩
/-- in the order of their ends -/
theorem law_A {log : Log} {A : List (List Rng)} {rs spans : List Rng} (hp : rs.Perm spans) (ho : rs.Pairwise (fun a b => a.2 ≤ b.2)) : allLost log (A ++ rs.map fun r => [r]) = allLost log (A ++ [spans]) := by
  apply lost_eq
  rw [st_app, st_app]
  have hs := st_asc log A
  refine asc_ext (hs.sublist (fstp_sub _ _)) (hs.sublist stp_sub) fun x => ?_
  show _ ↔ x ∈ stp log (st log A) spans
  rw [stp_iff hs]
  constructor
  · intro h
    refine ⟨(fstp_sub _ _).subset h, fun ⟨r, hr, hR⟩ => ?_⟩
    have hx := (fstp_sub _ _).subset h
    cases rs with
    | nil => rw [hp.symm.eq_nil] at hr; cases hr
    | cons a t =>
      refine all_gone (log := log) (S0 := st log A) (a :: t) (st log A) a.2 hs (fun _ z => z) (fun y h1 h2 => absurd h1 h2) (fun r hr => ?_) ho x hx r (hp.mem_iff.mpr hr) hR h
      rcases List.mem_cons.mp hr with q | q
      · rw [q]; exact Int.le_refl _
      · exact (List.pairwise_cons.mp ho).1 r q
  · rintro ⟨h1, h2⟩
    refine Classical.byContradiction fun hn => ?_
    obtain ⟨r, hr, hR⟩ := some_gone rs (st log A) hs (fun _ z => z) x h1 hn
    exact h2 ⟨r, hp.mem_iff.mp hr, hR⟩
theorem law_B {log : Log} {A : List (List Rng)} {rs spans : List Rng} (hp : rs.Perm spans) : ∀ x, x ∈ allLost log (A ++ rs.map fun r => [r]) → x ∈ allLost log (A ++ [spans]) := by
  apply lost_sub
  intro x hx
  rw [st_app] at hx ⊢
  have hs := st_asc log A
  have hx : x ∈ stp log (st log A) spans := hx
  rw [stp_iff hs] at hx
  refine Classical.byContradiction fun hn => ?_
  obtain ⟨r, hr, hR⟩ := some_gone rs (st log A) hs (fun _ z => z) x hx.1 hn
  exact hx.2 ⟨r, hp.mem_iff.mp hr, hR⟩
theorem law_D {log : Log} {A B : List (List Rng)} : ∀ x, x ∈ allLost log A → x ∈ allLost log (A ++ B) := by
  apply lost_sub
  intro x hx
  rw [st_app] at hx
  exact (fstp_sub _ _).subset hx
theorem lost_nil (log : Log) : allLost log [] = [] := by
  have h := (lost_perm log []).length_eq
  have e : st log [] = rangeI 0 log.length := rfl
  rw [e, List.length_append] at h
  have z : (removedBy log []).flatten = [] := List.length_eq_zero_iff.mp (by omega)
  unfold allLost sortI
  rw [z]; simp
/-! one round: the ranges' own rule -/
structure NxR (log : Log) (s : NxS) (t : SnS) : Prop where
  e : s.2 = t.2
  l : s.1.length = log.length
  g : ∀ i, i < log.length → s.1[i]? = some (dget t.1 (Sum.inl (i : Int)))
  b : ∀ key j, dget s.2 (Sum.inr key) = some j → 0 ≤ j ∧ j < log.length
theorem nxR_step {log : Log} {s : NxS} {t : SnS} {p : Int × Rec} (h : NxR log s t) (hp : 0 ≤ p.1 ∧ p.1 < log.length) (hk : p.2.1 = keyAt log p.1) : NxR log (nxStep s p) (snStep log t p.1) := by
  have e2 : (nxStep s p).2 = (snStep log t p.1).2 := by
    show dput s.2 (Sum.inr p.2.1) p.1 = dput t.2 (Sum.inr (keyAt log p.1)) p.1
    rw [hk, h.e]
  have hb : ∀ key j, dget (nxStep s p).2 (Sum.inr key) = some j → 0 ≤ j ∧ j < log.length := fun key j hj => by
    have hj : dget (dput s.2 (Sum.inr p.2.1) p.1) (Sum.inr key) = some j := hj
    rw [dget_dput] at hj
    split at hj
    · cases hj; exact hp
    · exact h.b key j hj
  have q : dget s.2 (Sum.inr p.2.1) = dget t.2 (Sum.inr (keyAt log p.1)) := by rw [hk, h.e]
  cases hj : dget t.2 (Sum.inr (keyAt log p.1)) with
  | none =>
    have a1 : (nxStep s p).1 = s.1 := by unfold nxStep; rw [q, hj]
    have a2 : (snStep log t p.1).1 = t.1 := by unfold snStep; rw [hj]
    exact ⟨e2, by rw [a1]; exact h.l, fun i hi => by rw [a1, a2]; exact h.g i hi, hb⟩
  | some j =>
    have a1 : (nxStep s p).1 = s.1.set j.toNat (some p.1) := by unfold nxStep; rw [q, hj]
    have a2 : (snStep log t p.1).1 = dput t.1 (Sum.inl j) p.1 := by unfold snStep; rw [hj]
    have jb := h.b p.2.1 j (by rw [q, hj])
    refine ⟨e2, by rw [a1, List.length_set]; exact h.l, fun i hi => ?_, hb⟩
    rw [a1, a2, dget_dput]
    by_cases e : j.toNat = i
    · have e3 : (Sum.inl (i : Int) : Key) = Sum.inl j := by congr 1; omega
      rw [if_pos e3, e, List.getElem?_set_self (by rw [h.l]; exact hi)]
    · have e3 : ¬ (Sum.inl (i : Int) : Key) = Sum.inl j := fun z => e (by have := Sum.inl.inj z; omega)
      rw [if_neg e3, List.getElem?_set_ne e]
      exact h.g i hi
theorem nxR_fold {log : Log} : ∀ (L : List (Int × Rec)) (s : NxS) (t : SnS), NxR log s t → (∀ p, p ∈ L → (0 ≤ p.1 ∧ p.1 < log.length) ∧ p.2.1 = keyAt log p.1) → NxR log (L.foldl nxStep s) ((L.map (·.1)).foldl (snStep log) t)
  | [], s, t, h, _ => h
  | p :: r, s, t, h, hL => nxR_fold r _ _ (nxR_step h (hL p (by simp)).1 (hL p (by simp)).2) fun x hx => hL x (by simp [hx])
theorem enum_fst {α : Type} (xs : List α) : (enumI xs).map (·.1) = rangeI 0 xs.length := by
  apply List.ext_getElem?
  intro i
  rw [List.getElem?_map]
  unfold enumI rangeI
  rw [List.getElem?_mapIdx, List.getElem?_map]
  by_cases h : i < xs.length
  · rw [List.getElem?_eq_getElem h, List.getElem?_range (by omega)]
    simp
  · rw [List.getElem?_eq_none (by omega), List.getElem?_eq_none (by rw [List.length_range]; omega)]
    rfl
theorem nexts_get {log : Log} {i : Nat} (hi : i < log.length) : (nextsOf log)[i]? = some (nxt (keyAt log) (rangeI 0 log.length) i) := by
  have h := nxR_fold (log := log) (enumI log) (nx0 log) ([], []) ⟨rfl, nx0_len log, fun i hi => ?_, fun key j h => by simp [nx0, dget] at h⟩ fun p hp => ?_
  · rw [enum_fst] at h
    have := h.g i hi
    unfold nextsOf
    rw [this]
    congr 1
    exact sn_next (range_asc _) (by unfold rangeI; exact List.mem_map.mpr ⟨i, by simp; omega, by simp⟩)
  · unfold nx0
    rw [flat_none, List.getElem?_replicate, if_pos (by simpa using hi)]
    rfl
  · obtain ⟨i, hi⟩ := List.getElem?_of_mem hp
    obtain ⟨x, hx, e⟩ := enumI_get hi
    have hlt := (List.getElem?_eq_some_iff.mp hx).1
    rw [e]
    refine ⟨⟨by simp, by simp; exact hlt⟩, ?_⟩
    unfold keyAt
    simp [List.getD, hx]
theorem enum_mem {α : Type} {xs : List α} {i : Nat} {x : α} (h : xs[i]? = some x) : ((i : Int), x) ∈ enumI xs := by
  have : (enumI xs)[i]? = some ((i : Int), x) := by unfold enumI; rw [List.getElem?_mapIdx, h]; rfl
  exact List.mem_of_getElem? this
theorem markedBy_sub (nexts : List (Option Int)) (spans : List Rng) : (markedBy nexts spans).Sublist (rangeI 0 nexts.length) := by
  unfold markedBy arcsOf
  rw [List.filter_map, List.map_map, ← enum_fst]
  exact (List.filter_sublist.trans List.filter_sublist).map _
theorem markedBy_mem {nexts : List (Option Int)} {spans : List Rng} {x : Int} : x ∈ markedBy nexts spans ↔ ∃ e, (x, some e) ∈ enumI nexts ∧ ∃ r, r ∈ spans ∧ r.1 ≤ x ∧ e ≤ r.2 := by
  unfold markedBy arcsOf isMarked
  simp only [List.mem_map, List.mem_filter, List.any_eq_true, Bool.and_eq_true, decide_eq_true_eq]
  constructor
  · rintro ⟨a, ⟨⟨⟨i, o⟩, ⟨h1, h2⟩, e⟩, r, hr, h3, h4⟩, e2⟩
    obtain ⟨z, hz⟩ := Option.isSome_iff_exists.mp h2
    have hz : o = some z := hz
    subst hz
    subst e
    have e2 : i = x := e2
    subst e2
    exact ⟨z, h1, r, hr, h3, h4⟩
  · rintro ⟨e, h1, r, hr, h3, h4⟩
    exact ⟨(x, e), ⟨⟨(x, some e), ⟨h1, rfl⟩, rfl⟩, r, hr, h3, h4⟩, rfl⟩
theorem law_C {log : Log} {spans : List Rng} : markedBy (nextsOf log) spans = allLost log ([] ++ [spans]) := by
  have ha : (markedBy (nextsOf log) spans).Pairwise (· < ·) := (range_asc _).sublist (markedBy_sub _ _)
  have hl : (allLost log ([] ++ [spans])).Nodup := by
    refine ((sortI_perm _).nodup_iff).mpr ?_
    have h := (lost_perm log ([] ++ [spans])).nodup_iff.mpr (asc_nodup (range_asc _))
    exact (List.nodup_append.mp h).1
  refine sorted_uniq ((List.perm_ext_iff_of_nodup (asc_nodup ha) hl).mpr fun x => ?_) (ha.imp fun h => Int.le_of_lt h) (sortI_sorted _)
  have hs := range_asc log.length
  rw [markedBy_mem, lost_mem]
  show _ ↔ x ∈ _ ∧ x ∉ stp log (rangeI 0 log.length) spans
  rw [stp_iff hs]
  have hx : ∀ e, (x, some e) ∈ enumI (nextsOf log) ↔ x ∈ rangeI 0 log.length ∧ nxt (keyAt log) (rangeI 0 log.length) x = some e := fun e => by
    constructor
    · intro h
      obtain ⟨i, hi⟩ := List.getElem?_of_mem h
      obtain ⟨o, ho, e2⟩ := enumI_get hi
      have hlt := (List.getElem?_eq_some_iff.mp ho).1
      rw [nextsOf_len] at hlt
      have g := nexts_get hlt
      have e3 : x = (i : Int) := congrArg Prod.fst e2
      have e4 : some e = o := congrArg Prod.snd e2
      rw [ho, ← e4, ← e3] at g
      exact ⟨by rw [e3]; unfold rangeI; exact List.mem_map.mpr ⟨i, by simp; omega, by simp⟩, (Option.some.inj g).symm⟩
    · rintro ⟨h1, h2⟩
      obtain ⟨i, hi⟩ := List.getElem?_of_mem h1
      obtain ⟨e1, hlt⟩ := rangeI_get hi
      have e1 : x = (i : Int) := by omega
      have g := nexts_get (log := log) (i := i) (by omega)
      rw [← e1, h2] at g
      rw [e1]
      exact enum_mem g
  constructor
  · rintro ⟨e, h1, r, hr, h2, h3⟩
    obtain ⟨g1, g2⟩ := (hx e).mp h1
    exact ⟨g1, fun z => z.2 ⟨r, hr, (rmd_iff hs).mpr ⟨h2, e, g2, h3⟩⟩⟩
  · rintro ⟨h1, h2⟩
    obtain ⟨r, hr, hR⟩ : ∃ r, r ∈ spans ∧ Rmd (keyAt log) (rangeI 0 log.length) r x := Classical.byContradiction fun z => h2 ⟨h1, z⟩
    obtain ⟨a, e, b, c⟩ := (rmd_iff hs).mp hR
    exact ⟨e, (hx e).mpr ⟨h1, b⟩, r, hr, a, c⟩
/-- the law's sorted spans -/
theorem sortSnd_perm (xs : List Rng) : (sortSnd xs).Perm xs := List.mergeSort_perm xs _
theorem sortSnd_asc (xs : List Rng) : (sortSnd xs).Pairwise fun a b => a.2 ≤ b.2 := by
  have h := List.pairwise_mergeSort (le := fun a b : Rng => decide (a.2 ≤ b.2)) (fun a b c h1 h2 => by simp only [decide_eq_true_eq] at *; omega) (fun a b => by simp only [Bool.or_eq_true, decide_eq_true_eq]; omega) xs
  exact h.imp fun h => of_decide_eq_true h
end
end M

namespace M
open PySem L2 DL
section
variable {P : Program} {w : World} {K : PySem.W.Frag} {mg : Str → Option Value} {base : Heap}
/-! ### the law -/
abbrev lawN : List Str := sc_law_N ++ [("<table>" : Str)]
theorem sc_lawT : FnScope lawN ["script"] (defScope s_law) := ⟨rfl, rfl, rfl, by decide +kernel, rfl, by decide +kernel, by decide +kernel⟩
abbrev lawQ : Str := (("law" : Str) ++ (".<locals>." : Str)) ++ ("<lambda>" : Str)
abbrev lwE (K : PySem.W.Frag) (scr : Scr) (a1 a2 a3 a4 a5 a6 a7 a8 a9 a10 a11 a12 a13 : Sl) : List Sl := [.dat (is K scr), a1, a2, a3, a4, a5, a6, a7, a8, a9, a10, a11, a12, a13, .io 0 (tabC lawQ)]
theorem okRs (l : List (List Rng)) : Enc.ok l := fun _ _ _ _ => ⟨trivial, trivial⟩
theorem okRl (l : List Rng) : Enc.ok l := fun _ _ => ⟨trivial, trivial⟩
theorem okIs (l : List Int) : Enc.ok l := fun _ _ => trivial
abbrev Rnds (n : Nat) (l : List (List Rng)) : Prop := l.length ≤ 10 ∧ ∀ rs, rs ∈ l → rs.length ≤ 10 ∧ GoodRs n rs
theorem good_app {n : Nat} {A B : List (List Rng)} (h1 : A.length ≤ 500) (h2 : B.length ≤ 500) (h3 : ∀ rs, rs ∈ A → GoodRs n rs) (h4 : ∀ rs, rs ∈ B → GoodRs n rs) : GoodRounds n (A ++ B) := ⟨by rw [List.length_append]; omega, fun rs h => by
  rcases List.mem_append.mp h with h | h
  · exact h3 rs h
  · exact h4 rs h⟩
theorem good_ones {n : Int} {l spans : List Rng} (hp : l.Perm spans) (h : GoodRs n spans) : ∀ rs, rs ∈ l.map (fun s => [s]) → GoodRs n rs := fun rs hr => by
  obtain ⟨s, hs, e⟩ := List.mem_map.mp hr
  rw [← e]
  exact ⟨by simp, fun r hr => by rw [List.mem_singleton.mp hr]; exact h.ok s (hp.mem_iff.mp hs)⟩
theorem flt_nil {l m : List Int} (h : ∀ x, x ∈ l → x ∈ m) : l.filter (fun x => !decide (x ∈ m)) = [] := List.filter_eq_nil_iff.mpr fun x hx => by simp [h x hx]
theorem map_ones {l : List Rng} {ys : List (List Rng)} (h1 : ys.length = l.length) (h2 : ∀ (i : Nat) (x : Rng) (y : List Rng), l[i]? = some x → ys[i]? = some y → y = [x]) : ys = l.map fun s => [s] := by
  apply List.ext_getElem?
  intro i
  rw [List.getElem?_map]
  by_cases h : i < l.length
  · rw [List.getElem?_eq_getElem h, List.getElem?_eq_getElem (by omega : i < ys.length)]
    exact congrArg some (h2 i _ _ (List.getElem?_eq_getElem h) (List.getElem?_eq_getElem (by omega)))
  · rw [List.getElem?_eq_none (by omega), List.getElem?_eq_none (by omega)]
    rfl
theorem lost_len (log : Log) (A : List (List Rng)) : (allLost log A).length ≤ log.length := by
  have h := (lost_perm log A).length_eq
  have e : (rangeI 0 (log.length : Int)).length = log.length := by unfold rangeI; simp
  rw [List.length_append, e] at h
  unfold allLost
  rw [(sortI_perm _).length_eq]
  omega
theorem smOf {K : PySem.W.Frag} {α : Type} [Rp α] {c : List α → Prop} {l : List α} (hc : c l) : ∀ F o, (lstC K l).c F o → (someC K c).c F o := fun F o h => ⟨l, hc, h⟩
theorem ok_law {f c Pt : Addr} {fd : FuncData} (T : Tx K mg) (TB : LamX.TabB base mg c Pt) (hc : fd.code = .ref c)
    (G_crate : Fn P w K mg base "_law_crate" 1 ["script", "at"] (spOf (S_crate K))) (G_grab : Fn P w K mg base "_law_grab" 1 ["crate", "span"] (spOf (S_grab K))) (G_few : Fn P w K mg base "_law_few_keys" 4 ["crate", "most_here", "keys_here"] (spOf (S_few K))) (G_rounds : Fn P w K mg base "_law_drawn_rounds" 3 ["crate", "size", "most_here", "many"] (spOf (S_rounds K)))
    (G_shuf : Fn P w K mg base "_law_shuffled" 2 ["crate", "spans"] (spOf (S_shuf K))) (G_lost : Fn P w K mg base "_law_all_lost" 7 ["rows_here", "rounds_here"] (spOf (S_lost K))) (G_marked : Fn P w K mg base "marked" 6 ["log", "ranges"] (spOf (S_marked K)))
    (F : FunD K "law" "law" (defArgs s_law) (defBody s_law) (defScope s_law) [] [] f fd) : FnOk P w K mg base CX0 8 f fd ["script"] (lawSp K Pt fun x => x.l.length ≤ 63) := by
  refine law_ok (N := lawN) (hi := 14) (hn := "<table>") (q := lawQ) F sc_lawT hc rfl (by rintro (h | h | h) <;> exact absurd h (by decide +kernel)) (by decide) fun A outer s0 H E hr scr hx B hB hI => ?_
  have hI1 : B.ps.length = 1 := by rw [hI]; rfl
  have hP : B.ps[0]? = some Pt := by rw [hI]; rfl
  refine go_env (r1 := lwE K scr .un .un .un .un .un .un .un .un .un .un .un .un .un) ?_ rfl
  refine go_for (S := Unit) (ι := Unit) (Rk := fun _ => lwE K scr .un .un .un .un .un .un .un .un .un .un .un .un .un) (C := fun _ => True) (fun _ _ => True) (fun _ => lwE K scr .un .un .un .un .un .un .un .un .un .un .un .un .un) (fun _ y => lwE K scr (.dat (is K y)) .un .un .un .un .un .un .un .un .un .un .un .un) (fun _ _ _ => False)
    (src_range1 T.b_range (ex_max2 T.b_max ex_int (ex_min2 T.b_min ex_int (ex_lenScr T.b_len (ex_var (pv 0) rfl)))) ⟨by split <;> (try split) <;> omega, by split <;> (try split) <;> omega⟩) (pg_name (i := 1) sc_lawT.nd rfl (by first | exact .inl rfl | exact .inr rfl)) (fun i x s _ _ => bnd_name) () (Weak.refl _) trivial (fun i at_ s hat _ => ?_) (fun _ _ _ z => z.elim) (fun s _ => ⟨(), trivial, Weak.refl _⟩) fun s _ => ?_
  · have hat2 : 0 ≤ at_ ∧ at_ ≤ 1000 := by
      obtain ⟨h1, h2⟩ := rangeI_get hat
      have h3 : ((if (if (scr.l.length : Int) < 3 then (scr.l.length : Int) else 3) > 1 then (if (scr.l.length : Int) < 3 then (scr.l.length : Int) else 3) else 1) : Int) ≤ 63 := by split <;> (try split) <;> omega
      omega
    refine go_set (i := 2) (ex_call (S := S_crate K) G_crate (hr.mono (by decide)) (scr, at_) (ax_cons (ex_var (pv 0) rfl) (ax_cons (ex_var (pv 1) rfl) ax_nil)) ⟨hx, hat2⟩) sc_lawT.nd rfl (by first | exact .inl rfl | exact .inr rfl) ?_
    refine go_set (i := 3) (x := .dat (some_ K fun l : Log => GoodLog l)) (ex_callIO (S := S_few K) (C := crateC 0) (C' := crateC 1060) (Ps := [is K (12 : Int), is K (4 : Int)]) G_few (hr.mono (by decide)) (ax_cons (ex_own (pv 2) rfl) (ax_cons ex_int (ax_cons ex_int ax_nil))) rfl (.inl rfl) (fun F vs h => ⟨⟨0, 12, 4⟩, [is K (12 : Int), is K (4 : Int)], ⟨by decide, by decide, by decide⟩, rfl, h, rfl, fun F v h => h⟩)) sc_lawT.nd rfl (by first | exact .inl rfl | exact .inr rfl) ?_
    refine go_open (i := 3) (ι := Log) (C := fun l => GoodLog l) (Pi := fun z => is K z) rfl (fun _ _ h => h) fun log hlog => ?_
    have hl := hlog.len
    refine go_set (i := 4) (x := .new (someC K fun l => Rnds log.length l)) (ex_callIO (S := S_rounds K) (C := crateC 1060) (C' := crateC 2060) (Ps := [is K (log.length : Int), is K (3 : Int), is K (4 : Int)]) G_rounds (hr.mono (by decide)) (ax_cons (ex_own (pv 2) rfl) (ax_cons (ex_len T.b_len (ex_var (pv 3) rfl) rd_dat) (ax_cons ex_int (ax_cons ex_int ax_nil)))) rfl (.inl rfl) (fun F vs h => ⟨⟨1060, log.length, 3, 4⟩, [is K (log.length : Int), is K (3 : Int), is K (4 : Int)], ⟨by show 1060 ≤ 100000; decide, ⟨by show (0:Int) ≤ log.length; omega, by show (log.length : Int) ≤ 1000; omega⟩, (by decide : (0:Int) ≤ 3 ∧ (3:Int) ≤ 10), (by decide : (0:Int) ≤ 4 ∧ (4:Int) ≤ 10)⟩, rfl, h, rfl, fun F o h => h⟩)) sc_lawT.nd rfl (by first | exact .inl rfl | exact .inr rfl) ?_
    refine go_openC (i := 4) (ι := List (List Rng)) (c := fun l => Rnds log.length l) (Ci := fun l => lstC K l) rfl (.inl rfl) (fun F o ⟨l, h1, h2⟩ => ⟨l, h1, h2⟩) fun rounds hR => ?_
    refine go_env (r1 := lwE K scr (.dat (is K at_)) (.own (crateC 2060)) (.dat (is K log)) (.own (lstC K rounds)) .un .un .un .un .un .un .un .un .un) ?_ rfl
    have hr1 := hr.mono (by decide : 1 ≤ 7)
    have rl := hR.1
    have ne0 : rounds ≠ [] → (0 : Int) ≤ 0 ∧ (0 : Int) < rounds.length := fun h => ⟨Int.le_refl _, by have := List.length_pos_iff.mpr h; omega⟩
    have rmem : rounds ≠ [] → rounds.getD 0 default ∈ rounds := fun h => getD_mem (List.length_pos_iff.mpr h)
    refine go_ifNJ (r2 := lwE K scr (.dat (is K at_)) (.own (crateC 2061)) (.dat (is K log)) (.own (someC K fun l => Rnds log.length l)) .un .un .un .un .un .un .un .un .un) (d := fun b => b = true → rounds ≠ [] ∧ rounds.getD 0 default ≠ [])
      (Wn.t (wn_and (c := fun b => b = !decide (rounds = [])) (d := fun b => b = true → rounds.getD 0 default ≠ []) (Tx.n (tx_cmp (q_neD (hu64 hr) (ex_own (pv 4) rfl) (ex_lst (xs := ([] : List (List Rng))) ax_nil rfl) (dt_ls (rd_own rfl)) (dt_ls rd_new) (okRs _) (okRs _))) rfl)
        (fun hc => wn_and (c := fun b => b = !decide (rounds.getD 0 default = [])) (d := fun _ => True) (Tx.n (tx_cmp (q_neD (hu64 hr) (ex_ix (xs := rounds) (ex_own (pv 4) rfl) ex_int (rd_own rfl) (atI_getD (ne0 (by simpa using hc)))) (ex_lst (xs := ([] : List Rng)) ax_nil rfl) dt_dat (dt_ls rd_new) (okRl _) (okRl _))) rfl)
          (fun hc2 => wn_and1 (tn_cmp (q_eqN (cz := fun _ => True) (ex_grabI (n := 2060) G_grab hr1 (by decide) (ex_own (pv 2) rfl) ex_int rfl (.inl rfl) (by decide) (by decide)) (ex_sm (c := fun _ => True) ex_int trivial) fun _ _ _ _ => trivial)))
          (.same _ (.same _ (.own (crateC_up (by decide)) (Cv.refl _)))) (fun _ h => nomatch h) (fun x h _ _ => by simpa using h))
        (.same _ (.same _ (.own (crateC_up (by decide)) (Cv.refl _)))) (fun _ h => nomatch h) (fun x h1 h2 hx => ⟨by simpa using h1, h2 hx⟩)))
      (fun hd => ?_) (fun _ => go_cv (.same _ (.same _ (.same _ (.same _ (.own (smOf hR) (Cv.refl _)))))) (go_nil fun _ _ _ k => k)) ?_
    · obtain ⟨d1, d2⟩ := hd rfl
      have hg := (hR.2 _ (rmem d1))
      have l1 := List.length_pos_iff.mpr d1
      have l2 := List.length_pos_iff.mpr d2
      refine go_set (i := 5) (ex_snd (ex_ix (xs := rounds.getD 0 default) (ex_ix (xs := rounds) (ex_own (pv 4) rfl) ex_int (rd_own rfl) (atI_getD ⟨Int.le_refl _, by omega⟩)) ex_int rd_dat (atI_getD ⟨Int.le_refl _, by show (0 : Int) < ((rounds.getD 0 default).length : Int); omega⟩))) sc_lawT.nd rfl (by first | exact .inl rfl | exact .inr rfl) ?_
      generalize hlast : ((rounds.getD 0 default).getD 0 default).2 = last
      have hlast2 : inRange log.length ((rounds.getD 0 default).getD 0 default) = true := hg.2.ok _ (getD_mem l2)
      have hlr : 0 ≤ last ∧ last < (log.length : Int) := by
        unfold inRange at hlast2
        simp only [Bool.and_eq_true, decide_eq_true_eq] at hlast2
        omega
      refine go_env (r1 := lwE K scr (.dat (is K at_)) (.own (crateC 2061)) (.dat (is K log)) (.own (lstC K rounds)) (.dat (is K last)) .un .un .un .un .un .un .un .un) ?_ (by rw [← hlast]; rfl)
      have hnew : Rnds log.length (rounds.set 0 (((rounds.getD 0 default).filter fun s => decide (s.1 ≤ last)).map fun s => (s.1, last))) := by
        refine ⟨by rw [List.length_set]; exact rl, fun rs hrs => ?_⟩
        rcases List.mem_or_eq_of_mem_set hrs with h | h
        · exact hR.2 rs h
        · rw [h]
          have lf := List.length_filter_le (fun s : Rng => decide (s.1 ≤ last)) (rounds.getD 0 default)
          have lg := hg.1
          refine ⟨by rw [List.length_map]; omega, ⟨by rw [List.length_map]; omega, fun r hr => ?_⟩⟩
          obtain ⟨q, hq, e⟩ := List.mem_map.mp hr
          obtain ⟨hq1, hq2⟩ := List.mem_filter.mp hq
          have hq3 := hg.2.ok q hq1
          rw [← e]
          unfold inRange at hq3 ⊢
          simp only [Bool.and_eq_true, decide_eq_true_eq] at hq3 hq2 ⊢
          omega
      refine go_setL (xs := rounds) (xs1 := rounds) (pv 4) (ex_frzL (ex_lcO (lc_ok (own := [("span", 12)]) (p := fun s : Rng => decide (s.1 ≤ last)) (f := fun s : Rng => (s.1, last)) (src_list (ex_ix (xs := rounds) (ex_own (pv 4) rfl) ex_int (rd_own rfl) (atI_getD (ne0 d1)))) (fun _ _ _ _ _ => pg_name (i := 12) sc_lawT.nd rfl (by first | exact .inl rfl | exact .inr rfl)) (fun x hm => bd_name) (fun x hm _ _ _ _ _ => tsx_one (tx_cmp (q_le (ex_fst (ex_var (pv 12) rfl)) (ex_var (pv 5) rfl)))) (fun x hm hp _ _ _ _ _ => ex_pair (ex_fst (ex_var (pv 12) rfl)) (ex_var (pv 5) rfl)) (Evl.sz_lt (by have := hg.1; show (rounds.getD 0 default).length < 100000; omega))) (blkOk_by (own := [("span", 12)]) (N := lawN) (sc := defScope s_law) (by decide +kernel)) sc_lawT.nd)) ex_int (ls_own rfl) (ls_own rfl) (ne0 d1)
        (go_cv (.same _ (.same _ (.same _ (.same _ (.own (smOf hnew) (.drop _ (Cv.refl _))))))) (go_nil fun _ _ _ k => k))
    refine go_openC (i := 4) (ι := List (List Rng)) (c := fun l => Rnds log.length l) (Ci := fun l => lstC K l) rfl (.inl rfl) (fun F o ⟨l, h1, h2⟩ => ⟨l, h1, h2⟩) fun rounds2 hR2 => ?_
    refine go_frz (i := 4) rfl lst_frz ?_
    refine go_par (i := 6) (j := 7) (ex_lst (xs := ([] : List (List Rng))) ax_nil rfl) (ex_lst (xs := ([] : List Int)) ax_nil rfl) sc_lawT.nd rfl rfl (by decide) rfl rfl ?_ (by first | rfl | decide +kernel)
    refine go_frz (i := 6) rfl lst_frz ?_
    refine go_frz (i := 7) rfl lst_frz ?_
    refine go_env (r1 := lwE K scr (.dat (is K at_)) (.own (crateC 2061)) (.dat (is K log)) (.dat (is K rounds2)) .un (.dat (is K ([] : List (List Rng)))) (.dat (is K (allLost log []))) .un .un .un .un .un .un) ?_ (by rw [lost_nil]; rfl)
    have r2l := hR2.1
    refine go_for (S := Nat × List (List Rng)) (ι := Unit) (Rk := fun _ => lwE K scr .un .un .un .un .un .un .un .un .un .un .un .un .un) (C := fun _ => True) (fun i s => s.1 = i ∧ s.2.length ≤ 10 * i ∧ ∀ rs, rs ∈ s.2 → GoodRs log.length rs)
      (fun s => lwE K scr (.dat (is K at_)) (.own (crateC (2061 + 2001 * s.1))) (.dat (is K log)) (.dat (is K rounds2)) .un (.dat (is K s.2)) (.dat (is K (allLost log s.2))) .un .un .un .un .un .un)
      (fun s y => lwE K scr (.dat (is K at_)) (.own (crateC (2061 + 2001 * s.1))) (.dat (is K log)) (.dat (is K rounds2)) .un (.dat (is K s.2)) (.dat (is K (allLost log s.2))) (.dat (is K y)) .un .un .un .un .un) (fun _ _ _ => False)
      (src_list (ex_var (pv 4) rfl)) (pg_name (i := 8) sc_lawT.nd rfl (by first | exact .inl rfl | exact .inr rfl)) (fun i x s _ _ => bnd_name) (0, []) (Weak.refl _) ⟨rfl, Nat.le_refl _, fun rs h => by simp at h⟩ (fun i spans s hsp hj => ?_) (fun _ _ _ z => z.elim) (fun s hj => ⟨(), trivial, .same _ (.drop _ (.drop _ (.drop _ (.drop _ (.drop _ (.drop _ (.drop _ (.drop _ (.drop _ (.drop _ (.drop _ (.drop _ (.drop _ (.same _ .nil))))))))))))))⟩) fun s hs => go_nil fun σ F H k => ⟨(), trivial, k⟩
    obtain ⟨j, ahead⟩ := s
    obtain ⟨hj1, hj2, hj3⟩ := hj
    have hj1 : j = i := hj1
    subst hj1
    have hj2 : ahead.length ≤ 10 * j := hj2
    have hil := (List.getElem?_eq_some_iff.mp hsp).1
    obtain ⟨spl, spg⟩ := hR2.2 spans (List.mem_of_getElem? hsp)
    have hm : 2061 + 2001 * j ≤ 100000 := by omega
    have hend : 2061 + 2001 * (j + 1) = 2061 + 2001 * j + 2001 := by omega
    show Go _ B _ (lwE K scr (.dat (is K at_)) (.own (crateC (2061 + 2001 * j))) (.dat (is K log)) (.dat (is K rounds2)) .un (.dat (is K ahead)) (.dat (is K (allLost log ahead))) (.dat (is K spans)) .un .un .un .un .un) _
    generalize 2061 + 2001 * j = m at hm hend
    have shc : ∀ {n : Nat}, n ≤ 1000000 → ∀ F vs, Paired (fun v (P : Pd) => P.p F v) vs [is K spans] → ∃ (x : Nat × List Rng) (qs : List Pd), (S_shuf K).dom x ∧ (S_shuf K).ars x = .io (crateC n) :: qs.map .dat ∧ Paired (fun v (P : Pd) => P.p F v) vs qs ∧ (S_shuf K).po x = [crateC (n + 1000)] ∧ ReLe ((S_shuf K).re x) (.dat (some_ K fun l : List Rng => l.Perm spans)) :=
      fun {n} hn F vs h => ⟨(n, spans), [is K spans], ⟨hn, by show spans.length ≤ 1000; omega⟩, rfl, h, rfl, fun F v h => h⟩
    refine go_setLc (i := 9) (x := .new (someC K fun ys : List (List Rng) => ∃ l : List Rng, l.Perm spans ∧ ys = (sortSnd l).map fun s => [s])) (r1 := lwE K scr (.dat (is K at_)) (.own (crateC (m + 1000))) (.dat (is K log)) (.dat (is K rounds2)) .un (.dat (is K ahead)) (.dat (is K (allLost log ahead))) (.dat (is K spans)) .un .un .un .un .un)
      (lc_okD (δ := List Rng) (c0 := fun l => ∃ l0, l0.Perm spans ∧ l = sortSnd l0) (own := [("span", 12)]) (c := fun _ x (y : List Rng) => y = [x])
        (R := fun _ _ => lwE K scr (.dat (is K at_)) (.own (crateC (m + 1000))) (.dat (is K log)) (.dat (is K rounds2)) .un (.dat (is K ahead)) (.dat (is K (allLost log ahead))) (.dat (is K spans)) .un .un .un .un .un)
        (rb := fun _ _ x => lwE K scr (.dat (is K at_)) (.own (crateC (m + 1000))) (.dat (is K log)) (.dat (is K rounds2)) .un (.dat (is K ahead)) (.dat (is K (allLost log ahead))) (.dat (is K spans)) .un .un .un (.dat (is K x)) .un)
        (re := fun _ _ x => lwE K scr (.dat (is K at_)) (.own (crateC (m + 1000))) (.dat (is K log)) (.dat (is K rounds2)) .un (.dat (is K ahead)) (.dat (is K (allLost log ahead))) (.dat (is K spans)) .un .un .un (.dat (is K x)) .un)
        (srcD_list (ex_sortSnd (α := Int) (c0 := fun l => l.Perm spans) (i := 14) (j := 0) TB rfl hr T.b_sorted (ex_callIO (S := S_shuf K) (C := crateC m) (C' := crateC (m + 1000)) (Ps := [is K spans]) G_shuf (hr.mono (by decide)) (ax_cons (ex_own (pv 2) rfl) (ax_cons (ex_var (pv 8) rfl) ax_nil)) rfl (.inl rfl) (shc (by omega))) (fun xs h => ⟨xs, h, rfl⟩) rfl hP (by exact ⟨⟨("span" : Str), _, _, _, _, rfl, fun _ _ _ _ _ _ => rfl, rfl, by decide⟩, rfl, rfl, rfl, by decide +kernel, by decide +kernel⟩))) (fun _ _ _ _ _ => pg_name (i := 12) sc_lawT.nd rfl (by first | exact .inl rfl | exact .inr rfl)) (fun _ _ => rfl) (fun _ _ => Cv.refl _) (fun _ i x hx => bd_name)
        (fun _ i x _ _ _ _ _ _ _ => ex_sm (ex_frzL (ex_lst (xs := [x]) (ax_cons (ex_var (pv 12) rfl) ax_nil) rfl (hl := by show 1 ≤ sizeLine; decide))) rfl) (fun _ i x hx j hj => set_out (i := 12) (r := lwE K scr (.dat (is K at_)) (.own (crateC (m + 1000))) (.dat (is K log)) (.dat (is K rounds2)) .un (.dat (is K ahead)) (.dat (is K (allLost log ahead))) (.dat (is K spans)) .un .un .un .un .un) hj) (fun _ i j hj => rfl) (fun _ _ => Cv.refl _) (fun d hd => ?_) (fun d ys hd h1 h2 => ?_)) (blkOk_by (own := [("span", 12)]) (N := lawN) (sc := defScope s_law) (by decide +kernel)) sc_lawT.nd rfl rfl (sw_true rfl rfl rfl (by decide +kernel)) ?_
    · obtain ⟨l0, hp, e⟩ := hd
      have h1 := (sortSnd_perm l0).length_eq
      have h2 := hp.length_eq
      rw [e]
      exact Evl.sz_lt (by omega)
    · obtain ⟨l0, hp, e⟩ := hd
      exact ⟨l0, hp, by rw [← e]; exact map_ones h1 h2⟩
    refine go_frz (i := 9) rfl smc_frz ?_
    refine go_open (i := 9) (ι := List (List Rng)) (C := fun ys => ∃ l : List Rng, l.Perm spans ∧ ys = (sortSnd l).map fun s => [s]) (Pi := fun z => is K z) rfl (fun _ _ h => h) fun singles hsing => ?_
    refine go_env (r1 := lwE K scr (.dat (is K at_)) (.own (crateC (m + 1000))) (.dat (is K log)) (.dat (is K rounds2)) .un (.dat (is K ahead)) (.dat (is K (allLost log ahead))) (.dat (is K spans)) (.dat (is K singles)) .un .un .un .un) ?_ rfl
    refine go_setLc (i := 10) (x := .new (someC K fun ys : List (List Rng) => ∃ l : List Rng, l.Perm spans ∧ ys = l.map fun s => [s])) (r1 := lwE K scr (.dat (is K at_)) (.own (crateC (m + 2000))) (.dat (is K log)) (.dat (is K rounds2)) .un (.dat (is K ahead)) (.dat (is K (allLost log ahead))) (.dat (is K spans)) (.dat (is K singles)) .un .un .un .un)
      (lc_okD (δ := List Rng) (c0 := fun l => l.Perm spans) (own := [("span", 12)]) (c := fun _ x (y : List Rng) => y = [x])
        (R := fun _ _ => lwE K scr (.dat (is K at_)) (.own (crateC (m + 2000))) (.dat (is K log)) (.dat (is K rounds2)) .un (.dat (is K ahead)) (.dat (is K (allLost log ahead))) (.dat (is K spans)) (.dat (is K singles)) .un .un .un .un) (rb := fun _ _ x => lwE K scr (.dat (is K at_)) (.own (crateC (m + 2000))) (.dat (is K log)) (.dat (is K rounds2)) .un (.dat (is K ahead)) (.dat (is K (allLost log ahead))) (.dat (is K spans)) (.dat (is K singles)) .un .un (.dat (is K x)) .un) (re := fun _ _ x => lwE K scr (.dat (is K at_)) (.own (crateC (m + 2000))) (.dat (is K log)) (.dat (is K rounds2)) .un (.dat (is K ahead)) (.dat (is K (allLost log ahead))) (.dat (is K spans)) (.dat (is K singles)) .un .un (.dat (is K x)) .un)
        (srcD_list (ex_callIO (S := S_shuf K) (C := crateC (m + 1000)) (C' := crateC (m + 2000)) (Ps := [is K spans]) G_shuf (hr.mono (by decide)) (ax_cons (ex_own (pv 2) rfl) (ax_cons (ex_var (pv 8) rfl) ax_nil)) rfl (.inl rfl) (shc (n := m + 1000) (by omega)))) (fun _ _ _ _ _ => pg_name (i := 12) sc_lawT.nd rfl (by first | exact .inl rfl | exact .inr rfl)) (fun _ _ => rfl) (fun _ _ => Cv.refl _) (fun _ i x hx => bd_name)
        (fun _ i x _ _ _ _ _ _ _ => ex_sm (ex_frzL (ex_lst (xs := [x]) (ax_cons (ex_var (pv 12) rfl) ax_nil) rfl (hl := by show 1 ≤ sizeLine; decide))) rfl) (fun _ i x hx j hj => set_out (i := 12) (r := lwE K scr (.dat (is K at_)) (.own (crateC (m + 2000))) (.dat (is K log)) (.dat (is K rounds2)) .un (.dat (is K ahead)) (.dat (is K (allLost log ahead))) (.dat (is K spans)) (.dat (is K singles)) .un .un .un .un) hj) (fun _ i j hj => rfl) (fun _ _ => Cv.refl _) (fun d hd => Evl.sz_lt (by have := hd.length_eq; omega)) (fun d ys hd h1 h2 => ⟨d, hd, map_ones h1 h2⟩)) (blkOk_by (own := [("span", 12)]) (N := lawN) (sc := defScope s_law) (by decide +kernel)) sc_lawT.nd rfl rfl (sw_true rfl rfl rfl (by decide +kernel)) ?_
    refine go_frz (i := 10) rfl smc_frz ?_
    refine go_open (i := 10) (ι := List (List Rng)) (C := fun ys => ∃ l : List Rng, l.Perm spans ∧ ys = l.map fun s => [s]) (Pi := fun z => is K z) rfl (fun _ _ h => h) fun other hoth => ?_
    refine go_env (r1 := lwE K scr (.dat (is K at_)) (.own (crateC (m + 2000))) (.dat (is K log)) (.dat (is K rounds2)) .un (.dat (is K ahead)) (.dat (is K (allLost log ahead))) (.dat (is K spans)) (.dat (is K singles)) (.dat (is K other)) .un .un .un) ?_ rfl
    obtain ⟨l1, hp1, es⟩ := hsing
    obtain ⟨l2, hp2, eo⟩ := hoth
    have hps : (sortSnd l1).Perm spans := (sortSnd_perm l1).trans hp1
    have hsl : singles.length ≤ 10 := by rw [es, List.length_map, hps.length_eq]; exact spl
    have hol : other.length ≤ 10 := by rw [eo, List.length_map, hp2.length_eq]; exact spl
    have g1 : GoodRounds log.length (ahead ++ [spans]) := good_app (by omega) (by simp) hj3 fun rs h => by rw [List.mem_singleton.mp h]; exact spg
    have g2 : GoodRounds log.length (ahead ++ singles) := good_app (by omega) (by omega) hj3 (by rw [es]; exact good_ones hps spg)
    have g3 : GoodRounds log.length (ahead ++ other) := good_app (by omega) (by omega) hj3 (by rw [eo]; exact good_ones hp2 spg)
    have eA : allLost log (ahead ++ singles) = allLost log (ahead ++ [spans]) := by rw [es]; exact law_A hps (sortSnd_asc l1)
    have eB : ∀ x, x ∈ allLost log (ahead ++ other) → x ∈ allLost log (ahead ++ [spans]) := by rw [eo]; exact law_B hp2
    have eD : ∀ x, x ∈ allLost log ahead → x ∈ allLost log (ahead ++ [spans]) := law_D
    refine go_set (i := 11) (ex_call (S := S_lost K) G_lost hr (_, _) (ax_cons (ex_var (pv 3) rfl) (ax_cons (ex_frzL (ex_cat (ex_var (pv 6) rfl) (ex_lst (xs := [spans]) (ax_cons (ex_var (pv 8) rfl) ax_nil) rfl (hl := by show 1 ≤ sizeLine; decide)) rd_dat rd_new (Evl.sz_of (by show ahead.length + 1 ≤ _; omega)))) ax_nil)) ⟨hlog, g1⟩) sc_lawT.nd rfl (by first | exact .inl rfl | exact .inr rfl) ?_
    refine go_env (r1 := lwE K scr (.dat (is K at_)) (.own (crateC (m + 2000))) (.dat (is K log)) (.dat (is K rounds2)) .un (.dat (is K ahead)) (.dat (is K (allLost log ahead))) (.dat (is K spans)) (.dat (is K singles)) (.dat (is K other)) (.dat (is K (allLost log (ahead ++ [spans])))) .un .un) ?_ rfl
    refine go_ifF (tx_eqT (tx_cmp (q_neD (hu64 hr) (ex_call (S := S_lost K) G_lost hr (_, _) (ax_cons (ex_var (pv 3) rfl) (ax_cons (ex_frzL (ex_cat (ex_var (pv 6) rfl) (ex_var (pv 9) rfl) rd_dat rd_dat (Evl.sz_of (by omega)))) ax_nil)) ⟨hlog, g2⟩) (ex_var (pv 11) rfl) dt_dat dt_dat (okIs _) (okIs _))) (by simp [eA])) ?_
    refine go_ifF (tx_eqT (tx_cmp (q_neD (hu64 hr) (ex_lcO (lc_ok (own := [("k", 13)]) (p := fun x => !decide (x ∈ allLost log (ahead ++ [spans]))) (f := fun x : Int => x) (src_list (ex_call (S := S_lost K) G_lost hr (_, _) (ax_cons (ex_var (pv 3) rfl) (ax_cons (ex_frzL (ex_cat (ex_var (pv 6) rfl) (ex_var (pv 10) rfl) rd_dat rd_dat (Evl.sz_of (by omega)))) ax_nil)) ⟨hlog, g3⟩)) (fun _ _ _ _ _ => pg_name (i := 13) sc_lawT.nd rfl (by first | exact .inl rfl | exact .inr rfl)) (fun x hm => bd_name) (fun x hm _ _ _ _ _ => tsx_one (tx_cmp (q_ninL (hu65 hr) (ex_var (pv 13) rfl) (ex_var (pv 11) rfl) dt_dat dt_dat trivial (okIs _)))) (fun x hm hp _ _ _ _ _ => ex_var (pv 13) rfl) (Evl.sz_lt (by have := lost_len log (ahead ++ other); omega))) (blkOk_by (own := [("k", 13)]) (N := lawN) (sc := defScope s_law) (by decide +kernel)) sc_lawT.nd) (ex_lst (xs := ([] : List Int)) ax_nil rfl) (dt_ls rd_new) (dt_ls rd_new) (okIs _) (okIs _))) (by rw [flt_nil eB]; rfl)) ?_
    refine go_ifF (tx_eqT (wx_and (tx_cmp (q_eqD (hu64 hr) (ex_var (pv 6) rfl) (ex_lst (xs := ([] : List (List Rng))) ax_nil rfl) dt_dat (dt_ls rd_new) (okRs _) (okRs _))) (fun hh => wx_and1 (tx_cmp (q_neD (hu64 hr) (ex_call (S := S_marked K) G_marked (hr.mono (by decide)) (_, _) (ax_cons (ex_frzL (ex_listOf T.b_list (ex_var (pv 3) rfl) rd_dat)) (ax_cons (ex_frzL (ex_listOf T.b_list (ex_var (pv 8) rfl) rd_dat)) ax_nil)) ⟨hlog, spg⟩) (ex_var (pv 11) rfl) dt_dat dt_dat (okIs _) (okIs _)))) (fun _ => rfl)).t (by
      by_cases ha : ahead = []
      · rw [ha, law_C]; simp
      · simp [ha])) ?_
    refine go_ifF (tx_eqT (tx_cmp (q_neD (hu64 hr) (ex_lcO (lc_ok (own := [("k", 13)]) (p := fun x => !decide (x ∈ allLost log (ahead ++ [spans]))) (f := fun x : Int => x) (src_list (ex_var (pv 7) rfl)) (fun _ _ _ _ _ => pg_name (i := 13) sc_lawT.nd rfl (by first | exact .inl rfl | exact .inr rfl)) (fun x hm => bd_name) (fun x hm _ _ _ _ _ => tsx_one (tx_cmp (q_ninL (hu65 hr) (ex_var (pv 13) rfl) (ex_var (pv 11) rfl) dt_dat dt_dat trivial (okIs _)))) (fun x hm hp _ _ _ _ _ => ex_var (pv 13) rfl) (Evl.sz_lt (by have := lost_len log ahead; omega))) (blkOk_by (own := [("k", 13)]) (N := lawN) (sc := defScope s_law) (by decide +kernel)) sc_lawT.nd) (ex_lst (xs := ([] : List Int)) ax_nil rfl) (dt_ls rd_new) (dt_ls rd_new) (okIs _) (okIs _))) (by rw [flt_nil eD]; rfl)) ?_
    refine go_set (i := 6) (x := .dat (some_ K fun l : List (List Rng) => l = ahead ++ singles ∨ l = ahead ++ [spans])) (ex_smf (ex_catN (ca := fun l => l = ahead) (cb := fun l => l = singles ∨ l = [spans]) (ex_sm (ex_var (pv 6) rfl) rfl) (ex_ixN (cx := fun ws : List (List (List Rng)) => ws = [singles, [spans]]) (ex_sm (ex_frzL (ex_lst (xs := [singles, [spans]]) (ax_cons (ex_var (pv 9) rfl) (ax_cons (ex_frzL (ex_lst (xs := [spans]) (ax_cons (ex_var (pv 8) rfl) ax_nil) rfl (hl := by show 1 ≤ sizeLine; decide))) ax_nil)) rfl (hl := by show 2 ≤ sizeLine; decide))) rfl) (ex_grabI (n := m + 2000) G_grab hr1 (by decide) (ex_own (pv 2) rfl) ex_int rfl (.inl rfl) (by decide) (by omega)) ?_) ?_ ?_)) sc_lawT.nd rfl (by first | exact .inl rfl | exact .inr rfl) ?_
    · intro ws i h1 h2
      subst h1
      refine ⟨_, atI_getD h2, ?_⟩
      have e : i = 0 ∨ i = 1 := by omega
      rcases e with e | e <;> rw [e]
      · exact .inl rfl
      · exact .inr rfl
    · intro u v h1 h2
      rw [h1]
      rcases h2 with h2 | h2 <;> rw [h2] <;> exact Evl.sz_of (by first | omega | (show ahead.length + 1 ≤ _; omega))
    · intro u v h1 h2
      rw [h1]
      rcases h2 with h2 | h2 <;> rw [h2]
      · exact .inl rfl
      · exact .inr rfl
    refine go_open (i := 6) (ι := List (List Rng)) (C := fun l => l = ahead ++ singles ∨ l = ahead ++ [spans]) (Pi := fun z => is K z) rfl (fun _ _ h => h) fun ahead2 h2 => ?_
    refine go_set (i := 7) (ex_var (pv 11) rfl) sc_lawT.nd rfl (by first | exact .inl rfl | exact .inr rfl) ?_
    have eW : allLost log ahead2 = allLost log (ahead ++ [spans]) := by
      rcases h2 with h2 | h2 <;> rw [h2]
      exact eA
    have gA : ∀ rs, rs ∈ ahead2 → GoodRs log.length rs := by
      rcases h2 with h2 | h2 <;> rw [h2]
      · exact g2.ok
      · exact g1.ok
    have lA : ahead2.length ≤ 10 * (j + 1) := by
      rcases h2 with h2 | h2 <;> rw [h2, List.length_append]
      · omega
      · show ahead.length + 1 ≤ _; omega
    refine go_nil fun σ F H k => ⟨(j + 1, ahead2), ⟨rfl, lA, gA⟩, ?_⟩
    show Ok B (lwE K scr (.dat (is K at_)) (.own (crateC (2061 + 2001 * (j + 1)))) (.dat (is K log)) (.dat (is K rounds2)) .un (.dat (is K ahead2)) (.dat (is K (allLost log ahead2))) .un .un .un .un .un .un) σ F H
    rw [hend, eW]
    exact k.weak (.same _ (.same _ (.same _ (.same _ (.same _ (.same _ (.same _ (.same _ (.drop _ (.drop _ (.drop _ (.drop _ (.drop _ (.drop _ (.same _ .nil)))))))))))))))
  · exact go_retD (r1 := lwE K scr .un .un .un .un .un .un .un .un .un .un .un .un .un) hB ex_bl (fun _ _ h => h) (io1 (i := 14) hI1 rfl)
end
end M

namespace M
open PySem PySem.Spec PyProof.Rows L2 DL
set_option maxHeartbeats 0
/-! ### the head -/
def d_is_integer : He.DefD := ⟨("is_integer", none), "is_integer", "is_integer", defArgs s_is_integer, defBody s_is_integer, defScope s_is_integer, [], []⟩
def d_is_position : He.DefD := ⟨("is_position", none), "is_position", "is_position", defArgs s_is_position, defBody s_is_position, defScope s_is_position, [], []⟩
def d_is_key : He.DefD := ⟨("is_key", none), "is_key", "is_key", defArgs s_is_key, defBody s_is_key, defScope s_is_key, [], []⟩
def d_is_value : He.DefD := ⟨("is_value", none), "is_value", "is_value", defArgs s_is_value, defBody s_is_value, defScope s_is_value, [], []⟩
def d_is_record : He.DefD := ⟨("is_record", none), "is_record", "is_record", defArgs s_is_record, defBody s_is_record, defScope s_is_record, [], []⟩
def d_is_log : He.DefD := ⟨("is_log", none), "is_log", "is_log", defArgs s_is_log, defBody s_is_log, defScope s_is_log, [], []⟩
def d_check_log : He.DefD := ⟨("check_log", none), "check_log", "check_log", defArgs s_check_log, defBody s_check_log, defScope s_check_log, [], []⟩
def d_is_range : He.DefD := ⟨("is_range", none), "is_range", "is_range", defArgs s_is_range, defBody s_is_range, defScope s_is_range, [], []⟩
def d_check_ranges : He.DefD := ⟨("check_ranges", none), "check_ranges", "check_ranges", defArgs s_check_ranges, defBody s_check_ranges, defScope s_check_ranges, [], []⟩
def d_nexts_of : He.DefD := ⟨("nexts_of", none), "nexts_of", "nexts_of", defArgs s_nexts_of, defBody s_nexts_of, defScope s_nexts_of, [], []⟩
def d_arcs_of : He.DefD := ⟨("arcs_of", none), "arcs_of", "arcs_of", defArgs s_arcs_of, defBody s_arcs_of, defScope s_arcs_of, [], []⟩
def d_is_marked : He.DefD := ⟨("is_marked", none), "is_marked", "is_marked", defArgs s_is_marked, defBody s_is_marked, defScope s_is_marked, [], []⟩
def d_marked_by : He.DefD := ⟨("marked_by", none), "marked_by", "marked_by", defArgs s_marked_by, defBody s_marked_by, defScope s_marked_by, [], []⟩
def d_marked : He.DefD := ⟨("marked", none), "marked", "marked", defArgs s_marked, defBody s_marked, defScope s_marked, [], []⟩
def d_check_rounds : He.DefD := ⟨("check_rounds", none), "check_rounds", "check_rounds", defArgs s_check_rounds, defBody s_check_rounds, defScope s_check_rounds, [], []⟩
def d_standing_nexts : He.DefD := ⟨("standing_nexts", none), "standing_nexts", "standing_nexts", defArgs s_standing_nexts, defBody s_standing_nexts, defScope s_standing_nexts, [], []⟩
def d_removed_by : He.DefD := ⟨("removed_by", none), "removed_by", "removed_by", defArgs s_removed_by, defBody s_removed_by, defScope s_removed_by, [], []⟩
def d_after : He.DefD := ⟨("after", none), "after", "after", defArgs s_after, defBody s_after, defScope s_after, [], []⟩
def d__law_crate : He.DefD := ⟨("_law_crate", none), "_law_crate", "_law_crate", defArgs s__law_crate, defBody s__law_crate, defScope s__law_crate, [], []⟩
def d__law_grab : He.DefD := ⟨("_law_grab", none), "_law_grab", "_law_grab", defArgs s__law_grab, defBody s__law_grab, defScope s__law_grab, [], []⟩
def d__law_key : He.DefD := ⟨("_law_key", none), "_law_key", "_law_key", defArgs s__law_key, defBody s__law_key, defScope s__law_key, [], []⟩
def d__law_any_value : He.DefD := ⟨("_law_any_value", none), "_law_any_value", "_law_any_value", defArgs s__law_any_value, defBody s__law_any_value, defScope s__law_any_value, [], []⟩
def d__law_names : He.DefD := ⟨("_law_names", none), "_law_names", "_law_names", defArgs s__law_names, defBody s__law_names, defScope s__law_names, [], []⟩
def d__law_keyed : He.DefD := ⟨("_law_keyed", none), "_law_keyed", "_law_keyed", defArgs s__law_keyed, defBody s__law_keyed, defScope s__law_keyed, [], []⟩
def d__law_drawn_spans : He.DefD := ⟨("_law_drawn_spans", none), "_law_drawn_spans", "_law_drawn_spans", defArgs s__law_drawn_spans, defBody s__law_drawn_spans, defScope s__law_drawn_spans, [], []⟩
def d__law_drawn_rounds : He.DefD := ⟨("_law_drawn_rounds", none), "_law_drawn_rounds", "_law_drawn_rounds", defArgs s__law_drawn_rounds, defBody s__law_drawn_rounds, defScope s__law_drawn_rounds, [], []⟩
def d__law_few_keys : He.DefD := ⟨("_law_few_keys", none), "_law_few_keys", "_law_few_keys", defArgs s__law_few_keys, defBody s__law_few_keys, defScope s__law_few_keys, [], []⟩
def d__law_copies : He.DefD := ⟨("_law_copies", none), "_law_copies", "_law_copies", defArgs s__law_copies, defBody s__law_copies, defScope s__law_copies, [], []⟩
def d__law_shuffled : He.DefD := ⟨("_law_shuffled", none), "_law_shuffled", "_law_shuffled", defArgs s__law_shuffled, defBody s__law_shuffled, defScope s__law_shuffled, [], []⟩
def d__law_all_lost : He.DefD := ⟨("_law_all_lost", none), "_law_all_lost", "_law_all_lost", defArgs s__law_all_lost, defBody s__law_all_lost, defScope s__law_all_lost, [], []⟩
def d_law : He.DefD := ⟨("law", none), "law", "law", defArgs s_law, defBody s_law, defScope s_law, [], []⟩
def fnL : List He.DefD := [d_is_integer, d_is_position, d_is_key, d_is_value, d_is_record, d_is_log, d_check_log, d_is_range, d_check_ranges, d_nexts_of, d_arcs_of, d_is_marked, d_marked_by, d_marked, d_check_rounds, d_standing_nexts, d_removed_by, d_after, d__law_crate, d__law_grab, d__law_key, d__law_any_value, d__law_names, d__law_keyed, d__law_drawn_spans, d__law_drawn_rounds, d__law_few_keys, d__law_copies, d__law_shuffled, d__law_all_lost, d_law]
def faL : List He.Fa := [.glo "is_integer", .glo "is_position", .glo "is_key", .glo "is_value", .glo "is_record", .glo "is_log", .glo "check_log", .glo "is_range", .glo "check_ranges", .glo "nexts_of", .glo "arcs_of", .glo "is_marked", .glo "marked_by", .glo "marked", .glo "check_rounds", .glo "standing_nexts", .glo "removed_by", .glo "after", .glo "_law_crate", .glo "_law_grab", .glo "_law_key", .glo "_law_any_value", .glo "_law_names", .glo "_law_keyed", .glo "_law_drawn_spans", .glo "_law_drawn_rounds", .glo "_law_few_keys", .glo "_law_copies", .glo "_law_shuffled", .glo "_law_all_lost", .glo "law", .free "ValueError", .free "abs", .free "all", .free "any", .free "bool", .free "enumerate", .free "int", .free "isinstance", .free "len", .free "list", .free "max", .free "min", .free "range", .free "sorted", .free "str", .free "tuple", .int "LONGEST_KEY" 8, .str "LETTERS" "abcdefghijklmnopqrstuvwxyz"]
abbrev Rw : PySem.W.OpenRow := PySem.W.OpenLaw.row PySem.Challenge.rw_markthenpurge_k78_whole_ranges_one_by_on
abbrev hkL : PySem.W.Hook := He.hookX 4 faL fnL [] [("law", none)] (fun _ => true)
def obL (s : PySem.W.SharedT) : He.AlX := He.obsX 4 faL fnL [] [("law", none)] (fun _ => true) (HandSHeadRun.getT s)
theorem obL_eq (s : PySem.W.SharedT) : obL s = hkL.obs s.abs := He.obsX_eq (HandSHeadRun.getT_eq s)
def looseL : List PySem.Str := ((PySem.Challenge.pw_markthenpurge_k78_whole_ranges_one_by_on.main.scope.names.map (·.1)).filter fun x => !decide (x = ("law" : PySem.Str)))
theorem runL (w : World) : HandSHeadRun.RunEq Rw (PySem.W.view Rw.prog [39]) hkL obL 3000 looseL w := by
  intro os
  kernel_rfl
abbrev lawSpK (K : PySem.W.Frag) : Sp := lawSp K (He.cT K ("law", none)).2 fun x => x.l.length ≤ 63
theorem factsL {P : Program} {w : World} {K : PySem.W.Frag} {h : Heap} {mg : Str → Option Value} {fa : Addr} (KX : K.In h) (G : h.Ns mainGlobals mg) (hfa : mg ("law" : Str) = some (.ref fa)) (c : He.SaysX faL fnL [] [("law", none)] (fun _ => true) w h K) :
    ∃ (fd : FuncData) (cd : Addr), fd.code = .ref cd ∧ (He.cT K ("law", none)).1 = cd ∧ (∀ (s : Shared) (v : Value), BindsTo s fd ⟨[v], []⟩ [("script", v)]) ∧ ∀ base : Heap, K.In base → base.Ns mainGlobals mg → LamX.TabB base mg (He.cT K ("law", none)).1 (He.cT K ("law", none)).2 → FnOk P w K mg base CX0 8 fa fd ["script"] (lawSpK K) := by
  have cd := c.t.d
  have T : Tx K mg := ⟨He.free_ok KX G (cd.fact 31 (f := .free "ValueError") rfl), He.free_ok KX G (cd.fact 32 (f := .free "abs") rfl), He.free_ok KX G (cd.fact 33 (f := .free "all") rfl), He.free_ok KX G (cd.fact 34 (f := .free "any") rfl), He.free_ok KX G (cd.fact 35 (f := .free "bool") rfl), He.free_ok KX G (cd.fact 36 (f := .free "enumerate") rfl), He.free_ok KX G (cd.fact 37 (f := .free "int") rfl), He.free_ok KX G (cd.fact 38 (f := .free "isinstance") rfl), He.free_ok KX G (cd.fact 39 (f := .free "len") rfl), He.free_ok KX G (cd.fact 40 (f := .free "list") rfl), He.free_ok KX G (cd.fact 41 (f := .free "max") rfl), He.free_ok KX G (cd.fact 42 (f := .free "min") rfl), He.free_ok KX G (cd.fact 43 (f := .free "range") rfl), He.free_ok KX G (cd.fact 44 (f := .free "sorted") rfl), He.free_ok KX G (cd.fact 45 (f := .free "str") rfl), He.free_ok KX G (cd.fact 46 (f := .free "tuple") rfl), He.str_ok KX G (cd.fact 48 (f := .str "LETTERS" "abcdefghijklmnopqrstuvwxyz") rfl), He.int_ok KX G (cd.fact 47 (f := .int "LONGEST_KEY" 8) rfl)⟩
  obtain ⟨fd_is_integer, F_is_integer⟩ := cd.def_ 0 (d := d_is_integer) rfl
  obtain ⟨fd_is_position, F_is_position⟩ := cd.def_ 1 (d := d_is_position) rfl
  obtain ⟨fd_is_key, F_is_key⟩ := cd.def_ 2 (d := d_is_key) rfl
  obtain ⟨fd_is_value, F_is_value⟩ := cd.def_ 3 (d := d_is_value) rfl
  obtain ⟨fd_is_record, F_is_record⟩ := cd.def_ 4 (d := d_is_record) rfl
  obtain ⟨fd_is_log, F_is_log⟩ := cd.def_ 5 (d := d_is_log) rfl
  obtain ⟨fd_check_log, F_check_log⟩ := cd.def_ 6 (d := d_check_log) rfl
  obtain ⟨fd_is_range, F_is_range⟩ := cd.def_ 7 (d := d_is_range) rfl
  obtain ⟨fd_check_ranges, F_check_ranges⟩ := cd.def_ 8 (d := d_check_ranges) rfl
  obtain ⟨fd_nexts_of, F_nexts_of⟩ := cd.def_ 9 (d := d_nexts_of) rfl
  obtain ⟨fd_arcs_of, F_arcs_of⟩ := cd.def_ 10 (d := d_arcs_of) rfl
  obtain ⟨fd_is_marked, F_is_marked⟩ := cd.def_ 11 (d := d_is_marked) rfl
  obtain ⟨fd_marked_by, F_marked_by⟩ := cd.def_ 12 (d := d_marked_by) rfl
  obtain ⟨fd_marked, F_marked⟩ := cd.def_ 13 (d := d_marked) rfl
  obtain ⟨fd_check_rounds, F_check_rounds⟩ := cd.def_ 14 (d := d_check_rounds) rfl
  obtain ⟨fd_standing_nexts, F_standing_nexts⟩ := cd.def_ 15 (d := d_standing_nexts) rfl
  obtain ⟨fd_removed_by, F_removed_by⟩ := cd.def_ 16 (d := d_removed_by) rfl
  obtain ⟨fd_after, F_after⟩ := cd.def_ 17 (d := d_after) rfl
  obtain ⟨fd__law_crate, F__law_crate⟩ := cd.def_ 18 (d := d__law_crate) rfl
  obtain ⟨fd__law_grab, F__law_grab⟩ := cd.def_ 19 (d := d__law_grab) rfl
  obtain ⟨fd__law_key, F__law_key⟩ := cd.def_ 20 (d := d__law_key) rfl
  obtain ⟨fd__law_any_value, F__law_any_value⟩ := cd.def_ 21 (d := d__law_any_value) rfl
  obtain ⟨fd__law_names, F__law_names⟩ := cd.def_ 22 (d := d__law_names) rfl
  obtain ⟨fd__law_keyed, F__law_keyed⟩ := cd.def_ 23 (d := d__law_keyed) rfl
  obtain ⟨fd__law_drawn_spans, F__law_drawn_spans⟩ := cd.def_ 24 (d := d__law_drawn_spans) rfl
  obtain ⟨fd__law_drawn_rounds, F__law_drawn_rounds⟩ := cd.def_ 25 (d := d__law_drawn_rounds) rfl
  obtain ⟨fd__law_few_keys, F__law_few_keys⟩ := cd.def_ 26 (d := d__law_few_keys) rfl
  obtain ⟨fd__law_copies, F__law_copies⟩ := cd.def_ 27 (d := d__law_copies) rfl
  obtain ⟨fd__law_shuffled, F__law_shuffled⟩ := cd.def_ 28 (d := d__law_shuffled) rfl
  obtain ⟨fd__law_all_lost, F__law_all_lost⟩ := cd.def_ 29 (d := d__law_all_lost) rfl
  obtain ⟨fd_law, F_law⟩ := cd.def_ 30 (d := d_law) rfl
  have e := hfa.symm.trans (He.glo_ok KX G (cd.fact 30 (f := .glo "law") rfl))
  cases e
  obtain ⟨oc, od, dV, kV, doc, pm, an, cdv, ct, osl, efd, lk, hcd, _, _⟩ := F_law.ex
  obtain ⟨cc, ecc⟩ := He.codeIn_ref hcd
  have hcode : fd_law.code = .ref cc := by rw [efd, ← ecc]
  have hcT : (He.cT K ("law", none)).1 = cc := He.codeOf_eq lk hcode
  refine ⟨fd_law, cc, hcode, hcT, fun s v => FunD.bindsA (ps := ["script"]) F_law (fun _ _ _ _ _ _ us hl => match us, hl with | [_], _ => rfl) s [v] rfl, fun base KB GB TB => ?_⟩
  have G_is_integer : Fn P w K mg base "is_integer" 1 ["thing"] (spOf (S_is_integer K)) := ⟨_, fd_is_integer, ok_is_integer T  F_is_integer, He.glo_ok KX G (cd.fact 0 (f := .glo "is_integer") rfl), F_is_integer.kp, F_is_integer.bindsN fun _ _ _ _ _ _ us hl => match us, hl with | [_], _ => rfl⟩
  have G_is_position : Fn P w K mg base "is_position" 2 ["size", "thing"] (spOf (S_is_position K)) := ⟨_, fd_is_position, ok_is_position T G_is_integer F_is_position, He.glo_ok KX G (cd.fact 1 (f := .glo "is_position") rfl), F_is_position.kp, F_is_position.bindsN fun _ _ _ _ _ _ us hl => match us, hl with | [_, _], _ => rfl⟩
  have G_is_key : Fn P w K mg base "is_key" 1 ["thing"] (spOf (S_is_key K)) := ⟨_, fd_is_key, ok_is_key T  F_is_key, He.glo_ok KX G (cd.fact 2 (f := .glo "is_key") rfl), F_is_key.kp, F_is_key.bindsN fun _ _ _ _ _ _ us hl => match us, hl with | [_], _ => rfl⟩
  have G_is_value : Fn P w K mg base "is_value" 2 ["thing"] (spOf (S_is_value K)) := ⟨_, fd_is_value, ok_is_value T G_is_integer F_is_value, He.glo_ok KX G (cd.fact 3 (f := .glo "is_value") rfl), F_is_value.kp, F_is_value.bindsN fun _ _ _ _ _ _ us hl => match us, hl with | [_], _ => rfl⟩
  have G_is_record : Fn P w K mg base "is_record" 3 ["thing"] (spOf (S_is_record K)) := ⟨_, fd_is_record, ok_is_record T G_is_key G_is_value F_is_record, He.glo_ok KX G (cd.fact 4 (f := .glo "is_record") rfl), F_is_record.kp, F_is_record.bindsN fun _ _ _ _ _ _ us hl => match us, hl with | [_], _ => rfl⟩
  have G_is_log : Fn P w K mg base "is_log" 4 ["thing"] (spOf (S_is_log K)) := ⟨_, fd_is_log, ok_is_log T G_is_record F_is_log, He.glo_ok KX G (cd.fact 5 (f := .glo "is_log") rfl), F_is_log.kp, F_is_log.bindsN fun _ _ _ _ _ _ us hl => match us, hl with | [_], _ => rfl⟩
  have G_check_log : Fn P w K mg base "check_log" 5 ["log"] (spOf (S_check_log K)) := ⟨_, fd_check_log, ok_check_log T G_is_log F_check_log, He.glo_ok KX G (cd.fact 6 (f := .glo "check_log") rfl), F_check_log.kp, F_check_log.bindsN fun _ _ _ _ _ _ us hl => match us, hl with | [_], _ => rfl⟩
  have G_is_range : Fn P w K mg base "is_range" 3 ["size", "thing"] (spOf (S_is_range K)) := ⟨_, fd_is_range, ok_is_range T G_is_position F_is_range, He.glo_ok KX G (cd.fact 7 (f := .glo "is_range") rfl), F_is_range.kp, F_is_range.bindsN fun _ _ _ _ _ _ us hl => match us, hl with | [_, _], _ => rfl⟩
  have G_check_ranges : Fn P w K mg base "check_ranges" 4 ["size", "thing"] (spOf (S_check_ranges K)) := ⟨_, fd_check_ranges, ok_check_ranges T G_is_range F_check_ranges, He.glo_ok KX G (cd.fact 8 (f := .glo "check_ranges") rfl), F_check_ranges.kp, F_check_ranges.bindsN fun _ _ _ _ _ _ us hl => match us, hl with | [_, _], _ => rfl⟩
  have G_nexts_of : Fn P w K mg base "nexts_of" 1 ["log"] (spOf (S_nexts_of K)) := ⟨_, fd_nexts_of, ok_nexts_of T  F_nexts_of, He.glo_ok KX G (cd.fact 9 (f := .glo "nexts_of") rfl), F_nexts_of.kp, F_nexts_of.bindsN fun _ _ _ _ _ _ us hl => match us, hl with | [_], _ => rfl⟩
  have G_arcs_of : Fn P w K mg base "arcs_of" 1 ["nexts"] (spOf (S_arcs_of K)) := ⟨_, fd_arcs_of, ok_arcs_of T  F_arcs_of, He.glo_ok KX G (cd.fact 10 (f := .glo "arcs_of") rfl), F_arcs_of.kp, F_arcs_of.bindsN fun _ _ _ _ _ _ us hl => match us, hl with | [_], _ => rfl⟩
  have G_is_marked : Fn P w K mg base "is_marked" 1 ["arc", "part"] (spOf (S_is_marked K)) := ⟨_, fd_is_marked, ok_is_marked T  F_is_marked, He.glo_ok KX G (cd.fact 11 (f := .glo "is_marked") rfl), F_is_marked.kp, F_is_marked.bindsN fun _ _ _ _ _ _ us hl => match us, hl with | [_, _], _ => rfl⟩
  have G_marked_by : Fn P w K mg base "marked_by" 2 ["nexts", "ranges"] (spOf (S_marked_by K)) := ⟨_, fd_marked_by, ok_marked_by T G_arcs_of G_is_marked F_marked_by, He.glo_ok KX G (cd.fact 12 (f := .glo "marked_by") rfl), F_marked_by.kp, F_marked_by.bindsN fun _ _ _ _ _ _ us hl => match us, hl with | [_, _], _ => rfl⟩
  have G_marked : Fn P w K mg base "marked" 6 ["log", "ranges"] (spOf (S_marked K)) := ⟨_, fd_marked, ok_marked T G_check_log G_check_ranges G_marked_by G_nexts_of F_marked, He.glo_ok KX G (cd.fact 13 (f := .glo "marked") rfl), F_marked.kp, F_marked.bindsN fun _ _ _ _ _ _ us hl => match us, hl with | [_, _], _ => rfl⟩
  have G_check_rounds : Fn P w K mg base "check_rounds" 5 ["log", "rounds"] (spOf (S_check_rounds K)) := ⟨_, fd_check_rounds, ok_check_rounds T G_check_ranges F_check_rounds, He.glo_ok KX G (cd.fact 14 (f := .glo "check_rounds") rfl), F_check_rounds.kp, F_check_rounds.bindsN fun _ _ _ _ _ _ us hl => match us, hl with | [_, _], _ => rfl⟩
  have G_standing_nexts : Fn P w K mg base "standing_nexts" 1 ["log", "standing"] (spOf (S_standing_nexts K)) := ⟨_, fd_standing_nexts, ok_standing_nexts T  F_standing_nexts, He.glo_ok KX G (cd.fact 15 (f := .glo "standing_nexts") rfl), F_standing_nexts.kp, F_standing_nexts.bindsN fun _ _ _ _ _ _ us hl => match us, hl with | [_, _], _ => rfl⟩
  have G_removed_by : Fn P w K mg base "removed_by" 2 ["log", "rounds"] (spOf (S_removed_by K)) := ⟨_, fd_removed_by, ok_removed_by T G_standing_nexts F_removed_by, He.glo_ok KX G (cd.fact 16 (f := .glo "removed_by") rfl), F_removed_by.kp, F_removed_by.bindsN fun _ _ _ _ _ _ us hl => match us, hl with | [_, _], _ => rfl⟩
  have G_after : Fn P w K mg base "after" 6 ["log", "rounds"] (spOf (S_after K)) := ⟨_, fd_after, ok_after T G_check_log G_check_rounds G_removed_by F_after, He.glo_ok KX G (cd.fact 17 (f := .glo "after") rfl), F_after.kp, F_after.bindsN fun _ _ _ _ _ _ us hl => match us, hl with | [_, _], _ => rfl⟩
  have G__law_crate : Fn P w K mg base "_law_crate" 1 ["script", "at"] (spOf (S_crate K)) := ⟨_, fd__law_crate, ok__law_crate T  F__law_crate, He.glo_ok KX G (cd.fact 18 (f := .glo "_law_crate") rfl), F__law_crate.kp, F__law_crate.bindsN fun _ _ _ _ _ _ us hl => match us, hl with | [_, _], _ => rfl⟩
  have G__law_grab : Fn P w K mg base "_law_grab" 1 ["crate", "span"] (spOf (S_grab K)) := ⟨_, fd__law_grab, ok__law_grab T  F__law_grab, He.glo_ok KX G (cd.fact 19 (f := .glo "_law_grab") rfl), F__law_grab.kp, F__law_grab.bindsN fun _ _ _ _ _ _ us hl => match us, hl with | [_, _], _ => rfl⟩
  have G__law_key : Fn P w K mg base "_law_key" 1 ["number_here"] (spOf (S_key K)) := ⟨_, fd__law_key, ok__law_key T  F__law_key, He.glo_ok KX G (cd.fact 20 (f := .glo "_law_key") rfl), F__law_key.kp, F__law_key.bindsN fun _ _ _ _ _ _ us hl => match us, hl with | [_], _ => rfl⟩
  have G__law_any_value : Fn P w K mg base "_law_any_value" 2 ["crate"] (spOf (S_any K)) := ⟨_, fd__law_any_value, ok__law_any_value T G__law_grab F__law_any_value, He.glo_ok KX G (cd.fact 21 (f := .glo "_law_any_value") rfl), F__law_any_value.kp, F__law_any_value.bindsN fun _ _ _ _ _ _ us hl => match us, hl with | [_], _ => rfl⟩
  have G__law_names : Fn P w K mg base "_law_names" 2 ["crate", "many"] (spOf (S_names K)) := ⟨_, fd__law_names, ok__law_names T G__law_grab F__law_names, He.glo_ok KX G (cd.fact 22 (f := .glo "_law_names") rfl), F__law_names.kp, F__law_names.bindsN fun _ _ _ _ _ _ us hl => match us, hl with | [_, _], _ => rfl⟩
  have G__law_keyed : Fn P w K mg base "_law_keyed" 3 ["crate", "shape_here"] (spOf (S_keyed K)) := ⟨_, fd__law_keyed, ok__law_keyed T G__law_grab G__law_any_value G__law_key G__law_names F__law_keyed, He.glo_ok KX G (cd.fact 23 (f := .glo "_law_keyed") rfl), F__law_keyed.kp, F__law_keyed.bindsN fun _ _ _ _ _ _ us hl => match us, hl with | [_, _], _ => rfl⟩
  have G__law_drawn_spans : Fn P w K mg base "_law_drawn_spans" 2 ["crate", "size", "many"] (spOf (S_spans K)) := ⟨_, fd__law_drawn_spans, ok__law_drawn_spans T G__law_grab F__law_drawn_spans, He.glo_ok KX G (cd.fact 24 (f := .glo "_law_drawn_spans") rfl), F__law_drawn_spans.kp, F__law_drawn_spans.bindsN fun _ _ _ _ _ _ us hl => match us, hl with | [_, _, _], _ => rfl⟩
  have G__law_drawn_rounds : Fn P w K mg base "_law_drawn_rounds" 3 ["crate", "size", "most_here", "many"] (spOf (S_rounds K)) := ⟨_, fd__law_drawn_rounds, ok__law_drawn_rounds T G__law_grab G__law_drawn_spans F__law_drawn_rounds, He.glo_ok KX G (cd.fact 25 (f := .glo "_law_drawn_rounds") rfl), F__law_drawn_rounds.kp, F__law_drawn_rounds.bindsN fun _ _ _ _ _ _ us hl => match us, hl with | [_, _, _, _], _ => rfl⟩
  have G__law_few_keys : Fn P w K mg base "_law_few_keys" 4 ["crate", "most_here", "keys_here"] (spOf (S_few K)) := ⟨_, fd__law_few_keys, ok__law_few_keys T G__law_grab G__law_keyed F__law_few_keys, He.glo_ok KX G (cd.fact 26 (f := .glo "_law_few_keys") rfl), F__law_few_keys.kp, F__law_few_keys.bindsN fun _ _ _ _ _ _ us hl => match us, hl with | [_, _, _], _ => rfl⟩
  have G__law_copies : Fn P w K mg base "_law_copies" 1 ["rounds_here"] (spOf (S_copies K)) := ⟨_, fd__law_copies, ok__law_copies T  F__law_copies, He.glo_ok KX G (cd.fact 27 (f := .glo "_law_copies") rfl), F__law_copies.kp, F__law_copies.bindsN fun _ _ _ _ _ _ us hl => match us, hl with | [_], _ => rfl⟩
  have G__law_shuffled : Fn P w K mg base "_law_shuffled" 2 ["crate", "spans"] (spOf (S_shuf K)) := ⟨_, fd__law_shuffled, ok__law_shuffled T G__law_grab F__law_shuffled, He.glo_ok KX G (cd.fact 28 (f := .glo "_law_shuffled") rfl), F__law_shuffled.kp, F__law_shuffled.bindsN fun _ _ _ _ _ _ us hl => match us, hl with | [_, _], _ => rfl⟩
  have G__law_all_lost : Fn P w K mg base "_law_all_lost" 7 ["rows_here", "rounds_here"] (spOf (S_lost K)) := ⟨_, fd__law_all_lost, ok__law_all_lost T G_after G__law_copies F__law_all_lost, He.glo_ok KX G (cd.fact 29 (f := .glo "_law_all_lost") rfl), F__law_all_lost.kp, F__law_all_lost.bindsN fun _ _ _ _ _ _ us hl => match us, hl with | [_, _], _ => rfl⟩
  exact ok_law T TB (hcode.trans (by rw [hcT])) G__law_crate G__law_grab G__law_few_keys G__law_drawn_rounds G__law_shuffled G__law_all_lost G_marked F_law
end M
open PySem PySem.W PySem.Calls PyProof.Rows
theorem PySem.Challenge.cw_markthenpurge_k78_whole_ranges_one_by_on_holds : PySem.Challenge.rw_markthenpurge_k78_whole_ranges_one_by_on.Holds := by
  w_on; o_law
  refine HandSHeadRun.head_any (r := OpenLaw.row PySem.Challenge.rw_markthenpurge_k78_whole_ranges_one_by_on) (q := view (OpenLaw.row PySem.Challenge.rw_markthenpurge_k78_whole_ranges_one_by_on).prog [39]) (H := M.hkL) (ob := M.obL) (M := 3000) (loose := M.looseL) (d := HandSHeadRun.topDef (OpenLaw.row PySem.Challenge.rw_markthenpurge_k78_whole_ranges_one_by_on).prog 39) (kwd := []) M.obL_eq
    (by kernel_rfl) (fun s => by kernel_rfl) M.runL (by kernel_rfl) (by kernel_rfl) (by kernel_rfl) (by rfl) (by first | assumption | decide +kernel) (by decide +kernel) ⟨rfl, rfl, rfl, rfl, rfl, by decide +kernel⟩ ?hw ?hc
  case hw => w_witness2
  case hc =>
    refine LamX.walk_ofTsE (l := PySem.Challenge.rw_markthenpurge_k78_whole_ranges_one_by_on) (n := 63) (k := 8) (x := "script") (CX := fun _ => L2.CX0) rfl (by decide) (by kernel_rfl) ⟨rfl, by decide, by decide⟩ ?F (fun _ _ _ _ _ z => z)
    intro w mg fa h Y G hmg0
    obtain ⟨K, KX, c⟩ := Y
    have hmg : mg ("law" : PySem.Str) = some (.ref fa) := by
      have e : (HandSHeadRun.topDef (OpenLaw.row PySem.Challenge.rw_markthenpurge_k78_whole_ranges_one_by_on).prog 39).name = ("law" : PySem.Str) := by kernel_rfl
      rw [← e]
      exact hmg0
    obtain ⟨fd, cd, e1, e2, hb, hF⟩ := M.factsL (P := (PySem.Challenge.rw_markthenpurge_k78_whole_ranges_one_by_on).prog) (w := w) KX G hmg c
    have hin : (("law", none) : He.Defn) ∈ [(("law", none) : He.Defn)] := by simp
    refine ⟨K, KX, fd, [He.cT K ("law", none)], M.lawSpK K, fun p hp => ?_, fun p hp => ?_, fun p hp => ?_, hb, fun H a ns hl _ hT hS => ⟨⟨ns⟩, a, hl, rfl, hT _ (by simp), hS, fun _ => rfl⟩, fun base KB GB TB => hF base KB GB (TB _ (by simp))⟩
    · rw [List.mem_singleton.mp hp]; exact c.empty _ hin
    · rw [List.mem_singleton.mp hp]; exact c.out _ hin
    · rw [List.mem_singleton.mp hp]; exact PySem.W.codeHd_of_K KX (c.hd _ hin)

