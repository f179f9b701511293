import PyProof.Rows.All
import Wide.All
import OpenK.AllK
import Wide.FinOn
import HandS.ForMost
import HandS.Exc
import HandS.TryOnly
import HandS.ExcOwn
import HandS.WordsExc
import HandS.CallSlots
import KE.SortData
import KE.DataCmp
import KE.DataEq
import KE.DataFind
import KE.DataAny
import KE.DataIsa
import KE.DataMinMax
import HandS.TupAny
import HandS.Wide
import HandS.Style
import HandS.Iter
import HandS.Dict
import HandS.Text
import HandS.RaiseMore
import HandS.StrMore
import HandS.More
import HandS.IsInst
import HandS.ExcInit
import KE.KExcSuper
import KE.KSuper
import KE.KExcPX
import HandS.ExcField
import HandS.ExcIs
import KE.KExcIs
import HandS.Zip
import KE.GoesEnum
import PyProof.StrOps2
import PyProof.ListStr
import PySem.Challenge.RW_delvewarden_k85_values_there_and_back
section
set_option Elab.async false
set_option linter.all false
set_option maxRecDepth 100000
set_option maxHeartbeats 4000000
set_option autoImplicit false
/-! PD: plain data. A functional reading of expressions and statements, over the hand layer. -/
namespace PD
open PySem PySem.Spec L2
open PyProof.Rows hiding St

abbrev D := PyData
/-! ### data at a value -/
mutual
inductive Dq (K : PySem.W.Frag) (H : Hp) : V → PyData → Prop
  | non : Dq K H .non .none
  | bl (b : Bool) : Dq K H (.bl b) (.bool b)
  | int (i : Int) : Dq K H (.int i) (.int i)
  | str (x : Str) : Dq K H (.str x) (.str x)
  | lst {a : Addr} {xs : List V} {ds : List PyData} : Rd H a (.lst xs) → DqAll K H xs ds → Dq K H (.ref a) (.list ds)
  | tup {a : Addr} {xs : List V} {ds : List PyData} : SqT K H a xs → DqAll K H xs ds → Dq K H (.ref a) (.tuple ds)
inductive DqAll (K : PySem.W.Frag) (H : Hp) : List V → List PyData → Prop
  | nil : DqAll K H [] []
  | cons {v : V} {vs : List V} {d : PyData} {ds : List PyData} : Dq K H v d → DqAll K H vs ds → DqAll K H (v :: vs) (d :: ds)
end
mutual
theorem Dq.dp {K : PySem.W.Frag} {H : Hp} : ∀ {v : V} {d : PyData}, Dq K H v d → L2.Dp K H v d
  | _, _, .non => .non
  | _, _, .bl b => .bl b
  | _, _, .int i => .int i
  | _, _, .str x => .str x
  | _, _, .lst h a => .lst (.inl h) (DqAll.dp a)
  | _, _, .tup h a => .tup h (DqAll.dp a)
theorem DqAll.dp {K : PySem.W.Frag} {H : Hp} : ∀ {vs : List V} {ds : List PyData}, DqAll K H vs ds → L2.DpAll K H vs ds
  | _, _, .nil => .nil
  | _, _, .cons h a => .cons (Dq.dp h) (DqAll.dp a)
end

/-- what a changeable object holds -/
inductive Cn where
  | lst (xs : List D)
  | dct (kvs : List (Key × D))
inductive Slt where
  | no | val (d : D) | own (lk : Bool) (c : Cn) | bor (c : Cn) | glob | exc
structure Sg where
  ρ : List Slt
  g : Option (List D)
inductive Op where
  | val (d : D) | new (c : Cn) | slot (i : Nat) | glob
structure Xn where
  cls : Str
  fs : List (Str × D)
inductive Out (α : Type) where
  | ok (a : α) (s : Sg) | ex (x : Xn) (s : Sg) | bad
def M (α : Type) := Sg → Out α
def M.pure {α : Type} (a : α) : M α := fun s => .ok a s
def M.bind {α β : Type} (m : M α) (k : α → M β) : M β := fun s => match m s with
  | .ok a s' => k a s'
  | .ex x s' => .ex x s'
  | .bad => .bad
def M.bad {α : Type} : M α := fun _ => .bad
instance : Monad M := { pure := M.pure, bind := M.bind }

inductive Arg where
  | val (d : D) | bor (c : Cn) | glob
inductive Ret where
  | val (d : D) | new (c : Cn)
abbrev G := Option (List D)
inductive OutF where
  | ok (r : Ret) (g : G) | ex (x : Xn) (g : G) | bad
abbrev Fn := List Arg → G → OutF
inductive Fl where
  | nx | bk | ct | rt (r : Ret)

/-! ### the relation -/
def dpc_kv (K : PySem.W.Frag) (F : Hp) : List (Key × V) → List (Key × D) → Prop := Paired fun (p : Key × V) (q : Key × D) => p.1 = q.1 ∧ Dq K F p.2 q.2
inductive COk (K : PySem.W.Frag) (F : Hp) : HO → Cn → Prop
  | lst {vs : List V} {xs : List D} : DqAll K F vs xs → COk K F (.lst vs) (.lst xs)
  | dct {kvs : List (Key × V)} {xs : List (Key × D)} : dpc_kv K F kvs xs → COk K F (.dK kvs) (.dct xs)
def Le (F F' : Hp) : Prop := ∀ a o, F a = some o → F' a = some o
theorem Le.refl (F : Hp) : Le F F := fun _ _ h => h
theorem Le.trans {F F' F'' : Hp} (h : Le F F') (h' : Le F' F'') : Le F F'' := fun a o e => h' a o (h a o e)
theorem le_upd {F : Hp} {p : Addr} {o : HO} (h : F p = none) : Le F (upd F p o) := fun a u e => by
  rw [upd_ne (ne_of_none e h)]
  exact e
theorem Le.rd {F F' : Hp} {a : Addr} {u : HO} (e : Le F F') (h : Rd F a u) : Rd F' a u := by
  rcases h with h | ⟨o, h⟩
  · exact .inl (e _ _ h)
  · exact .inr ⟨o, e _ _ h⟩
theorem Le.sl {K : PySem.W.Frag} {F F' : Hp} {a : Addr} {xs : List V} (e : Le F F') (h : SqL K F a xs) : SqL K F' a xs := by
  rcases h with h | h
  · exact .inl (e.rd h)
  · exact .inr h
theorem Le.st {K : PySem.W.Frag} {F F' : Hp} {a : Addr} {xs : List V} (e : Le F F') (h : SqT K F a xs) : SqT K F' a xs := by
  rcases h with h | h
  · exact .inl (e.rd h)
  · exact .inr h
mutual
theorem Dq.mono {K : PySem.W.Frag} {F F' : Hp} (e : Le F F') : ∀ {v : V} {d : D}, Dq K F v d → Dq K F' v d
  | _, _, .non => .non
  | _, _, .bl b => .bl b
  | _, _, .int i => .int i
  | _, _, .str x => .str x
  | _, _, .lst h a => .lst (e.rd h) (DqAll.mono e a)
  | _, _, .tup h a => .tup (e.st h) (DqAll.mono e a)
theorem DqAll.mono {K : PySem.W.Frag} {F F' : Hp} (e : Le F F') : ∀ {vs : List V} {ds : List D}, DqAll K F vs ds → DqAll K F' vs ds
  | _, _, .nil => .nil
  | _, _, .cons h a => .cons (Dq.mono e h) (DqAll.mono e a)
end
section
variable {K : PySem.W.Frag} {F : Hp}
theorem DqAll.length : ∀ {vs : List V} {ds : List D}, DqAll K F vs ds → vs.length = ds.length
  | _, _, .nil => rfl
  | _, _, .cons _ a => by rw [List.length_cons, List.length_cons, a.length]
theorem DqAll.get : ∀ {vs : List V} {ds : List D} {i : Nat} {v : V}, DqAll K F vs ds → vs[i]? = some v → ∃ d, ds[i]? = some d ∧ Dq K F v d
  | _, _, _, _, .nil, e => by simp at e
  | _, _, 0, _, .cons h _, e => by simp at e; subst e; exact ⟨_, rfl, h⟩
  | _, _, i + 1, _, .cons _ a, e => by
    obtain ⟨d, e1, h⟩ := DqAll.get (i := i) a (by simpa using e)
    exact ⟨d, by simpa using e1, h⟩
theorem DqAll.get' : ∀ {vs : List V} {ds : List D} {i : Nat} {d : D}, DqAll K F vs ds → ds[i]? = some d → ∃ v, vs[i]? = some v ∧ Dq K F v d
  | _, _, _, _, .nil, e => by simp at e
  | _, _, 0, _, .cons h _, e => by simp at e; subst e; exact ⟨_, rfl, h⟩
  | _, _, i + 1, _, .cons _ a, e => by
    obtain ⟨d, e1, h⟩ := DqAll.get' (i := i) a (by simpa using e)
    exact ⟨d, by simpa using e1, h⟩
theorem DqAll.app : ∀ {vs ws : List V} {ds es : List D}, DqAll K F vs ds → DqAll K F ws es → DqAll K F (vs ++ ws) (ds ++ es)
  | _, _, _, _, .nil, b => b
  | _, _, _, _, .cons h a, b => .cons h (a.app b)
theorem DqAll.take : ∀ {vs : List V} {ds : List D} (n : Nat), DqAll K F vs ds → DqAll K F (vs.take n) (ds.take n)
  | _, _, 0, _ => .nil
  | _, _, _ + 1, .nil => .nil
  | _, _, n + 1, .cons h a => .cons h (a.take n)
theorem DqAll.drop : ∀ {vs : List V} {ds : List D} (n : Nat), DqAll K F vs ds → DqAll K F (vs.drop n) (ds.drop n)
  | _, _, 0, a => a
  | _, _, _ + 1, .nil => .nil
  | _, _, n + 1, .cons _ a => a.drop n
theorem DqAll.set {v : V} {d : D} (h : Dq K F v d) : ∀ {vs : List V} {ds : List D} (i : Nat), DqAll K F vs ds → DqAll K F (vs.set i v) (ds.set i d)
  | _, _, _, .nil => .nil
  | _, _, 0, .cons _ a => .cons h a
  | _, _, i + 1, .cons q a => .cons q (DqAll.set h i a)
theorem DqAll.eraseIdx : ∀ {vs : List V} {ds : List D} (i : Nat), DqAll K F vs ds → DqAll K F (vs.eraseIdx i) (ds.eraseIdx i)
  | _, _, _, .nil => .nil
  | _, _, 0, .cons _ a => a
  | _, _, i + 1, .cons q a => .cons q (a.eraseIdx i)
end

theorem COk.mono {K : PySem.W.Frag} {F F' : Hp} (e : Le F F') {o : HO} {c : Cn} (h : COk K F o c) : COk K F' o c := by
  cases h with
  | lst h => exact .lst (DqAll.mono e h)
  | dct h => exact .dct (Paired.mapP h fun _ _ z => ⟨z.1, Dq.mono e z.2⟩)
/-- what is fixed through a def's run: what is wanted of an exception, the heap and its frozen part at the entry, the global list's place -/
structure Bd where
  W : WX
  H0 : Hp
  F0 : Hp
  γ0 : Option Addr
  ex : Option Addr := none

def Slt.isObj : Slt → Bool
  | .own _ _ => true
  | .bor _ => true
  | _ => false
def SlotOk (K : PySem.W.Frag) (B : Bd) (F H : Hp) (γ : Option Addr) (v : Option (Option V)) : Slt → Prop
  | .no => True
  | .val d => ∃ u, v = some (some u) ∧ Dq K F u d
  | .own _ c => ∃ p o, v = some (some (.ref p)) ∧ H p = some o ∧ COk K F o c ∧ F p = none ∧ B.H0 p = none ∧ some p ≠ γ
  | .bor c => ∃ p o, v = some (some (.ref p)) ∧ H p = some o ∧ COk K F o c ∧ B.H0 p = some o ∧ some p ≠ γ
  | .glob => ∃ a, γ = some a ∧ v = some (some (.ref a))
  | .exc => ∀ a, B.ex = some a → v = some (some (.ref a))
def GOk (K : PySem.W.Frag) (B : Bd) (F H : Hp) : G → Option Addr → Prop
  | none, none => B.γ0 = none
  | some xs, some a => ∃ vs, H a = some (.lst vs) ∧ DqAll K F vs xs ∧ F a = none ∧ (B.γ0 = some a ∨ (B.γ0 = none ∧ B.H0 a = none))
  | _, _ => False
structure Rel (K : PySem.W.Frag) (B : Bd) (F : Hp) (γ : Option Addr) (s : Sg) (σ : St) (H : Hp) : Prop where
  fh : Le F H
  f0 : Le B.F0 F
  fn : ∀ a o, F a = some o → B.F0 a = some o ∨ B.H0 a = none
  keep : ∀ a o, B.H0 a = some o → some a ≠ B.γ0 → H a = some o
  dom : ∀ a o, B.H0 a = some o → ∃ o', H a = some o'
  len : s.ρ.length = σ.length
  slot : ∀ (i : Nat) (sl : Slt), s.ρ[i]? = some sl → SlotOk K B F H γ σ[i]? sl
  dist : ∀ (i j : Nat) (lk : Bool) (c : Cn) (sl : Slt), s.ρ[i]? = some (.own lk c) → s.ρ[j]? = some sl → sl.isObj = true → σ[i]? = σ[j]? → i = j
  gl : GOk K B F H s.g γ

/-- a slot's object may be changed by an expression -/
def Mutb (s : Sg) (σ : St) (a : Addr) : Prop := ∃ (i : Nat) (c : Cn), s.ρ[i]? = some (.own false c) ∧ σ[i]? = some (some (.ref a))
structure Stp (F : Hp) (γ : Option Addr) (s : Sg) (σ : St) (H F' : Hp) (s' : Sg) (H' : Hp) : Prop where
  fm : Le F F'
  fn : ∀ a o, F' a = some o → F a = some o ∨ H a = none ∨ Mutb s σ a
  hk : ∀ a o, H a = some o → some a ≠ γ → ¬ Mutb s σ a → H' a = some o
  dm : ∀ a o, H a = some o → ∃ o', H' a = some o'
  kd : ∀ i : Nat, s'.ρ[i]? = s.ρ[i]? ∨ ∃ c : Cn, s.ρ[i]? = some (.own false c) ∧ ((∃ c' : Cn, s'.ρ[i]? = some (.own false c')) ∨ ∃ d : D, s'.ρ[i]? = some (.val d))
section
variable {F F1 F2 H H1 H2 : Hp} {γ : Option Addr} {s s1 s2 : Sg} {σ : St}
theorem Stp.refl : Stp F γ s σ H F s H := ⟨Le.refl F, fun _ _ h => .inl h, fun _ _ h _ _ => h, fun _ o h => ⟨o, h⟩, fun _ => .inl rfl⟩
theorem Stp.mutb (a : Stp F γ s σ H F1 s1 H1) {x : Addr} (h : Mutb s1 σ x) : Mutb s σ x := by
  obtain ⟨i, c, e, v⟩ := h
  rcases a.kd i with k | ⟨c0, k, _⟩
  · exact ⟨i, c, k.symm.trans e, v⟩
  · exact ⟨i, c0, k, v⟩
theorem Stp.trans (a : Stp F γ s σ H F1 s1 H1) (b : Stp F1 γ s1 σ H1 F2 s2 H2) : Stp F γ s σ H F2 s2 H2 where
  fm := a.fm.trans b.fm
  fn := fun x o h => by
    rcases b.fn x o h with h | h | h
    · exact a.fn x o h
    · refine .inr (.inl ?_)
      cases e : H x with
      | none => rfl
      | some u =>
        obtain ⟨o', e'⟩ := a.dm x u e
        rw [h] at e'; cases e'
    · exact .inr (.inr (a.mutb h))
  hk := fun x o h n m => b.hk x o (a.hk x o h n m) n fun z => m (a.mutb z)
  dm := fun x o h => by
    obtain ⟨o', e⟩ := a.dm x o h
    exact b.dm x o' e
  kd := fun i => by
    rcases a.kd i with k | ⟨c0, k, k2⟩
    · rcases b.kd i with l | ⟨c1, l, l2⟩
      · exact .inl (l.trans k)
      · exact .inr ⟨c1, k.symm.trans l, l2⟩
    · rcases b.kd i with l | ⟨c1, l, l2⟩
      · refine .inr ⟨c0, k, ?_⟩
        rcases k2 with ⟨c', e⟩ | ⟨d, e⟩
        · exact .inl ⟨c', l.trans e⟩
        · exact .inr ⟨d, l.trans e⟩
      · exact .inr ⟨c0, k, l2⟩
theorem Stp.none_back (a : Stp F γ s σ H F1 s1 H1) {x : Addr} (h : H1 x = none) : H x = none := by
  cases e : H x with
  | none => rfl
  | some u =>
    obtain ⟨o', e'⟩ := a.dm x u e
    rw [h] at e'; cases e'
end

def OpOk (K : PySem.W.Frag) (B : Bd) (F : Hp) (γ : Option Addr) (s : Sg) (σ : St) (H : Hp) (v : V) : Op → Prop
  | .val d => Dq K F v d
  | .new c => ∃ p o, v = .ref p ∧ H p = some o ∧ COk K F o c ∧ F p = none ∧ B.H0 p = none ∧ some p ≠ γ ∧ ∀ (i : Nat) (sl : Slt), s.ρ[i]? = some sl → sl.isObj = true → σ[i]? ≠ some (some (.ref p))
  | .slot i => σ[i]? = some (some v) ∧ ∃ sl : Slt, s.ρ[i]? = some sl ∧ (sl.isObj = true ∨ ∃ d, sl = .val d)
  | .glob => ∃ a, γ = some a ∧ v = .ref a
/-- a new object is newer than H -/
def NewIn (H : Hp) (v : V) : Op → Prop
  | .new _ => ∀ p, v = .ref p → H p = none
  | _ => True
def XOk (mg : Str → Option Value) (K : PySem.W.Frag) (F H : Hp) (cls : Value) (d : Option Addr) (x : Xn) : Prop :=
  ∃ C, mg x.cls = some (.ref C) ∧ cls = .ref C ∧ match d with
    | none => x.fs = []
    | some a => ∃ fs, H a = some (.xd fs) ∧ F a = some (.xd fs) ∧ Paired (fun (p : Str × V) (q : Str × D) => p.1 = q.1 ∧ Dq K F p.2 q.2) fs x.fs

section
variable {K : PySem.W.Frag} {B : Bd} {F F1 H H1 : Hp} {γ : Option Addr} {s s1 : Sg} {σ : St}
theorem OpOk.stp (st : Stp F γ s σ H F1 s1 H1) {v : V} {o : Op} (h : OpOk K B F γ s σ H v o) : OpOk K B F1 γ s1 σ H1 v o := by
  cases o with
  | val d => exact Dq.mono st.fm h
  | glob => exact h
  | slot i =>
    obtain ⟨e, sl, e1, q⟩ := h
    refine ⟨e, ?_⟩
    rcases st.kd i with k | ⟨c0, k, ⟨c', e'⟩ | ⟨d, e'⟩⟩
    · exact ⟨sl, k.trans e1, q⟩
    · exact ⟨_, e', .inl rfl⟩
    · exact ⟨_, e', .inr ⟨d, rfl⟩⟩
  | new c =>
    obtain ⟨p, o, rfl, hp, ck, fp, h0, hg, hs⟩ := h
    have nm : ¬ Mutb s σ p := fun ⟨i, c, e, v⟩ => hs i _ e rfl v
    refine ⟨p, o, rfl, st.hk p o hp hg nm, ck.mono st.fm, ?_, h0, hg, fun i sl e1 e2 => ?_⟩
    · cases e : F1 p with
      | none => rfl
      | some u =>
        rcases st.fn p u e with z | z | z
        · rw [fp] at z; cases z
        · rw [hp] at z; cases z
        · exact absurd z nm
    · rcases st.kd i with k | ⟨c0, k, _⟩
      · exact hs i sl (k.symm.trans e1) e2
      · exact hs i _ k rfl
end

/-! ### canonical readings -/
def wE (X : Cx) (e : Expr) : TE := fun σ H Q => ∀ (pins : List (Addr × Obj)) (s : Shared), Inv X pins σ H s → wpAny (model X.prog X.w) X.A (eval e X.env) (EP X pins σ Q) X.xe s
def wT (X : Cx) (e : Expr) : TT := fun σ H Q => ∀ (pins : List (Addr × Obj)) (s : Shared), Inv X pins σ H s → wpAny (model X.prog X.w) X.A (isTrue e X.env (eval e X.env)) (TP X pins σ Q) X.xe s
def wW (X : Cx) (e : Expr) : TT := fun σ H Q => ∀ (whole : Sem Value) (pins : List (Addr × Obj)) (s : Shared), Inv X pins σ H s → wpAny (model X.prog X.w) X.A (isTrue e X.env whole) (TP X pins σ Q) X.xe s
def wA (X : Cx) (es : List Expr) : TA := fun σ H Q => ∀ (pos : Pos) (pins : List (Addr × Obj)) (s : Shared), Inv X pins σ H s → wpAny (model X.prog X.w) X.A (spliced (backTo pos (starEach es X.env))) (AP X pins σ Q) X.xe s
def wS (X : Cx) (st : Stmt) : TS := fun D σ H => ∀ (pins : List (Addr × Obj)) (s : Shared), Inv X pins σ H s → wpAny (model X.prog X.w) X.A (exec st X.env) (SP X pins D) X.xe s
def wSs (X : Cx) (st : List Stmt) : TS := fun D σ H => ∀ (pins : List (Addr × Obj)) (s : Shared), Inv X pins σ H s → wpAny (model X.prog X.w) X.A (execs st X.env) (SP X pins D) X.xe s
section
variable {X : Cx} {e : Expr} {es : List Expr} {st : Stmt} {sts : List Stmt}
theorem pe_w : PE X e (wE X e) := ⟨fun pins s _ _ _ I h => h pins s I⟩
theorem pt_w : PT X e (wT X e) := ⟨fun pins s _ _ _ I h => h pins s I⟩
theorem pw_w : PW X e (wW X e) := ⟨fun wh pins s _ _ _ I h => h wh pins s I⟩
theorem pa_w : PA X es (wA X es) := ⟨fun pos pins s _ _ _ I h => h pos pins s I⟩
theorem ps_w : PS X st (wS X st) := ⟨fun pins s _ _ _ I h => h pins s I⟩
theorem pss_w : PSs X sts (wSs X sts) := ⟨fun pins s _ _ _ I h => h pins s I⟩
theorem wE_of {t : TE} (h : PE X e t) {σ : St} {H : Hp} {Q : VK} (q : t σ H Q) : wE X e σ H Q := fun pins s I => h.run pins s σ H Q I q
theorem wT_of {t : TT} (h : PT X e t) {σ : St} {H : Hp} {Q : Bool → Hp → Prop} (q : t σ H Q) : wT X e σ H Q := fun pins s I => h.run pins s σ H Q I q
theorem wW_of {t : TT} (h : PW X e t) {σ : St} {H : Hp} {Q : Bool → Hp → Prop} (q : t σ H Q) : wW X e σ H Q := fun wh pins s I => h.run wh pins s σ H Q I q
theorem wA_of {t : TA} (h : PA X es t) {σ : St} {H : Hp} {Q : List V → Hp → Prop} (q : t σ H Q) : wA X es σ H Q := fun pos pins s I => h.run pos pins s σ H Q I q
theorem wS_of {t : TS} (h : PS X st t) {σ : St} {H : Hp} {D : Ends} (q : t D σ H) : wS X st D σ H := fun pins s I => h.run pins s σ H D I q
theorem wSs_of {t : TS} (h : PSs X sts t) {σ : St} {H : Hp} {D : Ends} (q : t D σ H) : wSs X sts D σ H := fun pins s I => h.run pins s σ H D I q
end

/-! ### the judgements -/
/-- what a continuation K has to give for the outcome r -/
def Good {β : Type} (X : Cx) (B : Bd) (F : Hp) (γ : Option Addr) (s : Sg) (σ : St) (H : Hp) (r : Out β) (K : β → Sg → Hp → Hp → Prop) : Prop := match r with
  | .ok b s' => ∀ F' H', Stp F γ s σ H F' s' H' → Rel X.K B F' γ s' σ H' → K b s' F' H'
  | .ex x s' => ∀ cls d F' H', Stp F γ s σ H F' s' H' → Rel X.K B F' γ s' σ H' → XOk X.mg X.K F' H' cls d x → B.W cls d σ H'
  | .bad => False
section
variable {X : Cx} {B : Bd} {F H : Hp} {γ : Option Addr} {s : Sg} {σ : St} {α β : Type}
theorem Good.bind {m : M α} {k : α → M β} {K : β → Sg → Hp → Hp → Prop} (g : Good X B F γ s σ H ((m >>= k) s) K) :
    Good X B F γ s σ H (m s) fun a s1 F1 H1 => Good X B F1 γ s1 σ H1 (k a s1) fun b s2 F2 H2 => Stp F γ s σ H F2 s2 H2 → K b s2 F2 H2 := by
  have e : (m >>= k) s = match m s with | .ok a s' => k a s' | .ex x s' => .ex x s' | .bad => .bad := rfl
  rw [e] at g
  cases q : m s with
  | ok a s1 =>
    rw [q] at g
    dsimp only at g
    intro F1 H1 st1 R1
    cases q2 : k a s1 with
    | ok b s2 =>
      rw [q2] at g
      exact fun F2 H2 st2 R2 st => g F2 H2 (st1.trans st2) R2
    | ex x s2 =>
      rw [q2] at g
      exact fun cls d F2 H2 st2 R2 xo => g cls d F2 H2 (st1.trans st2) R2 xo
    | bad =>
      rw [q2] at g
      exact g.elim
  | ex x s1 => rw [q] at g; exact g
  | bad => rw [q] at g; exact g
theorem Good.imp {r : Out β} {K K' : β → Sg → Hp → Hp → Prop} (g : Good X B F γ s σ H r K) (h : ∀ b s' F' H', r = .ok b s' → Stp F γ s σ H F' s' H' → Rel X.K B F' γ s' σ H' → K b s' F' H' → K' b s' F' H') : Good X B F γ s σ H r K' := by
  cases r with
  | ok b s' => exact fun F' H' st R => h b s' F' H' rfl st R (g F' H' st R)
  | ex x s' => exact g
  | bad => exact g.elim
theorem Good.pure {b : β} {K : β → Sg → Hp → Hp → Prop} (R : Rel X.K B F γ s σ H) (g : Good X B F γ s σ H ((Pure.pure b : M β) s) K) : K b s F H := by
  have g' : Good X B F γ s σ H (.ok b s) K := g
  exact g' F H Stp.refl R
end
structure DE (X : Cx) (B : Bd) (e : Expr) (f : M Op) : Prop where
  run : ∀ F γ s σ H, Rel X.K B F γ s σ H → ∀ Q : VK,
  Good X B F γ s σ H (f s) (fun o s' F' H' => ∀ v, OpOk X.K B F' γ s' σ H' v o → NewIn H v o → Q v H') → wE X e σ H Q
structure DT (X : Cx) (B : Bd) (e : Expr) (f : M Bool) : Prop where
  run : ∀ F γ s σ H, Rel X.K B F γ s σ H → ∀ Q : Bool → Hp → Prop,
  Good X B F γ s σ H (f s) (fun b s' F' H' => Q b H') → wT X e σ H Q
structure DW (X : Cx) (B : Bd) (e : Expr) (f : M Bool) : Prop where
  run : ∀ F γ s σ H, Rel X.K B F γ s σ H → ∀ Q : Bool → Hp → Prop,
  Good X B F γ s σ H (f s) (fun b s' F' H' => Q b H') → wW X e σ H Q
inductive OpsOk (K : PySem.W.Frag) (B : Bd) (F : Hp) (γ : Option Addr) (s : Sg) (σ : St) (H H₀ : Hp) : List V → List Op → Prop
  | nil : OpsOk K B F γ s σ H H₀ [] []
  | cons {v : V} {vs : List V} {o : Op} {os : List Op} : OpOk K B F γ s σ H v o → NewIn H₀ v o → OpsOk K B F γ s σ H H₀ vs os → OpsOk K B F γ s σ H H₀ (v :: vs) (o :: os)
structure DA (X : Cx) (B : Bd) (es : List Expr) (f : M (List Op)) : Prop where
  run : ∀ F γ s σ H, Rel X.K B F γ s σ H → ∀ Q : List V → Hp → Prop,
  Good X B F γ s σ H (f s) (fun os s' F' H' => ∀ vs, OpsOk X.K B F' γ s' σ H' H vs os → Q vs H') → wA X es σ H Q
def RetOk (K : PySem.W.Frag) (B : Bd) (F H : Hp) (γ : Option Addr) (v : V) : Ret → Prop
  | .val d => Dq K F v d
  | .new c => ∃ p o, v = .ref p ∧ H p = some o ∧ COk K F o c ∧ F p = none ∧ B.H0 p = none ∧ some p ≠ γ
def GoodS (X : Cx) (B : Bd) (F : Hp) (r : Out Fl) (E : Ends) : Prop := match r with
  | .ok .nx s' => ∀ F' γ' σ' H', Le F F' → Rel X.K B F' γ' s' σ' H' → E.nx σ' H'
  | .ok .bk s' => ∀ F' γ' σ' H', Le F F' → Rel X.K B F' γ' s' σ' H' → E.bk σ' H'
  | .ok .ct s' => ∀ F' γ' σ' H', Le F F' → Rel X.K B F' γ' s' σ' H' → E.ct σ' H'
  | .ok (.rt r) s' => ∀ F' γ' σ' H' v, Le F F' → Rel X.K B F' γ' s' σ' H' → RetOk X.K B F' H' γ' v r → E.rt v H'
  | .ex x s' => ∀ cls d F' γ' σ' H', Le F F' → Rel X.K B F' γ' s' σ' H' → XOk X.mg X.K F' H' cls d x → B.W cls d σ' H'
  | .bad => False
structure DS (X : Cx) (B : Bd) (st : Stmt) (f : M Fl) : Prop where
  run : ∀ F γ s σ H E, Rel X.K B F γ s σ H → GoodS X B F (f s) E → wS X st E σ H
structure DSs (X : Cx) (B : Bd) (sts : List Stmt) (f : M Fl) : Prop where
  run : ∀ F γ s σ H E, Rel X.K B F γ s σ H → GoodS X B F (f s) E → wSs X sts E σ H
end PD
end

section
set_option Elab.async false
set_option linter.all false
set_option maxRecDepth 100000
set_option maxHeartbeats 4000000
set_option autoImplicit false
namespace PD
open PySem PySem.Spec L2
open PyProof.Rows hiding St

/-! ### helpers -/
section
variable {X : Cx} {B : Bd} {F H : Hp} {γ : Option Addr} {s : Sg} {σ : St} {α β : Type}
theorem Good.ok0 {b : β} {K : β → Sg → Hp → Hp → Prop} (R : Rel X.K B F γ s σ H) (g : Good X B F γ s σ H (.ok b s) K) : K b s F H := g F H Stp.refl R
theorem Good.no {K : β → Sg → Hp → Hp → Prop} (g : Good X B F γ s σ H (.bad : Out β) K) {p : Prop} : p := g.elim
/-- two in a row -/
theorem Good.then {m : M α} {k : α → M β} {K : β → Sg → Hp → Hp → Prop} {P : α → Sg → Hp → Hp → Prop} (g : Good X B F γ s σ H ((m >>= k) s) K)
    (h : ∀ a s1 F1 H1, m s = .ok a s1 → Stp F γ s σ H F1 s1 H1 → Rel X.K B F1 γ s1 σ H1 → Good X B F1 γ s1 σ H1 (k a s1) (fun b s2 F2 H2 => Stp F γ s σ H F2 s2 H2 → K b s2 F2 H2) → P a s1 F1 H1) : Good X B F γ s σ H (m s) P :=
  g.bind.imp fun a s1 F1 H1 e st R g1 => h a s1 F1 H1 e st R g1
end

/-! ### reading -/
inductive Vw where
  | dat (d : D) | obj (c : Cn)
def Slt.view : Slt → Option Vw
  | .own _ c => some (.obj c)
  | .bor c => some (.obj c)
  | .val (.list xs) => some (.obj (.lst xs))
  | .val d => some (.dat d)
  | _ => none
def view (o : Op) : M Vw := fun s => match o with
  | .val (.list xs) => .ok (.obj (.lst xs)) s
  | .val d => .ok (.dat d) s
  | .new c => .ok (.obj c) s
  | .slot i => match (s.ρ[i]?).bind Slt.view with
    | some w => .ok w s
    | none => .bad
  | .glob => match s.g with
    | some xs => .ok (.obj (.lst xs)) s
    | none => .bad
/-- a value, seen -/
def VOk (K : PySem.W.Frag) (F H : Hp) (v : V) : Vw → Prop
  | .dat d => Dq K F v d ∧ ∀ xs, d ≠ .list xs
  | .obj (.lst xs) => ∃ a vs, v = .ref a ∧ Rd H a (.lst vs) ∧ DqAll K F vs xs
  | .obj (.dct kvs) => ∃ a ks, v = .ref a ∧ H a = some (.dK ks) ∧ dpc_kv K F ks kvs
theorem view_same {o : Op} {s s' : Sg} {w : Vw} (e : view o s = .ok w s') : s' = s := by
  unfold view at e
  split at e
  · cases e; rfl
  · cases e; rfl
  · cases e; rfl
  · split at e <;> first | (cases e; rfl) | cases e
  · split at e <;> first | (cases e; rfl) | cases e
section
variable {K : PySem.W.Frag} {B : Bd} {F H : Hp} {γ : Option Addr} {s : Sg} {σ : St}
theorem vok_obj {F H : Hp} {p : Addr} {o : HO} {c : Cn} (h : H p = some o) (k : COk K F o c) : VOk K F H (.ref p) (.obj c) := by
  cases k with
  | lst k => exact ⟨p, _, rfl, .of h, k⟩
  | dct k => exact ⟨p, _, rfl, h, k⟩
theorem vok_val {v : V} {d : D} (h : Dq K F v d) (fh : Le F H) : VOk K F H v (match d with | .list xs => .obj (.lst xs) | d => .dat d) := by
  cases h with
  | lst hs ha => exact ⟨_, _, rfl, fh.rd hs, ha⟩
  | non => exact ⟨.non, fun _ z => nomatch z⟩
  | bl b => exact ⟨.bl b, fun _ z => nomatch z⟩
  | int b => exact ⟨.int b, fun _ z => nomatch z⟩
  | str b => exact ⟨.str b, fun _ z => nomatch z⟩
  | tup a b => exact ⟨.tup a b, fun _ z => nomatch z⟩
theorem view_ok (R : Rel K B F γ s σ H) {v : V} {o : Op} (h : OpOk K B F γ s σ H v o) {w : Vw} {s' : Sg} (e : view o s = .ok w s') : VOk K F H v w := by
  cases o with
  | val d =>
    have q := vok_val h R.fh
    cases d <;> (cases e; exact q)
  | new c =>
    obtain ⟨p, o, rfl, hp, ck, _⟩ := h
    cases e
    exact vok_obj hp ck
  | slot i =>
    obtain ⟨es, sl, e1, q⟩ := h
    have sok := R.slot i sl e1
    rw [es] at sok
    have e2 : (match sl.view with | some w => (Out.ok w s : Out Vw) | none => .bad) = .ok w s' := by
      have e3 := e
      unfold view at e3
      dsimp only at e3
      rw [e1] at e3
      exact e3
    cases sl with
    | no => cases e2
    | exc => cases e2
    | glob => cases e2
    | own lk c =>
      cases e2
      obtain ⟨p, o, ev, hp, ck, _⟩ := sok
      cases ev
      exact vok_obj hp ck
    | bor c =>
      cases e2
      obtain ⟨p, o, ev, hp, ck, _⟩ := sok
      cases ev
      exact vok_obj hp ck
    | val d =>
      obtain ⟨u, ev, hd⟩ := sok
      cases ev
      have q := vok_val hd R.fh
      cases d <;> (cases e2; exact q)
  | glob =>
    obtain ⟨a, rfl, rfl⟩ := h
    have gl := R.gl
    unfold view at e
    dsimp only at e
    cases eg : s.g with
    | none => rw [eg] at e; cases e
    | some xs =>
      rw [eg] at e gl
      cases e
      obtain ⟨vs, hv, ha, _⟩ := gl
      exact ⟨a, vs, rfl, .of hv, ha⟩
end
/-- as data -/
def Vw.dat? : Vw → Option D
  | .dat d => some d
  | .obj (.lst xs) => some (.list xs)
  | _ => none
theorem VOk.dp {K : PySem.W.Frag} {F H : Hp} {v : V} {w : Vw} {d : D} (fh : Le F H) (h : VOk K F H v w) (e : w.dat? = some d) : Dq K H v d := by
  cases w with
  | dat d' => cases e; exact h.1.mono fh
  | obj c =>
    cases c with
    | lst xs =>
      cases e
      obtain ⟨a, vs, rfl, hs, ha⟩ := h
      exact .lst hs (ha.mono fh)
    | dct _ => cases e
def toD (o : Op) : M D := fun s => match view o s with
  | .ok w s' => (match w.dat? with
    | some d => .ok d s'
    | none => .bad)
  | .ex x s' => .ex x s'
  | .bad => .bad
theorem toD_ok {K : PySem.W.Frag} {B : Bd} {F H : Hp} {γ : Option Addr} {s s' : Sg} {σ : St} (R : Rel K B F γ s σ H) {v : V} {o : Op} (h : OpOk K B F γ s σ H v o) {d : D} (e : toD o s = .ok d s') : s' = s ∧ Dq K H v d := by
  unfold toD at e
  cases q : view o s with
  | ok w s1 =>
    rw [q] at e
    dsimp only at e
    have e1 := view_same q
    subst e1
    cases q2 : w.dat? with
    | none => rw [q2] at e; cases e
    | some d' =>
      rw [q2] at e
      cases e
      exact ⟨rfl, (view_ok R h q).dp R.fh q2⟩
  | ex x s1 => rw [q] at e; cases e
  | bad => rw [q] at e; cases e

/-! ### a rule on values: two operands, one, a list of them -/
/-- op on two values gives what f says -/
structure Op2 (X : Cx) (B : Bd) (g : Value → Value → Sem Value) (f : Op → Op → M Op) : Prop where
  run : ∀ F γ s σ H, Rel X.K B F γ s σ H → ∀ (x y : V) (ox oy : Op), OpOk X.K B F γ s σ H x ox → OpOk X.K B F γ s σ H y oy → ∀ Q : VK,
  Good X B F γ s σ H (f ox oy s) (fun o s' F' H' => ∀ v, OpOk X.K B F' γ s' σ H' v o → NewIn H v o → Q v H') →
  ∀ (pins : List (Addr × Obj)) (w : Shared) (u v : Value), Inv X pins σ H w → RelV x u → RelV y v → wpAny (model X.prog X.w) X.A (g u v) (EP X pins σ Q) X.xe w
structure Op1 (X : Cx) (B : Bd) (g : Value → Sem Value) (f : Op → M Op) : Prop where
  run : ∀ F γ s σ H, Rel X.K B F γ s σ H → ∀ (x : V) (ox : Op), OpOk X.K B F γ s σ H x ox → ∀ Q : VK,
  Good X B F γ s σ H (f ox s) (fun o s' F' H' => ∀ v, OpOk X.K B F' γ s' σ H' v o → NewIn H v o → Q v H') →
  ∀ (pins : List (Addr × Obj)) (w : Shared) (u : Value), Inv X pins σ H w → RelV x u → wpAny (model X.prog X.w) X.A (g u) (EP X pins σ Q) X.xe w
structure CallD (X : Cx) (B : Bd) (c : Value) (f : List Op → M Op) : Prop where
  run : ∀ F γ s σ H H₀, Rel X.K B F γ s σ H → ∀ (xs : List V) (os : List Op), OpsOk X.K B F γ s σ H H₀ xs os → ∀ Q : VK,
  Good X B F γ s σ H (f os s) (fun o s' F' H' => ∀ v, OpOk X.K B F' γ s' σ H' v o → NewIn H v o → Q v H') →
  ∀ (pins : List (Addr × Obj)) (w : Shared) (us : List Value), Inv X pins σ H w → Vals xs us → wpAny (model X.prog X.w) X.A (call c us) (EP X pins σ Q) X.xe w
/-- o.m(..): the receiver stands at an object (its contents by view) -/
structure MetD (X : Cx) (B : Bd) (id : String) (f : Op → List Op → M Op) : Prop where
  run : ∀ F γ s σ H H₀, Rel X.K B F γ s σ H → ∀ (x : V) (ox : Op) (xs : List V) (os : List Op), OpOk X.K B F γ s σ H x ox → OpsOk X.K B F γ s σ H H₀ xs os → ∀ Q : VK,
  Good X B F γ s σ H (f ox os s) (fun o s' F' H' => ∀ v, OpOk X.K B F' γ s' σ H' v o → NewIn H v o → Q v H') →
  ∀ (pins : List (Addr × Obj)) (w : Shared) (u : Value) (us : List Value), Inv X pins σ H w → RelV x u → Vals xs us → wpAny (model X.prog X.w) X.A (call (.builtin id) (u :: us)) (EP X pins σ Q) X.xe w
section
variable {X : Cx} {B : Bd} {a b : Expr} {fa fb : M Op} {pos : Pos}
theorem OpsOk.stp {K : PySem.W.Frag} {F F1 H H1 H₀ : Hp} {γ : Option Addr} {s s1 : Sg} {σ : St} (st : Stp F γ s σ H F1 s1 H1) : ∀ {vs : List V} {os : List Op}, OpsOk K B F γ s σ H H₀ vs os → OpsOk K B F1 γ s1 σ H1 H₀ vs os
  | _, _, .nil => .nil
  | _, _, .cons h n t => .cons (h.stp st) n (OpsOk.stp st t)
theorem NewIn.back {F F1 H H1 : Hp} {γ : Option Addr} {s s1 : Sg} {σ : St} (st : Stp F γ s σ H F1 s1 H1) {v : V} {o : Op} (n : NewIn H1 v o) : NewIn H v o := by
  cases o with
  | new c => exact fun p e => st.none_back (n p e)
  | val d => exact n
  | slot i => exact n
  | glob => exact n
theorem OpsOk.back {K : PySem.W.Frag} {F F1 F' H H1 H' : Hp} {γ : Option Addr} {s s1 s' : Sg} {σ : St} (st : Stp F γ s σ H F1 s1 H1) : ∀ {vs : List V} {os : List Op}, OpsOk K B F' γ s' σ H' H1 vs os → OpsOk K B F' γ s' σ H' H vs os
  | _, _, .nil => .nil
  | _, _, .cons h n t => .cons h (n.back st) (OpsOk.back st t)

def bin (f : Op → Op → M Op) (fa fb : M Op) : M Op := do
  let x ← fa
  let y ← fb
  f x y
/-- two operands, from the left, then what is done with them -/
theorem two (ha : DE X B a fa) (hb : DE X B b fb) {f : Op → Op → M Op} {F H : Hp} {γ : Option Addr} {s : Sg} {σ : St} (R : Rel X.K B F γ s σ H) {Q : VK}
    (g : Good X B F γ s σ H (bin f fa fb s) (fun o s' F' H' => ∀ v, OpOk X.K B F' γ s' σ H' v o → NewIn H v o → Q v H')) {T : V → V → Hp → Prop}
    (h : ∀ x y ox oy s2 F2 H2, Rel X.K B F2 γ s2 σ H2 → OpOk X.K B F2 γ s2 σ H2 x ox → OpOk X.K B F2 γ s2 σ H2 y oy → Good X B F2 γ s2 σ H2 (f ox oy s2) (fun o s' F' H' => ∀ v, OpOk X.K B F' γ s' σ H' v o → NewIn H2 v o → Q v H') → T x y H2) :
    wE X a σ H fun x H1 => wE X b σ H1 fun y H2 => T x y H2 := by
  refine ha.run F γ s σ H R _ (g.then fun ox s1 F1 H1 _ st1 R1 g1 x hx _ => ?_)
  refine hb.run F1 γ s1 σ H1 R1 _ (Good.then (m := fb) (k := fun y => f ox y) g1 fun oy s2 F2 H2 _ st2 R2 g2 y hy _ => ?_)
  exact h x y ox oy s2 F2 H2 R2 (hx.stp st2) hy (g2.imp fun o s' F' H' _ st3 _ q v h1 h2 => q (st2.trans st3) (st1.trans (st2.trans st3)) v h1 (h2.back (st1.trans st2)))
theorem de_bin {op : Operator} {f : Op → Op → M Op} (ho : Op2 X B (binaryOp op) f) (ha : DE X B a fa) (hb : DE X B b fb) : DE X B (.BinOp a op b pos) (bin f fa fb) := by
  refine ⟨fun F γ s σ H R Q g pins w I => ?_⟩
  exact wpAny_BinOp (binT pe_w pe_w I (two ha hb R g (T := fun x y H2 => ∃ F2 s2 ox oy, Rel X.K B F2 γ s2 σ H2 ∧ OpOk X.K B F2 γ s2 σ H2 x ox ∧ OpOk X.K B F2 γ s2 σ H2 y oy ∧ Good X B F2 γ s2 σ H2 (f ox oy s2) (fun o s' F' H' => ∀ v, OpOk X.K B F' γ s' σ H' v o → NewIn H2 v o → Q v H'))
    fun x y ox oy s2 F2 H2 R2 h1 h2 g2 => ⟨F2, s2, ox, oy, R2, h1, h2, g2⟩) fun v u w2 x y H2 I2 rx ry ⟨F2, s2, ox, oy, R2, h1, h2, g2⟩ => ho.run F2 γ s2 σ H2 R2 x y ox oy h1 h2 Q g2 pins w2 v u I2 rx ry)
theorem de_cmp {op : CmpOp} {f : Op → Op → M Op} (ho : Op2 X B (compareOp op) f) (ha : DE X B a fa) (hb : DE X B b fb) (hm : behindInMarks op b = false) : DE X B (.Compare a [op] [b] pos) (bin f fa fb) := by
  refine ⟨fun F γ s σ H R Q g pins w I => ?_⟩
  exact wpAny_Compare1 (binT pe_w pe_w I (two ha hb R g (T := fun x y H2 => ∃ F2 s2 ox oy, Rel X.K B F2 γ s2 σ H2 ∧ OpOk X.K B F2 γ s2 σ H2 x ox ∧ OpOk X.K B F2 γ s2 σ H2 y oy ∧ Good X B F2 γ s2 σ H2 (f ox oy s2) (fun o s' F' H' => ∀ v, OpOk X.K B F' γ s' σ H' v o → NewIn H2 v o → Q v H'))
    fun x y ox oy s2 F2 H2 R2 h1 h2 g2 => ⟨F2, s2, ox, oy, R2, h1, h2, g2⟩) fun v u w2 x y H2 I2 rx ry ⟨F2, s2, ox, oy, R2, h1, h2, g2⟩ => ho.run F2 γ s2 σ H2 R2 x y ox oy h1 h2 Q g2 pins w2 v u I2 rx ry) hm
theorem de_un {op : UnaryOp} {f : Op → M Op} (ho : Op1 X B (unaryOp op) f) (ha : DE X B a fa) : DE X B (.UnaryOp op a pos) (do let x ← fa; f x) := by
  refine ⟨fun F γ s σ H R Q g pins w I => ?_⟩
  refine UnaryOp_ ?_
  refine thn (ha.run F γ s σ H R (fun x H1 => ∃ F2 s2 ox, Rel X.K B F2 γ s2 σ H1 ∧ OpOk X.K B F2 γ s2 σ H1 x ox ∧ Good X B F2 γ s2 σ H1 (f ox s2) (fun o s' F' H' => ∀ v, OpOk X.K B F' γ s' σ H' v o → NewIn H1 v o → Q v H'))
    (g.then fun ox s1 F1 H1 _ st1 R1 g1 x hx _ => ⟨F1, s1, ox, R1, hx, g1.imp fun o s' F' H' _ st2 _ q v h1 h2 => q (st1.trans st2) v h1 (h2.back st1)⟩) pins w I) fun u w1 ⟨x, H1, I1, r1, F2, s2, ox, R2, h1, g2⟩ => ?_
  exact ho.run F2 γ s2 σ H1 R2 x ox h1 Q g2 pins w1 u I1 r1
end

/-! ### names, constants -/
def rdSlot (i : Nat) : M Op := fun s => match s.ρ[i]? with
  | some (.val d) => .ok (.val d) s
  | some (.own _ _) => .ok (.slot i) s
  | some (.bor _) => .ok (.slot i) s
  | some .glob => .ok .glob s
  | _ => .bad
section
variable {X : Cx} {B : Bd} {pos : Pos}
theorem de_var (i : Nat) {x : Str} (hN : X.N[i]? = some x := by rfl) (hv : Vis X.env.scope x := by first | exact Or.inl rfl | exact Or.inr (Or.inl rfl) | exact Or.inr (Or.inr rfl)) (hd : (x == ("__debug__" : Str)) = false := by decide)
    (hcd : (x == ("__classdict__" : Str)) = false := by decide) : DE X B (.Name x pos) (rdSlot i) := by
  refine ⟨fun F γ s σ H R Q g => ?_⟩
  refine wE_of (pe_var hN hv hd hcd) ?_
  unfold rdSlot at g
  cases e : s.ρ[i]? with
  | none => rw [e] at g; exact g.no
  | some sl =>
    have sok := R.slot i sl e
    rw [e] at g
    cases sl with
    | no => exact g.no
    | val d =>
      obtain ⟨u, ev, hd⟩ := sok
      exact ⟨u, ev, g.ok0 R u hd trivial⟩
    | own lk c =>
      obtain ⟨p, o, ev, _⟩ := sok
      exact ⟨.ref p, ev, g.ok0 R _ ⟨ev, _, e, .inl rfl⟩ trivial⟩
    | bor c =>
      obtain ⟨p, o, ev, _⟩ := sok
      exact ⟨.ref p, ev, g.ok0 R _ ⟨ev, _, e, .inl rfl⟩ trivial⟩
    | exc => exact g.no
    | glob =>
      obtain ⟨a, eg, ev⟩ := sok
      exact ⟨.ref a, ev, g.ok0 R _ ⟨a, eg, rfl⟩ trivial⟩
theorem de_int {i : Int} {j : Nat} : DE X B (.Constant (.int i) j pos) (pure (.val (.int i))) := ⟨fun _ _ _ _ _ R _ g => wE_of pe_int (g.ok0 R _ (.int i) trivial)⟩
theorem de_bl {b : Bool} {j : Nat} : DE X B (.Constant (.bool b) j pos) (pure (.val (.bool b))) := ⟨fun _ _ _ _ _ R _ g => wE_of pe_bl (g.ok0 R _ (.bl b) trivial)⟩
theorem de_non {j : Nat} : DE X B (.Constant .none j pos) (pure (.val .none)) := ⟨fun _ _ _ _ _ R _ g => wE_of pe_non (g.ok0 R _ .non trivial)⟩
theorem de_str {x : Str} {j : Nat} : DE X B (.Constant (.str x) j pos) (pure (.val (.str x))) := ⟨fun _ _ _ _ _ R _ g => wE_of pe_str (g.ok0 R _ (.str x) trivial)⟩
end

/-! ### the state grows -/
def GNew (K : PySem.W.Frag) (F H : Hp) : G → Option Addr → Prop
  | none, none => True
  | some xs, some a => ∃ vs, H a = some (.lst vs) ∧ DqAll K F vs xs
  | _, _ => False
section
variable {K : PySem.W.Frag} {B : Bd} {F F' H H' : Hp} {γ : Option Addr} {s : Sg} {σ : St}
theorem Rel.neγ (R : Rel K B F γ s σ H) {a : Addr} {o : HO} (h : B.H0 a = some o) (n : some a ≠ B.γ0) : some a ≠ γ := by
  intro e
  have gl := R.gl
  cases γ with
  | none => cases e
  | some b =>
    cases e
    cases eg : s.g with
    | none => rw [eg] at gl; exact gl
    | some xs =>
      rw [eg] at gl
      obtain ⟨_, _, _, _, z | ⟨_, z⟩⟩ := gl
      · exact n z.symm
      · rw [h] at z; cases z
theorem rel_grow (R : Rel K B F γ s σ H) {g' : G} (fm : Le F F') (fh : Le F' H') (fn : ∀ a o, F' a = some o → F a = some o ∨ H a = none) (hk : ∀ a o, H a = some o → some a ≠ γ → H' a = some o)
    (dm : ∀ a o, H a = some o → ∃ o', H' a = some o') (gl : GNew K F' H' g' γ) : Rel K B F' γ { s with g := g' } σ H' ∧ Stp F γ s σ H F' { s with g := g' } H' := by
  have fnone : ∀ {p : Addr} {o : HO}, H p = some o → F p = none → F' p = none := fun {p o} h n => by
    cases e : F' p with
    | none => rfl
    | some u =>
      rcases fn p u e with z | z
      · rw [n] at z; cases z
      · rw [h] at z; cases z
  have h0 : ∀ {p : Addr}, H p = none → B.H0 p = none := fun {p} h => by
    cases e : B.H0 p with
    | none => rfl
    | some u =>
      obtain ⟨o', e'⟩ := R.dom p u e
      rw [h] at e'; cases e'
  refine ⟨⟨fh, R.f0.trans fm, fun a o e => ?_, fun a o e n => hk a o (R.keep a o e n) (R.neγ e n), fun a o e => ?_, R.len, fun i sl e => ?_, R.dist, ?_⟩, ⟨fm, fun a o e => (fn a o e).imp id .inl, fun a o e n _ => hk a o e n, dm, fun i => .inl rfl⟩⟩
  · rcases fn a o e with z | z
    · exact R.fn a o z
    · exact .inr (h0 z)
  · obtain ⟨o', e'⟩ := R.dom a o e
    exact dm a o' e'
  · have so := R.slot i sl e
    cases sl with
    | no => trivial
    | val d =>
      obtain ⟨u, ev, hd⟩ := so
      exact ⟨u, ev, hd.mono fm⟩
    | own lk c =>
      obtain ⟨p, o, ev, hp, ck, fp, h0p, ng⟩ := so
      exact ⟨p, o, ev, hk p o hp ng, ck.mono fm, fnone hp fp, h0p, ng⟩
    | bor c =>
      obtain ⟨p, o, ev, hp, ck, h0p, ng⟩ := so
      exact ⟨p, o, ev, hk p o hp ng, ck.mono fm, h0p, ng⟩
    | exc => exact so
    | glob => exact so
  · have gl0 := R.gl
    show GOk K B F' H' g' γ
    cases γ with
    | none =>
      cases g' with
      | some _ => exact gl.elim
      | none =>
        cases eg : s.g with
        | none => rw [eg] at gl0; exact gl0
        | some xs => rw [eg] at gl0; exact gl0.elim
    | some a =>
      cases g' with
      | none => exact gl.elim
      | some xs =>
        obtain ⟨vs, hv, ha⟩ := gl
        cases eg : s.g with
        | none => rw [eg] at gl0; exact gl0.elim
        | some ys =>
          rw [eg] at gl0
          obtain ⟨ws, hw, _, fa, z⟩ := gl0
          exact ⟨vs, hv, ha, fnone hw fa, z⟩
theorem Rel.gnew (R : Rel K B F γ s σ H) (fm : Le F F') (hk : ∀ a o, H a = some o → H' a = some o) : GNew K F' H' s.g γ := by
  have gl := R.gl
  cases γ with
  | none =>
    cases eg : s.g with
    | none => trivial
    | some xs => rw [eg] at gl; exact gl.elim
  | some a =>
    cases eg : s.g with
    | none => rw [eg] at gl; exact gl.elim
    | some xs =>
      rw [eg] at gl
      obtain ⟨vs, hv, ha, _⟩ := gl
      exact ⟨vs, hk _ _ hv, DqAll.mono fm ha⟩
theorem Rel.f_none (R : Rel K B F γ s σ H) {p : Addr} (h : H p = none) : F p = none := by
  cases e : F p with
  | none => rfl
  | some u => rw [R.fh p u e] at h; cases h
theorem Rel.h0_none (R : Rel K B F γ s σ H) {p : Addr} (h : H p = none) : B.H0 p = none := by
  cases e : B.H0 p with
  | none => rfl
  | some u =>
    obtain ⟨o', e'⟩ := R.dom p u e
    rw [h] at e'; cases e'
theorem Rel.γ_some (R : Rel K B F γ s σ H) {p : Addr} (h : H p = none) : some p ≠ γ := by
  intro e
  have gl := R.gl
  cases γ with
  | none => cases e
  | some a =>
    cases e
    cases eg : s.g with
    | none => rw [eg] at gl; exact gl.elim
    | some xs =>
      rw [eg] at gl
      obtain ⟨vs, hv, _⟩ := gl
      rw [h] at hv; cases hv
/-- a new object that is not frozen -/
theorem rel_new (R : Rel K B F γ s σ H) {p : Addr} {o : HO} {c : Cn} (n : H p = none) (k : COk K F o c) : Rel K B F γ s σ (upd H p o) ∧ Stp F γ s σ H F s (upd H p o) ∧ OpOk K B F γ s σ (upd H p o) (.ref p) (.new c) ∧ NewIn H (.ref p) (.new c) := by
  have hk : ∀ a u, H a = some u → upd H p o a = some u := fun a u e => by rw [upd_ne (ne_of_none e n)]; exact e
  obtain ⟨R', st⟩ := rel_grow R (g' := s.g) (Le.refl F) (R.fh.trans hk) (fun _ _ e => .inl e) (fun a u e _ => hk a u e) (fun a u e => ⟨u, hk a u e⟩) (R.gnew (Le.refl F) hk)
  refine ⟨R', st, ⟨p, o, rfl, upd_same, k, R.f_none n, R.h0_none n, R.γ_some n, fun i sl e1 e2 e3 => ?_⟩, fun q e => by cases e; exact n⟩
  have so := R.slot i sl e1
  cases sl with
  | no => cases e2
  | val d => cases e2
  | exc => cases e2
  | glob => cases e2
  | own lk c =>
    obtain ⟨q, o, ev, hq, _⟩ := so
    rw [e3] at ev
    cases ev
    rw [n] at hq; cases hq
  | bor c =>
    obtain ⟨q, o, ev, hq, _⟩ := so
    rw [e3] at ev
    cases ev
    rw [n] at hq; cases hq
/-- a new tuple -/
theorem rel_tup (R : Rel K B F γ s σ H) {p : Addr} {vs : List V} {ds : List D} (n : H p = none) (k : DqAll K F vs ds) :
    Rel K B (upd F p (.tup vs)) γ s σ (upd H p (.tup vs)) ∧ Stp F γ s σ H (upd F p (.tup vs)) s (upd H p (.tup vs)) ∧ Dq K (upd F p (.tup vs)) (.ref p) (.tuple ds) := by
  have hk : ∀ a u, H a = some u → upd H p (.tup vs) a = some u := fun a u e => by rw [upd_ne (ne_of_none e n)]; exact e
  have fm : Le F (upd F p (.tup vs)) := le_upd (R.f_none n)
  have h1 : Le (upd F p (.tup vs)) (upd H p (.tup vs)) := fun a u e => by
    by_cases h : a = p
    · subst h; rw [upd_same] at e ⊢; exact e
    · rw [upd_ne h] at e ⊢; exact R.fh a u e
  have h2 : ∀ a u, upd F p (.tup vs) a = some u → F a = some u ∨ H a = none := fun a u e => by
    by_cases h : a = p
    · subst h; exact .inr n
    · rw [upd_ne h] at e; exact .inl e
  obtain ⟨R', st⟩ := rel_grow R (g' := s.g) fm h1 h2 (fun a u e _ => hk a u e) (fun a u e => ⟨u, hk a u e⟩) (R.gnew fm hk)
  exact ⟨R', st, .tup (.of upd_same) (DqAll.mono fm k)⟩
end
end PD
end

section
set_option Elab.async false
set_option linter.all false
set_option maxRecDepth 100000
set_option maxHeartbeats 4000000
set_option autoImplicit false
namespace PD
open PySem PySem.Spec L2
open PyProof.Rows hiding St

/-! ### operators -/
def op2 (h : Vw → Vw → Option Op) (ox oy : Op) : M Op := fun s => match view ox s with
  | .ok wx _ => (match view oy s with
    | .ok wy _ => (match h wx wy with
      | some o => .ok o s
      | none => .bad)
    | _ => .bad)
  | _ => .bad
def op1 (h : Vw → Option Op) (ox : Op) : M Op := fun s => match view ox s with
  | .ok wx _ => (match h wx with
    | some o => .ok o s
    | none => .bad)
  | _ => .bad
section
variable {X : Cx} {B : Bd} {g : Value → Value → Sem Value} {h : Vw → Vw → Option Op}
/-- where one may go on: a new state that keeps the slots -/
def Kt (X : Cx) (B : Bd) (F : Hp) (γ : Option Addr) (s : Sg) (σ : St) (H : Hp) (o : Op) (Q : VK) : Prop := ∀ v F' H', Stp F γ s σ H F' s H' → Rel X.K B F' γ s σ H' → OpOk X.K B F' γ s σ H' v o → NewIn H v o → Q v H'
theorem op2_ok (rule : ∀ wx wy o, h wx wy = some o → ∀ F γ s σ H, Rel X.K B F γ s σ H → ∀ (x y : V), VOk X.K F H x wx → VOk X.K F H y wy → ∀ Q : VK, Kt X B F γ s σ H o Q →
    ∀ (pins : List (Addr × Obj)) (w : Shared) (u v : Value), Inv X pins σ H w → RelV x u → RelV y v → wpAny (model X.prog X.w) X.A (g u v) (EP X pins σ Q) X.xe w) : Op2 X B g (op2 h) := by
  refine ⟨fun F γ s σ H R x y ox oy hx hy Q G pins w u v I rx ry => ?_⟩
  unfold op2 at G
  cases e1 : view ox s with
  | ok wx s1 =>
    cases e2 : view oy s with
    | ok wy s2 =>
      cases e3 : h wx wy with
      | some o =>
        rw [e1, e2] at G
        dsimp only at G
        rw [e3] at G
        exact rule wx wy o e3 F γ s σ H R x y (view_ok R hx e1) (view_ok R hy e2) Q (fun v F' H' st R' h1 h2 => G F' H' st R' v h1 h2) pins w u v I rx ry
      | none =>
        rw [e1, e2] at G
        dsimp only at G
        rw [e3] at G
        exact G.no
    | ex x s2 => rw [e1, e2] at G; exact G.no
    | bad => rw [e1, e2] at G; exact G.no
  | ex x s1 => rw [e1] at G; exact G.no
  | bad => rw [e1] at G; exact G.no
theorem op1_ok {g : Value → Sem Value} {h : Vw → Option Op} (rule : ∀ wx o, h wx = some o → ∀ F γ s σ H, Rel X.K B F γ s σ H → ∀ (x : V), VOk X.K F H x wx → ∀ Q : VK, Kt X B F γ s σ H o Q →
    ∀ (pins : List (Addr × Obj)) (w : Shared) (u : Value), Inv X pins σ H w → RelV x u → wpAny (model X.prog X.w) X.A (g u) (EP X pins σ Q) X.xe w) : Op1 X B g (op1 h) := by
  refine ⟨fun F γ s σ H R x ox hx Q G pins w u I rx => ?_⟩
  unfold op1 at G
  cases e1 : view ox s with
  | ok wx s1 =>
    cases e3 : h wx with
    | some o =>
      rw [e1] at G
      dsimp only at G
      rw [e3] at G
      exact rule wx o e3 F γ s σ H R x (view_ok R hx e1) Q (fun v F' H' st R' h1 h2 => G F' H' st R' v h1 h2) pins w u I rx
    | none =>
      rw [e1] at G
      dsimp only at G
      rw [e3] at G
      exact G.no
  | ex x s1 => rw [e1] at G; exact G.no
  | bad => rw [e1] at G; exact G.no
/-- a plain value handed on -/
theorem Kt.val {F H : Hp} {γ : Option Addr} {s : Sg} {σ : St} {d : D} {Q : VK} (R : Rel X.K B F γ s σ H) (k : Kt X B F γ s σ H (.val d) Q) {v : V} (h : Dq X.K F v d) : Q v H := k v F H Stp.refl R h trivial
end
section
variable {K : PySem.W.Frag} {F : Hp} {v : V}
theorem Dq.int_ {i : Int} (h : Dq K F v (.int i)) : v = .int i := by cases h; rfl
theorem Dq.str_ {i : Str} (h : Dq K F v (.str i)) : v = .str i := by cases h; rfl
theorem Dq.bl_ {i : Bool} (h : Dq K F v (.bool i)) : v = .bl i := by cases h; rfl
theorem Dq.non_ (h : Dq K F v .none) : v = .non := by cases h; rfl
theorem Dq.tup_ {xs : List D} (h : Dq K F v (.tuple xs)) : ∃ a vs, v = .ref a ∧ SqT K F a vs ∧ DqAll K F vs xs := by cases h with | tup h a => exact ⟨_, _, rfl, h, a⟩
end
/-- the exact object of a list -/
theorem rd_lst {X : Cx} {pins : List (Addr × Obj)} {σ : St} {H : Hp} {s : Shared} {a : Addr} {xs : List V} (I : Inv X pins σ H s) (h : Rd H a (.lst xs)) :
    xs.length ≤ sizeLine ∧ ∃ (its : List Value) (n : Nat), Vals xs its ∧ s.heap.get? a = some { cls := .type "list", data := .seq its.toArray n } := h.ok I.hok

def addV : Vw → Vw → Option Op
  | .dat (.int i), .dat (.int j) => some (.val (.int (i + j)))
  | .dat (.str a), .dat (.str b) => if a.length + b.length ≤ sizeLine then some (.val (.str (a ++ b))) else none
  | .dat (.tuple xs), .dat (.tuple ys) => if xs.length + ys.length ≤ sizeLine then some (.val (.tuple (xs ++ ys))) else none
  | .obj (.lst xs), .obj (.lst ys) => if xs.length + ys.length ≤ sizeLine then some (.new (.lst (xs ++ ys))) else none
  | _, _ => none
section
variable {X : Cx} {B : Bd}
theorem o_add : Op2 X B (binaryOp .Add) (op2 addV) := by
  refine op2_ok fun wx wy o e F γ s σ H R x y hx hy Q k pins w u v I rx ry => ?_
  unfold addV at e
  split at e
  · cases e
    obtain rfl := hx.1.int_
    obtain rfl := hy.1.int_
    exact op_add pins w σ H _ _ u v Q I rx ry ⟨_, _, rfl, rfl, k.val R (.int _)⟩
  · split at e
    · cases e
      rename_i hz
      obtain rfl := hx.1.str_
      obtain rfl := hy.1.str_
      exact op_add_str pins w σ H _ _ u v Q I rx ry ⟨_, _, rfl, rfl, hz, k.val R (.str _)⟩
    · cases e
  · split at e
    · cases e
      rename_i xs ys hz
      obtain ⟨a, vs, rfl, ha, da⟩ := hx.1.tup_
      obtain ⟨b, ws, rfl, hb, db⟩ := hy.1.tup_
      refine op_catA pins w σ H _ _ u v Q I rx ry ⟨a, b, vs, ws, rfl, rfl, R.fh.st ha, R.fh.st hb, by rw [da.length, db.length]; exact hz, fun e0 => ?_, fun e0 e1 => ?_, fun e0 e1 p np => ?_⟩
      · subst e0
        cases da
        exact k.val R (.tup hb db)
      · subst e1
        cases db
        refine k.val R ?_
        rw [List.append_nil]
        exact .tup ha da
      · obtain ⟨R', st, dq⟩ := rel_tup R np (da.app db)
        exact k _ _ _ st R' dq trivial
    · cases e
  · split at e
    · cases e
      rename_i xs ys hz
      obtain ⟨a, vs, rfl, ha, da⟩ := hx
      obtain ⟨b, ws, rfl, hb, db⟩ := hy
      cases rx
      cases ry
      obtain ⟨_, its, n, r, e1⟩ := rd_lst I ha
      obtain ⟨_, its2, n2, r2, e2⟩ := rd_lst I hb
      have hl := r.length
      have hl2 := r2.length
      have l1 := da.length
      have l2 := db.length
      refine PySem.P.add_list e1 e2 ?_ (by rw [List.size_toArray, List.size_toArray]; omega)
      have ea : its.toArray ++ its2.toArray = (its ++ its2).toArray := by simp
      rw [ea]
      obtain ⟨R', st, ok, nw⟩ := rel_new R I.fresh (.lst (da.app db))
      exact ⟨.ref _, _, I.lnew (t' := w.toks) (r.append r2) (by rw [List.length_append]; omega), rfl, k _ _ _ st R' ok nw⟩
    · cases e
  · cases e
end
def subV : Vw → Vw → Option Op
  | .dat (.int i), .dat (.int j) => some (.val (.int (i - j)))
  | _, _ => none
/-- one side below 2 ^ 64 -/
def mulOk (i j : Int) : Bool := decide ((-(2 ^ 64) < i ∧ i < 2 ^ 64) ∨ (-(2 ^ 64) < j ∧ j < 2 ^ 64))
def mulV : Vw → Vw → Option Op
  | .dat (.int i), .dat (.int j) => if mulOk i j = true then some (.val (.int (i * j))) else none
  | _, _ => none
def fdivV : Vw → Vw → Option Op
  | .dat (.int i), .dat (.int j) => if 0 < j ∧ j < 1073741824 then some (.val (.int (i / j))) else none
  | _, _ => none
def modV : Vw → Vw → Option Op
  | .dat (.int i), .dat (.int j) => if 0 < j then some (.val (.int (i % j))) else none
  | _, _ => none
def powV : Vw → Vw → Option Op
  | .dat (.int i), .dat (.int j) => if 0 ≤ j ∧ j ≤ 1000000 ∧ i.natAbs < 2 ^ 64 then some (.val (.int (i ^ j.toNat))) else none
  | _, _ => none
def shlV : Vw → Vw → Option Op
  | .dat (.int i), .dat (.int j) => if 0 ≤ j ∧ j ≤ 1000000 ∧ i.natAbs < 2 ^ 64 then some (.val (.int (i * 2 ^ j.toNat))) else none
  | _, _ => none
def negV : Vw → Option Op
  | .dat (.int i) => some (.val (.int (-i)))
  | _ => none
section
variable {X : Cx} {B : Bd}
theorem o_sub : Op2 X B (binaryOp .Sub) (op2 subV) := by
  refine op2_ok fun wx wy o e F γ s σ H R x y hx hy Q k pins w u v I rx ry => ?_
  unfold subV at e
  split at e
  · cases e
    obtain rfl := hx.1.int_
    obtain rfl := hy.1.int_
    exact op_sub pins w σ H _ _ u v Q I rx ry ⟨_, _, rfl, rfl, k.val R (.int _)⟩
  · cases e
theorem o_mul : Op2 X B (binaryOp .Mult) (op2 mulV) := by
  refine op2_ok fun wx wy o e F γ s σ H R x y hx hy Q k pins w u v I rx ry => ?_
  unfold mulV at e
  split at e
  · split at e
    · cases e
      rename_i i j hz
      have hz' : (-(2 ^ 64) < i ∧ i < 2 ^ 64) ∨ (-(2 ^ 64) < j ∧ j < 2 ^ 64) := of_decide_eq_true hz
      obtain rfl := hx.1.int_
      obtain rfl := hy.1.int_
      exact op_mul pins w σ H _ _ u v Q I rx ry ⟨_, _, rfl, rfl, hz', k.val R (.int _)⟩
    · cases e
  · cases e
theorem o_fdiv : Op2 X B (binaryOp .FloorDiv) (op2 fdivV) := by
  refine op2_ok fun wx wy o e F γ s σ H R x y hx hy Q k pins w u v I rx ry => ?_
  unfold fdivV at e
  split at e
  · split at e
    · cases e
      rename_i hz
      obtain rfl := hx.1.int_
      obtain rfl := hy.1.int_
      exact op_fdiv pins w σ H _ _ u v Q I rx ry ⟨_, _, rfl, rfl, hz, k.val R (.int _)⟩
    · cases e
  · cases e
theorem o_mod : Op2 X B (binaryOp .Mod) (op2 modV) := by
  refine op2_ok fun wx wy o e F γ s σ H R x y hx hy Q k pins w u v I rx ry => ?_
  unfold modV at e
  split at e
  · split at e
    · cases e
      rename_i hz
      obtain rfl := hx.1.int_
      obtain rfl := hy.1.int_
      exact op_mod pins w σ H _ _ u v Q I rx ry ⟨_, _, rfl, rfl, hz, k.val R (.int _)⟩
    · cases e
  · cases e
theorem o_pow : Op2 X B (binaryOp .Pow) (op2 powV) := by
  refine op2_ok fun wx wy o e F γ s σ H R x y hx hy Q k pins w u v I rx ry => ?_
  unfold powV at e
  split at e
  · split at e
    · cases e
      rename_i hz
      obtain rfl := hx.1.int_
      obtain rfl := hy.1.int_
      exact op_pow pins w σ H _ _ u v Q I rx ry ⟨_, _, rfl, rfl, hz, k.val R (.int _)⟩
    · cases e
  · cases e
theorem o_shl : Op2 X B (binaryOp .LShift) (op2 shlV) := by
  refine op2_ok fun wx wy o e F γ s σ H R x y hx hy Q k pins w u v I rx ry => ?_
  unfold shlV at e
  split at e
  · split at e
    · cases e
      rename_i hz
      obtain rfl := hx.1.int_
      obtain rfl := hy.1.int_
      exact op_shl pins w σ H _ _ u v Q I rx ry ⟨_, _, rfl, rfl, hz, k.val R (.int _)⟩
    · cases e
  · cases e
theorem o_neg : Op1 X B (unaryOp .USub) (op1 negV) := by
  refine op1_ok fun wx o e F γ s σ H R x hx Q k pins w u I rx => ?_
  unfold negV at e
  split at e
  · cases e
    obtain rfl := hx.1.int_
    exact un_neg pins w σ H _ u Q I rx ⟨_, rfl, k.val R (.int _)⟩
  · cases e
end

/-! ### comparisons -/
def eqV (wx wy : Vw) : Option Op := match wx.dat?, wy.dat? with
  | some d, some e => if min d.depth e.depth ≤ 64 then some (.val (.bool (PyData.eqv d e))) else none
  | _, _ => none
def neV (wx wy : Vw) : Option Op := match wx.dat?, wy.dat? with
  | some d, some e => if min d.depth e.depth ≤ 64 then some (.val (.bool (!PyData.eqv d e))) else none
  | _, _ => none
def someD : D → Bool
  | .none => false
  | _ => true
/-- an order on data, ints and texts told plainly -/
def ordV (fi : Int → Int → Bool) (fs : List Nat → List Nat → Bool) (fd : D → D → Bool) (wx wy : Vw) : Option Op := match wx, wy with
  | .dat (.int i), .dat (.int j) => some (.val (.bool (fi i j)))
  | .dat (.str a), .dat (.str b) => some (.val (.bool (fs a.cps.toList b.cps.toList)))
  | wx, wy => match wx.dat?, wy.dat? with
    | some d, some e => if PySem.W.alike d e && someD d && decide (d.depth ≤ 64) then some (.val (.bool (fd d e))) else none
    | _, _ => none
def ltV : Vw → Vw → Option Op := ordV (fun i j => decide (i < j)) (fun a b => decide (a < b)) (fun d e => PySem.W.dataLt d e)
def leV : Vw → Vw → Option Op := ordV (fun i j => decide (i ≤ j)) (fun a b => !decide (b < a)) (fun d e => !PySem.W.dataLt e d)
def gtV : Vw → Vw → Option Op := ordV (fun i j => decide (j < i)) (fun a b => decide (b < a)) (fun d e => PySem.W.dataLt e d)
def geV : Vw → Vw → Option Op := ordV (fun i j => decide (j ≤ i)) (fun a b => !decide (a < b)) (fun d e => !PySem.W.dataLt d e)
section
variable {X : Cx} {B : Bd}
theorem VOk.reads {pins : List (Addr × Obj)} {σ : St} {F H : Hp} {w : Shared} {x : V} {wx : Vw} {d : D} {u : Value} (I : Inv X pins σ H w) (fh : Le F H) (h : VOk X.K F H x wx) (e : wx.dat? = some d) (r : RelV x u) : ∃ as, Reads w.heap u d as :=
  Dp.reads I d x u (h.dp fh e).dp r
mutual
theorem Dq.plain {K : PySem.W.Frag} {H : Hp} : ∀ {v : V} {d : D}, Dq K H v d → d.plain = true
  | _, _, .non => rfl
  | _, _, .bl _ => rfl
  | _, _, .int _ => rfl
  | _, _, .str _ => rfl
  | _, _, .lst _ a => by simp only [PyData.plain]; exact DqAll.plain a
  | _, _, .tup _ a => by simp only [PyData.plain]; exact DqAll.plain a
theorem DqAll.plain {K : PySem.W.Frag} {H : Hp} : ∀ {vs : List V} {ds : List D}, DqAll K H vs ds → PyData.plainAll ds = true
  | _, _, .nil => by simp only [PyData.plainAll]
  | _, _, .cons h a => by simp only [PyData.plainAll, Dq.plain h, DqAll.plain a, Bool.and_self]
end
theorem VOk.plain {K : PySem.W.Frag} {F H : Hp} {x : V} {wx : Vw} {d : D} (fh : Le F H) (h : VOk K F H x wx) (e : wx.dat? = some d) : d.plain = true := (h.dp fh e).plain
theorem o_eq (hu : X.A.units + 64 < cLine) : Op2 X B (compareOp .Eq) (op2 eqV) := by
  refine op2_ok fun wx wy o e F γ s σ H R x y hx hy Q k pins w u v I rx ry => ?_
  unfold eqV at e
  split at e
  · rename_i d d' e1 e2
    split at e
    · rename_i hz
      cases e
      obtain ⟨as, r1⟩ := hx.reads I R.fh e1 rx
      obtain ⟨bs, r2⟩ := hy.reads I R.fh e2 ry
      exact PySem.SeqAt.eq_plain r1 r2 (hx.plain R.fh e1) (hy.plain R.fh e2) (by omega) ⟨.bl _, H, I, rfl, k.val R (.bl _)⟩
    · cases e
  · cases e
theorem o_ne (hu : X.A.units + 64 < cLine) : Op2 X B (compareOp .NotEq) (op2 neV) := by
  refine op2_ok fun wx wy o e F γ s σ H R x y hx hy Q k pins w u v I rx ry => ?_
  unfold neV at e
  split at e
  · rename_i d d' e1 e2
    split at e
    · rename_i hz
      cases e
      obtain ⟨as, r1⟩ := hx.reads I R.fh e1 rx
      obtain ⟨bs, r2⟩ := hy.reads I R.fh e2 ry
      exact PySem.SeqAt.ne_plain r1 r2 (hx.plain R.fh e1) (hy.plain R.fh e2) (by omega) ⟨.bl _, H, I, rfl, k.val R (.bl _)⟩
    · cases e
  · cases e
theorem ord_ok {op : CmpOp} {fi : Int → Int → Bool} {fs : List Nat → List Nat → Bool} {fd : D → D → Bool} (hu : X.A.units + 64 < cLine)
    (ri : OpR X (compareOp op) (rI0 fun i j => .bl (fi i j))) (rs : OpR X (compareOp op) (fun x y H Q => ∃ i j, x = .str i ∧ y = .str j ∧ Q (.bl (fs i.cps.toList j.cps.toList)) H))
    (rd : ∀ (w : Shared) (a b : Value) (da db : D) (as bs : List Addr) (Q : Value → Shared → Prop) (E : Value → Shared → Prop), Reads w.heap a da as → Reads w.heap b db bs → PySem.W.alike da db = true → da ≠ .none → X.A.units + min da.depth db.depth < cLine → Q (.bool (fd da db)) w → wpAny (model X.prog X.w) X.A (compareOp op a b) Q E w) :
    Op2 X B (compareOp op) (op2 (ordV fi fs fd)) := by
  refine op2_ok fun wx wy o e F γ s σ H R x y hx hy Q k pins w u v I rx ry => ?_
  unfold ordV at e
  split at e
  · cases e
    obtain rfl := hx.1.int_
    obtain rfl := hy.1.int_
    exact ri pins w σ H _ _ u v Q I rx ry ⟨_, _, rfl, rfl, k.val R (.bl _)⟩
  · cases e
    obtain rfl := hx.1.str_
    obtain rfl := hy.1.str_
    exact rs pins w σ H _ _ u v Q I rx ry ⟨_, _, rfl, rfl, k.val R (.bl _)⟩
  · split at e
    · rename_i d d' e1 e2
      split at e
      · rename_i hz
        cases e
        rw [Bool.and_eq_true, Bool.and_eq_true] at hz
        obtain ⟨as, r1⟩ := hx.reads I R.fh e1 rx
        obtain ⟨bs, r2⟩ := hy.reads I R.fh e2 ry
        have hd : d.depth ≤ 64 := of_decide_eq_true hz.2
        refine rd w u v d d' as bs _ _ r1 r2 hz.1.1 (fun z => by subst z; exact absurd hz.1.2 (by decide)) ?_ ⟨.bl _, H, I, rfl, k.val R (.bl _)⟩
        have : min d.depth d'.depth ≤ d.depth := Nat.min_le_left _ _
        omega
      · cases e
    · cases e
theorem o_lt (hu : X.A.units + 64 < cLine) : Op2 X B (compareOp .Lt) (op2 ltV) := ord_ok hu op_lt op_lt_str fun _ _ _ _ _ _ _ _ _ r1 r2 h1 h2 h3 q => PySem.W.lt_data r1 r2 h1 h2 h3 q
theorem o_le (hu : X.A.units + 64 < cLine) : Op2 X B (compareOp .LtE) (op2 leV) := ord_ok hu op_le op_le_str fun _ _ _ _ _ _ _ _ _ r1 r2 h1 h2 h3 q => PySem.W.le_data r1 r2 h1 h2 h3 q
theorem o_gt (hu : X.A.units + 64 < cLine) : Op2 X B (compareOp .Gt) (op2 gtV) := ord_ok hu op_gt op_gt_str fun _ _ _ _ _ _ _ _ _ r1 r2 h1 h2 h3 q => PySem.W.gt_data r1 r2 h1 h2 h3 q
theorem o_ge (hu : X.A.units + 64 < cLine) : Op2 X B (compareOp .GtE) (op2 geV) := ord_ok hu op_ge op_ge_str fun _ _ _ _ _ _ _ _ _ r1 r2 h1 h2 h3 q => PySem.W.ge_data r1 r2 h1 h2 h3 q
end
end PD
end

section
set_option Elab.async false
set_option linter.all false
set_option maxRecDepth 100000
set_option maxHeartbeats 4000000
set_option autoImplicit false
namespace PD
open PySem PySem.Spec L2
open PyProof.Rows hiding St

/-! ### in, is -/
def keyOf : D → Option Key
  | .int i => some (.inl i)
  | .str x => some (.inr x)
  | _ => none
def valD (kvs : List (Key × D)) (k : Key) : Option D := (kvs.find? fun p => decide (p.1 = k)).map (·.2)
def inD (wx wy : Vw) : Option Bool := match wy with
  | .obj (.lst xs) => match wx.dat? with
    | some d => if min (PyData.depthAll xs) d.depth ≤ 60 then some (xs.any fun y => PyData.eqv y d) else none
    | none => none
  | .dat (.tuple xs) => match wx.dat? with
    | some d => if min (PyData.depthAll xs) d.depth ≤ 60 then some (xs.any fun y => PyData.eqv y d) else none
    | none => none
  | .dat (.str z) => match wx with
    | .dat (.str c) => match c.cps.toList with
      | [a] => some (decide (a ∈ z.cps.toList))
      | _ => none
    | _ => none
  | .obj (.dct kvs) => match wx with
    | .dat d => match keyOf d with
      | some k => some (valD kvs k).isSome
      | none => none
    | _ => none
  | _ => none
def inV (wx wy : Vw) : Option Op := (inD wx wy).map fun b => .val (.bool b)
def ninV (wx wy : Vw) : Option Op := (inD wx wy).map fun b => .val (.bool (!b))
section
variable {K : PySem.W.Frag} {F : Hp}
theorem kv_val : ∀ {ks : List (Key × V)} {kvs : List (Key × D)} (k : Key), dpc_kv K F ks kvs → (match valV ks k, valD kvs k with | some v, some d => Dq K F v d | none, none => True | _, _ => False)
  | _, _, k, .nil => trivial
  | (k1, v) :: r, (k2, d) :: t, k, .cons ⟨e, h⟩ rest => by
    have e' : k1 = k2 := e
    subst e'
    have ih := kv_val k rest
    by_cases c : k1 = k
    · have e1 : valV ((k1, v) :: r) k = some v := valV_pos c
      have e2 : valD ((k1, d) :: t) k = some d := by simp [valD, List.find?_cons, c]
      rw [e1, e2]
      exact h
    · have e1 : valV ((k1, v) :: r) k = valV r k := valV_neg c
      have e2 : valD ((k1, d) :: t) k = valD t k := by simp [valD, List.find?_cons, c]
      rw [e1, e2]
      exact ih
theorem kv_some {ks : List (Key × V)} {kvs : List (Key × D)} (k : Key) (h : dpc_kv K F ks kvs) : (valV ks k).isSome = (valD kvs k).isSome := by
  have q := kv_val k h
  cases e1 : valV ks k <;> cases e2 : valD kvs k <;> rw [e1, e2] at q <;> first | rfl | exact q.elim
theorem key_is {v : V} {d : D} {k : Key} (h : Dq K F v d) (e : keyOf d = some k) : v = kV k := by
  cases h <;> cases e <;> rfl
end
section
variable {X : Cx} {B : Bd}
theorem in_core {op : CmpOp} {neg : Bool} (hu : X.A.units + 64 < cLine)
    (rl : ∀ (w : Shared) (c x : Value) (xs : List D) (d : D) (as bs : List Addr) (Q : Value → Shared → Prop) (E : Value → Shared → Prop), Reads w.heap c (.list xs) as → Reads w.heap x d bs → PyData.plainAll xs = true → d.plain = true → X.A.units + 1 + min (PyData.depthAll xs) d.depth < cLine → Q (.bool (neg ^^ xs.any fun y => PyData.eqv y d)) w → wpAny (model X.prog X.w) X.A (compareOp op x c) Q E w)
    (rt : ∀ (w : Shared) (c x : Value) (xs : List D) (d : D) (as bs : List Addr) (Q : Value → Shared → Prop) (E : Value → Shared → Prop), Reads w.heap c (.tuple xs) as → Reads w.heap x d bs → PyData.plainAll xs = true → d.plain = true → X.A.units + 1 + min (PyData.depthAll xs) d.depth < cLine → Q (.bool (neg ^^ xs.any fun y => PyData.eqv y d)) w → wpAny (model X.prog X.w) X.A (compareOp op x c) Q E w)
    (rs : OpR X (compareOp op) (fun x y H Q => ∃ (c : Nat) (z : Str), x = .str ⟨#[c]⟩ ∧ y = .str z ∧ Q (.bl (neg ^^ decide (c ∈ z.cps.toList))) H))
    (rd : ∀ (pins : List (Addr × Obj)) (σ : St) (H : Hp) (w : Shared) (a : Addr) (y : V) (o : Option V) (u : Value) (Q : Value → Shared → Prop) (E : Value → Shared → Prop), Inv X pins σ H w → DGet H a y o → RelV y u → (∀ s', Inv X pins σ H s' → Q (.bool (neg ^^ o.isSome)) s') → wpAny (model X.prog X.w) X.A (compareOp op u (.ref a)) Q E w) :
    Op2 X B (compareOp op) (op2 fun wx wy => (inD wx wy).map fun b => .val (.bool (neg ^^ b))) := by
  refine op2_ok fun wx wy o e F γ s σ H R x y hx hy Q k pins w u v I rx ry => ?_
  obtain ⟨b, eb, rfl⟩ := Option.map_eq_some_iff.mp e
  clear e
  have fin : ∀ {c : Bool}, c = b → ∀ s', Inv X pins σ H s' → EP X pins σ Q (.bool (neg ^^ c)) s' := fun ec s' I' => ⟨.bl (neg ^^ b), H, I', by rw [ec]; rfl, k.val R (.bl _)⟩
  unfold inD at eb
  split at eb
  · split at eb
    · rename_i xs _ d e1
      split at eb
      · rename_i hz
        cases eb
        obtain ⟨bs, r1⟩ := hx.reads I R.fh e1 rx
        obtain ⟨as, r2⟩ := hy.reads I R.fh (d := .list xs) rfl ry
        have p := hy.plain (d := .list xs) R.fh rfl
        simp only [PyData.plain] at p
        exact rl w v u xs d as bs _ _ r2 r1 p (hx.plain R.fh e1) (by omega) (fin rfl w I)
      · cases eb
    · cases eb
  · split at eb
    · rename_i xs _ d e1
      split at eb
      · rename_i hz
        cases eb
        obtain ⟨bs, r1⟩ := hx.reads I R.fh e1 rx
        obtain ⟨as, r2⟩ := hy.reads I R.fh (d := .tuple xs) rfl ry
        have p := hy.plain (d := .tuple xs) R.fh rfl
        simp only [PyData.plain] at p
        exact rt w v u xs d as bs _ _ r2 r1 p (hx.plain R.fh e1) (by omega) (fin rfl w I)
      · cases eb
    · cases eb
  · split at eb
    · rename_i z _ c
      split at eb
      · rename_i a ea
        cases eb
        obtain rfl := hx.1.str_
        obtain rfl := hy.1.str_
        have ec : c = ⟨#[a]⟩ := by
          cases c with
          | mk arr =>
            have : arr = #[a] := by
              have := congrArg List.toArray ea
              simpa using this
            rw [this]
        subst ec
        exact rs pins w σ H _ _ u v Q I rx ry ⟨a, z, rfl, rfl, k.val R (.bl _)⟩
      · cases eb
    · cases eb
  · split at eb
    · rename_i kvs _ d
      split at eb
      · rename_i kk ek
        cases eb
        obtain ⟨a, ks, rfl, hd, hk⟩ := hy
        have ex := key_is hx.1 ek
        subst ex
        cases ry
        exact rd pins σ H w a _ (valV ks kk) u _ _ I (DGet.k hd) rx (fin (kv_some kk hk))
      · cases eb
    · cases eb
  · cases eb
theorem o_in (hu : X.A.units + 64 < cLine) : Op2 X B (compareOp .In) (op2 inV) := by
  have h := in_core (X := X) (B := B) (op := .In) (neg := false) hu (fun w c x xs d as bs Q E r1 r2 h1 h2 h3 q => PySem.SeqAt.in_list_data r1 r2 h1 h2 h3 (by simpa using q)) (fun w c x xs d as bs Q E r1 r2 h1 h2 h3 q => PySem.SeqAt.in_tuple_data r1 r2 h1 h2 h3 (by simpa using q))
    (fun pins s σ H x y v u Q I rx ry ⟨c, z, e1, e2, q⟩ => op_in_sign pins s σ H x y v u Q I rx ry ⟨c, z, e1, e2, by simpa using q⟩) (fun pins σ H w a y o u Q E I g r q => d_in (by omega) I g r fun s' I' => by simpa using q s' I')
  have e : (fun wx wy => (inD wx wy).map fun b => (.val (.bool (false ^^ b)) : Op)) = inV := by funext wx wy; simp [inV]
  rw [e] at h
  exact h
theorem o_nin (hu : X.A.units + 64 < cLine) : Op2 X B (compareOp .NotIn) (op2 ninV) := by
  have h := in_core (X := X) (B := B) (op := .NotIn) (neg := true) hu (fun w c x xs d as bs Q E r1 r2 h1 h2 h3 q => PySem.SeqAt.notIn_list_data r1 r2 h1 h2 h3 (by simpa using q)) (fun w c x xs d as bs Q E r1 r2 h1 h2 h3 q => PySem.SeqAt.notIn_tuple_data r1 r2 h1 h2 h3 (by simpa using q))
    (fun pins s σ H x y v u Q I rx ry ⟨c, z, e1, e2, q⟩ => op_notIn_sign pins s σ H x y v u Q I rx ry ⟨c, z, e1, e2, by simpa using q⟩) (fun pins σ H w a y o u Q E I g r q => d_notIn (by omega) I g r fun s' I' => by simpa using q s' I')
  have e : (fun wx wy => (inD wx wy).map fun b => (.val (.bool (true ^^ b)) : Op)) = ninV := by funext wx wy; simp [ninV]
  rw [e] at h
  exact h
end
/-- x is None, x is True, x is False -/
def isNW : Vw → Bool
  | .dat .none => true
  | _ => false
def isBW (b : Bool) : Vw → Bool
  | .dat (.bool c) => c == b
  | _ => false
def isD (wx wy : Vw) : Option Bool := match wy with
  | .dat .none => some (isNW wx)
  | .dat (.bool b) => some (isBW b wx)
  | _ => none
def isV (wx wy : Vw) : Option Op := (isD wx wy).map fun b => .val (.bool b)
def isnV (wx wy : Vw) : Option Op := (isD wx wy).map fun b => .val (.bool (!b))
theorem is_bool_gen {M : Model} {A : Around} {E : Value → Shared → Prop} {s : Shared} {Q : Value → Shared → Prop} {v : Value} {b : Bool} {x : V} (r : RelV x v) (h : Q (.bool (v == .bool b)) s) : wpAny M A (compareOp .Is v (.bool b)) Q E s := by
  cases x <;> first | (cases r; exact wpAny_pure h) | (obtain ⟨t, rfl⟩ := r; exact wpAny_pure h)
theorem isnot_bool_gen {M : Model} {A : Around} {E : Value → Shared → Prop} {s : Shared} {Q : Value → Shared → Prop} {v : Value} {b : Bool} {x : V} (r : RelV x v) (h : Q (.bool (!(v == .bool b))) s) : wpAny M A (compareOp .IsNot v (.bool b)) Q E s := by
  cases x <;> first | (cases r; exact wpAny_pure h) | (obtain ⟨t, rfl⟩ := r; exact wpAny_pure h)
theorem is_non_of {K : PySem.W.Frag} {F H : Hp} {x : V} {wx : Vw} {u : Value} (h : VOk K F H x wx) (r : RelV x u) : (u == Value.none) = isNW wx := by
  cases wx with
  | obj c =>
    cases c with
    | lst xs => obtain ⟨a, vs, rfl, _⟩ := h; cases r; rfl
    | dct xs => obtain ⟨a, vs, rfl, _⟩ := h; cases r; rfl
  | dat d =>
    obtain ⟨hd, _⟩ := h
    cases hd with
    | non => cases r; rfl
    | bl b => cases r; rfl
    | int i => obtain ⟨t, rfl⟩ := r; rfl
    | str i => obtain ⟨t, rfl⟩ := r; rfl
    | lst _ _ => cases r; rfl
    | tup _ _ => cases r; rfl
theorem is_bl_of {K : PySem.W.Frag} {F H : Hp} {x : V} {wx : Vw} {u : Value} {b : Bool} (h : VOk K F H x wx) (r : RelV x u) : (u == Value.bool b) = isBW b wx := by
  cases wx with
  | obj c =>
    cases c with
    | lst xs => obtain ⟨a, vs, rfl, _⟩ := h; cases r; rfl
    | dct xs => obtain ⟨a, vs, rfl, _⟩ := h; cases r; rfl
  | dat d =>
    obtain ⟨hd, _⟩ := h
    cases hd with
    | non => cases r; rfl
    | bl c => cases r; cases b <;> cases c <;> rfl
    | int i => obtain ⟨t, rfl⟩ := r; rfl
    | str i => obtain ⟨t, rfl⟩ := r; rfl
    | lst _ _ => cases r; rfl
    | tup _ _ => cases r; rfl
section
variable {X : Cx} {B : Bd}
theorem o_is : Op2 X B (compareOp .Is) (op2 isV) := by
  refine op2_ok fun wx wy o e F γ s σ H R x y hx hy Q k pins w u v I rx ry => ?_
  obtain ⟨b, eb, rfl⟩ := Option.map_eq_some_iff.mp e
  clear e
  unfold isD at eb
  split at eb
  · cases eb
    obtain rfl := hy.1.non_
    cases ry
    exact is_none_gen ⟨.bl _, H, I, by rw [is_non_of hx rx]; rfl, k.val R (.bl _)⟩
  · cases eb
    obtain rfl := hy.1.bl_
    cases ry
    exact is_bool_gen rx ⟨.bl _, H, I, by rw [is_bl_of hx rx]; rfl, k.val R (.bl _)⟩
  · cases eb
theorem o_isn : Op2 X B (compareOp .IsNot) (op2 isnV) := by
  refine op2_ok fun wx wy o e F γ s σ H R x y hx hy Q k pins w u v I rx ry => ?_
  obtain ⟨b, eb, rfl⟩ := Option.map_eq_some_iff.mp e
  clear e
  unfold isD at eb
  split at eb
  · cases eb
    obtain rfl := hy.1.non_
    cases ry
    exact isnot_none_gen ⟨.bl _, H, I, by rw [is_non_of hx rx]; rfl, k.val R (.bl _)⟩
  · cases eb
    obtain rfl := hy.1.bl_
    cases ry
    exact isnot_bool_gen rx ⟨.bl _, H, I, by rw [is_bl_of hx rx]; rfl, k.val R (.bl _)⟩
  · cases eb
end

/-! ### tests -/
/-- a comparison's answer -/
def toBl (o : Op) : M Bool := fun s => match o with
  | .val (.bool b) => .ok b s
  | _ => .bad
/-- truth -/
def truV : Vw → Option Bool
  | .dat .none => some false
  | .dat (.bool b) => some b
  | .dat (.int i) => some (i != 0)
  | .dat (.str x) => if x.length ≤ sizeLine then some ((x.length : Int) != 0) else none
  | .dat (.tuple xs) => some (!xs.isEmpty)
  | .obj (.lst xs) => some (!xs.isEmpty)
  | .obj (.dct xs) => some (!xs.isEmpty)
  | _ => none
def tru (o : Op) : M Bool := fun s => match view o s with
  | .ok w _ => (match truV w with
    | some b => .ok b s
    | none => .bad)
  | _ => .bad
section
variable {X : Cx} {B : Bd} {a b c : Expr} {fa fb : M Op} {ta tb : M Bool} {pos : Pos} {rest : List Expr}
theorem empty_all {K : PySem.W.Frag} {F : Hp} {vs : List V} {xs : List D} (h : DqAll K F vs xs) : vs.isEmpty = xs.isEmpty := by cases h <;> rfl
theorem empty_kv {K : PySem.W.Frag} {F : Hp} {vs : List (Key × V)} {xs : List (Key × D)} (h : dpc_kv K F vs xs) : vs.isEmpty = xs.isEmpty := by cases h <;> rfl
theorem truV_ok {F H : Hp} {x : V} {wx : Vw} {b : Bool} (fh : Le F H) (h : VOk X.K F H x wx) (e : truV wx = some b) : TruV X.K x H b := by
  cases wx with
  | obj c =>
    cases c with
    | lst xs => obtain ⟨a, vs, rfl, h1, h2⟩ := h; cases e; exact .inl ⟨vs, .inl h1, by rw [empty_all h2]⟩
    | dct xs => obtain ⟨a, vs, rfl, h1, h2⟩ := h; cases e; exact .inr (.inr ⟨vs, h1, by rw [empty_kv h2]⟩)
  | dat d =>
    obtain ⟨hd, hn⟩ := h
    cases hd with
    | non => cases e; rfl
    | bl c => cases e; rfl
    | int i => cases e; rfl
    | str x =>
      unfold truV at e
      dsimp only at e
      split at e
      · cases e; rename_i z; exact ⟨z, rfl⟩
      · cases e
    | lst _ _ => cases e
    | tup h1 h2 => cases e; exact .inr (.inl ⟨_, fh.st h1, by rw [empty_all h2]⟩)
theorem dt_val (ha : DE X B a fa) (he : ∀ whole, isTrue a X.env whole = (do let v ← whole; standAt a.pos; holding [v] (truthy v)) := by intro _; rfl) : DT X B a (fa >>= tru) := by
  refine ⟨fun F γ s σ H R Q g => ?_⟩
  refine wT_of (pt_truth pe_w he) ?_
  refine ha.run F γ s σ H R _ (g.then fun o s1 F1 H1 _ st1 R1 g1 v hv _ => ?_)
  unfold tru at g1
  cases e1 : view o s1 with
  | ok w s2 =>
    cases e2 : truV w with
    | some k =>
      rw [e1] at g1
      dsimp only at g1
      rw [e2] at g1
      exact ⟨k, truV_ok R1.fh (view_ok R1 hv e1) e2, g1.ok0 R1 st1⟩
    | none =>
      rw [e1] at g1
      dsimp only at g1
      rw [e2] at g1
      exact g1.no
  | ex x s2 => rw [e1] at g1; exact g1.no
  | bad => rw [e1] at g1; exact g1.no
/-- a comparison whose answer is a bool -/
theorem dt_cmp {op : CmpOp} {f : Op → Op → M Op} (ho : Op2 X B (compareOp op) f) (ha : DE X B a fa) (hb : DE X B b fb) (hm : behindInMarks op b = false) : DT X B (.Compare a [op] [b] pos) (bin f fa fb >>= toBl) := by
  refine ⟨fun F γ s σ H R Q g pins w I => ?_⟩
  have key : ∀ (P : Value → Shared → Prop), (∀ c w3, EP X pins σ (fun x H' => ∃ k, x = .bl k ∧ Q k H') c w3 → P c w3) →
      wpAny (model X.prog X.w) X.A (eval a X.env) (fun v s₁ => wpAny (model X.prog X.w) X.A (eval b X.env) (fun u s₂ => wpAny (model X.prog X.w) X.A (compareOp op v u) P X.xe s₂) X.xe s₁) X.xe w := by
    intro P hP
    have g' : Good X B F γ s σ H (bin f fa fb s) (fun o s1 F1 H1 => ∀ v, OpOk X.K B F1 γ s1 σ H1 v o → NewIn H v o → ∃ k, v = .bl k ∧ Q k H1) := g.then fun o s1 F1 H1 e0 st1 R1 g1 v hv hn => by
      unfold toBl at g1
      split at g1
      · rename_i k
        have hv' : Dq X.K F1 v (.bool k) := hv
        exact ⟨k, hv'.bl_, g1.ok0 R1 st1⟩
      · exact g1.no
    refine binT pe_w pe_w I (two ha hb R g' (T := fun x y H2 => ∃ F2 s2 ox oy, Rel X.K B F2 γ s2 σ H2 ∧ OpOk X.K B F2 γ s2 σ H2 x ox ∧ OpOk X.K B F2 γ s2 σ H2 y oy ∧ Good X B F2 γ s2 σ H2 (f ox oy s2) (fun o s' F' H' => ∀ v, OpOk X.K B F' γ s' σ H' v o → NewIn H2 v o → ∃ k, v = .bl k ∧ Q k H'))
      fun x y ox oy s2 F2 H2 R2 h1 h2 g2 => ⟨F2, s2, ox, oy, R2, h1, h2, g2⟩) fun v u w2 x y H2 I2 rx ry ⟨F2, s2, ox, oy, R2, h1, h2, g2⟩ => thn (ho.run F2 γ s2 σ H2 R2 x y ox oy h1 h2 _ g2 pins w2 v u I2 rx ry) fun c w3 h3 => hP c w3 h3
  refine wpAny_isTrue_Compare1 (key _ fun c w3 h3 => ?_) hm
  obtain ⟨x, H3, I3, r3, k, e, q⟩ := h3
  subst e
  cases r3
  exact wpAny_truthy_bool ⟨H3, I3, q⟩
def andM (ta tb : M Bool) : M Bool := do
  let c ← ta
  if c then tb else pure false
def orM (ta tb : M Bool) : M Bool := do
  let c ← ta
  if c then pure true else tb
def notM (ta : M Bool) : M Bool := do
  let c ← ta
  pure (!c)
theorem dw_and1 (ha : DT X B a ta) : DW X B (.BoolOp .And [a] pos) ta := ⟨fun F γ s σ H R Q g => wW_of (pw_and1 pt_w) (ha.run F γ s σ H R Q g)⟩
theorem dw_or1 (ha : DT X B a ta) : DW X B (.BoolOp .Or [a] pos) ta := ⟨fun F γ s σ H R Q g => wW_of (pw_or1 pt_w) (ha.run F γ s σ H R Q g)⟩
theorem dw_and (ha : DT X B a ta) (hb : DW X B (.BoolOp .And (b :: rest) pos) tb) : DW X B (.BoolOp .And (a :: b :: rest) pos) (andM ta tb) := by
  refine ⟨fun F γ s σ H R Q g => ?_⟩
  refine wW_of (pw_and pt_w pw_w) ?_
  refine ha.run F γ s σ H R _ (g.then fun c s1 F1 H1 _ st1 R1 g1 => ?_)
  cases c with
  | true => exact hb.run F1 γ s1 σ H1 R1 Q (g1.imp fun _ _ _ _ _ st2 _ q => q (st1.trans st2))
  | false => exact Good.ok0 (b := false) R1 g1 st1
theorem dw_or (ha : DT X B a ta) (hb : DW X B (.BoolOp .Or (b :: rest) pos) tb) : DW X B (.BoolOp .Or (a :: b :: rest) pos) (orM ta tb) := by
  refine ⟨fun F γ s σ H R Q g => ?_⟩
  refine wW_of (pw_or pt_w pw_w) ?_
  refine ha.run F γ s σ H R _ (g.then fun c s1 F1 H1 _ st1 R1 g1 => ?_)
  cases c with
  | false => exact hb.run F1 γ s1 σ H1 R1 Q (g1.imp fun _ _ _ _ _ st2 _ q => q (st1.trans st2))
  | true => exact Good.ok0 (b := true) R1 g1 st1
theorem dt_bool {op : BoolOp} {es : List Expr} (h : DW X B (.BoolOp op es pos) ta) : DT X B (.BoolOp op es pos) ta := ⟨fun F γ s σ H R Q g => wT_of pw_w.pt (h.run F γ s σ H R Q g)⟩
theorem dt_not (ha : DT X B a ta) : DT X B (.UnaryOp .Not a pos) (notM ta) := by
  refine ⟨fun F γ s σ H R Q g => ?_⟩
  refine wT_of (pt_not pt_w) ?_
  exact ha.run F γ s σ H R _ (g.then fun c s1 F1 H1 _ st1 R1 g1 => Good.ok0 R1 g1 st1)
/-! ### .. as values -/
def andE (fa fb : M Op) : M Op := do
  let c ← (fa >>= toBl)
  if c then fb else pure (.val (.bool false))
def orE (fa fb : M Op) : M Op := do
  let c ← (fa >>= toBl)
  if c then pure (.val (.bool true)) else fb
def notE (fa : M Op) : M Op := do
  let c ← (fa >>= toBl)
  pure (.val (.bool (!c)))
theorem toBl_then {K : Bool → Sg → Hp → Hp → Prop} {F H : Hp} {γ : Option Addr} {s : Sg} {σ : St} (ha : DE X B a fa) (R : Rel X.K B F γ s σ H) {T : V → Hp → Prop} (g : Good X B F γ s σ H ((fa >>= toBl) s) K)
    (h : ∀ c s1 F1 H1, Stp F γ s σ H F1 s1 H1 → Rel X.K B F1 γ s1 σ H1 → K c s1 F1 H1 → T (.bl c) H1) : wE X a σ H T := by
  refine ha.run F γ s σ H R _ (g.then fun o s1 F1 H1 e0 st1 R1 g1 v hv hn => ?_)
  unfold toBl at g1
  split at g1
  · rename_i k
    have hv' : Dq X.K F1 v (.bool k) := hv
    obtain rfl := hv'.bl_
    exact h k s1 F1 H1 st1 R1 (g1.ok0 R1 st1)
  · exact g1.no
theorem de_one {op : BoolOp} (ha : DE X B a fa) : DE X B (.BoolOp op [a] pos) fa := ⟨fun F γ s σ H R Q g => wE_of (pe_one pe_w) (ha.run F γ s σ H R Q g)⟩
theorem de_and (ha : DE X B a fa) (hb : DE X B (.BoolOp .And (b :: rest) pos) fb) : DE X B (.BoolOp .And (a :: b :: rest) pos) (andE fa fb) := by
  refine ⟨fun F γ s σ H R Q g => ?_⟩
  refine wE_of (pe_and pe_w pe_w) ?_
  refine toBl_then ha R g.bind fun c s1 F1 H1 st1 R1 g1 => ⟨c, rfl, ?_⟩
  cases c with
  | true => exact hb.run F1 γ s1 σ H1 R1 Q (g1.imp fun _ _ _ _ _ st2 _ q v h1 h2 => q (st1.trans st2) v h1 (h2.back st1))
  | false => exact Good.ok0 (b := (.val (.bool false) : Op)) R1 g1 st1 _ (.bl false) trivial
theorem de_or (ha : DE X B a fa) (hb : DE X B (.BoolOp .Or (b :: rest) pos) fb) : DE X B (.BoolOp .Or (a :: b :: rest) pos) (orE fa fb) := by
  refine ⟨fun F γ s σ H R Q g => ?_⟩
  refine wE_of (pe_or pe_w pe_w) ?_
  refine toBl_then ha R g.bind fun c s1 F1 H1 st1 R1 g1 => ⟨c, rfl, ?_⟩
  cases c with
  | false => exact hb.run F1 γ s1 σ H1 R1 Q (g1.imp fun _ _ _ _ _ st2 _ q v h1 h2 => q (st1.trans st2) v h1 (h2.back st1))
  | true => exact Good.ok0 (b := (.val (.bool true) : Op)) R1 g1 st1 _ (.bl true) trivial
theorem de_not (ha : DE X B a fa) : DE X B (.UnaryOp .Not a pos) (notE fa) := by
  refine ⟨fun F γ s σ H R Q g => ?_⟩
  refine wE_of (pe_not pe_w) ?_
  exact toBl_then ha R g.bind fun c s1 F1 H1 st1 R1 g1 => ⟨c, rfl, Good.ok0 (b := (.val (.bool (!c)) : Op)) R1 g1 st1 _ (.bl _) trivial⟩
theorem de_ifExp (hc : DT X B c ta) (ha : DE X B a fa) (hb : DE X B b fb) : DE X B (.IfExp c a b pos) (do let k ← ta; if k then fa else fb) := by
  refine ⟨fun F γ s σ H R Q g => ?_⟩
  refine wE_of (pe_ifExp pt_w pe_w pe_w) ?_
  refine hc.run F γ s σ H R _ (g.then fun k s1 F1 H1 _ st1 R1 g1 => ?_)
  cases k with
  | true => exact ha.run F1 γ s1 σ H1 R1 Q (Good.imp (r := fa s1) g1 fun _ _ _ _ _ st2 _ q v h1 h2 => q (st1.trans st2) v h1 (h2.back st1))
  | false => exact hb.run F1 γ s1 σ H1 R1 Q (Good.imp (r := fb s1) g1 fun _ _ _ _ _ st2 _ q v h1 h2 => q (st1.trans st2) v h1 (h2.back st1))
end
end PD
end

section
set_option Elab.async false
set_option linter.all false
set_option maxRecDepth 100000
set_option maxHeartbeats 4000000
set_option autoImplicit false
namespace PD
open PySem PySem.Spec L2
open PyProof.Rows hiding St

/-! ### freezing -/
def frz (o : Op) : M D := fun s => match o with
  | .val d => .ok d s
  | .new (.lst xs) => .ok (.list xs) s
  | .slot i => match s.ρ[i]? with
    | some (.own false (.lst xs)) => .ok (.list xs) { s with ρ := s.ρ.set i (.val (.list xs)) }
    | some (.val d) => .ok d s
    | _ => .bad
  | _ => .bad
def frzAll : List Op → M (List D)
  | [] => pure []
  | o :: os => do
    let d ← frz o
    let ds ← frzAll os
    pure (d :: ds)
/-- a value that may have been frozen on the way -/
def OpW (K : PySem.W.Frag) (B : Bd) (F : Hp) (γ : Option Addr) (s : Sg) (σ : St) (H H₀ : Hp) (v : V) : Op → Prop
  | .new c => ∃ p o, v = .ref p ∧ H p = some o ∧ COk K F o c ∧ (F p = none ∨ F p = some o) ∧ B.H0 p = none ∧ some p ≠ γ ∧ H₀ p = none ∧ ∀ (i : Nat) (sl : Slt), s.ρ[i]? = some sl → sl.isObj = true → σ[i]? ≠ some (some (.ref p))
  | o => OpOk K B F γ s σ H v o
section
variable {K : PySem.W.Frag} {B : Bd} {F H H₀ : Hp} {γ : Option Addr} {s : Sg} {σ : St}
theorem OpW.of {v : V} {o : Op} (h : OpOk K B F γ s σ H v o) (n : NewIn H₀ v o) : OpW K B F γ s σ H H₀ v o := by
  cases o with
  | new c =>
    obtain ⟨p, o, rfl, a, b, c, d, e, f⟩ := h
    exact ⟨p, o, rfl, a, b, .inl c, d, e, n p rfl, f⟩
  | val d => exact h
  | slot i => exact h
  | glob => exact h
/-- freezing the object at p -/
theorem rel_frz (R : Rel K B F γ s σ H) {p : Addr} {vs : List V} {xs : List D} (hp : H p = some (.lst vs)) (ck : DqAll K F vs xs) (h0 : B.H0 p = none) (hg : some p ≠ γ) (hs : ∀ (i : Nat) (sl : Slt), s.ρ[i]? = some sl → (∃ lk c, sl = .own lk c) → σ[i]? ≠ some (some (.ref p))) (fp : F p = none) :
    Rel K B (upd F p (.lst vs)) γ s σ H ∧ Le F (upd F p (.lst vs)) := by
  have fm : Le F (upd F p (.lst vs)) := le_upd fp
  refine ⟨⟨fun a u e => ?_, R.f0.trans fm, fun a u e => ?_, R.keep, R.dom, R.len, fun i sl e => ?_, R.dist, ?_⟩, fm⟩
  · by_cases h : a = p
    · subst h; rw [upd_same] at e; cases e; exact hp
    · rw [upd_ne h] at e; exact R.fh a u e
  · by_cases h : a = p
    · subst h; exact .inr h0
    · rw [upd_ne h] at e; exact R.fn a u e
  · have so := R.slot i sl e
    cases sl with
    | no => trivial
    | val d =>
      obtain ⟨u, ev, hd⟩ := so
      exact ⟨u, ev, hd.mono fm⟩
    | own lk c =>
      obtain ⟨q, o, ev, hq, ck', fq, h0q, ng⟩ := so
      have ne : q ≠ p := fun z => hs i _ e ⟨lk, c, rfl⟩ (by rw [ev, z])
      exact ⟨q, o, ev, hq, ck'.mono fm, by rw [upd_ne ne]; exact fq, h0q, ng⟩
    | bor c =>
      obtain ⟨q, o, ev, hq, ck', h0q, ng⟩ := so
      exact ⟨q, o, ev, hq, ck'.mono fm, h0q, ng⟩
    | exc => exact so
    | glob => exact so
  · have gl := R.gl
    cases eg : s.g with
    | none =>
      rw [eg] at gl
      cases γ with
      | none => exact gl
      | some a => exact gl.elim
    | some ys =>
      rw [eg] at gl
      cases γ with
      | none => exact gl.elim
      | some a =>
        obtain ⟨ws, hw, hd, fa, z⟩ := gl
        exact ⟨ws, hw, hd.mono fm, by rw [upd_ne (fun z => hg (by rw [z]))]; exact fa, z⟩
/-- one more slot is told as a value -/
theorem rel_slotval {i : Nat} {d : D} {v : V} (R : Rel K B F γ s σ H) (e : σ[i]? = some (some v)) (hd : Dq K F v d) : Rel K B F γ { s with ρ := s.ρ.set i (.val d) } σ H := by
  refine ⟨R.fh, R.f0, R.fn, R.keep, R.dom, by show (s.ρ.set i _).length = _; rw [List.length_set]; exact R.len, fun j sl ej => ?_, fun j k lk c sl ej ek ho hv => ?_, R.gl⟩
  · have ej : (s.ρ.set i (Slt.val d))[j]? = some sl := ej
    rw [List.getElem?_set] at ej
    by_cases hij : i = j
    · subst hij
      rw [if_pos rfl] at ej
      split at ej
      · cases ej
        exact ⟨v, e, hd⟩
      · cases ej
    · rw [if_neg hij] at ej
      exact R.slot j sl ej
  · have ej : (s.ρ.set i (Slt.val d))[j]? = some (.own lk c) := ej
    have ek : (s.ρ.set i (Slt.val d))[k]? = some sl := ek
    rw [List.getElem?_set] at ej ek
    split at ej
    · split at ej <;> cases ej
    · split at ek
      · split at ek
        · cases ek; cases ho
        · cases ek
      · exact R.dist j k lk c sl ej ek ho hv
theorem kd_slotval {i : Nat} {d : D} {c : Cn} (e : s.ρ[i]? = some (.own false c)) : ∀ j : Nat, (s.ρ.set i (Slt.val d))[j]? = s.ρ[j]? ∨ ∃ c : Cn, s.ρ[j]? = some (.own false c) ∧ ((∃ c' : Cn, (s.ρ.set i (Slt.val d))[j]? = some (.own false c')) ∨ ∃ d' : D, (s.ρ.set i (Slt.val d))[j]? = some (.val d')) := fun j => by
  by_cases h : i = j
  · subst h
    have hl : i < s.ρ.length := (List.getElem?_eq_some_iff.mp e).1
    exact .inr ⟨c, e, .inr ⟨d, by rw [List.getElem?_set_self hl]⟩⟩
  · exact .inl (List.getElem?_set_ne h)
/-- freezing one value: all the others stay -/
theorem frz_ok {F₀ : Hp} {s₀ : Sg} (R : Rel K B F γ s σ H) (st : Stp F₀ γ s₀ σ H₀ F s H) {v : V} {o : Op} (h : OpW K B F γ s σ H H₀ v o) {d : D} {s' : Sg} (e : frz o s = .ok d s') :
    ∃ F', Le F F' ∧ Rel K B F' γ s' σ H ∧ Dq K F' v d ∧ Stp F₀ γ s₀ σ H₀ F' s' H ∧ ∀ w o', OpW K B F γ s σ H H₀ w o' → OpW K B F' γ s' σ H H₀ w o' := by
  cases o with
  | val d' =>
    cases e
    exact ⟨F, Le.refl F, R, h, st, fun _ _ x => x⟩
  | glob => cases e
  | new c =>
    cases c with
    | dct _ => cases e
    | lst xs =>
      cases e
      obtain ⟨p, o, rfl, hp, ck, fp, h0, hg, hn, hs⟩ := h
      cases ck with
      | lst ck =>
        rcases fp with fp | fp
        · obtain ⟨R', fm⟩ := rel_frz R hp ck h0 hg (fun i sl e1 ⟨lk, c, e2⟩ => hs i sl e1 (by rw [e2]; rfl)) fp
          refine ⟨_, fm, R', .lst (.of upd_same) (ck.mono fm), ⟨st.fm.trans fm, fun a u e => ?_, st.hk, st.dm, st.kd⟩, fun w o' x => ?_⟩
          · by_cases hap : a = p
            · subst hap; exact .inr (.inl hn)
            · rw [upd_ne hap] at e; exact st.fn a u e
          · cases o' with
            | val d' => exact Dq.mono fm x
            | slot i => exact x
            | glob => exact x
            | new c' =>
              obtain ⟨q, o2, rfl, hq, ck2, fq, r⟩ := x
              refine ⟨q, o2, rfl, hq, ck2.mono fm, ?_, r⟩
              by_cases hqp : q = p
              · subst hqp
                rw [hp] at hq
                cases hq
                exact .inr upd_same
              · rw [upd_ne hqp]; exact fq
        · exact ⟨F, Le.refl F, R, .lst (.of fp) ck, st, fun _ _ x => x⟩
  | slot i =>
    obtain ⟨ev, sl, e1, _⟩ := h
    unfold frz at e
    dsimp only at e
    rw [e1] at e
    have so := R.slot i sl e1
    cases sl with
    | no => cases e
    | exc => cases e
    | glob => cases e
    | bor c => cases e
    | val d' =>
      cases e
      obtain ⟨u, eu, hd⟩ := so
      rw [ev] at eu
      cases eu
      exact ⟨F, Le.refl F, R, hd, st, fun _ _ x => x⟩
    | own lk c =>
      cases c with
      | dct _ => cases lk <;> cases e
      | lst xs =>
        cases lk with
        | true => cases e
        | false =>
          cases e
          obtain ⟨p, o, eu, hp, ck, fp, h0, hg⟩ := so
          rw [ev] at eu
          cases eu
          cases ck with
          | @lst vs _ ck =>
            -- the slot first becomes a value, then p is frozen
            have fm : Le F (upd F p (.lst vs)) := le_upd fp
            have notp : ∀ (j : Nat) (sl : Slt), s.ρ[j]? = some sl → sl.isObj = true → σ[j]? = some (some (.ref p)) → i = j := fun j sl ej ho hv => R.dist i j false _ sl e1 ej ho (by rw [ev, hv])
            -- R with slot i emptied
            have R0 : Rel K B F γ { s with ρ := s.ρ.set i .no } σ H := by
              refine ⟨R.fh, R.f0, R.fn, R.keep, R.dom, by show (s.ρ.set i _).length = _; rw [List.length_set]; exact R.len, fun j sl ej => ?_, fun j k lk c sl ej ek ho hv => ?_, R.gl⟩
              · have ej : (s.ρ.set i Slt.no)[j]? = some sl := ej
                rw [List.getElem?_set] at ej
                split at ej
                · split at ej
                  · cases ej; trivial
                  · cases ej
                · exact R.slot j sl ej
              · have ej : (s.ρ.set i Slt.no)[j]? = some (.own lk c) := ej
                have ek : (s.ρ.set i Slt.no)[k]? = some sl := ek
                rw [List.getElem?_set] at ej ek
                split at ej
                · split at ej <;> cases ej
                · split at ek
                  · split at ek
                    · cases ek; cases ho
                    · cases ek
                  · exact R.dist j k lk c sl ej ek ho hv
            obtain ⟨R1, _⟩ := rel_frz R0 hp ck h0 hg (fun j sl ej ⟨lk, c, es⟩ hv => by
              have ej : (s.ρ.set i Slt.no)[j]? = some sl := ej
              rw [List.getElem?_set] at ej
              split at ej
              · split at ej
                · cases ej; cases es
                · cases ej
              · rename_i hij
                exact hij (notp j sl ej (by rw [es]; rfl) hv)) fp
            have dq : Dq K (upd F p (.lst vs)) (.ref p) (.list xs) := .lst (.of upd_same) (ck.mono fm)
            have R2 := rel_slotval (i := i) R1 ev dq
            have er : ((s.ρ.set i Slt.no).set i (Slt.val (.list xs))) = s.ρ.set i (Slt.val (.list xs)) := List.set_set ..
            have R3 : Rel K B (upd F p (.lst vs)) γ { s with ρ := s.ρ.set i (.val (.list xs)) } σ H := by
              have : ({ s with ρ := (s.ρ.set i Slt.no).set i (Slt.val (.list xs)) } : Sg) = { s with ρ := s.ρ.set i (.val (.list xs)) } := by rw [er]
              rw [← this]
              exact R2
            have mb : Mutb s σ p := ⟨i, _, e1, ev⟩
            have st2 : Stp F γ s σ H (upd F p (.lst vs)) { s with ρ := s.ρ.set i (.val (.list xs)) } H := by
              refine ⟨fm, fun a u e => ?_, fun a u h _ _ => h, fun a u h => ⟨u, h⟩, kd_slotval e1⟩
              by_cases hap : a = p
              · subst hap; exact .inr (.inr mb)
              · rw [upd_ne hap] at e; exact .inl e
            refine ⟨_, fm, R3, dq, st.trans st2, fun w o' x => ?_⟩
            cases o' with
            | val d' => exact Dq.mono fm x
            | glob => exact x
            | slot j =>
              obtain ⟨w1, sl, w2, w3⟩ := x
              refine ⟨w1, ?_⟩
              by_cases hij : i = j
              · subst hij
                have hl : i < s.ρ.length := (List.getElem?_eq_some_iff.mp e1).1
                exact ⟨_, List.getElem?_set_self hl, .inr ⟨_, rfl⟩⟩
              · exact ⟨sl, (List.getElem?_set_ne hij).trans w2, w3⟩
            | new c' =>
              obtain ⟨q, o2, rfl, hq, ck2, fq, b1, b2, b3, b4⟩ := x
              have hqp : q ≠ p := fun z => by subst z; exact b4 i _ e1 rfl ev
              refine ⟨q, o2, rfl, hq, ck2.mono fm, by rw [upd_ne hqp]; exact fq, b1, b2, b3, fun j sl ej ho => ?_⟩
              have ej : (s.ρ.set i (Slt.val (.list xs)))[j]? = some sl := ej
              rw [List.getElem?_set] at ej
              split at ej
              · split at ej
                · cases ej; cases ho
                · cases ej
              · exact b4 j sl ej ho
theorem bind_ok {α β : Type} {m : M α} {k : α → M β} {s s' : Sg} {b : β} (e : (m >>= k) s = .ok b s') : ∃ a s1, m s = .ok a s1 ∧ k a s1 = .ok b s' := by
  have e : (match m s with | .ok a s' => k a s' | .ex x s' => .ex x s' | .bad => .bad) = Out.ok b s' := e
  cases q : m s with
  | ok a s1 => rw [q] at e; exact ⟨a, s1, rfl, e⟩
  | ex x s1 => rw [q] at e; cases e
  | bad => rw [q] at e; cases e
theorem frzAll_ok {F₀ : Hp} {s₀ : Sg} : ∀ {os : List Op} {vs : List V} {F : Hp} {s s' : Sg} {ds : List D}, Rel K B F γ s σ H → Stp F₀ γ s₀ σ H₀ F s H → Paired (OpW K B F γ s σ H H₀) vs os → frzAll os s = .ok ds s' →
    ∃ F', Le F F' ∧ Rel K B F' γ s' σ H ∧ DqAll K F' vs ds ∧ Stp F₀ γ s₀ σ H₀ F' s' H ∧ ∀ w o', OpW K B F γ s σ H H₀ w o' → OpW K B F' γ s' σ H H₀ w o'
  | [], _, F, s, s', ds, R, st, .nil, e => by
    cases e
    exact ⟨F, Le.refl F, R, .nil, st, fun _ _ x => x⟩
  | o :: os, _, F, s, s', ds, R, st, .cons h t, e => by
    obtain ⟨d, s1, e1, e⟩ := bind_ok e
    obtain ⟨ds', s2, e2, e⟩ := bind_ok e
    cases e
    obtain ⟨F1, f1, R1, hd, st1, k1⟩ := frz_ok R st h e1
    obtain ⟨F2, f2, R2, hds, st2, k2⟩ := frzAll_ok R1 st1 (L2.Paired.mapP t fun _ _ x => k1 _ _ x) e2
    exact ⟨F2, f1.trans f2, R2, .cons (hd.mono f2) hds, st2, fun w o' x => k2 w o' (k1 w o' x)⟩
theorem OpsOk.pw : ∀ {vs : List V} {os : List Op}, OpsOk K B F γ s σ H H₀ vs os → Paired (OpW K B F γ s σ H H₀) vs os
  | _, _, .nil => .nil
  | _, _, .cons h n t => .cons (.of h n) (OpsOk.pw t)
end
theorem frz_noex {o : Op} {s : Sg} : ∀ x s', frz o s ≠ .ex x s' := by
  intro x s' e
  unfold frz at e
  split at e
  · cases e
  · cases e
  · split at e <;> cases e
  · cases e
theorem bind_ex {α β : Type} {m : M α} {k : α → M β} {s s' : Sg} {x : Xn} (e : (m >>= k) s = .ex x s') : m s = .ex x s' ∨ ∃ a s1, m s = .ok a s1 ∧ k a s1 = .ex x s' := by
  have e : M.bind m k s = .ex x s' := e
  unfold M.bind at e
  cases q : m s with
  | ok a s1 => rw [q] at e; exact .inr ⟨a, s1, rfl, e⟩
  | ex y s1 => rw [q] at e; cases e; exact .inl rfl
  | bad => rw [q] at e; cases e
theorem bind_of {α β : Type} {m : M α} {k : α → M β} {s s1 : Sg} {a : α} (e : m s = .ok a s1) : (m >>= k) s = k a s1 := by
  show M.bind m k s = _
  unfold M.bind
  rw [e]
theorem bind_bad {α β : Type} {m : M α} {k : α → M β} {s : Sg} (e : m s = .bad) : (m >>= k) s = .bad := by
  show M.bind m k s = _
  unfold M.bind
  rw [e]
theorem bind_of_ex {α β : Type} {m : M α} {k : α → M β} {s s1 : Sg} {x : Xn} (e : m s = .ex x s1) : (m >>= k) s = .ex x s1 := by
  show M.bind m k s = _
  unfold M.bind
  rw [e]
theorem frzAll_noex : ∀ {os : List Op} {s : Sg} x s', frzAll os s ≠ .ex x s'
  | [], s, x, s', e => by cases e
  | o :: os, s, x, s', e => by
    rcases bind_ex e with e | ⟨d, s1, e1, e⟩
    · exact frz_noex _ _ e
    · rcases bind_ex e with e | ⟨ds, s2, e2, e⟩
      · exact frzAll_noex _ _ e
      · cases e

/-! ### argument lists, displays -/
section
variable {X : Cx} {B : Bd} {e : Expr} {es : List Expr} {f : M Op} {fs : M (List Op)} {pos : Pos}
def consM (f : M Op) (fs : M (List Op)) : M (List Op) := do
  let o ← f
  let os ← fs
  pure (o :: os)
theorem da_nil : DA X B [] (pure []) := ⟨fun F γ s σ H R Q g => wA_of pa_nil (Good.ok0 (b := ([] : List Op)) R g [] .nil)⟩
theorem da_cons (h : DE X B e f) (hr : DA X B es fs) (hs : starEach (e :: es) X.env = (false, eval e X.env) :: starEach es X.env := by rfl) : DA X B (e :: es) (consM f fs) := by
  refine ⟨fun F γ s σ H R Q g => ?_⟩
  refine wA_of (pa_cons pe_w pa_w hs) ?_
  refine h.run F γ s σ H R _ (g.then fun o s1 F1 H1 _ st1 R1 g1 v hv hn => ?_)
  refine hr.run F1 γ s1 σ H1 R1 _ (Good.then (m := fs) (k := fun os => pure (o :: os)) g1 fun os s2 F2 H2 _ st2 R2 g2 vs hvs => ?_)
  exact Good.ok0 (b := o :: os) R2 g2 st2 (st1.trans st2) _ (.cons (hv.stp st2) hn (hvs.back st1))
/-- a value that is the data frozen of some operands -/
def tupM (fs : M (List Op)) : M Op := do
  let os ← fs
  let ds ← frzAll os
  if ds.length ≤ sizeLine then pure (.val (.tuple ds)) else M.bad
def lstM (fs : M (List Op)) : M Op := do
  let os ← fs
  let ds ← frzAll os
  if ds.length ≤ sizeLine then pure (.new (.lst ds)) else M.bad
/-- as Good.then, what follows told from the origin -/
theorem Good.thenO {α β : Type} {F H : Hp} {γ : Option Addr} {s : Sg} {σ : St} {m : M α} {k : α → M β} {K : β → Sg → Hp → Hp → Prop} {P : α → Sg → Hp → Hp → Prop} (g : Good X B F γ s σ H ((m >>= k) s) K)
    (h : ∀ a s1 F1 H1, m s = .ok a s1 → Stp F γ s σ H F1 s1 H1 → Rel X.K B F1 γ s1 σ H1 → Good X B F γ s σ H (k a s1) K → P a s1 F1 H1) : Good X B F γ s σ H (m s) P := by
  cases e : m s with
  | ok a s1 => rw [bind_of e] at g; exact fun F1 H1 st R => h a s1 F1 H1 e st R g
  | ex x s1 => rw [bind_of_ex e] at g; exact g
  | bad => rw [bind_bad e] at g; exact g
theorem de_tup {x1 : Nat} (h : DA X B es fs) : DE X B (.Tuple es x1 pos) (tupM fs) := by
  refine ⟨fun F γ s σ H R Q g => ?_⟩
  refine wE_of (pe_tup pa_w) ?_
  refine h.run F γ s σ H R _ (Good.thenO g fun os s1 F1 H1 _ st1 R1 g1 vs hvs => ?_)
  cases e : frzAll os s1 with
  | ok ds s2 =>
    rw [bind_of e] at g1
    obtain ⟨F2, f2, R2, hds, st2, _⟩ := frzAll_ok R1 st1 hvs.pw e
    split at g1
    · rename_i hz
      refine ⟨by rw [hds.length]; exact hz, fun p np => ?_⟩
      obtain ⟨R3, st3, dq⟩ := rel_tup R2 np hds
      exact g1 _ _ (st2.trans st3) R3 _ dq trivial
    · exact g1.no
  | ex x s2 => exact (frzAll_noex x s2 e).elim
  | bad => rw [bind_bad e] at g1; exact g1.no
theorem de_lst (h : DA X B es fs) : DE X B (.List es pos) (lstM fs) := by
  refine ⟨fun F γ s σ H R Q g => ?_⟩
  refine wE_of (pe_lst pa_w) ?_
  refine h.run F γ s σ H R _ (Good.thenO g fun os s1 F1 H1 _ st1 R1 g1 vs hvs => ?_)
  cases e : frzAll os s1 with
  | ok ds s2 =>
    rw [bind_of e] at g1
    obtain ⟨F2, f2, R2, hds, st2, _⟩ := frzAll_ok R1 st1 hvs.pw e
    split at g1
    · rename_i hz
      refine ⟨by rw [hds.length]; exact hz, fun p np => ?_⟩
      obtain ⟨R3, st3, ok3, n3⟩ := rel_new R2 np (.lst hds)
      exact g1 _ _ (st2.trans st3) R3 _ ok3 (n3.back st2)
    · exact g1.no
  | ex x s2 => exact (frzAll_noex x s2 e).elim
  | bad => rw [bind_bad e] at g1; exact g1.no
end
end PD
end

section
set_option Elab.async false
set_option linter.all false
set_option maxRecDepth 100000
set_option maxHeartbeats 4000000
set_option autoImplicit false
namespace PD
open PySem PySem.Spec L2
open PyProof.Rows hiding St

/-! ### subscripts -/
def ixV (wx wy : Vw) : Option Op := match wx, wy with
  | .obj (.lst xs), .dat (.int i) => (atI xs i).map .val
  | .dat (.tuple xs), .dat (.int i) => (atI xs i).map .val
  | .dat (.str z), .dat (.int i) => if z.length ≤ sizeLine then (atI z.cps.toList i).map fun c => .val (.str ⟨#[c]⟩) else none
  | .obj (.dct kvs), .dat d => (keyOf d).bind fun k => (valD kvs k).map .val
  | _, _ => none
theorem at_all {K : PySem.W.Frag} {F : Hp} {vs : List V} {xs : List D} {i : Int} {d : D} (h : DqAll K F vs xs) (e : atI xs i = some d) : ∃ v, atI vs i = some v ∧ Dq K F v d := by
  unfold atI at e ⊢
  rw [h.length]
  cases q : ixN xs.length i with
  | none => rw [q] at e; cases e
  | some j =>
    rw [q] at e
    obtain ⟨v, e1, hd⟩ := h.get' (show xs[j]? = some d from e)
    exact ⟨v, e1, hd⟩
section
variable {X : Cx} {B : Bd} {a b : Expr} {fa fb : M Op} {pos : Pos}
theorem ix_dict (hu : X.A.units + 1 < cLine) {value slice : Expr} {pins : List (Addr × Obj)} {s : Shared} {σ : St} {H : Hp} {p : Addr} {y v : V} {u : Value} {Q : VK} (I : Inv X pins σ H s) (ry : RelV y u) (g : DGet H p y (some v)) (q : Q v H)
    (hs : subscripted slice false (.ref p) u = operate [.ref p, u] (getItem (.ref p) u)) : wpAny (model X.prog X.w) X.A (subscriptTail value slice (.ref p) u) (EP X pins σ Q) X.xe s :=
  tail_any (dict_typeIs I g) PySem.F.slot_dict_getitem.lookup (d_getItem hu I g ry fun w' s3 I3 rw' => ⟨v, H, I3, rw', q⟩) hs
theorem o_ix (hu : X.A.units + 64 < cLine) (hs : PlainIx b) : Op2 X B (fun u v => subscriptTail a b u v) (op2 ixV) := by
  refine op2_ok fun wx wy o e F γ s σ H R x y hx hy Q k pins w u v I rx ry => ?_
  unfold ixV at e
  split at e
  · obtain ⟨d, em, rfl⟩ := Option.map_eq_some_iff.mp e
    obtain ⟨p, vs, rfl, h1, h2⟩ := hx
    obtain rfl := hy.1.int_
    obtain ⟨z, ez, hz⟩ := at_all h2 em
    exact ix_list a b pins w σ H _ _ u v Q I rx ry ⟨p, vs, _, z, rfl, rfl, .inl h1, ez, k.val R hz⟩ (hs _ _)
  · obtain ⟨d, em, rfl⟩ := Option.map_eq_some_iff.mp e
    obtain ⟨p, vs, rfl, h1, h2⟩ := hx.1.tup_
    obtain rfl := hy.1.int_
    obtain ⟨z, ez, hz⟩ := at_all h2 em
    exact ix_tup a b pins w σ H _ _ u v Q I rx ry ⟨p, vs, _, z, rfl, rfl, R.fh.st h1, ez, k.val R hz⟩ (hs _ _)
  · split at e
    · rename_i hz
      obtain ⟨c, em, rfl⟩ := Option.map_eq_some_iff.mp e
      obtain rfl := hx.1.str_
      obtain rfl := hy.1.int_
      exact ix_str a b pins w σ H _ _ u v Q I rx ry ⟨_, _, c, rfl, rfl, hz, em, k.val R (.str _)⟩ (hs _ _)
    · cases e
  · rename_i kvs _ d
    obtain ⟨kk, e1, eb⟩ := Option.bind_eq_some_iff.mp e
    obtain ⟨z, em, rfl⟩ := Option.map_eq_some_iff.mp eb
    obtain ⟨p, ks, rfl, hd, hk⟩ := hx
    have ex := key_is hy.1 e1
    subst ex
    have q := kv_val kk hk
    rw [em] at q
    cases e2 : valV ks kk with
    | none => rw [e2] at q; exact q.elim
    | some x =>
      rw [e2] at q
      cases rx
      exact ix_dict (by omega) I ry (by rw [← e2]; exact DGet.k hd) (k.val R q) (hs _ _)
  · cases e
theorem de_ix (hu : X.A.units + 64 < cLine) (ha : DE X B a fa) (hb : DE X B b fb) (hs : PlainIx b) : DE X B (.Subscript a b pos) (bin (op2 ixV) fa fb) := by
  refine ⟨fun F γ s σ H R Q g pins w I => ?_⟩
  exact Subscript_ (binT pe_w pe_w I (two ha hb R g (T := fun x y H2 => ∃ F2 s2 ox oy, Rel X.K B F2 γ s2 σ H2 ∧ OpOk X.K B F2 γ s2 σ H2 x ox ∧ OpOk X.K B F2 γ s2 σ H2 y oy ∧ Good X B F2 γ s2 σ H2 (op2 ixV ox oy s2) (fun o s' F' H' => ∀ v, OpOk X.K B F' γ s' σ H' v o → NewIn H2 v o → Q v H'))
    fun x y ox oy s2 F2 H2 R2 h1 h2 g2 => ⟨F2, s2, ox, oy, R2, h1, h2, g2⟩) fun v u w2 x y H2 I2 rx ry ⟨F2, s2, ox, oy, R2, h1, h2, g2⟩ => (o_ix hu hs).run F2 γ s2 σ H2 R2 x y ox oy h1 h2 Q g2 pins w2 v u I2 rx ry)
end
/-! ### slices -/
def cutL {α : Type} (xs : List α) (lo hi : Option Int) : List α := (xs.drop (HT.sIx xs.length 0 lo)).take (HT.sIx xs.length xs.length hi - HT.sIx xs.length 0 lo)
def slV (w : Vw) (lo hi : Option Int) : Option Op := match w with
  | .obj (.lst xs) => some (.new (.lst (cutL xs lo hi)))
  | .dat (.tuple xs) => some (.val (.tuple (cutL xs lo hi)))
  | .dat (.str z) => if z.length ≤ sizeLine then some (.val (.str (cutS z lo hi))) else none
  | _ => none
def slM (lo hi : Option Int) (o : Op) : M Op := op1 (fun w => slV w lo hi) o
def partM (f : M Op) : M (Option Int) := do
  let o ← f
  fun s => match o with
    | .val (.int i) => .ok (some i) s
    | _ => .bad
def wO (X : Cx) (e : Option Expr) : TO := fun σ H Q => ∀ t : TO, PO X e t → t σ H Q
section
variable {X : Cx} {B : Bd} {a : Expr} {fa : M Op} {lo hi : Option Expr} {tl th : TO} {fl fh : M (Option Int)} {pos p2 : Pos}
/-- a part of a slice -/
def DO (X : Cx) (B : Bd) (e : Option Expr) (f : M (Option Int)) : Prop := ∃ t : TO, PO X e t ∧ ∀ F γ s σ H, Rel X.K B F γ s σ H → ∀ Q : Option Int → Hp → Prop, Good X B F γ s σ H (f s) (fun o s' F' H' => Q o H') → t σ H Q
theorem do_none : DO X B none (pure none) := ⟨_, po_none, fun F γ s σ H R Q g => Good.ok0 (b := (none : Option Int)) R g⟩
theorem do_some (ha : DE X B a fa) : DO X B (some a) (partM fa) := by
  refine ⟨_, po_some pe_w, fun F γ s σ H R Q g => ?_⟩
  refine ha.run F γ s σ H R _ (Good.then (m := fa) g fun o s1 F1 H1 e0 st1 R1 g1 v hv hn => ?_)
  split at g1
  · rename_i i
    have hv' : Dq X.K F1 v (.int i) := hv
    exact ⟨i, hv'.int_, g1.ok0 R1 st1⟩
  · exact g1.no
theorem cut_all {K : PySem.W.Frag} {F : Hp} {vs : List V} {xs : List D} (h : DqAll K F vs xs) (lo hi : Option Int) : DqAll K F (cutV vs lo hi) (cutL xs lo hi) := by
  unfold cutV cutL
  rw [h.length]
  exact (h.drop _).take _
def sliceM (fa : M Op) (fl fh : M (Option Int)) : M Op := do
  let x ← fa
  let l ← fl
  let h ← fh
  slM l h x
theorem cutV_whole {vs : List V} {lo hi : Option Int} (h : HT.sIx vs.length 0 lo = 0 ∧ HT.sIx vs.length vs.length hi = vs.length) : cutV vs lo hi = vs := by
  unfold cutV
  rw [h.1, h.2]
  simp
theorem de_slice (ha : DE X B a fa) (hl : DO X B lo fl) (hh : DO X B hi fh) : DE X B (.Subscript a (.Slice lo hi none p2) pos) (sliceM fa fl fh) := by
  obtain ⟨tl, pl, sl⟩ := hl
  obtain ⟨th, ph, sh⟩ := hh
  refine ⟨fun F γ s σ H R Q g => ?_⟩
  refine wE_of (pe_slice (sl_list.or (sl_tupA.or sl_str)) pe_w pl ph) ?_
  refine ha.run F γ s σ H R _ (g.then fun o s1 F1 H1 _ st1 R1 g1 x hx hn => ?_)
  refine sl F1 γ s1 σ H1 R1 _ (Good.then (m := fl) (k := fun l => fh >>= fun h => slM l h o) g1 fun l s2 F2 H2 _ st2 R2 g2 => ?_)
  refine sh F2 γ s2 σ H2 R2 _ (Good.then (m := fh) (k := fun h => slM l h o) g2 fun h s3 F3 H3 _ st3 R3 g3 => ?_)
  have hx3 := (hx.stp st2).stp st3
  unfold slM op1 at g3
  cases e1 : view o s3 with
  | ex y s4 => rw [e1] at g3; exact g3.no
  | bad => rw [e1] at g3; exact g3.no
  | ok w s4 =>
    cases e2 : slV w l h with
    | none => rw [e1] at g3; dsimp only at g3; rw [e2] at g3; exact g3.no
    | some r =>
      rw [e1] at g3
      dsimp only at g3
      rw [e2] at g3
      have vok := view_ok R3 hx3 e1
      have go : ∀ F' H', Stp F3 γ s3 σ H3 F' s3 H' → Rel X.K B F' γ s3 σ H' → ∀ v, OpOk X.K B F' γ s3 σ H' v r → NewIn H3 v r → Q v H' := fun F' H' st R' v h1 h2 =>
        g3 F' H' st R' (st3.trans st) (st2.trans (st3.trans st)) (st1.trans (st2.trans (st3.trans st))) v h1 (h2.back (st1.trans (st2.trans st3)))
      unfold slV at e2
      split at e2
      · cases e2
        obtain ⟨p, vs, rfl, h1, h2⟩ := vok
        refine .inl ⟨p, vs, rfl, .inl h1, fun q nq => ?_⟩
        obtain ⟨R', st, ok, nw⟩ := rel_new R3 nq (.lst (cut_all h2 l h))
        exact go _ _ st R' _ ok nw
      · cases e2
        obtain ⟨p, vs, rfl, h1, h2⟩ := vok.1.tup_
        refine .inr (.inl ⟨p, vs, rfl, R3.fh.st h1, fun hw => ?_, fun _ q nq => ?_⟩)
        · refine go _ _ Stp.refl R3 _ ?_ trivial
          have c := cut_all h2 l h
          rw [cutV_whole hw] at c
          exact .tup h1 c
        · obtain ⟨R', st, dq⟩ := rel_tup R3 nq (cut_all h2 l h)
          exact go _ _ st R' _ dq trivial
      · split at e2
        · cases e2
          rename_i hz
          obtain rfl := vok.1.str_
          exact .inr (.inr ⟨_, rfl, hz, go _ _ Stp.refl R3 _ (.str _) trivial⟩)
        · cases e2
      · cases e2
end

/-! ### built-ins -/
def viewAll : List Op → M (List Vw)
  | [] => pure []
  | o :: os => do
    let w ← view o
    let ws ← viewAll os
    pure (w :: ws)
def opN (h : List Vw → Option Op) (os : List Op) : M Op := fun s => match viewAll os s with
  | .ok ws _ => (match h ws with
    | some o => .ok o s
    | none => .bad)
  | _ => .bad
theorem viewAll_ok {K : PySem.W.Frag} {B : Bd} {F H H₀ : Hp} {γ : Option Addr} {s : Sg} {σ : St} (R : Rel K B F γ s σ H) : ∀ {vs : List V} {os : List Op} {ws : List Vw} {s' : Sg}, OpsOk K B F γ s σ H H₀ vs os → viewAll os s = .ok ws s' → Paired (VOk K F H) vs ws
  | _, _, _, _, .nil, e => by cases e; exact .nil
  | _, _, _, _, .cons h n t, e => by
    obtain ⟨w, s1, e1, e⟩ := bind_ok e
    obtain ⟨ws, s2, e2, e⟩ := bind_ok e
    cases e
    have := view_same e1
    subst this
    exact .cons (view_ok R h e1) (viewAll_ok R t e2)
section
variable {X : Cx} {B : Bd}
theorem opN_ok {c : Value} {h : List Vw → Option Op} (rule : ∀ ws o, h ws = some o → ∀ F γ s σ H, Rel X.K B F γ s σ H → ∀ xs : List V, Paired (VOk X.K F H) xs ws → ∀ Q : VK, Kt X B F γ s σ H o Q →
    ∀ (pins : List (Addr × Obj)) (w : Shared) (us : List Value), Inv X pins σ H w → Vals xs us → wpAny (model X.prog X.w) X.A (call c us) (EP X pins σ Q) X.xe w) : CallD X B c (opN h) := by
  refine ⟨fun F γ s σ H H₀ R xs os hos Q G pins w us I r => ?_⟩
  unfold opN at G
  cases e1 : viewAll os s with
  | ok ws s1 =>
    cases e2 : h ws with
    | some o =>
      rw [e1] at G
      dsimp only at G
      rw [e2] at G
      exact rule ws o e2 F γ s σ H R xs (viewAll_ok R hos e1) Q (fun v F' H' st R' h1 h2 => G F' H' st R' v h1 h2) pins w us I r
    | none => rw [e1] at G; dsimp only at G; rw [e2] at G; exact G.no
  | ex y s1 => rw [e1] at G; exact G.no
  | bad => rw [e1] at G; exact G.no
theorem pair1 {α β : Type} {R : α → β → Prop} {xs : List α} {b : β} (h : Paired R xs [b]) : ∃ a, xs = [a] ∧ R a b := by
  cases h with | cons h t => cases t; exact ⟨_, rfl, h⟩
theorem pair2 {α β : Type} {R : α → β → Prop} {xs : List α} {b c : β} (h : Paired R xs [b, c]) : ∃ a d, xs = [a, d] ∧ R a b ∧ R d c := by
  cases h with | cons h t => cases t with | cons h2 t => cases t; exact ⟨_, _, rfl, h, h2⟩
def lenV : List Vw → Option Op
  | [.dat (.str z)] => if z.length ≤ sizeLine then some (.val (.int z.length)) else none
  | [.dat (.tuple xs)] => some (.val (.int xs.length))
  | [.obj (.lst xs)] => some (.val (.int xs.length))
  | [.obj (.dct xs)] => some (.val (.int xs.length))
  | _ => none
theorem c_len : CallD X B (.builtin "len") (opN lenV) := by
  refine opN_ok fun ws o e F γ s σ H R xs hx Q k pins w us I r => ?_
  unfold lenV at e
  split at e
  · obtain ⟨x, rfl, hv⟩ := pair1 hx
    split at e
    · cases e
      rename_i hz
      obtain rfl := hv.1.str_
      exact call_len pins w σ H _ us Q I r ⟨_, _, rfl, ⟨hz, rfl⟩, k.val R (.int _)⟩
    · cases e
  · cases e
    obtain ⟨x, rfl, hv⟩ := pair1 hx
    obtain ⟨p, vs, rfl, h1, h2⟩ := hv.1.tup_
    exact call_len pins w σ H _ us Q I r ⟨_, _, rfl, .inr ⟨vs, R.fh.st h1, h2.length.symm⟩, k.val R (.int _)⟩
  · cases e
    obtain ⟨x, rfl, p, vs, rfl, h1, h2⟩ := pair1 hx
    exact call_len pins w σ H _ us Q I r ⟨_, _, rfl, .inl ⟨vs, .inl h1, h2.length.symm⟩, k.val R (.int _)⟩
  · cases e
    obtain ⟨x, rfl, p, vs, rfl, h1, h2⟩ := pair1 hx
    refine call_lenD pins w σ H _ us Q I r ⟨_, _, rfl, h1, ?_⟩
    rw [Paired.length h2]
    exact k.val R (.int _)
  · cases e
def tupleV : List Vw → Option Op
  | [.obj (.lst xs)] => some (.val (.tuple xs))
  | [.dat (.tuple xs)] => some (.val (.tuple xs))
  | _ => none
theorem c_tuple : CallD X B (.type "tuple") (opN tupleV) := by
  refine opN_ok fun ws o e F γ s σ H R xs hx Q k pins w us I r => ?_
  unfold tupleV at e
  split at e
  · cases e
    obtain ⟨x, rfl, p, vs, rfl, h1, h2⟩ := pair1 hx
    refine call_tuple_of pins w σ H _ us Q I r ⟨p, vs, rfl, .inl ⟨.inl h1, fun l nl => ?_⟩⟩
    obtain ⟨R', st, dq⟩ := rel_tup R nl h2
    exact k _ _ _ st R' dq trivial
  · cases e
    obtain ⟨x, rfl, hv⟩ := pair1 hx
    obtain ⟨p, vs, rfl, h1, h2⟩ := hv.1.tup_
    exact call_tuple_of pins w σ H _ us Q I r ⟨p, vs, rfl, .inr ⟨R.fh.st h1, k.val R (.tup h1 h2)⟩⟩
  · cases e
def listV : List Vw → Option Op
  | [.obj (.lst xs)] => some (.new (.lst xs))
  | [.dat (.tuple xs)] => some (.new (.lst xs))
  | _ => none
theorem c_list : CallD X B (.type "list") (opN listV) := by
  refine opN_ok fun ws o e F γ s σ H R xs hx Q k pins w us I r => ?_
  unfold listV at e
  split at e
  · cases e
    obtain ⟨x, rfl, p, vs, rfl, h1, h2⟩ := pair1 hx
    refine call_list_of pins w σ H _ us Q I r ⟨p, vs, rfl, .inl (.inl h1), fun l nl => ?_⟩
    obtain ⟨R', st, ok, nw⟩ := rel_new R nl (.lst h2)
    exact k _ _ _ st R' ok nw
  · cases e
    obtain ⟨x, rfl, hv⟩ := pair1 hx
    obtain ⟨p, vs, rfl, h1, h2⟩ := hv.1.tup_
    refine call_list_of pins w σ H _ us Q I r ⟨p, vs, rfl, .inr (R.fh.st h1), fun l nl => ?_⟩
    obtain ⟨R', st, ok, nw⟩ := rel_new R nl (.lst h2)
    exact k _ _ _ st R' ok nw
  · cases e
def intV : List Vw → Option Op
  | [.dat (.int i)] => some (.val (.int i))
  | [.dat (.bool b)] => some (.val (.int (if b then 1 else 0)))
  | [.dat (.str x)] => if x.length ≤ 640 then (PySem.intText? x).map fun n => .val (.int n) else none
  | _ => none
theorem c_int : CallD X B (.type "int") (opN intV) := by
  refine opN_ok fun ws o e F γ s σ H R xs hx Q k pins w us I r => ?_
  unfold intV at e
  split at e
  · cases e
    obtain ⟨x, rfl, hv⟩ := pair1 hx
    obtain rfl := hv.1.int_
    exact call_int1 pins w σ H _ us Q I r (.inl ⟨_, rfl, k.val R (.int _)⟩)
  · cases e
    obtain ⟨x, rfl, hv⟩ := pair1 hx
    obtain rfl := hv.1.bl_
    exact call_int1 pins w σ H _ us Q I r (.inr ⟨_, rfl, k.val R (.int _)⟩)
  · split at e
    · rename_i hz
      obtain ⟨n, em, rfl⟩ := Option.map_eq_some_iff.mp e
      obtain ⟨x, rfl, hv⟩ := pair1 hx
      obtain rfl := hv.1.str_
      exact call_int_str pins w σ H _ us Q I r ⟨_, n, rfl, em, hz, k.val R (.int _)⟩
    · cases e
  · cases e
def strV : List Vw → Option Op
  | [.dat (.int i)] => if i.natAbs.log2 < 1920 then some (.val (.str (toString i))) else none
  | [.dat (.str x)] => some (.val (.str x))
  | _ => none
theorem c_str : CallD X B (.type "str") (opN strV) := by
  refine opN_ok fun ws o e F γ s σ H R xs hx Q k pins w us I r => ?_
  unfold strV at e
  split at e
  · split at e
    · cases e
      rename_i hz
      obtain ⟨x, rfl, hv⟩ := pair1 hx
      obtain rfl := hv.1.int_
      exact call_str_int pins w σ H _ us Q I r ⟨_, rfl, hz, k.val R (.str _)⟩
    · cases e
  · cases e
    obtain ⟨x, rfl, hv⟩ := pair1 hx
    obtain rfl := hv.1.str_
    exact SkE.call_str_str pins w σ H _ us Q I r ⟨_, rfl, k.val R (.str _)⟩
  · cases e
def absV : List Vw → Option Op
  | [.dat (.int i)] => some (.val (.int (if i < 0 then -i else i)))
  | _ => none
theorem c_abs : CallD X B (.builtin "abs") (opN absV) := by
  refine opN_ok fun ws o e F γ s σ H R xs hx Q k pins w us I r => ?_
  unfold absV at e
  split at e
  · cases e
    obtain ⟨x, rfl, hv⟩ := pair1 hx
    obtain rfl := hv.1.int_
    exact call_abs pins w σ H _ us Q I r ⟨_, rfl, k.val R (.int _)⟩
  · cases e
/-- lists of one kind -/
def ints? : List D → Option (List Int)
  | [] => some []
  | .int i :: r => (ints? r).map (i :: ·)
  | _ => none
def strs? : List D → Option (List Str)
  | [] => some []
  | .str i :: r => (strs? r).map (i :: ·)
  | _ => none
def bools? : List D → Option (List Bool)
  | [] => some []
  | .bool i :: r => (bools? r).map (i :: ·)
  | _ => none
theorem ints_of {K : PySem.W.Frag} {F : Hp} : ∀ {vs : List V} {xs : List D} {ns : List Int}, DqAll K F vs xs → ints? xs = some ns → vs = ns.map V.int
  | _, _, _, .nil, e => by cases e; rfl
  | _, _, _, .cons h t, e => by
    cases h with
    | int i =>
      obtain ⟨ns, e1, rfl⟩ := Option.map_eq_some_iff.mp e
      rw [ints_of t e1]
      rfl
    | _ => cases e
theorem strs_of {K : PySem.W.Frag} {F : Hp} : ∀ {vs : List V} {xs : List D} {ns : List Str}, DqAll K F vs xs → strs? xs = some ns → vs = ns.map V.str
  | _, _, _, .nil, e => by cases e; rfl
  | _, _, _, .cons h t, e => by
    cases h with
    | str i =>
      obtain ⟨ns, e1, rfl⟩ := Option.map_eq_some_iff.mp e
      rw [strs_of t e1]
      rfl
    | _ => cases e
theorem bools_of {K : PySem.W.Frag} {F : Hp} : ∀ {vs : List V} {xs : List D} {ns : List Bool}, DqAll K F vs xs → bools? xs = some ns → vs = ns.map V.bl
  | _, _, _, .nil, e => by cases e; rfl
  | _, _, _, .cons h t, e => by
    cases h with
    | bl i =>
      obtain ⟨ns, e1, rfl⟩ := Option.map_eq_some_iff.mp e
      rw [bools_of t e1]
      rfl
    | _ => cases e
def minV : List Vw → Option Op
  | [.dat (.int i), .dat (.int j)] => some (.val (.int (if j < i then j else i)))
  | _ => none
def maxV : List Vw → Option Op
  | [.dat (.int i), .dat (.int j)] => some (.val (.int (if j > i then j else i)))
  | _ => none
theorem c_min (hc : X.calm = true) : CallD X B (.builtin "min") (opN minV) := by
  refine opN_ok fun ws o e F γ s σ H R xs hx Q k pins w us I r => ?_
  unfold minV at e
  split at e
  · cases e
    obtain ⟨x, y, rfl, hv, hy⟩ := pair2 hx
    obtain rfl := hv.1.int_
    obtain rfl := hy.1.int_
    exact call_min2 hc pins w σ H _ us Q I r ⟨_, _, rfl, k.val R (.int _)⟩
  · cases e
theorem c_max (hc : X.calm = true) : CallD X B (.builtin "max") (opN maxV) := by
  refine opN_ok fun ws o e F γ s σ H R xs hx Q k pins w us I r => ?_
  unfold maxV at e
  split at e
  · cases e
    obtain ⟨x, y, rfl, hv, hy⟩ := pair2 hx
    obtain rfl := hv.1.int_
    obtain rfl := hy.1.int_
    exact call_max2 hc pins w σ H _ us Q I r ⟨_, _, rfl, k.val R (.int _)⟩
  · cases e
def sumV : List Vw → Option Op
  | [.obj (.lst xs)] => (ints? xs).map fun ns => .val (.int ns.sum)
  | _ => none
def allV : List Vw → Option Op
  | [.obj (.lst xs)] => (bools? xs).map fun ns => .val (.bool (ns.all id))
  | _ => none
def anyV : List Vw → Option Op
  | [.obj (.lst xs)] => (bools? xs).map fun ns => .val (.bool (ns.any id))
  | _ => none
theorem c_sum (hc : X.calm = true) : CallD X B (.builtin "sum") (opN sumV) := by
  refine opN_ok fun ws o e F γ s σ H R xs hx Q k pins w us I r => ?_
  unfold sumV at e
  split at e
  · obtain ⟨ns, em, rfl⟩ := Option.map_eq_some_iff.mp e
    obtain ⟨x, rfl, p, vs, rfl, h1, h2⟩ := pair1 hx
    have ev := ints_of h2 em
    subst ev
    exact cr_sum hc pins w σ H _ us Q I r ⟨p, ns, rfl, .inl h1, k.val R (.int _)⟩
  · cases e
theorem c_all (hc : X.calm = true) : CallD X B (.builtin "all") (opN allV) := by
  refine opN_ok fun ws o e F γ s σ H R xs hx Q k pins w us I r => ?_
  unfold allV at e
  split at e
  · obtain ⟨ns, em, rfl⟩ := Option.map_eq_some_iff.mp e
    obtain ⟨x, rfl, p, vs, rfl, h1, h2⟩ := pair1 hx
    have ev := bools_of h2 em
    subst ev
    exact cr_all hc pins w σ H _ us Q I r ⟨p, ns, rfl, .inl h1, k.val R (.bl _)⟩
  · cases e
theorem c_any (hc : X.calm = true) : CallD X B (.builtin "any") (opN anyV) := by
  refine opN_ok fun ws o e F γ s σ H R xs hx Q k pins w us I r => ?_
  unfold anyV at e
  split at e
  · obtain ⟨ns, em, rfl⟩ := Option.map_eq_some_iff.mp e
    obtain ⟨x, rfl, p, vs, rfl, h1, h2⟩ := pair1 hx
    have ev := bools_of h2 em
    subst ev
    exact cr_any hc pins w σ H _ us Q I r ⟨p, ns, rfl, .inl h1, k.val R (.bl _)⟩
  · cases e
/-- sorted -/
def tupC : D → Bool
  | .tuple (_ :: _) => true
  | _ => false
def noTup : D → Bool
  | .none => false
  | .tuple _ => false
  | _ => true
def sortOk (xs : List D) : Bool := xs.all (fun d => xs.all fun e => PySem.W.alike d e) && (xs.all tupC || xs.all noTup) && xs.all fun d => decide (d.depth ≤ 60)
def sortD (xs : List D) : List D := xs.mergeSort (PySem.W.dataLe false id)
def sortedV : List Vw → Option Op
  | [.obj (.lst xs)] => if sortOk xs = true then some (.new (.lst (sortD xs))) else none
  | _ => none
theorem each_of {K : PySem.W.Frag} {F : Hp} : ∀ {vs : List V} {xs : List D} {us : List Value}, DqAll K F vs xs → Vals vs us → PySem.W.EachIs (fun u d => ∃ v, RelV v u ∧ Dq K F v d) us xs
  | _, _, _, .nil, r => by cases r; exact .nil
  | _, _, _, .cons h t, r => by cases r with | cons r1 r2 => exact .cons ⟨_, r1, h⟩ (each_of t r2)
theorem of_each {K : PySem.W.Frag} {F : Hp} : ∀ {us : List Value} {xs : List D}, PySem.W.EachIs (fun u d => ∃ v, RelV v u ∧ Dq K F v d) us xs → ∃ vs, Vals vs us ∧ DqAll K F vs xs
  | _, _, .nil => ⟨[], .nil, .nil⟩
  | _, _, .cons ⟨v, r, h⟩ t => by
    obtain ⟨vs, r2, h2⟩ := of_each t
    exact ⟨v :: vs, .cons r r2, .cons h h2⟩
theorem c_sorted (hu : X.A.units + 64 < cLine) : CallD X B (.builtin "sorted") (opN sortedV) := by
  refine opN_ok fun ws o e F γ s σ H R xs hx Q k pins w us I r => ?_
  unfold sortedV at e
  split at e
  · rename_i ds
    split at e
    · cases e
      rename_i hz
      unfold sortOk at hz
      rw [Bool.and_eq_true, Bool.and_eq_true] at hz
      obtain ⟨⟨z1, z2⟩, z3⟩ := hz
      obtain ⟨x, rfl, p, vs, rfl, h1, h2⟩ := pair1 hx
      obtain ⟨u, rfl, ru⟩ := vals1 r
      cases ru
      obtain ⟨its, rv, pl, hlen⟩ := I.list (.inl h1)
      have hmap : ds.map id = ds := List.map_id ds
      refine PySem.W.sorted_data (R := fun u d => ∃ v, RelV v u ∧ Dq X.K F v d) (enc := id) (bs := ds) pl.isList (each_of h2 rv) ((each_of h2 rv).mono fun u d ⟨v, r1, hd⟩ => Dp.reads I d v u (hd.mono R.fh).dp r1) ?_ ?_ (by rw [← h2.length]; exact hlen) ?_ fun out ho hout => ?_
      · rw [hmap]
        intro d hd d' hd'
        exact List.all_eq_true.mp (List.all_eq_true.mp z1 d hd) d' hd'
      · rw [hmap]
        rw [Bool.or_eq_true] at z2
        rcases z2 with z2 | z2
        · refine .inl fun d hd => ?_
          have q := List.all_eq_true.mp z2 d hd
          unfold tupC at q
          split at q
          · exact ⟨_, _, rfl⟩
          · cases q
        · refine .inr fun d hd => ?_
          have q := List.all_eq_true.mp z2 d hd
          exact ⟨fun z => by subst z; simp [noTup] at q, fun xs z => by subst z; simp [noTup] at q⟩
      · intro b hb
        have q := of_decide_eq_true (List.all_eq_true.mp z3 b hb)
        have q' : (id b : D).depth ≤ 60 := q
        omega
      · obtain ⟨ws, r3, d3⟩ := of_each hout
        obtain ⟨ep, he'⟩ := PyProof.Rows.sortedAll_at w.heap its out.toArray
        have n1 : H (w.heap.objs.size + 1) = none := I.hok.fresh (Nat.le_succ _)
        obtain ⟨R', st, ok, nw⟩ := rel_new R n1 (.lst d3)
        have hl : ws.length ≤ sizeLine := by
          rw [d3.length, List.length_mergeSort, ← h2.length]
          exact hlen
        exact ⟨.ref _, upd H (w.heap.objs.size + 1) (.lst ws), I.laid (t' := w.toks) (fun _ _ => PyProof.Rows.sortedAll_old) (Nat.le_succ _) ⟨hl, out, ep, r3, he'⟩, rfl, k _ _ _ st R' ok nw⟩
    · cases e
  · cases e
end
end PD
end

section
set_option Elab.async false
set_option linter.all false
set_option maxRecDepth 100000
set_option maxHeartbeats 4000000
set_option autoImplicit false
namespace PD
open PySem PySem.Spec L2
open PyProof.Rows hiding St

/-! ### changing an own object, the global list -/
section
variable {K : PySem.W.Frag} {B : Bd} {F H : Hp} {γ : Option Addr} {s : Sg} {σ : St}
theorem rel_mut (R : Rel K B F γ s σ H) {i : Nat} {c c' : Cn} {p : Addr} {o' : HO} (e1 : s.ρ[i]? = some (.own false c)) (ev : σ[i]? = some (some (.ref p))) (ck : COk K F o' c') :
    Rel K B F γ { s with ρ := s.ρ.set i (.own false c') } σ (upd H p o') ∧ Stp F γ s σ H F { s with ρ := s.ρ.set i (.own false c') } (upd H p o') := by
  obtain ⟨q, o, eq, hp, _, fp, h0, hg⟩ := R.slot i _ e1
  rw [ev] at eq
  cases eq
  have hi : i < s.ρ.length := (List.getElem?_eq_some_iff.mp e1).1
  have nep : ∀ (j : Nat) (sl : Slt), s.ρ[j]? = some sl → sl.isObj = true → i ≠ j → ∀ q, σ[j]? = some (some (.ref q)) → q ≠ p := fun j sl ej ho hij q eq z => by
    subst z
    exact hij (R.dist i j false c sl e1 ej ho (by rw [ev, eq]))
  refine ⟨⟨fun a u e => ?_, R.f0, R.fn, fun a u e n => ?_, fun a u e => ?_, by show (s.ρ.set i _).length = _; rw [List.length_set]; exact R.len, fun j sl ej => ?_, fun j k lk c2 sl ej ek ho hv => ?_, ?_⟩,
    ⟨Le.refl F, fun _ _ e => .inl e, fun a u e n m => ?_, fun a u e => ?_, fun j => ?_⟩⟩
  · rw [upd_ne (ne_of_none e fp)]; exact R.fh a u e
  · rw [upd_ne (ne_of_none e h0)]; exact R.keep a u e n
  · rw [upd_ne (ne_of_none e h0)]; exact R.dom a u e
  · have ej : (s.ρ.set i (Slt.own false c'))[j]? = some sl := ej
    by_cases hij : i = j
    · subst hij
      rw [List.getElem?_set_self hi] at ej
      cases ej
      exact ⟨p, o', ev, upd_same, ck, fp, h0, hg⟩
    · rw [List.getElem?_set_ne hij] at ej
      have so := R.slot j sl ej
      cases sl with
      | no => trivial
      | val d => exact so
      | exc => exact so
      | glob => exact so
      | own lk c2 =>
        obtain ⟨q, o2, eq, hq, r⟩ := so
        exact ⟨q, o2, eq, by rw [upd_ne (nep j _ ej rfl hij q eq)]; exact hq, r⟩
      | bor c2 =>
        obtain ⟨q, o2, eq, hq, r⟩ := so
        exact ⟨q, o2, eq, by rw [upd_ne (nep j _ ej rfl hij q eq)]; exact hq, r⟩
  · have ej : (s.ρ.set i (Slt.own false c'))[j]? = some (.own lk c2) := ej
    have ek : (s.ρ.set i (Slt.own false c'))[k]? = some sl := ek
    have ex : ∀ (m : Nat) (sl : Slt), (s.ρ.set i (Slt.own false c'))[m]? = some sl → sl.isObj = true → ∃ sl', s.ρ[m]? = some sl' ∧ sl'.isObj = true ∧ (∀ lk c, sl = .own lk c → ∃ lk c, sl' = .own lk c) := fun m sl em ho => by
      by_cases hm : i = m
      · subst hm
        exact ⟨_, e1, rfl, fun _ _ _ => ⟨_, _, rfl⟩⟩
      · rw [List.getElem?_set_ne hm] at em
        exact ⟨sl, em, ho, fun lk c e => ⟨lk, c, e⟩⟩
    obtain ⟨s1, h1, _, h3⟩ := ex j _ ej rfl
    obtain ⟨lk', c3, e3⟩ := h3 _ _ rfl
    obtain ⟨s2, k1, k2, _⟩ := ex k _ ek ho
    exact R.dist j k lk' c3 s2 (by rw [h1, e3]) k1 k2 hv
  · have gl := R.gl
    show GOk K B F (upd H p o') s.g γ
    cases eg : s.g with
    | none =>
      rw [eg] at gl
      cases γ with
      | none => exact gl
      | some a => exact gl.elim
    | some ys =>
      rw [eg] at gl
      cases γ with
      | none => exact gl.elim
      | some a =>
        obtain ⟨ws, hw, r⟩ := gl
        exact ⟨ws, by rw [upd_ne (fun z => hg (by rw [z]))]; exact hw, r⟩
  · rw [upd_ne (fun z => m (by subst z; exact ⟨i, c, e1, ev⟩))]; exact e
  · by_cases h : a = p
    · subst h; exact ⟨o', upd_same⟩
    · exact ⟨u, by rw [upd_ne h]; exact e⟩
  · by_cases hij : i = j
    · subst hij
      exact .inr ⟨c, e1, .inl ⟨c', List.getElem?_set_self hi⟩⟩
    · exact .inl (List.getElem?_set_ne hij)
theorem rel_gmut (R : Rel K B F γ s σ H) {a : Addr} {vs : List V} {xs ys : List D} (ea : γ = some a) (eg : s.g = some ys) (ck : DqAll K F vs xs) :
    Rel K B F γ { s with g := some xs } σ (upd H a (.lst vs)) ∧ Stp F γ s σ H F { s with g := some xs } (upd H a (.lst vs)) := by
  subst ea
  have gl := R.gl
  rw [eg] at gl
  obtain ⟨ws, hw, _, fa, z⟩ := gl
  refine rel_grow R (Le.refl F) (fun b u e => ?_) (fun _ _ e => .inl e) (fun b u e n => ?_) (fun b u e => ?_) ⟨vs, upd_same, ck⟩
  · rw [upd_ne (ne_of_none e fa)]; exact R.fh b u e
  · rw [upd_ne (fun z => n (by rw [z]))]; exact e
  · by_cases h : b = a
    · subst h; exact ⟨_, upd_same⟩
    · exact ⟨u, by rw [upd_ne h]; exact e⟩
end

/-! ### calls of built-ins -/
section
variable {X : Cx} {B : Bd} {e : Expr} {es : List Expr} {fs : M (List Op)} {f : List Op → M Op} {p pos : Pos} {x : Str} {id T : String}
theorem args_run (ha : DA X B es fs) {F H : Hp} {γ : Option Addr} {s : Sg} {σ : St} (R : Rel X.K B F γ s σ H) {Q : VK} (g : Good X B F γ s σ H ((fs >>= f) s) (fun o s' F' H' => ∀ v, OpOk X.K B F' γ s' σ H' v o → NewIn H v o → Q v H')) {c : Value} (hc : CallD X B c f)
    {pos : Pos} {pins : List (Addr × Obj)} {w : Shared} (I : Inv X pins σ H w) :
    wpAny (model X.prog X.w) X.A (spliced (backTo pos (starEach es X.env))) (fun us s1 => wpAny (model X.prog X.w) X.A (call c us) (EP X pins σ Q) X.xe s1) X.xe w := by
  refine thn (ha.run F γ s σ H R (fun vs H1 => ∃ F1 s1 os, Rel X.K B F1 γ s1 σ H1 ∧ OpsOk X.K B F1 γ s1 σ H1 H vs os ∧ Good X B F1 γ s1 σ H1 (f os s1) (fun o s' F' H' => ∀ v, OpOk X.K B F' γ s' σ H' v o → NewIn H1 v o → Q v H'))
    (g.then fun os s1 F1 H1 _ st1 R1 g1 vs hvs => ⟨F1, s1, os, R1, hvs, g1.imp fun o s' F' H' _ st2 _ q v h1 h2 => q (st1.trans st2) v h1 (h2.back st1)⟩) pos pins w I) fun us w1 ⟨vs, H1, I1, r1, F1, s1, os, R1, hvs, g1⟩ => ?_
  exact hc.run F1 γ s1 σ H1 H R1 vs os hvs Q g1 pins w1 us I1 r1
theorem de_callB (hc : CallD X B (.builtin id) f) (hg : Gl X x) (hm : X.mg x = none) (hv : bootBuiltins x = some (.builtin id)) (ha : DA X B (e :: es) fs) (hn : x ≠ "__name__" := by decide) (hdb : (x == ("__debug__" : Str)) = false := by decide)
    (he : starEach (e :: es) X.env = (false, eval e X.env) :: starEach es X.env := by rfl) (hpl : (backTo pos (starEach es X.env)).any (·.1) = false := by rfl) : DE X B (.Call (.Name x p) (e :: es) [] pos) (fs >>= f) := by
  refine ⟨fun F γ s σ H R Q g pins w I => ?_⟩
  refine wpAny_Call_Name_kw (ld_blt I hg hm hv ?_ hn hdb)
  exact PyProof.Rows.callWith_builtin1 (args_run ha R g hc I) he hpl
theorem de_callTy (hc : CallD X B (.type T) f) (hg : Gl X x) (hm : X.mg x = none) (hv : bootBuiltins x = some (.type T)) (ha : DA X B (e :: es) fs) (hn : x ≠ "__name__" := by decide) (hdb : (x == ("__debug__" : Str)) = false := by decide)
    (he : starEach (e :: es) X.env = (false, eval e X.env) :: starEach es X.env := by rfl) (hpl : (backTo pos (starEach es X.env)).any (·.1) = false := by rfl) : DE X B (.Call (.Name x p) (e :: es) [] pos) (fs >>= f) := by
  refine ⟨fun F γ s σ H R Q g pins w I => ?_⟩
  refine wpAny_Call_Name_kw (ld_blt I hg hm hv ?_ hn hdb)
  exact PyProof.Rows.callWith_type1 (args_run ha R g hc I) he hpl
end

/-! ### methods of texts -/
def toStr (o : Op) : M Str := fun s => match o with
  | .val (.str a) => .ok a s
  | _ => .bad
def met1 (h : Str → Vw → Option Op) (fo fe : M Op) : M Op := do
  let a ← (fo >>= toStr)
  let o ← fe
  op1 (h a) o
def joinV (a : Str) : Vw → Option Op
  | .obj (.lst xs) => (strs? xs).bind fun ys => if (ys.map (·.length)).sum + ys.length * a.length ≤ 16777216 then some (.val (.str (Txt.join a ys))) else none
  | .dat (.tuple xs) => (strs? xs).bind fun ys => if (ys.map (·.length)).sum + ys.length * a.length ≤ 16777216 then some (.val (.str (Txt.join a ys))) else none
  | _ => none
def splitV (a : Str) : Vw → Option Op
  | .dat (.str b) => if (b.length == 0) = false ∧ a.length + 2 ≤ sizeLine then some (.new (.lst ((Txt.split a b).map .str))) else none
  | _ => none
def startsV (a : Str) : Vw → Option Op
  | .dat (.str b) => some (.val (.bool (Txt.startswith a b)))
  | _ => none
section
variable {X : Cx} {B : Bd} {o e : Expr} {fo fe : M Op} {apos pos : Pos}
theorem toStr_then {K : Str → Sg → Hp → Hp → Prop} {F H : Hp} {γ : Option Addr} {s : Sg} {σ : St} {a : Expr} {fa : M Op} (ha : DE X B a fa) (R : Rel X.K B F γ s σ H) {T : V → Hp → Prop} (g : Good X B F γ s σ H ((fa >>= toStr) s) K)
    (h : ∀ c s1 F1 H1, Stp F γ s σ H F1 s1 H1 → Rel X.K B F1 γ s1 σ H1 → K c s1 F1 H1 → T (.str c) H1) : wE X a σ H T := by
  refine ha.run F γ s σ H R _ (g.then fun o s1 F1 H1 e0 st1 R1 g1 v hv hn => ?_)
  unfold toStr at g1
  split at g1
  · rename_i k
    have hv' : Dq X.K F1 v (.str k) := hv
    obtain rfl := hv'.str_
    exact h k s1 F1 H1 st1 R1 (g1.ok0 R1 st1)
  · exact g1.no
theorem de_met1 {id : String} {name : Str} {r : V → List V → Hp → VK → Prop} {h : Str → Vw → Option Op} (slot : PySem.Slot "str" name id) (ty : typeOf (.builtin id) = pure (.type "method_descriptor")) (rule : MtR X id r)
    (conn : ∀ a wx o, h a wx = some o → ∀ F γ s σ H, Rel X.K B F γ s σ H → ∀ y : V, VOk X.K F H y wx → ∀ Q : VK, Kt X B F γ s σ H o Q → r (.str a) [y] H Q) (ho : DE X B o fo) (he : DE X B e fe)
    (hs : starEach [e] X.env = [(false, eval e X.env)] := by rfl) (hbase : attributeBase o name X.env (eval o X.env) = eval o X.env := by rfl) (hline : (apos.endLine == pos.line) = true := by rfl) :
    DE X B (.Call (.Attribute o name apos) [e] [] pos) (met1 h fo fe) := by
  refine ⟨fun F γ s σ H R Q g => ?_⟩
  refine wE_of (pe_m1 slot ty rule pe_w pe_w hs hbase hline) ?_
  refine toStr_then ho R g.bind fun a s1 F1 H1 st1 R1 g1 => ⟨⟨a, rfl⟩, ?_⟩
  refine he.run F1 γ s1 σ H1 R1 _ (Good.then (m := fe) (k := fun o => op1 (h a) o) g1 fun oy s2 F2 H2 _ st2 R2 g2 y hy hn => ?_)
  unfold op1 at g2
  cases e1 : view oy s2 with
  | ex y s4 => rw [e1] at g2; exact g2.no
  | bad => rw [e1] at g2; exact g2.no
  | ok w s4 =>
    cases e2 : h a w with
    | none => rw [e1] at g2; dsimp only at g2; rw [e2] at g2; exact g2.no
    | some res =>
      rw [e1] at g2
      dsimp only at g2
      rw [e2] at g2
      exact conn a w res e2 F2 γ s2 σ H2 R2 y (view_ok R2 hy e1) Q fun v F' H' st R' h1 h2 => g2 F' H' st R' (st2.trans st) (st1.trans (st2.trans st)) v h1 (h2.back (st1.trans st2))
theorem join_conn {a : Str} {wx : Vw} {o : Op} (eo : joinV a wx = some o) {F γ s σ H} (R : Rel X.K B F γ s σ H) {y : V} (hy : VOk X.K F H y wx) {Q : VK} (k : Kt X B F γ s σ H o Q) :
    ∃ a' p, ∃ ys : List Str, (V.str a : V) = .str a' ∧ [y] = [.ref p] ∧ (SqL X.K H p (ys.map V.str) ∨ SqT X.K H p (ys.map V.str)) ∧ (ys.map (·.length)).sum + ys.length * a'.length ≤ 16777216 ∧ Q (.str (Txt.join a' ys)) H := by
  unfold joinV at eo
  split at eo
  · obtain ⟨ys, e1, e2⟩ := Option.bind_eq_some_iff.mp eo
    obtain ⟨p, vs, rfl, h1, h2⟩ := hy
    have ev := strs_of h2 e1
    subst ev
    split at e2
    · cases e2
      rename_i hz
      exact ⟨a, p, ys, rfl, rfl, .inl (.inl h1), hz, k.val R (.str _)⟩
    · cases e2
  · obtain ⟨ys, e1, e2⟩ := Option.bind_eq_some_iff.mp eo
    obtain ⟨p, vs, rfl, h1, h2⟩ := hy.1.tup_
    have ev := strs_of h2 e1
    subst ev
    split at e2
    · cases e2
      rename_i hz
      exact ⟨a, p, ys, rfl, rfl, .inr (R.fh.st h1), hz, k.val R (.str _)⟩
    · cases e2
  · cases eo
theorem de_join (ho : DE X B o fo) (he : DE X B e fe) (hs : starEach [e] X.env = [(false, eval e X.env)] := by rfl) (hbase : attributeBase o "join" X.env (eval o X.env) = eval o X.env := by rfl) (hline : (apos.endLine == pos.line) = true := by rfl) :
    DE X B (.Call (.Attribute o "join" apos) [e] [] pos) (met1 joinV fo fe) :=
  de_met1 PySem.F.slot_str_join PySem.F.type_str_join mt_join (fun a wx o eo F γ s σ H R y hy Q k => join_conn eo R hy k) ho he hs hbase hline
theorem strs_all {K : PySem.W.Frag} {F : Hp} : ∀ ys : List Str, DqAll K F (ys.map V.str) (ys.map .str)
  | [] => .nil
  | y :: ys => .cons (.str y) (strs_all ys)
theorem de_split (ho : DE X B o fo) (he : DE X B e fe) (hs : starEach [e] X.env = [(false, eval e X.env)] := by rfl) (hbase : attributeBase o "split" X.env (eval o X.env) = eval o X.env := by rfl) (hline : (apos.endLine == pos.line) = true := by rfl) :
    DE X B (.Call (.Attribute o "split" apos) [e] [] pos) (met1 splitV fo fe) :=
  de_met1 PySem.F.slot_str_split PySem.F.type_str_split mt_split (fun a wx o eo F γ s σ H R y hy Q k => by
    unfold splitV at eo
    split at eo
    · split at eo
      · cases eo
        rename_i hz
        obtain rfl := hy.1.str_
        refine ⟨a, _, rfl, rfl, hz.1, hz.2, fun p np => ?_⟩
        obtain ⟨R', st, ok, nw⟩ := rel_new R np (.lst (strs_all (K := X.K) (F := F) (Txt.split a _)))
        exact k _ _ _ st R' ok nw
      · cases eo
    · cases eo) ho he hs hbase hline
theorem de_startswith (ho : DE X B o fo) (he : DE X B e fe) (hs : starEach [e] X.env = [(false, eval e X.env)] := by rfl) (hbase : attributeBase o "startswith" X.env (eval o X.env) = eval o X.env := by rfl) (hline : (apos.endLine == pos.line) = true := by rfl) :
    DE X B (.Call (.Attribute o "startswith" apos) [e] [] pos) (met1 startsV fo fe) :=
  de_met1 PySem.F.slot_str_startswith PySem.F.type_str_startswith mt_startswith (fun a wx o eo F γ s σ H R y hy Q k => by
    unfold startsV at eo
    split at eo
    · cases eo
      obtain rfl := hy.1.str_
      exact ⟨a, _, rfl, rfl, k.val R (.bl _)⟩
    · cases eo) ho he hs hbase hline
end

/-! ### methods of an own list -/
/-- the own list in slot i -/
def ownL (i : Nat) : M (List D) := fun s => match s.ρ[i]? with
  | some (.own false (.lst xs)) => .ok xs s
  | _ => .bad
def putL (i : Nat) (xs : List D) : M Unit := fun s => .ok () { s with ρ := s.ρ.set i (.own false (.lst xs)) }
def appendM (i : Nat) (fe : M Op) : M Op := do
  let _ ← ownL i
  let o ← fe
  let d ← frz o
  let xs ← ownL i
  if xs.length < sizeLine then (do putL i (xs ++ [d]); pure (.val .none)) else M.bad
def popAt (i : Nat) (o : Op) (xs : List D) : M Op := fun s => match o with
  | .val (.int j) => match ixN xs.length j with
    | some k => match xs[k]? with
      | some d => .ok (.val d) { s with ρ := s.ρ.set i (.own false (.lst (xs.eraseIdx k))) }
      | none => .bad
    | none => .bad
  | _ => .bad
def popM (i : Nat) (fe : M Op) : M Op := do
  let _ ← ownL i
  let o ← fe
  let xs ← ownL i
  if xs.length ≤ sizeLine then popAt i o xs else M.bad
def extendM (i : Nat) (fe : M Op) : M Op := do
  let _ ← ownL i
  let o ← fe
  let w ← view o
  let xs ← ownL i
  match w with
  | .obj (.lst ys) => if xs.length + ys.length ≤ sizeLine then (do putL i (xs ++ ys); pure (.val .none)) else M.bad
  | _ => M.bad
def insertM (i : Nat) (fk fe : M Op) : M Op := do
  let _ ← ownL i
  let k ← fk
  let o ← fe
  let d ← frz o
  let xs ← ownL i
  match k with
  | .val (.int j) => if xs.length < sizeLine ∧ 0 ≤ j ∧ j < 2 ^ 63 then (do putL i (xs.take j.toNat ++ d :: xs.drop j.toNat); pure (.val .none)) else M.bad
  | _ => M.bad
section
variable {X : Cx} {B : Bd} {e : Expr} {fe : M Op} {apos pos npos : Pos} {x : Str} {i : Nat}
theorem ownL_ok {K : PySem.W.Frag} {F H : Hp} {γ : Option Addr} {s s' : Sg} {σ : St} {xs : List D} (R : Rel K B F γ s σ H) (e : ownL i s = .ok xs s') :
    s' = s ∧ s.ρ[i]? = some (.own false (.lst xs)) ∧ ∃ p vs, σ[i]? = some (some (.ref p)) ∧ H p = some (.lst vs) ∧ DqAll K F vs xs := by
  unfold ownL at e
  split at e
  · rename_i e1
    cases e
    obtain ⟨p, o, ev, hp, ck, _⟩ := R.slot i _ e1
    cases ck with
    | lst ck => exact ⟨rfl, e1, p, _, ev, hp, ck⟩
  · cases e
theorem ownL_noex {s s' : Sg} {y : Xn} : ownL i s ≠ .ex y s' := by
  unfold ownL
  split <;> intro z <;> cases z
/-- the receiver's slot, then what follows -/
theorem recv {β : Type} {k : M β} {K : β → Sg → Hp → Hp → Prop} {F H : Hp} {γ : Option Addr} {s : Sg} {σ : St} (R : Rel X.K B F γ s σ H) (g : Good X B F γ s σ H ((ownL i >>= fun _ => k) s) K) {T : Prop}
    (h : ∀ (p : Addr) (vs : List V), σ[i]? = some (some (.ref p)) → H p = some (.lst vs) → Good X B F γ s σ H (k s) K → T) : T := by
  cases e : ownL i s with
  | ok xs s1 =>
    obtain ⟨rfl, e1, p, vs, ev, hp, _⟩ := ownL_ok R e
    rw [bind_of e] at g
    exact h p vs ev hp g
  | ex y s1 => exact (ownL_noex e).elim
  | bad => rw [bind_bad e] at g; exact g.no
theorem de_append (hN : X.N[i]? = some x) (ha : DE X B e fe) (hv : Vis X.env.scope x := by first | exact Or.inl rfl | exact Or.inr (Or.inl rfl) | exact Or.inr (Or.inr rfl)) (hd : (x == ("__debug__" : Str)) = false := by decide) (hcd : (x == ("__classdict__" : Str)) = false := by decide)
    (hbase : attributeBase (.Name x npos) "append" X.env (eval (.Name x npos) X.env) = eval (.Name x npos) X.env := by rfl)
    (hfew : ((backTo pos (starEach [e] X.env)).all (fun x => !x.1) && (backToKw pos (keywordEach [] X.env)).all (fun x => x.1.isSome)
      && decide (([e] : List Expr).length + ([] : List Keyword).length + (if ([] : List Keyword).isEmpty then 0 else 1) < 30)) = true := by rfl)
    (hline : (apos.endLine == pos.line) = true := by rfl) (hs : starEach [e] X.env = (false, eval e X.env) :: starEach [] X.env := by rfl) (hplain : (backTo pos (starEach [] X.env)).any (·.1) = false := by rfl) :
    DE X B (.Call (.Attribute (.Name x npos) "append" apos) [e] [] pos) (appendM i fe) := by
  refine ⟨fun F γ s σ H R Q g => ?_⟩
  refine wE_of (pe_bm PySem.F.plainAttrs_list PySem.F.slot_list_append PySem.F.type_list_append mt_append (pe_var hN hv hd hcd) (pa_cons pe_w pa_nil hs) hbase hfew hline hs hplain) ?_
  refine recv R g fun p vs0 ev hp0 g => ?_
  refine ⟨.ref p, ev, .inl ⟨rfl, vs0, .of hp0⟩, ?_⟩
  refine ha.run F γ s σ H R _ (Good.thenO g fun o s1 F1 H1 _ st1 R1 g1 v hv hn => ?_)
  cases e1 : frz o s1 with
  | ex y s2 => exact (frz_noex y s2 e1).elim
  | bad => rw [bind_bad e1] at g1; exact g1.no
  | ok d s2 =>
    rw [bind_of e1] at g1
    obtain ⟨F2, f2, R2, hd2, st2, _⟩ := frz_ok R1 st1 (.of hv hn) e1
    cases e2 : ownL i s2 with
    | ex y s3 => exact (ownL_noex e2).elim
    | bad => rw [bind_bad e2] at g1; exact g1.no
    | ok xs s3 =>
      obtain ⟨rfl, e3, q, vs, ev', hp, hds⟩ := ownL_ok R2 e2
      rw [bind_of e2] at g1
      rw [ev] at ev'
      cases ev'
      split at g1
      · rename_i hz
        obtain ⟨R3, st3⟩ := rel_mut R2 e3 ev (.lst (hds.app (.cons hd2 .nil)))
        refine ⟨p, vs, v, rfl, rfl, hp, by rw [hds.length]; exact hz, ?_⟩
        exact g1 _ _ (st2.trans st3) R3 .non .non trivial
      · exact g1.no
theorem de_pop (hN : X.N[i]? = some x) (ha : DE X B e fe) (hv : Vis X.env.scope x := by first | exact Or.inl rfl | exact Or.inr (Or.inl rfl) | exact Or.inr (Or.inr rfl)) (hd : (x == ("__debug__" : Str)) = false := by decide) (hcd : (x == ("__classdict__" : Str)) = false := by decide)
    (hbase : attributeBase (.Name x npos) "pop" X.env (eval (.Name x npos) X.env) = eval (.Name x npos) X.env := by rfl)
    (hfew : ((backTo pos (starEach [e] X.env)).all (fun x => !x.1) && (backToKw pos (keywordEach [] X.env)).all (fun x => x.1.isSome)
      && decide (([e] : List Expr).length + ([] : List Keyword).length + (if ([] : List Keyword).isEmpty then 0 else 1) < 30)) = true := by rfl)
    (hline : (apos.endLine == pos.line) = true := by rfl) (hs : starEach [e] X.env = (false, eval e X.env) :: starEach [] X.env := by rfl) (hplain : (backTo pos (starEach [] X.env)).any (·.1) = false := by rfl) :
    DE X B (.Call (.Attribute (.Name x npos) "pop" apos) [e] [] pos) (popM i fe) := by
  refine ⟨fun F γ s σ H R Q g => ?_⟩
  refine wE_of (pe_bm PySem.F.plainAttrs_list PySem.F.slot_list_pop PySem.F.type_list_pop mt_popAt (pe_var hN hv hd hcd) (pa_cons pe_w pa_nil hs) hbase hfew hline hs hplain) ?_
  refine recv R g fun p vs0 ev hp0 g => ?_
  refine ⟨.ref p, ev, .inl ⟨rfl, vs0, .of hp0⟩, ?_⟩
  refine ha.run F γ s σ H R _ (Good.thenO g fun o s1 F1 H1 e0 st1 R1 g1 v hv hn => ?_)
  cases e2 : ownL i s1 with
  | ex y s3 => exact (ownL_noex e2).elim
  | bad => rw [bind_bad e2] at g1; exact g1.no
  | ok xs s3 =>
    obtain ⟨rfl, e3, q, vs, ev', hp, hds⟩ := ownL_ok R1 e2
    rw [bind_of e2] at g1
    rw [ev] at ev'
    cases ev'
    split at g1
    · rename_i hl
      unfold popAt at g1
      split at g1
      · rename_i j
        have hv' : Dq X.K F1 v (.int j) := hv
        obtain rfl := hv'.int_
        cases e4 : ixN xs.length j with
        | none => rw [e4] at g1; exact g1.no
        | some kk =>
          rw [e4] at g1
          dsimp only at g1
          cases e5 : xs[kk]? with
          | none => rw [e5] at g1; exact g1.no
          | some d =>
            rw [e5] at g1
            dsimp only at g1
            obtain ⟨z, ez, hz⟩ := hds.get' e5
            obtain ⟨h1, h2, h3, h4⟩ := ixN_seq e4
            obtain ⟨R3, st3⟩ := rel_mut R1 e3 ev (.lst (hds.eraseIdx kk))
            have hn63 := line63
            refine ⟨p, vs, j, kk, z, rfl, rfl, hp, ?_, ?_, by rw [hds.length]; exact h1, ez, ?_⟩
            · have := hds.length
              omega
            · have := hds.length
              omega
            · exact g1 _ _ (st1.trans st3) R3 z (hz) trivial
      · exact g1.no
    · exact g1.no
end
end PD
end

section
set_option Elab.async false
set_option linter.all false
set_option maxRecDepth 100000
set_option maxHeartbeats 4000000
set_option autoImplicit false
/-! PDx: a def at hand where each call takes one step of room (the library's FnOk asks three). -/
namespace PD
open PySem PySem.Spec L2
open PyProof.Rows hiding St
structure RoomX (k : Nat) (A : Around) : Prop where
  hd : A.handled = none
  dp : A.depth + k + 40 < recursionLimit
  un : A.units + 5 * k + 400 < cLine
section
variable {k j : Nat} {A : Around}
theorem RoomX.mono (r : RoomX k A) (h : j ≤ k) : RoomX j A := ⟨r.hd, by have := r.dp; omega, by have := r.un; omega⟩
theorem RoomX.deeper (r : RoomX (k + 1) A) (env : Env) : RoomX k (A.deeper env) :=
  ⟨r.hd, by have := r.dp; show A.depth + 1 + k + 40 < _; omega, by have := r.un; show A.units + 3 + 5 * k + 400 < _; omega⟩
theorem RoomX.depth (r : RoomX k A) : A.depth < recursionLimit := by have := r.dp; omega
theorem RoomX.units (r : RoomX k A) : A.units + 64 < cLine := by have := r.un; omega
theorem roomX_of (r : Room j A) (h : k + 40 ≤ 3 * j + 5) (h2 : 5 * k + 400 ≤ 16 * j + 200) : RoomX k A := ⟨r.hd, by have := r.dp; omega, by have := r.un; omega⟩
end
structure FnX (P : Program) (w : World) (K : PySem.W.Frag) (mg : Str → Option Value) (base : Heap) (CX : CXT) (k : Nat) (f : Addr) (fd : FuncData) (ps : List Str) (sp : Sp) : Prop where
  len : ∀ vs H Q E, sp vs H Q E → vs.length = ps.length
  run : ∀ (A : Around) (outer : List Env) (s : Shared) (H : Hp) (args : Args) (us : List Value) (vs : List V) (Q : VK) (E : XK), RoomX k A → Env0 P w K mg base A outer s H → BindsTo s fd args (ps.zip us) → Vals vs us → sp vs H Q E →
    codeAny (model P w) A (.call (.ref f) args) (CR CX outer P w H s Q E) s
section
variable {P : Program} {w : World} {K : PySem.W.Frag} {mg : Str → Option Value} {base : Heap}
theorem okFX {x qual : Str} {st : Stmt} {f : Addr} {fd : FuncData} {N ps : List Str} {k : Nat} {sp : Sp} (F : L2.Fun K x qual st f fd) (S : FnScope N ps (defScope st)) (len : ∀ vs H Q E, sp vs H Q E → vs.length = ps.length)
    (hbody : ∀ (cdv : Value) (A : Around) (outer : List Env) (s : Shared) (H : Hp) (vs : List V) (Q : VK) (E : XK), RoomX k (A.deeper (envOfC qual (defScope st) s.heap.objs.size f cdv)) → sp vs H Q E →
      ∃ t, PSs (cxOf (L2.CX P w) P w K mg base N qual (defScope st) f cdv A outer s H E) (defBody st) t ∧ t { nx := fun _ H' => Q .non H', rt := Q } (start N vs) H) : FnX P w K mg base (L2.CX P w) (k + 1) f fd ps sp := by
  obtain ⟨oc, od, kV, doc, pm, an, cdv, ct, osl, rfl, lk, hcd⟩ := F.ex
  refine ⟨len, fun A outer s H args us vs Q E hr e0 hb r hsp => ?_⟩
  have hl := len _ _ _ _ hsp
  have kin : K.In s.heap := e0.mod.kin.keeps fun b o e => (e0.bs b o e).1
  have nol : s.heap.NoLimit := e0.mod.nolimit.keeps fun b o e => (e0.bs b o e).1
  have kinds : ∀ y ∈ ps.zip us, (defScope st).names.lookup y.1 = some .local ∨ ((defScope st).names.lookup y.1 = some .cell ∧ ((cellsFrom (s.heap.objs.size + 1) (defScope st).names []).lookup y.1).isSome = true) := fun ⟨n, v⟩ hy => by
    rcases S.par n (List.of_mem_zip hy).1 with q | q
    · exact .inl q
    · exact .inr ⟨q, PySem.W.cellsFrom_some _ _ _ (.inl q)⟩
  refine codeAny_call_function hr.depth (kin _ _ lk) rfl S.co S.gen rfl (PySem.W.codeRec_of kin hcd) (hb _ _ _ _ ?_)
  refine wpAny_newFunctionEnv_cells S.kind kinds fun env he s1 z => ?_
  subst he
  refine ⟨nol.keeps z.toInCall.keep, codeAny_func ?_⟩
  obtain ⟨t, ht, hq⟩ := hbody cdv A outer s H vs Q E (hr.deeper _) hsp
  have I : Inv (cxOf (L2.CX P w) P w K mg base N qual (defScope st) f cdv A outer s H E) [] (start N vs) H s1 := inv_start S hr.hd e0 hl r z
  refine wpAny_mono (ht.run [] s1 (start N vs) H _ I hq) (fun fl s' hs => ?_) fun e s' hs => hs
  cases fl with
  | ret u =>
    obtain ⟨v, σ', H', J, rv, q⟩ := hs
    exact ⟨v, H', J.os, J.bare, J.base, J.hok, rv, q⟩
  | next =>
    obtain ⟨σ', H', J, q⟩ := hs
    exact ⟨V.non, H', J.os, J.bare, J.base, J.hok, (rfl : RelV V.non Value.none), q⟩
  | brk => exact (let ⟨_, _, _, q⟩ := hs; False.elim q)
  | cont => exact (let ⟨_, _, _, q⟩ := hs; False.elim q)
end
section
variable {X : Cx} {k : Nat} {f : Addr} {fd : FuncData} {ps : List Str} {sp : Sp} {dvs : List V} {ds : List Value} {E : St → XK} {x : Str} {p pos : Pos} {e : Expr} {es : List Expr} {t : TA}
theorem run_FX {pins : List (Addr × Obj)} {σ : St} {H : Hp} {s : Shared} {Q : VK} {us : List Value} {vs : List V} (F : FnX X.prog X.w X.K X.mg X.base (L2.CX X.prog X.w) k f fd ps sp) (hr : RoomX k X.A) (hb : Binds X.K fd ps ds) (hd : Vals dvs ds) (hx : PassesAt (L2.CX X.prog X.w) X σ (E σ))
    (I : Inv X pins σ H s) (r : Vals vs us) (h : sp (vs ++ dvs) H Q (E σ)) : wpAny (model X.prog X.w) X.A (call (.ref f) us) (EP X pins σ Q) X.xe s := by
  have r2 : Vals (vs ++ dvs) (us ++ ds) := r.append hd
  have hl : (us ++ ds).length = ps.length := by rw [← r2.length]; exact F.len _ _ _ _ h
  refine wpAny_call (codeAny_mono (F.run X.A X.stack s H ⟨us, []⟩ (us ++ ds) (vs ++ dvs) Q (E σ) hr I.env0 (hb s us I.kIn hl) r2 h) fun r s' hq => ?_)
  rcases r with e | fl
  · exact hx pins H s e s' I hq
  · cases fl with
    | ret u => exact I.after hq
    | _ => exact False.elim hq
theorem pe_callFX (F : FnX X.prog X.w X.K X.mg X.base (L2.CX X.prog X.w) k f fd ps sp) (hr : RoomX k X.A) (hg : Gl X x) (hm : X.mg x = some (.ref f)) (hk : PySem.W.keepIn X.K (.ref f) = true) (hb : Binds X.K fd ps ds) (hd : Vals dvs ds) (hx : ∀ σ, PassesAt (L2.CX X.prog X.w) X σ (E σ))
    (ha : PA X (e :: es) t) (hdb : (x == ("__debug__" : Str)) = false := by decide) (he : starEach (e :: es) X.env = (false, eval e X.env) :: starEach es X.env := by rfl) (hpl : (backTo pos (starEach es X.env)).any (·.1) = false := by rfl) :
    PE X (.Call (.Name x p) (e :: es) [] pos) (tCallSD sp dvs E t) :=
  ⟨fun pins s σ H Q I h => wpAny_Call_Name_kw (ld_glob I hg hm (PySem.W.callWith_K (h₀ := X.base) I.ok.mod.kin hk (thn (ha.run pos pins s σ H _ I h) fun us s1 ⟨vs, H1, I1, r, q⟩ => ⟨I1.kIn, run_FX F hr hb hd (hx σ) I1 r q⟩) he hpl) hdb)⟩
end
end PD
end

section
set_option Elab.async false
set_option linter.all false
set_option maxRecDepth 100000
set_option maxHeartbeats 4000000
set_option autoImplicit false
namespace PD
open PySem PySem.Spec L2
open PyProof.Rows hiding St
section
variable {X : Cx} {B : Bd}
/-- list.extend by a list that may be read -/
def rExtR : V → List V → Hp → VK → Prop := fun x vs H Q => ∃ l b xs zs, x = .ref l ∧ vs = [.ref b] ∧ H l = some (.lst xs) ∧ Rd H b (.lst zs) ∧ xs.length + zs.length ≤ sizeLine ∧ Q .non (upd H l (.lst (xs ++ zs)))
theorem mt_extR : MtM X "list.extend" rExtR := by
  intro pins s σ H x vs v us Q I rx rv h
  obtain ⟨l, b, xs, zs, rfl, rfl, hH, hB, hz, q⟩ := h
  cases rx
  obtain ⟨u, rfl, ru⟩ := rv.one
  cases ru
  obtain ⟨z, its, n, r, hl, e⟩ := I.lstM hH
  obtain ⟨z2, its2, n2, r2, e2⟩ := rd_lst I hB
  have hl2 := r2.length
  have hsz : its.toArray.size + its2.toArray.size ≤ sizeLine := by rw [List.size_toArray, List.size_toArray]; omega
  have hlong : ¬ (!its.toArray.isEmpty && Builtin.List.listTooLong (its.toArray.size + its2.toArray.size)) = true := by
    rw [notLongL hsz, Bool.and_false]
    exact Bool.false_ne_true
  refine call_meets PySem.F.slot_list_extend ⟨_, e, rfl⟩ PySem.F.entry_list_extend (PySem.F.args_list_extend_2 _ _)
    (AutoSeq1.list_extend_list_list_0 l its.toArray n b its2.toArray n2 hlong (by rw [List.size_toArray]; omega) (by omega)) ⟨e, e2, ?_⟩
  refine ⟨.non, _, I.lset (its' := its ++ its2) hH e (by simp) (r.append r2) ?_, rfl, q⟩
  rw [List.length_append]
  omega
end
section
variable {X : Cx} {B : Bd} {e : Expr} {fe : M Op} {apos pos npos : Pos} {x : Str} {i : Nat}
theorem de_extend (hN : X.N[i]? = some x) (ha : DE X B e fe) (hv : Vis X.env.scope x := by first | exact Or.inl rfl | exact Or.inr (Or.inl rfl) | exact Or.inr (Or.inr rfl)) (hd : (x == ("__debug__" : Str)) = false := by decide) (hcd : (x == ("__classdict__" : Str)) = false := by decide)
    (hbase : attributeBase (.Name x npos) "extend" X.env (eval (.Name x npos) X.env) = eval (.Name x npos) X.env := by rfl)
    (hfew : ((backTo pos (starEach [e] X.env)).all (fun x => !x.1) && (backToKw pos (keywordEach [] X.env)).all (fun x => x.1.isSome)
      && decide (([e] : List Expr).length + ([] : List Keyword).length + (if ([] : List Keyword).isEmpty then 0 else 1) < 30)) = true := by rfl)
    (hline : (apos.endLine == pos.line) = true := by rfl) (hs : starEach [e] X.env = (false, eval e X.env) :: starEach [] X.env := by rfl) (hplain : (backTo pos (starEach [] X.env)).any (·.1) = false := by rfl) :
    DE X B (.Call (.Attribute (.Name x npos) "extend" apos) [e] [] pos) (extendM i fe) := by
  refine ⟨fun F γ s σ H R Q g => ?_⟩
  refine wE_of (pe_bm PySem.F.plainAttrs_list PySem.F.slot_list_extend PySem.F.type_list_extend mt_extR (pe_var hN hv hd hcd) (pa_cons pe_w pa_nil hs) hbase hfew hline hs hplain) ?_
  refine recv R g fun p vs0 ev hp0 g => ?_
  refine ⟨.ref p, ev, .inl ⟨rfl, vs0, .of hp0⟩, ?_⟩
  refine ha.run F γ s σ H R _ (Good.thenO g fun o s1 F1 H1 e0 st1 R1 g1 v hv hn => ?_)
  cases e1 : view o s1 with
  | ex y s2 => unfold view at e1; split at e1 <;> first | cases e1 | (split at e1 <;> cases e1)
  | bad => rw [bind_bad e1] at g1; exact g1.no
  | ok w s2 =>
    have es := view_same e1
    subst es
    rw [bind_of e1] at g1
    cases e2 : ownL i s2 with
    | ex y s3 => exact (ownL_noex e2).elim
    | bad => rw [bind_bad e2] at g1; exact g1.no
    | ok xs s3 =>
      obtain ⟨rfl, e3, q, vs, ev', hp, hds⟩ := ownL_ok R1 e2
      rw [bind_of e2] at g1
      rw [ev] at ev'
      cases ev'
      split at g1
      · rename_i ys _
        split at g1
        · rename_i hz
          obtain ⟨b, ws, rfl, h1, h2⟩ := view_ok R1 hv e1
          obtain ⟨R3, st3⟩ := rel_mut R1 e3 ev (.lst (hds.app h2))
          refine ⟨p, b, vs, ws, rfl, rfl, hp, h1, by rw [hds.length, h2.length]; exact hz, ?_⟩
          exact g1 _ _ (st1.trans st3) R3 .non .non trivial
        · exact g1.no
      · exact g1.no
/-! ### get -/
def toDct (o : Op) : M Unit := fun s => match view o s with
  | .ok (.obj (.dct _)) _ => .ok () s
  | _ => .bad
def getAt (o k : Op) (d : D) : M Op := fun s => match view o s with
  | .ok (.obj (.dct kvs)) _ => match k with
    | .val kd => match keyOf kd with
      | some kk => .ok (.val ((valD kvs kk).getD d)) s
      | none => .bad
    | _ => .bad
  | _ => .bad
def get1M (fo fk : M Op) : M Op := do
  let o ← fo
  let _ ← toDct o
  let k ← fk
  getAt o k .none
def get2M (fo fk fd : M Op) : M Op := do
  let o ← fo
  let _ ← toDct o
  let k ← fk
  let d ← fd
  fun s => match d with
    | .val d => getAt o k d s
    | _ => .bad
theorem toDct_ok {o : Op} {s s' : Sg} {u : Unit} (e : toDct o s = .ok u s') : s' = s ∧ ∃ kvs s1, view o s = .ok (.obj (.dct kvs)) s1 := by
  unfold toDct at e
  split at e
  · rename_i kvs s1 e1
    cases e
    exact ⟨rfl, kvs, s1, e1⟩
  · cases e
theorem toDct_noex {o : Op} {s s' : Sg} {y : Xn} : toDct o s ≠ .ex y s' := by
  unfold toDct
  split <;> intro z <;> cases z
theorem getD_ok {K : PySem.W.Frag} {F : Hp} {ks : List (Key × V)} {kvs : List (Key × D)} (h : dpc_kv K F ks kvs) (k : Key) {v : V} {d : D} (hd : Dq K F v d) : Dq K F ((valV ks k).getD v) ((valD kvs k).getD d) := by
  have q := kv_val k h
  cases e1 : valV ks k <;> cases e2 : valD kvs k <;> rw [e1, e2] at q
  · exact hd
  · exact q.elim
  · exact q.elim
  · exact q
theorem de_get1 {o : Expr} {fo : M Op} (hu : X.A.units + 64 < cLine) (ho : DE X B o fo) (he : DE X B e fe) (m : M1 X o "get" apos e pos) : DE X B (.Call (.Attribute o "get" apos) [e] [] pos) (get1M fo fe) := by
  refine ⟨fun F γ s σ H R Q g => ?_⟩
  refine wE_of (pe_dget1 (by omega) pe_w pe_w m) ?_
  refine ho.run F γ s σ H R _ (g.then fun oo s1 F1 H1 _ st1 R1 g1 x hx hn => ?_)
  cases e1 : toDct oo s1 with
  | ex y s2 => exact (toDct_noex e1).elim
  | bad => rw [bind_bad e1] at g1; exact g1.no
  | ok u s2 =>
    obtain ⟨rfl, kvs, s3, e2⟩ := toDct_ok e1
    rw [bind_of e1] at g1
    obtain ⟨a, ks, rfl, hd, hk⟩ := view_ok R1 hx e2
    refine ⟨a, rfl, .inl ⟨ks, .inl hd⟩, ?_⟩
    refine he.run F1 γ s2 σ H1 R1 _ (Good.then (m := fe) (k := fun k => getAt oo k .none) g1 fun ok s4 F2 H2 e4 st2 R2 g2 y hy hn2 => ?_)
    unfold getAt at g2
    split at g2
    · rename_i kvs2 s5 e3
      obtain ⟨a2, ks2, ea, hd2, hk2⟩ := view_ok R2 (hx.stp st2) e3
      cases ea
      split at g2
      · rename_i kd
        split at g2
        · rename_i kk ek
          have hy' : Dq X.K F2 y kd := hy
          have ex := key_is hy' ek
          subst ex
          refine ⟨valV ks2 kk, DGet.k hd2, ?_⟩
          exact g2.ok0 R2 st2 (st1.trans st2) _ (getD_ok hk2 kk .non) trivial
        · exact g2.no
      · exact g2.no
    · exact g2.no
theorem de_get2 {o f : Expr} {fo ff : M Op} (hu : X.A.units + 64 < cLine) (ho : DE X B o fo) (he : DE X B e fe) (hf : DE X B f ff) (m : M2 X o "get" apos e f pos) : DE X B (.Call (.Attribute o "get" apos) [e, f] [] pos) (get2M fo fe ff) := by
  refine ⟨fun F γ s σ H R Q g => ?_⟩
  refine wE_of (pe_dget2 (by omega) pe_w pe_w pe_w m) ?_
  refine ho.run F γ s σ H R _ (g.then fun oo s1 F1 H1 _ st1 R1 g1 x hx hn => ?_)
  cases e1 : toDct oo s1 with
  | ex y s2 => exact (toDct_noex e1).elim
  | bad => rw [bind_bad e1] at g1; exact g1.no
  | ok u s2 =>
    obtain ⟨rfl, kvs, s3, e2⟩ := toDct_ok e1
    rw [bind_of e1] at g1
    obtain ⟨a, ks, rfl, hd, hk⟩ := view_ok R1 hx e2
    refine ⟨a, rfl, .inl ⟨ks, .inl hd⟩, ?_⟩
    refine he.run F1 γ s2 σ H1 R1 _ (Good.then (m := fe) (k := fun k => ff >>= fun d => fun s => match d with | .val d => getAt oo k d s | _ => .bad) g1 fun ok s4 F2 H2 e4 st2 R2 g2 y hy hn2 => ?_)
    refine hf.run F2 γ s4 σ H2 R2 _ (Good.then (m := ff) (k := fun d => fun s => match d with | .val d => getAt oo ok d s | _ => .bad) g2 fun od s6 F3 H3 e6 st3 R3 g3 z hz hn3 => ?_)
    split at g3
    · rename_i dd
      have hz' : Dq X.K F3 z dd := hz
      unfold getAt at g3
      split at g3
      · rename_i kvs2 s5 e3
        obtain ⟨a2, ks2, ea, hd2, hk2⟩ := view_ok R3 ((hx.stp st2).stp st3) e3
        cases ea
        split at g3
        · rename_i kd
          split at g3
          · rename_i kk ek
            have hy' : Dq X.K F3 y kd := hy.stp st3
            have ex := key_is hy' ek
            subst ex
            refine ⟨valV ks2 kk, DGet.k hd2, ?_⟩
            exact g3.ok0 R3 st3 (st2.trans st3) (st1.trans (st2.trans st3)) _ (getD_ok hk2 kk hz') trivial
          · exact g3.no
        · exact g3.no
      · exact g3.no
    · exact g3.no
end

/-! ### defs -/
def argOf (o : Op) : M Arg := fun s => match o with
  | .val d => .ok (.val d) s
  | .new (.lst xs) => .ok (.val (.list xs)) s
  | .new (.dct kvs) => .ok (.bor (.dct kvs)) s
  | .slot i => match s.ρ[i]? with
    | some (.own _ c) => .ok (.bor c) s
    | some (.bor c) => .ok (.bor c) s
    | some (.val d) => .ok (.val d) s
    | _ => .bad
  | .glob => .ok .glob s
def argsOf : List Op → M (List Arg)
  | [] => pure []
  | o :: os => do
    let a ← argOf o
    let as ← argsOf os
    pure (a :: as)
def ArgOk (K : PySem.W.Frag) (F H : Hp) (γ : Option Addr) (v : V) : Arg → Prop
  | .val d => Dq K F v d
  | .bor c => ∃ p o, v = .ref p ∧ H p = some o ∧ COk K F o c ∧ some p ≠ γ
  | .glob => ∃ a, γ = some a ∧ v = .ref a
def GAt (K : PySem.W.Frag) (F H : Hp) : G → Option Addr → Prop
  | none, none => True
  | some xs, some a => ∃ vs, H a = some (.lst vs) ∧ DqAll K F vs xs ∧ F a = none
  | _, _ => False
structure Post (K : PySem.W.Frag) (F : Hp) (γ : Option Addr) (H F' H' : Hp) (g' : G) : Prop where
  fm : Le F F'
  fn : ∀ a o, F' a = some o → F a = some o ∨ H a = none
  fh : Le F' H'
  hk : ∀ a o, H a = some o → some a ≠ γ → H' a = some o
  dm : ∀ a o, H a = some o → ∃ o', H' a = some o'
  gl : GNew K F' H' g' γ
def RetF (K : PySem.W.Frag) (H F' H' : Hp) (v : V) : Ret → Prop
  | .val d => Dq K F' v d
  | .new c => ∃ p o, v = .ref p ∧ H' p = some o ∧ COk K F' o c ∧ F' p = none ∧ H p = none
/-- what a def promises whose meaning is fn -/
def spF (K : PySem.W.Frag) (mg : Str → Option Value) (n : Nat) (fn : Fn) : Sp := fun vs H Q E => ∃ (F : Hp) (γ : Option Addr) (g : G) (as : List Arg), Le F H ∧ GAt K F H g γ ∧ Paired (ArgOk K F H γ) vs as ∧ as.length = n ∧
  match fn as g with
  | .ok r g' => ∀ v F' H', Post K F γ H F' H' g' → RetF K H F' H' v r → Q v H'
  | .ex x g' => ∀ cls d F' H', Post K F γ H F' H' g' → XOk mg K F' H' cls d x → E cls d H'
  | .bad => False
def fnM (fn : Fn) (as : List Arg) : M Op := fun s => match fn as s.g with
  | .ok (.val d) g' => .ok (.val d) { s with g := g' }
  | .ok (.new c) g' => .ok (.new c) { s with g := g' }
  | .ex x g' => .ex x { s with g := g' }
  | .bad => .bad
def callM (fn : Fn) (fs : M (List Op)) : M Op := do
  let os ← fs
  let as ← argsOf os
  fnM fn as
section
variable {K : PySem.W.Frag} {B : Bd} {F H H₀ : Hp} {γ : Option Addr} {s : Sg} {σ : St}
theorem argOf_ok {F₀ : Hp} {s₀ : Sg} (R : Rel K B F γ s σ H) (st : Stp F₀ γ s₀ σ H₀ F s H) {v : V} {o : Op} (h : OpW K B F γ s σ H H₀ v o) {a : Arg} {s' : Sg} (e : argOf o s = .ok a s') :
    ∃ F', s' = s ∧ Le F F' ∧ Rel K B F' γ s σ H ∧ ArgOk K F' H γ v a ∧ Stp F₀ γ s₀ σ H₀ F' s H ∧ ∀ w o', OpW K B F γ s σ H H₀ w o' → OpW K B F' γ s σ H H₀ w o' := by
  cases o with
  | val d =>
    cases e
    exact ⟨F, rfl, Le.refl F, R, h, st, fun _ _ x => x⟩
  | glob =>
    cases e
    exact ⟨F, rfl, Le.refl F, R, h, st, fun _ _ x => x⟩
  | new c =>
    cases c with
    | dct kvs =>
      cases e
      obtain ⟨p, o, rfl, hp, ck, _, _, hg, _⟩ := h
      exact ⟨F, rfl, Le.refl F, R, ⟨p, o, rfl, hp, ck, hg⟩, st, fun _ _ x => x⟩
    | lst xs =>
      cases e
      obtain ⟨F', f1, R1, hd, st1, k1⟩ := frz_ok (d := .list xs) (s' := s) R st h rfl
      exact ⟨F', rfl, f1, R1, hd, st1, k1⟩
  | slot i =>
    obtain ⟨ev, sl, e1, _⟩ := h
    unfold argOf at e
    dsimp only at e
    rw [e1] at e
    have so := R.slot i sl e1
    cases sl with
    | no => cases e
    | exc => cases e
    | glob => cases e
    | val d =>
      cases e
      obtain ⟨u, eu, hd⟩ := so
      rw [ev] at eu
      cases eu
      exact ⟨F, rfl, Le.refl F, R, hd, st, fun _ _ x => x⟩
    | own lk c =>
      cases e
      obtain ⟨p, o, eu, hp, ck, _, _, hg⟩ := so
      rw [ev] at eu
      cases eu
      exact ⟨F, rfl, Le.refl F, R, ⟨p, o, rfl, hp, ck, hg⟩, st, fun _ _ x => x⟩
    | bor c =>
      cases e
      obtain ⟨p, o, eu, hp, ck, _, hg⟩ := so
      rw [ev] at eu
      cases eu
      exact ⟨F, rfl, Le.refl F, R, ⟨p, o, rfl, hp, ck, hg⟩, st, fun _ _ x => x⟩
theorem ArgOk.mono {F F' H : Hp} {γ : Option Addr} {v : V} {a : Arg} (fm : Le F F') (h : ArgOk K F H γ v a) : ArgOk K F' H γ v a := by
  cases a with
  | val d => exact Dq.mono fm h
  | glob => exact h
  | bor c =>
    obtain ⟨p, o, e, hp, ck, r⟩ := h
    exact ⟨p, o, e, hp, ck.mono fm, r⟩
theorem argsOf_ok {F₀ : Hp} {s₀ : Sg} : ∀ {os : List Op} {vs : List V} {F : Hp} {s s' : Sg} {as : List Arg}, Rel K B F γ s σ H → Stp F₀ γ s₀ σ H₀ F s H → Paired (OpW K B F γ s σ H H₀) vs os → argsOf os s = .ok as s' →
    ∃ F', s' = s ∧ Le F F' ∧ Rel K B F' γ s σ H ∧ Paired (ArgOk K F' H γ) vs as ∧ Stp F₀ γ s₀ σ H₀ F' s H
  | [], _, F, s, s', as, R, st, .nil, e => by
    cases e
    exact ⟨F, rfl, Le.refl F, R, .nil, st⟩
  | o :: os, _, F, s, s', as, R, st, .cons h t, e => by
    obtain ⟨a, s1, e1, e⟩ := bind_ok e
    obtain ⟨as', s2, e2, e⟩ := bind_ok e
    cases e
    obtain ⟨F1, rfl, f1, R1, ha, st1, k1⟩ := argOf_ok R st h e1
    obtain ⟨F2, rfl, f2, R2, has, st2⟩ := argsOf_ok R1 st1 (L2.Paired.mapP t fun _ _ x => k1 _ _ x) e2
    exact ⟨F2, rfl, f1.trans f2, R2, .cons (ha.mono f2) has, st2⟩
theorem argOf_noex {o : Op} {s s' : Sg} {x : Xn} : argOf o s ≠ .ex x s' := by
  intro e
  unfold argOf at e
  split at e
  · cases e
  · cases e
  · cases e
  · split at e <;> cases e
  · cases e
theorem argsOf_noex : ∀ {os : List Op} {s s' : Sg} {x : Xn}, argsOf os s ≠ .ex x s'
  | [], s, s', x, e => by cases e
  | o :: os, s, s', x, e => by
    rcases bind_ex e with e | ⟨d, s1, e1, e⟩
    · exact argOf_noex e
    · rcases bind_ex e with e | ⟨ds, s2, e2, e⟩
      · exact argsOf_noex e
      · cases e
theorem Rel.gat (R : Rel K B F γ s σ H) : GAt K F H s.g γ := by
  have gl := R.gl
  cases eg : s.g with
  | none =>
    rw [eg] at gl
    cases γ with
    | none => trivial
    | some a => exact gl.elim
  | some xs =>
    rw [eg] at gl
    cases γ with
    | none => exact gl.elim
    | some a =>
      obtain ⟨vs, a1, a2, a3, _⟩ := gl
      exact ⟨vs, a1, a2, a3⟩
end
section
variable {X : Cx} {B : Bd} {e : Expr} {es : List Expr} {fs : M (List Op)} {p pos : Pos} {x : Str} {f : Addr} {fd : FuncData} {ps : List Str} {k : Nat} {fn : Fn}
theorem call_conn {F H H₀ F₀ : Hp} {γ : Option Addr} {s s₀ : Sg} {σ : St} {Q : VK} {as : List Arg} {vs : List V} (R : Rel X.K B F γ s σ H) (st : Stp F₀ γ s₀ σ H₀ F s H) (ha : Paired (ArgOk X.K F H γ) vs as) (hl : as.length = k)
    (g : Good X B F₀ γ s₀ σ H₀ (fnM fn as s) (fun o s' F' H' => ∀ v, OpOk X.K B F' γ s' σ H' v o → NewIn H₀ v o → Q v H')) : spF X.K X.mg k fn vs H Q (WE B.W σ) := by
  refine ⟨F, γ, s.g, as, R.fh, R.gat, ha, hl, ?_⟩
  unfold fnM at g
  cases e : fn as s.g with
  | bad => rw [e] at g; exact g
  | ex y g' =>
    rw [e] at g
    intro cls d F' H' po xo
    obtain ⟨R', st'⟩ := rel_grow R po.fm po.fh po.fn po.hk po.dm po.gl
    exact g cls d F' H' (st.trans st') R' xo
  | ok r g' =>
    rw [e] at g
    intro v F' H' po ro
    obtain ⟨R', st'⟩ := rel_grow R po.fm po.fh po.fn po.hk po.dm po.gl
    cases r with
    | val d => exact g F' H' (st.trans st') R' v ro trivial
    | new c =>
      obtain ⟨q, o, rfl, hq, ck, fq, hn⟩ := ro
      refine g F' H' (st.trans st') R' _ ⟨q, o, rfl, hq, ck, fq, R.h0_none hn, R.γ_some hn, fun i sl e1 e2 e3 => ?_⟩ (fun p ep => by cases ep; exact st.none_back hn)
      have so := R.slot i sl e1
      cases sl with
      | no => cases e2
      | val d => cases e2
      | exc => cases e2
      | glob => cases e2
      | own lk c =>
        obtain ⟨p, o, ev, hp, _⟩ := so
        rw [e3] at ev
        cases ev
        rw [hn] at hp; cases hp
      | bor c =>
        obtain ⟨p, o, ev, hp, _⟩ := so
        rw [e3] at ev
        cases ev
        rw [hn] at hp; cases hp
theorem args_conn {F H : Hp} {γ : Option Addr} {s : Sg} {σ : St} {Q : VK} (R : Rel X.K B F γ s σ H) (hA : DA X B es fs) (hl : ∀ (os : List Op) (as : List Arg), es.length = os.length → as.length = os.length → as.length = k)
    (hlen : ∀ s os s', fs s = .ok os s' → os.length = es.length)
    (g : Good X B F γ s σ H (callM fn fs s) (fun o s' F' H' => ∀ v, OpOk X.K B F' γ s' σ H' v o → NewIn H v o → Q v H')) :
    wA X es σ H fun vs H1 => spF X.K X.mg k fn vs H1 Q (WE B.W σ) := by
  refine hA.run F γ s σ H R _ (Good.thenO g fun os s1 F1 H1 e0 st1 R1 g1 vs hvs => ?_)
  cases e1 : argsOf os s1 with
  | ex y s2 => exact (argsOf_noex e1).elim
  | bad => rw [bind_bad e1] at g1; exact g1.no
  | ok as s2 =>
    rw [bind_of e1] at g1
    obtain ⟨F2, rfl, f2, R2, has, st2⟩ := argsOf_ok R1 st1 hvs.pw e1
    refine call_conn R2 st2 has ?_ g1
    have l1 : vs.length = as.length := Paired.length has
    have l2 : vs.length = os.length := Paired.length hvs.pw
    exact hl os as (hlen _ _ _ e0).symm (by omega)
theorem de_call (Fk : FnX X.prog X.w X.K X.mg X.base (L2.CX X.prog X.w) k f fd ps (spF X.K X.mg ps.length fn)) (tk : Takes X B.W) (hr : RoomX k X.A) (hg : Gl X x) (hm : X.mg x = some (.ref f)) (hk : PySem.W.keepIn X.K (.ref f) = true) (hb : Binds X.K fd ps [])
    (ha : DA X B (e :: es) fs) (hn : (e :: es).length = ps.length) (hlen : ∀ s os s', fs s = .ok os s' → os.length = (e :: es).length)
    (hdb : (x == ("__debug__" : Str)) = false := by decide) (he : starEach (e :: es) X.env = (false, eval e X.env) :: starEach es X.env := by rfl) (hpl : (backTo pos (starEach es X.env)).any (·.1) = false := by rfl) :
    DE X B (.Call (.Name x p) (e :: es) [] pos) (callM fn fs) := by
  refine ⟨fun F γ s σ H R Q g => ?_⟩
  refine wE_of (pe_callFX (E := fun σ => WE B.W σ) Fk hr hg hm hk hb .nil (fun σ => passAt tk σ) pa_w hdb he hpl) ?_
  have q := args_conn (k := ps.length) R ha (fun os as h1 h2 => by omega) hlen g
  refine fun pos pins w I => thn (q pos pins w I) fun us s1 ⟨vs, H1, I1, r1, q1⟩ => ⟨vs, H1, I1, r1, ?_⟩
  show spF X.K X.mg ps.length fn (vs ++ []) H1 Q (WE B.W σ)
  rw [List.append_nil]
  exact q1
theorem de_call0 (Fk : FnX X.prog X.w X.K X.mg X.base (L2.CX X.prog X.w) k f fd [] (spF X.K X.mg 0 fn)) (tk : Takes X B.W) (hr : RoomX k X.A) (hg : Gl X x) (hm : X.mg x = some (.ref f)) (hk : PySem.W.keepIn X.K (.ref f) = true) (hb : Binds X.K fd [] [])
    (hdb : (x == ("__debug__" : Str)) = false := by decide) : DE X B (.Call (.Name x p) [] [] pos) (fnM fn []) := by
  refine ⟨fun F γ s σ H R Q g pins w I => ?_⟩
  refine wpAny_Call_Name_kw (ld_glob I hg hm ?_ hdb)
  refine PySem.W.callWith_K0 I.kIn hk (run_FX (us := []) (vs := []) (dvs := []) (ds := []) (E := fun σ => WE B.W σ) Fk hr hb .nil (passAt tk σ) I .nil ?_)
  exact call_conn R Stp.refl .nil rfl g
/-- the number of arguments -/
def LenA (fs : M (List Op)) (n : Nat) : Prop := ∀ s os s', fs s = .ok os s' → os.length = n
theorem len_nil : LenA (pure []) 0 := fun s os s' e => by cases e; rfl
theorem len_cons {f : M Op} {n : Nat} (h : LenA fs n) : LenA (consM f fs) (n + 1) := fun s os s' e => by
  obtain ⟨o, s1, e1, e⟩ := bind_ok e
  obtain ⟨os', s2, e2, e⟩ := bind_ok e
  cases e
  rw [List.length_cons, h _ _ _ e2]
end
end PD
end

section
set_option Elab.async false
set_option linter.all false
set_option maxRecDepth 100000
set_option maxHeartbeats 4000000
set_option autoImplicit false
namespace PD
open PySem PySem.Spec L2
open PyProof.Rows hiding St

/-! ### slots -/
section
variable {K : PySem.W.Frag} {B : Bd} {F H : Hp} {γ : Option Addr} {s : Sg} {σ : St}
theorem rel_set (R : Rel K B F γ s σ H) {j : Nat} {sl : Slt} {v : V} (ok : SlotOk K B F H γ (some (some v)) sl)
    (hd : ∀ lk c, sl = .own lk c → ∀ (i : Nat) (sl' : Slt), s.ρ[i]? = some sl' → sl'.isObj = true → i ≠ j → σ[i]? ≠ some (some v)) : Rel K B F γ { s with ρ := s.ρ.set j sl } (σ.set j (some v)) H := by
  by_cases hj : j < s.ρ.length
  · have hjσ : j < σ.length := by rw [← R.len]; exact hj
    have at_ : ∀ (i : Nat) (sl' : Slt), (s.ρ.set j sl)[i]? = some sl' → (i = j ∧ sl' = sl ∧ (σ.set j (some v))[i]? = some (some v)) ∨ (i ≠ j ∧ s.ρ[i]? = some sl' ∧ (σ.set j (some v))[i]? = σ[i]?) := fun i sl' e => by
      by_cases hij : j = i
      · subst hij
        rw [List.getElem?_set_self hj] at e
        cases e
        exact .inl ⟨rfl, rfl, List.getElem?_set_self hjσ⟩
      · rw [List.getElem?_set_ne hij] at e
        exact .inr ⟨fun z => hij z.symm, e, List.getElem?_set_ne hij⟩
    refine ⟨R.fh, R.f0, R.fn, R.keep, R.dom, by show (s.ρ.set j sl).length = (σ.set j (some v)).length; rw [List.length_set, List.length_set]; exact R.len, fun i sl' e => ?_, fun i k lk c sl' e1 e2 ho hv => ?_, R.gl⟩
    · rcases at_ i sl' e with ⟨_, rfl, ev⟩ | ⟨_, e1, ev⟩
      · rw [ev]; exact ok
      · rw [ev]; exact R.slot i sl' e1
    · rcases at_ i _ e1 with ⟨hi, eo, ev⟩ | ⟨hi, eo, ev⟩
      · rcases at_ k _ e2 with ⟨hk, _, _⟩ | ⟨hk, eo2, ev2⟩
        · rw [hi, hk]
        · rw [ev, ev2] at hv
          exact absurd hv.symm (hd lk c eo.symm k sl' eo2 ho hk)
      · rcases at_ k _ e2 with ⟨hk, eo2, ev2⟩ | ⟨hk, eo2, ev2⟩
        · -- an own slot i, the new object slot k
          rw [ev, ev2] at hv
          subst eo2
          cases sl' with
          | no => cases ho
          | val d => cases ho
          | exc => cases ho
          | glob => cases ho
          | own lk2 c2 => exact absurd hv (hd lk2 c2 rfl i _ eo rfl hi)
          | bor c2 =>
            obtain ⟨p, o, ep, _, _, h0, _⟩ := ok
            obtain ⟨q, o', eq, _, _, _, h0q, _⟩ := R.slot i _ eo
            rw [hv] at eq
            rw [ep] at eq
            cases eq
            rw [h0q] at h0
            cases h0
        · rw [ev, ev2] at hv
          exact R.dist i k lk c sl' eo eo2 ho hv
  · have e1 : s.ρ.set j sl = s.ρ := List.set_eq_of_length_le (by omega)
    have e2 : σ.set j (some v) = σ := List.set_eq_of_length_le (by rw [← R.len]; omega)
    rw [e2]
    have : ({ s with ρ := s.ρ.set j sl } : Sg) = s := by rw [e1]
    rw [this]
    exact R
end

/-! ### statements -/
def seqF (f g : M Fl) : M Fl := do
  let r ← f
  match r with
  | .nx => g
  | r => pure r
section
variable {X : Cx} {B : Bd} {st : Stmt} {rest : List Stmt} {f g : M Fl} {e c : Expr} {fe : M Op} {pos : Pos}
theorem GoodS.le {F F1 : Hp} {r : Out Fl} {E : Ends} (l : Le F F1) (h : GoodS X B F r E) : GoodS X B F1 r E := by
  cases r with
  | ok a s' =>
    cases a with
    | nx => exact fun F' γ' σ' H' l' R => h F' γ' σ' H' (l.trans l') R
    | bk => exact fun F' γ' σ' H' l' R => h F' γ' σ' H' (l.trans l') R
    | ct => exact fun F' γ' σ' H' l' R => h F' γ' σ' H' (l.trans l') R
    | rt r => exact fun F' γ' σ' H' v l' R ro => h F' γ' σ' H' v (l.trans l') R ro
  | ex x s' => exact fun cls d F' γ' σ' H' l' R xo => h cls d F' γ' σ' H' (l.trans l') R xo
  | bad => exact h
theorem dss_nil : DSs X B [] (pure .nx) := ⟨fun F γ s σ H E R h => wSs_of pss_nil ((show GoodS X B F (.ok .nx s) E from h) F γ σ H (Le.refl F) R)⟩
theorem dss_one (h1 : DS X B st f) : DSs X B [st] f := ⟨fun F γ s σ H E R h => wSs_of (pss_one ps_w) (h1.run F γ s σ H E R h)⟩
theorem dss_cons (h1 : DS X B st f) (h2 : DSs X B rest g) : DSs X B (st :: rest) (seqF f g) := by
  refine ⟨fun F γ s σ H E R h => ?_⟩
  refine wSs_of (pss_cons ps_w pss_w) ?_
  refine h1.run F γ s σ H _ R ?_
  unfold seqF at h
  cases q : f s with
  | bad => rw [bind_bad q] at h; exact h
  | ex x s1 => rw [bind_of_ex q] at h; exact h
  | ok a s1 =>
    rw [bind_of q] at h
    cases a with
    | nx => exact fun F' γ' σ' H' l R' => h2.run F' γ' s1 σ' H' E R' (GoodS.le l h)
    | bk => exact h
    | ct => exact h
    | rt r => exact h
theorem ds_pass : DS X B (.Pass pos) (pure .nx) := ⟨fun F γ s σ H E R h => wS_of ps_pass ((show GoodS X B F (.ok .nx s) E from h) F γ σ H (Le.refl F) R)⟩
theorem ds_break : DS X B (.Break pos) (pure .bk) := ⟨fun F γ s σ H E R h => wS_of ps_break ((show GoodS X B F (.ok .bk s) E from h) F γ σ H (Le.refl F) R)⟩
theorem ds_continue : DS X B (.Continue pos) (pure .ct) := ⟨fun F γ s σ H E R h => wS_of ps_continue ((show GoodS X B F (.ok .ct s) E from h) F γ σ H (Le.refl F) R)⟩
theorem ds_doc {x : Str} {j : Nat} {pos' : Pos} : DS X B (.Expr (.Constant (.str x) j pos) pos') (pure .nx) := ⟨fun F γ s σ H E R h => wS_of ps_doc ((show GoodS X B F (.ok .nx s) E from h) F γ σ H (Le.refl F) R)⟩
/-- from an expression to what a statement does -/
theorem Good.ofS {α : Type} {F H : Hp} {γ : Option Addr} {s : Sg} {σ : St} {m : M α} {k : α → M Fl} {E : Ends} {P : α → Sg → Hp → Hp → Prop} (g : GoodS X B F ((m >>= k) s) E)
    (h : ∀ a s1 F1 H1, m s = .ok a s1 → Stp F γ s σ H F1 s1 H1 → Rel X.K B F1 γ s1 σ H1 → GoodS X B F1 (k a s1) E → P a s1 F1 H1) : Good X B F γ s σ H (m s) P := by
  cases e : m s with
  | ok a s1 =>
    rw [bind_of e] at g
    exact fun F1 H1 st R => h a s1 F1 H1 e st R (g.le st.fm)
  | ex x s1 =>
    rw [bind_of_ex e] at g
    exact fun cls d F' H' st R xo => g cls d F' γ σ H' st.fm R xo
  | bad => rw [bind_bad e] at g; exact g
def exprM (fe : M Op) : M Fl := do
  let _ ← fe
  pure .nx
theorem ds_expr (he : DE X B e fe) (hs : swapsWith e none pos.line X.env = pure false := by rfl) : DS X B (.Expr e pos) (exprM fe) := by
  refine ⟨fun F γ s σ H E R h => ?_⟩
  refine wS_of (ps_expr pe_w hs) ?_
  exact he.run F γ s σ H R _ (Good.ofS h fun o s1 F1 H1 _ st1 R1 g1 v hv hn => (show GoodS X B F1 (.ok .nx s1) E from g1) F1 γ σ H1 (Le.refl _) R1)
def retOf (o : Op) : M Fl := fun s => match o with
  | .val d => .ok (.rt (.val d)) s
  | .new c => .ok (.rt (.new c)) s
  | .slot i => match s.ρ[i]? with
    | some (.own _ c) => .ok (.rt (.new c)) s
    | some (.val d) => .ok (.rt (.val d)) s
    | _ => .bad
  | .glob => .bad
theorem ds_ret (he : DE X B e fe) : DS X B (.Return (some e) pos) (fe >>= retOf) := by
  refine ⟨fun F γ s σ H E R h => ?_⟩
  refine wS_of (ps_ret pe_w) ?_
  refine he.run F γ s σ H R _ (Good.ofS h fun o s1 F1 H1 _ st1 R1 g1 v hv hn => ?_)
  unfold retOf at g1
  cases o with
  | val d => exact (show GoodS X B F1 (.ok (.rt (.val d)) s1) E from g1) F1 γ σ H1 v (Le.refl _) R1 hv
  | glob => exact g1.elim
  | new c =>
    obtain ⟨p, o, rfl, hp, ck, fp, h0, hg, _⟩ := hv
    exact (show GoodS X B F1 (.ok (.rt (.new c)) s1) E from g1) F1 γ σ H1 _ (Le.refl _) R1 ⟨p, o, rfl, hp, ck, fp, h0, hg⟩
  | slot i =>
    obtain ⟨ev, sl, e1, _⟩ := hv
    dsimp only at g1
    rw [e1] at g1
    have so := R1.slot i sl e1
    cases sl with
    | no => exact g1.elim
    | exc => exact g1.elim
    | glob => exact g1.elim
    | bor c => exact g1.elim
    | val d =>
      obtain ⟨u, eu, hd⟩ := so
      rw [ev] at eu
      cases eu
      exact (show GoodS X B F1 (.ok (.rt (.val d)) s1) E from g1) F1 γ σ H1 v (Le.refl _) R1 hd
    | own lk c =>
      obtain ⟨p, o, eu, hp, ck, fp, h0, hg⟩ := so
      rw [ev] at eu
      cases eu
      exact (show GoodS X B F1 (.ok (.rt (.new c)) s1) E from g1) F1 γ σ H1 _ (Le.refl _) R1 ⟨p, o, rfl, hp, ck, fp, h0, hg⟩
theorem ds_retN : DS X B (.Return none pos) (pure (.rt (.val .none))) := ⟨fun F γ s σ H E R h => wS_of ps_retN ((show GoodS X B F (.ok (.rt (.val .none)) s) E from h) F γ σ H .non (Le.refl F) R .non)⟩
def ifM (t : M Bool) (f g : M Fl) : M Fl := do
  let b ← t
  if b then f else g
theorem ds_if {a b : List Stmt} {t : M Bool} (hc : DT X B c t) (ha : DSs X B a f) (hb : DSs X B b g) : DS X B (.If c a b pos) (ifM t f g) := by
  refine ⟨fun F γ s σ H E R h => ?_⟩
  refine wS_of (ps_if pt_w pss_w pss_w) ?_
  refine hc.run F γ s σ H R _ (Good.ofS h fun k s1 F1 H1 _ st1 R1 g1 => ?_)
  cases k with
  | true => exact ha.run F1 γ s1 σ H1 E R1 g1
  | false => exact hb.run F1 γ s1 σ H1 E R1 g1
/-! ### storing -/
def setS (i : Nat) (sl : Slt) : M Fl := fun s => .ok .nx { s with ρ := s.ρ.set i sl }
/-- the value is stored for good (a list is frozen) -/
def asgF (i : Nat) (o : Op) : M Fl := fun s => match o with
  | .glob => setS i .glob s
  | .new (.dct kvs) => setS i (.own false (.dct kvs)) s
  | .slot j => match s.ρ[j]? with
    | some (.bor c) => setS i (.bor c) s
    | _ => (frz (.slot j) >>= fun d => setS i (.val d)) s
  | o => (frz o >>= fun d => setS i (.val d)) s
/-- a new object is stored as one's own -/
def asgO (i : Nat) (o : Op) : M Fl := fun s => match o with
  | .new c => setS i (.own false c) s
  | .val d => setS i (.val d) s
  | _ => .bad
/-- a new list is stored as the global one -/
def asgG (i : Nat) (o : Op) : M Fl := fun s => match o, s.g with
  | .new (.lst xs), none => .ok .nx { ρ := s.ρ.set i .glob, g := some xs }
  | _, _ => .bad
section
variable {F H H₀ : Hp} {γ : Option Addr} {s : Sg} {σ : St} {E : Ends} {i : Nat} {v : V} {o : Op}
theorem frzset_ok {F₀ : Hp} {s₀ : Sg} (R : Rel X.K B F γ s σ H) (st : Stp F₀ γ s₀ σ H₀ F s H) (hv : OpW X.K B F γ s σ H H₀ v o) (g : GoodS X B F ((frz o >>= fun d => setS i (.val d)) s) E) : E.nx (σ.set i (some v)) H := by
  cases e : frz o s with
  | ex y s2 => exact (frz_noex y s2 e).elim
  | bad => rw [bind_bad e] at g; exact g.elim
  | ok d s2 =>
    rw [bind_of e] at g
    obtain ⟨F2, f2, R2, hd, st2, _⟩ := frz_ok R st hv e
    exact (show GoodS X B F (.ok .nx { s2 with ρ := s2.ρ.set i (.val d) }) E from g) F2 γ _ H f2 (rel_set R2 ⟨v, rfl, hd⟩ fun lk c z => nomatch z)
theorem asgF_ok {F₀ : Hp} {s₀ : Sg} (R : Rel X.K B F γ s σ H) (st : Stp F₀ γ s₀ σ H₀ F s H) (hv : OpOk X.K B F γ s σ H v o) (hn : NewIn H₀ v o) (g : GoodS X B F (asgF i o s) E) : E.nx (σ.set i (some v)) H := by
  unfold asgF at g
  cases o with
  | val d => exact frzset_ok R st (.of hv hn) g
  | glob =>
    obtain ⟨a, ea, rfl⟩ := hv
    exact (show GoodS X B F (.ok .nx { s with ρ := s.ρ.set i .glob }) E from g) F γ _ H (Le.refl F) (rel_set R ⟨a, ea, rfl⟩ fun lk c z => nomatch z)
  | new c =>
    cases c with
    | lst xs => exact frzset_ok R st (.of hv hn) g
    | dct kvs =>
      obtain ⟨p, o, rfl, hp, ck, fp, h0, hg, hs⟩ := hv
      exact (show GoodS X B F (.ok .nx { s with ρ := s.ρ.set i (.own false (.dct kvs)) }) E from g) F γ _ H (Le.refl F) (rel_set R ⟨p, o, rfl, hp, ck, fp, h0, hg⟩ fun lk c _ j sl' e1 e2 _ => hs j sl' e1 e2)
  | slot j =>
    obtain ⟨ev, sl, e1, q⟩ := hv
    dsimp only at g
    rw [e1] at g
    cases sl with
    | bor c =>
      obtain ⟨p, o, eu, hp, ck, h0, hg⟩ := R.slot j _ e1
      rw [ev] at eu
      cases eu
      exact (show GoodS X B F (.ok .nx { s with ρ := s.ρ.set i (.bor c) }) E from g) F γ _ H (Le.refl F) (rel_set R ⟨p, o, rfl, hp, ck, h0, hg⟩ fun lk c z => nomatch z)
    | no => exact frzset_ok (o := .slot j) R st ⟨ev, _, e1, q⟩ g
    | val d => exact frzset_ok (o := .slot j) R st ⟨ev, _, e1, q⟩ g
    | own lk c => exact frzset_ok (o := .slot j) R st ⟨ev, _, e1, q⟩ g
    | exc => exact frzset_ok (o := .slot j) R st ⟨ev, _, e1, q⟩ g
    | glob => exact frzset_ok (o := .slot j) R st ⟨ev, _, e1, q⟩ g
theorem asgO_ok (R : Rel X.K B F γ s σ H) (hv : OpOk X.K B F γ s σ H v o) (g : GoodS X B F (asgO i o s) E) : E.nx (σ.set i (some v)) H := by
  unfold asgO at g
  cases o with
  | val d => exact (show GoodS X B F (.ok .nx { s with ρ := s.ρ.set i (.val d) }) E from g) F γ _ H (Le.refl F) (rel_set R ⟨v, rfl, hv⟩ fun lk c z => nomatch z)
  | glob => exact g.elim
  | slot j => exact g.elim
  | new c =>
    obtain ⟨p, o, rfl, hp, ck, fp, h0, hg, hs⟩ := hv
    exact (show GoodS X B F (.ok .nx { s with ρ := s.ρ.set i (.own false c) }) E from g) F γ _ H (Le.refl F) (rel_set R ⟨p, o, rfl, hp, ck, fp, h0, hg⟩ fun lk c _ j sl' e1 e2 _ => hs j sl' e1 e2)
theorem asgG_ok (R : Rel X.K B F γ s σ H) (hv : OpOk X.K B F γ s σ H v o) (g : GoodS X B F (asgG i o s) E) : E.nx (σ.set i (some v)) H := by
  unfold asgG at g
  cases o with
  | val d => exact g.elim
  | slot j => exact g.elim
  | glob => exact g.elim
  | new c =>
  cases c with
  | dct kvs => exact g.elim
  | lst xs =>
  cases eg : s.g with
  | some ys => rw [eg] at g; exact g.elim
  | none =>
    rw [eg] at g
    obtain ⟨p, o, rfl, hp, ck, fp, h0, hg, hs⟩ := hv
    have gl := R.gl
    rw [eg] at gl
    cases γ with
    | some a => exact gl.elim
    | none =>
      cases ck with
      | lst ck =>
        have R1 : Rel X.K B F (some p) { s with g := some xs } σ H := by
          refine ⟨R.fh, R.f0, R.fn, R.keep, R.dom, R.len, fun j sl e1 => ?_, R.dist, ⟨_, hp, ck, fp, .inr ⟨gl, h0⟩⟩⟩
          have so := R.slot j sl e1
          cases sl with
          | no => trivial
          | val d => exact so
          | exc => exact so
          | glob => obtain ⟨a, ea, _⟩ := so; cases ea
          | own lk c =>
            obtain ⟨q, o, eq, r1, r2, r3, r4, _⟩ := so
            exact ⟨q, o, eq, r1, r2, r3, r4, fun z => hs j _ e1 rfl (by rw [eq, Option.some.inj z])⟩
          | bor c =>
            obtain ⟨q, o, eq, r1, r2, r3, _⟩ := so
            exact ⟨q, o, eq, r1, r2, r3, fun z => hs j _ e1 rfl (by rw [eq, Option.some.inj z])⟩
        exact g F (some p) _ H (Le.refl F) (rel_set R1 (sl := .glob) ⟨p, rfl, rfl⟩ fun lk c z => nomatch z)
end
variable {i : Nat} {x : Str} {pos' : Pos}
theorem ds_setF (hN : X.N.Nodup) (hi : X.N[i]? = some x) (hx : Loc X.env.scope x) (he : DE X B e fe) (hs : swapsWith e (some (.Name x pos')) pos.line X.env = pure false := by rfl) (hf : X.fn x = true ∨ X.env.scope.names.lookup x = some .local := by first | exact .inl rfl | exact .inr rfl | assumption) :
    DS X B (.Assign [.Name x pos'] e pos) (fe >>= asgF i) := by
  refine ⟨fun F γ s σ H E R h => ?_⟩
  refine wS_of (ps_set hN hi hx pe_w hs hf) ?_
  exact he.run F γ s σ H R _ (Good.ofS h fun o s1 F1 H1 _ st1 R1 g1 v hv hn => asgF_ok R1 st1 hv hn g1)
theorem ds_setO (hN : X.N.Nodup) (hi : X.N[i]? = some x) (hx : Loc X.env.scope x) (he : DE X B e fe) (hs : swapsWith e (some (.Name x pos')) pos.line X.env = pure false := by rfl) (hf : X.fn x = true ∨ X.env.scope.names.lookup x = some .local := by first | exact .inl rfl | exact .inr rfl | assumption) :
    DS X B (.Assign [.Name x pos'] e pos) (fe >>= asgO i) := by
  refine ⟨fun F γ s σ H E R h => ?_⟩
  refine wS_of (ps_set hN hi hx pe_w hs hf) ?_
  exact he.run F γ s σ H R _ (Good.ofS h fun o s1 F1 H1 _ st1 R1 g1 v hv hn => asgO_ok R1 hv g1)
theorem ds_setG (hN : X.N.Nodup) (hi : X.N[i]? = some x) (hx : Loc X.env.scope x) (he : DE X B e fe) (hs : swapsWith e (some (.Name x pos')) pos.line X.env = pure false := by rfl) (hf : X.fn x = true ∨ X.env.scope.names.lookup x = some .local := by first | exact .inl rfl | exact .inr rfl | assumption) :
    DS X B (.Assign [.Name x pos'] e pos) (fe >>= asgG i) := by
  refine ⟨fun F γ s σ H E R h => ?_⟩
  refine wS_of (ps_set hN hi hx pe_w hs hf) ?_
  exact he.run F γ s σ H R _ (Good.ofS h fun o s1 F1 H1 _ st1 R1 g1 v hv hn => asgG_ok R1 hv g1)
/-! ### targets -/
inductive Tg where
  | nm (j : Nat) | tup (js : List Nat)
def setAll : List Nat → List D → List Slt → Option (List Slt)
  | [], [], ρ => some ρ
  | j :: js, d :: ds, ρ => setAll js ds (ρ.set j (.val d))
  | _, _, _ => none
def Tg.set : Tg → D → List Slt → Option (List Slt)
  | .nm j, d, ρ => some (ρ.set j (.val d))
  | .tup js, .tuple ds, ρ => setAll js ds ρ
  | _, _, _ => none
def Tg.slots : Tg → List Nat
  | .nm j => [j]
  | .tup js => js
def gAll : List Nat → TGs
  | [] => gNil
  | j :: js => gCons (gName j) (gAll js)
def Tg.tgt (K : PySem.W.Frag) : Tg → TG
  | .nm j => gName j
  | .tup js => gTup K js.length (gAll js)
section
variable {K : PySem.W.Frag} {F H : Hp} {γ : Option Addr}
theorem setAll_ok : ∀ {js : List Nat} {ds : List D} {vs : List V} {s : Sg} {ρ' : List Slt} {σ : St} {Q : L2.St → Hp → Prop}, Rel K B F γ s σ H → DqAll K F vs ds → setAll js ds s.ρ = some ρ' →
    (∀ σ', Rel K B F γ { s with ρ := ρ' } σ' H → (∀ i, i ∉ js → σ'[i]? = σ[i]?) → σ'.length = σ.length → Q σ' H) → gAll js vs σ H Q
  | [], [], _, s, ρ', σ, Q, R, .nil, e, h => by
    cases e
    exact ⟨rfl, h σ R (fun _ _ => rfl) rfl⟩
  | j :: js, d :: ds, _, s, ρ', σ, Q, R, .cons hd t, e, h => by
    refine ⟨_, _, rfl, ?_⟩
    refine setAll_ok (s := { s with ρ := s.ρ.set j (.val d) }) (rel_set R (sl := .val d) ⟨_, rfl, hd⟩ fun lk c z => nomatch z) t e fun σ' R' k l => h σ' R' (fun i hi => ?_) (by rw [l, List.length_set])
    rw [List.mem_cons, not_or] at hi
    rw [k i hi.2, List.getElem?_set_ne (fun z => hi.1 z.symm)]
  | [], _ :: _, _, s, ρ', σ, Q, R, _, e, h => by cases e
  | _ :: _, [], _, s, ρ', σ, Q, R, _, e, h => by cases e
theorem setAll_len : ∀ {js : List Nat} {ds : List D} {ρ ρ' : List Slt}, setAll js ds ρ = some ρ' → js.length = ds.length
  | [], [], _, _, _ => rfl
  | j :: js, d :: ds, ρ, ρ', e => by rw [List.length_cons, List.length_cons, setAll_len (js := js) (ds := ds) (ρ := ρ.set j (.val d)) e]
  | [], _ :: _, _, _, e => by cases e
  | _ :: _, [], _, _, e => by cases e
theorem tg_ok {t : Tg} {d : D} {v : V} {s : Sg} {ρ' : List Slt} {σ : St} {Q : L2.St → Hp → Prop} (R : Rel K B F γ s σ H) (hd : Dq K F v d) (e : t.set d s.ρ = some ρ')
    (h : ∀ σ', Rel K B F γ { s with ρ := ρ' } σ' H → (∀ i, i ∉ t.slots → σ'[i]? = σ[i]?) → σ'.length = σ.length → Q σ' H) : t.tgt K v σ H Q := by
  cases t with
  | nm j =>
    cases e
    exact h _ (rel_set R (sl := .val d) ⟨v, rfl, hd⟩ fun lk c z => nomatch z) (fun i hi => List.getElem?_set_ne fun z => hi (by rw [z]; exact List.mem_singleton.mpr rfl)) (List.length_set ..)
  | tup js =>
    cases d with
    | tuple ds =>
      obtain ⟨a, vs, rfl, h1, h2⟩ := hd.tup_
      exact ⟨a, vs, rfl, R.fh.st h1, by rw [h2.length, setAll_len e], setAll_ok R h2 e h⟩
    | _ => cases e
end
/-- unpacking a tuple into names -/
def unpM (js : List Nat) (o : Op) : M Fl := fun s => match o with
  | .val d => match (Tg.tup js).set d s.ρ with
    | some ρ' => .ok .nx { s with ρ := ρ' }
    | none => .bad
  | _ => .bad
theorem ds_unp {js : List Nat} {es : List Expr} {kk : Nat} {tpos : Pos} (hg : PG X (.Tuple es kk tpos) ((Tg.tup js).tgt X.K)) (he : DE X B e fe) (hs : swapsWithSole [.Tuple es kk tpos] e pos.line X.env = pure false := by rfl) (hw : swappedStores [.Tuple es kk tpos] e X.env = pure none := by rfl)
    (h1 : (assignEach [.Tuple es kk tpos] X.env).map (·.2) = [assign (.Tuple es kk tpos) X.env] := by rfl) : DS X B (.Assign [.Tuple es kk tpos] e pos) (fe >>= unpM js) := by
  refine ⟨fun F γ s σ H E R h => ?_⟩
  refine wS_of (ps_asg pe_w hg hs hw h1) ?_
  refine he.run F γ s σ H R _ (Good.ofS h fun o s1 F1 H1 _ st1 R1 g1 v hv hn => ?_)
  unfold unpM at g1
  cases o with
  | glob => exact g1.elim
  | new c => exact g1.elim
  | slot j => exact g1.elim
  | val d =>
    dsimp only at g1
    cases e1 : (Tg.tup js).set d s1.ρ with
    | none => rw [e1] at g1; exact g1.elim
    | some ρ' =>
      rw [e1] at g1
      exact tg_ok R1 hv e1 fun σ' R' _ _ => g1 F1 γ σ' H1 (Le.refl _) R'
end
end PD
end

section
set_option Elab.async false
set_option linter.all false
set_option maxRecDepth 100000
set_option maxHeartbeats 4000000
set_option autoImplicit false
namespace PD
open PySem PySem.Spec L2
open PyProof.Rows hiding St

/-! ### what is walked -/
def wI (X : Cx) (tg e : Expr) : TI := fun σ H R => ∀ (pins : List (Addr × Obj)) (s : Shared), Inv X pins σ H s →
  wpAny (model X.prog X.w) X.A (eval e X.env) (fun v s1 => wpAny (model X.prog X.w) X.A (pyIter v) (PIE X pins σ tg R) X.xe s1) X.xe s
theorem pi_w {X : Cx} {tg e : Expr} : PI X tg e (wI X tg e) := ⟨fun pins s _ _ _ I h => h pins s I⟩
theorem wI_of {X : Cx} {tg e : Expr} {t : TI} (h : PI X tg e t) {σ : L2.St} {H : Hp} {R : It → Hp → Prop} (q : t σ H R) : wI X tg e σ H R := fun pins s I => h.run pins s σ H R I q
/-- a list, a tuple or a str -/
def iAny (K : PySem.W.Frag) (tl : TE) : TI := fun σ H R => tl σ H fun x H1 => (∃ a, x = .ref a ∧ (∃ xs, SqL K H1 a xs) ∧ R (Itl K a) H1) ∨ (∃ a, x = .ref a ∧ (∃ xs, SqT K H1 a xs) ∧ R (Itt K a) H1) ∨ (∃ t, x = .str t ∧ R (Its t) H1)
theorem pi_any {X : Cx} {tg l : Expr} {tl : TE} (hl : PE X l tl) : PI X tg l (iAny X.K tl) := by
  refine ⟨fun pins s σ H R I h => ?_⟩
  refine thn (hl.run pins s σ H _ I h) fun v s1 ⟨x, H1, I1, r1, q1⟩ => ?_
  rcases q1 with ⟨a, e, ⟨xs, hq⟩, q⟩ | ⟨a, e, ⟨xs, hq⟩, q⟩ | ⟨t, e, q⟩
  · subst e
    cases r1
    obtain ⟨its, rv, p, hz⟩ := I1.list hq
    refine wpAny_pyIter_list p.isList ?_
    refine ⟨s1.heap.objs.size, [s1.heap.objs.size], _, _, H1, rfl, I1.kept (t' := s1.toks) fun b o e => Heap.get?_push_of_some _ e, turn_list a _, ⟨_, Heap.get?_push_size _ rfl, rfl, rfl⟩, fun b hb => ?_, q⟩
    have e : b = s1.heap.objs.size := by simpa using hb
    subst e
    exact I1.fpOk (Nat.le_refl _) (I1.hok.fresh (Nat.le_refl _))
  · subst e
    cases r1
    obtain ⟨its, rv, p, hz⟩ := I1.tuple hq
    refine wpAny_pyIter_tuple (show s1.heap.IsTuple a its.toArray from p) ?_
    refine ⟨s1.heap.objs.size, [s1.heap.objs.size], _, _, H1, rfl, I1.kept (t' := s1.toks) fun b o e => Heap.get?_push_of_some _ e, turn_tuple a _, ⟨_, Heap.get?_push_size _ rfl, rfl, rfl⟩, fun b hb => ?_, q⟩
    have e : b = s1.heap.objs.size := by simpa using hb
    subst e
    exact I1.fpOk (Nat.le_refl _) (I1.hok.fresh (Nat.le_refl _))
  · subst e
    obtain ⟨t', rfl⟩ := r1
    cases ha : t.cps.all (· < 128)
    · exact wpAny_pyIter_wide ha (pi_one (tk := s1.toks) I1 _ (turn_str _ t t' "str_iterator" (.inr rfl)) ⟨_, Heap.get?_push_size _ rfl, rfl, rfl⟩ q)
    · exact wpAny_pyIter_ascii ha (pi_one (tk := s1.toks) I1 _ (turn_str _ t t' "str_ascii_iterator" (.inl rfl)) ⟨_, Heap.get?_push_size _ rfl, rfl, rfl⟩ q)
/-- what an item is when it comes -/
def Yld (K : PySem.W.Frag) (F H : Hp) (x : V) (H' : Hp) (d : D) : Prop := (H' = H ∧ Dq K F x d) ∨ ∃ p vs ds, H p = none ∧ H' = upd H p (.tup vs) ∧ x = .ref p ∧ DqAll K F vs ds ∧ d = .tuple ds
/-- a heap that keeps what the walk rests on -/
def Kp (B : Bd) (F H : Hp) : Prop := Le F H ∧ ∀ a o, B.H0 a = some o → some a ≠ B.γ0 → H a = some o
def ItOk (K : PySem.W.Frag) (B : Bd) (F : Hp) (J : It) (ds : List D) : Prop := ∀ (i : Nat) (H : Hp), Kp B F H → (∀ d, ds[i]? = some d → J.go i H ∧ ∀ x H', J.yld i H x H' → Yld K F H x H' d) ∧ (ds.length ≤ i → J.stop i H)
theorem Rel.kp {K : PySem.W.Frag} {B : Bd} {F F1 H : Hp} {γ : Option Addr} {s : Sg} {σ : L2.St} (R : Rel K B F γ s σ H) (l : Le F1 F) : Kp B F1 H := ⟨l.trans R.fh, R.keep⟩
structure DI (X : Cx) (B : Bd) (tg e : Expr) (f : M (List D)) : Prop where
  run : ∀ F γ s σ H, Rel X.K B F γ s σ H → ∀ R : It → Hp → Prop,
  Good X B F γ s σ H (f s) (fun ds s1 F1 H1 => ∀ J, ItOk X.K B F1 J ds → R J H1) → wI X tg e σ H R
def chars (t : Str) : List D := t.cps.toList.map fun c => .str ⟨#[c]⟩
def itemsD : D → M (List D)
  | .list xs => pure xs
  | .tuple xs => pure xs
  | .str t => pure (chars t)
  | _ => M.bad
def frzIt (o : Op) : M (List D) := fun s => match o with
  | .slot i => match s.ρ[i]? with
    | some (.bor (.lst xs)) => .ok xs s
    | _ => (frz (.slot i) >>= itemsD) s
  | o => (frz o >>= itemsD) s

theorem it_list {K : PySem.W.Frag} {B : Bd} {F : Hp} {a : Addr} {vs : List V} {ds : List D} (h : DqAll K F vs ds) (hs : ∀ H, Kp B F H → SqL K H a vs) : ItOk K B F (Itl K a) ds := by
  intro i H k
  refine ⟨fun d e => ?_, fun l => ⟨vs, hs H k, by rw [h.length]; exact l⟩⟩
  obtain ⟨v, ev, hd⟩ := h.get' e
  refine ⟨⟨vs, v, hs H k, ev⟩, fun x H' y => ?_⟩
  obtain ⟨rfl, y⟩ := y
  have := y vs (hs _ k)
  rw [ev] at this
  cases this
  exact .inl ⟨rfl, hd⟩
theorem it_tup {K : PySem.W.Frag} {B : Bd} {F : Hp} {a : Addr} {vs : List V} {ds : List D} (h : DqAll K F vs ds) (hs : ∀ H, Kp B F H → SqT K H a vs) : ItOk K B F (Itt K a) ds := by
  intro i H k
  refine ⟨fun d e => ?_, fun l => ⟨vs, hs H k, by rw [h.length]; exact l⟩⟩
  obtain ⟨v, ev, hd⟩ := h.get' e
  refine ⟨⟨vs, v, hs H k, ev⟩, fun x H' y => ?_⟩
  obtain ⟨rfl, y⟩ := y
  have := y vs (hs _ k)
  rw [ev] at this
  cases this
  exact .inl ⟨rfl, hd⟩
theorem it_str {K : PySem.W.Frag} {B : Bd} {F : Hp} {t : Str} : ItOk K B F (Its t) (chars t) := by
  intro i H k
  refine ⟨fun d e => ?_, fun l => ?_⟩
  · unfold chars at e
    rw [List.getElem?_map] at e
    cases q : t.cps.toList[i]? with
    | none => rw [q] at e; cases e
    | some c =>
      rw [q] at e
      cases e
      rw [Array.getElem?_toList] at q
      refine ⟨?_, fun x H' y => ?_⟩
      · obtain ⟨h, _⟩ := Array.getElem?_eq_some_iff.mp q
        exact h
      · obtain ⟨rfl, c', q', rfl⟩ := y
        rw [q] at q'
        cases q'
        exact .inl ⟨rfl, .str _⟩
  · show t.cps.size ≤ i
    simpa [chars] using l
theorem it_range {K : PySem.W.Frag} {B : Bd} {F : Hp} {lo : Int} {n : Nat} : ItOk K B F (Itr lo n) ((List.range n).map fun (i : Nat) => PyData.int (lo + i)) := by
  intro i H k
  refine ⟨fun d e => ?_, fun l => ?_⟩
  · rw [List.getElem?_map] at e
    cases q : (List.range n)[i]? with
    | none => rw [q] at e; cases e
    | some j =>
      rw [q] at e
      cases e
      obtain ⟨h, hj⟩ := List.getElem?_eq_some_iff.mp q
      rw [List.getElem_range] at hj
      subst hj
      rw [List.length_range] at h
      exact ⟨h, fun x H' ⟨e1, e2⟩ => .inl ⟨e1, by rw [e2]; exact .int _⟩⟩
  · show n ≤ i
    simpa using l
section
variable {X : Cx} {B : Bd} {tg e e2 e3 : Expr} {fe : M Op} {pos p : Pos}
theorem de_src (he : DE X B e fe) : DI X B tg e (fe >>= frzIt) := by
  refine ⟨fun F γ s σ H R Rk g => ?_⟩
  refine wI_of (pi_any pe_w) ?_
  refine he.run F γ s σ H R _ (Good.thenO g fun o s1 F1 H1 _ st1 R1 g1 v hv hn => ?_)
  have viaF : Good X B F γ s σ H ((frz o >>= itemsD) s1) (fun ds s1 F1 H1 => ∀ J, ItOk X.K B F1 J ds → Rk J H1) → (∃ a, v = .ref a ∧ (∃ xs, SqL X.K H1 a xs) ∧ Rk (Itl X.K a) H1) ∨ (∃ a, v = .ref a ∧ (∃ xs, SqT X.K H1 a xs) ∧ Rk (Itt X.K a) H1) ∨ (∃ t, v = .str t ∧ Rk (Its t) H1) := fun g1 => by
    cases e1 : frz o s1 with
    | ex x s2 => exact (frz_noex x s2 e1).elim
    | bad => rw [bind_bad e1] at g1; exact g1.no
    | ok d s2 =>
      rw [bind_of e1] at g1
      obtain ⟨F2, f2, R2, hd, st2, _⟩ := frz_ok R1 st1 (.of hv hn) e1
      cases d with
      | none => exact g1.no
      | bool b => exact g1.no
      | int i => exact g1.no
      | dict kvs => exact g1.no
      | str t =>
        obtain rfl := hd.str_
        exact .inr (.inr ⟨t, rfl, g1 F2 H1 st2 R2 _ it_str⟩)
      | tuple xs =>
        obtain ⟨a, vs, rfl, h1, h2⟩ := hd.tup_
        exact .inr (.inl ⟨a, rfl, ⟨vs, R2.fh.st h1⟩, g1 F2 H1 st2 R2 _ (it_tup h2 fun H k => k.1.st h1)⟩)
      | list xs =>
        cases hd with
        | lst h1 h2 => exact .inl ⟨_, rfl, ⟨_, .inl (R2.fh.rd h1)⟩, g1 F2 H1 st2 R2 _ (it_list h2 fun H k => .inl (k.1.rd h1))⟩
  unfold frzIt at g1
  cases o with
  | val d => exact viaF g1
  | new c => exact viaF g1
  | glob => exact viaF g1
  | slot i =>
    cases q : s1.ρ[i]? with
    | none => dsimp only at g1; rw [q] at g1; exact viaF g1
    | some sl =>
      dsimp only at g1
      rw [q] at g1
      cases sl with
      | no => exact viaF g1
      | val d => exact viaF g1
      | exc => exact viaF g1
      | glob => exact viaF g1
      | own lk c => exact viaF g1
      | bor c =>
        cases c with
        | dct kvs => exact viaF g1
        | lst xs =>
          obtain ⟨ev, _⟩ := hv
          obtain ⟨p, o, eu, hp, ck, h0, hg⟩ := R1.slot i _ q
          rw [ev] at eu
          cases eu
          cases ck with
          | lst ck =>
            have ng : some p ≠ B.γ0 := fun z => by
              have gl := R1.gl
              cases eg : s1.g with
              | none =>
                rw [eg] at gl
                cases γ with
                | none => rw [gl] at z; cases z
                | some a => exact gl.elim
              | some ys =>
                rw [eg] at gl
                cases γ with
                | none => exact gl.elim
                | some a =>
                  obtain ⟨_, _, _, _, h | ⟨h, _⟩⟩ := gl
                  · rw [h] at z; exact hg z
                  · rw [h] at z; cases z
            exact .inl ⟨p, rfl, ⟨_, .inl (.inl hp)⟩, g1 F1 H1 st1 R1 _ (it_list ck fun H k => .inl (.inl (k.2 p _ h0 ng)))⟩
def rngD (lo hi : Int) : List D := (List.range (hi - lo).toNat).map fun (i : Nat) => PyData.int (lo + i)
def rng1 (os : List Op) : M (List D) := fun s => match viewAll os s with
  | .ok [.dat (.int j)] _ => if -(2 ^ 62) ≤ j ∧ j < 2 ^ 62 then .ok (rngD 0 j) s else .bad
  | _ => .bad
def rng2 (os : List Op) : M (List D) := fun s => match viewAll os s with
  | .ok [.dat (.int i), .dat (.int j)] _ => if -(2 ^ 62) ≤ i ∧ i < 2 ^ 62 ∧ -(2 ^ 62) ≤ j ∧ j < 2 ^ 62 then .ok (rngD i j) s else .bad
  | _ => .bad
theorem pair1' {α β : Type} {R : α → β → Prop} {xs : List α} {b : β} (h : Paired R xs [b]) : ∃ a, xs = [a] ∧ R a b := by
  cases h with
  | cons h t => cases t; exact ⟨_, rfl, h⟩
theorem pair2' {α β : Type} {R : α → β → Prop} {xs : List α} {b c : β} (h : Paired R xs [b, c]) : ∃ a a', xs = [a, a'] ∧ R a b ∧ R a' c := by
  cases h with
  | cons h t =>
    cases t with
    | cons h' t => cases t; exact ⟨_, _, rfl, h, h'⟩
theorem di_range1 {fs : M (List Op)} (hg : Gl X "range") (hm : X.mg "range" = none) (ha : DA X B [e] fs) (hs : starEach [e] X.env = [(false, eval e X.env)] := by rfl) : DI X B tg (.Call (.Name "range" p) [e] [] pos) (fs >>= rng1) := by
  refine ⟨fun F γ s σ H R Rk g => ?_⟩
  refine wI_of (pi_range1 hg hm pa_w hs) ?_
  refine ha.run F γ s σ H R _ (Good.thenO g fun os s1 F1 H1 _ st1 R1 g1 vs hvs => ?_)
  unfold rng1 at g1
  split at g1
  · rename_i j _ ev
    split at g1
    · rename_i hz
      obtain ⟨v, rfl, hv⟩ := pair1' (viewAll_ok R1 hvs ev)
      obtain rfl := hv.1.int_
      refine ⟨j, rfl, hz.1, hz.2, g1 F1 H1 st1 R1 _ ?_⟩
      have := it_range (K := X.K) (B := B) (F := F1) (lo := 0) (n := j.toNat)
      unfold rngD
      rw [Int.sub_zero]
      exact this
    · exact g1.no
  · exact g1.no
theorem di_range2 {fs : M (List Op)} (hg : Gl X "range") (hm : X.mg "range" = none) (ha : DA X B [e, e2] fs) (hs : starEach [e, e2] X.env = [(false, eval e X.env), (false, eval e2 X.env)] := by rfl) (hs2 : starEach [e2] X.env = [(false, eval e2 X.env)] := by rfl) :
    DI X B tg (.Call (.Name "range" p) [e, e2] [] pos) (fs >>= rng2) := by
  refine ⟨fun F γ s σ H R Rk g => ?_⟩
  refine wI_of (pi_range2 hg hm pa_w hs hs2) ?_
  refine ha.run F γ s σ H R _ (Good.thenO g fun os s1 F1 H1 _ st1 R1 g1 vs hvs => ?_)
  unfold rng2 at g1
  split at g1
  · rename_i i j _ ev
    split at g1
    · rename_i hz
      obtain ⟨v, v', rfl, hv, hv'⟩ := pair2' (viewAll_ok R1 hvs ev)
      obtain rfl := hv.1.int_
      obtain rfl := hv'.1.int_
      exact ⟨i, j, rfl, hz, g1 F1 H1 st1 R1 _ it_range⟩
    · exact g1.no
  · exact g1.no
end

/-! ### for -/
def afterD (k : M Fl) : Fl → M Fl
  | .nx => k
  | .ct => k
  | .bk => pure .nx
  | .rt r => pure (.rt r)
def forD (t : Tg) (body : M Fl) : List D → M Fl
  | [] => pure .nx
  | d :: ds => fun s => match t.set d s.ρ with
    | none => .bad
    | some ρ' => (body >>= afterD (forD t body ds)) { s with ρ := ρ' }
def forM (f : M (List D)) (t : Tg) (body : M Fl) : M Fl := f >>= forD t body
section
variable {X : Cx} {B : Bd} {tg e : Expr} {body : List Stmt} {fi : M (List D)} {fb : M Fl} {t : Tg} {pos : Pos}
theorem GoodS.bindS {F : Hp} {s : Sg} {m : M Fl} {k : Fl → M Fl} {E E' : Ends} (g : GoodS X B F ((m >>= k) s) E)
    (hx : ∀ a s1, m s = .ok a s1 → GoodS X B F (k a s1) E → GoodS X B F (.ok a s1) E') : GoodS X B F (m s) E' := by
  cases q : m s with
  | ok a s1 => rw [bind_of q] at g; exact hx a s1 q g
  | ex x s1 => rw [bind_of_ex q] at g; exact g
  | bad => rw [bind_bad q] at g; exact g
theorem yld_rel {K : PySem.W.Frag} {F H H' : Hp} {γ : Option Addr} {s : Sg} {σ : L2.St} {x : V} {d : D} (R : Rel K B F γ s σ H) (y : Yld K F H x H' d) : ∃ F', Le F F' ∧ Rel K B F' γ s σ H' ∧ Dq K F' x d := by
  rcases y with ⟨rfl, h⟩ | ⟨p, vs, ds, np, rfl, rfl, h, rfl⟩
  · exact ⟨F, Le.refl F, R, h⟩
  · obtain ⟨R', st, dq⟩ := rel_tup R np h
    exact ⟨_, st.fm, R', dq⟩
theorem ds_for (hp : PassesOwn (model X.prog X.w) X.A X.env X.xe) (hc : X.calm = true) (hi : DI X B tg e fi) (hg : PG X tg (t.tgt X.K)) (hb : DSs X B body fb)
    (hs : ∀ x, foldedSetIterable e X.env x = pure x := by intro _; rfl) : DS X B (.For tg e body [] pos) (forM fi t fb) := by
  refine ⟨fun F γ s σ H E R h => ?_⟩
  refine wS_of (ps_for hp hc pi_w hg pss_w hs) ?_
  refine hi.run F γ s σ H R _ (Good.ofS h fun ds s1 F1 H1 _ st1 R1 g1 J it => ?_)
  refine ⟨fun i m σ H => m = ds.length - i ∧ i ≤ ds.length ∧ ∃ F γ s, Le F1 F ∧ Rel X.K B F γ s σ H ∧ GoodS X B F (forD t fb (ds.drop i) s) E, ⟨ds.length, by simp, Nat.zero_le _, F1, γ, s1, Le.refl _, R1, g1⟩, ?_⟩
  rintro i m σ H ⟨rfl, hi, F2, γ2, s2, l2, R2, g2⟩
  obtain ⟨hgo, hst⟩ := it i H (R2.kp l2)
  by_cases hlt : i < ds.length
  · have ed : ds[i]? = some ds[i] := List.getElem?_eq_getElem hlt
    have ec : ds.drop i = ds[i] :: ds.drop (i + 1) := List.drop_eq_getElem_cons hlt
    rw [ec] at g2
    obtain ⟨go, yl⟩ := hgo _ ed
    refine .inr ⟨go, fun σ' H' => ∃ F γ s, Le F1 F ∧ Rel X.K B F γ s σ' H' ∧ GoodS X B F (forD t fb (ds.drop (i + 1)) s) E, fun σ' H' z => ⟨ds.length - (i + 1), by omega, rfl, hlt, z⟩, fun x H' y => ?_⟩
    have y' : Yld X.K F2 H x H' ds[i] := by
      rcases yl x H' y with ⟨e1, e2⟩ | z
      · exact .inl ⟨e1, e2.mono l2⟩
      · obtain ⟨p, vs, dd, np, e1, e2, e3, e4⟩ := z
        exact .inr ⟨p, vs, dd, np, e1, e2, e3.mono l2, e4⟩
    obtain ⟨F3, f3, R3, hd⟩ := yld_rel R2 y'
    unfold forD at g2
    cases es : t.set ds[i] s2.ρ with
    | none => rw [es] at g2; exact g2.elim
    | some ρ' =>
      rw [es] at g2
      dsimp only at g2
      refine tg_ok R3 hd es fun σ' R' _ _ => ?_
      refine hb.run F3 γ2 _ σ' H' _ R' (GoodS.bindS (g2.le f3) fun a s4 q g4 => ?_)
      cases a with
      | nx => exact fun F' γ' σ' H' l R => ⟨F', γ', s4, (l2.trans f3).trans l, R, g4.le l⟩
      | ct => exact fun F' γ' σ' H' l R => ⟨F', γ', s4, (l2.trans f3).trans l, R, g4.le l⟩
      | bk => exact g4
      | rt r => exact g4
  · have e : i = ds.length := by omega
    subst e
    rw [List.drop_length] at g2
    exact .inl ⟨hst (Nat.le_refl _), (show GoodS X B F2 (.ok .nx s2) E from g2) F2 γ2 σ H (Le.refl _) R2⟩

/-! ### while -/
def whileD (c : M Bool) (body : M Fl) : Nat → M Fl
  | 0 => M.bad
  | n + 1 => c >>= fun b => if b = true then body >>= afterD (whileD c body n) else pure .nx
open Classical in
noncomputable def whileM (c : M Bool) (body : M Fl) : M Fl := fun s => if h : ∃ n, whileD c body n s ≠ .bad then whileD c body (Classical.choose h) s else .bad
theorem whileD_more (c : M Bool) (body : M Fl) : ∀ (n : Nat) (s : Sg), whileD c body n s ≠ .bad → ∀ m, n ≤ m → whileD c body m s = whileD c body n s
  | 0, s, h => absurd rfl h
  | n + 1, s, h => fun m l => by
    obtain ⟨k, rfl⟩ : ∃ k, m = k + 1 := ⟨m - 1, by omega⟩
    unfold whileD at h ⊢
    cases q : c s with
    | bad => rw [bind_bad q] at h; exact absurd rfl h
    | ex x s1 => rw [bind_of_ex q, bind_of_ex q]
    | ok b s1 =>
      rw [bind_of q] at h
      rw [bind_of q, bind_of q]
      cases b with
      | false => rfl
      | true =>
        rw [if_pos rfl] at h ⊢
        rw [if_pos rfl]
        cases q2 : body s1 with
        | bad => rw [bind_bad q2] at h; exact absurd rfl h
        | ex x s2 => rw [bind_of_ex q2, bind_of_ex q2]
        | ok a s2 =>
          rw [bind_of q2] at h
          rw [bind_of q2, bind_of q2]
          cases a with
          | nx => exact whileD_more c body n s2 h k (by omega)
          | ct => exact whileD_more c body n s2 h k (by omega)
          | bk => rfl
          | rt r => rfl
theorem whileM_of {c : M Bool} {body : M Fl} {n : Nat} {s : Sg} (h : whileD c body n s ≠ .bad) : whileM c body s = whileD c body n s := by
  have ex : ∃ n, whileD c body n s ≠ .bad := ⟨n, h⟩
  unfold whileM
  rw [dif_pos ex]
  have h2 := Classical.choose_spec ex
  by_cases l : n ≤ Classical.choose ex
  · exact whileD_more c body n s h _ l
  · exact (whileD_more c body _ s h2 n (by omega)).symm
theorem ds_while {tc : M Bool} (hp : PassesOwn (model X.prog X.w) X.A X.env X.xe) (hc : DT X B e tc) (hb : DSs X B body fb) : DS X B (.While e body [] pos) (whileM tc fb) := by
  refine ⟨fun F γ s σ H E R h => ?_⟩
  refine wS_of (ps_while hp pt_w pss_w) ?_
  obtain ⟨n0, h0⟩ : ∃ n, GoodS X B F (whileD tc fb n s) E := by
    unfold whileM at h
    split at h
    · exact ⟨_, h⟩
    · exact h.elim
  refine ⟨fun m σ H => ∃ F γ s, Rel X.K B F γ s σ H ∧ GoodS X B F (whileD tc fb m s) E, ⟨n0, F, γ, s, R, h0⟩, ?_⟩
  rintro m σ H ⟨F2, γ2, s2, R2, g2⟩
  cases m with
  | zero => exact g2.elim
  | succ m =>
    unfold whileD at g2
    refine hc.run F2 γ2 s2 σ H R2 _ (Good.ofS g2 fun b s3 F3 H3 _ st3 R3 g3 => ?_)
    cases b with
    | false =>
      rw [if_neg Bool.false_ne_true] at g3 ⊢
      exact (show GoodS X B F3 (.ok .nx s3) E from g3) F3 γ2 σ H3 (Le.refl _) R3
    | true =>
      rw [if_pos rfl] at g3 ⊢
      refine ⟨fun σ' H' => ∃ F γ s, Rel X.K B F γ s σ' H' ∧ GoodS X B F (whileD tc fb m s) E, fun σ' H' z => ⟨m, Nat.lt_succ_self m, z⟩, ?_⟩
      refine hb.run F3 γ2 s3 σ H3 _ R3 (GoodS.bindS g3 fun a s4 q g4 => ?_)
      cases a with
      | nx => exact fun F' γ' σ' H' l R => ⟨F', γ', s4, R, g4.le l⟩
      | ct => exact fun F' γ' σ' H' l R => ⟨F', γ', s4, R, g4.le l⟩
      | bk => exact g4
      | rt r => exact g4
end
end PD
end

section
set_option Elab.async false
set_option linter.all false
set_option maxRecDepth 100000
set_option maxHeartbeats 4000000
set_option autoImplicit false
namespace PD
open PySem PySem.Spec L2
open PyProof.Rows hiding St

/-! ### list comprehensions -/
def Slt.lock : Slt → Slt
  | .own _ c => .own true c
  | s => s
def wipeρ (ρ : List Slt) : List Nat → List Slt
  | [] => ρ.map Slt.lock
  | v :: vs => (wipeρ ρ vs).set v .no
theorem wipeρ_len (ρ : List Slt) : ∀ vs, (wipeρ ρ vs).length = ρ.length
  | [] => List.length_map ..
  | v :: vs => by unfold wipeρ; rw [List.length_set, wipeρ_len ρ vs]
theorem wipeρ_at {ρ : List Slt} {i : Nat} {sl : Slt} : ∀ {vs : List Nat}, (wipeρ ρ vs)[i]? = some sl → sl = .no ∨ (i ∉ vs ∧ ∃ t, ρ[i]? = some t ∧ sl = t.lock)
  | [], e => by
    unfold wipeρ at e
    rw [List.getElem?_map] at e
    cases q : ρ[i]? with
    | none => rw [q] at e; cases e
    | some t => rw [q] at e; cases e; exact .inr ⟨by simp, t, rfl, rfl⟩
  | v :: vs, e => by
    unfold wipeρ at e
    by_cases h : v = i
    · subst h
      by_cases hl : v < (wipeρ ρ vs).length
      · rw [List.getElem?_set_self hl] at e
        cases e
        exact .inl rfl
      · rw [List.getElem?_eq_none (by rw [List.length_set]; omega)] at e
        cases e
    · rw [List.getElem?_set_ne h] at e
      rcases wipeρ_at e with z | ⟨n, z⟩
      · exact .inl z
      · exact .inr ⟨by rw [List.mem_cons, not_or]; exact ⟨fun q => h q.symm, n⟩, z⟩
theorem wipe_at {σ : L2.St} {i : Nat} : ∀ {vs : List Nat}, i ∉ vs → (wipe σ vs)[i]? = σ[i]?
  | [], _ => rfl
  | v :: vs, n => by
    rw [List.mem_cons, not_or] at n
    unfold wipe
    rw [List.getElem?_set_ne (fun z => n.1 z.symm)]
    exact wipe_at n.2
theorem wipe_in {σ : L2.St} {i : Nat} : ∀ {vs : List Nat}, i ∈ vs → i < σ.length → (wipe σ vs)[i]? = some none
  | [], h, _ => by cases h
  | v :: vs, h, l => by
    unfold wipe
    by_cases e : v = i
    · subst e
      exact List.getElem?_set_self (by rw [wipe_length]; exact l)
    · rw [List.getElem?_set_ne e]
      rcases List.mem_cons.mp h with z | z
      · exact absurd z.symm e
      · exact wipe_in z l
theorem wipe_same {σ τ : L2.St} {vs : List Nat} (hl : τ.length = σ.length) (h : ∀ i, i ∉ vs → τ[i]? = (wipe σ vs)[i]?) : wipe τ vs = wipe σ vs := by
  apply List.ext_getElem?
  intro i
  by_cases m : i ∈ vs
  · by_cases l : i < σ.length
    · rw [wipe_in m l, wipe_in m (by omega)]
    · rw [List.getElem?_eq_none (by rw [wipe_length]; omega), List.getElem?_eq_none (by rw [wipe_length]; omega)]
  · rw [wipe_at m, h i m]
section
variable {K : PySem.W.Frag} {B : Bd} {F H : Hp} {γ : Option Addr} {s : Sg} {σ : L2.St}
theorem rel_upD (R : Rel K B F γ s σ H) {D : Addr} {o : HO} (fD : F D = none) (h0 : B.H0 D = none) (hg : some D ≠ γ) (hs : ∀ (i : Nat) (sl : Slt), s.ρ[i]? = some sl → sl.isObj = true → σ[i]? ≠ some (some (.ref D))) : Rel K B F γ s σ (upd H D o) := by
  have ne : ∀ {p : Addr}, p ≠ D → upd H D o p = H p := fun h => upd_ne h
  refine ⟨fun a u e => ?_, R.f0, R.fn, fun a u e n => ?_, fun a u e => ?_, R.len, fun i sl e => ?_, R.dist, ?_⟩
  · rw [ne (fun z => by subst z; rw [fD] at e; cases e)]
    exact R.fh a u e
  · rw [ne (fun z => by subst z; rw [h0] at e; cases e)]
    exact R.keep a u e n
  · rw [ne (fun z => by subst z; rw [h0] at e; cases e)]
    exact R.dom a u e
  · have so := R.slot i sl e
    cases sl with
    | no => trivial
    | val d => exact so
    | exc => exact so
    | glob => exact so
    | own lk c =>
      obtain ⟨p, u, ev, hp, r⟩ := so
      refine ⟨p, u, ev, ?_, r⟩
      rw [ne (fun z => hs i _ e rfl (by rw [ev, z]))]
      exact hp
    | bor c =>
      obtain ⟨p, u, ev, hp, r⟩ := so
      refine ⟨p, u, ev, ?_, r⟩
      rw [ne (fun z => hs i _ e rfl (by rw [ev, z]))]
      exact hp
  · have gl := R.gl
    cases eg : s.g with
    | none => rw [eg] at gl; cases γ <;> exact gl
    | some xs =>
      rw [eg] at gl
      cases γ with
      | none => exact gl
      | some a =>
        obtain ⟨vs, ha, r⟩ := gl
        refine ⟨vs, ?_, r⟩
        rw [ne (fun z => hg (by rw [z]))]
        exact ha
theorem stp_upD {F₀ H₀ : Hp} {s₀ : Sg} (st : Stp F₀ γ s₀ σ H₀ F s H) {D : Addr} {o : HO} (n : H₀ D = none) : Stp F₀ γ s₀ σ H₀ F s (upd H D o) where
  fm := st.fm
  fn := st.fn
  hk := fun a u e ng nm => by
    rw [upd_ne (ne_of_none e n)]
    exact st.hk a u e ng nm
  dm := fun a u e => by
    rw [upd_ne (ne_of_none e n)]
    exact st.dm a u e
  kd := st.kd
theorem rel_wipe (R : Rel K B F γ s σ H) (vs : List Nat) : Rel K B F γ { s with ρ := wipeρ s.ρ vs } (wipe σ vs) H := by
  refine ⟨R.fh, R.f0, R.fn, R.keep, R.dom, ?_, fun i sl e => ?_, fun i j lk c sl e1 e2 ho hv => ?_, R.gl⟩
  · show (wipeρ s.ρ vs).length = (wipe σ vs).length
    rw [wipeρ_len, wipe_length]
    exact R.len
  · rcases wipeρ_at e with rfl | ⟨n, t, et, rfl⟩
    · trivial
    · have so := R.slot i t et
      rw [wipe_at n]
      cases t with
      | no => trivial
      | val d => exact so
      | exc => exact so
      | glob => exact so
      | own lk c => exact so
      | bor c => exact so
  · rcases wipeρ_at e1 with z | ⟨n, t, et, et'⟩
    · cases z
    · rcases wipeρ_at e2 with z | ⟨m, u, eu, eu'⟩
      · subst z; cases ho
      · rw [wipe_at n, wipe_at m] at hv
        cases t with
        | own lk' c' =>
          refine R.dist i j lk' c' u et eu ?_ hv
          subst eu'
          cases u <;> first | rfl | cases ho
        | no => cases et'
        | exc => cases et'
        | val d => cases et'
        | bor d => cases et'
        | glob => cases et'
theorem wipe_noown {ρ : List Slt} {vs : List Nat} {i : Nat} {c : Cn} : (wipeρ ρ vs)[i]? ≠ some (.own false c) := by
  intro e
  rcases wipeρ_at e with z | ⟨_, t, _, z⟩
  · cases z
  · cases t <;> cases z
end

def elem1 (tt : M Bool) (te : M Op) : M (Option D) := tt >>= fun b => if b = true then te >>= fun o => frz o >>= fun d => pure (some d) else pure none
def elemsD (vs : List Nat) (t : Tg) (f : M (Option D)) : List D → M (List D)
  | [] => pure []
  | d :: ds => fun s => match t.set d (wipeρ s.ρ vs) with
    | none => .bad
    | some ρ' => match f { ρ := ρ', g := s.g } with
      | .ok x s2 => (elemsD vs t f ds >>= fun r => pure (x.toList ++ r)) { s with g := s2.g }
      | _ => .bad
section
variable {vs : List Nat} {t : Tg} {f : M (Option D)} {d : D} {ds : List D} {s s2 : Sg} {ρ' : List Slt} {x : Option D} {y : Xn}
theorem elemsD_ok (es : t.set d (wipeρ s.ρ vs) = some ρ') (e : f { ρ := ρ', g := s.g } = .ok x s2) : elemsD vs t f (d :: ds) s = (elemsD vs t f ds >>= fun r => pure (x.toList ++ r)) { s with g := s2.g } := by
  rw [elemsD]
  dsimp only
  rw [es]
  dsimp only
  rw [e]
theorem elemsD_none (es : t.set d (wipeρ s.ρ vs) = none) : elemsD vs t f (d :: ds) s = .bad := by
  rw [elemsD]
  dsimp only
  rw [es]
theorem elemsD_ex (es : t.set d (wipeρ s.ρ vs) = some ρ') (e : f { ρ := ρ', g := s.g } = .ex y s2) : elemsD vs t f (d :: ds) s = .bad := by
  rw [elemsD]
  dsimp only
  rw [es]
  dsimp only
  rw [e]
theorem elemsD_bad (es : t.set d (wipeρ s.ρ vs) = some ρ') (e : f { ρ := ρ', g := s.g } = .bad) : elemsD vs t f (d :: ds) s = .bad := by
  rw [elemsD]
  dsimp only
  rw [es]
  dsimp only
  rw [e]
end
theorem setAll_noown : ∀ {js : List Nat} {ds : List D} {ρ ρ' : List Slt}, setAll js ds ρ = some ρ' → (∀ (j : Nat) (c : Cn), ρ[j]? ≠ some (.own false c)) → ∀ (j : Nat) (c : Cn), ρ'[j]? ≠ some (.own false c)
  | [], [], ρ, ρ', e, h => by cases e; exact h
  | j :: js, d :: ds, ρ, ρ', e, h => setAll_noown (js := js) (ds := ds) (ρ := ρ.set j (.val d)) e fun i c z => by
      rw [List.getElem?_set] at z
      split at z
      · split at z <;> cases z
      · exact h i c z
  | [], _ :: _, _, _, e, _ => by cases e
  | _ :: _, [], _, _, e, _ => by cases e
theorem set_noown {t : Tg} {d : D} {ρ ρ' : List Slt} (e : t.set d ρ = some ρ') (h : ∀ (j : Nat) (c : Cn), ρ[j]? ≠ some (.own false c)) : ∀ (j : Nat) (c : Cn), ρ'[j]? ≠ some (.own false c) := by
  cases t with
  | nm j =>
    cases e
    exact fun i c z => by
      rw [List.getElem?_set] at z
      split at z
      · split at z <;> cases z
      · exact h i c z
  | tup js =>
    cases d with
    | tuple ds => exact setAll_noown (js := js) (ds := ds) e h
    | _ => cases e
theorem gnew_of {K : PySem.W.Frag} {B : Bd} {F H : Hp} {γ : Option Addr} {s : Sg} {σ : L2.St} (R : Rel K B F γ s σ H) : GNew K F H s.g γ := by
  have gl := R.gl
  cases eg : s.g with
  | none => rw [eg] at gl; cases γ <;> first | trivial | exact gl.elim
  | some xs =>
    rw [eg] at gl
    cases γ with
    | none => exact gl.elim
    | some a => obtain ⟨ws, h1, h2, _⟩ := gl; exact ⟨ws, h1, h2⟩
def compM (fi : M (List D)) (vs : List Nat) (t : Tg) (tt : M Bool) (te : M Op) : M Op := fi >>= fun ds => if ds.length ≤ sizeLine then elemsD vs t (elem1 tt te) ds >>= fun r => pure (.new (.lst r)) else M.bad
def Bd.nx (B : Bd) : Bd := { B with W := fun _ _ _ _ => False }
theorem Rel.nx {K : PySem.W.Frag} {B : Bd} {F H : Hp} {γ : Option Addr} {s : Sg} {σ : L2.St} (R : Rel K B F γ s σ H) : Rel K B.nx F γ s σ H := ⟨R.fh, R.f0, R.fn, R.keep, R.dom, R.len, R.slot, R.dist, R.gl⟩
theorem Rel.un {K : PySem.W.Frag} {B : Bd} {F H : Hp} {γ : Option Addr} {s : Sg} {σ : L2.St} (R : Rel K B.nx F γ s σ H) : Rel K B F γ s σ H := ⟨R.fh, R.f0, R.fn, R.keep, R.dom, R.len, R.slot, R.dist, R.gl⟩
def wTs (X : Cx) (ifs : List Expr) : TT := fun σ H Q => ∀ (pins : List (Addr × Obj)) (s : Shared), Inv X pins σ H s → wpAny (model X.prog X.w) X.A (forIn ifs true fun c r => if r = true then do let ok ← isTrue c X.env (eval c X.env); pure (ForInStep.yield ok) else pure (ForInStep.yield r)) (TP X pins σ Q) X.xe s
theorem pts_w {X : Cx} {ifs : List Expr} : PTs X ifs (wTs X ifs) := ⟨fun pins s _ _ _ I h => h pins s I⟩
structure DTs (X : Cx) (B : Bd) (ifs : List Expr) (f : M Bool) : Prop where
  run : ∀ F γ s σ H, Rel X.K B F γ s σ H → ∀ Q : Bool → Hp → Prop,
  Good X B F γ s σ H (f s) (fun b s' F' H' => Q b H') → wTs X ifs σ H Q
section
variable {X : Cx} {B : Bd} {c : Expr} {f : M Bool}
theorem dts_nil : DTs X B [] (pure true) := ⟨fun F γ s σ H R Q g pins w I => pts_nil.run pins w σ H Q I (Good.ok0 (b := true) R g)⟩
theorem dts_one (h : DT X B c f) : DTs X B [c] f := ⟨fun F γ s σ H R Q g pins w I => (pts_one pt_w).run pins w σ H Q I (h.run F γ s σ H R Q g)⟩
end
section
variable {X : Cx} {B : Bd} {tg e elt : Expr} {ifs : List Expr} {scope : Scope} {own : List (Str × Nat)} {fi : M (List D)} {t : Tg} {tt : M Bool} {te : M Op} {pos spos : Pos}
/-- one turn within the block, seen from within: what follows from a good end -/
theorem lc_core2 {wi : TI} {tT : TT} {tE : TE} {vs : List Nat} (hv : ∀ i ∈ t.slots, i ∈ vs)
    
    (hT : ∀ F γ s σ H, Rel X.K B.nx F γ s σ H → ∀ Q : Bool → Hp → Prop, Good X B.nx F γ s σ H (tt s) (fun b s' F' H' => Q b H') → tT σ H Q)
    (hE : ∀ F γ s σ H, Rel X.K B.nx F γ s σ H → ∀ Q : VK, Good X B.nx F γ s σ H (te s) (fun o s' F' H' => ∀ v, OpOk X.K B.nx F' γ s' σ H' v o → NewIn H v o → Q v H') → tE σ H Q)
    {F H : Hp} {γ : Option Addr} {s : Sg} {σ : L2.St} (R : Rel X.K B F γ s σ H) (Q : VK)
    (hI : ∀ R : It → Hp → Prop, Good X B F γ s σ H (fi s) (fun ds s1 F1 H1 => ∀ J, ItOk X.K B F1 J ds → R J H1) → wi σ H R)
    (gd : Good X B F γ s σ H (compM fi vs t tt te s) (fun o s' F' H' => ∀ v, OpOk X.K B F' γ s' σ H' v o → NewIn H v o → Q v H')) : tLc wi (t.tgt X.K) tT tE vs σ H Q := by
  refine hI _ (Good.thenO gd fun ds s1 F1 H1 _ st1 R1 g1 J it L nD => ?_)
  split at g1
  case isFalse => exact g1.no
  rename_i hz
  have nD0 : H L = none := st1.none_back nD
  have h0D := R1.h0_none nD
  have gD := R1.γ_some nD
  have sD : ∀ (i : Nat) (sl : Slt), s1.ρ[i]? = some sl → sl.isObj = true → σ[i]? ≠ some (some (.ref L)) := fun i sl e1 e2 e3 => by
    have so := R1.slot i sl e1
    cases sl with
    | no => cases e2
    | val d => cases e2
    | exc => cases e2
    | glob => cases e2
    | own lk c =>
      obtain ⟨q, o, ev, hq, _⟩ := so
      rw [e3] at ev
      cases ev
      rw [nD] at hq; cases hq
    | bor c =>
      obtain ⟨q, o, ev, hq, _⟩ := so
      rw [e3] at ev
      cases ev
      rw [nD] at hq; cases hq
  refine ⟨fun i m H' => m = ds.length - i ∧ i ≤ ds.length ∧ ∃ (F' : Hp) (g' : G) (acc : List V) (accD : List PyData), Le F1 F' ∧ Rel X.K B F' γ { s1 with g := g' } σ H' ∧ Stp F γ s σ H F' { s1 with g := g' } H' ∧ H' L = some (.lst acc) ∧ F' L = none ∧ DqAll X.K F' acc accD ∧ accD.length ≤ i ∧
      Good X B F γ s σ H ((elemsD vs t (elem1 tt te) (ds.drop i) >>= fun r => pure (Op.new (.lst (accD ++ r)))) { s1 with g := g' }) (fun o s' F' H' => ∀ v, OpOk X.K B F' γ s' σ H' v o → NewIn H v o → Q v H'), ⟨ds.length, by simp, Nat.zero_le _, F1, s1.g, [], [], Le.refl _, ?_, ?_, upd_same, R1.f_none nD, .nil, Nat.le_refl _, ?_⟩, ?_⟩
  · exact rel_upD R1 (R1.f_none nD) h0D gD sD
  · exact stp_upD st1 nD0
  · exact g1
  rintro i m H2 ⟨rfl, hi, F2, g2, acc, accD, l2, R2, st2, hD, fD, da, hl, gg⟩
  obtain ⟨hgo, hst⟩ := it i H2 (R2.kp l2)
  by_cases hlt : i < ds.length
  · have ed : ds[i]? = some ds[i] := List.getElem?_eq_getElem hlt
    have ec : ds.drop i = ds[i] :: ds.drop (i + 1) := List.drop_eq_getElem_cons hlt
    rw [ec] at gg
    obtain ⟨go, yl⟩ := hgo _ ed
    refine .inr ⟨go, fun H' => ∃ (F' : Hp) (g' : G) (acc : List V) (accD : List PyData), Le F1 F' ∧ Rel X.K B F' γ { s1 with g := g' } σ H' ∧ Stp F γ s σ H F' { s1 with g := g' } H' ∧ H' L = some (.lst acc) ∧ F' L = none ∧ DqAll X.K F' acc accD ∧ accD.length ≤ i + 1 ∧
      Good X B F γ s σ H ((elemsD vs t (elem1 tt te) (ds.drop (i + 1)) >>= fun r => pure (Op.new (.lst (accD ++ r)))) { s1 with g := g' }) (fun o s' F' H' => ∀ v, OpOk X.K B F' γ s' σ H' v o → NewIn H v o → Q v H'), fun H' z => ⟨ds.length - (i + 1), by omega, rfl, hlt, z⟩, fun x H3 y => ?_⟩
    have y' : Yld X.K F2 H2 x H3 ds[i] := by
      rcases yl x H3 y with ⟨e1, e2⟩ | z
      · exact .inl ⟨e1, e2.mono l2⟩
      · obtain ⟨p, vs, dd, np, e1, e2, e3, e4⟩ := z
        exact .inr ⟨p, vs, dd, np, e1, e2, e3.mono l2, e4⟩
    -- the item
    obtain ⟨F3, f3, R3, st3, hd, hD3, fD3⟩ : ∃ F3, Le F2 F3 ∧ Rel X.K B F3 γ { s1 with g := g2 } σ H3 ∧ Stp F γ s σ H F3 { s1 with g := g2 } H3 ∧ Dq X.K F3 x ds[i] ∧ H3 L = some (.lst acc) ∧ F3 L = none := by
      rcases y' with ⟨rfl, h⟩ | ⟨p, ws, dd, np, rfl, rfl, h, e4⟩
      · exact ⟨F2, Le.refl _, R2, st2, h, hD, fD⟩
      · obtain ⟨R', st', dq⟩ := rel_tup R2 np h
        have ne : L ≠ p := fun z => by rw [z, np] at hD; cases hD
        exact ⟨_, st'.fm, R', st2.trans st', by rw [e4]; exact dq, by rw [upd_ne ne]; exact hD, by rw [upd_ne ne]; exact fD⟩
    cases es : t.set ds[i] (wipeρ s1.ρ vs) with
    | none => rw [bind_bad (elemsD_none (s := { s1 with g := g2 }) es)] at gg; exact gg.elim
    | some ρ' =>
      have RI := rel_wipe R3 vs
      refine tg_ok RI hd es fun σ' R' ks kl => ⟨wipe_same (by rw [kl, wipe_length]) fun j hj => ks j fun z => hj (hv j z), ?_⟩
      generalize hsI : ({ ρ := ρ', g := g2 } : Sg) = sI
      have R' : Rel X.K B F3 γ sI σ' H3 := by rw [← hsI]; exact R'
      have noown : ∀ {j : Nat} {c : Cn}, sI.ρ[j]? ≠ some (.own false c) := fun {j c} e => by
        rw [← hsI] at e
        exact set_noown es (fun j c => wipe_noown) _ _ e
      have key : ∀ {F5 H5 : Hp} {s5 : Sg}, Stp F3 γ sI σ' H3 F5 s5 H5 → Rel X.K B F5 γ s5 σ' H5 → Rel X.K B F5 γ { s1 with g := s5.g } σ H5 ∧ Stp F γ s σ H F5 { s1 with g := s5.g } H5 ∧ H5 L = some (.lst acc) ∧ F5 L = none := fun {F5 H5 s5} st5 R5 => by
        have nm : ∀ a, ¬ Mutb sI σ' a := fun a ⟨j, c, e, _⟩ => noown e
        have h5 : ∀ a o, H3 a = some o → some a ≠ γ → H5 a = some o := fun a o e n => st5.hk a o e n (nm a)
        have f5 : ∀ a o, F5 a = some o → F3 a = some o ∨ H3 a = none := fun a o e => by
          rcases st5.fn a o e with z | z | z
          · exact .inl z
          · exact .inr z
          · exact absurd z (nm a)
        obtain ⟨Ra, Sa⟩ := rel_grow R3 (g' := s5.g) st5.fm R5.fh f5 h5 st5.dm (gnew_of R5)
        refine ⟨Ra, st3.trans Sa, h5 L _ hD3 gD, ?_⟩
        cases e : F5 L with
        | none => rfl
        | some o =>
          rcases f5 L o e with z | z
          · rw [fD3] at z; cases z
          · rw [hD3] at z; cases z
      have step : ∀ {x : Option PyData} {s2 : Sg}, elem1 tt te sI = .ok x s2 → Good X B F γ s σ H ((elemsD vs t (elem1 tt te) (ds.drop (i + 1)) >>= fun r => pure (Op.new (.lst ((accD ++ x.toList) ++ r)))) { s1 with g := s2.g }) (fun o s' F' H' => ∀ v, OpOk X.K B F' γ s' σ H' v o → NewIn H v o → Q v H') := fun {x s2} e => by
        have e3 : elemsD vs t (elem1 tt te) (ds[i] :: ds.drop (i + 1)) { s1 with g := g2 } = (elemsD vs t (elem1 tt te) (ds.drop (i + 1)) >>= fun r => pure (x.toList ++ r)) { s1 with g := s2.g } := elemsD_ok (s := { s1 with g := g2 }) es (by rw [← e, ← hsI])
        have e2 : (elemsD vs t (elem1 tt te) (ds[i] :: ds.drop (i + 1)) >>= fun r => pure (Op.new (.lst (accD ++ r)))) { s1 with g := g2 } = (elemsD vs t (elem1 tt te) (ds.drop (i + 1)) >>= fun r => pure (Op.new (.lst ((accD ++ x.toList) ++ r)))) { s1 with g := s2.g } := by
          cases q : elemsD vs t (elem1 tt te) (ds.drop (i + 1)) { s1 with g := s2.g } with
          | bad => rw [bind_bad q] at e3; rw [bind_bad e3, bind_bad q]
          | ex y s3 => rw [bind_of_ex q] at e3; rw [bind_of_ex e3, bind_of_ex q]
          | ok r s3 =>
            rw [bind_of q] at e3
            rw [bind_of e3, bind_of q, List.append_assoc]
        rw [e2] at gg
        exact gg
      have nob : ∃ x s2, elem1 tt te sI = .ok x s2 := by
        cases q : elem1 tt te sI with
        | ok x s2 => exact ⟨x, s2, rfl⟩
        | ex y s2 => rw [bind_bad (elemsD_ex (s := { s1 with g := g2 }) es (by rw [← q, ← hsI]))] at gg; exact gg.elim
        | bad => rw [bind_bad (elemsD_bad (s := { s1 with g := g2 }) es (by rw [← q, ← hsI]))] at gg; exact gg.elim
      obtain ⟨xo, s6, e6⟩ := nob
      have g6 := step e6
      refine hT F3 γ sI σ' H3 R'.nx _ ?_
      unfold elem1 at e6
      obtain ⟨b, s4, eb, e6⟩ := bind_ok e6
      rw [eb]
      intro F4 H4 st4 R4
      cases b with
      | false =>
        rw [if_neg Bool.false_ne_true] at e6 ⊢
        cases e6
        obtain ⟨Ra, Sa, hD5, fD5⟩ := key st4 R4.un
        refine ⟨F4, s6.g, acc, accD, (l2.trans f3).trans st4.fm, Ra, Sa, hD5, fD5, DqAll.mono (f3.trans st4.fm) da, by omega, ?_⟩
        have g6' := g6
        rw [show (accD ++ (none : Option D).toList) = accD from List.append_nil _] at g6'
        exact g6'
      | true =>
        rw [if_pos rfl] at e6 ⊢
        obtain ⟨o, s5, eo, e6⟩ := bind_ok e6
        obtain ⟨d, s7, ef, e6⟩ := bind_ok e6
        cases e6
        refine hE F4 γ s4 σ' H4 R4 _ ?_
        rw [eo]
        intro F5 H5 st5 R5 v hv5 hn5
        obtain ⟨F6, f6, R6, hd6, st6, _⟩ := frz_ok (s₀ := s4) R5 st5 (.of hv5 hn5) ef
        obtain ⟨Ra, Sa, hD5, fD5⟩ := key (st4.trans st6) R6.un
        refine ⟨acc, hD5, ?_, F6, s6.g, acc ++ [v], accD ++ [d], (l2.trans f3).trans (st4.fm.trans st6.fm), ?_, ?_, upd_same, fD5, (DqAll.mono (f3.trans (st4.fm.trans st6.fm)) da).app (.cons hd6 .nil), by rw [List.length_append]; exact Nat.succ_le_succ hl, g6⟩
        · rw [da.length]; omega
        · exact rel_upD Ra fD5 h0D gD sD
        · exact stp_upD Sa nD0
  · have e : i = ds.length := by omega
    subst e
    rw [List.drop_length] at gg
    have gg' : Good X B F γ s σ H (.ok (Op.new (.lst (accD ++ []))) { s1 with g := g2 }) (fun o s' F' H' => ∀ v, OpOk X.K B F' γ s' σ H' v o → NewIn H v o → Q v H') := gg
    rw [List.append_nil] at gg'
    exact .inl ⟨hst (Nat.le_refl _), gg' F2 H2 st2 R2 _ ⟨L, _, rfl, hD, .lst da, fD, h0D, gD, sD⟩ fun p e => by cases e; exact nD0⟩

theorem de_lc (hc : X.calm = true) (hN : X.N.Nodup) (hi : DI X B tg e fi) (ok : BlkOk X.N X.env.scope scope own) (hv : ∀ i ∈ t.slots, i ∈ own.map (·.2))
    (hg : ∀ (s : Shared) (H : Hp) (C : Addr) (cl : List (Str × Addr)) (fp : List Addr), PG (X.blk s H scope (compEnvC scope cl C X.env) fp) tg (t.tgt X.K))
    (ht : ∀ (s : Shared) (H : Hp) (C : Addr) (cl : List (Str × Addr)) (fp : List Addr), DTs (X.blk s H scope (compEnvC scope cl C X.env) fp) B.nx ifs tt)
    (he : ∀ (s : Shared) (H : Hp) (C : Addr) (cl : List (Str × Addr)) (fp : List Addr), DE (X.blk s H scope (compEnvC scope cl C X.env) fp) B.nx elt te)
    (hs : ∀ x, foldedSetIterable e X.env x = pure x := by intro _; rfl) : DE X B (.ListComp elt [⟨tg, e, ifs, 0⟩] scope pos) (compM fi (own.map (·.2)) t tt te) := by
  refine ⟨fun F γ s σ H R Q gd => ?_⟩
  refine wE_of (pe_lc (wi := wI X tg e) (tt := fun σ H Q => ∀ s0 H0 C cl fp, wTs (X.blk s0 H0 scope (compEnvC scope cl C X.env) fp) ifs σ H Q) (te := fun σ H Q => ∀ s0 H0 C cl fp, wE (X.blk s0 H0 scope (compEnvC scope cl C X.env) fp) elt σ H Q) hc hN pi_w ok hg
    (fun s0 H0 C cl fp => ⟨fun pins s σ H Q I h => h s0 H0 C cl fp pins s I⟩) (fun s0 H0 C cl fp => ⟨fun pins s σ H Q I h => h s0 H0 C cl fp pins s I⟩) hs) ?_
  exact lc_core2 hv (fun F γ s σ H R Q g s0 H0 C cl fp => (ht s0 H0 C cl fp).run F γ s σ H R Q g) (fun F γ s σ H R Q g s0 H0 C cl fp => (he s0 H0 C cl fp).run F γ s σ H R Q g) R Q (hi.run F γ s σ H R) gd
/-- name = [..] -/
theorem ds_lcWith {i : Nat} {y : Str} {py : Pos} {asg : Op → M Fl} (hc : X.calm = true) (hN : X.N.Nodup) (hy : X.N[i]? = some y) (hyl : X.env.scope.names.lookup y = some .local)
    (hsw : swapsWith (.ListComp elt [⟨tg, e, ifs, 0⟩] scope pos) (some (.Name y py)) spos.line X.env = pure true) (hi : DI X B tg e fi) (ok : BlkOk X.N X.env.scope scope own) (hv : ∀ i ∈ t.slots, i ∈ own.map (·.2))
    (hg : ∀ (s : Shared) (H : Hp) (C : Addr) (cl : List (Str × Addr)) (fp : List Addr), PG (X.blk s H scope (compEnvC scope cl C X.env) fp) tg (t.tgt X.K))
    (ht : ∀ (s : Shared) (H : Hp) (C : Addr) (cl : List (Str × Addr)) (fp : List Addr), DTs (X.blk s H scope (compEnvC scope cl C X.env) fp) B.nx ifs tt)
    (he : ∀ (s : Shared) (H : Hp) (C : Addr) (cl : List (Str × Addr)) (fp : List Addr), DE (X.blk s H scope (compEnvC scope cl C X.env) fp) B.nx elt te)
    (hA : ∀ {F₀ F H H₀ : Hp} {γ : Option Addr} {s₀ s : Sg} {σ : L2.St} {v : V} {o : Op} {E : Ends}, Rel X.K B F γ s σ H → Stp F₀ γ s₀ σ H₀ F s H → OpOk X.K B F γ s σ H v o → NewIn H₀ v o → GoodS X B F (asg o s) E → E.nx (σ.set i (some v)) H)
    (hs : ∀ x, foldedSetIterable e X.env x = pure x := by intro _; rfl) : DS X B (.Assign [.Name y py] (.ListComp elt [⟨tg, e, ifs, 0⟩] scope pos) spos) (compM fi (own.map (·.2)) t tt te >>= asg) := by
  refine ⟨fun F γ s σ H E R h => ?_⟩
  refine wS_of (ps_setLc (wi := wI X tg e) (tt := fun σ H Q => ∀ s0 H0 C cl fp, wTs (X.blk s0 H0 scope (compEnvC scope cl C X.env) fp) ifs σ H Q) (te := fun σ H Q => ∀ s0 H0 C cl fp, wE (X.blk s0 H0 scope (compEnvC scope cl C X.env) fp) elt σ H Q) hc hN hy hyl hsw pi_w ok hg
    (fun s0 H0 C cl fp => ⟨fun pins s σ H Q I h => h s0 H0 C cl fp pins s I⟩) (fun s0 H0 C cl fp => ⟨fun pins s σ H Q I h => h s0 H0 C cl fp pins s I⟩) hs) ?_
  exact lc_core2 hv (fun F γ s σ H R Q g s0 H0 C cl fp => (ht s0 H0 C cl fp).run F γ s σ H R Q g) (fun F γ s σ H R Q g s0 H0 C cl fp => (he s0 H0 C cl fp).run F γ s σ H R Q g) R _ (hi.run F γ s σ H R)
    (Good.ofS h fun o s1 F1 H1 _ st1 R1 g1 v hv hn => hA R1 st1 hv hn g1)
theorem ds_lcF {i : Nat} {y : Str} {py : Pos} (hc : X.calm = true) (hN : X.N.Nodup) (hy : X.N[i]? = some y) (hyl : X.env.scope.names.lookup y = some .local)
    (hsw : swapsWith (.ListComp elt [⟨tg, e, ifs, 0⟩] scope pos) (some (.Name y py)) spos.line X.env = pure true) (hi : DI X B tg e fi) (ok : BlkOk X.N X.env.scope scope own) (hv : ∀ i ∈ t.slots, i ∈ own.map (·.2))
    (hg : ∀ (s : Shared) (H : Hp) (C : Addr) (cl : List (Str × Addr)) (fp : List Addr), PG (X.blk s H scope (compEnvC scope cl C X.env) fp) tg (t.tgt X.K))
    (ht : ∀ (s : Shared) (H : Hp) (C : Addr) (cl : List (Str × Addr)) (fp : List Addr), DTs (X.blk s H scope (compEnvC scope cl C X.env) fp) B.nx ifs tt)
    (he : ∀ (s : Shared) (H : Hp) (C : Addr) (cl : List (Str × Addr)) (fp : List Addr), DE (X.blk s H scope (compEnvC scope cl C X.env) fp) B.nx elt te)
    (hs : ∀ x, foldedSetIterable e X.env x = pure x := by intro _; rfl) : DS X B (.Assign [.Name y py] (.ListComp elt [⟨tg, e, ifs, 0⟩] scope pos) spos) (compM fi (own.map (·.2)) t tt te >>= asgF i) :=
  ds_lcWith hc hN hy hyl hsw hi ok hv hg ht he (fun R st a b c => asgF_ok R st a b c) hs
theorem ds_lcO {i : Nat} {y : Str} {py : Pos} (hc : X.calm = true) (hN : X.N.Nodup) (hy : X.N[i]? = some y) (hyl : X.env.scope.names.lookup y = some .local)
    (hsw : swapsWith (.ListComp elt [⟨tg, e, ifs, 0⟩] scope pos) (some (.Name y py)) spos.line X.env = pure true) (hi : DI X B tg e fi) (ok : BlkOk X.N X.env.scope scope own) (hv : ∀ i ∈ t.slots, i ∈ own.map (·.2))
    (hg : ∀ (s : Shared) (H : Hp) (C : Addr) (cl : List (Str × Addr)) (fp : List Addr), PG (X.blk s H scope (compEnvC scope cl C X.env) fp) tg (t.tgt X.K))
    (ht : ∀ (s : Shared) (H : Hp) (C : Addr) (cl : List (Str × Addr)) (fp : List Addr), DTs (X.blk s H scope (compEnvC scope cl C X.env) fp) B.nx ifs tt)
    (he : ∀ (s : Shared) (H : Hp) (C : Addr) (cl : List (Str × Addr)) (fp : List Addr), DE (X.blk s H scope (compEnvC scope cl C X.env) fp) B.nx elt te)
    (hs : ∀ x, foldedSetIterable e X.env x = pure x := by intro _; rfl) : DS X B (.Assign [.Name y py] (.ListComp elt [⟨tg, e, ifs, 0⟩] scope pos) spos) (compM fi (own.map (·.2)) t tt te >>= asgO i) :=
  ds_lcWith hc hN hy hyl hsw hi ok hv hg ht he (fun R st a b c => asgO_ok R a c) hs
end
end PD
end

section
set_option Elab.async false
set_option linter.all false
set_option maxRecDepth 100000
set_option maxHeartbeats 4000000
set_option autoImplicit false
namespace PD
open PySem PySem.Spec L2
open PyProof.Rows hiding St

/-! ### defs -/
def Arg.slot : Arg → Slt
  | .val d => .val d
  | .bor c => .bor c
  | .glob => .glob
def startD (n : Nat) (as : List Arg) : List Slt := as.map Arg.slot ++ List.replicate (n - as.length) .no
/-- a global list made within is left behind -/
def gOut : G → G → G
  | none, _ => none
  | some _, g => g
def runD (n : Nat) (f : M Fl) : Fn := fun as g => match f { ρ := startD n as, g := g } with
  | .ok (.rt r) s => .ok r (gOut g s.g)
  | .ok .nx s => .ok (.val .none) (gOut g s.g)
  | .ok _ _ => .bad
  | .ex x s => .ex x (gOut g s.g)
  | .bad => .bad
section
variable {P : Program} {w : World} {K : PySem.W.Frag} {mg : Str → Option Value} {base : Heap}
theorem paired_at {α β : Type} {R : α → β → Prop} : ∀ {xs : List α} {ys : List β} {i : Nat} {y : β}, Paired R xs ys → ys[i]? = some y → ∃ x, xs[i]? = some x ∧ R x y
  | _, _, _, _, .nil, e => by simp at e
  | _, _, 0, _, .cons h _, e => by simp at e; subst e; exact ⟨_, rfl, h⟩
  | _, _, i + 1, _, .cons _ t, e => by
    obtain ⟨x, e1, h⟩ := paired_at (i := i) t (by simpa using e)
    exact ⟨x, by simpa using e1, h⟩
def bdOf (E : XK) (H F : Hp) (γ : Option Addr) : Bd := ⟨fun cls d _ H' => E cls d H', H, F, γ, none⟩
theorem rel_start {N : List Str} {E : XK} {F H : Hp} {γ : Option Addr} {g : G} {as : List Arg} {vs : List V} (fh : Le F H) (ga : GAt K F H g γ) (pa : Paired (ArgOk K F H γ) vs as) : Rel K (bdOf E H F γ) F γ { ρ := startD N.length as, g := g } (L2.start N vs) H := by
  have hl : vs.length = as.length := Paired.length pa
  have at_ : ∀ (i : Nat) (sl : Slt), (startD N.length as)[i]? = some sl → sl = .no ∨ ∃ a v, sl = a.slot ∧ (L2.start N vs)[i]? = some (some v) ∧ ArgOk K F H γ v a := fun i sl e => by
    unfold startD at e
    by_cases h : i < as.length
    · rw [List.getElem?_append_left (by rw [List.length_map]; exact h), List.getElem?_map] at e
      cases q : as[i]? with
      | none => rw [q] at e; cases e
      | some a =>
        rw [q] at e
        obtain ⟨v, ev, hv⟩ := paired_at pa q
        refine .inr ⟨a, v, (Option.some.inj e).symm, ?_, hv⟩
        unfold L2.start
        rw [List.getElem?_append_left (by rw [List.length_map]; omega), List.getElem?_map, ev]
        rfl
    · rw [List.getElem?_append_right (by rw [List.length_map]; omega), List.getElem?_replicate] at e
      split at e
      · exact .inl (Option.some.inj e).symm
      · cases e
  refine ⟨fh, Le.refl F, fun _ _ h => .inl h, fun _ _ h _ => h, fun _ o h => ⟨o, h⟩, ?_, fun i sl e => ?_, fun i j lk c sl e1 _ _ _ => ?_, ?_⟩
  · show (startD N.length as).length = (L2.start N vs).length
    unfold startD L2.start
    rw [List.length_append, List.length_append, List.length_map, List.length_map, List.length_replicate, List.length_replicate, hl]
  · rcases at_ i sl e with rfl | ⟨a, v, rfl, ev, ok⟩
    · trivial
    · rw [ev]
      cases a with
      | val d => exact ⟨v, rfl, ok⟩
      | bor c =>
        obtain ⟨p, o, rfl, hp, ck, ng⟩ := ok
        exact ⟨p, o, rfl, hp, ck, hp, ng⟩
      | glob =>
        obtain ⟨a, ea, rfl⟩ := ok
        exact ⟨a, ea, rfl⟩
  · rcases at_ i _ e1 with z | ⟨a, v, z, _⟩
    · cases z
    · cases a <;> cases z
  · show GOk K (bdOf E H F γ) F H g γ
    cases g with
    | none =>
      cases γ with
      | none => rfl
      | some a => exact ga.elim
    | some xs =>
      cases γ with
      | none => exact ga.elim
      | some a =>
        obtain ⟨ws, h1, h2, h3⟩ := ga
        exact ⟨ws, h1, h2, h3, .inl rfl⟩
theorem Rel.post {E : XK} {F H F' H' : Hp} {γ γ' : Option Addr} {s : Sg} {σ : L2.St} {g : G} (ga : GAt K F H g γ) (R : Rel K (bdOf E H F γ) F' γ' s σ H') : Post K F γ H F' H' (gOut g s.g) := by
  have gl := R.gl
  refine ⟨R.f0, R.fn, R.fh, fun a o e n => R.keep a o e n, fun a o e => R.dom a o e, ?_⟩
  cases g with
  | none =>
    cases γ with
    | none => trivial
    | some a => exact ga.elim
  | some ys =>
    cases γ with
    | none => exact ga.elim
    | some b =>
      show GNew K F' H' s.g (some b)
      have gn := gnew_of R
      cases eg : s.g with
      | none =>
        rw [eg] at gl
        cases γ' with
        | none => cases (show (some b : Option Addr) = none from gl)
        | some a => exact gl.elim
      | some xs =>
        rw [eg] at gl gn
        cases γ' with
        | none => exact gl.elim
        | some a =>
          obtain ⟨ws, _, _, _, z | ⟨z, _⟩⟩ := gl
          · cases (show some b = some a from z)
            exact gn
          · cases (show (some b : Option Addr) = none from z)
theorem fn_pd {x qual : Str} {st : Stmt} {f : Addr} {fd : FuncData} {N ps : List Str} {k : Nat} {m : M Fl} {n : Nat} (F : L2.Fun K x qual st f fd) (S : FnScope N ps (defScope st)) (hn : N.length = n)
    (hbody : ∀ (X : Cx) (B : Bd), X.calm = true → X.prog = P → X.w = w → X.K = K → X.mg = mg → X.base = base → B.ex = none → RoomX k X.A → Takes X B.W → ∀ (cdv : Value) (A : Around) (outer : List Env) (s : Shared) (H : Hp) (E : XK), X = cxOf (L2.CX P w) P w K mg base N qual (defScope st) f cdv A outer s H E → DSs X B (defBody st) m) :
    FnX P w K mg base (L2.CX P w) (k + 1) f fd ps (spF K mg ps.length (runD n m)) := by
  subst hn
  refine okFX F S (fun vs H Q E h => ?_) (fun cdv A outer s H vs Q E hr h => ?_)
  · obtain ⟨F, γ, g, as, _, _, pa, hl, _⟩ := h
    rw [Paired.length pa, hl]
  · obtain ⟨F0, γ, g, as, fh, ga, pa, hl, h⟩ := h
    refine ⟨_, pss_w, ?_⟩
    have tk : Takes (cxOf (L2.CX P w) P w K mg base N qual (defScope st) f cdv A outer s H E) (bdOf E H F0 γ).W := takes_of rfl rfl rfl rfl
    refine (hbody _ (bdOf E H F0 γ) rfl rfl rfl rfl rfl rfl rfl hr tk cdv A outer s H E rfl).run F0 γ _ _ H _ (rel_start fh ga pa) ?_
    unfold runD at h
    have hx : (cxOf (L2.CX P w) P w K mg base N qual (defScope st) f cdv A outer s H E).mg = mg := rfl
    have hK : (cxOf (L2.CX P w) P w K mg base N qual (defScope st) f cdv A outer s H E).K = K := rfl
    cases e : m { ρ := startD N.length as, g := g } with
    | bad => rw [e] at h; exact h
    | ex y s1 =>
      rw [e] at h
      intro cls d F' γ' σ' H' l R xo
      exact h cls d F' H' (Rel.post ga R) xo
    | ok a s1 =>
      rw [e] at h
      cases a with
      | bk => exact h.elim
      | ct => exact h.elim
      | nx => exact fun F' γ' σ' H' l R => h .non F' H' (Rel.post ga R) .non
      | rt r =>
        intro F' γ' σ' H' v l R ro
        refine h v F' H' (Rel.post ga R) ?_
        cases r with
        | val d => exact ro
        | new c =>
          obtain ⟨p, o, rfl, hp, ck, fp, h0, _⟩ := ro
          exact ⟨p, o, rfl, hp, ck, fp, h0⟩
end
end PD
end

section
set_option Elab.async false
set_option linter.all false
set_option maxRecDepth 100000
set_option maxHeartbeats 4000000
set_option autoImplicit false
namespace PD
open PySem PySem.Spec L2
open PyProof.Rows hiding St

/-! ### several names at once -/
def storeAll (js : List Nat) (ds : List D) : M Fl := fun s => match setAll js ds s.ρ with
  | some ρ' => .ok .nx { s with ρ := ρ' }
  | none => .bad
def parM (js : List Nat) (fs : M (List Op)) : M Fl := fs >>= fun os => frzAll os >>= fun ds => storeAll js ds
section
variable {X : Cx} {B : Bd} {es : List Expr} {fs : M (List Op)} {pos : Pos}
theorem ds_par {i j : Nat} {x y : Str} {a b : Expr} {px py pt : Pos} {kt k2 pt2} (hc : X.calm = true) (hN : X.N.Nodup) (hi : X.N[i]? = some x) (hj : X.N[j]? = some y) (hij : i ≠ j)
    (hx : X.env.scope.names.lookup x = some .local) (hy : X.env.scope.names.lookup y = some .local) (ha : DA X B [a, b] fs)
    (hw : swappedStores [.Tuple [.Name x px, .Name y py] kt pt] (.Tuple [a, b] k2 pt2) X.env = pure (some [x, y]))
    (hs : swapsWithSole [.Tuple [.Name x px, .Name y py] kt pt] (.Tuple [a, b] k2 pt2) pos.line X.env = pure false := by rfl) :
    DS X B (.Assign [.Tuple [.Name x px, .Name y py] kt pt] (.Tuple [a, b] k2 pt2) pos) (parM [i, j] fs) := by
  refine ⟨fun F γ s σ H E R h => ?_⟩
  refine wS_of (ps_par hc hN hi hj hij hx hy pa_w hw hs) ?_
  refine ha.run F γ s σ H R _ (Good.ofS h fun os s1 F1 H1 _ st1 R1 g1 vs hvs => ?_)
  cases e : frzAll os s1 with
  | ex x s2 => exact (frzAll_noex x s2 e).elim
  | bad => rw [bind_bad e] at g1; exact g1.elim
  | ok ds s2 =>
    rw [bind_of e] at g1
    obtain ⟨F2, f2, R2, hds, st2, _⟩ := frzAll_ok R1 st1 hvs.pw e
    cases es : setAll [i, j] ds s2.ρ with
    | none => unfold storeAll at g1; rw [es] at g1; exact g1.elim
    | some ρ' =>
      unfold storeAll at g1
      rw [es] at g1
      have q := setAll_ok (js := [i, j]) (Q := fun σ' H' => E.nx σ' H') R2 hds es fun σ' R' _ _ => g1 F2 γ σ' H1 f2 R'
      obtain ⟨v, r, e1, v2, r2, e2, e3, q⟩ := q
      subst e2 e3
      exact ⟨v, v2, e1, q⟩
theorem ds_par3 {i j l : Nat} {x y z : Str} {a b c : Expr} {px py pz pt : Pos} {kt k2 pt2} (hc : X.calm = true) (hN : X.N.Nodup) (hi : X.N[i]? = some x) (hj : X.N[j]? = some y) (hl : X.N[l]? = some z) (hij : i ≠ j) (hil : i ≠ l) (hjl : j ≠ l)
    (hx : X.env.scope.names.lookup x = some .local) (hy : X.env.scope.names.lookup y = some .local) (hz : X.env.scope.names.lookup z = some .local) (ha : DA X B [a, b, c] fs)
    (hw : swappedStores [.Tuple [.Name x px, .Name y py, .Name z pz] kt pt] (.Tuple [a, b, c] k2 pt2) X.env = pure (some [x, y, z]))
    (hs : swapsWithSole [.Tuple [.Name x px, .Name y py, .Name z pz] kt pt] (.Tuple [a, b, c] k2 pt2) pos.line X.env = pure false := by rfl) :
    DS X B (.Assign [.Tuple [.Name x px, .Name y py, .Name z pz] kt pt] (.Tuple [a, b, c] k2 pt2) pos) (parM [i, j, l] fs) := by
  refine ⟨fun F γ s σ H E R h => ?_⟩
  refine wS_of (ps_par3 hc hN hi hj hl hij hil hjl hx hy hz pa_w hw hs) ?_
  refine ha.run F γ s σ H R _ (Good.ofS h fun os s1 F1 H1 _ st1 R1 g1 vs hvs => ?_)
  cases e : frzAll os s1 with
  | ex x s2 => exact (frzAll_noex x s2 e).elim
  | bad => rw [bind_bad e] at g1; exact g1.elim
  | ok ds s2 =>
    rw [bind_of e] at g1
    obtain ⟨F2, f2, R2, hds, st2, _⟩ := frzAll_ok R1 st1 hvs.pw e
    cases es : setAll [i, j, l] ds s2.ρ with
    | none => unfold storeAll at g1; rw [es] at g1; exact g1.elim
    | some ρ' =>
      unfold storeAll at g1
      rw [es] at g1
      have q := setAll_ok (js := [i, j, l]) (Q := fun σ' H' => E.nx σ' H') R2 hds es fun σ' R' _ _ => g1 F2 γ σ' H1 f2 R'
      obtain ⟨v, r, e1, v2, r2, e2, v3, r3, e3, e4, q⟩ := q
      subst e2 e3 e4
      exact ⟨v, v2, v3, e1, q⟩
end

/-! ### op= -/
inductive AugO where
  | add | sub | mul
def AugO.op : AugO → Operator
  | .add => .Add
  | .sub => .Sub
  | .mul => .Mult
def augV : AugO → D → D → Option D
  | .add, .int a, .int b => some (.int (a + b))
  | .sub, .int a, .int b => some (.int (a - b))
  | .add, .str a, .str b => if a.length + b.length ≤ sizeLine then some (.str (a ++ b)) else none
  | _, _, _ => none
def rAug (o : AugO) : TIp := fun x y H Q => (∃ i j, x = .int i ∧ y = .int j ∧ (o = .add ∧ Q (.int (i + j)) H ∨ o = .sub ∧ Q (.int (i - j)) H)) ∨ (∃ a b, x = .str a ∧ y = .str b ∧ o = .add ∧ a.length + b.length ≤ sizeLine ∧ Q (.str (a ++ b)) H)
theorem ip_aug {X : Cx} (o : AugO) : PIp X o.op (rAug o) := by
  intro pins s σ H x y v u Q I r1 r2 h
  rcases h with ⟨i, j, rfl, rfl, ⟨rfl, q⟩ | ⟨rfl, q⟩⟩ | ⟨a, b, rfl, rfl, rfl, hz, q⟩
  · exact ip_add pins s σ H _ _ v u Q I r1 r2 ⟨i, j, rfl, rfl, q⟩
  · exact ip_sub pins s σ H _ _ v u Q I r1 r2 ⟨i, j, rfl, rfl, q⟩
  · obtain ⟨t, rfl⟩ := r1
    obtain ⟨t', rfl⟩ := r2
    exact iadd_str (fun t' tk => ⟨.str (a ++ b), H, I.tok _, ⟨_, rfl⟩, q⟩) hz
theorem augV_ok {K : PySem.W.Frag} {F H : Hp} {o : AugO} {a b d : D} {v u : V} {Q : VK} (e : augV o a b = some d) (hv : Dq K F v a) (hu : Dq K F u b) (q : ∀ z, Dq K F z d → Q z H) : rAug o v u H Q := by
  unfold augV at e
  split at e
  · cases e
    obtain rfl := hv.int_
    obtain rfl := hu.int_
    exact .inl ⟨_, _, rfl, rfl, .inl ⟨rfl, q _ (.int _)⟩⟩
  · cases e
    obtain rfl := hv.int_
    obtain rfl := hu.int_
    exact .inl ⟨_, _, rfl, rfl, .inr ⟨rfl, q _ (.int _)⟩⟩
  · split at e
    · rename_i hz
      cases e
      obtain rfl := hv.str_
      obtain rfl := hu.str_
      exact .inr ⟨_, _, rfl, rfl, rfl, hz, q _ (.str _)⟩
    · cases e
  · cases e
def augS (o : AugO) (i : Nat) (a b : D) : M Fl := match augV o a b with
  | some d => setS i (.val d)
  | none => M.bad
def augM (o : AugO) (i : Nat) (fe : M Op) : M Fl := fun s => match s.ρ[i]? with
  | some (.val a) => (fe >>= fun x => frz x >>= fun b => augS o i a b) s
  | _ => .bad
section
variable {X : Cx} {B : Bd} {e : Expr} {fe : M Op} {pos pos' : Pos} {i : Nat} {x : Str}
theorem ds_aug (o : AugO) (hN : X.N.Nodup) (hi : X.N[i]? = some x) (hx : Loc X.env.scope x) (he : DE X B e fe) (hf : X.fn x = true ∨ X.env.scope.names.lookup x = some .local := by first | exact .inl rfl | exact .inr rfl | assumption) :
    DS X B (.AugAssign (.Name x pos') o.op e pos) (augM o i fe) := by
  refine ⟨fun F γ s σ H E R h => ?_⟩
  refine wS_of (ps_aug hN hi hx pe_w (ip_aug o) hf) ?_
  unfold augM at h
  cases e1 : s.ρ[i]? with
  | none => rw [e1] at h; exact h.elim
  | some sl =>
    rw [e1] at h
    cases sl with
    | no => exact h.elim
    | exc => exact h.elim
    | own lk c => exact h.elim
    | bor c => exact h.elim
    | glob => exact h.elim
    | val a =>
      obtain ⟨v, ev, hv⟩ := R.slot i _ e1
      refine ⟨v, ev, he.run F γ s σ H R _ (Good.ofS h fun o' s1 F1 H1 _ st1 R1 g1 u hu hn => ?_)⟩
      cases e2 : frz o' s1 with
      | ex y s2 => exact (frz_noex y s2 e2).elim
      | bad => rw [bind_bad e2] at g1; exact g1.elim
      | ok b s2 =>
        rw [bind_of e2] at g1
        obtain ⟨F2, f2, R2, hb, st2, _⟩ := frz_ok R1 st1 (.of hu hn) e2
        cases e3 : augV o a b with
        | none => unfold augS at g1; rw [e3] at g1; exact g1.elim
        | some d =>
          unfold augS at g1
          rw [e3] at g1
          exact augV_ok e3 (Dq.mono st2.fm hv) hb fun z hz => g1 F2 γ _ H1 f2 (rel_set R2 ⟨z, rfl, hz⟩ fun lk c z => nomatch z)
end

/-! ### xs[i] = e -/
/-- of one's own or the global list -/
def putAt (j : Nat) (k : Int) (d : D) : M Unit := fun s => match s.ρ[j]? with
  | some .glob => (match s.g with
    | some xs => (match ixN xs.length k with
      | some n => .ok () { s with g := some (xs.set n d) }
      | none => .bad)
    | none => .bad)
  | some (.own false (.lst xs)) => (match ixN xs.length k with
    | some n => .ok () { s with ρ := s.ρ.set j (.own false (.lst (xs.set n d))) }
    | none => .bad)
  | _ => .bad
def toInt (o : Op) : M Int := fun s => match view o s with
  | .ok (.dat (.int i)) _ => .ok i s
  | _ => .bad
def isObj (j : Nat) : M Unit := fun s => match s.ρ[j]? with
  | some .glob => .ok () s
  | some (.own _ _) => .ok () s
  | _ => .bad
def isetM (j : Nat) (fe fi : M Op) : M Fl := isObj j >>= fun _ => fe >>= fun o => frz o >>= fun d => fi >>= fun ix => toInt ix >>= fun k => putAt j k d >>= fun _ => pure .nx
theorem toInt_ok {K : PySem.W.Frag} {B : Bd} {F H : Hp} {γ : Option Addr} {s s' : Sg} {σ : L2.St} (R : Rel K B F γ s σ H) {o : Op} {v : V} (hv : OpOk K B F γ s σ H v o) {i : Int} (e : toInt o s = .ok i s') : v = .int i ∧ s' = s := by
  unfold toInt at e
  cases q : view o s with
  | bad => rw [q] at e; cases e
  | ex y s1 => rw [q] at e; cases e
  | ok w s1 =>
    rw [q] at e
    have ok := view_ok R hv q
    cases w with
    | obj c => cases e
    | dat d =>
      cases d with
      | int k => cases e; exact ⟨ok.1.int_, rfl⟩
      | _ => cases e
theorem toInt_noex {o : Op} {s : Sg} {x : Xn} {s' : Sg} : toInt o s ≠ .ex x s' := by
  unfold toInt
  intro e
  split at e <;> cases e
section
variable {X : Cx} {B : Bd} {e ie : Expr} {fe fi : M Op} {pos pos' pos2 : Pos} {j : Nat} {x : Str}
theorem isObj_ok {F H : Hp} {γ : Option Addr} {s : Sg} {σ : L2.St} {E : Ends} {m : M Fl} (R : Rel X.K B F γ s σ H) (h : GoodS X B F ((isObj j >>= fun _ => m) s) E) : (∃ p, σ[j]? = some (some (.ref p))) ∧ GoodS X B F (m s) E := by
  cases ej : s.ρ[j]? with
  | none => rw [bind_bad (by unfold isObj; rw [ej])] at h; exact h.elim
  | some sl =>
    cases sl with
    | no => rw [bind_bad (by unfold isObj; rw [ej])] at h; exact h.elim
    | exc => rw [bind_bad (by unfold isObj; rw [ej])] at h; exact h.elim
    | val a => rw [bind_bad (by unfold isObj; rw [ej])] at h; exact h.elim
    | bor c => rw [bind_bad (by unfold isObj; rw [ej])] at h; exact h.elim
    | glob =>
      obtain ⟨a, ea, ev⟩ := R.slot j _ ej
      rw [bind_of (a := ()) (s1 := s) (by unfold isObj; rw [ej])] at h
      exact ⟨⟨a, ev⟩, h⟩
    | own lk c =>
      obtain ⟨p, o, ev, _⟩ := R.slot j _ ej
      rw [bind_of (a := ()) (s1 := s) (by unfold isObj; rw [ej])] at h
      exact ⟨⟨p, ev⟩, h⟩
theorem putAt_ok {F3 H3 : Hp} {γ : Option Addr} {s3 : Sg} {σ : L2.St} {E : Ends} {k : Int} {d : D} {v : V} (R3 : Rel X.K B F3 γ s3 σ H3) (hd2 : Dq X.K F3 v d) (g3 : GoodS X B F3 ((putAt j k d >>= fun _ => pure .nx) s3) E) :
    ∃ p xs n, σ[j]? = some (some (.ref p)) ∧ H3 p = some (.lst xs) ∧ ixN xs.length k = some n ∧ E.nx σ (upd H3 p (.lst (xs.set n v))) := by
  cases ej : s3.ρ[j]? with
  | none => rw [bind_bad (by unfold putAt; rw [ej])] at g3; exact g3.elim
  | some sl =>
    cases sl with
    | no => rw [bind_bad (by unfold putAt; rw [ej])] at g3; exact g3.elim
    | exc => rw [bind_bad (by unfold putAt; rw [ej])] at g3; exact g3.elim
    | val a => rw [bind_bad (by unfold putAt; rw [ej])] at g3; exact g3.elim
    | bor c => rw [bind_bad (by unfold putAt; rw [ej])] at g3; exact g3.elim
    | glob =>
      cases eg : s3.g with
      | none => rw [bind_bad (by unfold putAt; rw [ej, eg])] at g3; exact g3.elim
      | some xs =>
        cases en : ixN xs.length k with
        | none => rw [bind_bad (by unfold putAt; rw [ej]; dsimp only; rw [eg]; dsimp only; rw [en])] at g3; exact g3.elim
        | some n =>
          rw [bind_of (a := ()) (s1 := { s3 with g := some (xs.set n d) }) (by unfold putAt; rw [ej]; dsimp only; rw [eg]; dsimp only; rw [en])] at g3
          obtain ⟨a, ea, ev⟩ := R3.slot j _ ej
          have gl := R3.gl
          rw [eg, ea] at gl
          obtain ⟨ws, hp, dq, _⟩ := gl
          obtain ⟨R4, st4⟩ := rel_gmut R3 ea eg (DqAll.set hd2 n dq)
          exact ⟨a, ws, n, ev, hp, by rw [dq.length]; exact en, g3 F3 γ σ _ (Le.refl _) R4⟩
    | own lk c =>
      cases lk with
      | true => rw [bind_bad (by unfold putAt; rw [ej])] at g3; exact g3.elim
      | false =>
        cases c with
        | dct kvs => rw [bind_bad (by unfold putAt; rw [ej])] at g3; exact g3.elim
        | lst xs =>
          cases en : ixN xs.length k with
          | none => rw [bind_bad (by unfold putAt; rw [ej]; dsimp only; rw [en])] at g3; exact g3.elim
          | some n =>
            rw [bind_of (a := ()) (s1 := { s3 with ρ := s3.ρ.set j (.own false (.lst (xs.set n d))) }) (by unfold putAt; rw [ej]; dsimp only; rw [en])] at g3
            obtain ⟨p, o, ev, hp, ck, _⟩ := R3.slot j _ ej
            cases ck with
            | @lst ws _ ck =>
              obtain ⟨R4, st4⟩ := rel_mut R3 ej ev (COk.lst (DqAll.set hd2 n ck))
              exact ⟨p, ws, n, ev, hp, by rw [ck.length]; exact en, g3 F3 γ σ _ (Le.refl _) R4⟩
theorem ds_iset (hN : X.N[j]? = some x) (he : DE X B e fe) (hi : DE X B ie fi) (hv : Vis X.env.scope x := by first | exact Or.inl rfl | exact Or.inr (Or.inl rfl) | exact Or.inr (Or.inr rfl)) (hd : (x == ("__debug__" : Str)) = false := by decide) (hcd : (x == ("__classdict__" : Str)) = false := by decide)
    (ha : ∀ v, assign (.Subscript (.Name x pos2) ie pos') X.env v = (do
      let ov ← holding [v] (eval (.Name x pos2) X.env)
      let iv ← holding [v, ov] (eval ie X.env)
      standAt pos'
      holding [v, ov, iv] (setItem ov iv v)
      release [v, ov, iv] []) := by intro _; rfl)
    (hs : swapsWithSole [.Subscript (.Name x pos2) ie pos'] e pos.line X.env = pure false := by rfl) (hw : swappedStores [.Subscript (.Name x pos2) ie pos'] e X.env = pure none := by rfl)
    (h1 : (assignEach [.Subscript (.Name x pos2) ie pos'] X.env).map (·.2) = [assign (.Subscript (.Name x pos2) ie pos') X.env] := by rfl) :
    DS X B (.Assign [.Subscript (.Name x pos2) ie pos'] e pos) (isetM j fe fi) := by
  refine ⟨fun F γ s σ H E R h => ?_⟩
  refine wS_of (ps_asg pe_w (pg_sub (pe_var hN hv hd hcd) pe_w set_list ha) hs hw h1) ?_
  unfold isetM at h
  obtain ⟨⟨pj, evj⟩, h⟩ := isObj_ok R h
  refine he.run F γ s σ H R _ (Good.ofS h fun o s1 F1 H1 _ st1 R1 g1 v hv1 hn => ?_)
  cases e2 : frz o s1 with
  | ex y s2 => exact (frz_noex y s2 e2).elim
  | bad => rw [bind_bad e2] at g1; exact g1.elim
  | ok d s2 =>
    rw [bind_of e2] at g1
    obtain ⟨F2, f2, R2, hd2, st2, _⟩ := frz_ok R1 st1 (.of hv1 hn) e2
    refine ⟨_, evj, hi.run F2 γ s2 σ H1 R2 _ (Good.ofS (g1.le f2) fun ix s3 F3 H3 _ st3 R3 g3 vi hvi _ => ?_)⟩
    cases e4 : toInt ix s3 with
    | bad => rw [bind_bad e4] at g3; exact g3.elim
    | ex y s4 => exact (toInt_noex e4).elim
    | ok k s4 =>
      rw [bind_of e4] at g3
      obtain ⟨rfl, rfl⟩ := toInt_ok R3 hvi e4
      obtain ⟨p, xs, n, e5, e6, e7, e8⟩ := putAt_ok R3 (Dq.mono st3.fm hd2) g3
      rw [evj] at e5
      cases e5
      exact ⟨pj, xs, k, n, rfl, rfl, e6, e7, e8⟩
/-! ### xs[i] op= e -/
def rIxG (K : PySem.W.Frag) : V → V → Hp → VK → Prop := fun o i H Q => ∃ p xs k z, o = .ref p ∧ i = .int k ∧ SqL K H p xs ∧ atI xs k = some z ∧ Q z H
theorem get_list : PGet X (rIxG X.K) := by
  intro pins s σ H x y v u Q I rx ry h
  obtain ⟨p, xs, i, z, rfl, rfl, hq, he, q⟩ := h
  cases rx
  obtain ⟨t, rfl⟩ := ry
  obtain ⟨its, r, pl, hz⟩ := I.list hq
  obtain ⟨j, h1, h2, h3, h4, h5⟩ := atI_get he
  obtain ⟨w, ew, rw'⟩ := r.get h2
  have hl := r.length
  have hn := line63
  have fin : EP X pins σ Q w s := ⟨z, H, I, rw', q⟩
  by_cases h0 : 0 ≤ i
  · have hj : i.toNat = j := by
      rw [seqIndex_of h0 h5] at h1
      exact Option.some.inj h1
    exact wpAny_getItem_list pl.isList h0 (by omega) (by rw [hj]; simpa using ew) fin
  · have hj : (i + (its.toArray.size : Int)).toNat = j := by
      rw [seqIndex_neg (by omega) h4] at h1
      rw [List.size_toArray, ← hl]
      exact Option.some.inj h1
    exact wpAny_getItem_list_neg pl.isList (by omega) (by rw [List.size_toArray, ← hl]; exact h4) (by omega) (by rw [hj]; simpa using ew) fin
def getAtI (j : Nat) (k : Int) : M D := fun s => match s.ρ[j]? with
  | some .glob => (match s.g with
    | some xs => (match atI xs k with
      | some d => .ok d s
      | none => .bad)
    | none => .bad)
  | some (.own _ (.lst xs)) => (match atI xs k with
    | some d => .ok d s
    | none => .bad)
  | _ => .bad
def augD (o : AugO) (j : Nat) (k : Int) (a b : D) : M Fl := match augV o a b with
  | some d => putAt j k d >>= fun _ => pure .nx
  | none => M.bad
def isAugM (o : AugO) (j : Nat) (fi fe : M Op) : M Fl := isObj j >>= fun _ => fi >>= fun ix => toInt ix >>= fun k => getAtI j k >>= fun a => fe >>= fun x => frz x >>= fun b => augD o j k a b
theorem getAtI_ok {F3 H3 : Hp} {γ : Option Addr} {s3 s4 : Sg} {σ : L2.St} {k : Int} {d : D} (R3 : Rel X.K B F3 γ s3 σ H3) (e : getAtI j k s3 = .ok d s4) :
    s4 = s3 ∧ ∃ p xs v, σ[j]? = some (some (.ref p)) ∧ H3 p = some (.lst xs) ∧ atI xs k = some v ∧ Dq X.K F3 v d := by
  cases ej : s3.ρ[j]? with
  | none => unfold getAtI at e; rw [ej] at e; cases e
  | some sl =>
    cases sl with
    | no => unfold getAtI at e; rw [ej] at e; cases e
    | exc => unfold getAtI at e; rw [ej] at e; cases e
    | val a => unfold getAtI at e; rw [ej] at e; cases e
    | bor c => unfold getAtI at e; rw [ej] at e; cases e
    | glob =>
      cases eg : s3.g with
      | none => unfold getAtI at e; rw [ej, eg] at e; cases e
      | some xs =>
        obtain ⟨a, ea, ev⟩ := R3.slot j _ ej
        have gl := R3.gl
        rw [eg, ea] at gl
        obtain ⟨ws, hp, dq, _⟩ := gl
        unfold getAtI at e
        rw [ej] at e
        dsimp only at e
        rw [eg] at e
        dsimp only at e
        cases en : atI xs k with
        | none => rw [en] at e; cases e
        | some d' =>
          rw [en] at e
          cases e
          obtain ⟨v, e1, hd⟩ := at_all dq en
          exact ⟨rfl, a, ws, v, ev, hp, e1, hd⟩
    | own lk c =>
      cases c with
      | dct kvs => unfold getAtI at e; rw [ej] at e; cases e
      | lst xs =>
        obtain ⟨p, o, ev, hp, ck, _⟩ := R3.slot j _ ej
        cases ck with
        | @lst ws _ ck =>
          unfold getAtI at e
          rw [ej] at e
          dsimp only at e
          cases en : atI xs k with
          | none => rw [en] at e; cases e
          | some d' =>
            rw [en] at e
            cases e
            obtain ⟨v, e1, hd⟩ := at_all ck en
            exact ⟨rfl, p, ws, v, ev, hp, e1, hd⟩
theorem getAtI_noex {k : Int} {s s' : Sg} {y : Xn} : getAtI j k s ≠ .ex y s' := by
  unfold getAtI
  intro e
  split at e
  · split at e
    · split at e <;> cases e
    · cases e
  · split at e <;> cases e
  · cases e
theorem ds_isAug (o : AugO) (hN : X.N[j]? = some x) (hi : DE X B ie fi) (he : DE X B e fe) (hv : Vis X.env.scope x := by first | exact Or.inl rfl | exact Or.inr (Or.inl rfl) | exact Or.inr (Or.inr rfl)) (hd : (x == ("__debug__" : Str)) = false := by decide) (hcd : (x == ("__classdict__" : Str)) = false := by decide)
    (ha : ∀ ov iv new, augStore ie ov iv new = (do holding [new, ov, iv] (setItem ov iv new); release [new, ov, iv] []; pure .next) := by intros; rfl) :
    DS X B (.AugAssign (.Subscript (.Name x pos2) ie pos') o.op e pos) (isAugM o j fi fe) := by
  refine ⟨fun F γ s σ H E R h => ?_⟩
  refine wS_of (ps_augS (pe_var hN hv hd hcd) pe_w get_list pe_w (ip_aug o) set_list ha) ?_
  obtain ⟨⟨pj, evj⟩, h⟩ := isObj_ok R h
  refine ⟨_, evj, hi.run F γ s σ H R _ (Good.ofS h fun ix s3 F3 H3 _ st3 R3 g3 vi hvi _ => ?_)⟩
  cases e4 : toInt ix s3 with
  | bad => rw [bind_bad e4] at g3; exact g3.elim
  | ex y s4 => exact (toInt_noex e4).elim
  | ok k s4 =>
    rw [bind_of e4] at g3
    obtain ⟨rfl, rfl⟩ := toInt_ok R3 hvi e4
    cases e5 : getAtI j k s4 with
    | bad => rw [bind_bad e5] at g3; exact g3.elim
    | ex y s5 => exact (getAtI_noex e5).elim
    | ok a s5 =>
      rw [bind_of e5] at g3
      obtain ⟨rfl, p, xs, v, ep, hp, ea, hd5⟩ := getAtI_ok R3 e5
      rw [evj] at ep
      cases ep
      refine ⟨pj, xs, k, v, rfl, rfl, .inl (.inl hp), ea, ?_⟩
      refine he.run F3 γ s5 σ H3 R3 _ (Good.ofS g3 fun o' s6 F6 H6 _ st6 R6 g6 u hu hn => ?_)
      cases e7 : frz o' s6 with
      | ex y s2 => exact (frz_noex y s2 e7).elim
      | bad => rw [bind_bad e7] at g6; exact g6.elim
      | ok b s7 =>
        rw [bind_of e7] at g6
        obtain ⟨F7, f7, R7, hb, st7, _⟩ := frz_ok R6 st6 (.of hu hn) e7
        cases e8 : augV o a b with
        | none => unfold augD at g6; rw [e8] at g6; exact g6.elim
        | some d =>
          unfold augD at g6
          rw [e8] at g6
          refine augV_ok e8 (Dq.mono st7.fm hd5) hb fun z hz => ?_
          obtain ⟨p, ys, n, q1, q2, q3, q4⟩ := putAt_ok R7 hz (g6.le f7)
          rw [evj] at q1
          cases q1
          exact ⟨pj, ys, k, n, rfl, rfl, q2, q3, q4⟩
end
/-! ### isinstance(x, T), T built in -/
def tyD : Vw → String
  | .dat .none => "NoneType"
  | .dat (.bool _) => "bool"
  | .dat (.int _) => "int"
  | .dat (.str _) => "str"
  | .dat (.tuple _) => "tuple"
  | .dat (.list _) => "list"
  | .dat (.dict _) => "dict"
  | .obj (.lst _) => "list"
  | .obj (.dct _) => "dict"
def isiM (kit : String → Option Bool) (o : Op) : M Op := fun s => match view o s with
  | .ok w _ => (match kit (tyD w) with
    | some b => .ok (.val (.bool b)) s
    | none => .bad)
  | _ => .bad
section
variable {X : Cx} {B : Bd} {e : Expr} {fe : M Op} {pos p p2 : Pos} {x : Str} {T : String}
theorem tyx_of {K : PySem.W.Frag} {F H : Hp} {v : V} {w : Vw} (fh : Le F H) (h : VOk K F H v w) : TyX K H v (.type (tyD w)) := by
  cases w with
  | obj c =>
    cases c with
    | lst xs =>
      obtain ⟨a, vs, rfl, h1 | ⟨o, h1⟩, _⟩ := h
      · exact .base (.lst h1)
      · exact .base (.frz h1)
    | dct kvs =>
      obtain ⟨a, ks, rfl, h1, _⟩ := h
      exact .base (.dK h1)
  | dat d =>
    obtain ⟨h, nl⟩ := h
    cases h with
    | non => exact .base .non
    | bl b => exact .base (.bl b)
    | int b => exact .base (.int b)
    | str b => exact .base (.str b)
    | lst a b => exact (nl _ rfl).elim
    | tup a b =>
      rcases fh.st a with (h1 | ⟨o, h1⟩) | ⟨o, its, n, h1, h2, _⟩
      · exact .base (.tup h1)
      · exact .fTuple h1
      · exact .kTuple h1 h2
theorem de_isi (kit : String → Option Bool) (hk : ∀ t b, kit t = some b → PySem.W.kitOne X.K (.type t) (.type T) = some b) (hg : Gl X "isinstance") (hm : X.mg "isinstance" = none) (he : DE X B e fe) (hg2 : Gl X x) (hm2 : X.mg x = none) (hv2 : bootBuiltins x = some (.type T)) (hn : x ≠ "__name__" := by decide) (hdb : (x == ("__debug__" : Str)) = false := by decide)
    (hs1 : starEach [e, .Name x p2] X.env = (false, eval e X.env) :: starEach [.Name x p2] X.env := by rfl) (hs2 : starEach [.Name x p2] X.env = (false, eval (.Name x p2) X.env) :: starEach [] X.env := by rfl)
    (hpl : (backTo pos (starEach [.Name x p2] X.env)).any (·.1) = false := by rfl) :
    DE X B (.Call (.Name "isinstance" p) [e, .Name x p2] [] pos) (fe >>= isiM kit) := by
  refine ⟨fun F γ s σ H R Q g => ?_⟩
  refine wE_of (pe_callB call_isi hg hm (by decide +kernel) (pa_cons pe_w (pa_cons (pe_bltn hg2 hm2 hv2 (v := .ty T) rfl hn hdb) pa_nil hs2) hs1) (he := hs1) (hpl := hpl)) ?_
  refine he.run F γ s σ H R _ (Good.thenO g fun o s1 F1 H1 _ st1 R1 g1 v hv _ => ?_)
  unfold isiM at g1
  cases q : view o s1 with
  | bad => rw [q] at g1; exact g1.no
  | ex y s2 => rw [q] at g1; exact g1.no
  | ok w s2 =>
    rw [q] at g1
    dsimp only at g1
    cases q2 : kit (tyD w) with
    | none => rw [q2] at g1; exact g1.no
    | some b =>
      rw [q2] at g1
      exact ⟨v, .ty T, _, _, b, rfl, .ty T, tyx_of R1.fh (view_ok R1 hv q), hk _ _ q2, g1 F1 H1 st1 R1 _ (.bl b) trivial⟩
end
end PD
end

section
set_option Elab.async false
set_option linter.all false
set_option maxRecDepth 100000
set_option maxHeartbeats 4000000
set_option autoImplicit false
namespace PD
open PySem PySem.Spec L2
open PyProof.Rows hiding St

theorem hu_room {k : Nat} {A : Around} (r : RoomX k A) : A.units + 64 < cLine := r.units
/-- a def at hand -/
structure Cal (P : Program) (w : World) (K : PySem.W.Frag) (mg : Str → Option Value) (base : Heap) (x : Str) (ps : List Str) (k : Nat) (fn : Fn) : Prop where
  ex : ∃ (f : Addr) (fd : FuncData), FnX P w K mg base (L2.CX P w) k f fd ps (spF K mg ps.length fn) ∧ mg x = some (.ref f) ∧ PySem.W.keepIn K (.ref f) = true ∧ Binds K fd ps []
section
variable {X : Cx} {B : Bd} {e : Expr} {es : List Expr} {fs : M (List Op)} {p pos : Pos} {x : Str} {ps : List Str} {j k : Nat} {fn : Fn}
theorem de_callC (c : Cal X.prog X.w X.K X.mg X.base x ps j fn) (tk : Takes X B.W) (hr : RoomX k X.A) (hj : j ≤ k) (hg : Gl X x) (ha : DA X B (e :: es) fs) (hl : LenA fs (es.length + 1)) (hn : es.length + 1 = ps.length)
    (hdb : (x == ("__debug__" : Str)) = false := by decide) (he : starEach (e :: es) X.env = (false, eval e X.env) :: starEach es X.env := by rfl) (hpl : (backTo pos (starEach es X.env)).any (·.1) = false := by rfl) :
    DE X B (.Call (.Name x p) (e :: es) [] pos) (callM fn fs) := by
  obtain ⟨f, fd, F, hm, hk, hb⟩ := c.ex
  exact de_call F tk (hr.mono hj) hg hm hk hb ha hn (fun s os s' h => hl s os s' h) hdb he hpl
theorem de_callC0 (c : Cal X.prog X.w X.K X.mg X.base x [] j fn) (tk : Takes X B.W) (hr : RoomX k X.A) (hj : j ≤ k) (hg : Gl X x) (hdb : (x == ("__debug__" : Str)) = false := by decide) :
    DE X B (.Call (.Name x p) [] [] pos) (fnM fn []) := by
  obtain ⟨f, fd, F, hm, hk, hb⟩ := c.ex
  exact de_call0 F tk (hr.mono hj) hg hm hk hb hdb
end
section
variable {P : Program} {w : World} {K : PySem.W.Frag} {mg : Str → Option Value} {base : Heap}
theorem cal_mk {x qual : Str} {st : Stmt} {f : Addr} {fd : FuncData} {N ps : List Str} {k : Nat} {m : M Fl} {n : Nat} (F : L2.Fun K x qual st f fd) (hm : mg x = some (.ref f)) (hb : Binds K fd ps []) (S : FnScope N ps (defScope st)) (hn : N.length = n)
    (hbody : ∀ (cdv : Value) (A : Around) (outer : List Env) (s : Shared) (H : Hp) (E : XK) (B : Bd), B.ex = none → RoomX k (A.deeper (envOfC qual (defScope st) s.heap.objs.size f cdv)) → Takes (cxOf (L2.CX P w) P w K mg base N qual (defScope st) f cdv A outer s H E) B.W →
      DSs (cxOf (L2.CX P w) P w K mg base N qual (defScope st) f cdv A outer s H E) B (defBody st) m) : Cal P w K mg base x ps (k + 1) (runD n m) :=
  ⟨f, fd, fn_pd F S hn (fun X B _ _ _ _ _ _ hB hr tk cdv A outer s H E e => by subst e; exact hbody cdv A outer s H E B hB hr tk), hm, F.kp, hb⟩

/-! ### _law_begin(script) -/
def spBegin (K : PySem.W.Frag) : Sp := fun vs H Q _ => ∃ (a : Addr) (ns : List Int), vs = [.ref a] ∧ SqL K H a (ns.map V.int) ∧ ns.length ≤ sizeLine ∧ ∀ H' p q, (∀ b o, H b = some o → H' b = some o) → H p = none → H q = none → p ≠ q → H' q = some (.lst ((ns.take 63).map V.int)) → H' p = some (.lst [.ref q, .int 0, .int 0, .int 7]) → Q (.ref p) H'
theorem dq_ints {F : Hp} : ∀ ns : List Int, DqAll K F (ns.map V.int) (ns.map PyData.int)
  | [] => .nil
  | n :: ns => .cons (.int n) (dq_ints ns)
theorem dq_ints_inv {F : Hp} : ∀ {ns : List Int} {vs : List V}, DqAll K F vs (ns.map PyData.int) → vs = ns.map V.int
  | [], _, .nil => rfl
  | n :: ns, _, .cons h t => by
    rw [h.int_, dq_ints_inv t]
    rfl
def compInt : M Op := compM (pure ([] : List D)) [1] (.nm 1) (pure true) (consM (rdSlot 1) (pure []) >>= opN intV)
theorem elems_int (ns : List Int) : ∀ s : Sg, s.ρ = [.no, .no] → elemsD [1] (.nm 1) (elem1 (pure true) (consM (rdSlot 1) (pure []) >>= opN intV)) (ns.map PyData.int) s = .ok (ns.map PyData.int) s := by
  induction ns with
  | nil => intro s _; rfl
  | cons n ns ih =>
    intro s h
    obtain ⟨ρ, g⟩ := s
    have h : ρ = [.no, .no] := h
    subst h
    rw [List.map_cons]
    rw [elemsD_ok (ρ' := [.no, .val (.int n)]) (x := some (.int n)) (s2 := { ρ := [.no, .val (.int n)], g := g }) rfl rfl]
    rw [bind_of (ih _ rfl)]
    rfl
theorem cut63 (ns : List Int) : cutV (ns.map V.int) none (some 63) = (ns.take 63).map V.int := by
  unfold cutV
  rw [HT.sIx_none, show HT.sIx (ns.map V.int).length (ns.map V.int).length (some 63) = min 63 (ns.map V.int).length from HT.sIx_nat _ _ 63]
  rw [List.drop_zero, Nat.sub_zero, ← List.map_take, List.length_map]
  congr 1
  by_cases h : 63 ≤ ns.length
  · rw [Nat.min_eq_left h]
  · rw [Nat.min_eq_right (by omega), List.take_of_length_le (Nat.le_refl _), List.take_of_length_le (by omega)]
end
section
variable {X : Cx} {tg scr elt : Expr} {scope : Scope} {p6 p7 p8 p9 p10 p11 p12 p13 p14 : Pos}
theorem rel_none {K : PySem.W.Frag} {W : WX} {H : Hp} {σ : L2.St} {n : Nat} (h : σ.length = n) : Rel K ⟨W, H, fun _ => none, none, none⟩ (fun _ => none) none { ρ := List.replicate n .no, g := none } σ H := by
  refine ⟨fun _ _ e => (by cases e), Le.refl _, fun _ _ e => (by cases e), fun _ _ e _ => e, fun _ o e => ⟨o, e⟩, ?_, fun i sl e => ?_, fun i j lk c sl e _ _ _ => ?_, rfl⟩
  · show (List.replicate n Slt.no).length = σ.length
    rw [List.length_replicate, h]
  · rw [List.getElem?_replicate] at e
    split at e
    · cases e; trivial
    · cases e
  · rw [List.getElem?_replicate] at e
    split at e <;> cases e
theorem begin_run (hc : X.calm = true) (hN : X.N.Nodup) (hscr : PE X scr (tVar 0)) (ok : BlkOk X.N X.env.scope scope [("cell", 1)])
    (hg : ∀ (s : Shared) (H : Hp) (C : Addr) (cl : List (Str × Addr)) (fp : List Addr), PG (X.blk s H scope (compEnvC scope cl C X.env) fp) tg (gName 1))
    (he : ∀ (B : Bd) (s : Shared) (H : Hp) (C : Addr) (cl : List (Str × Addr)) (fp : List Addr), DE (X.blk s H scope (compEnvC scope cl C X.env) fp) B elt (consM (rdSlot 1) (pure []) >>= opN intV))
    (h1 : starEach [(.ListComp elt [⟨tg, .Subscript scr (.Slice none (some (.Constant (.int 63) 0 p6)) none p7) p8, [], 0⟩] scope p9), .Constant (.int 0) 0 p10, .Constant (.int 0) 0 p11, .Constant (.int 7) 0 p12] X.env = (false, eval (.ListComp elt [⟨tg, .Subscript scr (.Slice none (some (.Constant (.int 63) 0 p6)) none p7) p8, [], 0⟩] scope p9) X.env) :: starEach [.Constant (.int 0) 0 p10, .Constant (.int 0) 0 p11, .Constant (.int 7) 0 p12] X.env := by rfl)
    (h2 : starEach [.Constant (.int 0) 0 p10, .Constant (.int 0) 0 p11, .Constant (.int 7) 0 p12] X.env = (false, eval (.Constant (.int 0) 0 p10) X.env) :: starEach [.Constant (.int 0) 0 p11, .Constant (.int 7) 0 p12] X.env := by rfl)
    (h3 : starEach [.Constant (.int 0) 0 p11, .Constant (.int 7) 0 p12] X.env = (false, eval (.Constant (.int 0) 0 p11) X.env) :: starEach [.Constant (.int 7) 0 p12] X.env := by rfl)
    (h4 : starEach [.Constant (.int 7) 0 p12] X.env = (false, eval (.Constant (.int 7) 0 p12) X.env) :: starEach [] X.env := by rfl)
    {σ : L2.St} {H : Hp} {a : Addr} {ns : List Int} {E : Ends} (hσ : σ[0]? = some (some (.ref a))) (hl : σ.length = 2) (hS : SqL X.K H a (ns.map V.int))
    (q : ∀ H' p q, (∀ b o, H b = some o → H' b = some o) → H p = none → H q = none → p ≠ q → H' q = some (.lst ((ns.take 63).map V.int)) → H' p = some (.lst [.ref q, .int 0, .int 0, .int 7]) → E.rt (.ref p) H') :
    wSs X [.Return (some (.List [.ListComp elt [⟨tg, .Subscript scr (.Slice none (some (.Constant (.int 63) 0 p6)) none p7) p8, [], 0⟩] scope p9, .Constant (.int 0) 0 p10, .Constant (.int 0) 0 p11, .Constant (.int 7) 0 p12] p13)) p14] E σ H := by
  refine wSs_of (pss_one (ps_ret (pe_lst (pa_cons (pe_lc (tt := tYes) (te := fun σ H Q => ∀ s0 H0 C cl fp, wE (X.blk s0 H0 scope (compEnvC scope cl C X.env) fp) elt σ H Q) hc hN (pi_w (tg := tg)) ok hg (fun s0 H0 C cl fp => pts_nil) (fun s0 H0 C cl fp => ⟨fun pins s σ H Q I h => h s0 H0 C cl fp pins s I⟩))
    (pa_cons pe_int (pa_cons pe_int (pa_cons pe_int pa_nil h4) h3) h2) h1)))) ?_
  let B : Bd := ⟨fun _ _ _ _ => False, H, fun _ => none, none, none⟩
  have R : Rel X.K B (fun _ => none) none { ρ := List.replicate 2 .no, g := none } σ H := rel_none hl
  let ds : List D := (ns.take 63).map PyData.int
  have hrun : compM (pure ds) [1] (.nm 1) (pure true) (consM (rdSlot 1) (pure []) >>= opN intV) { ρ := List.replicate 2 .no, g := none } = .ok (.new (.lst ds)) { ρ := List.replicate 2 .no, g := none } := by
    unfold compM
    have pb : ∀ f : List D → M Op, ((pure ds : M (List D)) >>= f) = f ds := fun _ => rfl
    rw [pb, if_pos (by show ds.length ≤ sizeLine; simp only [ds, List.length_map, List.length_take]; exact Nat.le_trans (Nat.min_le_left _ _) (by decide))]
    rw [bind_of (elems_int (ns.take 63) _ rfl)]
    rfl
  unfold tRet tLst tCons
  refine lc_core2 (X := X) (B := B) (t := .nm 1) (vs := [1]) (fi := pure ds) (tt := pure true) (te := consM (rdSlot 1) (pure []) >>= opN intV) (by decide) (fun F γ s σ H R Q g => Good.pure (X := X) (B := B.nx) (b := true) (K := fun b _ _ H' => Q b H') R g) (fun F γ s σ H R Q g s0 H0 C cl fp => (he _ s0 H0 C cl fp).run F γ s σ H R Q g) R _ (fun Rk g => ?_) ?_
  · refine wI_of (pi_any (pe_slice sl_list hscr po_none (po_some pe_int))) ?_
    refine ⟨_, hσ, 63, rfl, a, _, rfl, hS, fun c nc => ?_⟩
    rw [cut63]
    obtain ⟨R1, st1, ok1, n1⟩ := rel_new R (p := c) (o := .lst ((ns.take 63).map V.int)) (c := .lst ds) nc (.lst (dq_ints _))
    obtain ⟨F2, f2, R2, hd, st2, _⟩ := frz_ok (o := .new (.lst ds)) R1 st1 (.of ok1 n1) rfl
    cases hd with
    | lst h1 h2 =>
      exact .inl ⟨c, rfl, ⟨_, .inl (R2.fh.rd h1)⟩, g F2 _ st2 R2 _ (it_list h2 fun H k => .inl (k.1.rd h1))⟩
  · rw [hrun]
    intro F' H' st R' v hv hn
    obtain ⟨p, o, rfl, hp, ck, _, h0, _⟩ := hv
    cases ck with
    | lst ck =>
      have ev := dq_ints_inv ck
      subst ev
      have kp : ∀ b o, H b = some o → H' b = some o := fun b o e => st.hk b o e (fun z => nomatch z) fun ⟨i, c, e, _⟩ => by
        rw [List.getElem?_replicate] at e
        split at e <;> cases e
      refine ⟨(by decide : (4 : Nat) ≤ sizeLine), fun o no => ?_⟩
      have po : p ≠ o := fun z => by rw [z] at hp; rw [no] at hp; cases hp
      have no0 : H o = none := by
        cases e : H o with
        | none => rfl
        | some u => rw [kp o u e] at no; cases no
      refine q _ o p (fun b u e => ?_) no0 h0 po.symm ?_ upd_same
      · rw [upd_ne (fun z => by subst z; rw [kp b u e] at no; cases no)]
        exact kp b u e
      · rw [upd_ne po]
        exact hp
end

/-! ### the law -/
def spLaw (K : PySem.W.Frag) : Sp := fun vs H Q _ => ∃ (a : Addr) (ns : List Int), vs = [.ref a] ∧ SqL K H a (ns.map V.int) ∧ ns.length ≤ 63 ∧ ∀ H', Q (.bl true) H'
/-- the law's state behind its first line -/
def lawStart (n j : Nat) (ns : List Int) : Sg := { ρ := (List.replicate n Slt.no).set j .glob, g := some [.list (ns.map .int), .int 0, .int 0, .int 7] }
section
variable {P : Program} {w : World} {K : PySem.W.Frag} {mg : Str → Option Value} {base : Heap}
theorem ok_begin {x qual : Str} {st : Stmt} {f : Addr} {fd : FuncData} {k : Nat} (F : L2.Fun K x qual st f fd) (S : FnScope ["script", "cell"] ["script"] (defScope st))
    (hbody : ∀ (cdv : Value) (A : Around) (outer : List Env) (s : Shared) (H : Hp) (E : XK) (σ : L2.St) (a : Addr) (ns : List Int) (En : Ends), σ[0]? = some (some (.ref a)) → σ.length = 2 → SqL K H a (ns.map V.int) →
      (∀ H' p q, (∀ b o, H b = some o → H' b = some o) → H p = none → H q = none → p ≠ q → H' q = some (.lst ((ns.take 63).map V.int)) → H' p = some (.lst [.ref q, .int 0, .int 0, .int 7]) → En.rt (.ref p) H') →
      wSs (cxOf (L2.CX P w) P w K mg base ["script", "cell"] qual (defScope st) f cdv A outer s H E) (defBody st) En σ H) : FnOk P w K mg base (L2.CX P w) (k + 1) f fd ["script"] (spBegin K) := by
  refine F.okX S (fun vs H Q E h => ?_) (fun cdv A outer s H vs Q E hr h => ?_)
  · obtain ⟨a, ns, rfl, _⟩ := h
    rfl
  · obtain ⟨a, ns, rfl, hS, _, q⟩ := h
    exact ⟨_, pss_w, hbody cdv A outer s H E _ a ns _ rfl rfl hS q⟩
theorem dq_begin {F : Hp} {q : Addr} {ns : List Int} (h : F q = some (.lst (ns.map V.int))) : DqAll K F [.ref q, .int 0, .int 0, .int 7] [.list (ns.map .int), .int 0, .int 0, .int 7] :=
  .cons (.lst (.inl h) (dq_ints ns)) (.cons (.int 0) (.cons (.int 0) (.cons (.int 7) .nil)))
theorem rel_begin {W : WX} {H H1 : Hp} {σ : L2.St} {n j : Nat} {p q : Addr} {ns : List Int} (hl : σ.length = n) (hj : j < n) (kp : ∀ b o, H b = some o → H1 b = some o) (np : H p = none) (nq : H q = none) (pq : p ≠ q)
    (hq : H1 q = some (.lst (ns.map V.int))) (hp : H1 p = some (.lst [.ref q, .int 0, .int 0, .int 7])) :
    Rel K ⟨W, H, fun _ => none, none, none⟩ (upd (fun _ => none) q (.lst (ns.map V.int))) (some p) (lawStart n j ns) (σ.set j (some (.ref p))) H1 := by
  have fq : ∀ {a o}, upd (fun _ => none) q (.lst (ns.map V.int)) a = some o → a = q ∧ o = .lst (ns.map V.int) := fun {a o} e => by
    by_cases h : a = q
    · subst h
      rw [upd_same] at e
      exact ⟨rfl, (Option.some.inj e).symm⟩
    · rw [upd_ne h] at e
      cases e
  have slots : ∀ {i : Nat} {sl : Slt}, (lawStart n j ns).ρ[i]? = some sl → sl = .no ∨ (sl = .glob ∧ i = j) := fun {i sl} e => by
    have e : ((List.replicate n Slt.no).set j .glob)[i]? = some sl := e
    rw [List.getElem?_set] at e
    split at e
    · rename_i h
      split at e
      · cases e; exact .inr ⟨rfl, h.symm⟩
      · cases e
    · rw [List.getElem?_replicate] at e
      split at e
      · cases e; exact .inl rfl
      · cases e
  refine ⟨fun a o e => ?_, fun _ _ e => (by cases e), fun a o e => ?_, fun a o e _ => kp a o e, fun a o e => ⟨o, kp a o e⟩, ?_, fun i sl e => ?_, fun i k lk c sl e _ _ _ => ?_, ?_⟩
  · obtain ⟨rfl, rfl⟩ := fq e
    exact hq
  · obtain ⟨rfl, rfl⟩ := fq e
    exact .inr nq
  · show ((List.replicate n Slt.no).set j .glob).length = (σ.set j (some (.ref p))).length
    rw [List.length_set, List.length_set, List.length_replicate, hl]
  · rcases slots e with rfl | ⟨rfl, rfl⟩
    · trivial
    · exact ⟨p, rfl, List.getElem?_set_self (by rw [hl]; exact hj)⟩
  · rcases slots e with z | ⟨z, _⟩ <;> cases z
  · refine ⟨_, hp, dq_begin (upd_same), ?_, .inr ⟨rfl, np⟩⟩
    exact upd_ne pq
theorem ok_law {x qual : Str} {st : Stmt} {f fB : Addr} {fd fdB : FuncData} {N : List Str} {k kk kB : Nat} {m : M Fl} {n j : Nat} {rest : List Stmt} {pn pc pf pv ps : Pos} (F : L2.Fun K x qual st f fd) (S : FnScope N ["script"] (defScope st)) (hn : N.length = n) (hj : N[j]? = some "d")
    (FB : FnOk P w K mg base (L2.CX P w) kB fB fdB ["script"] (spBegin K)) (hmB : mg "_law_begin" = some (.ref fB)) (hkB : PySem.W.keepIn K (.ref fB) = true) (hbB : Binds K fdB ["script"] []) (hkk : kB ≤ kk) (h1 : k + 40 ≤ 3 * kk + 5) (h2 : 5 * k + 400 ≤ 16 * kk + 200)
    (hb : defBody st = .Assign [.Name "d" pn] (.Call (.Name "_law_begin" pf) [.Name "script" pv] [] pc) ps :: rest)
    (hfacts : ∀ (cdv : Value) (A : Around) (outer : List Env) (s : Shared) (H : Hp) (E : XK), let X := cxOf (L2.CX P w) P w K mg base N qual (defScope st) f cdv A outer s H E
      PE X (.Name "script" pv) (tVar 0) ∧ Gl X "_law_begin" ∧ Loc X.env.scope "d" ∧ (X.fn "d" = true ∨ X.env.scope.names.lookup ("d" : Str) = some .local) ∧ swapsWith (.Call (.Name "_law_begin" pf) [.Name "script" pv] [] pc) (some (.Name "d" pn)) ps.line X.env = pure false ∧
      starEach [.Name "script" pv] X.env = (false, eval (.Name "script" pv) X.env) :: starEach [] X.env)
    (hbody : ∀ (cdv : Value) (A : Around) (outer : List Env) (s : Shared) (H : Hp) (E : XK) (B : Bd), B.ex = none → RoomX k (A.deeper (envOfC qual (defScope st) s.heap.objs.size f cdv)) → Takes (cxOf (L2.CX P w) P w K mg base N qual (defScope st) f cdv A outer s H E) B.W →
      DSs (cxOf (L2.CX P w) P w K mg base N qual (defScope st) f cdv A outer s H E) B rest m)
    (law : ∀ ns : List Int, ns.length ≤ 63 → ∃ s1, m (lawStart n j ns) = .ok (.rt (.val (.bool true))) s1) : FnOk P w K mg base (L2.CX P w) (kk + 1) f fd ["script"] (spLaw K) := by
  refine F.okX S (fun vs H Q E h => ?_) (fun cdv A outer s H vs Q E hr h => ?_)
  · obtain ⟨a, ns, rfl, _⟩ := h
    rfl
  · obtain ⟨a, ns, rfl, hS, hz, q⟩ := h
    obtain ⟨f1, f2, f3, f4, f5, f6⟩ := hfacts cdv A outer s H E
    have tk : Takes (cxOf (L2.CX P w) P w K mg base N qual (defScope st) f cdv A outer s H E) (fun cls d _ H => E cls d H) := takes_of rfl rfl rfl rfl
    rw [hb]
    refine ⟨_, pss_cons (ps_set (i := j) S.nd hj f3 (pe_callSD (E := fun σ => WE (fun cls d _ H => E cls d H) σ) FB (hr.mono hkk) f2 hmB hkB hbB .nil (fun σ => passAt tk σ) (pa_cons f1 pa_nil f6) (he := f6)) f5 f4) pss_w, ?_⟩
    have l0 : 0 < N.length := by
      cases N with
      | nil => have := S.pre; cases this
      | cons a b => exact Nat.succ_pos _
    have hlen : (L2.start N [V.ref a]).length = n := by
      unfold L2.start
      rw [List.length_append, List.length_map, List.length_replicate, ← hn]
      show 1 + (N.length - 1) = N.length
      omega
    have hjn : j < n := by
      rw [← hn]
      exact (List.getElem?_eq_some_iff.mp hj).1
    refine ⟨.ref a, rfl, ?_⟩
    refine ⟨a, ns, rfl, hS, Nat.le_trans hz (by decide), fun H1 p q' kp np nq pq hq hp => ?_⟩
    rw [List.take_of_length_le hz] at hq
    obtain ⟨s2, hm⟩ := law ns hz
    refine (hbody cdv A outer s H E ⟨fun cls d _ H => E cls d H, H, fun _ => none, none, none⟩ rfl (roomX_of hr h1 h2) tk).run _ _ _ _ H1 _ (rel_begin hlen hjn kp np nq pq hq hp) ?_
    rw [hm]
    intro F' γ' σ' H' v l R ro
    have ro' : Dq K F' v (.bool true) := ro
    rw [ro'.bl_]
    exact q H'
end
end PD
end

section
set_option Elab.async false
set_option linter.all false
set_option maxRecDepth 100000
set_option maxHeartbeats 4000000
set_option autoImplicit false
namespace PD
open PySem PySem.Spec L2
open PyProof.Rows hiding St
def notStar : Expr → Bool
  | .Starred _ _ => false
  | _ => true
theorem starEach_ns {e : Expr} {rest : List Expr} {env : Env} (h : notStar e = true) : starEach (e :: rest) env = (false, eval e env) :: starEach rest env := by
  cases e <;> first | rfl | cases h
theorem da_consN {X : Cx} {B : Bd} {e : Expr} {es : List Expr} {f : M Op} {fs : M (List Op)} (h : DE X B e f) (hr : DA X B es fs) (hs : notStar e = true := by rfl) : DA X B (e :: es) (consM f fs) := da_cons h hr (starEach_ns hs)
end PD
end

section
set_option Elab.async false
set_option linter.all false
set_option maxRecDepth 100000
set_option maxHeartbeats 4000000
set_option autoImplicit false
namespace PD
open PySem PySem.Spec L2
open PyProof.Rows hiding St
/-! ### what a meaning does -/
def Ev {α : Type} (m : M α) (s : Sg) (Q : α → Sg → Prop) : Prop := ∃ a s', m s = .ok a s' ∧ Q a s'
def FnEv (fn : Fn) (as : List Arg) (g : G) (Q : Ret → G → Prop) : Prop := ∃ r g', fn as g = .ok r g' ∧ Q r g'
def optS {α : Type} (Q : α → Prop) : Option α → Prop
  | some a => Q a
  | none => False
@[simp] theorem optS_some {α : Type} {Q : α → Prop} {a : α} : optS Q (some a) ↔ Q a := Iff.rfl
@[simp] theorem optS_none {α : Type} {Q : α → Prop} : optS Q none ↔ False := Iff.rfl
theorem optS_ex {α : Type} {Q : α → Prop} {o : Option α} : optS Q o ↔ ∃ a, o = some a ∧ Q a := by
  cases o with
  | none => exact ⟨False.elim, fun ⟨_, e, _⟩ => (by cases e)⟩
  | some a => exact ⟨fun q => ⟨a, rfl, q⟩, fun ⟨_, e, q⟩ => (by cases e; exact q)⟩
@[simp] theorem optS_ite {α : Type} {Q : α → Prop} {c : Prop} [Decidable c] {v : α} : optS Q (if c then some v else none) ↔ c ∧ Q v := by
  by_cases h : c
  · rw [if_pos h]; exact ⟨fun q => ⟨h, q⟩, fun q => q.2⟩
  · rw [if_neg h]; exact ⟨False.elim, fun q => h q.1⟩
@[simp] theorem optS_map {α β : Type} {Q : β → Prop} {f : α → β} {o : Option α} : optS Q (o.map f) ↔ optS (fun a => Q (f a)) o := by
  cases o <;> exact Iff.rfl
section
variable {α β : Type} {m : M α} {k : α → M β} {s : Sg} {Q : β → Sg → Prop}
theorem Ev.mono {m : M α} {Q Q' : α → Sg → Prop} (h : Ev m s Q) (i : ∀ a s', Q a s' → Q' a s') : Ev m s Q' := by
  obtain ⟨a, s', e, q⟩ := h
  exact ⟨a, s', e, i a s' q⟩
theorem FnEv.mono {fn : Fn} {as : List Arg} {g : G} {Q Q' : Ret → G → Prop} (h : FnEv fn as g Q) (i : ∀ r g', Q r g' → Q' r g') : FnEv fn as g Q' := by
  obtain ⟨a, s', e, q⟩ := h
  exact ⟨a, s', e, i a s' q⟩
@[simp] theorem ev_bind : Ev (m >>= k) s Q ↔ Ev m s fun a s1 => Ev (k a) s1 Q := by
  constructor
  · rintro ⟨b, s', e, q⟩
    obtain ⟨a, s1, e1, e2⟩ := bind_ok e
    exact ⟨a, s1, e1, b, s', e2, q⟩
  · rintro ⟨a, s1, e1, b, s', e2, q⟩
    exact ⟨b, s', by rw [bind_of e1, e2], q⟩
@[simp] theorem ev_pure {b : β} : Ev (pure b : M β) s Q ↔ Q b s := ⟨fun ⟨_, _, e, q⟩ => by cases e; exact q, fun q => ⟨b, s, rfl, q⟩⟩
theorem ev_ok {m : M β} {b : β} {s' : Sg} (e : m s = .ok b s') : Ev m s Q ↔ Q b s' := ⟨fun ⟨_, _, e', q⟩ => by rw [e] at e'; cases e'; exact q, fun q => ⟨b, s', e, q⟩⟩
@[simp] theorem ev_seq {f g : M Fl} {Q : Fl → Sg → Prop} : Ev (seqF f g) s Q ↔ Ev f s fun r s1 => match r with | .nx => Ev g s1 Q | r => Q r s1 := by
  unfold seqF
  rw [ev_bind]
  constructor
  · intro h
    refine h.mono fun a s1 q => ?_
    cases a <;> first | exact q | exact ev_pure.mp q
  · intro h
    refine h.mono fun a s1 q => ?_
    cases a <;> first | exact q | exact ev_pure.mpr q
@[simp] theorem ev_if {t : M Bool} {f g : M Fl} {Q : Fl → Sg → Prop} : Ev (ifM t f g) s Q ↔ Ev t s fun b s1 => if b = true then Ev f s1 Q else Ev g s1 Q := by
  unfold ifM
  rw [ev_bind]
  constructor <;> intro h <;> refine h.mono fun a s1 q => ?_ <;> cases a <;> exact q
@[simp] theorem ev_bin {f : Op → Op → M Op} {fa fb : M Op} {Q : Op → Sg → Prop} : Ev (bin f fa fb) s Q ↔ Ev fa s fun x s1 => Ev fb s1 fun y s2 => Ev (f x y) s2 Q := by
  unfold bin
  simp only [ev_bind]
@[simp] theorem ev_cons {f : M Op} {fs : M (List Op)} {Q : List Op → Sg → Prop} : Ev (consM f fs) s Q ↔ Ev f s fun x s1 => Ev fs s1 fun y s2 => Q (x :: y) s2 := by
  unfold consM
  simp only [ev_bind, ev_pure]
@[simp] theorem ev_op2 {h : Vw → Vw → Option Op} {x y : Op} {Q : Op → Sg → Prop} : Ev (op2 h x y) s Q ↔ Ev (view x) s fun wx _ => Ev (view y) s fun wy _ => optS (fun o => Q o s) (h wx wy) := by
  simp only [optS_ex]
  unfold op2
  constructor
  · rintro ⟨o, s', e, q⟩
    dsimp only at e
    split at e
    · rename_i wx s1 e1
      split at e
      · rename_i wy s2 e2
        split at e
        · rename_i o' e3
          cases e
          exact ⟨wx, s1, e1, wy, s2, e2, _, e3, q⟩
        · cases e
      · cases e
    · cases e
  · rintro ⟨wx, s1, e1, wy, s2, e2, o, e3, q⟩
    exact ⟨o, s, by dsimp only; rw [e1]; dsimp only; rw [e2]; dsimp only; rw [e3], q⟩
@[simp] theorem ev_op1 {h : Vw → Option Op} {x : Op} {Q : Op → Sg → Prop} : Ev (op1 h x) s Q ↔ Ev (view x) s fun wx _ => optS (fun o => Q o s) (h wx) := by
  simp only [optS_ex]
  unfold op1
  constructor
  · rintro ⟨o, s', e, q⟩
    dsimp only at e
    split at e
    · rename_i wx s1 e1
      split at e
      · rename_i o' e3
        cases e
        exact ⟨wx, s1, e1, _, e3, q⟩
      · cases e
    · cases e
  · rintro ⟨wx, s1, e1, o, e3, q⟩
    exact ⟨o, s, by dsimp only; rw [e1]; dsimp only; rw [e3], q⟩
@[simp] theorem ev_opN {h : List Vw → Option Op} {os : List Op} {Q : Op → Sg → Prop} : Ev (opN h os) s Q ↔ Ev (viewAll os) s fun ws _ => optS (fun o => Q o s) (h ws) := by
  simp only [optS_ex]
  unfold opN
  constructor
  · rintro ⟨o, s', e, q⟩
    dsimp only at e
    split at e
    · rename_i wx s1 e1
      split at e
      · rename_i o' e3
        cases e
        exact ⟨wx, s1, e1, _, e3, q⟩
      · cases e
    · cases e
  · rintro ⟨wx, s1, e1, o, e3, q⟩
    exact ⟨o, s, by dsimp only; rw [e1]; dsimp only; rw [e3], q⟩
@[simp] theorem ev_viewAll_nil {Q : List Vw → Sg → Prop} : Ev (viewAll []) s Q ↔ Q [] s := ev_pure
@[simp] theorem ev_viewAll_cons {o : Op} {os : List Op} {Q : List Vw → Sg → Prop} : Ev (viewAll (o :: os)) s Q ↔ Ev (view o) s fun w s1 => Ev (viewAll os) s1 fun ws s2 => Q (w :: ws) s2 := by
  rw [show viewAll (o :: os) = (view o >>= fun w => viewAll os >>= fun ws => pure (w :: ws)) from rfl]
  simp only [ev_bind, ev_pure]
/-- a datum, seen -/
def vwD : D → Vw
  | .list xs => .obj (.lst xs)
  | d => .dat d
@[simp] theorem ev_view_val {d : D} {Q : Vw → Sg → Prop} : Ev (view (.val d)) s Q ↔ Q (vwD d) s := by
  cases d <;> exact ev_ok rfl
@[simp] theorem ev_view_new {c : Cn} {Q : Vw → Sg → Prop} : Ev (view (.new c)) s Q ↔ Q (.obj c) s := ev_ok rfl
@[simp] theorem vwD_int {i : Int} : vwD (.int i) = .dat (.int i) := rfl
@[simp] theorem vwD_str {i : Str} : vwD (.str i) = .dat (.str i) := rfl
@[simp] theorem vwD_bool {i : Bool} : vwD (.bool i) = .dat (.bool i) := rfl
@[simp] theorem vwD_none : vwD .none = .dat .none := rfl
@[simp] theorem vwD_tup {xs : List D} : vwD (.tuple xs) = .dat (.tuple xs) := rfl
@[simp] theorem vwD_list {xs : List D} : vwD (.list xs) = .obj (.lst xs) := rfl
theorem ev_slot {i : Nat} {sl : Slt} {o : Op} {Q : Op → Sg → Prop} (e : s.ρ[i]? = some sl) (h : (match sl with | .val d => some (Op.val d) | .own _ _ => some (.slot i) | .bor _ => some (.slot i) | .glob => some .glob | .no => none | .exc => none) = some o) : Ev (rdSlot i) s Q ↔ Q o s := by
  apply ev_ok
  unfold rdSlot
  rw [e]
  cases sl <;> cases h <;> rfl

/-- what a slot reads as -/
def rdS (i : Nat) (Q : Op → Sg → Prop) (s : Sg) : Option Slt → Prop
  | some (.val d) => Q (.val d) s
  | some (.own _ _) => Q (.slot i) s
  | some (.bor _) => Q (.slot i) s
  | some .glob => Q .glob s
  | _ => False
theorem ev_bad {α : Type} {m : M α} {s : Sg} {Q : α → Sg → Prop} (e : m s = .bad) : Ev m s Q ↔ False := ⟨fun ⟨_, _, e', _⟩ => (by rw [e] at e'; cases e'), False.elim⟩
@[simp] theorem ev_rdSlot {i : Nat} {Q : Op → Sg → Prop} : Ev (rdSlot i) s Q ↔ rdS i Q s s.ρ[i]? := by
  cases e : s.ρ[i]? with
  | none => exact ev_bad (by unfold rdSlot; rw [e])
  | some sl =>
    cases sl with
    | no => exact ev_bad (by unfold rdSlot; rw [e])
    | exc => exact ev_bad (by unfold rdSlot; rw [e])
    | val d => exact ev_ok (by unfold rdSlot; rw [e])
    | own lk c => exact ev_ok (by unfold rdSlot; rw [e])
    | bor c => exact ev_ok (by unfold rdSlot; rw [e])
    | glob => exact ev_ok (by unfold rdSlot; rw [e])
@[simp] theorem rdS_val {i : Nat} {Q : Op → Sg → Prop} {d : D} : rdS i Q s (some (.val d)) ↔ Q (.val d) s := Iff.rfl
@[simp] theorem rdS_own {i : Nat} {Q : Op → Sg → Prop} {lk : Bool} {c : Cn} : rdS i Q s (some (.own lk c)) ↔ Q (.slot i) s := Iff.rfl
@[simp] theorem rdS_bor {i : Nat} {Q : Op → Sg → Prop} {c : Cn} : rdS i Q s (some (.bor c)) ↔ Q (.slot i) s := Iff.rfl
@[simp] theorem rdS_glob {i : Nat} {Q : Op → Sg → Prop} : rdS i Q s (some .glob) ↔ Q .glob s := Iff.rfl
@[simp] theorem ev_view_slot {i : Nat} {Q : Vw → Sg → Prop} : Ev (view (.slot i)) s Q ↔ optS (fun w => Q w s) ((s.ρ[i]?).bind Slt.view) := by
  cases e : (s.ρ[i]?).bind Slt.view with
  | none => exact ev_bad (by unfold view; dsimp only; rw [e])
  | some w => exact ev_ok (by unfold view; dsimp only; rw [e])
@[simp] theorem ev_view_glob {Q : Vw → Sg → Prop} : Ev (view .glob) s Q ↔ optS (fun xs => Q (.obj (.lst xs)) s) s.g := by
  cases e : s.g with
  | none => exact ev_bad (by unfold view; dsimp only; rw [e])
  | some w => exact ev_ok (by unfold view; dsimp only; rw [e])
@[simp] theorem view_val {d : D} : (Slt.val d).view = some (vwD d) := by cases d <;> rfl
@[simp] theorem view_own {lk : Bool} {c : Cn} : (Slt.own lk c).view = some (.obj c) := rfl
@[simp] theorem view_bor {c : Cn} : (Slt.bor c).view = some (.obj c) := rfl
@[simp] theorem ev_toBl {b : Bool} {Q : Bool → Sg → Prop} : Ev (toBl (.val (.bool b))) s Q ↔ Q b s := ev_ok rfl
@[simp] theorem ev_ret_val {d : D} {Q : Fl → Sg → Prop} : Ev (retOf (.val d)) s Q ↔ Q (.rt (.val d)) s := ev_ok rfl
@[simp] theorem ev_ret_new {c : Cn} {Q : Fl → Sg → Prop} : Ev (retOf (.new c)) s Q ↔ Q (.rt (.new c)) s := ev_ok rfl
def retS (Q : Fl → Sg → Prop) (s : Sg) : Option Slt → Prop
  | some (.own _ c) => Q (.rt (.new c)) s
  | some (.val d) => Q (.rt (.val d)) s
  | _ => False
@[simp] theorem ev_ret_slot {i : Nat} {Q : Fl → Sg → Prop} : Ev (retOf (.slot i)) s Q ↔ retS Q s s.ρ[i]? := by
  cases e : s.ρ[i]? with
  | none => exact ev_bad (by unfold retOf; dsimp only; rw [e])
  | some sl =>
    cases sl with
    | no => exact ev_bad (by unfold retOf; dsimp only; rw [e])
    | exc => exact ev_bad (by unfold retOf; dsimp only; rw [e])
    | val d => exact ev_ok (by unfold retOf; dsimp only; rw [e])
    | own lk c => exact ev_ok (by unfold retOf; dsimp only; rw [e])
    | bor c => exact ev_bad (by unfold retOf; dsimp only; rw [e])
    | glob => exact ev_bad (by unfold retOf; dsimp only; rw [e])
@[simp] theorem retS_own {Q : Fl → Sg → Prop} {lk : Bool} {c : Cn} : retS Q s (some (.own lk c)) ↔ Q (.rt (.new c)) s := Iff.rfl
@[simp] theorem retS_val {Q : Fl → Sg → Prop} {d : D} : retS Q s (some (.val d)) ↔ Q (.rt (.val d)) s := Iff.rfl
/-! freezing, storing -/
@[simp] theorem ev_frz_val {d : D} {Q : D → Sg → Prop} : Ev (frz (.val d)) s Q ↔ Q d s := ev_ok rfl
@[simp] theorem ev_frz_new {xs : List D} {Q : D → Sg → Prop} : Ev (frz (.new (.lst xs))) s Q ↔ Q (.list xs) s := ev_ok rfl
def frzS (i : Nat) (Q : D → Sg → Prop) (s : Sg) : Option Slt → Prop
  | some (.own false (.lst xs)) => Q (.list xs) { s with ρ := s.ρ.set i (.val (.list xs)) }
  | some (.val d) => Q d s
  | _ => False
@[simp] theorem ev_frz_slot {i : Nat} {Q : D → Sg → Prop} : Ev (frz (.slot i)) s Q ↔ frzS i Q s s.ρ[i]? := by
  cases e : s.ρ[i]? with
  | none => exact ev_bad (by unfold frz; dsimp only; rw [e])
  | some sl =>
    cases sl with
    | no => exact ev_bad (by unfold frz; dsimp only; rw [e])
    | exc => exact ev_bad (by unfold frz; dsimp only; rw [e])
    | val d => exact ev_ok (by unfold frz; dsimp only; rw [e])
    | own lk c => cases lk <;> cases c <;> first | exact ev_ok (by unfold frz; dsimp only; rw [e]) | exact ev_bad (by unfold frz; dsimp only; rw [e])
    | bor c => exact ev_bad (by unfold frz; dsimp only; rw [e])
    | glob => exact ev_bad (by unfold frz; dsimp only; rw [e])
@[simp] theorem frzS_own {i : Nat} {Q : D → Sg → Prop} {xs : List D} : frzS i Q s (some (.own false (.lst xs))) ↔ Q (.list xs) { s with ρ := s.ρ.set i (.val (.list xs)) } := Iff.rfl
@[simp] theorem frzS_val {i : Nat} {Q : D → Sg → Prop} {d : D} : frzS i Q s (some (.val d)) ↔ Q d s := Iff.rfl
@[simp] theorem ev_frzAll_nil {Q : List D → Sg → Prop} : Ev (frzAll []) s Q ↔ Q [] s := ev_pure
@[simp] theorem ev_frzAll_cons {o : Op} {os : List Op} {Q : List D → Sg → Prop} : Ev (frzAll (o :: os)) s Q ↔ Ev (frz o) s fun d s1 => Ev (frzAll os) s1 fun ds s2 => Q (d :: ds) s2 := by
  rw [show frzAll (o :: os) = (frz o >>= fun d => frzAll os >>= fun ds => pure (d :: ds)) from rfl]
  simp only [ev_bind, ev_pure]
@[simp] theorem ev_setS {i : Nat} {sl : Slt} {Q : Fl → Sg → Prop} : Ev (setS i sl) s Q ↔ Q .nx { s with ρ := s.ρ.set i sl } := ev_ok rfl
@[simp] theorem ev_asgF_val {i : Nat} {d : D} {Q : Fl → Sg → Prop} : Ev (asgF i (.val d)) s Q ↔ Q .nx { s with ρ := s.ρ.set i (.val d) } := ev_ok rfl
@[simp] theorem ev_asgF_lst {i : Nat} {xs : List D} {Q : Fl → Sg → Prop} : Ev (asgF i (.new (.lst xs))) s Q ↔ Q .nx { s with ρ := s.ρ.set i (.val (.list xs)) } := ev_ok rfl
@[simp] theorem ev_asgF_dct {i : Nat} {xs : List (Key × D)} {Q : Fl → Sg → Prop} : Ev (asgF i (.new (.dct xs))) s Q ↔ Q .nx { s with ρ := s.ρ.set i (.own false (.dct xs)) } := ev_ok rfl
@[simp] theorem ev_asgO_val {i : Nat} {d : D} {Q : Fl → Sg → Prop} : Ev (asgO i (.val d)) s Q ↔ Q .nx { s with ρ := s.ρ.set i (.val d) } := ev_ok rfl
@[simp] theorem ev_asgO_new {i : Nat} {c : Cn} {Q : Fl → Sg → Prop} : Ev (asgO i (.new c)) s Q ↔ Q .nx { s with ρ := s.ρ.set i (.own false c) } := ev_ok rfl
@[simp] theorem ev_ite {α : Type} {p : Prop} [Decidable p] {f g : M α} {Q : α → Sg → Prop} : Ev (if p then f else g) s Q ↔ if p then Ev f s Q else Ev g s Q := by split <;> rfl
@[simp] theorem ev_M_bad {α : Type} {Q : α → Sg → Prop} : Ev (M.bad : M α) s Q ↔ False := ev_bad rfl
@[simp] theorem ev_tup {fs : M (List Op)} {Q : Op → Sg → Prop} : Ev (tupM fs) s Q ↔ Ev fs s fun os s1 => Ev (frzAll os) s1 fun ds s2 => ds.length ≤ sizeLine ∧ Q (.val (.tuple ds)) s2 := by
  unfold tupM
  simp only [ev_bind, ev_ite, ev_pure, ev_M_bad]
  constructor <;> intro h <;> refine h.mono fun os s1 q => q.mono fun ds s2 q => ?_
  · split at q
    · rename_i hz; exact ⟨hz, q⟩
    · exact q.elim
  · rw [if_pos q.1]; exact q.2
@[simp] theorem ev_lst {fs : M (List Op)} {Q : Op → Sg → Prop} : Ev (lstM fs) s Q ↔ Ev fs s fun os s1 => Ev (frzAll os) s1 fun ds s2 => ds.length ≤ sizeLine ∧ Q (.new (.lst ds)) s2 := by
  unfold lstM
  simp only [ev_bind, ev_ite, ev_pure, ev_M_bad]
  constructor <;> intro h <;> refine h.mono fun os s1 q => q.mono fun ds s2 q => ?_
  · split at q
    · rename_i hz; exact ⟨hz, q⟩
    · exact q.elim
  · rw [if_pos q.1]; exact q.2
/-! calls -/
@[simp] theorem ev_argOf_val {d : D} {Q : Arg → Sg → Prop} : Ev (argOf (.val d)) s Q ↔ Q (.val d) s := ev_ok rfl
@[simp] theorem ev_argOf_lst {xs : List D} {Q : Arg → Sg → Prop} : Ev (argOf (.new (.lst xs))) s Q ↔ Q (.val (.list xs)) s := ev_ok rfl
@[simp] theorem ev_argOf_dct {xs : List (Key × D)} {Q : Arg → Sg → Prop} : Ev (argOf (.new (.dct xs))) s Q ↔ Q (.bor (.dct xs)) s := ev_ok rfl
@[simp] theorem ev_argOf_glob {Q : Arg → Sg → Prop} : Ev (argOf .glob) s Q ↔ Q .glob s := ev_ok rfl
def argS (Q : Arg → Sg → Prop) (s : Sg) : Option Slt → Prop
  | some (.own _ c) => Q (.bor c) s
  | some (.bor c) => Q (.bor c) s
  | some (.val d) => Q (.val d) s
  | _ => False
@[simp] theorem ev_argOf_slot {i : Nat} {Q : Arg → Sg → Prop} : Ev (argOf (.slot i)) s Q ↔ argS Q s s.ρ[i]? := by
  cases e : s.ρ[i]? with
  | none => exact ev_bad (by unfold argOf; dsimp only; rw [e])
  | some sl =>
    cases sl with
    | no => exact ev_bad (by unfold argOf; dsimp only; rw [e])
    | exc => exact ev_bad (by unfold argOf; dsimp only; rw [e])
    | val d => exact ev_ok (by unfold argOf; dsimp only; rw [e])
    | own lk c => exact ev_ok (by unfold argOf; dsimp only; rw [e])
    | bor c => exact ev_ok (by unfold argOf; dsimp only; rw [e])
    | glob => exact ev_bad (by unfold argOf; dsimp only; rw [e])
@[simp] theorem argS_own {Q : Arg → Sg → Prop} {lk : Bool} {c : Cn} : argS Q s (some (.own lk c)) ↔ Q (.bor c) s := Iff.rfl
@[simp] theorem argS_bor {Q : Arg → Sg → Prop} {c : Cn} : argS Q s (some (.bor c)) ↔ Q (.bor c) s := Iff.rfl
@[simp] theorem argS_val {Q : Arg → Sg → Prop} {d : D} : argS Q s (some (.val d)) ↔ Q (.val d) s := Iff.rfl
@[simp] theorem ev_argsOf_nil {Q : List Arg → Sg → Prop} : Ev (argsOf []) s Q ↔ Q [] s := ev_pure
@[simp] theorem ev_argsOf_cons {o : Op} {os : List Op} {Q : List Arg → Sg → Prop} : Ev (argsOf (o :: os)) s Q ↔ Ev (argOf o) s fun a s1 => Ev (argsOf os) s1 fun as s2 => Q (a :: as) s2 := by
  rw [show argsOf (o :: os) = (argOf o >>= fun a => argsOf os >>= fun as => pure (a :: as)) from rfl]
  simp only [ev_bind, ev_pure]
def retK (Q : Op → Sg → Prop) (s : Sg) : Ret → G → Prop
  | .val d, g => Q (.val d) { s with g := g }
  | .new c, g => Q (.new c) { s with g := g }
@[simp] theorem retK_val {Q : Op → Sg → Prop} {d : D} {g : G} : retK Q s (.val d) g ↔ Q (.val d) { s with g := g } := Iff.rfl
@[simp] theorem retK_new {Q : Op → Sg → Prop} {d : Cn} {g : G} : retK Q s (.new d) g ↔ Q (.new d) { s with g := g } := Iff.rfl
@[simp] theorem ev_fnM {fn : Fn} {as : List Arg} {Q : Op → Sg → Prop} : Ev (fnM fn as) s Q ↔ FnEv fn as s.g (retK Q s) := by
  unfold fnM FnEv
  constructor
  · rintro ⟨o, s', e, q⟩
    dsimp only at e
    cases h : fn as s.g with
    | bad => rw [h] at e; cases e
    | ex y g' => rw [h] at e; cases e
    | ok r g' =>
      rw [h] at e
      cases r <;> (cases e; exact ⟨_, g', rfl, q⟩)
  · rintro ⟨r, g', e, q⟩
    cases r <;> exact ⟨_, _, by dsimp only; rw [e], q⟩
@[simp] theorem ev_callM {fn : Fn} {fs : M (List Op)} {Q : Op → Sg → Prop} : Ev (callM fn fs) s Q ↔ Ev fs s fun os s1 => Ev (argsOf os) s1 fun as s2 => FnEv fn as s2.g (retK Q s2) := by
  unfold callM
  simp only [ev_bind, ev_fnM]
def flK (g : G) (Q : Ret → G → Prop) : Fl → Sg → Prop
  | .rt r, s => Q r (gOut g s.g)
  | .nx, s => Q (.val .none) (gOut g s.g)
  | _, _ => False
@[simp] theorem flK_rt {g : G} {Q : Ret → G → Prop} {r : Ret} : flK g Q (.rt r) s ↔ Q r (gOut g s.g) := Iff.rfl
@[simp] theorem flK_nx {g : G} {Q : Ret → G → Prop} : flK g Q .nx s ↔ Q (.val .none) (gOut g s.g) := Iff.rfl
@[simp] theorem gOut_some {xs : List D} {g : G} : gOut (some xs) g = g := rfl
theorem fnEv_run {n : Nat} {m : M Fl} {as : List Arg} {g : G} {Q : Ret → G → Prop} : FnEv (runD n m) as g Q ↔ Ev m { ρ := startD n as, g := g } (flK g Q) := by
  unfold FnEv Ev runD
  constructor
  · rintro ⟨r, g', e, q⟩
    cases h : m { ρ := startD n as, g := g } with
    | bad => rw [h] at e; cases e
    | ex y s1 => rw [h] at e; cases e
    | ok a s1 =>
      rw [h] at e
      cases a <;> cases e
      · exact ⟨_, s1, rfl, q⟩
      · exact ⟨_, s1, rfl, q⟩
  · rintro ⟨a, s1, e, q⟩
    cases a with
    | nx => exact ⟨_, _, by rw [e], q⟩
    | rt r => exact ⟨_, _, by rw [e], q⟩
    | bk => exact q.elim
    | ct => exact q.elim
/-! xs[i] = e -/
def objS (Q : Prop) : Option Slt → Prop
  | some .glob => Q
  | some (.own _ _) => Q
  | _ => False
@[simp] theorem ev_isObj {j : Nat} {Q : Unit → Sg → Prop} : Ev (isObj j) s Q ↔ objS (Q () s) s.ρ[j]? := by
  cases e : s.ρ[j]? with
  | none => exact ev_bad (by unfold isObj; rw [e])
  | some sl =>
    cases sl with
    | no => exact ev_bad (by unfold isObj; rw [e])
    | exc => exact ev_bad (by unfold isObj; rw [e])
    | val d => exact ev_bad (by unfold isObj; rw [e])
    | own lk c => exact ev_ok (by unfold isObj; rw [e])
    | bor c => exact ev_bad (by unfold isObj; rw [e])
    | glob => exact ev_ok (by unfold isObj; rw [e])
@[simp] theorem objS_glob {Q : Prop} : objS Q (some .glob) ↔ Q := Iff.rfl
@[simp] theorem objS_own {Q : Prop} {lk : Bool} {c : Cn} : objS Q (some (.own lk c)) ↔ Q := Iff.rfl
@[simp] theorem ev_toInt {i : Int} {Q : Int → Sg → Prop} : Ev (toInt (.val (.int i))) s Q ↔ Q i s := ev_ok rfl
def putS (j : Nat) (k : Int) (d : D) (Q : Unit → Sg → Prop) (s : Sg) : Option Slt → Prop
  | some .glob => optS (fun xs => optS (fun n => Q () { s with g := some (xs.set n d) }) (ixN xs.length k)) s.g
  | some (.own false (.lst xs)) => optS (fun n => Q () { s with ρ := s.ρ.set j (.own false (.lst (xs.set n d))) }) (ixN xs.length k)
  | _ => False
@[simp] theorem ev_putAt {j : Nat} {k : Int} {d : D} {Q : Unit → Sg → Prop} : Ev (putAt j k d) s Q ↔ putS j k d Q s s.ρ[j]? := by
  cases e : s.ρ[j]? with
  | none => exact ev_bad (by unfold putAt; rw [e])
  | some sl =>
    cases sl with
    | no => exact ev_bad (by unfold putAt; rw [e])
    | exc => exact ev_bad (by unfold putAt; rw [e])
    | val d => exact ev_bad (by unfold putAt; rw [e])
    | bor c => exact ev_bad (by unfold putAt; rw [e])
    | own lk c =>
      cases lk with
      | true => exact ev_bad (by unfold putAt; rw [e])
      | false =>
        cases c with
        | dct kvs => exact ev_bad (by unfold putAt; rw [e])
        | lst xs =>
          change Ev (putAt j k d) s Q ↔ optS (fun n => Q () { s with ρ := s.ρ.set j (.own false (.lst (xs.set n d))) }) (ixN xs.length k)
          cases e2 : ixN xs.length k with
          | none => exact ev_bad (by unfold putAt; rw [e]; dsimp only; rw [e2])
          | some n => exact ev_ok (by unfold putAt; rw [e]; dsimp only; rw [e2])
    | glob =>
      unfold putS
      cases e3 : s.g with
      | none => exact ev_bad (by unfold putAt; rw [e]; dsimp only; rw [e3])
      | some xs =>
        simp only [optS_some]
        cases e2 : ixN xs.length k with
        | none => rw [optS_none]; exact ev_bad (by unfold putAt; rw [e]; dsimp only; rw [e3]; dsimp only; rw [e2])
        | some n => rw [optS_some]; exact ev_ok (by unfold putAt; rw [e]; dsimp only; rw [e3]; dsimp only; rw [e2])
@[simp] theorem putS_glob {j : Nat} {k : Int} {d : D} {Q : Unit → Sg → Prop} : putS j k d Q s (some .glob) ↔ optS (fun xs => optS (fun n => Q () { s with g := some (xs.set n d) }) (ixN xs.length k)) s.g := Iff.rfl
@[simp] theorem putS_own {j : Nat} {k : Int} {d : D} {Q : Unit → Sg → Prop} {xs : List D} : putS j k d Q s (some (.own false (.lst xs))) ↔ optS (fun n => Q () { s with ρ := s.ρ.set j (.own false (.lst (xs.set n d))) }) (ixN xs.length k) := Iff.rfl
@[simp] theorem ev_iset {j : Nat} {fe fi : M Op} {Q : Fl → Sg → Prop} : Ev (isetM j fe fi) s Q ↔ objS (Ev fe s fun o s1 => Ev (frz o) s1 fun d s2 => Ev fi s2 fun ix s3 => Ev (toInt ix) s3 fun k s4 => Ev (putAt j k d) s4 fun _ s5 => Q .nx s5) s.ρ[j]? := by
  unfold isetM
  simp only [ev_bind, ev_isObj, ev_pure]
def getS (k : Int) (Q : D → Prop) (s : Sg) : Option Slt → Prop
  | some .glob => optS (fun xs => optS Q (atI xs k)) s.g
  | some (.own _ (.lst xs)) => optS Q (atI xs k)
  | _ => False
@[simp] theorem ev_getAtI {j : Nat} {k : Int} {Q : D → Sg → Prop} : Ev (getAtI j k) s Q ↔ getS k (fun d => Q d s) s s.ρ[j]? := by
  cases e : s.ρ[j]? with
  | none => exact ev_bad (by unfold getAtI; rw [e])
  | some sl =>
    cases sl with
    | no => exact ev_bad (by unfold getAtI; rw [e])
    | exc => exact ev_bad (by unfold getAtI; rw [e])
    | val d => exact ev_bad (by unfold getAtI; rw [e])
    | bor c => exact ev_bad (by unfold getAtI; rw [e])
    | own lk c =>
      cases c with
      | dct kvs => exact ev_bad (by unfold getAtI; rw [e])
      | lst xs =>
        change Ev (getAtI j k) s Q ↔ optS (fun d => Q d s) (atI xs k)
        cases e2 : atI xs k with
        | none => exact ev_bad (by unfold getAtI; rw [e]; dsimp only; rw [e2])
        | some n => exact ev_ok (by unfold getAtI; rw [e]; dsimp only; rw [e2])
    | glob =>
      unfold getS
      cases e3 : s.g with
      | none => exact ev_bad (by unfold getAtI; rw [e]; dsimp only; rw [e3])
      | some xs =>
        simp only [optS_some]
        cases e2 : atI xs k with
        | none => rw [optS_none]; exact ev_bad (by unfold getAtI; rw [e]; dsimp only; rw [e3]; dsimp only; rw [e2])
        | some n => rw [optS_some]; exact ev_ok (by unfold getAtI; rw [e]; dsimp only; rw [e3]; dsimp only; rw [e2])
@[simp] theorem getS_glob {k : Int} {Q : D → Prop} : getS k Q s (some .glob) ↔ optS (fun xs => optS Q (atI xs k)) s.g := Iff.rfl
@[simp] theorem getS_own {k : Int} {Q : D → Prop} {lk : Bool} {xs : List D} : getS k Q s (some (.own lk (.lst xs))) ↔ optS Q (atI xs k) := Iff.rfl
theorem ev_augD {o : AugO} {j : Nat} {k : Int} {a b : D} {Q : Fl → Sg → Prop} : Ev (augD o j k a b) s Q ↔ optS (fun d => Ev (putAt j k d) s fun _ s1 => Q .nx s1) (augV o a b) := by
  unfold augD
  cases e : augV o a b with
  | none => exact ev_M_bad
  | some d => simp only [ev_bind, ev_pure, optS_some]
@[simp] theorem ev_isAug {o : AugO} {j : Nat} {fi fe : M Op} {Q : Fl → Sg → Prop} : Ev (isAugM o j fi fe) s Q ↔ objS (Ev fi s fun ix s1 => Ev (toInt ix) s1 fun k s2 => Ev (getAtI j k) s2 fun a s3 => Ev fe s3 fun x s4 => Ev (frz x) s4 fun b s5 => optS (fun d => Ev (putAt j k d) s5 fun _ s6 => Q .nx s6) (augV o a b)) s.ρ[j]? := by
  unfold isAugM
  simp only [ev_bind, ev_isObj, ev_augD]
end

/-! ### one statement after another, what follows kept shut -/
section
variable {s : Sg}
theorem ev_step {f g : M Fl} {Q : Fl → Sg → Prop} (h : ∀ K : Fl → Sg → Prop, (∀ s1, Ev g s1 Q → K .nx s1) → (∀ r s1, Q (.rt r) s1 → K (.rt r) s1) → (∀ s1, Q .bk s1 → K .bk s1) → (∀ s1, Q .ct s1 → K .ct s1) → Ev f s K) : Ev (seqF f g) s Q :=
  ev_seq.mpr (h _ (fun _ h => h) (fun _ _ h => h) (fun _ h => h) (fun _ h => h))
/-- an expression, what follows kept shut -/
theorem ev_stepE {α β : Type} {f : M α} {k : α → M β} {Q : β → Sg → Prop} (h : ∀ K : α → Sg → Prop, (∀ a s1, Ev (k a) s1 Q → K a s1) → Ev f s K) : Ev (f >>= k) s Q := ev_bind.mpr (h _ fun _ _ h => h)
theorem ev_stepI {t : M Bool} {f g : M Fl} {Q : Fl → Sg → Prop} (h : ∀ K : Bool → Sg → Prop, (∀ s1, Ev f s1 Q → K true s1) → (∀ s1, Ev g s1 Q → K false s1) → Ev t s K) : Ev (ifM t f g) s Q :=
  ev_if.mpr (h _ (fun _ h => h) (fun _ h => h))
/-! ### values -/
@[simp] theorem addV_ii {i j : Int} : addV (.dat (.int i)) (.dat (.int j)) = some (.val (.int (i + j))) := rfl
@[simp] theorem addV_ss {a b : Str} : addV (.dat (.str a)) (.dat (.str b)) = if a.length + b.length ≤ sizeLine then some (.val (.str (a ++ b))) else none := rfl
@[simp] theorem addV_tt {xs ys : List D} : addV (.dat (.tuple xs)) (.dat (.tuple ys)) = if xs.length + ys.length ≤ sizeLine then some (.val (.tuple (xs ++ ys))) else none := rfl
@[simp] theorem addV_ll {xs ys : List D} : addV (.obj (.lst xs)) (.obj (.lst ys)) = if xs.length + ys.length ≤ sizeLine then some (.new (.lst (xs ++ ys))) else none := rfl
@[simp] theorem subV_ii {i j : Int} : subV (.dat (.int i)) (.dat (.int j)) = some (.val (.int (i - j))) := rfl
@[simp] theorem mulV_ii {i j : Int} : mulV (.dat (.int i)) (.dat (.int j)) = if mulOk i j = true then some (.val (.int (i * j))) else none := rfl
@[simp] theorem fdivV_ii {i j : Int} : fdivV (.dat (.int i)) (.dat (.int j)) = if 0 < j ∧ j < 1073741824 then some (.val (.int (i / j))) else none := rfl
@[simp] theorem modV_ii {i j : Int} : modV (.dat (.int i)) (.dat (.int j)) = if 0 < j then some (.val (.int (i % j))) else none := rfl
@[simp] theorem powV_ii {i j : Int} : powV (.dat (.int i)) (.dat (.int j)) = if 0 ≤ j ∧ j ≤ 1000000 ∧ i.natAbs < 2 ^ 64 then some (.val (.int (i ^ j.toNat))) else none := rfl
@[simp] theorem shlV_ii {i j : Int} : shlV (.dat (.int i)) (.dat (.int j)) = if 0 ≤ j ∧ j ≤ 1000000 ∧ i.natAbs < 2 ^ 64 then some (.val (.int (i * 2 ^ j.toNat))) else none := rfl
@[simp] theorem negV_i {i : Int} : negV (.dat (.int i)) = some (.val (.int (-i))) := rfl
@[simp] theorem ltV_ii {i j : Int} : ltV (.dat (.int i)) (.dat (.int j)) = some (.val (.bool (decide (i < j)))) := rfl
@[simp] theorem leV_ii {i j : Int} : leV (.dat (.int i)) (.dat (.int j)) = some (.val (.bool (decide (i ≤ j)))) := rfl
@[simp] theorem gtV_ii {i j : Int} : gtV (.dat (.int i)) (.dat (.int j)) = some (.val (.bool (decide (j < i)))) := rfl
@[simp] theorem geV_ii {i j : Int} : geV (.dat (.int i)) (.dat (.int j)) = some (.val (.bool (decide (j ≤ i)))) := rfl
@[simp] theorem eqV_dd {d e : D} : eqV (.dat d) (.dat e) = if min d.depth e.depth ≤ 64 then some (.val (.bool (PyData.eqv d e))) else none := rfl
@[simp] theorem neV_dd {d e : D} : neV (.dat d) (.dat e) = if min d.depth e.depth ≤ 64 then some (.val (.bool (!PyData.eqv d e))) else none := rfl
@[simp] theorem ixV_l {xs : List D} {i : Int} : ixV (.obj (.lst xs)) (.dat (.int i)) = (atI xs i).map .val := rfl
@[simp] theorem ixV_t {xs : List D} {i : Int} : ixV (.dat (.tuple xs)) (.dat (.int i)) = (atI xs i).map .val := rfl
@[simp] theorem ixV_s {z : Str} {i : Int} : ixV (.dat (.str z)) (.dat (.int i)) = if z.length ≤ sizeLine then (atI z.cps.toList i).map fun c => .val (.str ⟨#[c]⟩) else none := rfl
@[simp] theorem intV_i {i : Int} : intV [.dat (.int i)] = some (.val (.int i)) := rfl
@[simp] theorem intV_b {i : Bool} : intV [.dat (.bool i)] = some (.val (.int (if i then 1 else 0))) := rfl
@[simp] theorem lenV_l {xs : List D} : lenV [.obj (.lst xs)] = some (.val (.int xs.length)) := rfl
@[simp] theorem lenV_t {xs : List D} : lenV [.dat (.tuple xs)] = some (.val (.int xs.length)) := rfl
@[simp] theorem lenV_s {z : Str} : lenV [.dat (.str z)] = if z.length ≤ sizeLine then some (.val (.int z.length)) else none := rfl
@[simp] theorem augV_ai {i j : Int} : augV .add (.int i) (.int j) = some (.int (i + j)) := rfl
@[simp] theorem augV_si {i j : Int} : augV .sub (.int i) (.int j) = some (.int (i - j)) := rfl
theorem atI_lt {α : Type} {xs : List α} {i : Int} (h0 : 0 ≤ i) (h1 : i < xs.length) : atI xs i = xs[i.toNat]? := by
  unfold atI ixN
  rw [if_pos h0, if_pos h1]
  rfl
@[simp] theorem atI_0 {α : Type} {x : α} {xs : List α} : atI (x :: xs) 0 = some x := by
  rw [atI_lt (by omega) (by rw [List.length_cons]; omega)]
  rfl
@[simp] theorem atI_1 {α : Type} {x y : α} {xs : List α} : atI (x :: y :: xs) 1 = some y := by
  rw [atI_lt (by omega) (by rw [List.length_cons, List.length_cons]; omega)]
  rfl
@[simp] theorem atI_2 {α : Type} {x y z : α} {xs : List α} : atI (x :: y :: z :: xs) 2 = some z := by
  rw [atI_lt (by omega) (by rw [List.length_cons, List.length_cons, List.length_cons]; omega)]
  rfl
@[simp] theorem atI_3 {α : Type} {x y z w : α} {xs : List α} : atI (x :: y :: z :: w :: xs) 3 = some w := by
  rw [atI_lt (by omega) (by rw [List.length_cons, List.length_cons, List.length_cons, List.length_cons]; omega)]
  rfl
end
end PD
end

section
set_option Elab.async false
set_option linter.all false
set_option maxRecDepth 100000
set_option maxHeartbeats 4000000
set_option autoImplicit false
namespace PD
open PySem PySem.Spec L2
open PyProof.Rows hiding St
section
variable {s : Sg}
theorem ite_F {c P : Prop} [Decidable c] : (if c then P else False) ↔ c ∧ P := by
  by_cases h : c
  · rw [if_pos h]; exact ⟨fun p => ⟨h, p⟩, fun p => p.2⟩
  · rw [if_neg h]; exact ⟨False.elim, fun p => h p.1⟩
def ownS (P : List D → Prop) : Option Slt → Prop
  | some (.own false (.lst xs)) => P xs
  | _ => False
@[simp] theorem ownS_own {P : List D → Prop} {xs : List D} : ownS P (some (.own false (.lst xs))) ↔ P xs := Iff.rfl
theorem ev_ownL {i : Nat} {Q : List D → Sg → Prop} : Ev (ownL i) s Q ↔ ownS (fun xs => Q xs s) s.ρ[i]? := by
  cases e : s.ρ[i]? with
  | none => exact ev_bad (by unfold ownL; rw [e])
  | some sl =>
    cases sl with
    | no => exact ev_bad (by unfold ownL; rw [e])
    | exc => exact ev_bad (by unfold ownL; rw [e])
    | val d => exact ev_bad (by unfold ownL; rw [e])
    | bor c => exact ev_bad (by unfold ownL; rw [e])
    | glob => exact ev_bad (by unfold ownL; rw [e])
    | own lk c => cases lk <;> cases c <;> first | exact ev_ok (by unfold ownL; rw [e]) | exact ev_bad (by unfold ownL; rw [e])
theorem ev_putL {i : Nat} {xs : List D} {Q : Unit → Sg → Prop} : Ev (putL i xs) s Q ↔ Q () { s with ρ := s.ρ.set i (.own false (.lst xs)) } := ev_ok rfl
theorem ownS_congr {P P' : List D → Prop} (h : ∀ xs, P xs ↔ P' xs) (o : Option Slt) : ownS P o ↔ ownS P' o := by
  unfold ownS
  split
  · exact h _
  · exact Iff.rfl
@[simp] theorem ev_append {i : Nat} {fe : M Op} {Q : Op → Sg → Prop} : Ev (appendM i fe) s Q ↔ ownS (fun _ => Ev fe s fun o s1 => Ev (frz o) s1 fun d s2 => ownS (fun xs => xs.length < sizeLine ∧ Q (.val .none) { s2 with ρ := s2.ρ.set i (.own false (.lst (xs ++ [d]))) }) s2.ρ[i]?) s.ρ[i]? := by
  unfold appendM
  simp only [ev_bind, ev_ownL, ev_ite, ev_putL, ev_pure, ev_M_bad]
  refine ownS_congr (fun _ => ?_) _
  constructor <;> intro h <;> refine h.mono fun o s1 h => h.mono fun d s2 h => ?_
  · exact (ownS_congr (fun xs => ite_F) _).mp h
  · exact (ownS_congr (fun xs => ite_F.symm) _).mp h
@[simp] theorem ev_popAt {i : Nat} {j : Int} {xs : List D} {Q : Op → Sg → Prop} : Ev (popAt i (.val (.int j)) xs) s Q ↔ optS (fun k => optS (fun d => Q (.val d) { s with ρ := s.ρ.set i (.own false (.lst (xs.eraseIdx k))) }) xs[k]?) (ixN xs.length j) := by
  cases e : ixN xs.length j with
  | none => exact ev_bad (by unfold popAt; dsimp only; rw [e])
  | some k =>
    rw [optS_some]
    cases e2 : xs[k]? with
    | none => exact ev_bad (by unfold popAt; dsimp only; rw [e]; dsimp only; rw [e2])
    | some d => exact ev_ok (by unfold popAt; dsimp only; rw [e]; dsimp only; rw [e2])
@[simp] theorem ev_pop {i : Nat} {fe : M Op} {Q : Op → Sg → Prop} : Ev (popM i fe) s Q ↔ ownS (fun _ => Ev fe s fun o s1 => ownS (fun xs => xs.length ≤ sizeLine ∧ Ev (popAt i o xs) s1 Q) s1.ρ[i]?) s.ρ[i]? := by
  unfold popM
  simp only [ev_bind, ev_ownL, ev_ite, ev_M_bad]
  refine ownS_congr (fun _ => ?_) _
  constructor <;> intro h <;> refine h.mono fun o s1 h => ?_
  · exact (ownS_congr (fun xs => ite_F) _).mp h
  · exact (ownS_congr (fun xs => ite_F.symm) _).mp h
def lstS (P : List D → Prop) : Vw → Prop
  | .obj (.lst ys) => P ys
  | _ => False
@[simp] theorem lstS_l {P : List D → Prop} {xs : List D} : lstS P (.obj (.lst xs)) ↔ P xs := Iff.rfl
@[simp] theorem ev_extend {i : Nat} {fe : M Op} {Q : Op → Sg → Prop} : Ev (extendM i fe) s Q ↔ ownS (fun _ => Ev fe s fun o s1 => Ev (view o) s1 fun w s2 => ownS (fun xs => lstS (fun ys => xs.length + ys.length ≤ sizeLine ∧ Q (.val .none) { s2 with ρ := s2.ρ.set i (.own false (.lst (xs ++ ys))) }) w) s2.ρ[i]?) s.ρ[i]? := by
  unfold extendM
  simp only [ev_bind, ev_ownL]
  refine ownS_congr (fun _ => ?_) _
  constructor <;> intro h <;> refine h.mono fun o s1 h => h.mono fun w s2 h => ?_
  · refine (ownS_congr (fun xs => ?_) _).mp h
    cases w with
    | dat d => exact ev_M_bad
    | obj c =>
      cases c with
      | dct kvs => exact ev_M_bad
      | lst ys =>
        simp only [ev_ite, ev_bind, ev_putL, ev_pure, ev_M_bad, lstS_l]
        first | exact ite_F | exact ite_F.symm
  · refine (ownS_congr (fun xs => ?_) _).mp h
    cases w with
    | dat d => exact ev_M_bad.symm
    | obj c =>
      cases c with
      | dct kvs => exact ev_M_bad.symm
      | lst ys =>
        simp only [ev_ite, ev_bind, ev_putL, ev_pure, ev_M_bad, lstS_l]
        first | exact ite_F | exact ite_F.symm
@[simp] theorem ev_expr {fe : M Op} {Q : Fl → Sg → Prop} : Ev (exprM fe) s Q ↔ Ev fe s fun _ s1 => Q .nx s1 := by
  unfold exprM
  simp only [ev_bind, ev_pure]
/-! sources -/
@[simp] theorem ev_it_list {xs : List D} {Q : List D → Sg → Prop} : Ev (frzIt (.val (.list xs))) s Q ↔ Q xs s := ev_ok rfl
@[simp] theorem ev_it_tup {xs : List D} {Q : List D → Sg → Prop} : Ev (frzIt (.val (.tuple xs))) s Q ↔ Q xs s := ev_ok rfl
@[simp] theorem ev_it_str {z : Str} {Q : List D → Sg → Prop} : Ev (frzIt (.val (.str z))) s Q ↔ Q (chars z) s := ev_ok rfl
@[simp] theorem ev_it_new {xs : List D} {Q : List D → Sg → Prop} : Ev (frzIt (.new (.lst xs))) s Q ↔ Q xs s := ev_ok rfl
def itS (i : Nat) (Q : List D → Sg → Prop) (s : Sg) : Option Slt → Prop
  | some (.bor (.lst xs)) => Q xs s
  | some (.own false (.lst xs)) => Q xs { s with ρ := s.ρ.set i (.val (.list xs)) }
  | _ => False
theorem ev_it_bor {i : Nat} {xs : List D} {Q : List D → Sg → Prop} (e : s.ρ[i]? = some (.bor (.lst xs))) : Ev (frzIt (.slot i)) s Q ↔ Q xs s := ev_ok (by unfold frzIt; dsimp only; rw [e])
theorem ev_it_own {i : Nat} {xs : List D} {Q : List D → Sg → Prop} (e : s.ρ[i]? = some (.own false (.lst xs))) : Ev (frzIt (.slot i)) s Q ↔ Q xs { s with ρ := s.ρ.set i (.val (.list xs)) } := ev_ok (by
  unfold frzIt
  dsimp only
  rw [e]
  dsimp only
  rw [bind_of (a := PyData.list xs) (s1 := { s with ρ := s.ρ.set i (.val (.list xs)) }) (by unfold frz; dsimp only; rw [e])]
  rfl)
@[simp] theorem ev_rng1 {j : Int} {Q : List D → Sg → Prop} : Ev (rng1 [.val (.int j)]) s Q ↔ (-(2 ^ 62) ≤ j ∧ j < 2 ^ 62) ∧ Q (rngD 0 j) s := by
  have e : rng1 [.val (.int j)] s = if -(2 ^ 62) ≤ j ∧ j < 2 ^ 62 then .ok (rngD 0 j) s else .bad := rfl
  by_cases h : -(2 ^ 62) ≤ j ∧ j < 2 ^ 62
  · rw [if_pos h] at e
    rw [ev_ok e]
    exact ⟨fun q => ⟨h, q⟩, fun q => q.2⟩
  · rw [if_neg h] at e
    rw [ev_bad e]
    exact ⟨False.elim, fun q => h q.1⟩
@[simp] theorem ev_rng2 {i j : Int} {Q : List D → Sg → Prop} : Ev (rng2 [.val (.int i), .val (.int j)]) s Q ↔ (-(2 ^ 62) ≤ i ∧ i < 2 ^ 62 ∧ -(2 ^ 62) ≤ j ∧ j < 2 ^ 62) ∧ Q (rngD i j) s := by
  have e : rng2 [.val (.int i), .val (.int j)] s = if -(2 ^ 62) ≤ i ∧ i < 2 ^ 62 ∧ -(2 ^ 62) ≤ j ∧ j < 2 ^ 62 then .ok (rngD i j) s else .bad := rfl
  by_cases h : -(2 ^ 62) ≤ i ∧ i < 2 ^ 62 ∧ -(2 ^ 62) ≤ j ∧ j < 2 ^ 62
  · rw [if_pos h] at e
    rw [ev_ok e]
    exact ⟨fun q => ⟨h, q⟩, fun q => q.2⟩
  · rw [if_neg h] at e
    rw [ev_bad e]
    exact ⟨False.elim, fun q => h q.1⟩
/-! slices -/
@[simp] theorem ev_slice {fa : M Op} {fl fh : M (Option Int)} {Q : Op → Sg → Prop} : Ev (sliceM fa fl fh) s Q ↔ Ev fa s fun x s1 => Ev fl s1 fun l s2 => Ev fh s2 fun h s3 => Ev (view x) s3 fun w _ => optS (fun o => Q o s3) (slV w l h) := by
  unfold sliceM slM
  simp only [ev_bind, ev_op1]
def partK (o : Op) : M (Option Int) := fun s => match o with
  | .val (.int i) => .ok (some i) s
  | _ => .bad
theorem part_eq (f : M Op) : partM f = (f >>= partK) := rfl
@[simp] theorem ev_part {f : M Op} {Q : Option Int → Sg → Prop} : Ev (partM f) s Q ↔ Ev f s fun o s1 => ∃ i, o = .val (.int i) ∧ Q (some i) s1 := by
  rw [part_eq, ev_bind]
  constructor <;> intro h <;> refine h.mono fun o s1 h => ?_
  · obtain ⟨a, s2, e, q⟩ := h
    unfold partK at e
    split at e
    · cases e; exact ⟨_, rfl, q⟩
    · cases e
  · obtain ⟨i, rfl, q⟩ := h
    exact ⟨_, _, rfl, q⟩
@[simp] theorem slV_l {xs : List D} {lo hi : Option Int} : slV (.obj (.lst xs)) lo hi = some (.new (.lst (cutL xs lo hi))) := rfl
@[simp] theorem slV_t {xs : List D} {lo hi : Option Int} : slV (.dat (.tuple xs)) lo hi = some (.val (.tuple (cutL xs lo hi))) := rfl
@[simp] theorem slV_s {z : Str} {lo hi : Option Int} : slV (.dat (.str z)) lo hi = if z.length ≤ sizeLine then some (.val (.str (cutS z lo hi))) else none := rfl
theorem cutL_to {α : Type} {xs : List α} {k : Int} (h : 0 ≤ k) : cutL xs none (some k) = xs.take k.toNat := by
  obtain ⟨n, rfl⟩ := Int.eq_ofNat_of_zero_le h
  unfold cutL
  rw [HT.sIx_none, show HT.sIx xs.length xs.length (some (n : Int)) = min n xs.length from HT.sIx_nat _ _ n]
  rw [List.drop_zero, Nat.sub_zero, Int.toNat_natCast]
  by_cases hl : n ≤ xs.length
  · rw [Nat.min_eq_left hl]
  · rw [Nat.min_eq_right (by omega), List.take_of_length_le (Nat.le_refl _), List.take_of_length_le (by omega)]
theorem cutL_from {α : Type} {xs : List α} {k : Int} (h : 0 ≤ k) : cutL xs (some k) none = xs.drop k.toNat := by
  obtain ⟨n, rfl⟩ := Int.eq_ofNat_of_zero_le h
  unfold cutL
  rw [HT.sIx_none, show HT.sIx xs.length 0 (some (n : Int)) = min n xs.length from HT.sIx_nat _ _ n, Int.toNat_natCast]
  by_cases hl : n ≤ xs.length
  · rw [Nat.min_eq_left hl, List.take_of_length_le (by rw [List.length_drop]; omega)]
  · rw [Nat.min_eq_right (by omega), List.drop_eq_nil_of_le (Nat.le_refl _), List.drop_eq_nil_of_le (by omega)]
    simp
/-! built-ins -/
@[simp] theorem tupleV_l {xs : List D} : tupleV [.obj (.lst xs)] = some (.val (.tuple xs)) := rfl
@[simp] theorem tupleV_t {xs : List D} : tupleV [.dat (.tuple xs)] = some (.val (.tuple xs)) := rfl
@[simp] theorem listV_l {xs : List D} : listV [.obj (.lst xs)] = some (.new (.lst xs)) := rfl
@[simp] theorem listV_t {xs : List D} : listV [.dat (.tuple xs)] = some (.new (.lst xs)) := rfl
@[simp] theorem minV_ii {i j : Int} : minV [.dat (.int i), .dat (.int j)] = some (.val (.int (if j < i then j else i))) := rfl
@[simp] theorem maxV_ii {i j : Int} : maxV [.dat (.int i), .dat (.int j)] = some (.val (.int (if j > i then j else i))) := rfl
@[simp] theorem sortedV_l {xs : List D} : sortedV [.obj (.lst xs)] = if sortOk xs = true then some (.new (.lst (sortD xs))) else none := rfl
@[simp] theorem strV_i {i : Int} : strV [.dat (.int i)] = if i.natAbs.log2 < 1920 then some (.val (.str (toString i))) else none := rfl
@[simp] theorem strV_s {z : Str} : strV [.dat (.str z)] = some (.val (.str z)) := rfl
/-! for -/
@[simp] theorem ev_for {f : M (List D)} {t : Tg} {body : M Fl} {Q : Fl → Sg → Prop} : Ev (PD.forM f t body) s Q ↔ Ev f s fun ds s1 => Ev (forD t body ds) s1 Q := by
  unfold PD.forM
  rw [ev_bind]
def turnK (I : Sg → Prop) (Q : Fl → Sg → Prop) : Fl → Sg → Prop
  | .nx, s => I s
  | .ct, s => I s
  | .bk, s => Q .nx s
  | .rt r, s => Q (.rt r) s
@[simp] theorem turnK_nx {I : Sg → Prop} {Q : Fl → Sg → Prop} : turnK I Q .nx s ↔ I s := Iff.rfl
@[simp] theorem turnK_ct {I : Sg → Prop} {Q : Fl → Sg → Prop} : turnK I Q .ct s ↔ I s := Iff.rfl
@[simp] theorem turnK_bk {I : Sg → Prop} {Q : Fl → Sg → Prop} : turnK I Q .bk s ↔ Q .nx s := Iff.rfl
@[simp] theorem turnK_rt {I : Sg → Prop} {Q : Fl → Sg → Prop} {r : Ret} : turnK I Q (.rt r) s ↔ Q (.rt r) s := Iff.rfl
theorem ev_forD {t : Tg} {body : M Fl} {Q : Fl → Sg → Prop} (ds : List D) (Inv : Nat → Sg → Prop) (h0 : Inv 0 s)
    (hs : ∀ i d s, ds[i]? = some d → Inv i s → ∃ ρ', t.set d s.ρ = some ρ' ∧ Ev body { s with ρ := ρ' } (turnK (Inv (i + 1)) Q)) (he : ∀ s, Inv ds.length s → Q .nx s) : Ev (forD t body ds) s Q := by
  have go : ∀ (n i : Nat) (s : Sg), n + i = ds.length → Inv i s → Ev (forD t body (ds.drop i)) s Q := by
    intro n
    induction n with
    | zero =>
      intro i s e hI
      have e : i = ds.length := by omega
      subst e
      rw [List.drop_length]
      exact ev_pure.mpr (he s hI)
    | succ n ih =>
      intro i s e hI
      have hl : i < ds.length := by omega
      rw [List.drop_eq_getElem_cons hl]
      obtain ⟨ρ', e1, q⟩ := hs i _ s (List.getElem?_eq_getElem hl) hI
      have e2 : ∀ s', s' = s → forD t body (ds[i] :: ds.drop (i + 1)) s' = (body >>= afterD (forD t body (ds.drop (i + 1)))) { s with ρ := ρ' } := fun s' z => by
        subst z
        rw [forD]
        dsimp only
        rw [e1]
      have q2 : Ev (body >>= afterD (forD t body (ds.drop (i + 1)))) { s with ρ := ρ' } Q := by
        rw [ev_bind]
        refine q.mono fun r s1 k => ?_
        cases r with
        | nx => exact ih (i + 1) s1 (by omega) k
        | ct => exact ih (i + 1) s1 (by omega) k
        | bk => exact ev_pure.mpr k
        | rt r => exact ev_pure.mpr k
      obtain ⟨a, s', e3, k⟩ := q2
      exact ⟨a, s', by rw [e2 s rfl, e3], k⟩
  have := go ds.length 0 s (by omega) h0
  exact this
/-! comprehensions -/
@[simp] theorem ev_comp {fi : M (List D)} {vs : List Nat} {t : Tg} {tt : M Bool} {te : M Op} {Q : Op → Sg → Prop} : Ev (compM fi vs t tt te) s Q ↔ Ev fi s fun ds s1 => ds.length ≤ sizeLine ∧ Ev (elemsD vs t (elem1 tt te) ds) s1 fun r s2 => Q (.new (.lst r)) s2 := by
  unfold compM
  simp only [ev_bind, ev_ite, ev_pure, ev_M_bad]
  constructor <;> intro h <;> refine h.mono fun ds s1 h => ?_
  · split at h
    · rename_i hz; exact ⟨hz, h⟩
    · exact h.elim
  · rw [if_pos h.1]; exact h.2
@[simp] theorem ev_elem1 {tt : M Bool} {te : M Op} {Q : Option D → Sg → Prop} : Ev (elem1 tt te) s Q ↔ Ev tt s fun b s1 => if b = true then Ev te s1 fun o s2 => Ev (frz o) s2 fun d s3 => Q (some d) s3 else Q none s1 := by
  unfold elem1
  simp only [ev_bind, ev_ite, ev_pure]
theorem ev_elems {vs : List Nat} {t : Tg} {f : M (Option D)} {Q : List D → Sg → Prop} (ds : List D) (J : Nat → List D → G → Prop) (h0 : J 0 [] s.g)
    (hs : ∀ i d acc g, ds[i]? = some d → J i acc g → ∃ ρ', t.set d (wipeρ s.ρ vs) = some ρ' ∧ Ev f { ρ := ρ', g := g } (fun x s1 => J (i + 1) (acc ++ x.toList) s1.g)) (he : ∀ acc g, J ds.length acc g → Q acc { s with g := g }) : Ev (elemsD vs t f ds) s Q := by
  have go : ∀ (n i : Nat) (g : G) (acc : List D), n + i = ds.length → J i acc g → ∃ r g', elemsD vs t f (ds.drop i) { s with g := g } = .ok r { s with g := g' } ∧ J ds.length (acc ++ r) g' := by
    intro n
    induction n with
    | zero =>
      intro i g acc e hJ
      have e : i = ds.length := by omega
      subst e
      rw [List.drop_length]
      exact ⟨[], g, rfl, by rw [List.append_nil]; exact hJ⟩
    | succ n ih =>
      intro i g acc e hJ
      have hl : i < ds.length := by omega
      rw [List.drop_eq_getElem_cons hl]
      obtain ⟨ρ', e1, x, s1, e2, q⟩ := hs i _ acc g (List.getElem?_eq_getElem hl) hJ
      obtain ⟨r, g', e3, q3⟩ := ih (i + 1) s1.g _ (by omega) q
      refine ⟨x.toList ++ r, g', ?_, by rw [← List.append_assoc]; exact q3⟩
      rw [elemsD_ok (s := { s with g := g }) e1 e2, bind_of e3]
      rfl
  obtain ⟨r, g', e, q⟩ := go ds.length 0 s.g [] (by omega) h0
  exact ⟨r, _, e, he _ _ q⟩
/-- no draw within, no test -/
theorem ev_elems_pure {vs : List Nat} {t : Tg} {f : M (Option D)} {Q : List D → Sg → Prop} (ds : List D) (h : D → Option D)
    (hs : ∀ d, d ∈ ds → ∃ ρ', t.set d (wipeρ s.ρ vs) = some ρ' ∧ Ev f { ρ := ρ', g := s.g } (fun x s1 => x = h d ∧ s1.g = s.g)) (he : Q (ds.filterMap h) s) : Ev (elemsD vs t f ds) s Q := by
  refine ev_elems ds (fun i acc g => acc = (ds.take i).filterMap h ∧ g = s.g) ⟨rfl, rfl⟩ (fun i d acc g e ⟨h1, h2⟩ => ?_) (fun acc g ⟨h1, h2⟩ => ?_)
  · subst h1 h2
    obtain ⟨ρ', e1, q⟩ := hs d (List.mem_of_getElem? e)
    refine ⟨ρ', e1, q.mono fun x s1 ⟨a, b⟩ => ⟨?_, b⟩⟩
    rw [List.take_add_one, e, List.filterMap_append, a]
    congr 1
  · subst h1 h2
    rw [List.take_length]
    exact he

/-! truth -/
@[simp] theorem ev_tru {o : Op} {Q : Bool → Sg → Prop} : Ev (tru o) s Q ↔ Ev (view o) s fun w _ => optS (fun b => Q b s) (truV w) := by
  unfold tru
  simp only [optS_ex]
  constructor
  · rintro ⟨b, s', e, q⟩
    dsimp only at e
    split at e
    · rename_i w s1 e1
      split at e
      · rename_i b' e2
        cases e
        exact ⟨w, s1, e1, _, e2, q⟩
      · cases e
    · cases e
  · rintro ⟨w, s1, e1, b, e2, q⟩
    exact ⟨b, s, by dsimp only; rw [e1]; dsimp only; rw [e2], q⟩
@[simp] theorem truV_b {b : Bool} : truV (.dat (.bool b)) = some b := rfl
@[simp] theorem truV_n : truV (.dat .none) = some false := rfl
@[simp] theorem truV_i {i : Int} : truV (.dat (.int i)) = some (i != 0) := rfl
@[simp] theorem truV_t {xs : List D} : truV (.dat (.tuple xs)) = some (!xs.isEmpty) := rfl
@[simp] theorem truV_l {xs : List D} : truV (.obj (.lst xs)) = some (!xs.isEmpty) := rfl
@[simp] theorem ev_andM {a b : M Bool} {Q : Bool → Sg → Prop} : Ev (PD.andM a b) s Q ↔ Ev a s fun x s1 => if x = true then Ev b s1 Q else Q false s1 := by
  unfold PD.andM
  simp only [ev_bind, ev_ite, ev_pure]
@[simp] theorem ev_orM {a b : M Bool} {Q : Bool → Sg → Prop} : Ev (PD.orM a b) s Q ↔ Ev a s fun x s1 => if x = true then Q true s1 else Ev b s1 Q := by
  unfold PD.orM
  simp only [ev_bind, ev_ite, ev_pure]
@[simp] theorem ev_notM {a : M Bool} {Q : Bool → Sg → Prop} : Ev (PD.notM a) s Q ↔ Ev a s fun x s1 => Q (!x) s1 := by
  unfold PD.notM
  simp only [ev_bind, ev_pure]
@[simp] theorem ev_andE {a b : M Op} {Q : Op → Sg → Prop} : Ev (andE a b) s Q ↔ Ev a s fun o s1 => Ev (toBl o) s1 fun x s2 => if x = true then Ev b s2 Q else Q (.val (.bool false)) s2 := by
  unfold andE
  simp only [ev_bind, ev_ite, ev_pure]
@[simp] theorem ev_orE {a b : M Op} {Q : Op → Sg → Prop} : Ev (orE a b) s Q ↔ Ev a s fun o s1 => Ev (toBl o) s1 fun x s2 => if x = true then Q (.val (.bool true)) s2 else Ev b s2 Q := by
  unfold orE
  simp only [ev_bind, ev_ite, ev_pure]
@[simp] theorem ev_notE {a : M Op} {Q : Op → Sg → Prop} : Ev (notE a) s Q ↔ Ev a s fun o s1 => Ev (toBl o) s1 fun x s2 => Q (.val (.bool (!x))) s2 := by
  unfold notE
  simp only [ev_bind, ev_pure]
@[simp] theorem ev_unp {js : List Nat} {ds : List D} {Q : Fl → Sg → Prop} : Ev (unpM js (.val (.tuple ds))) s Q ↔ optS (fun ρ' => Q .nx { s with ρ := ρ' }) (setAll js ds s.ρ) := by
  cases e : setAll js ds s.ρ with
  | none => exact ev_bad (by unfold unpM; dsimp only [Tg.set]; rw [e])
  | some ρ' => exact ev_ok (by unfold unpM; dsimp only [Tg.set]; rw [e])
@[simp] theorem ev_par {js : List Nat} {fs : M (List Op)} {Q : Fl → Sg → Prop} : Ev (parM js fs) s Q ↔ Ev fs s fun os s1 => Ev (frzAll os) s1 fun ds s2 => optS (fun ρ' => Q .nx { s2 with ρ := ρ' }) (setAll js ds s2.ρ) := by
  have st : ∀ (ds : List D) (s2 : Sg), Ev (storeAll js ds) s2 Q ↔ optS (fun ρ' => Q .nx { s2 with ρ := ρ' }) (setAll js ds s2.ρ) := fun ds s2 => by
    cases e : setAll js ds s2.ρ with
    | none => exact ev_bad (by unfold storeAll; rw [e])
    | some ρ' => exact ev_ok (by unfold storeAll; rw [e])
  unfold parM
  simp only [ev_bind, st]
@[simp] theorem setAll_nil {ρ : List Slt} : setAll [] [] ρ = some ρ := rfl
@[simp] theorem setAll_cons {j : Nat} {js : List Nat} {d : D} {ds : List D} {ρ : List Slt} : setAll (j :: js) (d :: ds) ρ = setAll js ds (ρ.set j (.val d)) := rfl
def augK (o : AugO) (i : Nat) (fe : M Op) (Q : Fl → Sg → Prop) (s : Sg) : Option Slt → Prop
  | some (.val a) => Ev fe s fun x s1 => Ev (frz x) s1 fun b s2 => optS (fun d => Q .nx { s2 with ρ := s2.ρ.set i (.val d) }) (augV o a b)
  | _ => False
@[simp] theorem ev_aug {o : AugO} {i : Nat} {fe : M Op} {Q : Fl → Sg → Prop} : Ev (augM o i fe) s Q ↔ augK o i fe Q s s.ρ[i]? := by
  cases e : s.ρ[i]? with
  | none => exact ev_bad (by unfold augM; rw [e])
  | some sl =>
    cases sl with
    | no => exact ev_bad (by unfold augM; rw [e])
    | exc => exact ev_bad (by unfold augM; rw [e])
    | own lk c => exact ev_bad (by unfold augM; rw [e])
    | bor c => exact ev_bad (by unfold augM; rw [e])
    | glob => exact ev_bad (by unfold augM; rw [e])
    | val a =>
      have e1 : ∀ m : M Fl, augM o i fe s = m s → (Ev (augM o i fe) s Q ↔ Ev m s Q) := fun m h => by
        unfold Ev
        rw [h]
      rw [e1 (fe >>= fun x => frz x >>= fun b => augS o i a b) (by unfold augM; rw [e])]
      have st : ∀ (b : D) (s2 : Sg), Ev (augS o i a b) s2 Q ↔ optS (fun d => Q .nx { s2 with ρ := s2.ρ.set i (.val d) }) (augV o a b) := fun b s2 => by
        unfold augS
        cases augV o a b with
        | none => exact ev_M_bad
        | some d => exact ev_setS
      simp only [ev_bind, st]
      rfl
@[simp] theorem augK_val {o : AugO} {i : Nat} {fe : M Op} {Q : Fl → Sg → Prop} {a : D} : augK o i fe Q s (some (.val a)) ↔ Ev fe s fun x s1 => Ev (frz x) s1 fun b s2 => optS (fun d => Q .nx { s2 with ρ := s2.ρ.set i (.val d) }) (augV o a b) := Iff.rfl
@[simp] theorem ev_toStr {a : Str} {Q : Str → Sg → Prop} : Ev (toStr (.val (.str a))) s Q ↔ Q a s := ev_ok rfl
@[simp] theorem ev_met1 {h : Str → Vw → Option Op} {fo fe : M Op} {Q : Op → Sg → Prop} : Ev (met1 h fo fe) s Q ↔ Ev fo s fun o s1 => Ev (toStr o) s1 fun a s2 => Ev fe s2 fun x s3 => Ev (view x) s3 fun w _ => optS (fun o => Q o s3) (h a w) := by
  unfold met1
  simp only [ev_bind, ev_op1]
@[simp] theorem isV_n {w : Vw} : isV w (.dat .none) = some (.val (.bool (isNW w))) := rfl
@[simp] theorem isnV_n {w : Vw} : isnV w (.dat .none) = some (.val (.bool (!isNW w))) := rfl
end
end PD
end

section
set_option Elab.async false
set_option linter.all false
set_option maxRecDepth 100000
set_option maxHeartbeats 4000000
set_option autoImplicit false
namespace Lw
open PySem PySem.Spec L2 PD
open PyProof.Rows hiding St

noncomputable def m__law_draw : M Fl :=
    (seqF (ifM ((bin (op2 gtV) (bin (op2 ixV) (rdSlot 0) (pure (.val (.int (2))))) (pure (.val (.int (0))))) >>= toBl) (seqF ((bin (op2 ixV) (rdSlot 0) (pure (.val (.int (2))))) >>= asgF 2)
    (seqF (isetM 0 (bin (op2 fdivV) (rdSlot 2) (rdSlot 1)) (pure (.val (.int (2)))))
    ((bin (op2 modV) ((consM (rdSlot 2) (pure [])) >>= opN intV) (rdSlot 1)) >>= retOf))) (pure .nx))
    (seqF ((pure (.val (.int (0)))) >>= asgF 3)
    (seqF (ifM ((bin (op2 ltV) (bin (op2 ixV) (rdSlot 0) (pure (.val (.int (1))))) ((consM (bin (op2 ixV) (rdSlot 0) (pure (.val (.int (0))))) (pure [])) >>= opN lenV)) >>= toBl) (seqF ((bin (op2 ixV) (bin (op2 ixV) (rdSlot 0) (pure (.val (.int (0))))) (bin (op2 ixV) (rdSlot 0) (pure (.val (.int (1)))))) >>= asgF 4)
    ((bin (op2 addV) (bin (op2 mulV) (pure (.val (.int (2)))) ((consM (rdSlot 4) (pure [])) >>= opN absV)) ((consM (bin (op2 ltV) (rdSlot 4) (pure (.val (.int (0))))) (pure [])) >>= opN intV)) >>= asgF 3)) (pure .nx))
    (seqF (isAugM .add 0 (pure (.val (.int (1)))) (pure (.val (.int (1)))))
    (seqF (ifM ((bin (op2 geV) (rdSlot 3) (bin (op2 mulV) (pure (.val (.int (2)))) (bin (op2 powV) (pure (.val (.int (10)))) (pure (.val (.int (18))))))) >>= toBl) (seqF ((bin (op2 modV) ((consM (bin (op2 fdivV) (rdSlot 3) (pure (.val (.int (2))))) (pure [])) >>= opN intV) (bin (op2 shlV) (pure (.val (.int (1)))) (pure (.val (.int (6000)))))) >>= asgF 2)
    (seqF (isetM 0 (bin (op2 fdivV) (rdSlot 2) (rdSlot 1)) (pure (.val (.int (2)))))
    ((bin (op2 modV) ((consM (rdSlot 2) (pure [])) >>= opN intV) (rdSlot 1)) >>= retOf))) (pure .nx))
    (seqF (isetM 0 (bin (op2 modV) ((consM (bin (op2 addV) (bin (op2 addV) (bin (op2 addV) (bin (op2 mulV) (bin (op2 ixV) (rdSlot 0) (pure (.val (.int (3))))) (pure (.val (.int (48271))))) (bin (op2 mulV) (bin (op2 modV) ((consM (rdSlot 3) (pure [])) >>= opN intV) (pure (.val (.int (2147483629))))) (pure (.val (.int (16807)))))) (bin (op2 mulV) (bin (op2 ixV) (rdSlot 0) (pure (.val (.int (1))))) (pure (.val (.int (69621)))))) (pure (.val (.int (11))))) (pure [])) >>= opN intV) (pure (.val (.int (2147483647))))) (pure (.val (.int (3)))))
    ((bin (op2 modV) ((consM (bin (op2 fdivV) (bin (op2 ixV) (rdSlot 0) (pure (.val (.int (3))))) (pure (.val (.int (16))))) (pure [])) >>= opN intV) (rdSlot 1)) >>= retOf)))))))
noncomputable def f__law_draw : Fn := runD 5 m__law_draw
noncomputable def m__law_pick : M Fl :=
    ((bin (op2 ixV) (rdSlot 1) (callM f__law_draw (consM (rdSlot 0) (consM ((consM (rdSlot 1) (pure [])) >>= opN lenV) (pure []))))) >>= retOf)
noncomputable def f__law_pick : Fn := runD 2 m__law_pick
noncomputable def m__law_rare : M Fl :=
    ((bin (op2 eqV) (callM f__law_draw (consM (rdSlot 0) (consM (rdSlot 1) (pure [])))) (bin (op2 fdivV) (rdSlot 1) (pure (.val (.int (2)))))) >>= retOf)
noncomputable def f__law_rare : Fn := runD 2 m__law_rare
noncomputable def m__law_shuffled : M Fl :=
    (seqF (((consM (rdSlot 1) (pure [])) >>= opN listV) >>= asgO 2)
    (seqF ((lstM (pure [])) >>= asgO 3)
    (seqF (PD.forM ((consM ((consM (rdSlot 2) (pure [])) >>= opN lenV) (pure [])) >>= rng1) (.nm 4) (exprM (appendM 3 (popM 2 (callM f__law_draw (consM (rdSlot 0) (consM ((consM (rdSlot 2) (pure [])) >>= opN lenV) (pure []))))))))
    ((rdSlot 3) >>= retOf))))
noncomputable def f__law_shuffled : Fn := runD 5 m__law_shuffled
noncomputable def m__law_some : M Fl :=
    (((consM (sliceM (callM f__law_shuffled (consM (rdSlot 0) (consM (rdSlot 1) (pure [])))) (pure none) (partM (callM f__law_draw (consM (rdSlot 0) (consM (bin (op2 addV) ((consM (rdSlot 2) (consM ((consM (rdSlot 1) (pure [])) >>= opN lenV) (pure []))) >>= opN minV) (pure (.val (.int (1))))) (pure [])))))) (pure [])) >>= opN sortedV) >>= retOf)
noncomputable def f__law_some : Fn := runD 3 m__law_some
noncomputable def m__law_names : M Fl :=
    (seqF ((pure (.val (.str "abcdefghijklmnopqrstuvwxyz"))) >>= asgF 2)
    (seqF ((lstM (consM (pure (.val (.str ""))) (consM (pure (.val (.str ""))) (consM (pure (.val (.str "0"))) (consM (pure (.val (.str "b"))) (consM (pure (.val (.str "z9"))) (consM (pure (.val (.str "long3"))) (consM (pure (.val (.str "a1b2c3d"))) (pure []))))))))) >>= asgF 3)
    (seqF ((bin (op2 fdivV) (pure (.val (.int (26)))) ((consM (pure (.val (.int (1)))) (consM (rdSlot 1) (pure []))) >>= opN maxV)) >>= asgF 4)
    (seqF ((lstM (pure [])) >>= asgO 5)
    (seqF (PD.forM ((consM (rdSlot 1) (pure [])) >>= rng1) (.nm 6) (exprM (appendM 5 (bin (op2 addV) (bin (op2 ixV) (rdSlot 2) (bin (op2 addV) (bin (op2 mulV) (rdSlot 6) (rdSlot 4)) (callM f__law_draw (consM (rdSlot 0) (consM (rdSlot 4) (pure [])))))) (callM f__law_pick (consM (rdSlot 0) (consM (rdSlot 3) (pure []))))))))
    ((rdSlot 5) >>= retOf))))))
noncomputable def f__law_names : Fn := runD 7 m__law_names
noncomputable def m__law_link : M Fl :=
    (seqF ((sliceM (callM f__law_shuffled (consM (rdSlot 0) (consM (rdSlot 1) (pure [])))) (pure none) (partM (pure (.val (.int (2)))))) >>= asgF 2)
    (seqF ((callM f__law_draw (consM (rdSlot 0) (consM (pure (.val (.int (4)))) (pure [])))) >>= asgF 3)
    (seqF (ifM ((bin (op2 eqV) (rdSlot 3) (pure (.val (.int (0))))) >>= toBl) ((tupM (consM (bin (op2 ixV) (rdSlot 2) (pure (.val (.int (0))))) (consM (pure (.val (.str "end"))) (consM (bin (op2 ixV) (rdSlot 2) (pure (.val (.int (1))))) (consM (pure (.val (.str "start"))) (consM (callM f__law_draw (consM (rdSlot 0) (consM (pure (.val (.int (2)))) (pure [])))) (consM (pure (.val .none)) (pure [])))))))) >>= retOf) (pure .nx))
    (seqF (ifM ((bin (op2 eqV) (rdSlot 3) (pure (.val (.int (1))))) >>= toBl) ((tupM (consM (bin (op2 ixV) (rdSlot 2) (pure (.val (.int (0))))) (consM (pure (.val (.str "start"))) (consM (bin (op2 ixV) (rdSlot 2) (pure (.val (.int (1))))) (consM (pure (.val (.str "start"))) (consM (pure (.val (.int (0)))) (consM (callM f__law_draw (consM (rdSlot 0) (consM (pure (.val (.int (3)))) (pure [])))) (pure [])))))))) >>= retOf) (pure .nx))
    (seqF ((bin (op2 subV) (callM f__law_draw (consM (rdSlot 0) (consM (pure (.val (.int (5)))) (pure [])))) (pure (.val (.int (3))))) >>= asgF 4)
    (seqF ((compM ((consM (pure (.val (.int (2)))) (pure [])) >>= rng1) [6] (.nm 6) (pure true) (callM f__law_pick (consM (rdSlot 0) (consM (lstM (consM (pure (.val (.str "start"))) (consM (pure (.val (.str "end"))) (pure [])))) (pure []))))) >>= asgF 5)
    (seqF (ifM ((bin (op2 eqV) (rdSlot 3) (pure (.val (.int (2))))) >>= toBl) ((tupM (consM (bin (op2 ixV) (rdSlot 2) (pure (.val (.int (0))))) (consM (bin (op2 ixV) (rdSlot 5) (pure (.val (.int (0))))) (consM (bin (op2 ixV) (rdSlot 2) (pure (.val (.int (1))))) (consM (bin (op2 ixV) (rdSlot 5) (pure (.val (.int (1))))) (consM (rdSlot 4) (consM (bin (op2 addV) (bin (op2 addV) (rdSlot 4) (pure (.val (.int (1))))) (callM f__law_draw (consM (rdSlot 0) (consM (pure (.val (.int (3)))) (pure []))))) (pure [])))))))) >>= retOf) (pure .nx))
    ((tupM (consM (bin (op2 ixV) (rdSlot 2) (pure (.val (.int (0))))) (consM (bin (op2 ixV) (rdSlot 5) (pure (.val (.int (0))))) (consM (bin (op2 ixV) (rdSlot 2) (pure (.val (.int (1))))) (consM (bin (op2 ixV) (rdSlot 5) (pure (.val (.int (1))))) (consM (pure (.val .none)) (consM (bin (op2 addV) (rdSlot 4) (pure (.val (.int (3))))) (pure [])))))))) >>= retOf))))))))
noncomputable def f__law_link : Fn := runD 7 m__law_link
noncomputable def m__law_arms : M Fl :=
    (seqF ((callM f__law_shuffled (consM (rdSlot 0) (consM (rdSlot 1) (pure [])))) >>= asgF 2)
    (seqF (parM [3, 4, 5] (consM (bin (op2 ixV) (rdSlot 2) (pure (.val (.int (0))))) (consM (bin (op2 ixV) (rdSlot 2) (pure (.val (.int (1))))) (consM (sliceM (rdSlot 2) (partM (pure (.val (.int (2))))) (pure none)) (pure [])))))
    (seqF ((lstM (pure [])) >>= asgO 6)
    (seqF (PD.forM ((consM (bin (op2 addV) (pure (.val (.int (1)))) (callM f__law_draw (consM (rdSlot 0) (consM (pure (.val (.int (3)))) (pure []))))) (pure [])) >>= rng1) (.nm 7) (seqF ((bin (op2 addV) (bin (op2 addV) (lstM (consM (rdSlot 3) (pure []))) (sliceM (callM f__law_shuffled (consM (rdSlot 0) (consM (rdSlot 5) (pure [])))) (pure none) (partM (callM f__law_draw (consM (rdSlot 0) (consM (bin (op2 addV) ((consM (rdSlot 5) (pure [])) >>= opN lenV) (pure (.val (.int (1))))) (pure []))))))) (lstM (consM (rdSlot 4) (pure [])))) >>= asgF 8)
    (PD.forM ((consM (bin (op2 subV) ((consM (rdSlot 8) (pure [])) >>= opN lenV) (pure (.val (.int (1))))) (pure [])) >>= rng1) (.nm 9) (exprM (appendM 6 (tupM (consM (bin (op2 ixV) (rdSlot 8) (rdSlot 9)) (consM (bin (op2 ixV) (rdSlot 8) (bin (op2 addV) (rdSlot 9) (pure (.val (.int (1)))))) (pure [])))))))))
    (seqF (PD.forM ((consM (callM f__law_draw (consM (rdSlot 0) (consM (pure (.val (.int (3)))) (pure [])))) (pure [])) >>= rng1) (.nm 7) (seqF ((callM f__law_shuffled (consM (rdSlot 0) (consM (rdSlot 1) (pure [])))) >>= asgF 10)
    (exprM (appendM 6 (tupM (consM (bin (op2 ixV) (rdSlot 10) (pure (.val (.int (0))))) (consM (bin (op2 ixV) (rdSlot 10) (pure (.val (.int (1))))) (pure []))))))))
    (seqF ((callM f__law_shuffled (consM (rdSlot 0) (consM (sliceM (rdSlot 6) (pure none) (partM (pure (.val (.int (9)))))) (pure [])))) >>= asgO 6)
    (seqF ((callM f__law_names (consM (rdSlot 0) (consM ((consM (rdSlot 6) (pure [])) >>= opN lenV) (pure [])))) >>= asgF 11)
    (seqF ((lstM (pure [])) >>= asgO 12)
    (seqF (PD.forM ((consM ((consM (rdSlot 6) (pure [])) >>= opN lenV) (pure [])) >>= rng1) (.nm 9) (seqF ((((callM f__law_rare (consM (rdSlot 0) (consM (pure (.val (.int (19)))) (pure [])))) >>= tru) >>= fun k => if k = true then (pure (.val (.int (6)))) else (bin (op2 addV) (pure (.val (.int (1)))) (callM f__law_draw (consM (rdSlot 0) (consM (pure (.val (.int (2)))) (pure [])))))) >>= asgF 13)
    (seqF ((((callM f__law_rare (consM (rdSlot 0) (consM (pure (.val (.int (19)))) (pure [])))) >>= tru) >>= fun k => if k = true then (pure (.val (.int (999)))) else (bin (op2 addV) (pure (.val (.int (1)))) (callM f__law_draw (consM (rdSlot 0) (consM (pure (.val (.int (6)))) (pure [])))))) >>= asgF 14)
    (exprM (appendM 12 (tupM (consM (bin (op2 ixV) (rdSlot 11) (rdSlot 9)) (consM (bin (op2 ixV) (bin (op2 ixV) (rdSlot 6) (rdSlot 9)) (pure (.val (.int (0))))) (consM (bin (op2 ixV) (bin (op2 ixV) (rdSlot 6) (rdSlot 9)) (pure (.val (.int (1))))) (consM (rdSlot 13) (consM (callM f__law_pick (consM (rdSlot 0) (consM (lstM (consM (pure (.val (.int (3)))) (consM (pure (.val (.int (9)))) (consM (pure (.val (.int (99)))) (pure []))))) (pure [])))) (consM (rdSlot 14) (pure [])))))))))))))
    ((tupM (consM ((consM (rdSlot 12) (pure [])) >>= opN tupleV) (consM (rdSlot 3) (consM (rdSlot 4) (pure []))))) >>= retOf))))))))))
noncomputable def f__law_arms : Fn := runD 15 m__law_arms
noncomputable def m__law_kinds : M Fl :=
    (seqF ((lstM (pure [])) >>= asgF 3)
    (seqF (PD.forM ((rdSlot 1) >>= frzIt) (.nm 4) ((bin (op2 addV) (rdSlot 3) (compM ((rdSlot 1) >>= frzIt) [8] (.nm 8) ((bin (op2 eqV) (bin (op2 ixV) (rdSlot 4) (pure (.val (.int (2))))) (bin (op2 ixV) (rdSlot 8) (pure (.val (.int (1)))))) >>= toBl) (tupM (consM (bin (op2 ixV) (rdSlot 4) (pure (.val (.int (0))))) (consM (bin (op2 ixV) (rdSlot 8) (pure (.val (.int (0))))) (pure [])))))) >>= asgF 3))
    (seqF ((lstM (pure [])) >>= asgO 5)
    (seqF (PD.forM ((callM f__law_names (consM (rdSlot 0) (consM (rdSlot 2) (pure [])))) >>= frzIt) (.nm 6) (seqF ((((bin (op2 eqV) (callM f__law_draw (consM (rdSlot 0) (consM (pure (.val (.int (3)))) (pure [])))) (pure (.val (.int (1))))) >>= toBl) >>= fun k => if k = true then ((consM (callM f__law_some (consM (rdSlot 0) (consM (rdSlot 3) (consM (pure (.val (.int (2)))) (pure []))))) (pure [])) >>= opN tupleV) else (tupM (pure []))) >>= asgF 7)
    (exprM (appendM 5 (tupM (consM (rdSlot 6) (consM (((callM f__law_rare (consM (rdSlot 0) (consM (pure (.val (.int (5)))) (pure [])))) >>= tru) >>= fun k => if k = true then (pure (.val (.int (2)))) else (pure (.val (.int (1))))) (consM (callM f__law_pick (consM (rdSlot 0) (consM (lstM (consM (pure (.val (.int (1)))) (consM (pure (.val (.int (3)))) (consM (pure (.val (.int (4)))) (consM (pure (.val (.int (9)))) (pure [])))))) (pure [])))) (consM (rdSlot 7) (pure []))))))))))
    (((consM (rdSlot 5) (pure [])) >>= opN tupleV) >>= retOf)))))
noncomputable def f__law_kinds : Fn := runD 9 m__law_kinds
noncomputable def m__law_takes : M Fl :=
    (seqF ((callM f__law_some (consM (rdSlot 0) (consM (compM ((rdSlot 1) >>= frzIt) [4] (.nm 4) (pure true) (bin (op2 ixV) (rdSlot 4) (pure (.val (.int (0)))))) (consM (rdSlot 2) (pure []))))) >>= asgF 3)
    (((consM (compM ((rdSlot 3) >>= frzIt) [5] (.nm 5) (pure true) (tupM (consM (rdSlot 5) (consM (bin (op2 addV) (pure (.val (.int (1)))) (callM f__law_draw (consM (rdSlot 0) (consM (pure (.val (.int (2)))) (pure []))))) (consM (callM f__law_pick (consM (rdSlot 0) (consM (lstM (consM (pure (.val (.str ""))) (consM (pure (.val (.str ""))) (consM (pure (.val (.str "t1"))) (consM (pure (.val (.str "x"))) (pure [])))))) (pure [])))) (pure [])))))) (pure [])) >>= opN tupleV) >>= retOf))
noncomputable def f__law_takes : Fn := runD 6 m__law_takes
noncomputable def m__law_promises : M Fl :=
    (seqF ((lstM (pure [])) >>= asgO 6)
    (seqF (PD.forM ((callM f__law_names (consM (rdSlot 0) (consM (rdSlot 5) (pure [])))) >>= frzIt) (.nm 7) (ifM (PD.andM ((bin (op2 gtV) ((consM (rdSlot 4) (pure [])) >>= opN lenV) (pure (.val (.int (0))))) >>= toBl) ((bin (op2 eqV) (callM f__law_draw (consM (rdSlot 0) (consM (pure (.val (.int (4)))) (pure [])))) (pure (.val (.int (1))))) >>= toBl)) (seqF ((callM f__law_shuffled (consM (rdSlot 0) (consM ((consM (rdSlot 4) (pure [])) >>= opN listV) (pure [])))) >>= asgF 8)
    (seqF (((consM (sliceM (rdSlot 8) (pure none) (partM (bin (op2 addV) (pure (.val (.int (1)))) (callM f__law_draw (consM (rdSlot 0) (consM ((consM (rdSlot 8) (pure [])) >>= opN lenV) (pure []))))))) (pure [])) >>= opN sortedV) >>= asgF 8)
    (exprM (appendM 6 (tupM (consM (pure (.val (.str "feeds"))) (consM (rdSlot 7) (consM ((consM (rdSlot 8) (pure [])) >>= opN tupleV) (consM (bin (op2 addV) (pure (.val (.int (1)))) (callM f__law_draw (consM (rdSlot 0) (consM ((consM (rdSlot 8) (pure [])) >>= opN lenV) (pure []))))) (pure [])))))))))) (seqF ((callM f__law_pick (consM (rdSlot 0) (consM (rdSlot 3) (pure [])))) >>= asgF 9)
    (seqF ((((bin (op2 gtV) ((consM (bin (op2 ixV) (rdSlot 9) (pure (.val (.int (3))))) (pure [])) >>= opN lenV) (pure (.val (.int (0))))) >>= toBl) >>= fun k => if k = true then (pure (.val (.str "arms"))) else (callM f__law_pick (consM (rdSlot 0) (consM (lstM (consM (pure (.val (.str "arms"))) (consM (pure (.val (.str "places"))) (pure [])))) (pure []))))) >>= asgF 10)
    (seqF ((((callM f__law_rare (consM (rdSlot 0) (consM (pure (.val (.int (13)))) (pure [])))) >>= tru) >>= fun k => if k = true then (pure (.val (.int (4)))) else (bin (op2 addV) (pure (.val (.int (1)))) (callM f__law_draw (consM (rdSlot 0) (consM (pure (.val (.int (2)))) (pure [])))))) >>= asgF 11)
    (exprM (appendM 6 (tupM (consM (pure (.val (.str "ways"))) (consM (rdSlot 7) (consM (rdSlot 1) (consM (rdSlot 2) (consM (bin (op2 ixV) (rdSlot 9) (pure (.val (.int (0))))) (consM (rdSlot 11) (consM (rdSlot 10) (pure []))))))))))))))))
    (((consM (rdSlot 6) (pure [])) >>= opN tupleV) >>= retOf)))
noncomputable def f__law_promises : Fn := runD 12 m__law_promises
noncomputable def m__law_work : M Fl :=
    (seqF ((callM f__law_draw (consM (rdSlot 0) (consM (pure (.val (.int (4)))) (pure [])))) >>= asgF 4)
    (seqF ((bin (op2 addV) (pure (.val (.int (1)))) (callM f__law_draw (consM (rdSlot 0) (consM (pure (.val (.int (2)))) (pure []))))) >>= asgF 5)
    (seqF ((callM f__law_takes (consM (rdSlot 0) (consM (rdSlot 2) (consM (pure (.val (.int (2)))) (pure []))))) >>= asgF 6)
    (seqF (((consM (callM f__law_some (consM (rdSlot 0) (consM ((consM (rdSlot 3) (pure [])) >>= opN listV) (consM (pure (.val (.int (2)))) (pure []))))) (pure [])) >>= opN tupleV) >>= asgF 7)
    ((tupM (consM (rdSlot 1) (consM (rdSlot 6) (consM (rdSlot 7) (consM (rdSlot 4) (consM (bin (op2 addV) (rdSlot 4) (callM f__law_draw (consM (rdSlot 0) (consM (pure (.val (.int (3)))) (pure []))))) (consM (rdSlot 5) (consM (bin (op2 addV) (rdSlot 5) (callM f__law_draw (consM (rdSlot 0) (consM (pure (.val (.int (2)))) (pure []))))) (pure []))))))))) >>= retOf)))))
noncomputable def f__law_work : Fn := runD 8 m__law_work
noncomputable def m__law_trouble : M Fl :=
    (seqF ((callM f__law_pick (consM (rdSlot 0) (consM (rdSlot 2) (pure [])))) >>= asgF 5)
    (seqF (ifM ((bin (op2 eqV) (callM f__law_draw (consM (rdSlot 0) (consM (pure (.val (.int (2)))) (pure [])))) (pure (.val (.int (0))))) >>= toBl) ((tupM (consM (rdSlot 1) (consM (rdSlot 5) (consM (bin (op2 addV) (pure (.val (.int (1)))) (callM f__law_draw (consM (rdSlot 0) (consM (pure (.val (.int (2)))) (pure []))))) (consM (tupM (pure [])) (pure [])))))) >>= retOf) (pure .nx))
    (seqF ((callM f__law_takes (consM (rdSlot 0) (consM (rdSlot 3) (consM (pure (.val (.int (2)))) (pure []))))) >>= asgF 6)
    (seqF (((consM (callM f__law_some (consM (rdSlot 0) (consM ((consM (rdSlot 4) (pure [])) >>= opN listV) (consM (pure (.val (.int (1)))) (pure []))))) (pure [])) >>= opN tupleV) >>= asgF 7)
    ((tupM (consM (rdSlot 1) (consM (rdSlot 5) (consM (callM f__law_draw (consM (rdSlot 0) (consM (pure (.val (.int (2)))) (pure [])))) (consM (tupM (consM (rdSlot 6) (consM (rdSlot 7) (consM (pure (.val (.int (1)))) (consM (bin (op2 addV) (pure (.val (.int (1)))) (callM f__law_draw (consM (rdSlot 0) (consM (pure (.val (.int (2)))) (pure []))))) (pure [])))))) (pure [])))))) >>= retOf)))))
noncomputable def f__law_trouble : Fn := runD 8 m__law_trouble
noncomputable def m__law_plan : M Fl :=
    (seqF ((callM f__law_names (consM (rdSlot 0) (consM (bin (op2 addV) (pure (.val (.int (2)))) (callM f__law_draw (consM (rdSlot 0) (consM (pure (.val (.int (4)))) (pure []))))) (pure [])))) >>= asgF 4)
    (seqF ((callM f__law_arms (consM (rdSlot 0) (consM (rdSlot 4) (pure [])))) >>= unpM [5, 6, 7])
    (seqF ((callM f__law_kinds (consM (rdSlot 0) (consM (rdSlot 5) (consM (bin (op2 addV) (pure (.val (.int (1)))) (callM f__law_draw (consM (rdSlot 0) (consM (pure (.val (.int (2)))) (pure []))))) (pure []))))) >>= asgF 8)
    (seqF (((consM (callM f__law_names (consM (rdSlot 0) (consM (callM f__law_draw (consM (rdSlot 0) (consM (pure (.val (.int (4)))) (pure [])))) (pure [])))) (pure [])) >>= opN tupleV) >>= asgF 9)
    (seqF ((callM f__law_names (consM (rdSlot 0) (consM (bin (op2 addV) (rdSlot 1) (rdSlot 2)) (pure [])))) >>= asgF 10)
    (seqF (((consM (sliceM (callM f__law_shuffled (consM (rdSlot 0) (consM (rdSlot 10) (pure [])))) (pure none) (partM (rdSlot 1))) (pure [])) >>= opN sortedV) >>= asgF 11)
    (seqF ((compM ((rdSlot 10) >>= frzIt) [22] (.nm 22) ((bin (op2 ninV) (rdSlot 22) (rdSlot 11)) >>= toBl) (rdSlot 22)) >>= asgF 12)
    (seqF (((consM (compM ((rdSlot 11) >>= frzIt) [22] (.nm 22) (pure true) (callM f__law_work (consM (rdSlot 0) (consM (rdSlot 22) (consM (rdSlot 5) (consM (rdSlot 9) (pure []))))))) (pure [])) >>= opN tupleV) >>= asgF 13)
    (seqF ((tupM (pure [])) >>= asgF 14)
    (seqF (ifM ((bin (op2 gtV) (rdSlot 1) (pure (.val (.int (1))))) >>= toBl) (((consM (compM ((consM (callM f__law_draw (consM (rdSlot 0) (consM (pure (.val (.int (3)))) (pure [])))) (pure [])) >>= rng1) [23] (.nm 23) (pure true) (callM f__law_link (consM (rdSlot 0) (consM (rdSlot 11) (pure []))))) (pure [])) >>= opN tupleV) >>= asgF 14) (pure .nx))
    (seqF ((((bin (op2 gtV) (rdSlot 1) (pure (.val (.int (0))))) >>= toBl) >>= fun k => if k = true then ((consM (compM ((rdSlot 12) >>= frzIt) [22] (.nm 22) (pure true) (callM f__law_trouble (consM (rdSlot 0) (consM (rdSlot 22) (consM (rdSlot 11) (consM (rdSlot 5) (consM (rdSlot 9) (pure [])))))))) (pure [])) >>= opN tupleV) else (tupM (pure []))) >>= asgF 15)
    (seqF ((callM f__law_draw (consM (rdSlot 0) (consM (pure (.val (.int (3)))) (pure [])))) >>= asgF 16)
    (seqF ((tupM (pure [])) >>= asgF 17)
    (seqF (ifM (PD.andM ((bin (op2 gtV) (rdSlot 16) (pure (.val (.int (0))))) >>= toBl) (PD.andM ((bin (op2 gtV) ((consM (rdSlot 15) (pure [])) >>= opN lenV) (pure (.val (.int (0))))) >>= toBl) ((callM f__law_rare (consM (rdSlot 0) (consM (pure (.val (.int (5)))) (pure [])))) >>= tru))) ((tupM (consM (bin (op2 ixV) (callM f__law_pick (consM (rdSlot 0) (consM (rdSlot 15) (pure [])))) (pure (.val (.int (0))))) (pure []))) >>= asgF 17) (pure .nx))
    (seqF ((((callM f__law_rare (consM (rdSlot 0) (consM (pure (.val (.int (3)))) (pure [])))) >>= tru) >>= fun k => if k = true then (callM f__law_draw (consM (rdSlot 0) (consM (pure (.val (.int (6)))) (pure [])))) else (pure (.val (.int (0))))) >>= asgF 18)
    (seqF ((tupM (pure [])) >>= asgF 19)
    (seqF (ifM (PD.andM ((bin (op2 gtV) (rdSlot 1) (pure (.val (.int (0))))) >>= toBl) ((callM f__law_rare (consM (rdSlot 0) (consM (pure (.val (.int (5)))) (pure [])))) >>= tru)) (seqF ((callM f__law_draw (consM (rdSlot 0) (consM (pure (.val (.int (5)))) (pure [])))) >>= asgF 20)
    ((tupM (consM (tupM (consM (callM f__law_pick (consM (rdSlot 0) (consM (rdSlot 11) (pure [])))) (consM (callM f__law_pick (consM (rdSlot 0) (consM (lstM (consM (pure (.val (.str "start"))) (consM (pure (.val (.str "end"))) (pure [])))) (pure [])))) (consM (((callM f__law_draw (consM (rdSlot 0) (consM (pure (.val (.int (2)))) (pure [])))) >>= tru) >>= fun k => if k = true then (pure (.val .none)) else (pure (.val (.int (0))))) (consM (bin (op2 addV) (rdSlot 20) (pure (.val (.int (2))))) (pure [])))))) (pure []))) >>= asgF 19)) (pure .nx))
    (seqF ((callM f__law_promises (consM (rdSlot 0) (consM (rdSlot 6) (consM (rdSlot 7) (consM (rdSlot 8) (consM (rdSlot 9) (consM (rdSlot 3) (pure [])))))))) >>= asgF 21)
    ((tupM (consM (pure (.val (.str "plan"))) (consM ((consM (rdSlot 4) (pure [])) >>= opN tupleV) (consM (rdSlot 5) (consM (rdSlot 8) (consM (rdSlot 9) (consM (rdSlot 13) (consM (rdSlot 14) (consM (rdSlot 15) (consM (rdSlot 16) (consM (rdSlot 17) (consM (rdSlot 18) (consM (rdSlot 19) (consM (rdSlot 21) (pure []))))))))))))))) >>= retOf)))))))))))))))))))
noncomputable def f__law_plan : Fn := runD 24 m__law_plan
end Lw
end

section
set_option Elab.async false
set_option linter.all false
set_option maxRecDepth 100000
set_option maxHeartbeats 4000000
set_option autoImplicit false
namespace Lw
open PySem PySem.Spec L2 PD
open PyProof.Rows hiding St
/-- the draw state -/
def DSt (g : G) : Prop := ∃ (xs : List Int) (i a c : Int), g = some [.list (xs.map .int), .int i, .int a, .int c] ∧ 0 ≤ i
@[simp] theorem absV_i {i : Int} : absV [.dat (.int i)] = some (.val (.int (if i < 0 then -i else i))) := rfl
theorem mulOk_l {i j : Int} (h : -(2 ^ 64) < i ∧ i < 2 ^ 64) : mulOk i j = true := decide_eq_true (.inl h)
theorem mulOk_r {i j : Int} (h : -(2 ^ 64) < j ∧ j < 2 ^ 64) : mulOk i j = true := decide_eq_true (.inr h)
theorem draw_ok {g : G} (h : DSt g) {many : Int} (h1 : 1 ≤ many) (h2 : many < 1073741824) : FnEv f__law_draw [.glob, .val (.int many)] g fun r g' => DSt g' ∧ ∃ k : Int, r = .val (.int k) ∧ 0 ≤ k ∧ k < many := by
  obtain ⟨xs, i, a, c, rfl, hi⟩ := h
  have m0 : 0 < many := by omega
  have mn : many ≠ 0 := by omega
  unfold f__law_draw
  rw [fnEv_run]
  unfold m__law_draw
  refine ev_step fun K hn hr _ _ => ?_
  refine ev_stepI fun K2 ht hf => ?_
  simp [startD, Arg.slot]
  by_cases ha : 0 < a
  · rw [decide_eq_true ha]
    refine ht _ ?_
    refine ev_step fun K3 n3 _ _ _ => ?_
    simp
    refine n3 _ ?_
    refine ev_step fun K4 n4 _ _ _ => ?_
    simp [m0, h2, ixN]
    refine n4 _ ?_
    simp [m0]
    exact hr _ _ ⟨⟨xs, i, _, c, rfl, hi⟩, _, rfl, Int.emod_nonneg _ mn, Int.emod_lt_of_pos _ m0⟩
  · rw [decide_eq_false ha]
    refine hf _ ?_
    simp
    refine hn _ ?_
    refine ev_step fun K3 n3 _ _ _ => ?_
    simp
    refine n3 _ ?_
    refine ev_step fun K5 n5 _ _ _ => ?_
    have key : ∀ (sz : Int) (sl : Slt), K5 .nx { ρ := [.glob, .val (.int many), .no, .val (.int sz), sl], g := some [.list (xs.map .int), .int i, .int a, .int c] } := by
      intro sz sl
      refine n5 _ ?_
      refine ev_step fun K6 n6 _ _ _ => ?_
      simp [ixN]
      refine n6 _ ?_
      refine ev_step fun K7 n7 r7 _ _ => ?_
      refine ev_stepI fun K8 t8 f8 => ?_
      simp [mulOk]
      by_cases hs : 2000000000000000000 ≤ sz
      · rw [decide_eq_true hs]
        refine t8 _ ?_
        refine ev_step fun K3 n3 _ _ _ => ?_
        have p0 : (0 : Int) < 2 ^ 6000 := Int.pow_pos (by decide)
        simp [p0]
        refine n3 _ ?_
        refine ev_step fun K4 n4 _ _ _ => ?_
        simp [m0, h2, ixN]
        refine n4 _ ?_
        simp [m0]
        exact r7 _ _ ⟨⟨xs, i + 1, _, c, rfl, by omega⟩, _, rfl, Int.emod_nonneg _ mn, Int.emod_lt_of_pos _ m0⟩
      · rw [decide_eq_false hs]
        refine f8 _ ?_
        simp
        refine n7 _ ?_
        refine ev_step fun K3 n3 _ _ _ => ?_
        simp [ixN, mulOk]
        refine n3 _ ?_
        simp [m0]
        exact ⟨⟨xs, i + 1, _, _, rfl, by omega⟩, Int.emod_nonneg _ mn, Int.emod_lt_of_pos _ m0⟩
    refine ev_stepI fun K6 t6 f6 => ?_
    simp
    by_cases hx : i < xs.length
    · rw [decide_eq_true hx]
      refine t6 _ ?_
      have hl : i.toNat < xs.length := by omega
      have ex : atI (xs.map PyData.int) i = some (.int xs[i.toNat]) := by
        rw [atI_lt hi (by rw [List.length_map]; exact hx), List.getElem?_map, List.getElem?_eq_getElem hl]
        rfl
      refine ev_step fun K7 n7 _ _ _ => ?_
      simp [ex]
      refine n7 _ ?_
      simp [mulOk]
      exact key _ _
    · rw [decide_eq_false hx]
      refine f6 _ ?_
      simp
      exact key _ _

theorem gOut_of {g g' : G} (h : DSt g) : gOut g g' = g' := by
  obtain ⟨_, _, _, _, rfl, _⟩ := h
  rfl
/-- a row that is handed over -/
inductive RowA : PD.Arg → List D → Prop
  | lst (xs : List D) : RowA (.val (.list xs)) xs
  | tup (xs : List D) : RowA (.val (.tuple xs)) xs
  | bor (xs : List D) : RowA (.bor (.lst xs)) xs
theorem atI_ok {xs : List D} {k : Int} (h0 : 0 ≤ k) (h1 : k < xs.length) : ∃ d, d ∈ xs ∧ atI xs k = some d := by
  have hl : k.toNat < xs.length := by omega
  refine ⟨xs[k.toNat], List.getElem_mem hl, ?_⟩
  rw [atI_lt h0 h1, List.getElem?_eq_getElem hl]
theorem pick_ok {g : G} (h : DSt g) {a : PD.Arg} {xs : List D} (ra : RowA a xs) (h1 : 1 ≤ xs.length) (h2 : xs.length < 1073741824) : FnEv f__law_pick [.glob, a] g fun r g' => DSt g' ∧ ∃ d ∈ xs, r = .val d := by
  unfold f__law_pick
  rw [fnEv_run]
  unfold m__law_pick
  cases ra <;> simp [startD, Arg.slot] <;>
    refine (draw_ok h (by omega) (by omega)).mono ?_ <;>
    rintro r g' ⟨h', k, rfl, k0, k1⟩ <;>
    obtain ⟨d, hd, e⟩ := atI_ok k0 k1 <;>
    simp [e, gOut_of h]
  · exact ⟨h', hd⟩
  · exact ⟨h', hd⟩
  · exact ⟨h', hd⟩
theorem pickS_ok {g : G} (h : DSt g) {z : Str} (h1 : 1 ≤ z.length) (h2 : z.length < 1073741824) (h3 : z.length ≤ sizeLine) : FnEv f__law_pick [.glob, .val (.str z)] g fun r g' => DSt g' ∧ ∃ c ∈ z.cps.toList, r = .val (.str ⟨#[c]⟩) := by
  unfold f__law_pick
  rw [fnEv_run]
  unfold m__law_pick
  simp [startD, Arg.slot, h3]
  refine (draw_ok h (by omega) (by omega)).mono ?_
  rintro r g' ⟨h', k, rfl, k0, k1⟩
  have hl : k.toNat < z.cps.toList.length := by
    have : z.cps.toList.length = z.length := by simp [PySem.Str.length]
    omega
  have e : atI z.cps.toList k = some z.cps.toList[k.toNat] := by
    rw [atI_lt k0 (by have : z.cps.toList.length = z.length := by simp [PySem.Str.length]
                      omega), List.getElem?_eq_getElem hl]
  simp [e, h3, gOut_of h]
  exact h'
theorem rare_ok {g : G} (h : DSt g) {many : Int} (h1 : 1 ≤ many) (h2 : many < 1073741824) : FnEv f__law_rare [.glob, .val (.int many)] g fun r g' => DSt g' ∧ ∃ b : Bool, r = .val (.bool b) := by
  unfold f__law_rare
  rw [fnEv_run]
  unfold m__law_rare
  simp [startD, Arg.slot]
  refine (draw_ok h h1 h2).mono ?_
  rintro r g' ⟨h', k, rfl, k0, k1⟩
  simp [PyData.depth, gOut_of h]
  exact h'

theorem rngD_len (lo hi : Int) : (rngD lo hi).length = (hi - lo).toNat := by unfold rngD; rw [List.length_map, List.length_range]
theorem rngD_at {lo hi : Int} {i : Nat} {d : D} (h : (rngD lo hi)[i]? = some d) : d = .int (lo + i) ∧ i < (hi - lo).toNat := by
  unfold rngD at h
  rw [List.getElem?_map] at h
  cases q : (List.range (hi - lo).toNat)[i]? with
  | none => rw [q] at h; cases h
  | some j =>
    rw [q] at h
    cases h
    obtain ⟨hl, hj⟩ := List.getElem?_eq_some_iff.mp q
    rw [List.getElem_range] at hj
    subst hj
    rw [List.length_range] at hl
    exact ⟨rfl, hl⟩
theorem ixN_nat {n k : Nat} (h : k < n) : ixN n (k : Int) = some k := by
  unfold ixN
  rw [if_pos (by omega), if_pos (by omega)]
  simp
theorem cons_erase_perm : ∀ {l : List D} {k : Nat} (hk : k < l.length), (l[k] :: l.eraseIdx k).Perm l
  | x :: l, 0, _ => List.Perm.refl _
  | x :: l, k + 1, hk => by
    have hk' : k < l.length := by simpa using hk
    exact (List.Perm.swap x (l[k]) _).trans ((cons_erase_perm hk').cons x)
theorem perm_pop {left found xs : List D} {k : Nat} (h : (found ++ left).Perm xs) (hk : k < left.length) : ((found ++ [left[k]]) ++ left.eraseIdx k).Perm xs := by
  refine List.Perm.trans ?_ h
  rw [List.append_assoc]
  refine List.Perm.append_left _ ?_
  exact cons_erase_perm hk
/-- a shuffled row: its own members, each once -/
theorem shuffled_ok {g : G} (h : DSt g) {a : PD.Arg} {xs : List D} (ra : RowA a xs) (h2 : xs.length < 1000000) : FnEv f__law_shuffled [.glob, a] g fun r g' => DSt g' ∧ ∃ ys : List D, r = .new (.lst ys) ∧ ys.Perm xs := by
  unfold f__law_shuffled
  rw [fnEv_run]
  unfold m__law_shuffled
  have hz : xs.length < sizeLine := Nat.lt_of_lt_of_le h2 (by decide)
  refine ev_step fun K hn _ _ _ => ?_
  have body : ∀ sl : Slt, K .nx { ρ := [.glob, sl, .own false (.lst xs), .no, .no], g := g } := by
    intro sl
    refine hn _ ?_
    refine ev_step fun K2 n2 _ _ _ => ?_
    simp
    refine n2 _ ?_
    refine ev_step fun K3 n3 _ _ _ => ?_
    simp
    refine ⟨by omega, ?_⟩
    refine ev_forD _ (fun i s => ∃ (left found : List D) (g' : G) (sl' : Slt), s = { ρ := [.glob, sl, .own false (.lst left), .own false (.lst found), sl'], g := g' } ∧ DSt g' ∧ (found ++ left).Perm xs ∧ left.length + i = xs.length) ⟨xs, [], g, _, rfl, h, List.Perm.refl _, rfl⟩ ?_ ?_
    · rintro i d s hd ⟨left, found, g', sl', rfl, hg, hp, hl⟩
      obtain ⟨rfl, hi⟩ := rngD_at hd
      refine ⟨_, rfl, ?_⟩
      simp
      refine (draw_ok hg (by omega) (by omega)).mono ?_
      rintro r g2 ⟨h', k, rfl, k0, k1⟩
      obtain ⟨k, rfl⟩ := Int.eq_ofNat_of_zero_le k0
      have hk : k < left.length := by omega
      have hfl : found.length + left.length = xs.length := by rw [← List.length_append]; exact hp.length_eq
      simp [ixN_nat hk, List.getElem?_eq_getElem hk]
      refine ⟨by omega, by omega, _, _, g2, ⟨⟨rfl, rfl⟩, rfl⟩, h', ?_, ?_⟩
      · simpa using perm_pop hp hk
      · rw [List.length_eraseIdx_of_lt hk]; omega
    · rintro s ⟨left, found, g', sl', rfl, hg, hp, hl⟩
      rw [rngD_len] at hl
      have e : left = [] := List.eq_nil_of_length_eq_zero (by omega)
      subst e
      rw [List.append_nil] at hp
      refine n3 _ ?_
      simp [gOut_of h]
      exact ⟨hg, hp⟩
  cases ra <;> simp [startD, Arg.slot] <;> exact body _

/-! ### texts that the generators make -/
/-- a text of small size -/
def Sm (n : Nat) (d : D) : Prop := ∃ z : Str, d = .str z ∧ z.length ≤ n
theorem sortD_perm (xs : List D) : (sortD xs).Perm xs := List.mergeSort_perm ..
theorem alike_ss {a b : Str} : PySem.W.alike (.str a) (.str b) = true := rfl
theorem sort_strs {xs : List D} (h : ∀ d ∈ xs, ∃ z : Str, d = .str z) : sortOk xs = true := by
  unfold sortOk
  simp only [Bool.and_eq_true, List.all_eq_true, Bool.or_eq_true, decide_eq_true_eq]
  refine ⟨⟨fun d hd e he => ?_, .inr fun d hd => ?_⟩, fun d hd => ?_⟩
  · obtain ⟨a, rfl⟩ := h d hd
    obtain ⟨b, rfl⟩ := h e he
    rfl
  · obtain ⟨a, rfl⟩ := h d hd
    rfl
  · obtain ⟨a, rfl⟩ := h d hd
    simp [PyData.depth]
theorem some_ok {g : G} (h : DSt g) {a : PD.Arg} {xs : List D} (ra : RowA a xs) {most : Int} (h1 : 0 ≤ most) (h2 : xs.length < 1000000) (hs : ∀ ys : List D, (∀ d ∈ ys, d ∈ xs) → sortOk ys = true) :
    FnEv f__law_some [.glob, a, .val (.int most)] g fun r g' => DSt g' ∧ ∃ ys : List D, r = .new (.lst ys) ∧ (∀ d ∈ ys, d ∈ xs) ∧ (ys.length : Int) ≤ most ∧ ys.length ≤ xs.length := by
  unfold f__law_some
  rw [fnEv_run]
  unfold m__law_some
  cases ra <;> simp [startD, Arg.slot] <;> refine (shuffled_ok h (by constructor) h2).mono ?_ <;> rintro r g1 ⟨h', ys, rfl, hp⟩ <;> simp <;>
    refine (draw_ok h' (by split <;> omega) (by split <;> omega)).mono ?_ <;> rintro r g2 ⟨h'', k, rfl, k0, k1⟩ <;>
    have hso : sortOk (ys.take k.toNat) = true := hs _ fun d hd => hp.mem_iff.mp (List.mem_of_mem_take hd)
  all_goals
    simp [cutL_to k0, gOut_of h, hso]
    refine ⟨h'', fun d hd => hp.mem_iff.mp (List.mem_of_mem_take ((sortD_perm _).mem_iff.mp hd)), ?_⟩
    rw [(sortD_perm _).length_eq, List.length_take, hp.length_eq]
    split at k1 <;> omega

theorem letters_len : (PySem.Str.ofString "abcdefghijklmnopqrstuvwxyz").length = 26 := by decide +kernel
theorem str_append_len (a b : Str) : (a ++ b).length = a.length + b.length := by
  show (a.cps ++ b.cps).size = _
  rw [Array.size_append]
  rfl
/-- names: many texts of at most 8 signs -/
theorem names_ok {g : G} (h : DSt g) {many : Int} (h1 : 0 ≤ many) (h2 : many ≤ 26) : FnEv f__law_names [.glob, .val (.int many)] g fun r g' => DSt g' ∧ ∃ ys : List D, r = .new (.lst ys) ∧ (∀ d ∈ ys, Sm 8 d) ∧ (ys.length : Int) = many := by
  unfold f__law_names
  rw [fnEv_run]
  unfold m__law_names
  refine ev_step fun K n _ _ _ => ?_
  simp [startD, Arg.slot]
  refine n _ ?_
  refine ev_step fun K2 n2 _ _ _ => ?_
  simp
  refine ⟨by decide, n2 _ ?_⟩
  refine ev_step fun K3 n3 _ _ _ => ?_
  simp
  generalize hst : (if 1 < many then many else 1) = mx
  have mx1 : 1 ≤ mx ∧ mx ≤ 26 ∧ many ≤ mx := by
    subst hst
    split <;> omega
  have s1 : 1 ≤ 26 / mx := by
    exact Int.le_ediv_of_mul_le (by omega) (by omega)
  have s2 : mx * (26 / mx) ≤ 26 := by
    have := Int.mul_ediv_self_le (x := 26) (k := mx) (by omega)
    exact this
  have s3 : 26 / mx ≤ 26 := Int.ediv_le_self _ (by omega)
  refine ⟨by omega, n3 _ ?_⟩
  generalize 26 / mx = step at s1 s2 s3 ⊢
  refine ev_step fun K4 n4 _ _ _ => ?_
  simp
  refine n4 _ ?_
  refine ev_step fun K5 n5 _ _ _ => ?_
  simp
  refine ⟨by omega, ?_⟩
  obtain ⟨Inv, hI⟩ : ∃ Inv : Nat → Sg → Prop, Inv = fun i s => ∃ (found : List D) (g' : G) (sl' : Slt) (z : Str), s = { ρ := [.glob, .val (.int many), .val (.str "abcdefghijklmnopqrstuvwxyz"), .val (.list [.str "", .str "", .str "0", .str "b", .str "z9", .str "long3", .str "a1b2c3d"]), .val (.int step), .own false (.lst found), sl'], g := g' } ∧ DSt g' ∧ (∀ d ∈ found, Sm 8 d) ∧ found.length = i := ⟨_, rfl⟩
  refine ev_forD _ Inv ?_ ?_ ?_
  · rw [hI]
    exact ⟨[], g, _, "", rfl, h, (fun d hd => by cases hd), rfl⟩
  · intro i d s hd hs
    rw [hI] at hs
    obtain ⟨found, g', sl', z, rfl, hg, hf, hl⟩ := hs
    obtain ⟨rfl, hi⟩ := rngD_at hd
    refine ⟨_, rfl, ?_⟩
    have hi' : (i : Int) < many := by omega
    have hm : mulOk (i : Int) step = true := mulOk_l ⟨by omega, by omega⟩
    simp [hm]
    refine (draw_ok hg s1 (by omega)).mono ?_
    rintro r g1 ⟨hg1, k, rfl, k0, k1⟩
    have b1 : (i : Int) * step + k < 26 := by
      have : ((i : Int) + 1) * step ≤ mx * step := Int.mul_le_mul_of_nonneg_right (by omega) (by omega)
      rw [Int.add_mul, Int.one_mul] at this
      omega
    have b0 : 0 ≤ (i : Int) * step + k := by
      have : 0 ≤ (i : Int) * step := Int.mul_nonneg (by omega) (by omega)
      omega
    obtain ⟨c, hc⟩ : ∃ c, atI (PySem.Str.ofString "abcdefghijklmnopqrstuvwxyz").cps.toList ((i : Int) * step + k) = some c := by
      have hl : (PySem.Str.ofString "abcdefghijklmnopqrstuvwxyz").cps.toList.length = 26 := by decide +kernel
      have hk : ((i : Int) * step + k).toNat < (PySem.Str.ofString "abcdefghijklmnopqrstuvwxyz").cps.toList.length := by rw [hl]; omega
      exact ⟨_, by rw [atI_lt b0 (by rw [hl]; omega), List.getElem?_eq_getElem hk]⟩
    have hz : (PySem.Str.ofString "abcdefghijklmnopqrstuvwxyz").length ≤ sizeLine := by rw [letters_len]; decide
    simp [hc, hz]
    refine (pick_ok hg1 (.lst _) (by decide) (by decide)).mono ?_
    rintro r g2 ⟨hg2, d, hd, rfl⟩
    have hd' : Sm 7 d := by
      simp only [List.mem_cons, List.not_mem_nil, or_false] at hd
      rcases hd with rfl | rfl | rfl | rfl | rfl | rfl | rfl <;> exact ⟨_, rfl, by decide +kernel⟩
    obtain ⟨t, rfl, ht⟩ := hd'
    have hs1 : (⟨#[c]⟩ : Str).length = 1 := rfl
    simp [hs1]
    have e8 : 1 + t.length ≤ sizeLine := Nat.le_trans (by omega : 1 + t.length ≤ 8) (by decide)
    refine ⟨e8, Nat.lt_of_le_of_lt (by omega : found.length ≤ 26) (by decide), ?_⟩
    rw [hI]
    refine ⟨_, g2, _, "", rfl, hg2, ?_, by rw [List.length_append, hl]; rfl⟩
    intro d hd
    rcases List.mem_append.mp hd with hd | hd
    · exact hf d hd
    · rw [List.mem_singleton] at hd
      exact ⟨_, hd, by rw [str_append_len, hs1]; omega⟩
  · intro s hs
    rw [hI] at hs
    obtain ⟨found, g', sl', z, rfl, hg, hf, hl⟩ := hs
    rw [rngD_len] at hl
    refine n5 _ ?_
    simp [gOut_of h]
    exact ⟨hg, hf, by omega⟩
end Lw
end

section
set_option Elab.async false
set_option linter.all false
set_option maxRecDepth 100000
set_option maxHeartbeats 4000000
set_option autoImplicit false
namespace Lw
open PySem PySem.Spec L2 PD
open PyProof.Rows hiding St
/-! ### the shapes of a plan's parts, with small sizes -/
def Ib (d : D) : Prop := ∃ i : Int, d = .int i ∧ -1000000 ≤ i ∧ i ≤ 1000000
def Bnd (d : D) : Prop := d = .none ∨ Ib d
def Arr (P : D → Prop) (d : D) : Prop := ∃ xs, d = .tuple xs ∧ xs.length ≤ 20 ∧ ∀ x ∈ xs, P x
def PairT (d : D) : Prop := ∃ a b, d = .tuple [a, b] ∧ Sm 8 a ∧ Sm 8 b
def ArmT (d : D) : Prop := ∃ a b c i j k, d = .tuple [a, b, c, i, j, k] ∧ (Sm 8 a ∧ Sm 8 b ∧ Sm 8 c) ∧ Ib i ∧ Ib j ∧ Ib k
def KindT (d : D) : Prop := ∃ a i j p, d = .tuple [a, i, j, p] ∧ Sm 8 a ∧ Ib i ∧ Ib j ∧ Arr PairT p
def TakeT (d : D) : Prop := ∃ a i b, d = .tuple [a, i, b] ∧ Sm 8 a ∧ Ib i ∧ Sm 8 b
def WorkT (d : D) : Prop := ∃ a t c i j k l, d = .tuple [a, t, c, i, j, k, l] ∧ Sm 8 a ∧ (Arr TakeT t ∧ Arr (Sm 8) c) ∧ Ib i ∧ Ib j ∧ Ib k ∧ Ib l
def LinkT (d : D) : Prop := ∃ a b c e x y, d = .tuple [a, b, c, e, x, y] ∧ (Sm 8 a ∧ Sm 8 b ∧ Sm 8 c ∧ Sm 8 e) ∧ Bnd x ∧ Bnd y
def FindT (d : D) : Prop := d = .tuple [] ∨ ∃ t c i j, d = .tuple [t, c, i, j] ∧ (Arr TakeT t ∧ Arr (Sm 8) c) ∧ Ib i ∧ Ib j
def TroubleT (d : D) : Prop := ∃ a b i f, d = .tuple [a, b, i, f] ∧ (Sm 8 a ∧ Sm 8 b) ∧ Ib i ∧ FindT f
def MarkT (d : D) : Prop := ∃ a b x y, d = .tuple [a, b, x, y] ∧ (Sm 8 a ∧ Sm 8 b) ∧ Bnd x ∧ Bnd y
def PromT (d : D) : Prop := (∃ a f i, d = .tuple [.str "feeds", a, f, i] ∧ Sm 8 a ∧ Arr (Sm 8) f ∧ Ib i) ∨ ∃ a b c e i f, d = .tuple [.str "ways", a, b, c, e, i, f] ∧ (Sm 8 a ∧ Sm 8 b ∧ Sm 8 c ∧ Sm 8 e) ∧ Ib i ∧ Sm 8 f
def PlanT (d : D) : Prop := ∃ p1 p2 p3 p4 p5 p6 p7 p8 p9 p10 p11 p12, d = .tuple [.str "plan", p1, p2, p3, p4, p5, p6, p7, p8, p9, p10, p11, p12] ∧
  (Arr (Sm 8) p1 ∧ Arr ArmT p2 ∧ Arr KindT p3 ∧ Arr (Sm 8) p4 ∧ Arr WorkT p5 ∧ Arr LinkT p6 ∧ Arr TroubleT p7 ∧ Ib p8 ∧ Arr (Sm 8) p9 ∧ Ib p10 ∧ Arr MarkT p11 ∧ Arr PromT p12)
theorem ib {i : Int} (h : -1000000 ≤ i) (h2 : i ≤ 1000000) : Ib (.int i) := ⟨i, rfl, h, h2⟩
theorem sm_end : Sm 8 (.str "end") := ⟨_, rfl, by decide +kernel⟩
theorem sm_start : Sm 8 (.str "start") := ⟨_, rfl, by decide +kernel⟩
theorem link_ok {g : G} (h : DSt g) {ns : List D} (h1 : 2 ≤ ns.length) (h2 : ns.length < 1000) (hs : ∀ d ∈ ns, Sm 8 d) : FnEv f__law_link [.glob, .val (.list ns)] g fun r g' => DSt g' ∧ ∃ d, r = .val d ∧ LinkT d := by
  unfold f__law_link
  rw [fnEv_run]
  unfold m__law_link
  refine ev_step fun K n _ _ _ => ?_
  simp [startD, Arg.slot]
  refine (shuffled_ok h (.lst _) (by omega)).mono ?_
  rintro r g1 ⟨hg1, ys, rfl, hp⟩
  have hy : 2 ≤ ys.length := by rw [hp.length_eq]; exact h1
  match ys, hy, hp with
  | a :: b :: ys, _, hp =>
  have ha : Sm 8 a := hs a (hp.mem_iff.mp (by simp))
  have hb : Sm 8 b := hs b (hp.mem_iff.mp (by simp))
  simp [cutL_to]
  refine n _ ?_
  refine ev_step fun K2 n2 _ _ _ => ?_
  simp
  refine (draw_ok hg1 (by decide) (by decide)).mono ?_
  rintro r g2 ⟨hg2, mode, rfl, m0, m1⟩
  simp
  refine n2 _ ?_
  refine ev_step fun K3 n3 r3 _ _ => ?_
  refine ev_stepI fun K4 t4 f4 => ?_
  simp [PyData.depth, PyData.eqv]
  by_cases e0 : mode = 0
  · subst e0
    refine t4 _ ?_
    simp
    refine (draw_ok hg2 (by decide) (by decide)).mono ?_
    rintro r g3 ⟨hg3, k, rfl, k0, k1⟩
    simp
    refine ⟨by decide, r3 _ _ ?_⟩
    simp [gOut_of h]
    exact ⟨hg3, _, _, _, _, _, _, rfl, ⟨ha, sm_end, hb, sm_start⟩, .inr (ib (by omega) (by omega)), .inl rfl⟩
  · rw [show (mode == 0) = false from beq_eq_false_iff_ne.mpr e0]
    refine f4 _ ?_
    simp
    refine n3 _ ?_
    refine ev_step fun K5 n5 r5 _ _ => ?_
    refine ev_stepI fun K6 t6 f6 => ?_
    simp [PyData.depth, PyData.eqv]
    by_cases e1 : mode = 1
    · subst e1
      refine t6 _ ?_
      simp
      refine (draw_ok hg2 (by decide) (by decide)).mono ?_
      rintro r g3 ⟨hg3, k, rfl, k0, k1⟩
      simp
      refine ⟨by decide, r5 _ _ ?_⟩
      simp [gOut_of h]
      exact ⟨hg3, _, _, _, _, _, _, rfl, ⟨ha, sm_start, hb, sm_start⟩, .inr (ib (by omega) (by omega)), .inr (ib (by omega) (by omega))⟩
    · rw [show (mode == 1) = false from beq_eq_false_iff_ne.mpr e1]
      refine f6 _ ?_
      simp
      refine n5 _ ?_
      refine ev_step fun K7 n7 _ _ _ => ?_
      simp
      refine (draw_ok hg2 (by decide) (by decide)).mono ?_
      rintro r g3 ⟨hg3, low, rfl, k0, k1⟩
      simp
      refine n7 _ ?_
      refine ev_step fun K8 n8 _ _ _ => ?_
      simp
      refine ⟨by rw [rngD_len]; decide, ?_⟩
      obtain ⟨J, hJ⟩ : ∃ J : Nat → List D → G → Prop, J = fun i acc g => DSt g ∧ acc.length = i ∧ ∀ d ∈ acc, Sm 8 d := ⟨_, rfl⟩
      refine ev_elems _ J ?_ ?_ ?_
      · rw [hJ]; exact ⟨hg3, rfl, fun d hd => (by cases hd)⟩
      · intro i d acc g4 hd hj
        rw [hJ] at hj
        obtain ⟨hg4, hl, hacc⟩ := hj
        refine ⟨_, rfl, ?_⟩
        simp [wipeρ, Slt.lock]
        refine ⟨by decide, ?_⟩
        refine (pick_ok hg4 (.lst _) (by decide) (by decide)).mono ?_
        rintro r g5 ⟨hg5, d, hd, rfl⟩
        simp
        rw [hJ]
        refine ⟨hg5, by rw [List.length_append, hl]; rfl, fun e he => ?_⟩
        rcases List.mem_append.mp he with he | he
        · exact hacc e he
        · rw [List.mem_singleton] at he
          subst he
          simp only [List.mem_cons, List.not_mem_nil, or_false] at hd
          rcases hd with rfl | rfl
          · exact sm_start
          · exact sm_end
      · intro acc g4 hj
        rw [hJ, rngD_len] at hj
        obtain ⟨hg4, hl, hacc⟩ := hj
        match acc, hl, hacc with
        | [x, y], _, hacc =>
        have hx : Sm 8 x := hacc x (by simp)
        have hy : Sm 8 y := hacc y (by simp)
        simp
        refine n8 _ ?_
        refine ev_step fun K9 n9 r9 _ _ => ?_
        refine ev_stepI fun K10 t10 f10 => ?_
        simp [PyData.depth, PyData.eqv]
        by_cases e2 : mode = 2
        · subst e2
          refine t10 _ ?_
          simp
          refine (draw_ok hg4 (by decide) (by decide)).mono ?_
          rintro r g6 ⟨hg6, k, rfl, k2, k3⟩
          simp
          refine ⟨by decide, r9 _ _ ?_⟩
          simp [gOut_of h]
          exact ⟨hg6, _, _, _, _, _, _, rfl, ⟨ha, hx, hb, hy⟩, .inr (ib (by omega) (by omega)), .inr (ib (by omega) (by omega))⟩
        · rw [show (mode == 2) = false from beq_eq_false_iff_ne.mpr e2]
          refine f10 _ ?_
          simp
          refine n9 _ ?_
          simp [gOut_of h]
          exact ⟨by decide, hg4, _, _, _, _, _, _, rfl, ⟨ha, hx, hb, hy⟩, .inl rfl, .inr (ib (by omega) (by omega))⟩

theorem mem_snoc {xs : List D} {y d : D} {P : D → Prop} (h : ∀ d ∈ xs, P d) (hy : P y) (hd : d ∈ xs ++ [y]) : P d := by
  rcases List.mem_append.mp hd with hd | hd
  · exact h d hd
  · rw [List.mem_singleton] at hd
    rw [hd]
    exact hy
theorem sm_strs {n : Nat} {xs : List D} (h : ∀ d ∈ xs, Sm n d) : sortOk xs = true := sort_strs fun d hd => by
  obtain ⟨z, rfl, _⟩ := h d hd
  exact ⟨z, rfl⟩
theorem takes_ok {g : G} (h : DSt g) {arms : List D} {most : Int} (h0 : 0 ≤ most) (h1 : most ≤ 20) (h2 : arms.length < 1000) (hs : ∀ d ∈ arms, ArmT d) : FnEv f__law_takes [.glob, .val (.tuple arms), .val (.int most)] g fun r g' => DSt g' ∧ ∃ d, r = .val d ∧ Arr TakeT d := by
  unfold f__law_takes
  rw [fnEv_run]
  unfold m__law_takes
  refine ev_step fun K n _ _ _ => ?_
  simp [startD, Arg.slot]
  refine ⟨Nat.le_trans (by omega : arms.length ≤ 1000) (by decide), ?_⟩
  refine ev_elems _ (fun i acc g' => g' = g ∧ acc.length = i ∧ ∀ d ∈ acc, Sm 8 d) ⟨rfl, rfl, fun d hd => (by cases hd)⟩ ?_ ?_
  · rintro i d acc g4 hd ⟨rfl, hl, hacc⟩
    obtain ⟨a, b, c, x, y, z, rfl, ⟨ha, _⟩, _⟩ := hs d (List.mem_of_getElem? hd)
    refine ⟨_, rfl, ?_⟩
    simp [wipeρ, Slt.lock]
    exact ⟨hl, fun e he => he.elim (fun he => hacc e he) fun he => he ▸ ha⟩
  · rintro acc g4 ⟨rfl, hl, hacc⟩
    simp
    refine (some_ok h (.lst _) h0 (by omega) fun ys hy => sm_strs fun d hd => hacc d (hy d hd)).mono ?_
    rintro r g1 ⟨hg1, ys, rfl, hy, hlen, _⟩
    simp
    refine n _ ?_
    simp
    refine ⟨Nat.le_trans (by omega : ys.length ≤ 20) (by decide), ?_⟩
    obtain ⟨J, hJ⟩ : ∃ J : Nat → List D → G → Prop, J = fun i acc g => DSt g ∧ acc.length = i ∧ ∀ d ∈ acc, TakeT d := ⟨_, rfl⟩
    refine ev_elems _ J ?_ ?_ ?_
    · rw [hJ]; exact ⟨hg1, rfl, fun d hd => (by cases hd)⟩
    · intro i d acc2 g2 hd hj
      rw [hJ] at hj
      obtain ⟨hg2, hl2, hacc2⟩ := hj
      have hd' : Sm 8 d := hacc d (hy d (List.mem_of_getElem? hd))
      refine ⟨_, rfl, ?_⟩
      simp [wipeρ, Slt.lock]
      refine (draw_ok hg2 (by decide) (by decide)).mono ?_
      rintro r g3 ⟨hg3, k, rfl, k0, k1⟩
      simp
      refine ⟨by decide, ?_⟩
      refine (pick_ok hg3 (.lst _) (by decide) (by decide)).mono ?_
      rintro r g4 ⟨hg4, t, ht, rfl⟩
      simp
      refine ⟨by decide, ?_⟩
      rw [hJ]
      refine ⟨hg4, by rw [List.length_append, hl2]; rfl, fun e he => mem_snoc hacc2 ⟨d, _, t, rfl, hd', ib (by omega) (by omega), ?_⟩ he⟩
      simp only [List.mem_cons, List.not_mem_nil, or_false] at ht
      rcases ht with rfl | rfl | rfl | rfl <;> exact ⟨_, rfl, by decide +kernel⟩
    · intro acc2 g2 hj
      rw [hJ] at hj
      obtain ⟨hg2, hl2, hacc2⟩ := hj
      simp [gOut_of h]
      exact ⟨hg2, acc2, rfl, by omega, hacc2⟩
theorem work_ok {g : G} (h : DSt g) {name : D} {arms feeds : List D} (hn : Sm 8 name) (h2 : arms.length < 1000) (hs : ∀ d ∈ arms, ArmT d) (h3 : feeds.length < 1000) (hf : ∀ d ∈ feeds, Sm 8 d) :
    FnEv f__law_work [.glob, .val name, .val (.tuple arms), .val (.tuple feeds)] g fun r g' => DSt g' ∧ ∃ d, r = .val d ∧ WorkT d := by
  unfold f__law_work
  rw [fnEv_run]
  unfold m__law_work
  refine ev_step fun K n _ _ _ => ?_
  simp [startD, Arg.slot]
  refine (draw_ok h (by decide) (by decide)).mono ?_
  rintro r g1 ⟨hg1, k1, rfl, a1, b1⟩
  simp
  refine n _ ?_
  refine ev_step fun K n _ _ _ => ?_
  simp
  refine (draw_ok hg1 (by decide) (by decide)).mono ?_
  rintro r g2 ⟨hg2, k2, rfl, a2, b2⟩
  simp
  refine n _ ?_
  refine ev_step fun K n _ _ _ => ?_
  simp
  refine (takes_ok hg2 (by decide) (by decide) h2 hs).mono ?_
  rintro r g3 ⟨hg3, t, rfl, ht⟩
  simp
  refine n _ ?_
  refine ev_step fun K n _ _ _ => ?_
  simp
  refine (some_ok hg3 (.lst _) (by decide) (by omega) fun ys hy => sm_strs fun d hd => hf d (hy d hd)).mono ?_
  rintro r g4 ⟨hg4, cs, rfl, hc, hcl, _⟩
  simp
  refine n _ ?_
  simp
  refine (draw_ok hg4 (by decide) (by decide)).mono ?_
  rintro r g5 ⟨hg5, k5, rfl, a5, b5⟩
  simp
  refine (draw_ok hg5 (by decide) (by decide)).mono ?_
  rintro r g6 ⟨hg6, k6, rfl, a6, b6⟩
  simp [gOut_of h]
  exact ⟨by decide, hg6, _, _, _, _, _, _, _, rfl, hn, ⟨ht, cs, rfl, by omega, fun d hd => hf d (hc d hd)⟩, ib (by omega) (by omega), ib (by omega) (by omega), ib (by omega) (by omega), ib (by omega) (by omega)⟩
theorem trouble_ok {g : G} (h : DSt g) {name : D} {ns arms feeds : List D} (hn : Sm 8 name) (h1 : 1 ≤ ns.length) (h12 : ns.length < 1000) (hns : ∀ d ∈ ns, Sm 8 d) (h2 : arms.length < 1000) (hs : ∀ d ∈ arms, ArmT d) (h3 : feeds.length < 1000) (hf : ∀ d ∈ feeds, Sm 8 d) :
    FnEv f__law_trouble [.glob, .val name, .val (.list ns), .val (.tuple arms), .val (.tuple feeds)] g fun r g' => DSt g' ∧ ∃ d, r = .val d ∧ TroubleT d := by
  unfold f__law_trouble
  rw [fnEv_run]
  unfold m__law_trouble
  refine ev_step fun K n _ _ _ => ?_
  simp [startD, Arg.slot]
  refine (pick_ok h (.lst _) h1 (by omega)).mono ?_
  rintro r g1 ⟨hg1, w, hw, rfl⟩
  simp
  refine n _ ?_
  refine ev_step fun K n r0 _ _ => ?_
  refine ev_stepI fun K2 t2 f2 => ?_
  simp
  refine (draw_ok hg1 (by decide) (by decide)).mono ?_
  rintro r g2 ⟨hg2, k2, rfl, a2, b2⟩
  simp [PyData.depth, PyData.eqv]
  by_cases e : k2 = 0
  · subst e
    refine t2 _ ?_
    simp
    refine (draw_ok hg2 (by decide) (by decide)).mono ?_
    rintro r g3 ⟨hg3, k3, rfl, a3, b3⟩
    simp
    refine ⟨by decide, r0 _ _ ?_⟩
    simp [gOut_of h]
    exact ⟨hg3, _, _, _, _, rfl, ⟨hn, hns _ hw⟩, ib (by omega) (by omega), .inl rfl⟩
  · rw [show (k2 == 0) = false from beq_eq_false_iff_ne.mpr e]
    refine f2 _ ?_
    simp
    refine n _ ?_
    refine ev_step fun K n _ _ _ => ?_
    simp
    refine (takes_ok hg2 (by decide) (by decide) h2 hs).mono ?_
    rintro r g3 ⟨hg3, t, rfl, ht⟩
    simp
    refine n _ ?_
    refine ev_step fun K n _ _ _ => ?_
    simp
    refine (some_ok hg3 (.lst _) (by decide) (by omega) fun ys hy => sm_strs fun d hd => hf d (hy d hd)).mono ?_
    rintro r g4 ⟨hg4, cs, rfl, hc, hcl, _⟩
    simp
    refine n _ ?_
    simp
    refine (draw_ok hg4 (by decide) (by decide)).mono ?_
    rintro r g5 ⟨hg5, k5, rfl, a5, b5⟩
    simp
    refine (draw_ok hg5 (by decide) (by decide)).mono ?_
    rintro r g6 ⟨hg6, k6, rfl, a6, b6⟩
    simp [gOut_of h]
    exact ⟨by decide, hg6, _, _, _, _, rfl, ⟨hn, hns _ hw⟩, ib (by omega) (by omega), .inr ⟨_, _, _, _, rfl, ⟨ht, cs, rfl, by omega, fun d hd => hf d (hc d hd)⟩, ib (by omega) (by omega), ib (by omega) (by omega)⟩⟩
end Lw
end

section
set_option Elab.async false
set_option linter.all false
set_option maxRecDepth 100000
set_option maxHeartbeats 4000000
set_option autoImplicit false
namespace Lw
open PySem PySem.Spec L2 PD
open PyProof.Rows hiding St
theorem sort_pairs {xs : List D} (h : ∀ d ∈ xs, PairT d) : sortOk xs = true := by
  unfold sortOk
  simp only [Bool.and_eq_true, List.all_eq_true, Bool.or_eq_true, decide_eq_true_eq]
  refine ⟨⟨fun d hd e he => ?_, .inl fun d hd => ?_⟩, fun d hd => ?_⟩
  · obtain ⟨a, b, rfl, ⟨z, rfl, _⟩, y, rfl, _⟩ := h d hd
    obtain ⟨a', b', rfl, ⟨z', rfl, _⟩, y', rfl, _⟩ := h e he
    rfl
  · obtain ⟨a, b, rfl, ⟨z, rfl, _⟩, y, rfl, _⟩ := h d hd
    rfl
  · obtain ⟨a, b, rfl, ⟨z, rfl, _⟩, y, rfl, _⟩ := h d hd
    simp [PyData.depth, PyData.depthAll]
theorem kinds_ok {g : G} (h : DSt g) {arms : List D} {many : Int} (h0 : 0 ≤ many) (h1 : many ≤ 20) (h2 : arms.length ≤ 20) (hs : ∀ d ∈ arms, ArmT d) :
    FnEv f__law_kinds [.glob, .val (.tuple arms), .val (.int many)] g fun r g' => DSt g' ∧ ∃ ks : List D, r = .val (.tuple ks) ∧ (ks.length : Int) = many ∧ ∀ d ∈ ks, KindT d := by
  unfold f__law_kinds
  rw [fnEv_run]
  unfold m__law_kinds
  refine ev_step fun K n _ _ _ => ?_
  simp [startD, Arg.slot]
  refine n _ ?_
  refine ev_step fun K2 n2 _ _ _ => ?_
  simp
  obtain ⟨Inv, hI⟩ : ∃ Inv : Nat → Sg → Prop, Inv = fun i s => ∃ (js : List D) (sl : Slt), s = { ρ := [.glob, .val (.tuple arms), .val (.int many), .val (.list js), sl, .no, .no, .no, .no], g := g } ∧ (∀ d ∈ js, PairT d) ∧ js.length ≤ i * 20 ∧ i ≤ arms.length := ⟨_, rfl⟩
  refine ev_forD _ Inv ?_ ?_ ?_
  · rw [hI]
    exact ⟨[], _, rfl, (fun d hd => by cases hd), Nat.zero_le _, Nat.zero_le _⟩
  · intro i d s hd hI1
    rw [hI] at hI1
    obtain ⟨js, sl, rfl, hj, hl, hi⟩ := hI1
    have hi2 : i < arms.length := (List.getElem?_eq_some_iff.mp hd).1
    obtain ⟨a, b, c, x, y, z, rfl, ⟨ha, hb, hc⟩, _⟩ := hs d (List.mem_of_getElem? hd)
    refine ⟨_, rfl, ?_⟩
    simp
    refine ⟨Nat.le_trans (by omega : arms.length ≤ 1000) (by decide), ?_⟩
    refine ev_elems _ (fun i acc g' => g' = g ∧ acc.length ≤ i ∧ ∀ d ∈ acc, PairT d) ⟨rfl, Nat.le_refl _, fun d hd => (by cases hd)⟩ ?_ ?_
    · rintro i2 d2 acc g4 hd2 ⟨rfl, hl2, hacc⟩
      obtain ⟨a', b', c', x', y', z', rfl, ⟨⟨ta, rfl, hta⟩, ⟨tb, rfl, htb⟩, _⟩, _⟩ := hs d2 (List.mem_of_getElem? hd2)
      obtain ⟨tc, rfl, htc⟩ := hc
      refine ⟨_, rfl, ?_⟩
      simp [wipeρ, Slt.lock, PyData.depth]
      have pt : PairT (.tuple [a, .str ta]) := ⟨_, _, rfl, ha, _, rfl, hta⟩
      cases hq : PyData.eqv (.str tc) (.str tb) with
      | true =>
        rw [if_pos rfl]
        refine ⟨by decide, by omega, fun e he => ?_⟩
        rcases he with he | he
        · exact hacc e he
        · subst he; exact pt
      | false =>
        rw [if_neg Bool.false_ne_true]
        exact ⟨by omega, hacc⟩
    · rintro acc g4 ⟨rfl, hl2, hacc⟩
      simp
      refine ⟨Nat.le_trans (by omega : js.length + acc.length ≤ 1000) (by decide), ?_⟩
      rw [hI]
      refine ⟨_, _, rfl, fun d hd => ?_, by rw [List.length_append]; omega, by omega⟩
      rcases List.mem_append.mp hd with hd | hd
      · exact hj d hd
      · exact hacc d hd
  · intro s hI1
    rw [hI] at hI1
    obtain ⟨js, sl, rfl, hj, hl, hi⟩ := hI1
    refine n2 _ ?_
    refine ev_step fun K3 n3 _ _ _ => ?_
    simp
    refine n3 _ ?_
    refine ev_step fun K4 n4 _ _ _ => ?_
    simp
    refine (names_ok h h0 (by omega)).mono ?_
    rintro r g1 ⟨hg1, ns, rfl, hns, hlen⟩
    simp
    obtain ⟨Inv2, hI2⟩ : ∃ Inv2 : Nat → Sg → Prop, Inv2 = fun i s => ∃ (found : List D) (g' : G) (s6 s7 : Slt), s = { ρ := [.glob, .val (.tuple arms), .val (.int many), .val (.list js), sl, .own false (.lst found), s6, s7, .no], g := g' } ∧ DSt g' ∧ (∀ d ∈ found, KindT d) ∧ found.length = i := ⟨_, rfl⟩
    refine ev_forD _ Inv2 ?_ ?_ ?_
    · rw [hI2]
      exact ⟨[], g1, _, _, rfl, hg1, (fun d hd => by cases hd), rfl⟩
    · intro i d s hd hI1
      rw [hI2] at hI1
      obtain ⟨found, g2, s6, s7, rfl, hg2, hf, hfl⟩ := hI1
      have hd' := hns d (List.mem_of_getElem? hd)
      have hil : i < ns.length := (List.getElem?_eq_some_iff.mp hd).1
      refine ⟨_, rfl, ?_⟩
      refine ev_step fun K5 n5 _ _ _ => ?_
      have rest : ∀ (bar : List D) (g3 : G), DSt g3 → bar.length ≤ 20 → (∀ d ∈ bar, PairT d) → K5 .nx { ρ := [.glob, .val (.tuple arms), .val (.int many), .val (.list js), sl, .own false (.lst found), .val d, .val (.tuple bar), .no], g := g3 } := by
        intro bar g3 hg3 hb1 hb2
        refine n5 _ ?_
        simp
        refine (rare_ok hg3 (by decide) (by decide)).mono ?_
        rintro r g4 ⟨hg4, b, rfl⟩
        simp
        cases b
        all_goals
          simp
          refine ⟨by decide, ?_⟩
          refine (pick_ok hg4 (.lst _) (by decide) (by decide)).mono ?_
          rintro r g5 ⟨hg5, t, ht, rfl⟩
          simp
          refine ⟨by decide, Nat.lt_of_le_of_lt (by omega : found.length ≤ 1000) (by decide), ?_⟩
          rw [hI2]
          refine ⟨_, g5, _, _, rfl, hg5, fun e he => mem_snoc hf ⟨d, _, t, _, rfl, hd', ib (by omega) (by omega), ?_, bar, rfl, hb1, hb2⟩ he, by rw [List.length_append, hfl]; rfl⟩
          simp only [List.mem_cons, List.not_mem_nil, or_false] at ht
          rcases ht with rfl | rfl | rfl | rfl <;> exact ib (by decide) (by decide)
      simp
      refine (draw_ok hg2 (by decide) (by decide)).mono ?_
      rintro r g3 ⟨hg3, k, rfl, k0, k1⟩
      simp [PyData.depth, PyData.eqv]
      by_cases e : k = 1
      · subst e
        simp
        refine (some_ok hg3 (.lst _) (by decide) (by omega) fun ys hy => sort_pairs fun d hd => hj d (hy d hd)).mono ?_
        rintro r g4 ⟨hg4, bar, rfl, hb, hbl, _⟩
        simp
        exact rest bar g4 hg4 (by omega) fun d hd => hj d (hb d hd)
      · rw [if_neg e]
        exact rest [] g3 hg3 (by decide) fun d hd => (by cases hd)
    · intro s hI1
      rw [hI2] at hI1
      obtain ⟨found, g2, s6, s7, rfl, hg2, hf, hfl⟩ := hI1
      refine n4 _ ?_
      simp [gOut_of h]
      exact ⟨hg2, by omega, hf⟩

theorem atI_nat {xs : List D} {i : Nat} {d : D} (h : xs[i]? = some d) : atI xs (i : Int) = some d := by
  have hl : i < xs.length := (List.getElem?_eq_some_iff.mp h).1
  rw [atI_lt (by omega) (by omega), Int.toNat_natCast, h]
theorem arms_ok {g : G} (h : DSt g) {ps : List D} (h1 : 2 ≤ ps.length) (h2 : ps.length ≤ 10) (hs : ∀ d ∈ ps, Sm 8 d) :
    FnEv f__law_arms [.glob, .val (.list ps)] g fun r g' => DSt g' ∧ ∃ (as : List D) (b e : D), r = .val (.tuple [.tuple as, b, e]) ∧ as.length ≤ 9 ∧ 1 ≤ as.length ∧ (∀ d ∈ as, ArmT d) ∧ Sm 8 b ∧ Sm 8 e := by
  unfold f__law_arms
  rw [fnEv_run]
  unfold m__law_arms
  refine ev_step fun K n _ _ _ => ?_
  simp [startD, Arg.slot]
  refine (shuffled_ok h (.lst _) (by omega)).mono ?_
  rintro r g1 ⟨hg1, row, rfl, hp⟩
  have hr : 2 ≤ row.length := by rw [hp.length_eq]; exact h1
  have hrl : row.length ≤ 10 := by rw [hp.length_eq]; exact h2
  match row, hr, hrl, hp with
  | b :: e :: inner, _, hrl, hp =>
  have hb : Sm 8 b := hs b (hp.mem_iff.mp (by simp))
  have he : Sm 8 e := hs e (hp.mem_iff.mp (by simp))
  have hin : ∀ d ∈ inner, Sm 8 d := fun d hd => hs d (hp.mem_iff.mp (by simp [hd]))
  simp at hrl
  simp
  refine n _ ?_
  refine ev_step fun K n _ _ _ => ?_
  simp [cutL_from]
  refine n _ ?_
  refine ev_step fun K n _ _ _ => ?_
  simp
  refine n _ ?_
  refine ev_step fun K n _ _ _ => ?_
  simp
  refine (draw_ok hg1 (by decide) (by decide)).mono ?_
  rintro r g2 ⟨hg2, t0, rfl, a0, b0⟩
  simp
  refine ⟨by omega, ?_⟩
  obtain ⟨Inv, hI⟩ : ∃ Inv : Nat → Sg → Prop, Inv = fun i s => ∃ (prs : List D) (g' : G) (s7 s8 s9 : Slt), s = { ρ := [.glob, .val (.list ps), .val (.list (b :: e :: inner)), .val b, .val e, .val (.list inner), .own false (.lst prs), s7, s8, s9, .no, .no, .no, .no, .no], g := g' } ∧ DSt g' ∧ (∀ d ∈ prs, PairT d) ∧ prs.length ≤ i * 12 ∧ (1 ≤ i → 1 ≤ prs.length) ∧ i ≤ 3 := ⟨_, rfl⟩
  refine ev_forD _ Inv ?_ ?_ ?_
  · rw [hI]
    exact ⟨[], g2, _, _, _, rfl, hg2, (fun d hd => by cases hd), Nat.zero_le _, (fun z => by omega), by decide⟩
  · intro i d s hd hI1
    rw [hI] at hI1
    obtain ⟨prs, g3, s7, s8, s9, rfl, hg3, hpr, hprl, hpr1, hi3⟩ := hI1
    obtain ⟨rfl, hi⟩ := rngD_at hd
    refine ⟨_, rfl, ?_⟩
    refine ev_step fun K3 n3 _ _ _ => ?_
    simp
    refine ⟨by decide, ?_⟩
    refine (shuffled_ok hg3 (.lst inner) (by omega)).mono ?_
    rintro r g4 ⟨hg4, mid, rfl, hm⟩
    simp
    refine (draw_ok hg4 (by omega) (by omega)).mono ?_
    rintro r g5 ⟨hg5, k, rfl, k0, k1⟩
    simp [cutL_to k0]
    have hml : mid.length = inner.length := hm.length_eq
    refine ⟨Nat.le_trans (by omega) (by decide : 1000 ≤ sizeLine), by decide, Nat.le_trans (by omega) (by decide : 1000 ≤ sizeLine), n3 _ ?_⟩
    generalize hline : b :: (mid.take k.toNat ++ [e]) = line
    have ll : line.length ≤ 12 := by rw [← hline]; simp; omega
    have ll2 : 2 ≤ line.length := by rw [← hline]; simp
    have hln : ∀ d ∈ line, Sm 8 d := by
      intro d hd
      rw [← hline] at hd
      rcases List.mem_cons.mp hd with hd | hd
      · rw [hd]; exact hb
      · exact mem_snoc (fun d hd => hin d (hm.mem_iff.mp (List.mem_of_mem_take hd))) he hd
    simp
    refine ⟨by omega, ?_⟩
    obtain ⟨Inv2, hI2⟩ : ∃ Inv2 : Nat → Sg → Prop, Inv2 = fun j s => ∃ (prs2 : List D) (s9 : Slt), s = { ρ := [.glob, .val (.list ps), .val (.list (b :: e :: inner)), .val b, .val e, .val (.list inner), .own false (.lst prs2), .val (.int i), .val (.list line), s9, .no, .no, .no, .no, .no], g := g5 } ∧ (∀ d ∈ prs2, PairT d) ∧ prs2.length = prs.length + j ∧ j ≤ 11 := ⟨_, rfl⟩
    refine ev_forD _ Inv2 ?_ ?_ ?_
    · rw [hI2]
      exact ⟨prs, _, rfl, hpr, rfl, by decide⟩
    · intro j d s hd hI1
      rw [hI2] at hI1
      obtain ⟨prs2, s9', rfl, hpr2, hpl2, hj⟩ := hI1
      obtain ⟨rfl, hj2⟩ := rngD_at hd
      have x1 : line[j]? = some line[j] := List.getElem?_eq_getElem (by omega)
      have x2 : line[j + 1]? = some line[j + 1] := List.getElem?_eq_getElem (by omega)
      have e2 : ((j : Int) + 1) = ((j + 1 : Nat) : Int) := by omega
      have y2 : atI line ((j : Int) + 1) = some line[j + 1] := by rw [e2]; exact atI_nat x2
      refine ⟨_, rfl, ?_⟩
      simp [atI_nat x1, y2]
      refine ⟨by decide, Nat.lt_of_le_of_lt (by omega : prs2.length ≤ 1000) (by decide), ?_⟩
      rw [hI2]
      exact ⟨_, _, rfl, fun d hd => mem_snoc hpr2 ⟨_, _, rfl, hln _ (List.getElem_mem _), hln _ (List.getElem_mem _)⟩ hd, by rw [List.length_append, hpl2]; simp; omega, by omega⟩
    · intro s hI1
      rw [hI2, rngD_len] at hI1
      obtain ⟨prs2, s9', rfl, hpr2, hpl2, hj⟩ := hI1
      rw [turnK_nx, hI]
      exact ⟨prs2, g5, _, _, _, rfl, hg5, hpr2, by omega, fun _ => by omega, by omega⟩
  · intro s hI1
    rw [hI, rngD_len] at hI1
    obtain ⟨prs, g3, s7, s8, s9, rfl, hg3, hpr, hprl, hpr1, hi3⟩ := hI1
    have hp1 : 1 ≤ prs.length := hpr1 (by omega)
    refine n _ ?_
    refine ev_step fun K n _ _ _ => ?_
    simp
    refine (draw_ok hg3 (by decide) (by decide)).mono ?_
    rintro r g4 ⟨hg4, t1, rfl, a1, b1⟩
    simp
    refine ⟨by omega, ?_⟩
    obtain ⟨Inv3, hI3⟩ : ∃ Inv3 : Nat → Sg → Prop, Inv3 = fun i s => ∃ (prs2 : List D) (g' : G) (s7 s10 : Slt), s = { ρ := [.glob, .val (.list ps), .val (.list (b :: e :: inner)), .val b, .val e, .val (.list inner), .own false (.lst prs2), s7, s8, s9, s10, .no, .no, .no, .no], g := g' } ∧ DSt g' ∧ (∀ d ∈ prs2, PairT d) ∧ prs2.length = prs.length + i ∧ i ≤ 3 := ⟨_, rfl⟩
    refine ev_forD _ Inv3 ?_ ?_ ?_
    · rw [hI3]
      exact ⟨prs, g4, _, _, rfl, hg4, hpr, rfl, by decide⟩
    · intro i d s hd hI1
      rw [hI3] at hI1
      obtain ⟨prs2, g5, s7', s10, rfl, hg5, hpr2, hpl2, hi⟩ := hI1
      obtain ⟨rfl, hi2⟩ := rngD_at hd
      refine ⟨_, rfl, ?_⟩
      refine ev_step fun K3 n3 _ _ _ => ?_
      simp
      refine (shuffled_ok hg5 (.lst _) (by omega)).mono ?_
      rintro r g6 ⟨hg6, two, rfl, hm⟩
      have hr : 2 ≤ two.length := by rw [hm.length_eq]; exact h1
      match two, hr, hm with
      | x :: y :: two, _, hm =>
      simp
      refine n3 _ ?_
      simp
      refine ⟨by decide, Nat.lt_of_le_of_lt (by omega : prs2.length ≤ 1000) (by decide), ?_⟩
      rw [hI3]
      exact ⟨_, g6, _, _, rfl, hg6, fun d hd => mem_snoc hpr2 ⟨_, _, rfl, hs _ (hm.mem_iff.mp (by simp)), hs _ (hm.mem_iff.mp (by simp))⟩ hd, by rw [List.length_append, hpl2]; simp; omega, by omega⟩
    · intro s hI1
      rw [hI3, rngD_len] at hI1
      obtain ⟨prs2, g5, s7', s10, rfl, hg5, hpr2, hpl2, hi⟩ := hI1
      refine n _ ?_
      refine ev_step fun K n _ _ _ => ?_
      simp [cutL_to]
      refine (shuffled_ok hg5 (.lst _) (by rw [List.length_take]; omega)).mono ?_
      rintro r g6 ⟨hg6, pp, rfl, hm⟩
      have hpp : ∀ d ∈ pp, PairT d := fun d hd => hpr2 d (List.mem_of_mem_take (hm.mem_iff.mp hd))
      have hppl : pp.length ≤ 9 ∧ 1 ≤ pp.length := by rw [hm.length_eq, List.length_take]; omega
      simp
      refine n _ ?_
      refine ev_step fun K n _ _ _ => ?_
      simp
      refine (names_ok hg6 (by omega) (by omega)).mono ?_
      rintro r g7 ⟨hg7, ns, rfl, hns, hnl⟩
      simp
      refine n _ ?_
      refine ev_step fun K n _ _ _ => ?_
      simp
      refine n _ ?_
      refine ev_step fun K n _ _ _ => ?_
      simp
      refine ⟨by omega, ?_⟩
      obtain ⟨Inv4, hI4⟩ : ∃ Inv4 : Nat → Sg → Prop, Inv4 = fun i s => ∃ (as : List D) (g' : G) (s9 s13 s14 : Slt), s = { ρ := [.glob, .val (.list ps), .val (.list (b :: e :: inner)), .val b, .val e, .val (.list inner), .own false (.lst pp), s7', s8, s9, s10, .val (.list ns), .own false (.lst as), s13, s14], g := g' } ∧ DSt g' ∧ (∀ d ∈ as, ArmT d) ∧ as.length = i := ⟨_, rfl⟩
      refine ev_forD _ Inv4 ?_ ?_ ?_
      · rw [hI4]
        exact ⟨[], g7, _, _, _, rfl, hg7, (fun d hd => by cases hd), rfl⟩
      · intro i d s hd hI1
        rw [hI4] at hI1
        obtain ⟨as, g8, s9', s13, s14, rfl, hg8, has, hal⟩ := hI1
        obtain ⟨rfl, hi2⟩ := rngD_at hd
        have il : i < pp.length := by omega
        have in_ : i < ns.length := by omega
        have x1 : pp[i]? = some pp[i] := List.getElem?_eq_getElem il
        have x2 : ns[i]? = some ns[i] := List.getElem?_eq_getElem in_
        obtain ⟨pa, pb, hpe, hpa, hpb⟩ := hpp _ (List.getElem_mem il)
        rw [hpe] at x1
        have hn := hns _ (List.getElem_mem in_)
        refine ⟨_, rfl, ?_⟩
        refine ev_step fun K3 n3 _ _ _ => ?_
        have r1 : ∀ (lanes : Int) (g9 : G), 0 ≤ lanes → lanes ≤ 10 → DSt g9 → K3 .nx { ρ := [.glob, .val (.list ps), .val (.list (b :: e :: inner)), .val b, .val e, .val (.list inner), .own false (.lst pp), s7', s8, .val (.int i), s10, .val (.list ns), .own false (.lst as), .val (.int lanes), s14], g := g9 } := by
          intro lanes g9 l0 l1 hg9
          refine n3 _ ?_
          refine ev_step fun K4 n4 _ _ _ => ?_
          have r2 : ∀ (len : Int) (g10 : G), 0 ≤ len → len ≤ 1000 → DSt g10 → K4 .nx { ρ := [.glob, .val (.list ps), .val (.list (b :: e :: inner)), .val b, .val e, .val (.list inner), .own false (.lst pp), s7', s8, .val (.int i), s10, .val (.list ns), .own false (.lst as), .val (.int lanes), .val (.int len)], g := g10 } := by
            intro len g10 le0 le1 hg10
            refine n4 _ ?_
            simp [atI_nat x1, atI_nat x2]
            refine ⟨by decide, ?_⟩
            refine (pick_ok hg10 (.lst _) (by decide) (by decide)).mono ?_
            rintro r g11 ⟨hg11, t, ht, rfl⟩
            simp
            refine ⟨by decide, Nat.lt_of_le_of_lt (by omega : as.length ≤ 1000) (by decide), ?_⟩
            rw [hI4]
            refine ⟨_, g11, _, _, _, rfl, hg11, fun d hd => mem_snoc has ⟨_, _, _, _, t, _, rfl, ⟨hn, hpa, hpb⟩, ib (by omega) (by omega), ?_, ib (by omega) (by omega)⟩ hd, by rw [List.length_append, hal]; rfl⟩
            simp only [List.mem_cons, List.not_mem_nil, or_false] at ht
            rcases ht with rfl | rfl | rfl <;> exact ib (by decide) (by decide)
          simp
          refine (rare_ok hg9 (by decide) (by decide)).mono ?_
          rintro r g10 ⟨hg10, bb, rfl⟩
          cases bb
          · simp
            refine (draw_ok hg10 (by decide) (by decide)).mono ?_
            rintro r g11 ⟨hg11, k, rfl, k0, k1⟩
            simp
            exact r2 _ _ (by omega) (by omega) hg11
          · simp
            exact r2 _ _ (by omega) (by omega) hg10
        simp
        refine (rare_ok hg8 (by decide) (by decide)).mono ?_
        rintro r g10 ⟨hg10, bb, rfl⟩
        cases bb
        · simp
          refine (draw_ok hg10 (by decide) (by decide)).mono ?_
          rintro r g11 ⟨hg11, k, rfl, k0, k1⟩
          simp
          exact r1 _ _ (by omega) (by omega) hg11
        · simp
          exact r1 _ _ (by omega) (by omega) hg10
      · intro s hI1
        rw [hI4, rngD_len] at hI1
        obtain ⟨as, g8, s9', s13, s14, rfl, hg8, has, hal⟩ := hI1
        refine n _ ?_
        simp [gOut_of h]
        exact ⟨by decide, hg8, as, b, e, ⟨rfl, rfl, rfl⟩, by omega, by omega, has, hb, he⟩

theorem promises_ok {g : G} (h : DSt g) {b e : D} {ks fs : List D} {many : Int} (hb : Sm 8 b) (he : Sm 8 e) (hk1 : 1 ≤ ks.length) (hk2 : ks.length < 1000) (hk : ∀ d ∈ ks, KindT d) (hf2 : fs.length ≤ 20) (hf : ∀ d ∈ fs, Sm 8 d) (h0 : 0 ≤ many) (h1 : many ≤ 20) :
    FnEv f__law_promises [.glob, .val b, .val e, .val (.tuple ks), .val (.tuple fs), .val (.int many)] g fun r g' => DSt g' ∧ ∃ d, r = .val d ∧ Arr PromT d := by
  unfold f__law_promises
  rw [fnEv_run]
  unfold m__law_promises
  refine ev_step fun K n _ _ _ => ?_
  simp [startD, Arg.slot]
  refine n _ ?_
  refine ev_step fun K n _ _ _ => ?_
  simp
  refine (names_ok h h0 (by omega)).mono ?_
  rintro r g1 ⟨hg1, ns, rfl, hns, hnl⟩
  simp
  obtain ⟨Inv, hI⟩ : ∃ Inv : Nat → Sg → Prop, Inv = fun i s => ∃ (found : List D) (g' : G) (s7 s8 s9 s10 s11 : Slt), s = { ρ := [.glob, .val b, .val e, .val (.tuple ks), .val (.tuple fs), .val (.int many), .own false (.lst found), s7, s8, s9, s10, s11], g := g' } ∧ DSt g' ∧ (∀ d ∈ found, PromT d) ∧ found.length = i := ⟨_, rfl⟩
  refine ev_forD _ Inv ?_ ?_ ?_
  · rw [hI]
    exact ⟨[], g1, _, _, _, _, _, rfl, hg1, (fun d hd => by cases hd), rfl⟩
  · intro i d s hd hI1
    rw [hI] at hI1
    obtain ⟨found, g2, s7, s8, s9, s10, s11, rfl, hg2, hfd, hfl⟩ := hI1
    have hd' := hns d (List.mem_of_getElem? hd)
    have hil : i < ns.length := (List.getElem?_eq_some_iff.mp hd).1
    refine ⟨_, rfl, ?_⟩
    refine ev_stepI fun K2 t2 f2 => ?_
    have ff : ∀ g3, DSt g3 → K2 false { ρ := [.glob, .val b, .val e, .val (.tuple ks), .val (.tuple fs), .val (.int many), .own false (.lst found), .val d, s8, s9, s10, s11], g := g3 } := by
      intro g3 hg3
      refine f2 _ ?_
      refine ev_step fun K3 n3 _ _ _ => ?_
      simp
      refine (pick_ok hg3 (.tup _) hk1 (by omega)).mono ?_
      rintro r g4 ⟨hg4, kd, hkd, rfl⟩
      obtain ⟨ka, ki, kj, kp, rfl, hka, _, _, bars, rfl, hbl, _⟩ := hk kd hkd
      simp
      refine n3 _ ?_
      refine ev_step fun K4 n4 _ _ _ => ?_
      have r1 : ∀ (ap : D) (g5 : G), Sm 8 ap → DSt g5 → K4 .nx { ρ := [.glob, .val b, .val e, .val (.tuple ks), .val (.tuple fs), .val (.int many), .own false (.lst found), .val d, s8, .val (.tuple [ka, ki, kj, .tuple bars]), .val ap, s11], g := g5 } := by
        intro ap g5 hap hg5
        refine n4 _ ?_
        refine ev_step fun K5 n5 _ _ _ => ?_
        have r2 : ∀ (ct : Int) (g6 : G), 0 ≤ ct → ct ≤ 10 → DSt g6 → K5 .nx { ρ := [.glob, .val b, .val e, .val (.tuple ks), .val (.tuple fs), .val (.int many), .own false (.lst found), .val d, s8, .val (.tuple [ka, ki, kj, .tuple bars]), .val ap, .val (.int ct)], g := g6 } := by
          intro ct g6 c0 c1 hg6
          refine n5 _ ?_
          simp
          refine ⟨by decide, Nat.lt_of_le_of_lt (by omega : found.length ≤ 1000) (by decide), ?_⟩
          rw [hI]
          exact ⟨_, g6, _, _, _, _, _, rfl, hg6, fun x hx => mem_snoc hfd (.inr ⟨_, _, _, _, _, _, rfl, ⟨hd', hb, he, hka⟩, ib (by omega) (by omega), hap⟩) hx, by rw [List.length_append, hfl]; rfl⟩
        simp
        refine (rare_ok hg5 (by decide) (by decide)).mono ?_
        rintro r g10 ⟨hg10, bb, rfl⟩
        cases bb
        · simp
          refine (draw_ok hg10 (by decide) (by decide)).mono ?_
          rintro r g11 ⟨hg11, k, rfl, k0, k1⟩
          simp
          exact r2 _ _ (by omega) (by omega) hg11
        · simp
          exact r2 _ _ (by omega) (by omega) hg10
      simp
      by_cases hb0 : 0 < bars.length
      · rw [if_pos hb0]
        exact r1 _ _ ⟨_, rfl, by decide +kernel⟩ hg4
      · rw [if_neg hb0]
        refine ⟨by decide, ?_⟩
        refine (pick_ok hg4 (.lst _) (by decide) (by decide)).mono ?_
        rintro r g5 ⟨hg5, t, ht, rfl⟩
        simp
        refine r1 _ _ ?_ hg5
        simp only [List.mem_cons, List.not_mem_nil, or_false] at ht
        rcases ht with rfl | rfl <;> exact ⟨_, rfl, by decide +kernel⟩
    simp
    by_cases hf0 : 0 < fs.length
    · rw [if_pos hf0]
      refine (draw_ok hg2 (by decide) (by decide)).mono ?_
      rintro r g3 ⟨hg3, k, rfl, k0, k1⟩
      simp [PyData.depth, PyData.eqv]
      by_cases ek : k = 1
      · subst ek
        refine t2 _ ?_
        refine ev_step fun K3 n3 _ _ _ => ?_
        simp
        refine (shuffled_ok hg3 (.lst fs) (by omega)).mono ?_
        rintro r g4 ⟨hg4, so, rfl, hm⟩
        have hsl : so.length = fs.length := hm.length_eq
        simp
        refine n3 _ ?_
        refine ev_step fun K4 n4 _ _ _ => ?_
        simp
        refine (draw_ok hg4 (by omega) (by omega)).mono ?_
        rintro r g5 ⟨hg5, k, rfl, k0, k1⟩
        have hcut := cutL_to (xs := so) (k := 1 + k) (by omega)
        have hso : ∀ d ∈ so.take (1 + k).toNat, Sm 8 d := fun d hd => hf d (hm.mem_iff.mp (List.mem_of_mem_take hd))
        simp [hcut, sm_strs hso]
        refine n4 _ ?_
        simp
        have sl : (sortD (so.take (1 + k).toNat)).length = (so.take (1 + k).toNat).length := (sortD_perm _).length_eq
        have sl2 : 1 ≤ (sortD (so.take (1 + k).toNat)).length ∧ (sortD (so.take (1 + k).toNat)).length ≤ 20 := by rw [sl, List.length_take]; omega
        generalize hsd : sortD (so.take (1 + k).toNat) = sd at sl2 ⊢
        refine (draw_ok hg5 (by omega) (by omega)).mono ?_
        rintro r g6 ⟨hg6, k6, rfl, k60, k61⟩
        simp
        refine ⟨by decide, Nat.lt_of_le_of_lt (by omega : found.length ≤ 1000) (by decide), ?_⟩
        rw [hI]
        exact ⟨_, g6, _, _, _, _, _, rfl, hg6, fun x hx => mem_snoc hfd (.inl ⟨_, _, _, rfl, hd', ⟨sd, rfl, by omega, fun d hd => hso d ((sortD_perm _).mem_iff.mp (hsd ▸ hd))⟩, ib (by omega) (by omega)⟩) hx, by rw [List.length_append, hfl]; rfl⟩
      · rw [show (k == 1) = false from beq_eq_false_iff_ne.mpr ek]
        exact ff g3 hg3
    · rw [if_neg hf0]
      exact ff g2 hg2
  · intro s hI1
    rw [hI] at hI1
    obtain ⟨found, g2, s7, s8, s9, s10, s11, rfl, hg2, hfd, hfl⟩ := hI1
    refine n _ ?_
    simp [gOut_of h]
    exact ⟨hg2, found, rfl, by omega, hfd⟩
end Lw
end

section
set_option Elab.async false
set_option linter.all false
set_option maxRecDepth 100000
set_option maxHeartbeats 4000000
set_option autoImplicit false
namespace Lw
open PySem PySem.Spec L2 PD
open PyProof.Rows hiding St
theorem plan_ok {g : G} (h : DSt g) {wk tr pr : Int} (w0 : 0 ≤ wk) (w1 : wk ≤ 8) (t0 : 0 ≤ tr) (t1 : tr ≤ 8) (p0 : 0 ≤ pr) (p1 : pr ≤ 20) : FnEv f__law_plan [.glob, .val (.int wk), .val (.int tr), .val (.int pr)] g fun r g' => DSt g' ∧ ∃ d, r = .val d ∧ PlanT d := by
  unfold f__law_plan
  rw [fnEv_run]
  unfold m__law_plan
  refine ev_step fun K n _ _ _ => ?_
  simp [startD, Arg.slot]
  refine (draw_ok h (by decide) (by decide)).mono ?_
  rintro r g1 ⟨hg1, k, rfl, k0, k1⟩
  simp
  refine (names_ok hg1 (by omega) (by omega)).mono ?_
  rintro r g2 ⟨hg2, ps, rfl, hps, hpl⟩
  simp
  refine n _ ?_
  refine ev_step fun K n _ _ _ => ?_
  simp
  refine (arms_ok hg2 (by omega) (by omega) hps).mono ?_
  rintro r g3 ⟨hg3, as, b, e, rfl, hal, _, has, hb, he⟩
  simp
  refine n _ ?_
  refine ev_step fun K n _ _ _ => ?_
  simp
  refine (draw_ok hg3 (by decide) (by decide)).mono ?_
  rintro r g4 ⟨hg4, k2, rfl, k20, k21⟩
  simp
  refine (kinds_ok hg4 (by omega) (by omega) (by omega) has).mono ?_
  rintro r g5 ⟨hg5, ks, rfl, hkl, hks⟩
  simp
  refine n _ ?_
  refine ev_step fun K n _ _ _ => ?_
  simp
  refine (draw_ok hg5 (by decide) (by decide)).mono ?_
  rintro r g6 ⟨hg6, k3, rfl, k30, k31⟩
  simp
  refine (names_ok hg6 (by omega) (by omega)).mono ?_
  rintro r g7 ⟨hg7, fs, rfl, hfs, hfl⟩
  simp
  refine n _ ?_
  refine ev_step fun K n _ _ _ => ?_
  simp
  refine (names_ok hg7 (by omega) (by omega)).mono ?_
  rintro r g8 ⟨hg8, mx, rfl, hmx, hml⟩
  simp
  refine n _ ?_
  refine ev_step fun K n _ _ _ => ?_
  simp
  refine (shuffled_ok hg8 (.lst mx) (by omega)).mono ?_
  rintro r g9 ⟨hg9, sh, rfl, hm⟩
  have hsl : sh.length = mx.length := hm.length_eq
  have hsh : ∀ d ∈ sh.take wk.toNat, Sm 8 d := fun d hd => hmx d (hm.mem_iff.mp (List.mem_of_mem_take hd))
  simp [cutL_to w0, sm_strs hsh]
  have hnl : (sortD (sh.take wk.toNat)).length = wk.toNat := by rw [(sortD_perm _).length_eq, List.length_take]; omega
  have hns : ∀ d ∈ sortD (sh.take wk.toNat), Sm 8 d := fun d hd => hsh d ((sortD_perm _).mem_iff.mp hd)
  generalize sortD (sh.take wk.toNat) = ns at hnl hns
  refine n _ ?_
  refine ev_step fun K n _ _ _ => ?_
  simp
  refine ⟨Nat.le_trans (by omega : mx.length ≤ 1000) (by decide), ?_⟩
  refine ev_elems _ (fun i acc g' => g' = g9 ∧ acc.length ≤ i ∧ ∀ d ∈ acc, Sm 8 d) ⟨rfl, Nat.le_refl _, fun d hd => (by cases hd)⟩ ?_ ?_
  · rintro i d acc g10 hd ⟨rfl, hl2, hacc⟩
    have hd' := hmx d (List.mem_of_getElem? hd)
    obtain ⟨z, rfl, hz⟩ := hd'
    refine ⟨_, rfl, ?_⟩
    simp [wipeρ, Slt.lock, ninV, inD, Vw.dat?, PyData.depth]
    split
    · exact ⟨by omega, hacc⟩
    · exact ⟨by omega, fun e he => he.elim (fun he => hacc e he) fun he => by subst he; exact ⟨z, rfl, hz⟩⟩
  · rintro ot g10 ⟨rfl, hotl, hot⟩
    simp
    refine n _ ?_
    refine ev_step fun K n _ _ _ => ?_
    simp
    refine ⟨Nat.le_trans (by omega : ns.length ≤ 1000) (by decide), ?_⟩
    obtain ⟨J, hJ⟩ : ∃ J : Nat → List D → G → Prop, J = fun i acc g => DSt g ∧ acc.length = i ∧ ∀ d ∈ acc, WorkT d := ⟨_, rfl⟩
    refine ev_elems _ J ?_ ?_ ?_
    · rw [hJ]; exact ⟨hg9, rfl, fun d hd => (by cases hd)⟩
    · intro i d acc g11 hd hj
      rw [hJ] at hj
      obtain ⟨hg11, hl, hacc⟩ := hj
      refine ⟨_, rfl, ?_⟩
      simp [wipeρ, Slt.lock]
      refine (work_ok hg11 (hns d (List.mem_of_getElem? hd)) (by omega) has (by omega) hfs).mono ?_
      rintro r g12 ⟨hg12, w, rfl, hw⟩
      simp
      rw [hJ]
      exact ⟨hg12, by rw [List.length_append, hl]; rfl, fun x hx => mem_snoc hacc hw hx⟩
    · intro ws g11 hj
      rw [hJ] at hj
      obtain ⟨hg11, hwl, hws⟩ := hj
      simp
      refine n _ ?_
      refine ev_step fun K n _ _ _ => ?_
      simp
      refine n _ ?_
      refine ev_step fun K n _ _ _ => ?_
      -- the links
      have rest : ∀ (ls : List D) (g12 : G), DSt g12 → ls.length ≤ 20 → (∀ d ∈ ls, LinkT d) → K .nx { ρ := [.glob, .val (.int wk), .val (.int tr), .val (.int pr), .val (.list ps), .val (.tuple as), .val b, .val e, .val (.tuple ks), .val (.tuple fs), .val (.list mx), .val (.list ns), .val (.list ot), .val (.tuple ws), .val (.tuple ls), .no, .no, .no, .no, .no, .no, .no, .no, .no], g := g12 } := by
        intro ls g12 hg12 hll hls
        refine n _ ?_
        refine ev_step fun K n _ _ _ => ?_
        have rest2 : ∀ (bd : List D) (g13 : G), DSt g13 → bd.length ≤ 20 → (∀ d ∈ bd, TroubleT d) → K .nx { ρ := [.glob, .val (.int wk), .val (.int tr), .val (.int pr), .val (.list ps), .val (.tuple as), .val b, .val e, .val (.tuple ks), .val (.tuple fs), .val (.list mx), .val (.list ns), .val (.list ot), .val (.tuple ws), .val (.tuple ls), .val (.tuple bd), .no, .no, .no, .no, .no, .no, .no, .no], g := g13 } := by
          intro bd g13 hg13 hbl hbd
          refine n _ ?_
          refine ev_step fun K n _ _ _ => ?_
          simp
          refine (draw_ok hg13 (by decide) (by decide)).mono ?_
          rintro r g14 ⟨hg14, bu, rfl, bu0, bu1⟩
          simp
          refine n _ ?_
          refine ev_step fun K n _ _ _ => ?_
          simp
          refine n _ ?_
          refine ev_step fun K n _ _ _ => ?_
          have rest3 : ∀ (cm : List D) (g15 : G), DSt g15 → cm.length ≤ 20 → (∀ d ∈ cm, Sm 8 d) → K .nx { ρ := [.glob, .val (.int wk), .val (.int tr), .val (.int pr), .val (.list ps), .val (.tuple as), .val b, .val e, .val (.tuple ks), .val (.tuple fs), .val (.list mx), .val (.list ns), .val (.list ot), .val (.tuple ws), .val (.tuple ls), .val (.tuple bd), .val (.int bu), .val (.tuple cm), .no, .no, .no, .no, .no, .no], g := g15 } := by
            intro cm g15 hg15 hcl hcm
            refine n _ ?_
            refine ev_step fun K n _ _ _ => ?_
            have rest4 : ∀ (sc : Int) (g16 : G), DSt g16 → 0 ≤ sc → sc ≤ 6 → K .nx { ρ := [.glob, .val (.int wk), .val (.int tr), .val (.int pr), .val (.list ps), .val (.tuple as), .val b, .val e, .val (.tuple ks), .val (.tuple fs), .val (.list mx), .val (.list ns), .val (.list ot), .val (.tuple ws), .val (.tuple ls), .val (.tuple bd), .val (.int bu), .val (.tuple cm), .val (.int sc), .no, .no, .no, .no, .no], g := g16 } := by
              intro sc g16 hg16 s0 s1
              refine n _ ?_
              refine ev_step fun K n _ _ _ => ?_
              simp
              refine n _ ?_
              refine ev_step fun K n _ _ _ => ?_
              have rest5 : ∀ (mk : List D) (s20 : Slt) (g17 : G), DSt g17 → mk.length ≤ 20 → (∀ d ∈ mk, MarkT d) → K .nx { ρ := [.glob, .val (.int wk), .val (.int tr), .val (.int pr), .val (.list ps), .val (.tuple as), .val b, .val e, .val (.tuple ks), .val (.tuple fs), .val (.list mx), .val (.list ns), .val (.list ot), .val (.tuple ws), .val (.tuple ls), .val (.tuple bd), .val (.int bu), .val (.tuple cm), .val (.int sc), .val (.tuple mk), s20, .no, .no, .no], g := g17 } := by
                intro mk s20 g17 hg17 hmkl hmk
                refine n _ ?_
                refine ev_step fun K n _ _ _ => ?_
                simp
                refine (promises_ok hg17 hb he (by omega) (by omega) hks (by omega) hfs p0 p1).mono ?_
                rintro r g18 ⟨hg18, pd, rfl, hpd⟩
                simp
                refine n _ ?_
                simp [gOut_of h]
                exact ⟨by decide, hg18, _, _, _, _, _, _, _, _, _, _, _, _, rfl, ⟨ps, rfl, by omega, hps⟩, ⟨as, rfl, by omega, has⟩, ⟨ks, rfl, by omega, hks⟩, ⟨fs, rfl, by omega, hfs⟩, ⟨ws, rfl, by omega, hws⟩, ⟨ls, rfl, hll, hls⟩, ⟨bd, rfl, hbl, hbd⟩, ib (by omega) (by omega), ⟨cm, rfl, hcl, hcm⟩, ib (by omega) (by omega), ⟨mk, rfl, hmkl, hmk⟩, hpd⟩
              refine ev_stepI fun K2 t2 f2 => ?_
              have ff : ∀ g17, DSt g17 → K2 false { ρ := [.glob, .val (.int wk), .val (.int tr), .val (.int pr), .val (.list ps), .val (.tuple as), .val b, .val e, .val (.tuple ks), .val (.tuple fs), .val (.list mx), .val (.list ns), .val (.list ot), .val (.tuple ws), .val (.tuple ls), .val (.tuple bd), .val (.int bu), .val (.tuple cm), .val (.int sc), .val (.tuple []), .no, .no, .no, .no], g := g17 } := by
                intro g17 hg17
                refine f2 _ ?_
                simp
                exact rest5 [] _ g17 hg17 (by decide) fun d hd => (by cases hd)
              simp
              by_cases hw : 0 < wk
              · rw [if_pos hw]
                refine (rare_ok hg16 (by decide) (by decide)).mono ?_
                rintro r g17 ⟨hg17, bb, rfl⟩
                cases bb
                · simp
                  exact ff g17 hg17
                · simp
                  refine t2 _ ?_
                  refine ev_step fun K n _ _ _ => ?_
                  simp
                  refine (draw_ok hg17 (by decide) (by decide)).mono ?_
                  rintro r g18 ⟨hg18, dy, rfl, dy0, dy1⟩
                  simp
                  refine n _ ?_
                  simp
                  refine (pick_ok hg18 (.lst ns) (by omega) (by omega)).mono ?_
                  rintro r g19 ⟨hg19, nm, hnm, rfl⟩
                  simp
                  refine ⟨by decide, ?_⟩
                  refine (pick_ok hg19 (.lst _) (by decide) (by decide)).mono ?_
                  rintro r g20 ⟨hg20, en, hen, rfl⟩
                  have hen' : Sm 8 en := by
                    simp only [List.mem_cons, List.not_mem_nil, or_false] at hen
                    rcases hen with rfl | rfl
                    · exact sm_start
                    · exact sm_end
                  simp
                  refine (draw_ok hg20 (by decide) (by decide)).mono ?_
                  rintro r g21 ⟨hg21, q, rfl, q0, q1⟩
                  simp
                  by_cases hq : q = 0
                  · subst hq
                    simp
                    refine ⟨by decide, by decide, ?_⟩
                    exact rest5 _ _ g21 hg21 (by simp) fun d hd => by
                      rw [List.mem_singleton] at hd
                      exact ⟨_, _, _, _, hd, ⟨hns _ hnm, hen'⟩, .inr (ib (by decide) (by decide)), .inr (ib (by omega) (by omega))⟩
                  · simp [hq]
                    refine ⟨by decide, by decide, ?_⟩
                    exact rest5 _ _ g21 hg21 (by simp) fun d hd => by
                      rw [List.mem_singleton] at hd
                      exact ⟨_, _, _, _, hd, ⟨hns _ hnm, hen'⟩, .inl rfl, .inr (ib (by omega) (by omega))⟩
              · rw [if_neg hw]
                exact ff g16 hg16
            simp
            refine (rare_ok hg15 (by decide) (by decide)).mono ?_
            rintro r g16 ⟨hg16, bb, rfl⟩
            cases bb
            · simp
              exact rest4 0 g16 hg16 (by decide) (by decide)
            · simp
              refine (draw_ok hg16 (by decide) (by decide)).mono ?_
              rintro r g17 ⟨hg17, sc, rfl, sc0, sc1⟩
              simp
              exact rest4 sc g17 hg17 (by omega) (by omega)
          refine ev_stepI fun K2 t2 f2 => ?_
          have ff : ∀ g15, DSt g15 → K2 false { ρ := [.glob, .val (.int wk), .val (.int tr), .val (.int pr), .val (.list ps), .val (.tuple as), .val b, .val e, .val (.tuple ks), .val (.tuple fs), .val (.list mx), .val (.list ns), .val (.list ot), .val (.tuple ws), .val (.tuple ls), .val (.tuple bd), .val (.int bu), .val (.tuple []), .no, .no, .no, .no, .no, .no], g := g15 } := by
            intro g15 hg15
            refine f2 _ ?_
            simp
            exact rest3 [] g15 hg15 (by decide) fun d hd => (by cases hd)
          simp
          by_cases hbu : 0 < bu
          · rw [if_pos hbu]
            by_cases hbd0 : 0 < bd.length
            · rw [if_pos hbd0]
              refine (rare_ok hg14 (by decide) (by decide)).mono ?_
              rintro r g15 ⟨hg15, bb, rfl⟩
              cases bb
              · simp
                exact ff g15 hg15
              · simp
                refine t2 _ ?_
                simp
                refine (pick_ok hg15 (.tup bd) (by omega) (by omega)).mono ?_
                rintro r g16 ⟨hg16, td, htd, rfl⟩
                obtain ⟨ta, tb, ti, tf, rfl, ⟨hta, _⟩, _⟩ := hbd td htd
                simp
                refine ⟨by decide, ?_⟩
                exact rest3 _ g16 hg16 (by simp) fun d hd => by
                  rw [List.mem_singleton] at hd
                  rw [hd]; exact hta
            · rw [if_neg hbd0]
              exact ff g14 hg14
          · rw [if_neg hbu]
            exact ff g14 hg14
        simp
        by_cases hw : 0 < wk
        · rw [if_pos hw]
          refine ⟨Nat.le_trans (by omega : ot.length ≤ 1000) (by decide), ?_⟩
          obtain ⟨J, hJ⟩ : ∃ J : Nat → List D → G → Prop, J = fun i acc g => DSt g ∧ acc.length = i ∧ ∀ d ∈ acc, TroubleT d := ⟨_, rfl⟩
          refine ev_elems _ J ?_ ?_ ?_
          · rw [hJ]; exact ⟨hg12, rfl, fun d hd => (by cases hd)⟩
          · intro i d acc g13 hd hj
            rw [hJ] at hj
            obtain ⟨hg13, hl, hacc⟩ := hj
            refine ⟨_, rfl, ?_⟩
            simp [wipeρ, Slt.lock]
            refine (trouble_ok hg13 (hot d (List.mem_of_getElem? hd)) (by omega) (by omega) hns (by omega) has (by omega) hfs).mono ?_
            rintro r g14 ⟨hg14, w, rfl, hw⟩
            simp
            rw [hJ]
            exact ⟨hg14, by rw [List.length_append, hl]; rfl, fun x hx => mem_snoc hacc hw hx⟩
          · intro bd g13 hj
            rw [hJ] at hj
            obtain ⟨hg13, hl, hbd⟩ := hj
            simp
            exact rest2 bd g13 hg13 (by omega) hbd
        · rw [if_neg hw]
          exact rest2 [] g12 hg12 (by decide) fun d hd => (by cases hd)
      refine ev_stepI fun K2 t2 f2 => ?_
      simp
      by_cases hw : 1 < wk
      · rw [decide_eq_true hw]
        refine t2 _ ?_
        simp
        refine (draw_ok hg11 (by decide) (by decide)).mono ?_
        rintro r g12 ⟨hg12, m, rfl, m0, m1⟩
        simp
        refine ⟨by omega, ?_⟩
        refine ⟨by rw [rngD_len]; exact Nat.le_trans (by omega : (m - 0).toNat ≤ 1000) (by decide), ?_⟩
        obtain ⟨J, hJ⟩ : ∃ J : Nat → List D → G → Prop, J = fun i acc g => DSt g ∧ acc.length = i ∧ ∀ d ∈ acc, LinkT d := ⟨_, rfl⟩
        refine ev_elems _ J ?_ ?_ ?_
        · rw [hJ]; exact ⟨hg12, rfl, fun d hd => (by cases hd)⟩
        · intro i d acc g13 hd hj
          rw [hJ] at hj
          obtain ⟨hg13, hl, hacc⟩ := hj
          refine ⟨_, rfl, ?_⟩
          simp [wipeρ, Slt.lock]
          refine (link_ok hg13 (by omega) (by omega) hns).mono ?_
          rintro r g14 ⟨hg14, w, rfl, hw⟩
          simp
          rw [hJ]
          exact ⟨hg14, by rw [List.length_append, hl]; rfl, fun x hx => mem_snoc hacc hw hx⟩
        · intro ls g13 hj
          rw [hJ, rngD_len] at hj
          obtain ⟨hg13, hl, hls⟩ := hj
          simp
          exact rest ls g13 hg13 (by omega) hls
      · rw [decide_eq_false hw]
        refine f2 _ ?_
        simp
        exact rest [] g11 hg11 (by decide) fun d hd => (by cases hd)
end Lw
end

section
set_option Elab.async false
set_option linter.all false
set_option maxRecDepth 100000
set_option maxHeartbeats 4000000
set_option autoImplicit false
namespace Lw
open PySem PySem.Spec L2 PD
open PyProof.Rows hiding St
theorem ev_elems_draw {s : Sg} {vs : List Nat} {t : Tg} {f : M (Option D)} {Q : List D → Sg → Prop} (ds : List D) (P : D → Prop) (h : DSt s.g)
    (hs : ∀ (i : Nat) (d : D) (g : G), ds[i]? = some d → DSt g → ∃ ρ', t.set d (wipeρ s.ρ vs) = some ρ' ∧ Ev f { ρ := ρ', g := g } (fun x s1 => ∃ e, x = some e ∧ P e ∧ DSt s1.g)) (he : ∀ (acc : List D) (g : G), DSt g → acc.length = ds.length → (∀ d ∈ acc, P d) → Q acc { s with g := g }) : Ev (elemsD vs t f ds) s Q := by
  refine ev_elems ds (fun i acc g => DSt g ∧ acc.length = i ∧ ∀ d ∈ acc, P d) ⟨h, rfl, fun d hd => (by cases hd)⟩ ?_ ?_
  · rintro i d acc g hd ⟨hg, hl, hacc⟩
    obtain ⟨ρ', e1, q⟩ := hs i d g hd hg
    refine ⟨ρ', e1, q.mono ?_⟩
    rintro x s1 ⟨e, rfl, pe, hg1⟩
    refine ⟨hg1, ?_, fun y hy => mem_snoc hacc pe hy⟩
    show (acc ++ [e]).length = i + 1
    rw [List.length_append, hl]
    rfl
  · rintro acc g ⟨hg, hl, hacc⟩
    exact he acc g hg hl hacc
theorem strs_of {n : Nat} : ∀ {xs : List D}, (∀ d ∈ xs, Sm n d) → ∃ zs : List Str, PD.strs? xs = some zs ∧ zs.length = xs.length ∧ (∀ z ∈ zs, z.length ≤ n) ∧ xs = zs.map .str
  | [], _ => ⟨[], rfl, rfl, (fun z hz => by cases hz), rfl⟩
  | d :: xs, h => by
    obtain ⟨z, rfl, hz⟩ := h d (by simp)
    obtain ⟨zs, e, l, b, r⟩ := strs_of (xs := xs) fun d hd => h d (by simp [hd])
    refine ⟨z :: zs, by simp [PD.strs?, e], by simp [l], fun y hy => ?_, by rw [r]; rfl⟩
    rcases List.mem_cons.mp hy with hy | hy
    · rw [hy]; exact hz
    · exact b y hy
theorem sum_le {n : Nat} : ∀ {zs : List Str}, (∀ z ∈ zs, z.length ≤ n) → (zs.map (·.length)).sum ≤ zs.length * n
  | [], _ => by simp
  | z :: zs, h => by
    have h1 := h z (by simp)
    have h2 := sum_le (zs := zs) fun y hy => h y (by simp [hy])
    rw [List.map_cons, List.sum_cons, List.length_cons, Nat.add_mul, Nat.one_mul]
    omega

theorem strjoin_len (sep : Str) : ∀ l : List Str, (PySem.Str.join sep l).length ≤ (l.map (·.length)).sum + l.length * sep.length
  | [] => Nat.zero_le _
  | [x] => by
    show x.length ≤ _
    simp
  | x :: z :: r => by
    have h := strjoin_len sep (z :: r)
    show (x ++ sep ++ PySem.Str.join sep (z :: r)).length ≤ _
    rw [str_append_len, str_append_len, List.map_cons, List.sum_cons, List.length_cons, Nat.add_mul, Nat.one_mul]
    omega
theorem join_len (sep : Str) (l : List Str) : (Txt.join sep l).length ≤ (l.map (·.length)).sum + l.length * sep.length := by
  show (Builtin.Str.glued sep l).length ≤ _
  rw [StrLaws.glued_eq_join]
  exact strjoin_len sep l
end Lw
end

section
set_option Elab.async false
set_option linter.all false
set_option maxRecDepth 100000
set_option maxHeartbeats 2000000
set_option autoImplicit false
/-! XA: an own exception whose __init__ says super().__init__(a text) and then stores its parameters. -/
namespace XA
open PySem PySem.W PySem.Calls PyProof.Rows PySem.HandSPX
/-! ### the text of such an __init__ -/
def supS (m : Str) (k3 : Nat) (p0 p1 p2 p3 p4 p5 : Pos) : Stmt := .Expr (.Call (.Attribute (.Call (.Name "super" p0) [] [] p1) "__init__" p2) [.Constant (.str m) k3 p3] [] p4) p5
structure P4 where
  a : Pos
  b : Pos
  c : Pos
  d : Pos
def stS (f : Str) (q : P4) : Stmt := .Assign [.Attribute (.Name "self" q.a) f q.b] (.Name f q.c) q.d
def stsS : List Str → List P4 → List Stmt
  | f :: fs, q :: qs => stS f q :: stsS fs qs
  | _, _ => []
/-- the body's shape -/
def InitB (m : Str) (fs : List Str) (body : List Stmt) : Prop := ∃ k3 p0 p1 p2 p3 p4 p5 qs, qs.length = fs.length ∧ (p2.endLine == p4.line) = true ∧ body = supS m k3 p0 p1 p2 p3 p4 p5 :: stsS fs qs
/-- what the written part says of the class at C -/
structure ClsT (P : Program) (K : Frag) (C fI : Addr) (m : Str) (fs : List Str) : Prop where
  cls : ∃ nm q N bs bm sn sub ab col dd k0 k1 k2 k3 k5, K.lookup C = some (excClassObj nm q C N bs bm true sn sub ab col dd k0 k1 k2 k3 k5 "ValueError.__new__") ∧ refsVE bm = true
  sa : findIn K (.ref C) "__setattr__" = some (some (.builtin "object.__setattr__"))
  noN : ∀ f ∈ fs, findIn K (.ref C) f = some none
  iC : findIn K (.ref C) "__init__" = some (some (.ref fI))
  tC : typeIn K (.ref fI) = some (.type "function")
  kC : keepIn K (.ref C) = true
  exC : subIn K (.ref C) (.type "BaseException") = some true
  veC : subIn K (.ref C) (.type "ValueError") = some true
  tyC : typeIn K (.ref C) = some (.type "type")
  hdC : hasDictIn K C = true
  meC : mroIn K C (.ref C) = some true
  sup : ks_superIn K C C "__init__" = some (some (.builtin "ValueError.__init__"))
  nsup : nsIn K mainGlobals "super" = some none
  ntp : nsIn K cStatics "thirdparty.any" = some none
  fn : ∃ (q : Str) (params : Arguments) (body : List Stmt) (scope : Scope) (oc : Value) (od : Option Addr) (doc pm : Value) (an : Option Addr) (cda cc : Addr) (ct : Value) (osl : Array (Option Value)),
    K.lookup fI = some ⟨oc, od, .func (ksFn "__init__" q params body scope .none .none doc pm an (.ref cda) ct cc), osl⟩ ∧ codeIn K (.ref cda) q = true ∧ InitB m fs body ∧
    (∃ ccl cdd vs ccs file tf, K.lookup cda = some ⟨ccl, cdd, .fields vs, ccs⟩ ∧ vs[2]? = some (.str file tf) ∧ ((P.main.file : Str) == file) = true) ∧
    (∃ cl cld csl, K.lookup cc = some ⟨cl, cld, .cell (some (.ref C)), csl⟩) ∧
    (∃ ar, (params.posonlyargs ++ params.args).head? = some ar ∧ ar.arg = "self") ∧
    (∀ (s : Shared) (us : List Value), us.length = (("self" : Str) :: fs).length → BindsTo s (ksFn "__init__" q params body scope .none .none doc pm an (.ref cda) ct cc) ⟨us, []⟩ ((("self" : Str) :: fs).zip us)) ∧
    scope.names.lookup ("super" : Str) = some .globalImplicit ∧ scope.names.lookup ("__class__" : Str) = some .free ∧ (∀ f ∈ ("self" : Str) :: fs, scope.names.lookup f = some .local) ∧ scope.kind = .function ∧
    (∀ x ∈ scope.names, x.2 ≠ .cell) ∧ scope.isCoroutine = false ∧ scope.isGenerator = false
  htop : (P.main.scope.names.lookup ("super" : Str)).isSome = false
  nd : (("self" : Str) :: fs).Nodup
  few : fs.length ≤ 50
  plainF : ∀ f ∈ fs, (f == ("__debug__" : Str)) = false
/-- what __init__ leaves of a fresh exception at x -/
structure InitEnd (h h' : Heap) (x C dx t1 : Addr) (fs : List Str) (us : List Value) : Prop where
  keep : ∀ b o, b ≠ x → h.get? b = some o → h'.get? b = some o
  obj : h'.get? x = some { cls := .ref C, dict := some dx, data := .fields #[.ref t1, .none, .none, .none, .bool false, .none] }
  dbig : h.objs.size ≤ dx
  dne : dx ≠ x
  ns : h'.Ns1 dx (fun y => (fs.zip us).reverse.lookup y)
structure OwnMade (h h' : Heap) (e C d : Addr) (fs : List Str) (us : List Value) : Prop where
  keep : ∀ b o, h.get? b = some o → h'.get? b = some o
  new : h.objs.size ≤ e
  obj : ∃ oe vs, h'.get? e = some oe ∧ oe.cls = .ref C ∧ oe.dict = some d ∧ oe.data = .fields vs ∧ vs[1]? = some .none
  dbig : h.objs.size ≤ d
  dne : d ≠ e
  ns : h'.Ns1 d (fun y => (fs.zip us).reverse.lookup y)
theorem he_of {o : Expr} {name : Str} {apos pos : Pos} {m : Str} {k : Nat} {p : Pos} {env : Env} (hl : (apos.endLine == pos.line) = true) : eval (.Call (.Attribute o name apos) [.Constant (.str m) k p] [] pos) env = (do
      let ov ← attributeBase o name env (eval o env)
      standAt apos.atName
      let (f, first) ← holding [ov] (getMethod ov name (do return (← importBound o env).getD true))
      callWith pos f first (backTo pos (starEach [.Constant (.str m) k p] env)) []) := by
  have hf : methodCallForm ([Expr.Constant (.str m) k p].length + ([] : List Keyword).length) (backTo pos (starEach [.Constant (.str m) k p] env)) (backToKw pos (keywordEach [] env)) = true := by rfl
  have hp : methodCallPos true o env apos pos = pure pos := by
    unfold methodCallPos
    rw [hl]
    rfl
  show (do
    let ov ← attributeBase o name env (eval o env)
    standAt apos.atName
    methodCall o name apos pos env ov ([Expr.Constant (.str m) k p].length + ([] : List Keyword).length) (backTo pos (starEach [.Constant (.str m) k p] env)) (backToKw pos (keywordEach [] env))) = _
  unfold methodCall
  rw [hf, hp]
  rfl
section
variable {P : Program} {w : World} {A : Around} {E : Value → Shared → Prop} {R : Result → Shared → Prop} {s : Shared} {K : Frag} {C fI : Addr} {m : Str} {fs : List Str}
theorem ldC {M : Model} {s : Shared} {env : Env} {mm : Str → Option Value} {x : Str} {pos : Pos} {v : Value} {Q : Value → Shared → Prop} {A : Around} {E : Value → Shared → Prop} (hn : s.heap.Ns env.locals mm) (hv : mm x = some v) (h : Q v s)
    (hk : env.scope.kind = .function) (hl : env.kindOf x = some .local) (hd : (x == ("__debug__" : Str)) = false) :
    wpAny M A (eval (.Name x pos) env) Q E s := wpAny_Name (wpAny_loadName_local hk hl hn hv h) hd
/-- the stores behind the first -/
theorem stores (T : ClsT P K C fI m fs) {env : Env} {mm : Str → Option Value} (hk : env.scope.kind = .function) {x t1 dx : Addr} (hxl : mm "self" = some (.ref x)) (hself : env.kindOf "self" = some .local) {Q : Flow → Shared → Prop} :
    ∀ (gs : List Str) (us : List Value) (qs : List P4) (m0 : Str → Option Value) (nl : List Str) (s : Shared), us.length = gs.length → qs.length = gs.length → (∀ g ∈ gs, g ∈ fs ∧ env.kindOf g = some .local) → (∀ p ∈ gs.zip us, mm p.1 = some p.2) → K.In s.heap →
      s.heap.get? x = some { cls := .ref C, dict := some dx, data := .fields #[.ref t1, .none, .none, .none, .bool false, .none] } → s.heap.Ns1 dx m0 → Within m0 nl → nl.length + gs.length ≤ 100 → s.heap.Ns env.locals mm → env.locals ≠ dx → dx ≠ x → K.lookup dx = none →
      (∀ h' tk', (∀ b o, b ≠ dx → s.heap.get? b = some o → h'.get? b = some o) → h'.Ns1 dx (fun y => match (gs.zip us).reverse.lookup y with | some v => some v | none => m0 y) → Q .next { s with heap := h', toks := tk' }) →
      wpAny (model P w) A (execs (stsS gs qs) env) Q E s := by
  obtain ⟨nm, q, N, bs, bm, sn, sub, ab, col, dd, k0, k1, k2, k3, k5, hC, hbm⟩ := T.cls
  have hcl : clsIn K C = some { name := nm, bases := bs, mro := .ref C :: bm, ns := N, qualname := q, hasDict := true, slotNames := sn, subclasses := sub, abstract := ab, collection := col, hasDel := false } := by unfold clsIn; rw [hC] <;> rfl
  intro gs
  induction gs with
  | nil =>
    intro us qs m0 nl s hl hq hg hm X hx hns hw hz hn hne hdx hdk k
    obtain ⟨hp, g, d, t, os⟩ := s
    cases us with
    | nil => exact wpAny_execs_nil (k hp t (fun b o _ e => e) hns)
    | cons u us => cases hl
  | cons f gs ih =>
    intro us qs m0 nl s hl hq hg hm X hx hns hw hz hn hne hdx hdk k
    cases us with
    | nil => cases hl
    | cons u us =>
      cases qs with
      | nil => cases hq
      | cons q4 qs =>
        obtain ⟨hff, hkf⟩ := hg f List.mem_cons_self
        have hmu : mm f = some u := hm (f, u) List.mem_cons_self
        obtain ⟨oD, esD, epD, hoD, hdD, _⟩ := hns.count hw
        obtain ⟨hp, g, d, t, os⟩ := s
        show wpAny _ _ (execs (stS f q4 :: stsS gs qs) env) _ _ _
        refine wpAny_execs_cons (plainObj_wpAny_Assign_Attribute ?_)
        refine ldC (v := u) hn hmu (ldC (v := .ref x) hn hxl ?_ hk hself (by decide)) hk hkf (T.plainF f hff)
        refine set_plain X (ox := { cls := .ref C, dict := some dx, data := .fields #[.ref t1, .none, .none, .none, .bool false, .none] }) (od := some oD) ⟨hx, rfl, rfl, hoD⟩ T.sa ?_
        refine PySem.OEX.osa_old X hx hns hw (by simp only [List.length_cons] at hz; omega) hcl (show refsVE (.ref C :: bm) = true from hbm) rfl (T.noN f hff) (fun h' tk' k1 hn1 => ?_)
        have X' : K.In h' := fun a o e => k1 a o (fun z => by rw [z, hdk] at e; cases e) (X a o e)
        have hw' : Within (fun y => if y = f then some u else m0 y) (f :: nl) := Within.cons f u hw
        obtain ⟨oL, esL, epL, hoL, rL⟩ := id hn
        refine ih us qs (fun y => if y = f then some u else m0 y) (f :: nl) ⟨h', g, d, tk', os⟩ (by simpa using hl) (by simpa using hq) (fun g hg' => hg g (List.mem_cons_of_mem _ hg')) (fun p hp => hm p (List.mem_cons_of_mem _ hp)) X'
          (k1 _ _ (Ne.symm hdx) hx) hn1 hw' (by simp only [List.length_cons] at hz ⊢; omega) ⟨oL, esL, epL, k1 _ _ hne hoL, rL⟩ hne hdx hdk (fun h2 tk2 k2 hn2 => ?_)
        refine k h2 tk2 (fun b o hb e => k2 b o hb (k1 b o hb e)) ?_
        have e : (fun y => match (gs.zip us).reverse.lookup y with | some v => some v | none => if y = f then some u else m0 y) = (fun y => match ((f :: gs).zip (u :: us)).reverse.lookup y with | some v => some v | none => m0 y) := by
          funext y
          rw [List.zip_cons_cons, List.reverse_cons, List.lookup_append]
          cases (gs.zip us).reverse.lookup y with
          | some v => rfl
          | none =>
            by_cases hy : y = f
            · subst hy
              simp [List.lookup]
            · have : (y == f) = false := by simpa using hy
              simp [List.lookup, this, hy]
        rw [← e]
        exact hn2

theorem init_run (T : ClsT P K C fI m fs) {mg : Str → Option Value} {base : Heap} (M : L2.Mod K mg base) (hbk : ∀ b o, base.get? b = some o → s.heap.get? b = some o) {x t0 : Addr} {us : List Value} (hf0 : fs ≠ []) (hl : us.length = fs.length) (hx : s.heap.get? x = some (excO C t0)) (hnx : K.lookup x = none)
    (hlim : s.heap.NoLimit) (hroom : A.depth < recursionLimit)
    (hq : ∀ h' tk dx t1, InitEnd s.heap h' x C dx t1 fs us → R (.ok (.ret .none)) { s with heap := h', toks := tk }) :
    codeAny (model P w) A (.call (.ref fI) ⟨.ref x :: us, []⟩) R s := by
  obtain ⟨q, params, body, scope, oc, od, doc, pm, an, cda, cc, ct, osl, ho, hcd, ⟨k3, p0, p1, p2, p3, p4, p5, qs, hqs, hline, rfl⟩, ⟨ccl, cdd, vs, ccs, file, tf, hcode, hvs, hfile⟩, ⟨cl, cld, csl, hcell⟩, ⟨ar, hp, har⟩, hbind, hks, hkc, hkl, hk, hnc, hco, hgen⟩ := T.fn
  have hCC := T.cls
  obtain ⟨nm, qq, N, bs, bm, sn, sub, ab, col, dd, c0, c1, c2, c3, c5, hC, hbm⟩ := hCC
  have hcls : clsIn K C = some { name := nm, bases := bs, mro := .ref C :: bm, ns := N, qualname := qq, hasDict := true, slotNames := sn, subclasses := sub, abstract := ab, collection := col, hasDel := false } := by unfold clsIn; rw [hC] <;> rfl
  have X : K.In s.heap := fun a o e => hbk a o (M.kin a o e)
  have hll : (Value.ref x :: us).length = (("self" : Str) :: fs).length := by simp [hl]
  have hxI : InstAt s.heap x (excO C t0) C none := ⟨hx, rfl, rfl, trivial⟩
  have hxC : x ≠ C := ks_ne X hxI hcls
  refine ks_codeAny_call_defAt (fd := ksFn "__init__" q params _ scope .none .none doc pm an (.ref cda) ct cc) (binds := (("self" : Str) :: fs).zip (Value.ref x :: us)) hroom (X _ _ ho) rfl hlim (codeRec_of X hcd) rfl (hbind s _ hll) hnc (fun z hz => ?_) (fun h1 hns hk1 => ?_) hco hgen hk
  · exact hkl _ (List.of_mem_zip hz).1
  obtain ⟨L, hL⟩ : ∃ L : Addr, L = s.heap.objs.size := ⟨_, rfl⟩
  rw [← hL] at hns ⊢
  obtain ⟨hp0, g, d, t, os⟩ := s
  dsimp only at *
  have X1 : K.In h1 := fun a o e => hk1 a o (X a o e)
  have hx1 := hk1 _ _ hx
  have env_k : (ksEnv q scope L fI (.ref cda) cc).scope.kind = .function := hk
  have env_l : ∀ f ∈ ("self" : Str) :: fs, (ksEnv q scope L fI (.ref cda) cc).kindOf f = some .local := hkl
  show _root_.PySem.wpAt (model P w) (A.deeper (ksEnv q scope L fI (.ref cda) cc)) (.func _ (ksEnv q scope L fI (.ref cda) cc)) (execs (supS m k3 p0 p1 p2 p3 p4 p5 :: stsS fs qs) (ksEnv q scope L fI (.ref cda) cc)) _ _ ⟨h1, g, d, _, os⟩
  refine ks_wpAt_execs_cons (ks_wpAt_Expr_any (ks_wpAt_MethodCall (pl := do return (← importBound (.Call (.Name "super" p0) [] [] p1) (ksEnv q scope L fI (.ref cda) cc)).getD true) ?_ (he_of hline)) (by show interactive (ksEnv q scope L fI (.ref cda) cc) = false; unfold interactive; rw [show (ksEnv q scope L fI (.ref cda) cc).scope.kind = .function from hk]; rfl) (by rfl))
  obtain ⟨oD, hD1, hD2⟩ : ∃ oD, h1.get? C = some oD ∧ ∃ cdD, oD.data = .cls cdD := ⟨_, X1 _ _ hC, _, rfl⟩
  obtain ⟨cdD, hD2⟩ := hD2
  have hmm : ∀ {f : Str} {v : Value}, (f, v) ∈ (("self" : Str) :: fs).zip (Value.ref x :: us) → ((("self" : Str) :: fs).zip (Value.ref x :: us)).reverse.lookup f = some v := fun {f v} hm => by
    have hnd : (((("self" : Str) :: fs).zip (Value.ref x :: us)).reverse.map Prod.fst).Nodup := by
      rw [List.map_reverse, List.map_fst_zip (by simp [hl])]
      exact (List.reverse_perm _).nodup_iff.mpr T.nd
    have : ∀ (l : List (Str × Value)), (l.map Prod.fst).Nodup → (f, v) ∈ l → l.lookup f = some v := fun l => by
      induction l with
      | nil => intro _ h; cases h
      | cons p l ih =>
        intro h1 h2
        obtain ⟨a, b⟩ := p
        rw [List.map_cons] at h1
        obtain ⟨n1, n2⟩ := List.nodup_cons.mp h1
        rcases List.mem_cons.mp h2 with e | e
        · cases e
          simp [List.lookup]
        · have hne : (f == a) = false := by
            refine beq_eq_false_iff_ne.mpr fun z => n1 ?_
            subst z
            exact List.mem_map.mpr ⟨_, e, rfl⟩
          simp only [List.lookup, hne]
          exact ih n2 e
    exact this _ hnd (List.mem_reverse.mpr hm)
  have hself : ((("self" : Str) :: fs).zip (Value.ref x :: us)).reverse.lookup ("self" : Str) = some (Value.ref x) := hmm (by simp)
  refine ks_wpAt_super_base (env := ksEnv q scope L fI (.ref cda) cc) hks hkc (by decide) rfl (X1 _ _ ho) rfl hp rfl (X1 _ _ hcode) rfl hvs hfile T.htop ?_
  obtain ⟨mb, hb1, hb2⟩ := M.blt
  have bk1 : ∀ b o, base.get? b = some o → h1.get? b = some o := fun b o e => hk1 b o (hbk b o e)
  refine ks_loadName_global hk hks (loadGlobal_builtin (env := ksEnv q scope L fI (.ref cda) cc) (M.glob.keeps bk1) (mg_none_of M.kin M.glob T.nsup) (hb1.keeps bk1) ((hb2 "super" (by decide)).trans (show bootBuiltins "super" = some (.type "super") from rfl)) ⟨rfl, ?_⟩)
  refine wpAny_loadName_free hk hkc rfl ⟨_, X1 _ _ hcell, rfl⟩ ?_
  rw [har]
  refine wpAny_loadName_local hk (hkl _ List.mem_cons_self) hns hself ?_
  refine ks_wpAny_isType_cls hD1 hD2 ⟨rfl, ?_⟩
  refine ks_wpAny_call_super hD1 hD2 hx1 rfl (fun c e => by cases e) (looks_mroIn X1 T.meC) (fun h2 e2 k2 => ?_)
  have X2 : K.In h2 := fun a o e => k2 a o (X1 a o e)
  have hsupe : (clsIn K C).bind (fun cd => alongIn K "__init__" ((cd.mro.dropWhile (· != .ref C)).drop 1)) = some (some (.builtin "ValueError.__init__")) := T.sup
  rw [hcls, Option.bind_some] at hsupe
  refine kxs_getMethod kxs_ValueError e2 (looks_opaque X2 T.ntp) (l₀ := .ref C :: bm) ?_ rfl X2 hsupe ((show InstAt h2 x (excO C t0) C none from ⟨k2 _ _ hx1, rfl, rfl, trivial⟩).type.andThen (looks_subIn X2 T.veC)) hxC (by decide) ?_
  · exact fun A Q E s k q => wpAny_bind ((looks_clsIn X2 hcls) A _ E s k (wpAny_pure q))
  -- the wrapper is called
  have e3 : ∀ (h3 : Heap), h3 = h2.push (kxs_mw "ValueError.__init__" x) → h3.get? h2.objs.size = some (kxs_mw "ValueError.__init__" x) ∧ ∀ b o, h2.get? b = some o → h3.get? b = some o := fun h3 e => by
    subst e
    exact ⟨Heap.get?_push_at rfl rfl, fun b o q => Heap.get?_push_of_some _ q⟩
  obtain ⟨h3, hh3⟩ : ∃ h3, h3 = h2.push (kxs_mw "ValueError.__init__" x) := ⟨_, rfl⟩
  obtain ⟨hu3, k3'⟩ := e3 h3 hh3
  rw [← hh3]
  have X3 : K.In h3 := fun a o e => k3' a o (X2 a o e)
  have hx3 := k3' _ _ (k2 _ _ hx1)
  refine kxs_callWith (i := "ValueError.__init__") (x := x) rfl (evalArgs_plain ?_)
  refine Calls.spliced_cons (Calls.Constant_str (k := k3) (pos := p3) (Calls.spliced_nil ⟨hu3, ?_⟩))
  refine wpAny_call (codeAny_of_tree ?_)
  show wpAny _ _ (callAny (.ref h2.objs.size) ⟨_, []⟩) _ _ _
  simp only [callAny]
  refine wpAny_bind (wpAny_load hu3 ?_)
  simp only [kxs_mw, show (Value.type "method-wrapper" == Value.type "method" || Value.type "method-wrapper" == Value.type "builtin_function_or_method" || Value.type "method-wrapper" == Value.type "method-wrapper") = true by decide, if_true]
  refine KFB.if_so (by decide) ?_
  refine wpAny_bind (check_bound_init F.excBase_ValueError.toExcCallFacts (X3 _ _ hC) hx3 rfl ?_)
  refine wpAny_bind (wpAny_pure (wpAny_pure ?_))
  refine ⟨plainId_quiet F.excBase_ValueError.init.plain _, codeAny_builtin F.excBase_ValueError.initEntry ?_⟩
  refine exc_init_tree (cls := .ref C) (t0 := t0) (dv := none) (c2 := .none) (c3 := .none) (b4 := .bool false) hx3 (by show 1 ≤ sizeLine; rw [sizeLine_eq]; omega) (fun h4 k4 hx4 _ => ?_)
  show _root_.PySem.wpAt (model P w) (A.deeper (ksEnv q scope L fI (Value.ref cda) cc)) _ (execs (stsS fs qs) (ksEnv q scope L fI (Value.ref cda) cc)) _ _ _
  refine wpAt_of_wpAny ?_
  have keepAll : ∀ b o, b ≠ x → hp0.get? b = some o → h4.get? b = some o := fun b o hb e => k4 b o hb (k3' b o (k2 b o (hk1 b o e)))
  have X4 : K.In h4 := fun a o e => keepAll a o (fun z => by rw [z, hnx] at e; cases e) (X a o e)
  have hLx : L ≠ x := by rw [hL]; exact Nat.ne_of_gt (Heap.lt_size hx)
  obtain ⟨oL, esL, epL, hoL, rL⟩ := hns
  have hns4 : h4.Ns L (fun y => ((("self" : Str) :: fs).zip (Value.ref x :: us)).reverse.lookup y) := ⟨oL, esL, epL, k4 _ _ hLx (k3' _ _ (k2 _ _ hoL)), rL⟩
  have hszL : hp0.objs.size < h4.objs.size := by
    rw [← hL]
    exact Heap.lt_size (k4 _ _ hLx (k3' _ _ (k2 _ _ hoL)))
  cases hfs : fs with
  | nil => exact absurd hfs hf0
  | cons f0 gs =>
    rw [hfs] at hl hqs
    cases hus : us with
    | nil => rw [hus] at hl; cases hl
    | cons u0 vs =>
      cases hqq : qs with
      | nil => rw [hqq] at hqs; cases hqs
      | cons q0 qs' =>
        rw [hus] at hl
        rw [hqq] at hqs
        have hkf : ∀ f ∈ fs, (ksEnv q scope L fI (.ref cda) cc).kindOf f = some .local := fun f hf => env_l f (List.mem_cons_of_mem _ hf)
        have hmem : ∀ p ∈ fs.zip us, ((("self" : Str) :: fs).zip (Value.ref x :: us)).reverse.lookup p.1 = some p.2 := fun p hp => hmm (List.mem_cons_of_mem _ hp)
        rw [hfs, hus] at hmem
        have hf0' : f0 ∈ fs := by rw [hfs]; exact List.mem_cons_self
        show wpAny _ _ (execs (stS f0 q0 :: stsS gs qs') _) _ _ _
        refine wpAny_execs_cons (plainObj_wpAny_Assign_Attribute ?_)
        refine ldC (v := u0) hns4 (by rw [hfs, hus]; exact hmem (f0, u0) List.mem_cons_self) (ldC (v := .ref x) hns4 hself ?_ hk (env_l _ List.mem_cons_self) (by decide)) hk (hkf f0 hf0') (T.plainF f0 hf0')
        refine set_plain X4 (ox := excO C h3.objs.size) (od := none) ⟨hx4, rfl, rfl, trivial⟩ T.sa ?_
        refine exc_osa X4 hx4 hcls (show refsVE (.ref C :: bm) = true from hbm) rfl (T.noN f0 hf0') (fun h5 tk5 dx k5 dn dne hx5 hn5 => ?_)
        have hdb : hp0.objs.size ≤ dx := Nat.le_trans (Nat.le_of_lt hszL) dn
        have hLd : L ≠ dx := fun z => by
          have h1 : L < h4.objs.size := Heap.lt_size (k4 _ _ hLx (k3' _ _ (k2 _ _ hoL)))
          have h2 : h4.objs.size ≤ dx := dn
          rw [z] at h1
          exact absurd h1 (Nat.not_lt.mpr h2)
        have X5 : K.In h5 := fun a o e => k5 a o (fun z => by rw [z, hnx] at e; cases e) (X4 a o e)
        have hdk : K.lookup dx = none := by
          cases e : K.lookup dx with
          | none => rfl
          | some o => exact absurd (Heap.lt_size (X4 _ _ e)) (Nat.not_lt.mpr dn)
        have few := T.few
        rw [hfs] at few
        refine stores T (env := ksEnv q scope L fI (.ref cda) cc) (mm := fun y => ((("self" : Str) :: fs).zip (Value.ref x :: us)).reverse.lookup y) hk hself (env_l _ List.mem_cons_self) gs vs qs' _ [f0] _ (by simpa using hl) (by simpa using hqs) (fun g hg => ⟨by rw [hfs]; exact List.mem_cons_of_mem _ hg, hkf g (by rw [hfs]; exact List.mem_cons_of_mem _ hg)⟩)
          (fun p hp => by rw [hfs, hus]; exact hmem p (List.mem_cons_of_mem _ hp)) X5 hx5 hn5 (Within.cons f0 u0 Within.nil) (by simp only [List.length_cons, List.length_nil] at few ⊢; omega) ⟨oL, esL, epL, k5 _ _ hLx (k4 _ _ hLx (k3' _ _ (k2 _ _ hoL))), rL⟩ hLd dne hdk (fun h6 tk6 k6 hn6 => ?_)
        refine hq h6 tk6 dx h3.objs.size ⟨fun b o hb e => k6 b o ?_ (k5 b o hb (keepAll b o hb e)), k6 _ _ (Ne.symm dne) hx5, hdb, dne, ?_⟩
        · exact Nat.ne_of_lt (Nat.lt_of_lt_of_le (Heap.lt_size e) hdb)
        · rw [hfs, hus]
          have e : (fun y => match (gs.zip vs).reverse.lookup y with | some v => some v | none => if y = f0 then some u0 else none) = (fun y => ((f0 :: gs).zip (u0 :: vs)).reverse.lookup y) := by
            funext y
            rw [List.zip_cons_cons, List.reverse_cons, List.lookup_append]
            cases (gs.zip vs).reverse.lookup y with
            | some v => rfl
            | none =>
              by_cases hy : y = f0
              · subst hy
                simp [List.lookup]
              · have : (y == f0) = false := by simpa using hy
                simp [List.lookup, this, hy]
          rw [← e]
          exact hn6
theorem own_made (T : ClsT P K C fI m fs) {mg : Str → Option Value} {base : Heap} (M : L2.Mod K mg base) (hbk : ∀ b o, base.get? b = some o → s.heap.get? b = some o) {us : List Value} (hf0 : fs ≠ []) (hl : us.length = fs.length)
    (hlim : s.heap.NoLimit) (hroom : A.depth + 1 < recursionLimit)
    (hq : ∀ h' tk e d, OwnMade s.heap h' e C d fs us → R (.ok (.ret (.ref e))) { s with heap := h', toks := tk }) :
    codeAny (model P w) A (.call (.ref C) ⟨us, []⟩) R s := by
  obtain ⟨nm, q, N, bs, bm, sn, sub, ab, col, dd, k0, k1, k2, k3, k5, hC, hbm⟩ := T.cls
  obtain ⟨hp, g, dr, tk, os⟩ := s
  have X : K.In hp := fun a o e => hbk a o (M.kin a o e)
  have k : ∀ b o, hp.get? b = some o → ((hp.push (kdv_tup us)).push (excO C hp.objs.size)).get? b = some o := fun b o e => Heap.get?_push_of_some _ (Heap.get?_push_of_some _ e)
  have hget : ((hp.push (kdv_tup us)).push (excO C hp.objs.size)).get? (hp.objs.size + 1) = some (excO C hp.objs.size) := by heap_get
  have hnx : K.lookup (hp.objs.size + 1) = none := by
    cases e : K.lookup (hp.objs.size + 1) with
    | none => rfl
    | some o =>
      have z : hp.get? (hp.objs.size + 1) = some o := X _ _ e
      exact absurd (Nat.lt_of_succ_lt (Heap.lt_size z)) (Nat.lt_irrefl _)
  have hsz : us.length ≤ sizeLine := by
    have := T.few
    rw [sizeLine_eq]
    omega
  refine call_own F.excBase_ValueError (fun X => refsVE_contains X bm hbm) (X _ _ hC) (looks_findIn X T.iC) (fun self => bind_fn X self T.tC) hsz ?_
  refine init_run (s := ⟨(hp.push (kdv_tup us)).push (excO C hp.objs.size), g, dr, tk, os⟩) T M (fun b o e => k b o (hbk b o e)) hf0 hl hget hnx (hlim.keeps k) ?_ fun h' tk' dx t1 ⟨k', hx, dn, dne, hns⟩ => ?_
  · show A.depth + 1 < recursionLimit
    exact hroom
  · have old : ∀ b o, hp.get? b = some o → h'.get? b = some o := fun b o e => k' b o (Nat.ne_of_lt (Nat.lt_succ_of_lt (Heap.lt_size e))) (k b o e)
    have z : hp.objs.size + 1 + 1 ≤ dx := by
      first
        | (simpa only [Heap.size_push] using dn)
        | exact dn
        | (have q := dn; rw [Heap.size_push, Heap.size_push] at q; exact q)
    exact ⟨rfl, hq h' tk' (hp.objs.size + 1) dx ⟨old, Nat.le_succ _, ⟨_, _, hx, rfl, rfl, rfl, rfl⟩, Nat.le_trans (Nat.le_trans (Nat.le_succ _) (Nat.le_succ _)) z, dne, hns⟩⟩
end
end XA
end

section
set_option Elab.async false
set_option linter.all false
set_option maxRecDepth 100000
set_option maxHeartbeats 4000000
set_option autoImplicit false
/-! XB: raise C(..) and try .. except, for the layer PD. -/
namespace XB
open PySem PySem.Spec L2 PD
open PyProof.Rows hiding St
/-! ### C(e, ..) -/
def tMkN (C : Addr) (fs : List Str) (ta : TA) : St → Hp → XK → Prop := fun σ H Q => ta σ H fun vs H1 => vs.length = fs.length ∧ ∀ d, H1 d = none → Q (.ref C) (some d) (upd H1 d (.xd (fs.zip vs)))
theorem look_cons {β : Type} (f g : Str) (y : β) (l : List (Str × β)) : ((f, y) :: l).lookup g = if g = f then some y else l.lookup g := by
  by_cases h : g = f
  · subst h
    simp [List.lookup]
  · have e : (g == f) = false := beq_eq_false_iff_ne.mpr h
    rw [if_neg h]
    simp [List.lookup, e]
theorem zip_rel : ∀ {fs : List Str} {vs : List V} {us : List Value}, Vals vs us → ∀ f, RelO ((fs.zip vs).lookup f) ((fs.zip us).lookup f)
  | [], _, _, _, f => by simp [List.zip, RelO]
  | _ :: _, _, _, .nil, f => by simp [List.zip, RelO]
  | g :: fs, _, _, .cons r t, f => by
    rw [List.zip_cons_cons, List.zip_cons_cons, look_cons, look_cons]
    split
    · exact r
    · exact zip_rel t f
theorem lookup_of_mem {β : Type} {f : Str} {v : β} : ∀ {l : List (Str × β)}, (l.map Prod.fst).Nodup → (f, v) ∈ l → l.lookup f = some v
  | [], _, h => by cases h
  | (a, b) :: l, h1, h2 => by
    rw [List.map_cons] at h1
    obtain ⟨n1, n2⟩ := List.nodup_cons.mp h1
    rcases List.mem_cons.mp h2 with e | e
    · cases e
      simp [List.lookup]
    · have hne : (f == a) = false := beq_eq_false_iff_ne.mpr fun z => n1 (by subst z; exact List.mem_map.mpr ⟨_, e, rfl⟩)
      simp only [List.lookup, hne]
      exact lookup_of_mem n2 e
theorem mem_of_look {β : Type} {f : Str} {v : β} : ∀ {l : List (Str × β)}, l.lookup f = some v → (f, v) ∈ l
  | [], h => by cases h
  | (a, b) :: l, h => by
    by_cases e : f = a
    · subst e
      simp [List.lookup] at h
      subst h
      exact List.mem_cons_self
    · have hne : (f == a) = false := beq_eq_false_iff_ne.mpr e
      simp only [List.lookup, hne] at h
      exact List.mem_cons_of_mem _ (mem_of_look h)
theorem lookup_rev {β : Type} (f : Str) {l : List (Str × β)} (h : (l.map Prod.fst).Nodup) : l.reverse.lookup f = l.lookup f := by
  have h' : (l.reverse.map Prod.fst).Nodup := by rw [List.map_reverse]; exact (List.reverse_perm _).nodup_iff.mpr h
  cases e : l.lookup f with
  | some v => exact lookup_of_mem h' (List.mem_reverse.mpr (mem_of_look e))
  | none =>
    cases e2 : l.reverse.lookup f with
    | none => rfl
    | some v =>
      have := lookup_of_mem h (List.mem_reverse.mp (mem_of_look e2))
      rw [e] at this
      cases this
section
variable {X : Cx} {C fI : Addr} {m x : Str} {fs : List Str}
theorem pmk_sup {a : Expr} {es : List Expr} {ta : TA} {p pos : Pos} {k : Nat} (T : XA.ClsT X.prog X.K C fI m fs) (gC : X.mg x = some (.ref C)) (hf0 : fs ≠ []) (hr : RoomX k X.A) (ha : PA X (a :: es) ta) (hg : Gl X x)
    (hdb : (x == ("__debug__" : Str)) = false) (he : starEach (a :: es) X.env = (false, eval a X.env) :: starEach es X.env) (hpl : (backTo pos (starEach es X.env)).any (·.1) = false) :
    PMk X (.Call (.Name x p) (a :: es) [] pos) (tMkN C fs ta) := by
  intro pins s σ H Q I h
  refine wpAny_Call_Name_kw (ld_glob I hg gC ?_ hdb)
  refine PySem.W.callWith_K (h₀ := X.base) I.ok.mod.kin T.kC (thn (ha.run pos pins s σ H _ I h) fun us s1 ⟨vs, H1, I1, r1, hl, q1⟩ => ⟨I1.kIn, ?_⟩) he hpl
  show wpAny _ _ (call (.ref C) us) _ _ _
  have hlim := I1.nolimit
  have hlu : us.length = fs.length := by rw [← Paired.length r1]; exact hl
  have bk : ∀ b o, X.base.get? b = some o → s1.heap.get? b = some o := fun b o e => (I1.bs b o e).1
  obtain ⟨hp, g, dr, tk, os⟩ := s1
  refine wpAny_call (XA.own_made T I.ok.mod bk hf0 hlu hlim (by have := hr.dp; omega) fun h' tk' e d M => ?_)
  show MkP X pins σ Q (.ref e) ⟨h', g, dr, tk', os⟩
  obtain ⟨oe, fv, hoe, hc, hd, hdat, h1⟩ := M.obj
  obtain ⟨G', g1, g2⟩ := restrict h' fun b => decide (b ≠ e)
  have gk : ∀ b, b ≠ e → G'.get? b = h'.get? b := fun b hb => g1 b (decide_eq_true hb)
  have ge : G'.get? e = none := g2 e (by simp)
  have old : ∀ b o, hp.get? b = some o → G'.get? b = some o := fun b o q => (gk b (Nat.ne_of_lt (Nat.lt_of_lt_of_le (Heap.lt_size q) M.new))).trans (M.keep b o q)
  have hnd : ((fs.zip us).map Prod.fst).Nodup := by
    rw [List.map_fst_zip (by omega)]
    exact (List.nodup_cons.mp T.nd).2
  have ob : ObjOk X.prog X.w (upd H1 d (.xd (fs.zip vs))) G' d (.xd (fs.zip vs)) :=
    ⟨_, M.ns.at (fun o q => (gk d M.dne).trans q), fun f => by rw [lookup_rev f hnd]; exact zip_rel r1 f⟩
  have J : Inv X pins σ (upd H1 d (.xd (fs.zip vs))) ⟨G', g, dr, tk', os⟩ := I1.laid (t' := tk') old M.dbig ob
  refine ⟨e, oe, fv, ⟨G', g, dr, tk', os⟩, _, .ref C, some d, rfl, J, fun b o q => ?_, ge, hoe, ⟨hc, hd⟩, hdat, h1, ?_, rfl, I1.bare, raises_own T.exC T.tyC, q1 d (I1.hok.fresh M.dbig)⟩
  · by_cases hb : b = e
    · have q' : G'.get? b = some o := q
      rw [hb, ge] at q'; cases q'
    · exact (gk b hb).symm.trans q
  · rw [upd_ne (Ne.symm M.dne)]
    exact I1.hok.fresh M.new
end
/-! ### raise C(e, ..) in PD -/
def throwM (x : Xn) : M Fl := fun s => .ex x s
def raiseM (cls : Str) (fs : List Str) (fm : M (List Op)) : M Fl := fm >>= fun os => frzAll os >>= fun ds => throwM ⟨cls, fs.zip ds⟩
section
variable {K : PySem.W.Frag} {B : Bd} {F H : Hp} {γ : Option Addr} {s : Sg} {σ : St}
theorem rel_xd (R : Rel K B F γ s σ H) {p : Addr} {fs : List (Str × V)} (n : H p = none) :
    Rel K B (upd F p (.xd fs)) γ s σ (upd H p (.xd fs)) ∧ Stp F γ s σ H (upd F p (.xd fs)) s (upd H p (.xd fs)) := by
  have hk : ∀ a u, H a = some u → upd H p (.xd fs) a = some u := fun a u e => by rw [upd_ne (ne_of_none e n)]; exact e
  have fm : Le F (upd F p (.xd fs)) := le_upd (R.f_none n)
  refine (rel_grow R (g' := s.g) fm (fun a u e => ?_) (fun a u e => ?_) (fun a u e _ => hk a u e) (fun a u e => ⟨u, hk a u e⟩) (R.gnew fm hk))
  · by_cases h : a = p
    · subst h; rw [upd_same] at e ⊢; exact e
    · rw [upd_ne h] at e ⊢; exact R.fh a u e
  · by_cases h : a = p
    · subst h; exact .inr n
    · rw [upd_ne h] at e; exact .inl e
end
theorem zip_paired {K : PySem.W.Frag} {F : Hp} : ∀ {fs : List Str} {vs : List V} {ds : List D}, DqAll K F vs ds → Paired (fun (p : Str × V) (q : Str × D) => p.1 = q.1 ∧ Dq K F p.2 q.2) (fs.zip vs) (fs.zip ds)
  | [], _, _, _ => .nil
  | _ :: _, _, _, .nil => .nil
  | f :: fs, _, _, .cons h t => .cons ⟨rfl, h⟩ (zip_paired t)
section
variable {X : Cx} {B : Bd} {C fI : Addr} {m x : Str} {fs : List Str} {fm : M (List Op)}
theorem ds_raise {a : Expr} {es : List Expr} {p pos pos2 : Pos} {k : Nat} (hc : X.calm = true) (tk : Takes X B.W) (T : XA.ClsT X.prog X.K C fI m fs) (gC : X.mg x = some (.ref C)) (hf0 : fs ≠ []) (hr : RoomX k X.A) (hg : Gl X x) (ha : DA X B (a :: es) fm) (hn : (a :: es).length = fs.length) (hlen : LenA fm (a :: es).length)
    (hdb : (x == ("__debug__" : Str)) = false := by decide) (he : starEach (a :: es) X.env = (false, eval a X.env) :: starEach es X.env := by rfl) (hpl : (backTo pos (starEach es X.env)).any (·.1) = false := by rfl) :
    DS X B (.Raise (some (.Call (.Name x p) (a :: es) [] pos)) none pos2) (raiseM x fs fm) := by
  refine ⟨fun F γ s σ H E R h => ?_⟩
  refine wS_of (ps_raise hc tk (pmk_sup T gC hf0 hr pa_w hg hdb he hpl)) ?_
  refine ha.run F γ s σ H R _ ?_
  unfold raiseM at h
  cases e0 : fm s with
  | bad => rw [bind_bad e0] at h; exact h.elim
  | ex y s1 =>
    rw [bind_of_ex e0] at h
    exact fun cls d F' H' st R' xo => h cls d F' γ σ H' st.fm R' xo
  | ok os s1 =>
    rw [bind_of e0] at h
    intro F1 H1 st1 R1 vs hvs
    cases e : frzAll os s1 with
    | ex y s2 => exact (frzAll_noex y s2 e).elim
    | bad => rw [bind_bad e] at h; exact h.elim
    | ok ds s2 =>
      rw [bind_of e] at h
      obtain ⟨F2, f2, R2, hds, st2, _⟩ := frzAll_ok R1 st1 hvs.pw e
      have hl : vs.length = fs.length := by
        have := Paired.length hvs.pw
        have := hlen _ _ _ e0
        omega
      refine ⟨hl, fun d hd => ?_⟩
      obtain ⟨R3, st3⟩ := rel_xd R2 (fs := fs.zip vs) hd
      exact h (.ref C) (some d) _ γ σ _ (st2.fm.trans st3.fm) R3 ⟨C, gC, rfl, fs.zip vs, upd_same, upd_same, L2.Paired.mapP (zip_paired hds) fun _ _ z => ⟨z.1, z.2.mono st3.fm⟩⟩
end
end XB
end

section
set_option Elab.async false
set_option linter.all false
set_option maxRecDepth 100000
set_option maxHeartbeats 4000000
set_option autoImplicit false
/-! XC: try with several clauses, each with or without a name. -/
namespace XB
open PySem PySem.Spec L2 PD
open PyProof.Rows hiding St
/-! ### the reading -/
abbrev Cls := Value × Option Nat × List Stmt
def gone (i : Nat) (D : Ends) : Ends := { nx := fun σ H => D.nx (σ.set i none) H, rt := D.rt, bk := fun σ H => D.bk (σ.set i none) H, ct := fun σ H => D.ct (σ.set i none) H }
/-- a suite that runs while the exception at a is handled -/
def wSu (X : Cx) (suite : List Stmt) (a : Addr) (cls : Value) (d : Option Addr) : TS := fun D σ H => ∀ (oe : Obj) (pn : List (Addr × Obj)), Zc cls d oe → (∃ vs, oe.data = .fields vs) → wSs (X.suite a ((a, oe) :: pn)) suite D σ H
def wMix (X : Cx) (Wout : WX) (D : Ends) : List Cls → WX
  | [] => Wout
  | (c, none, su) :: r => fun cls d σ H => ∃ b, PySem.W.exmOne X.K cls c = some b ∧ (b = true → ∀ a, H a = none → wSu X su a cls d D σ H) ∧ (b = false → wMix X Wout D r cls d σ H)
  | (c, some i, su) :: r => fun cls d σ H => ∃ b, PySem.W.exmOne X.K cls c = some b ∧ (b = true → ∀ a, H a = none → wSu X su a cls d (gone i D) (σ.set i (some (.ref a))) H) ∧ (b = false → wMix X Wout D r cls d σ H)
inductive MixOk (X : Cx) : List ExceptHandler → List Cls → Prop
  | nil : MixOk X [] []
  | only {x : Str} {c : Value} {b₀ : Stmt} {su : List Stmt} {np q : Pos} {hs : List ExceptHandler} {l : List Cls} (hc : Names X x c) (r : MixOk X hs l) : MixOk X (.ExceptHandler (some (.Name x np)) none (b₀ :: su) q :: hs) ((c, none, b₀ :: su) :: l)
  | as {x n : Str} {i : Nat} {c : Value} {b₀ : Stmt} {su : List Stmt} {np q : Pos} {hs : List ExceptHandler} {l : List Cls} (hc : Names X x c) (hi : X.N[i]? = some n) (hl : X.env.kindOf n = some .local) (r : MixOk X hs l) :
      MixOk X (.ExceptHandler (some (.Name x np)) (some n) (b₀ :: su) q :: hs) ((c, some i, b₀ :: su) :: l)
section
variable {X : Cx} {pins : List (Addr × Obj)} {σ : St} {H : Hp} {D : Ends} {Wout : WX}
/-- the clauses, one after the other -/
theorem mix_run (hN : X.N.Nodup) (hs : X.stack = X.env :: X.outer) (hf : X.env.frame = some X.env.locals) (tk : Takes X Wout) {a : Addr} {B : Heap} {cls : Value} {d : Option Addr} {sI s : Shared} (J : Inv X pins σ H sI) (nb : ∀ b o, sI.heap.get? b = some o → b ∉ frs X.stack → B.get? b = some o)
    (up : sI.heap.UpToSlots s.heap) (fl : HandSPX.FlyingZ B (X.env :: X.outer) a (Zc cls d) s.heap) (na : H a = none) (os : s.os = sI.os) (ag : AllBare s.gens) :
    ∀ {hs' : List ExceptHandler} {l : List Cls}, MixOk X hs' l → wMix X Wout D l cls d σ H → wpAny (model X.prog X.w) X.A (handleBy (.ref a) X.env hs') (SP X pins D) X.xe s := by
  have out : ∀ {h : Heap} {o : Obj} {vs : Array Value}, h.FunFrames B (X.env :: X.outer) → h.get? a = some o → o.data = .fields vs → a ∉ frs (X.env :: X.outer) := fun {h o vs} ff e dd hm => by
    obtain ⟨_, u, e', hnf⟩ := ff.mem hm
    rw [e] at e'
    cases e'
    exact hnf _ dd
  obtain ⟨oe0, vs0, he0, hz0, hd0⟩ := fl.there
  have nfr := out fl.2.2.1 he0 hd0
  have nL : a ≠ X.env.locals := fun z => nfr (List.mem_filterMap.mpr ⟨X.env, List.mem_cons_self, by rw [hf, z]⟩)
  have nF : a ∉ X.fs := fun hm => by
    obtain ⟨e, he, q⟩ := List.mem_filterMap.mp hm
    exact nfr (List.mem_filterMap.mpr ⟨e, List.mem_cons_of_mem _ he, q⟩)
  have J0 : Inv X pins σ H s := by
    have := J.landed nb fl.1 up os ag
    exact this
  have S0 := J0.suite he0 hd0 na nL nF
  have test : ∀ {x : Str} {c : Value} {np : Pos}, Names X x c → ∀ {Q : Value → Shared → Prop} {E : Value → Shared → Prop}, Q c s → wpAny (model X.prog X.w) (X.A.mark (some (.ref a))) (eval (.Name x np) X.env) Q E s := fun {x c np} hc {Q E} q => by
    obtain ⟨hg, hdbg, hm | ⟨hm, hv, hnn⟩⟩ := hc
    · exact ld_glob (X := X.suite a ((a, oe0) :: (X.pn ++ pins))) S0 hg hm q hdbg
    · exact ld_blt (X := X.suite a ((a, oe0) :: (X.pn ++ pins))) S0 hg hm hv q hnn hdbg
  have fl' : PX.FlyingZ B (X.env :: X.outer) a (Zc cls d) s.heap := fl
  have inv4 : ∀ {h4 : Heap}, PX.FlyingZ B (X.env :: X.outer) a (Zc cls d) h4 → s.heap.UpToSlots h4 → ∃ oe4 : Obj, Zc cls d oe4 ∧ (∃ vs, oe4.data = .fields vs) ∧ Inv (X.suite a ((a, oe4) :: (X.pn ++ pins))) [] σ H { s with heap := h4 } := fun {h4} f4 u4 => by
    have f4' : HandSPX.FlyingZ B (X.env :: X.outer) a (Zc cls d) h4 := f4
    obtain ⟨oe4, vs4, he4, hz4, hd4⟩ := f4'.there
    have J4 : Inv X pins σ H { s with heap := h4 } := J.landed nb f4'.1 (up.trans u4) os ag
    exact ⟨oe4, hz4, ⟨_, hd4⟩, J4.suite he4 hd4 na nL nF⟩
  intro hs' l hk
  induction hk with
  | nil =>
    intro w
    refine PX.no_clauseZ hf fl' fun h4 hh4 u4 => tk _ _ ?_
    exact ⟨a, B, sI, pins, σ, H, cls, d, rfl, J, nb, up.trans u4, .inr (.inr (by rw [hs]; exact hh4)), na, os, ag, w⟩
  | only hc r ih =>
    intro w
    obtain ⟨b, hb, hyes, hno⟩ := w
    cases b with
    | false => exact PX.clause_passZ J0.kIn (fun o z => z.1) fl' hb (test hc) (ih (hno rfl))
    | true =>
      refine PX.clause_onlyZ J0.kIn (fun o z => z.1) fl' hb (test hc) fun h4 f4 u4 => ?_
      obtain ⟨oe4, hz4, hd4, S4⟩ := inv4 f4 u4
      refine wpAny_mono (hyes rfl a na oe4 (X.pn ++ pins) hz4 hd4 [] _ S4) (fun f s6 hsp => ?_) (fun _ _ z => False.elim z)
      cases f with
      | next => obtain ⟨σ6, H6, S6, q6⟩ := hsp; exact ⟨_, _, S6.unsuite J.ok, q6⟩
      | brk => obtain ⟨σ6, H6, S6, q6⟩ := hsp; exact ⟨_, _, S6.unsuite J.ok, q6⟩
      | cont => obtain ⟨σ6, H6, S6, q6⟩ := hsp; exact ⟨_, _, S6.unsuite J.ok, q6⟩
      | ret u => obtain ⟨v6, σ6, H6, S6, r6, q6⟩ := hsp; exact ⟨_, _, _, S6.unsuite J.ok, r6, q6⟩
  | @as x n i c b₀ su np q hs2 l2 hc hi hl r ih =>
    intro w
    obtain ⟨b, hb, hyes, hno⟩ := w
    cases b with
    | false => exact PX.clause_passZ J0.kIn (fun o z => z.1) fl' hb (test hc) (ih (hno rfl))
    | true =>
      refine PX.clause_asZ J0.kIn (fun o z => z.1) fl' hb (test hc) fun h4 f4 u4 => ?_
      obtain ⟨oe4, hz4, hd4, S4⟩ := inv4 f4 u4
      refine store_ok (X := X.suite a ((a, oe4) :: (X.pn ++ pins))) (v := .ref a) S4 hN hi (.inl hl) rfl (fun s5 S5 => ?_) (.inr hl)
      refine wpAny_mono (hyes rfl a na oe4 (X.pn ++ pins) hz4 hd4 [] _ S5) (fun f s6 hsp => ?_) (fun _ _ z => False.elim z)
      have end_ : ∀ {σ6 : St} {H6 : Hp} {Q : Shared → Prop}, Inv (X.suite a ((a, oe4) :: (X.pn ++ pins))) [] σ6 H6 s6 → (∀ s7, Inv X pins (σ6.set i none) H6 s7 → Q s7) →
          wpAny (model X.prog X.w) X.A (do bindName X.env n .none; unbindBehindTheSuite X.env n q) (fun _ s7 => Q s7) X.xe s6 := fun {σ6 H6 Q} S6 hq => gone_ok (S6.unsuite J.ok) hN hi hl hq
      cases f with
      | next => obtain ⟨σ6, H6, S6, q6⟩ := hsp; exact end_ S6 fun s7 J7 => ⟨_, _, J7, q6⟩
      | brk => obtain ⟨σ6, H6, S6, q6⟩ := hsp; exact end_ S6 fun s7 J7 => ⟨_, _, J7, q6⟩
      | cont => obtain ⟨σ6, H6, S6, q6⟩ := hsp; exact end_ S6 fun s7 J7 => ⟨_, _, J7, q6⟩
      | ret u => obtain ⟨v6, σ6, H6, S6, r6, q6⟩ := hsp; exact end_ S6 fun s7 J7 => ⟨_, _, _, J7, r6, q6⟩
end
section
variable {X : Cx} {σ : St} {H : Hp} {D : Ends} {Wout : WX} {body : List Stmt} {h₀ : ExceptHandler} {hds : List ExceptHandler} {l : List Cls} {pos : Pos}
theorem wS_try (hs : X.stack = X.env :: X.outer) (hf : X.env.frame = some X.env.locals) (hN : X.N.Nodup) (tk : Takes X Wout) (hh : MixOk X (h₀ :: hds) l)
    (hb : ∀ (pn : List (Addr × Obj)) (xe : Value → Shared → Prop), Takes (X.tr pn xe) (wMix X Wout D l) → PassesOwn (model X.prog X.w) X.A X.env xe → wSs (X.tr pn xe) body D σ H) : wS X (.Try body (h₀ :: hds) [] [] pos) D σ H := by
  intro pins s I
  have ok := I.ok
  have hfr : X.A.frames = some (X.env :: X.outer) := by rw [ok.frames, hs]
  refine wpAny_Try_except ?_
  refine wpAny_mono (hb (X.pn ++ pins) (fun e s₁ => wpAny (model X.prog X.w) X.A (noteFrame e X.env) (fun _ s₂ => wpAny (model X.prog X.w) X.A (setFlight e none) (fun _ s₃ =>
    wpAny (model X.prog X.w) X.A (handleBy e X.env (h₀ :: hds)) (SP X pins D) X.xe s₃) X.xe s₂) X.xe s₁) (fun u s' xx => ?_) PassesOwn.looking [] s (I.toTry _)) (fun f s1 hsp => ?_) (fun e s1 he => he)
  · obtain ⟨a, B, sI, pins', σ', H', cls, d, rfl, J', nb, up, sky, na, os, ag, w⟩ := xx
    have sky' : Sky B (X.env :: X.outer) a (Zc cls d) X.env.locals s'.heap := by rw [← hs]; exact sky
    show wpAny (model X.prog X.w) X.A (noteFrame (.ref a) X.env) _ _ _
    refine Sky.land Zc.steady hfr hf sky' fun h3 fl3 up3 => ?_
    exact mix_run (s := { s' with heap := h3 }) hN hs hf tk (J'.ofTry ok) nb (up.trans up3) fl3 na os ag hh w
  · cases f with
    | next => obtain ⟨σ', H', J', q⟩ := hsp; exact wpAny_execs_nil ⟨σ', H', J'.ofTry ok, q⟩
    | brk => obtain ⟨σ', H', J', q⟩ := hsp; exact ⟨σ', H', J'.ofTry ok, q⟩
    | cont => obtain ⟨σ', H', J', q⟩ := hsp; exact ⟨σ', H', J'.ofTry ok, q⟩
    | ret u => obtain ⟨v, σ', H', J', r, q⟩ := hsp; exact ⟨v, σ', H', J'.ofTry ok, r, q⟩
end

/-! ### in PD -/
structure Hd where
  takes : Str → Option Bool
  slot : Option Nat
  suite : Xn → M Fl
def Slt.noexc : Slt → Slt
  | .exc => .no
  | s => s
def heldS (i : Nat) (s : Sg) : Sg := { s with ρ := (s.ρ.map Slt.noexc).set i .exc }
def goneS (i : Nat) (s : Sg) : Sg := { s with ρ := s.ρ.set i .no }
def goneO (i : Nat) : Out Fl → Out Fl
  | .ok .nx s => .ok .nx (goneS i s)
  | .ok .bk s => .ok .bk (goneS i s)
  | .ok .ct s => .ok .ct (goneS i s)
  | .ok (.rt r) s => .ok (.rt r) s
  | .ex _ _ => .bad
  | .bad => .bad
def noEx : Out Fl → Out Fl
  | .ok a s => .ok a s
  | .ex _ _ => .bad
  | .bad => .bad
def hdsM : List Hd → Xn → M Fl
  | [], x => throwM x
  | h :: hs, x => fun s => match h.takes x.cls with
    | none => .bad
    | some false => hdsM hs x s
    | some true => match h.slot with
      | none => noEx (h.suite x s)
      | some i => goneO i (h.suite x (heldS i s))
def tryM (body : M Fl) (hs : List Hd) : M Fl := fun s => match body s with
  | .ex x s' => hdsM hs x s'
  | .ok a s' => .ok a s'
  | .bad => .bad
/-- what is known of the exception that a suite holds -/
def XAt (mg : Str → Option Value) (K : PySem.W.Frag) (F : Hp) (cls : Value) (d : Option Addr) (x : Xn) : Prop :=
  ∃ C, mg x.cls = some (.ref C) ∧ cls = .ref C ∧ match d with
    | none => x.fs = []
    | some a => ∃ fs, F a = some (.xd fs) ∧ Paired (fun (p : Str × V) (q : Str × D) => p.1 = q.1 ∧ Dq K F p.2 q.2) fs x.fs
theorem XAt.of {mg : Str → Option Value} {K : PySem.W.Frag} {F H : Hp} {cls : Value} {d : Option Addr} {x : Xn} (h : XOk mg K F H cls d x) : XAt mg K F cls d x := by
  obtain ⟨C, h1, h2, h3⟩ := h
  refine ⟨C, h1, h2, ?_⟩
  cases d with
  | none => exact h3
  | some a =>
    obtain ⟨fs, _, e, p⟩ := h3
    exact ⟨fs, e, p⟩
def bdTr (B : Bd) (W : WX) : Bd := { B with W := W }
def bdSu (B : Bd) (F : Hp) (a : Option Addr) : Bd := { B with W := fun _ _ _ _ => False, F0 := F, ex := a }
section
variable {K : PySem.W.Frag} {B : Bd} {F H : Hp} {γ : Option Addr} {s : Sg} {σ : St} {W : WX}
theorem slotOk_any {B B' : Bd} {v : Option (Option V)} {sl : Slt} (h0 : B'.H0 = B.H0) (hx : ∀ a, B'.ex = some a → sl ≠ .exc) (h : SlotOk K B F H γ v sl) : SlotOk K B' F H γ v sl := by
  cases sl with
  | no => trivial
  | val d => exact h
  | own lk c => obtain ⟨p, o, e1, e2, e3, e4, e5, e6⟩ := h; exact ⟨p, o, e1, e2, e3, e4, by rw [h0]; exact e5, e6⟩
  | bor c => obtain ⟨p, o, e1, e2, e3, e4, e6⟩ := h; exact ⟨p, o, e1, e2, e3, by rw [h0]; exact e4, e6⟩
  | glob => exact h
  | exc => exact fun a ea => absurd rfl (hx a ea)
theorem gOk_any {B B' : Bd} {g : G} (h0 : B'.H0 = B.H0) (hg : B'.γ0 = B.γ0) (h : GOk K B F H g γ) : GOk K B' F H g γ := by
  cases g with
  | none =>
    cases γ with
    | none => exact hg.trans h
    | some a => exact h
  | some xs =>
    cases γ with
    | none => exact h
    | some a =>
      obtain ⟨vs, e1, e2, e3, e4⟩ := h
      exact ⟨vs, e1, e2, e3, by rw [h0, hg]; exact e4⟩
theorem rel_tr (R : Rel K B F γ s σ H) : Rel K (bdTr B W) F γ s σ H :=
  ⟨R.fh, R.f0, R.fn, R.keep, R.dom, R.len, fun i sl e => by
    have := R.slot i sl e
    cases sl <;> exact this, R.dist, gOk_any (B := B) rfl rfl R.gl⟩
theorem rel_untr (R : Rel K (bdTr B W) F γ s σ H) : Rel K B F γ s σ H :=
  ⟨R.fh, R.f0, R.fn, R.keep, R.dom, R.len, fun i sl e => by
    have := R.slot i sl e
    cases sl <;> exact this, R.dist, gOk_any (B := bdTr B W) rfl rfl R.gl⟩
/-- into a suite without a name -/
theorem rel_su0 (R : Rel K B F γ s σ H) : Rel K (bdSu B F none) F γ s σ H :=
  ⟨R.fh, Le.refl F, fun _ _ e => .inl e, R.keep, R.dom, R.len, fun i sl e => slotOk_any (B := B) (B' := bdSu B F none) rfl (fun a ea => by cases ea) (R.slot i sl e), R.dist, gOk_any (B := B) rfl rfl R.gl⟩
theorem noexc_isObj (sl : Slt) : (Slt.noexc sl).isObj = sl.isObj := by cases sl <;> rfl
/-- into a suite that holds the exception at a in slot i -/
theorem rel_suA (R : Rel K B F γ s σ H) (i : Nat) (a : Addr) : Rel K (bdSu B F (some a)) F γ (heldS i s) (σ.set i (some (.ref a))) H := by
  have hl := R.len
  have at_ : ∀ (j : Nat) (sl : Slt), (heldS i s).ρ[j]? = some sl → (j = i ∧ sl = .exc ∧ (σ.set i (some (.ref a)))[j]? = some (some (.ref a))) ∨ (j ≠ i ∧ ∃ sl0, s.ρ[j]? = some sl0 ∧ sl = Slt.noexc sl0 ∧ (σ.set i (some (.ref a)))[j]? = σ[j]?) := fun j sl e => by
    unfold heldS at e
    dsimp only at e
    by_cases h : j = i
    · subst h
      by_cases hlt : j < s.ρ.length
      · rw [List.getElem?_set_self (by rw [List.length_map]; exact hlt)] at e
        exact .inl ⟨rfl, (Option.some.inj e).symm, List.getElem?_set_self (by omega)⟩
      · rw [List.getElem?_eq_none (by rw [List.length_set, List.length_map]; omega)] at e
        cases e
    · rw [List.getElem?_set_ne (Ne.symm h), List.getElem?_map] at e
      cases e0 : s.ρ[j]? with
      | none => rw [e0] at e; cases e
      | some sl0 =>
        rw [e0] at e
        exact .inr ⟨h, sl0, rfl, (Option.some.inj e).symm, List.getElem?_set_ne (Ne.symm h)⟩
  refine ⟨R.fh, Le.refl F, fun _ _ e => .inl e, R.keep, R.dom, by unfold heldS; simp [hl], fun j sl e => ?_, fun j k lk c sl e1 e2 ho hv => ?_, gOk_any (B := B) rfl rfl R.gl⟩
  · rcases at_ j sl e with ⟨rfl, rfl, ev⟩ | ⟨_, sl0, e0, rfl, ev⟩
    · rw [ev]
      exact fun b eb => by cases eb; rfl
    · rw [ev]
      cases sl0 with
      | exc => trivial
      | no => trivial
      | val d => exact R.slot j _ e0
      | own lk c => exact slotOk_any (B := B) (B' := bdSu B F (some a)) (sl := .own lk c) rfl (fun a _ z => by cases z) (R.slot j _ e0)
      | bor c => exact slotOk_any (B := B) (B' := bdSu B F (some a)) (sl := .bor c) rfl (fun a _ z => by cases z) (R.slot j _ e0)
      | glob => exact R.slot j _ e0
  · rcases at_ j _ e1 with ⟨_, z, _⟩ | ⟨_, sl1, f1, z1, ev1⟩
    · cases z
    · rcases at_ k _ e2 with ⟨_, rfl, _⟩ | ⟨_, sl2, f2, z2, ev2⟩
      · cases ho
      · rw [ev1, ev2] at hv
        have e1' : s.ρ[j]? = some (.own lk c) := by
          cases sl1 <;> first | (cases z1; exact f1) | cases z1
        refine R.dist j k lk c sl2 e1' f2 ?_ hv
        rw [z2, noexc_isObj] at ho
        exact ho
/-- out of a suite -/
theorem rel_out {a : Option Addr} {F' H' : Hp} {γ' : Option Addr} {s' : Sg} {σ' : St} (hB : B.ex = none) (f0 : Le B.F0 F) (fn : ∀ x o, F x = some o → B.F0 x = some o ∨ B.H0 x = none) (R : Rel K (bdSu B F a) F' γ' s' σ' H') : Rel K B F' γ' s' σ' H' :=
  ⟨R.fh, f0.trans R.f0, fun x o e => by
    rcases R.fn x o e with h | h
    · exact fn x o h
    · exact .inr h, R.keep, R.dom, R.len, fun i sl e => slotOk_any (B := bdSu B F a) (B' := B) rfl (fun b eb => by rw [hB] at eb; cases eb) (R.slot i sl e), R.dist, gOk_any (B := bdSu B F a) rfl rfl R.gl⟩
theorem rel_gone (R : Rel K B F γ s σ H) (i : Nat) : Rel K B F γ (goneS i s) (σ.set i none) H := by
  have at_ : ∀ (j : Nat) (sl : Slt), (goneS i s).ρ[j]? = some sl → sl = .no ∨ (s.ρ[j]? = some sl ∧ (σ.set i none)[j]? = σ[j]?) := fun j sl e => by
    unfold goneS at e
    dsimp only at e
    by_cases h : j = i
    · subst h
      by_cases hlt : j < s.ρ.length
      · rw [List.getElem?_set_self hlt] at e
        exact .inl (Option.some.inj e).symm
      · rw [List.getElem?_eq_none (by rw [List.length_set]; omega)] at e
        cases e
    · rw [List.getElem?_set_ne (Ne.symm h)] at e
      exact .inr ⟨e, List.getElem?_set_ne (Ne.symm h)⟩
  refine ⟨R.fh, R.f0, R.fn, R.keep, R.dom, by unfold goneS; simp [R.len], fun j sl e => ?_, fun j k lk c sl e1 e2 ho hv => ?_, R.gl⟩
  · rcases at_ j sl e with rfl | ⟨e', ev⟩
    · trivial
    · rw [ev]; exact R.slot j sl e'
  · rcases at_ j _ e1 with z | ⟨e1', ev1⟩
    · cases z
    · rcases at_ k _ e2 with rfl | ⟨e2', ev2⟩
      · cases ho
      · rw [ev1, ev2] at hv
        exact R.dist j k lk c sl e1' e2' ho hv
end
theorem retOk_mono {K : PySem.W.Frag} {B B' : Bd} {F H : Hp} {γ : Option Addr} {v : V} {r : Ret} (h0 : B'.H0 = B.H0) (h : RetOk K B F H γ v r) : RetOk K B' F H γ v r := by
  cases r with
  | val d => exact h
  | new c => obtain ⟨p, o, e1, e2, e3, e4, e5, e6⟩ := h; exact ⟨p, o, e1, e2, e3, e4, by rw [h0]; exact e5, e6⟩
/-- a clause and its meaning -/
structure HdOk (X : Cx) (B : Bd) (h : Hd) (c : Value) (slot : Option Nat) (su : List Stmt) : Prop where
  slot_eq : h.slot = slot
  takes : ∀ (cn : Str) (C : Addr) (b : Bool), X.mg cn = some (.ref C) → h.takes cn = some b → PySem.W.exmOne X.K (.ref C) c = some b
  suite : ∀ (a : Addr) (oe : Obj) (cls : Value) (d : Option Addr) (pn : List (Addr × Obj)) (x : Xn) (F : Hp), Zc cls d oe → (∃ vs, oe.data = .fields vs) → XAt X.mg X.K F cls d x → h.takes x.cls = some true →
    DSs (X.suite a ((a, oe) :: pn)) (bdSu B F (slot.map fun _ => a)) su (h.suite x)
inductive HdsAll (X : Cx) (B : Bd) : List Hd → List Cls → Prop
  | nil : HdsAll X B [] []
  | cons {h : Hd} {hs : List Hd} {c : Value} {slot : Option Nat} {su : List Stmt} {l : List Cls} (h1 : HdOk X B h c slot su) (r : HdsAll X B hs l) : HdsAll X B (h :: hs) ((c, slot, su) :: l)
section
variable {X : Cx} {B : Bd} {body : List Stmt} {h₀ : ExceptHandler} {hds : List ExceptHandler} {l : List Cls} {pos : Pos} {fb : M Fl} {hs : List Hd}
theorem hds_run {F : Hp} {E : Ends} (hB : B.ex = none) {x : Xn} {s' : Sg} {cls : Value} {d : Option Addr} {F' : Hp} {γ' : Option Addr} {σ' : St} {H' : Hp} (f1 : Le F F') (R : Rel X.K B F' γ' s' σ' H') (xo : XOk X.mg X.K F' H' cls d x) :
    ∀ {hs : List Hd} {l : List Cls}, HdsAll X B hs l → GoodS X B F (hdsM hs x s') E → wMix X B.W E l cls d σ' H' := by
  intro hs l hh
  induction hh with
  | nil => exact fun g => g cls d F' γ' σ' H' f1 R xo
  | @cons h hs c slot su l h1 r ih =>
    intro g
    obtain ⟨C, e1, e2, _⟩ := id xo
    unfold hdsM at g
    cases et : h.takes x.cls with
    | none => rw [et] at g; exact g.elim
    | some b =>
      rw [et] at g
      have hm := h1.takes x.cls C b e1 et
      rw [← e2] at hm
      cases slot with
      | none =>
        refine ⟨b, hm, fun hb a na oe pn hz hv => ?_, fun hb => ?_⟩
        · subst hb
          dsimp only at g
          rw [h1.slot_eq] at g
          dsimp only at g
          have out : ∀ {F2 H2 : Hp} {γ2 : Option Addr} {s2 : Sg} {σ2 : St}, Rel X.K (bdSu B F' none) F2 γ2 s2 σ2 H2 → Rel X.K B F2 γ2 s2 σ2 H2 := fun R2 => rel_out hB R.f0 R.fn R2
          refine (h1.suite a oe cls d pn x F' hz hv (XAt.of xo) et).run F' γ' s' σ' H' E (rel_su0 R) ?_
          cases er : h.suite x s' with
          | bad => rw [er] at g; exact g.elim
          | ex y s2 => rw [er] at g; exact g.elim
          | ok a2 s2 =>
            rw [er] at g
            cases a2 with
            | nx => exact fun F2 γ2 σ2 H2 f2 R2 => g F2 γ2 σ2 H2 (f1.trans f2) (out R2)
            | bk => exact fun F2 γ2 σ2 H2 f2 R2 => g F2 γ2 σ2 H2 (f1.trans f2) (out R2)
            | ct => exact fun F2 γ2 σ2 H2 f2 R2 => g F2 γ2 σ2 H2 (f1.trans f2) (out R2)
            | rt r => exact fun F2 γ2 σ2 H2 v f2 R2 ro => g F2 γ2 σ2 H2 v (f1.trans f2) (out R2) (retOk_mono (B := bdSu B F' none) rfl ro)
        · subst hb
          exact ih g
      | some i =>
        refine ⟨b, hm, fun hb a na oe pn hz hv => ?_, fun hb => ?_⟩
        · subst hb
          dsimp only at g
          rw [h1.slot_eq] at g
          dsimp only at g
          have out : ∀ {F2 H2 : Hp} {γ2 : Option Addr} {s2 : Sg} {σ2 : St}, Rel X.K (bdSu B F' (some a)) F2 γ2 s2 σ2 H2 → Rel X.K B F2 γ2 s2 σ2 H2 := fun R2 => rel_out hB R.f0 R.fn R2
          refine (h1.suite a oe cls d pn x F' hz hv (XAt.of xo) et).run F' γ' (heldS i s') _ H' (gone i E) (rel_suA R i a) ?_
          cases er : h.suite x (heldS i s') with
          | bad => rw [er] at g; exact g.elim
          | ex y s2 => rw [er] at g; exact g.elim
          | ok a2 s2 =>
            rw [er] at g
            cases a2 with
            | nx => exact fun F2 γ2 σ2 H2 f2 R2 => g F2 γ2 _ H2 (f1.trans f2) (rel_gone (out R2) i)
            | bk => exact fun F2 γ2 σ2 H2 f2 R2 => g F2 γ2 _ H2 (f1.trans f2) (rel_gone (out R2) i)
            | ct => exact fun F2 γ2 σ2 H2 f2 R2 => g F2 γ2 _ H2 (f1.trans f2) (rel_gone (out R2) i)
            | rt r => exact fun F2 γ2 σ2 H2 v f2 R2 ro => g F2 γ2 σ2 H2 v (f1.trans f2) (out R2) (retOk_mono (B := bdSu B F' (some a)) rfl ro)
        · subst hb
          exact ih g
theorem ds_try (hst : X.stack = X.env :: X.outer) (hf : X.env.frame = some X.env.locals) (hN : X.N.Nodup) (hB : B.ex = none) (tk : Takes X B.W) (hh : MixOk X (h₀ :: hds) l) (ha : HdsAll X B hs l)
    (hb : ∀ (W : WX) (pn : List (Addr × Obj)) (xe : Value → Shared → Prop), Takes (X.tr pn xe) W → PassesOwn (model X.prog X.w) X.A X.env xe → DSs (X.tr pn xe) (bdTr B W) body fb) : DS X B (.Try body (h₀ :: hds) [] [] pos) (tryM fb hs) := by
  refine ⟨fun F γ s σ H E R h => ?_⟩
  refine wS_try hst hf hN tk hh fun pn xe tk' po => ?_
  refine (hb _ pn xe tk' po).run F γ s σ H E (rel_tr R) ?_
  unfold tryM at h
  cases e : fb s with
  | bad => rw [e] at h; exact h.elim
  | ex x s1 =>
    rw [e] at h
    exact fun cls d F' γ' σ' H' f1 R' xo => hds_run (X := X) hB f1 (rel_untr R') xo ha h
  | ok a s1 =>
    rw [e] at h
    cases a with
    | nx => exact fun F' γ' σ' H' f1 R' => h F' γ' σ' H' f1 (rel_untr R')
    | bk => exact fun F' γ' σ' H' f1 R' => h F' γ' σ' H' f1 (rel_untr R')
    | ct => exact fun F' γ' σ' H' f1 R' => h F' γ' σ' H' f1 (rel_untr R')
    | rt r => exact fun F' γ' σ' H' v f1 R' ro => h F' γ' σ' H' v f1 (rel_untr R') (retOk_mono (B := bdTr B _) rfl ro)
end
/-! ### in a suite: e.f, isinstance(e, T) -/
def fldM (i : Nat) (x : Xn) (f : Str) : M Op := fun s => match s.ρ[i]? with
  | some .exc => (match x.fs.lookup f with
    | some d => .ok (.val d) s
    | none => .bad)
  | _ => .bad
def isxM (i : Nat) (b : Option Bool) : M Op := fun s => match s.ρ[i]? with
  | some .exc => (match b with
    | some b => .ok (.val (.bool b)) s
    | none => .bad)
  | _ => .bad
theorem paired_look {K : PySem.W.Frag} {F : Hp} {f : Str} {d : D} : ∀ {fs : List (Str × V)} {xs : List (Str × D)}, Paired (fun (p : Str × V) (q : Str × D) => p.1 = q.1 ∧ Dq K F p.2 q.2) fs xs → xs.lookup f = some d → ∃ v, fs.lookup f = some v ∧ Dq K F v d
  | _, _, .nil, e => by cases e
  | (g, v) :: fs, (g', d') :: xs, .cons h t, e => by
    obtain ⟨h1, h2⟩ := h
    dsimp only at h1 h2
    subst h1
    rw [look_cons] at e ⊢
    split at e
    · rename_i hg
      cases e
      rw [if_pos hg]
      exact ⟨v, rfl, h2⟩
    · rename_i hg
      rw [if_neg hg]
      exact paired_look t e
section
variable {X : Cx} {B : Bd} {a : Addr} {oe : Obj} {cls : Value} {d : Option Addr} {pn : List (Addr × Obj)} {x : Xn} {F₀ : Hp} {n f : Str} {i : Nat} {p pos : Pos}
theorem de_fld (T : ∀ C, X.mg x.cls = some (.ref C) → XfC X.K C ∧ PySem.W.findIn X.K (.ref C) f = some none) (hz : Zc cls d oe) (hv : ∃ vs, oe.data = .fields vs) (xa : XAt X.mg X.K F₀ cls d x) (hi : X.N[i]? = some n) (hl : X.env.kindOf n = some .local)
    (hd : (n == ("__debug__" : Str)) = false := by decide) (hcd : (n == ("__classdict__" : Str)) = false := by decide) (hb : attributeBase (.Name n p) f X.env (eval (.Name n p) X.env) = eval (.Name n p) X.env := by rfl) :
    DE (X.suite a ((a, oe) :: pn)) (bdSu B F₀ (some a)) (.Attribute (.Name n p) f pos) (fldM i x f) := by
  refine ⟨fun F γ s σ H R Q g => ?_⟩
  obtain ⟨C, hC, hc, xd⟩ := xa
  obtain ⟨T1, T2⟩ := T C hC
  refine wE_of (pe_xf (X := X) T1 T2 hz hv (pe_var (X := X.suite a ((a, oe) :: pn)) hi (.inl hl) hd hcd) hb) ?_
  unfold fldM at g
  cases es : s.ρ[i]? with
  | none => rw [es] at g; exact g.elim
  | some sl =>
    rw [es] at g
    cases sl with
    | exc =>
      have so : ∀ b, some a = some b → σ[i]? = some (some (.ref b)) := R.slot i _ es
      dsimp only at g
      cases el : x.fs.lookup f with
      | none => rw [el] at g; exact g.elim
      | some dd =>
        rw [el] at g
        cases d with
        | none => rw [show x.fs = [] from xd] at el; cases el
        | some da =>
          obtain ⟨fs, e1, pr⟩ := xd
          obtain ⟨v, l1, dq⟩ := paired_look pr el
          have hH : H da = some (.xd fs) := R.fh _ _ (R.f0 _ _ e1)
          refine ⟨.ref a, so a rfl, rfl, hc, da, fs, v, rfl, hH, l1, ?_⟩
          exact g F H Stp.refl R v (dq.mono R.f0) trivial
    | no => exact g.elim
    | val d => exact g.elim
    | own lk c => exact g.elim
    | bor c => exact g.elim
    | glob => exact g.elim
end
/-! classes named -/
def vOf : Value → V
  | .ref a => .ref a
  | .type T => .ty T
  | _ => .non
inductive CvOk : Value → Prop
  | ref (a : Addr) : CvOk (.ref a)
  | ty (T : String) : CvOk (.type T)
theorem CvOk.rel {c : Value} (h : CvOk c) : RelV (vOf c) c := by cases h <;> rfl
theorem CvOk.uniq {c : Value} (h : CvOk c) {u : Value} (r : RelV (vOf c) u) : u = c := by cases h <;> exact r
structure ClsL (X : Cx) (es : List Expr) (cvs : List Value) : Prop where
  pa : PA X es (fun _ H Q => Q (cvs.map vOf) H)
  rel : ∀ us, Vals (cvs.map vOf) us → us = cvs
  pl : ∀ pos : Pos, (backTo pos (starEach es X.env)).any (·.1) = false
section
variable {X : Cx} {x : Str} {c : Value} {p : Pos} {es : List Expr} {cvs : List Value}
theorem pe_cls (hc : Names X x c) (hv : CvOk c) : PE X (.Name x p) (tC (vOf c)) := by
  obtain ⟨hg, hd, hm | ⟨hm, hb, hn⟩⟩ := hc
  · exact pe_glob hg hm hv.rel hd
  · exact pe_bltn hg hm hb hv.rel hn hd
theorem clsl_nil : ClsL X [] [] := ⟨⟨fun _ _ _ _ H Q I h => pa_nil.run _ _ _ _ H Q I h⟩, fun us r => by cases r; rfl, fun _ => rfl⟩
theorem clsl_cons (hc : Names X x c) (hv : CvOk c) (r : ClsL X es cvs) : ClsL X (.Name x p :: es) (c :: cvs) :=
  ⟨⟨fun pos pins s σ H Q I h => (pa_cons (pe_cls (p := p) hc hv) r.pa rfl).run pos pins s σ H Q I h⟩, fun us ru => by
    cases ru with
    | cons r1 r2 => rw [hv.uniq r1, r.rel _ r2], fun pos => by
    show (false || (backTo pos (starEach es X.env)).any (·.1)) = false
    rw [r.pl pos]
    rfl⟩
end
def rIsX (K : PySem.W.Frag) (D a : Addr) (d : Option Addr) : List V → Hp → VK → Prop := fun xs H Q => (∀ da, d = some da → ∃ fs, H da = some (.xd fs)) ∧
  ((∃ (c : Value) (b : Bool), xs = [.ref a, vOf c] ∧ CvOk c ∧ PySem.W.kitOne K (.ref D) c = some b ∧ Q (.bl b) H) ∨
   (∃ (p : Addr) (cs : List V) (cvs : List Value) (b : Bool), xs = [.ref a, .ref p] ∧ H p = some (.tup cs) ∧ (∀ us, Vals cs us → us = cvs) ∧ PySem.W.kitAny K (.ref D) cvs = some b ∧ Q (.bl b) H))
theorem cr_isX {X : Cx} {a D : Addr} {d : Option Addr} {oe : Obj} {pn : List (Addr × Obj)} (C : ExcC X.K D) (hz : Zc (.ref D) d oe) (hf : ∃ vs, oe.data = .fields vs) : CallR (X.suite a ((a, oe) :: pn)) (.builtin "isinstance") (rIsX X.K D a d) := by
  intro pins s σ H xs us Q I r h
  obtain ⟨hxd, h⟩ := h
  have hcl : (PySem.W.clsIn X.K D).isSome = true := by
    obtain ⟨cd, hc, _⟩ := PySem.W.any_some C.hd
    rw [hc]
    rfl
  obtain ⟨hget, _⟩ := I.pin (a, oe) (List.mem_append.mpr (.inl List.mem_cons_self))
  obtain ⟨vs, hv⟩ := hf
  have J : ∃ od, PySem.W.InstAt s.heap a oe D od := by
    cases hd : d with
    | none => exact ⟨none, hget, hz.1, by unfold PySem.W.notCls; rw [hv] <;> rfl, by rw [hz.2, hd]; trivial⟩
    | some da =>
      obtain ⟨fs, e⟩ := hxd da hd
      obtain ⟨u, hu⟩ := objOk_get (I.hok da _ e)
      exact ⟨some u, hget, hz.1, by unfold PySem.W.notCls; rw [hv] <;> rfl, by rw [hz.2, hd]; exact hu⟩
  obtain ⟨od, J⟩ := J
  have Z := PySem.W.kitx_exc (x := a) (ox := oe) (od := od) hcl C.hg C.hk C.hs C.ha C.hn C.ht C.hm
  rcases h with ⟨c, b, rfl, hc, e, q⟩ | ⟨p, cs, cvs, b, rfl, hp, hcs, e, q⟩
  · cases r with
    | cons rx rr =>
      cases rr with
      | cons rt rr =>
        cases rr
        cases rx
        have ec := hc.uniq rt
        subst ec
        exact PySem.W.kia_one Z I.kIn J e (fun z => nomatch z) fun tk => ⟨.bl b, H, I.kept (t' := tk) fun _ _ z => z, rfl, q⟩
  · cases r with
    | cons rx rr =>
      cases rr with
      | cons rt rr =>
        cases rr
        cases rx
        cases rt
        obtain ⟨hz2, ws, rw', ho⟩ := (show ObjOk X.prog X.w H s.heap p (.tup cs) from I.hok p _ hp)
        have ew := hcs _ rw'
        subst ew
        obtain ⟨⟨oc, odd, oda, osl⟩, ho1, ho2, n, ho3⟩ := ho
        have ho2' : oc = .type "tuple" := ho2
        have ho3' : oda = .seq ws.toArray n := ho3
        subst ho2' ho3'
        exact PySem.W.kia_tup Z I.kIn J ho1 e (fun z => nomatch z) fun tk => ⟨.bl b, H, I.kept (t' := tk) fun _ _ z => z, rfl, q⟩
/-- any of several -/
def anyB : List (Option Bool) → Option Bool
  | [] => some false
  | some true :: _ => some true
  | some false :: r => anyB r
  | none :: _ => none
theorem anyB_kit {K : PySem.W.Frag} {t : Value} : ∀ {bs : List (Option Bool)} {cvs : List Value} {b : Bool}, Paired (fun (x : Option Bool) c => ∀ b, x = some b → PySem.W.kitOne K t c = some b) bs cvs → anyB bs = some b → PySem.W.kitAny K t cvs = some b
  | _, _, _, .nil, e => e
  | x :: bs, c :: cvs, b, .cons h r, e => by
    unfold PySem.W.kitAny
    cases x with
    | none => cases e
    | some y =>
      rw [h y rfl]
      cases y with
      | true => exact e
      | false => exact anyB_kit r e
section
variable {X : Cx} {B : Bd} {a : Addr} {oe : Obj} {cls : Value} {d : Option Addr} {pn : List (Addr × Obj)} {x : Xn} {F₀ : Hp} {n m : Str} {i : Nat} {p p2 p3 p4 pos : Pos} {c : Value} {kx : Option Bool}
theorem xd_there {F H : Hp} (hF : Le F₀ F) (hH : Le F H) (xa : XAt X.mg X.K F₀ cls d x) : ∀ da, d = some da → ∃ fs, H da = some (.xd fs) := fun da e => by
  obtain ⟨C, _, _, xd⟩ := xa
  subst e
  obtain ⟨fs, e1, _⟩ := xd
  exact ⟨fs, hH _ _ (hF _ _ e1)⟩
/-- isinstance(e, T) -/
theorem de_isx (T : ∀ C, X.mg x.cls = some (.ref C) → ExcC X.K C ∧ ∀ b, kx = some b → PySem.W.kitOne X.K (.ref C) c = some b) (hz : Zc cls d oe) (hv : ∃ vs, oe.data = .fields vs) (xa : XAt X.mg X.K F₀ cls d x) (hi : X.N[i]? = some n) (hl : X.env.kindOf n = some .local)
    (hg : Gl X "isinstance") (hm : X.mg "isinstance" = none) (hc : Names X m c) (hcv : CvOk c)
    (hd : (n == ("__debug__" : Str)) = false := by decide) (hcd : (n == ("__classdict__" : Str)) = false := by decide) :
    DE (X.suite a ((a, oe) :: pn)) (bdSu B F₀ (some a)) (.Call (.Name "isinstance" p) [.Name n p2, .Name m p3] [] pos) (isxM i kx) := by
  refine ⟨fun F γ s σ H R Q g => ?_⟩
  have xa' := xa
  obtain ⟨C, hC, hcl, _⟩ := xa'
  obtain ⟨T1, T2⟩ := T C hC
  subst hcl
  refine wE_of (pe_callB (X := X.suite a ((a, oe) :: pn)) (cr_isX T1 hz hv) hg hm rfl (pa_cons (pe_var (X := X.suite a ((a, oe) :: pn)) hi (.inl hl) hd hcd) (pa_cons (pe_cls (X := X.suite a ((a, oe) :: pn)) hc hcv) pa_nil rfl) rfl) (by decide) (by decide) rfl rfl) ?_
  unfold isxM at g
  cases es : s.ρ[i]? with
  | none => rw [es] at g; exact g.elim
  | some sl =>
    rw [es] at g
    cases sl with
    | exc =>
      have so : ∀ b, some a = some b → σ[i]? = some (some (.ref b)) := R.slot i _ es
      dsimp only at g
      cases hk : kx with
      | none => rw [hk] at g; exact g.elim
      | some b =>
        rw [hk] at g
        exact ⟨.ref a, so a rfl, xd_there R.f0 R.fh xa, .inl ⟨c, b, rfl, hcv, T2 b hk, g F H Stp.refl R _ (.bl b) trivial⟩⟩
    | no => exact g.elim
    | val d => exact g.elim
    | own lk c => exact g.elim
    | bor c => exact g.elim
    | glob => exact g.elim
/-- isinstance(e, (T, ..)) -/
theorem de_isxs {es : List Expr} {kt : Nat} {cvs : List Value} {ks : List (Option Bool)} (T : ∀ C, X.mg x.cls = some (.ref C) → ExcC X.K C ∧ Paired (fun (y : Option Bool) c => ∀ b, y = some b → PySem.W.kitOne X.K (.ref C) c = some b) ks cvs) (hz : Zc cls d oe) (hv : ∃ vs, oe.data = .fields vs) (xa : XAt X.mg X.K F₀ cls d x) (hi : X.N[i]? = some n) (hl : X.env.kindOf n = some .local)
    (hg : Gl X "isinstance") (hm : X.mg "isinstance" = none) (hc : ClsL (X.suite a ((a, oe) :: pn)) es cvs) (hsz : cvs.length ≤ 100)
    (hd : (n == ("__debug__" : Str)) = false := by decide) (hcd : (n == ("__classdict__" : Str)) = false := by decide) :
    DE (X.suite a ((a, oe) :: pn)) (bdSu B F₀ (some a)) (.Call (.Name "isinstance" p) [.Name n p2, .Tuple es kt p3] [] pos) (isxM i (anyB ks)) := by
  refine ⟨fun F γ s σ H R Q g => ?_⟩
  have xa' := xa
  obtain ⟨C, hC, hcl, _⟩ := xa'
  obtain ⟨T1, T2⟩ := T C hC
  subst hcl
  refine wE_of (pe_callB (X := X.suite a ((a, oe) :: pn)) (cr_isX T1 hz hv) hg hm rfl (pa_cons (pe_var (X := X.suite a ((a, oe) :: pn)) hi (.inl hl) hd hcd) (pa_cons (pe_tup (X := X.suite a ((a, oe) :: pn)) hc.pa) pa_nil rfl) rfl) (by decide) (by decide) rfl rfl) ?_
  unfold isxM at g
  cases es' : s.ρ[i]? with
  | none => rw [es'] at g; exact g.elim
  | some sl =>
    rw [es'] at g
    cases sl with
    | exc =>
      have so : ∀ b, some a = some b → σ[i]? = some (some (.ref b)) := R.slot i _ es'
      dsimp only at g
      cases hk : anyB ks with
      | none => rw [hk] at g; exact g.elim
      | some b =>
        rw [hk] at g
        have hlen : (cvs.map vOf).length ≤ sizeLine := by rw [List.length_map, sizeLine_eq]; omega
        refine ⟨.ref a, so a rfl, hlen, fun q hq => ⟨fun da e => ?_, .inr ⟨q, _, cvs, b, rfl, upd_same, hc.rel, anyB_kit T2 hk, ?_⟩⟩⟩
        · obtain ⟨fs, e2⟩ := xd_there R.f0 R.fh xa da e
          exact ⟨fs, by rw [upd_ne (ne_of_none e2 hq)]; exact e2⟩
        · have hk' : ∀ b u, H b = some u → upd H q (.tup (cvs.map vOf)) b = some u := fun b u e => by rw [upd_ne (ne_of_none e hq)]; exact e
          obtain ⟨R', st⟩ := rel_grow R (g' := s.g) (Le.refl F) (fun b u e => hk' b u (R.fh b u e)) (fun b u e => .inl e) (fun b u e _ => hk' b u e) (fun b u e => ⟨u, hk' b u e⟩) (R.gnew (Le.refl F) hk')
          exact g F _ st R' _ (.bl b) trivial
    | no => exact g.elim
    | val d => exact g.elim
    | own lk c => exact g.elim
    | bor c => exact g.elim
    | glob => exact g.elim
end
end XB
end

section
set_option Elab.async false
set_option linter.all false
set_option maxRecDepth 100000
set_option maxHeartbeats 4000000
set_option autoImplicit false
/-! XD: what the written part says of classes and constants. -/
namespace XB
open PySem PySem.Spec L2 PD
open PyProof.Rows hiding St
/-- an exception class of the text -/
structure ClsF (K : PySem.W.Frag) (mg : Str → Option Value) (x : Str) (C : Addr) : Prop where
  g : mg x = some (.ref C)
  ga : PySem.W.findIn K (.ref C) "__getattribute__" = some (some (.builtin "BaseException.__getattribute__"))
  gg : PySem.W.findIn K (.ref C) "__getattr__" = some none
  ex : PySem.W.subIn K (.ref C) (.type "BaseException") = some true
  hd : PySem.W.hasDictIn K C = true
  ty : PySem.W.typeIn K (.ref C) = some (.type "type")
  se : PySem.W.subIn K (.ref C) (.ref C) = some true
  cl : PySem.W.findIn K (.ref C) "__class__" = some (some (.builtin "object.__class__"))
  gt : PySem.W.specialIn K (.builtin "object.__class__") "__get__" = some (some (.builtin "getset_descriptor.__get__"))
  tk : PySem.W.takesIn K (.builtin "object.__class__") = some true
  ob : PySem.W.mroIn K C (.type "object") = some true
section
variable {K : PySem.W.Frag} {mg : Str → Option Value} {x y : Str} {C A : Addr} {b : Bool}
theorem ClsF.xf (h : ClsF K mg x C) : XfC K C := ⟨h.ga, h.gg, h.ex, h.hd⟩
theorem ClsF.exc (h : ClsF K mg x C) : ExcC K C := ⟨h.ga, h.gg, h.ex, h.hd, h.cl, h.gt, h.tk, h.ob⟩
theorem ClsF.some (h : ClsF K mg x C) : (PySem.W.clsIn K C).isSome = true := by
  obtain ⟨cd, hc, _⟩ := PySem.W.any_some h.hd
  rw [hc]
  rfl
theorem ClsF.exm (h : ClsF K mg x C) (e : PySem.W.subIn K (.ref A) (.ref C) = Option.some b) : PySem.W.exmOne K (.ref A) (.ref C) = Option.some b := PySem.W.exm_ref h.ex h.hd h.ty e
theorem ClsF.kit (h : ClsF K mg x C) (e : PySem.W.subIn K (.ref A) (.ref C) = Option.some b) : PySem.W.kitOne K (.ref A) (.ref C) = Option.some b := by
  unfold PySem.W.kitOne
  by_cases hA : A = C
  · subst hA
    rw [if_pos (by simp)]
    rw [← e, h.se]
  · rw [if_neg (by simpa using hA)]
    unfold PySem.W.kitCls
    dsimp only
    rw [h.some, h.ty]
    exact e
theorem ClsF.names {X : Cx} (h : ClsF X.K X.mg x C) (hg : Gl X x) (hd : (x == ("__debug__" : Str)) = false) : Names X x (.ref C) := ⟨hg, hd, .inl h.g⟩
end
/-! constants of the module -/
def GlD (K : PySem.W.Frag) (mg : Str → Option Value) (x : Str) (d : D) : Prop := ∃ v u, mg x = some u ∧ RelV v u ∧ ∀ F, Dq K F v d
section
variable {K : PySem.W.Frag} {mg : Str → Option Value} {x : Str}
theorem gld_int {i : Int} {t : Tok} (h : mg x = some (.int i t)) : GlD K mg x (.int i) := ⟨.int i, _, h, ⟨_, rfl⟩, fun _ => .int i⟩
theorem gld_str {z : Str} {t : Tok} (h : mg x = some (.str z t)) : GlD K mg x (.str z) := ⟨.str z, _, h, ⟨_, rfl⟩, fun _ => .str z⟩
theorem gld_tup {a : Addr} {cl : Value} {dd : Option Addr} {its : Array Value} {n : Nat} {sl : Array (Option Value)} {vs : List V} {ds : List D} (h : mg x = some (.ref a)) (l : K.lookup a = some ⟨cl, dd, .seq its n, sl⟩) (hc : cl = .type "tuple") (hz : its.size ≤ sizeLine)
    (hv : Vals vs its.toList) (hd : ∀ F, DqAll K F vs ds) : GlD K mg x (.tuple ds) := ⟨.ref a, _, h, rfl, fun F => .tup (.inr ⟨_, its, n, l, hc, rfl, hz, hv⟩) (hd F)⟩
theorem de_gl {X : Cx} {B : Bd} {d : D} {p : Pos} (h : GlD X.K X.mg x d) (hg : Gl X x) (hd : (x == ("__debug__" : Str)) = false := by decide) : DE X B (.Name x p) (pure (.val d)) := by
  obtain ⟨v, u, hm, r, hq⟩ := h
  exact ⟨fun F γ s σ H R Q g => wE_of (pe_glob hg hm r hd) (g.ok0 R v (hq F) trivial)⟩
end
end XB
namespace XB
open PySem PySem.Spec L2 PD
theorem kit_ty {K : PySem.W.Frag} {A : Addr} {T : String} {b : Bool} (hm : PySem.W.kitMeta T = true) (e : PySem.W.subIn K (.ref A) (.type T) = some b) : PySem.W.kitOne K (.ref A) (.type T) = some b := by
  unfold PySem.W.kitOne
  rw [if_neg (by simp)]
  unfold PySem.W.kitCls
  dsimp only
  rw [if_pos hm]
  exact e
end XB
namespace XB
open PySem PySem.Spec L2 PD
theorem hu_mark {k : Nat} {A : Around} {v : Option Value} (hr : RoomX k A) : (A.mark v).units + 64 < cLine := hr.units
end XB
end

section
set_option Elab.async false
set_option linter.all false
set_option maxRecDepth 100000
set_option maxHeartbeats 4000000
set_option autoImplicit false
/-! XE: what a meaning does, exceptions told. -/
namespace PD
open PySem PySem.Spec L2 XB
open PyProof.Rows hiding St
def EvT {α : Type} (m : M α) (s : Sg) (Q : α → Sg → Prop) (E : Xn → Sg → Prop) : Prop := match m s with
  | .ok a s' => Q a s'
  | .ex x s' => E x s'
  | .bad => False
def FnT (fn : Fn) (as : List Arg) (g : G) (Q : Ret → G → Prop) (E : Xn → G → Prop) : Prop := match fn as g with
  | .ok r g' => Q r g'
  | .ex x g' => E x g'
  | .bad => False
section
variable {α β : Type} {s : Sg} {E E' : Xn → Sg → Prop}
theorem evT_of_ev {m : M α} {Q : α → Sg → Prop} (h : Ev m s Q) : EvT m s Q E := by
  obtain ⟨a, s', e, q⟩ := h
  unfold EvT
  rw [e]
  exact q
theorem ev_of_evT {m : M α} {Q : α → Sg → Prop} (h : EvT m s Q fun _ _ => False) : Ev m s Q := by
  unfold EvT at h
  cases e : m s with
  | ok a s' => rw [e] at h; exact ⟨a, s', e, h⟩
  | ex x s' => rw [e] at h; exact h.elim
  | bad => rw [e] at h; exact h.elim
theorem EvT.mono {m : M α} {Q Q' : α → Sg → Prop} (h : EvT m s Q E) (i : ∀ a s', Q a s' → Q' a s') (j : ∀ x s', E x s' → E' x s') : EvT m s Q' E' := by
  unfold EvT at *
  cases e : m s with
  | ok a s' => rw [e] at h; exact i a s' h
  | ex x s' => rw [e] at h; exact j x s' h
  | bad => rw [e] at h; exact h.elim
theorem FnT.mono {fn : Fn} {as : List Arg} {g : G} {Q Q' : Ret → G → Prop} {E E' : Xn → G → Prop} (h : FnT fn as g Q E) (i : ∀ r g', Q r g' → Q' r g') (j : ∀ x g', E x g' → E' x g') : FnT fn as g Q' E' := by
  unfold FnT at *
  cases e : fn as g with
  | ok a s' => rw [e] at h; exact i a s' h
  | ex x s' => rw [e] at h; exact j x s' h
  | bad => rw [e] at h; exact h.elim
theorem fnT_of {fn : Fn} {as : List Arg} {g : G} {Q : Ret → G → Prop} {E : Xn → G → Prop} (h : FnEv fn as g Q) : FnT fn as g Q E := by
  obtain ⟨a, s', e, q⟩ := h
  unfold FnT
  rw [e]
  exact q
theorem fnEv_of {fn : Fn} {as : List Arg} {g : G} {Q : Ret → G → Prop} (h : FnT fn as g Q fun _ _ => False) : FnEv fn as g Q := by
  unfold FnT at h
  cases e : fn as g with
  | ok a s' => rw [e] at h; exact ⟨a, s', e, h⟩
  | ex x s' => rw [e] at h; exact h.elim
  | bad => rw [e] at h; exact h.elim
theorem evT_bind {m : M α} {k : α → M β} {Q : β → Sg → Prop} : EvT (m >>= k) s Q E ↔ EvT m s (fun a s1 => EvT (k a) s1 Q E) E := by
  unfold EvT
  cases e : m s with
  | ok a s' => rw [bind_of e]
  | ex x s' => rw [bind_of_ex e]
  | bad => rw [bind_bad e]
theorem evT_pure {b : β} {Q : β → Sg → Prop} : EvT (pure b : M β) s Q E ↔ Q b s := Iff.rfl
theorem evT_throw {x : Xn} {Q : Fl → Sg → Prop} : EvT (throwM x) s Q E ↔ E x s := Iff.rfl
theorem evT_raise {c : Str} {fs : List Str} {fm : M (List Op)} {Q : Fl → Sg → Prop} (h : Ev fm s fun os s1 => Ev (frzAll os) s1 fun ds s2 => E ⟨c, fs.zip ds⟩ s2) : EvT (raiseM c fs fm) s Q E := by
  unfold raiseM
  rw [evT_bind]
  refine evT_of_ev (h.mono fun os s1 h => ?_)
  rw [evT_bind]
  exact evT_of_ev h
theorem evT_seq {f g : M Fl} {Q : Fl → Sg → Prop} (h : EvT f s (fun r s1 => match r with | .nx => EvT g s1 Q E | r => Q r s1) E) : EvT (seqF f g) s Q E := by
  unfold seqF
  rw [evT_bind]
  refine h.mono (fun a s1 q => ?_) fun _ _ h => h
  cases a <;> first | exact q | exact evT_pure.mpr q
theorem evT_step {f g : M Fl} {Q : Fl → Sg → Prop} (h : ∀ K : Fl → Sg → Prop, (∀ s1, EvT g s1 Q E → K .nx s1) → (∀ r s1, Q (.rt r) s1 → K (.rt r) s1) → (∀ s1, Q .bk s1 → K .bk s1) → (∀ s1, Q .ct s1 → K .ct s1) → EvT f s K E) : EvT (seqF f g) s Q E :=
  evT_seq (h _ (fun _ h => h) (fun _ _ h => h) (fun _ h => h) (fun _ h => h))
theorem evT_if {t : M Bool} {f g : M Fl} {Q : Fl → Sg → Prop} (h : EvT t s (fun b s1 => if b = true then EvT f s1 Q E else EvT g s1 Q E) E) : EvT (ifM t f g) s Q E := by
  unfold ifM
  rw [evT_bind]
  refine h.mono (fun a s1 q => ?_) fun _ _ h => h
  cases a <;> exact q
theorem evT_stepI {t : M Bool} {f g : M Fl} {Q : Fl → Sg → Prop} (h : ∀ K : Bool → Sg → Prop, (∀ s1, EvT f s1 Q E → K true s1) → (∀ s1, EvT g s1 Q E → K false s1) → Ev t s K) : EvT (ifM t f g) s Q E :=
  evT_if (evT_of_ev (h _ (fun _ h => by rw [if_pos rfl]; exact h) fun _ h => by rw [if_neg Bool.false_ne_true]; exact h))
theorem evT_expr {fe : M Op} {Q : Fl → Sg → Prop} (h : EvT fe s (fun _ s1 => Q .nx s1) E) : EvT (exprM fe) s Q E := by
  unfold exprM
  rw [evT_bind]
  exact h.mono (fun _ _ q => evT_pure.mpr q) fun _ _ h => h
theorem evT_fnM {fn : Fn} {as : List Arg} {Q : Op → Sg → Prop} (h : FnT fn as s.g (retK Q s) fun x g => E x { s with g := g }) : EvT (fnM fn as) s Q E := by
  unfold FnT at h
  unfold EvT fnM
  cases e : fn as s.g with
  | bad => rw [e] at h; exact h.elim
  | ex x g => rw [e] at h; exact h
  | ok r g =>
    rw [e] at h
    cases r <;> exact h
theorem evT_callM {fn : Fn} {fs : M (List Op)} {Q : Op → Sg → Prop} (h : Ev fs s fun os s1 => Ev (argsOf os) s1 fun as s2 => FnT fn as s2.g (retK Q s2) fun x g => E x { s2 with g := g }) : EvT (callM fn fs) s Q E := by
  unfold callM
  rw [evT_bind]
  refine evT_of_ev (h.mono fun os s1 h => ?_)
  rw [evT_bind]
  exact evT_of_ev (h.mono fun as s2 h => evT_fnM h)
theorem fnT_run {n : Nat} {m : M Fl} {as : List Arg} {g : G} {Q : Ret → G → Prop} {E : Xn → G → Prop} : FnT (runD n m) as g Q E ↔ EvT m { ρ := startD n as, g := g } (flK g Q) fun x s => E x (gOut g s.g) := by
  unfold FnT EvT runD
  cases m { ρ := startD n as, g := g } with
  | bad => exact Iff.rfl
  | ex x s => exact Iff.rfl
  | ok a s => cases a <;> exact Iff.rfl
theorem evT_try {b : M Fl} {hs : List Hd} {Q : Fl → Sg → Prop} (h : EvT b s Q fun x s1 => Ev (hdsM hs x) s1 Q) : EvT (tryM b hs) s Q E := by
  unfold EvT tryM at *
  cases e : b s with
  | bad => rw [e] at h; exact h.elim
  | ok a s' => rw [e] at h; exact h
  | ex x s' =>
    rw [e] at h
    have h' : EvT (hdsM hs x) s' Q E := evT_of_ev h
    exact h'
theorem ev_try {b : M Fl} {hs : List Hd} {Q : Fl → Sg → Prop} (h : EvT b s Q fun x s1 => Ev (hdsM hs x) s1 Q) : Ev (tryM b hs) s Q := ev_of_evT (evT_try h)
theorem ev_hd_no {h : Hd} {hs : List Hd} {x : Xn} {Q : Fl → Sg → Prop} (e : h.takes x.cls = some false) (k : Ev (hdsM hs x) s Q) : Ev (hdsM (h :: hs) x) s Q := by
  obtain ⟨a, s', e1, q⟩ := k
  exact ⟨a, s', by unfold hdsM; rw [e]; exact e1, q⟩
theorem ev_hd_yes {h : Hd} {hs : List Hd} {x : Xn} {Q : Fl → Sg → Prop} (e : h.takes x.cls = some true) (e2 : h.slot = none) (k : Ev (h.suite x) s Q) : Ev (hdsM (h :: hs) x) s Q := by
  obtain ⟨a, s', e1, q⟩ := k
  exact ⟨a, s', by unfold hdsM; rw [e]; dsimp only; rw [e2]; dsimp only; rw [e1]; rfl, q⟩
/-- what follows a suite that held the exception in slot i -/
def goneK (i : Nat) (Q : Fl → Sg → Prop) : Fl → Sg → Prop
  | .rt r, s => Q (.rt r) s
  | f, s => Q f (goneS i s)
@[simp] theorem goneK_rt {i : Nat} {Q : Fl → Sg → Prop} {r : Ret} : goneK i Q (.rt r) s ↔ Q (.rt r) s := Iff.rfl
theorem ev_hd_as {h : Hd} {hs : List Hd} {x : Xn} {i : Nat} {Q : Fl → Sg → Prop} (e : h.takes x.cls = some true) (e2 : h.slot = some i) (k : Ev (h.suite x) (heldS i s) (goneK i Q)) : Ev (hdsM (h :: hs) x) s Q := by
  obtain ⟨a, s', e1, q⟩ := k
  cases a with
  | rt r => exact ⟨.rt r, s', by unfold hdsM; rw [e]; dsimp only; rw [e2]; dsimp only; rw [e1]; rfl, q⟩
  | nx => exact ⟨.nx, goneS i s', by unfold hdsM; rw [e]; dsimp only; rw [e2]; dsimp only; rw [e1]; rfl, q⟩
  | bk => exact ⟨.bk, goneS i s', by unfold hdsM; rw [e]; dsimp only; rw [e2]; dsimp only; rw [e1]; rfl, q⟩
  | ct => exact ⟨.ct, goneS i s', by unfold hdsM; rw [e]; dsimp only; rw [e2]; dsimp only; rw [e1]; rfl, q⟩
def excS {α : Type} (o : Option α) (Q : α → Prop) : Option Slt → Prop
  | some .exc => optS Q o
  | _ => False
@[simp] theorem excS_exc {α : Type} {o : Option α} {Q : α → Prop} : excS o Q (some .exc) ↔ optS Q o := Iff.rfl
@[simp] theorem ev_fld {i : Nat} {x : Xn} {f : Str} {Q : Op → Sg → Prop} : Ev (fldM i x f) s Q ↔ excS (x.fs.lookup f) (fun d => Q (.val d) s) s.ρ[i]? := by
  cases e : s.ρ[i]? with
  | none => exact ev_bad (by unfold fldM; rw [e])
  | some sl =>
    cases sl with
    | exc =>
      cases e2 : x.fs.lookup f with
      | none => exact ev_bad (by unfold fldM; rw [e]; dsimp only; rw [e2])
      | some d => exact ev_ok (by unfold fldM; rw [e]; dsimp only; rw [e2])
    | no => exact ev_bad (by unfold fldM; rw [e])
    | val d => exact ev_bad (by unfold fldM; rw [e])
    | own lk c => exact ev_bad (by unfold fldM; rw [e])
    | bor c => exact ev_bad (by unfold fldM; rw [e])
    | glob => exact ev_bad (by unfold fldM; rw [e])
@[simp] theorem ev_isx {i : Nat} {b : Option Bool} {Q : Op → Sg → Prop} : Ev (isxM i b) s Q ↔ excS b (fun b => Q (.val (.bool b)) s) s.ρ[i]? := by
  cases e : s.ρ[i]? with
  | none => exact ev_bad (by unfold isxM; rw [e])
  | some sl =>
    cases sl with
    | exc =>
      cases b with
      | none => exact ev_bad (by unfold isxM; rw [e])
      | some d => exact ev_ok (by unfold isxM; rw [e])
    | no => exact ev_bad (by unfold isxM; rw [e])
    | val d => exact ev_bad (by unfold isxM; rw [e])
    | own lk c => exact ev_bad (by unfold isxM; rw [e])
    | bor c => exact ev_bad (by unfold isxM; rw [e])
    | glob => exact ev_bad (by unfold isxM; rw [e])
/-! for -/
theorem evT_for {f : M (List D)} {t : Tg} {body : M Fl} {Q : Fl → Sg → Prop} (h : Ev f s fun ds s1 => EvT (forD t body ds) s1 Q E) : EvT (PD.forM f t body) s Q E := by
  unfold PD.forM
  rw [evT_bind]
  exact evT_of_ev h
theorem evT_forD {t : Tg} {body : M Fl} {Q : Fl → Sg → Prop} (ds : List D) (Inv : Nat → Sg → Prop) (h0 : Inv 0 s)
    (hs : ∀ i d s, ds[i]? = some d → Inv i s → ∃ ρ', t.set d s.ρ = some ρ' ∧ EvT body { s with ρ := ρ' } (turnK (Inv (i + 1)) Q) E) (he : ∀ s, Inv ds.length s → Q .nx s) : EvT (forD t body ds) s Q E := by
  have go : ∀ (n i : Nat) (s : Sg), n + i = ds.length → Inv i s → EvT (forD t body (ds.drop i)) s Q E := by
    intro n
    induction n with
    | zero =>
      intro i s e hI
      have e : i = ds.length := by omega
      subst e
      rw [List.drop_length]
      exact evT_pure.mpr (he s hI)
    | succ n ih =>
      intro i s e hI
      have hl : i < ds.length := by omega
      rw [List.drop_eq_getElem_cons hl]
      obtain ⟨ρ', e1, q⟩ := hs i _ s (List.getElem?_eq_getElem hl) hI
      have e2 : forD t body (ds[i] :: ds.drop (i + 1)) s = (body >>= afterD (forD t body (ds.drop (i + 1)))) { s with ρ := ρ' } := by
        rw [forD]
        dsimp only
        rw [e1]
      have q2 : EvT (body >>= afterD (forD t body (ds.drop (i + 1)))) { s with ρ := ρ' } Q E := by
        rw [evT_bind]
        refine q.mono (fun r s1 k => ?_) fun _ _ h => h
        cases r with
        | nx => exact ih (i + 1) s1 (by omega) k
        | ct => exact ih (i + 1) s1 (by omega) k
        | bk => exact evT_pure.mpr k
        | rt r => exact evT_pure.mpr k
      unfold EvT at q2 ⊢
      rw [e2]
      exact q2
  exact go ds.length 0 s (by omega) h0
end
end PD
end

section
set_option Elab.async false
set_option linter.all false
set_option maxRecDepth 100000
set_option maxHeartbeats 4000000
set_option autoImplicit false
/-! XF: the text of a class, looked through. -/
namespace XA
open PySem PySem.W PySem.Calls PyProof.Rows PySem.HandSPX
def stOf (f : Str) : Stmt → Option P4
  | .Assign [.Attribute (.Name s q1) f1 q2] (.Name f2 q3) q4 => if s = "self" ∧ f1 = f ∧ f2 = f then some ⟨q1, q2, q3, q4⟩ else none
  | _ => none
theorem stOf_ok {f : Str} {st : Stmt} {q : P4} (h : stOf f st = some q) : st = stS f q := by
  unfold stOf at h
  split at h
  · split at h
    · rename_i c
      cases h
      obtain ⟨rfl, rfl, rfl⟩ := c
      rfl
    · cases h
  · cases h
def stsOf : List Str → List Stmt → Option (List P4)
  | [], [] => some []
  | f :: fs, st :: sts => match stOf f st, stsOf fs sts with
    | some q, some qs => some (q :: qs)
    | _, _ => none
  | _, _ => none
theorem stsOf_ok : ∀ {fs : List Str} {sts : List Stmt} {qs : List P4}, stsOf fs sts = some qs → qs.length = fs.length ∧ sts = stsS fs qs
  | [], [], _, h => by cases h; exact ⟨rfl, rfl⟩
  | f :: fs, st :: sts, qs, h => by
    unfold stsOf at h
    cases e1 : stOf f st with
    | none => rw [e1] at h; cases h
    | some q =>
      cases e2 : stsOf fs sts with
      | none => rw [e1, e2] at h; cases h
      | some qs' =>
        rw [e1, e2] at h
        cases h
        obtain ⟨a, b⟩ := stsOf_ok e2
        exact ⟨by rw [List.length_cons, List.length_cons, a], by rw [stOf_ok e1, b]; rfl⟩
  | [], _ :: _, _, h => by cases h
  | _ :: _, [], _, h => by cases h
def initOk (m : Str) (fs : List Str) : List Stmt → Bool
  | .Expr (.Call (.Attribute (.Call (.Name s p0) [] [] p1) i p2) [.Constant (.str z) k p3] [] p4) p5 :: r => decide (s = "super" ∧ i = "__init__" ∧ z = m) && (p2.endLine == p4.line) && (stsOf fs r).isSome
  | _ => false
theorem initB_of {m : Str} {fs : List Str} {body : List Stmt} (h : initOk m fs body = true) : InitB m fs body := by
  unfold initOk at h
  split at h
  · rename_i s p0 p1 i p2 z k p3 p4 p5 r
    simp only [Bool.and_eq_true, decide_eq_true_eq] at h
    obtain ⟨⟨⟨rfl, rfl, rfl⟩, hl⟩, hs⟩ := h
    obtain ⟨qs, hq⟩ := Option.isSome_iff_exists.mp hs
    obtain ⟨a, b⟩ := stsOf_ok hq
    exact ⟨k, p0, p1, p2, p3, p4, p5, qs, a, hl, by rw [b]; rfl⟩
  · cases h
def clsBody : Stmt → List Stmt
  | .ClassDef _ _ _ b _ _ _ _ _ _ _ => b
  | _ => []
def clsDef (st : Stmt) (i : Nat) : Stmt := (clsBody st).getD i (.Pass ⟨0, 0, 0, 0⟩)
/-- the scope of such an __init__ -/
def scOk (fs : List Str) (scope : Scope) : Bool := decide (scope.names.lookup ("super" : Str) = some .globalImplicit) && decide (scope.names.lookup ("__class__" : Str) = some .free) && (("self" : Str) :: fs).all (fun f => decide (scope.names.lookup f = some .local)) &&
  decide (scope.kind = .function) && scope.names.all (fun x => decide (x.2 ≠ .cell)) && !scope.isCoroutine && !scope.isGenerator
def fsOk (fs : List Str) : Bool := decide ((("self" : Str) :: fs).Nodup) && decide (fs.length ≤ 50) && fs.all (fun f => f != "__debug__")
/-- the first argument -/
def selfOk (params : Arguments) : Bool := match (params.posonlyargs ++ params.args).head? with
  | some ar => decide (ar.arg = "self")
  | none => false
theorem clsT_mk {P : Program} {K : Frag} {C fI : Addr} {m : Str} {fs : List Str} {st : Stmt} {q : Str}
    {nm qq : Str} {N : Addr} {bs bm : List Value} {sn : List Str} {sub : List Value} {ab : Bool} {col : Option Bool} {dd : Option Addr} {k0 k1 k2 k3 k5 : Option Value}
    {oc doc pm ct ccl cl : Value} {od an cdd cld : Option Addr} {osl ccs csl : Array (Option Value)} {cda cc : Addr} {vs : Array Value} {file : Str} {tf : Tok}
    (hcl : K.lookup C = some (excClassObj nm qq C N bs bm true sn sub ab col dd k0 k1 k2 k3 k5 "ValueError.__new__")) (hbm : refsVE bm = true)
    (sa : findIn K (.ref C) "__setattr__" = some (some (.builtin "object.__setattr__"))) (noN : ∀ f ∈ fs, findIn K (.ref C) f = some none) (iC : findIn K (.ref C) "__init__" = some (some (.ref fI))) (tC : typeIn K (.ref fI) = some (.type "function")) (kC : keepIn K (.ref C) = true)
    (exC : subIn K (.ref C) (.type "BaseException") = some true) (veC : subIn K (.ref C) (.type "ValueError") = some true) (tyC : typeIn K (.ref C) = some (.type "type")) (hdC : hasDictIn K C = true) (meC : mroIn K C (.ref C) = some true)
    (sup : ks_superIn K C C "__init__" = some (some (.builtin "ValueError.__init__"))) (nsup : nsIn K mainGlobals "super" = some none) (ntp : nsIn K cStatics "thirdparty.any" = some none)
    (lk : K.lookup fI = some ⟨oc, od, .func (ksFn "__init__" q (L2.defArgs st) (L2.defBody st) (L2.defScope st) .none .none doc pm an (.ref cda) ct cc), osl⟩) (hcd : codeIn K (.ref cda) q = true) (hin : initOk m fs (L2.defBody st) = true)
    (hcode : K.lookup cda = some ⟨ccl, cdd, .fields vs, ccs⟩) (hvs : vs[2]? = some (.str file tf)) (hfile : ((P.main.file : Str) == file) = true) (hcell : K.lookup cc = some ⟨cl, cld, .cell (some (.ref C)), csl⟩)
    (hself : selfOk (L2.defArgs st) = true) (hb : ∀ (s : Shared) (us : List Value), us.length = (("self" : Str) :: fs).length → BindsTo s (ksFn "__init__" q (L2.defArgs st) (L2.defBody st) (L2.defScope st) .none .none doc pm an (.ref cda) ct cc) ⟨us, []⟩ ((("self" : Str) :: fs).zip us))
    (hsc : scOk fs (L2.defScope st) = true) (htop : (P.main.scope.names.lookup ("super" : Str)).isSome = false) (hfs : fsOk fs = true) : ClsT P K C fI m fs := by
  unfold scOk at hsc
  simp only [Bool.and_eq_true, decide_eq_true_eq, List.all_eq_true, Bool.not_eq_true'] at hsc
  obtain ⟨⟨⟨⟨⟨⟨s1, s2⟩, s3⟩, s4⟩, s5⟩, s6⟩, s7⟩ := hsc
  unfold fsOk at hfs
  simp only [Bool.and_eq_true, decide_eq_true_eq, List.all_eq_true] at hfs
  obtain ⟨⟨f1, f2⟩, f3⟩ := hfs
  have hs2 : ∃ ar, ((L2.defArgs st).posonlyargs ++ (L2.defArgs st).args).head? = some ar ∧ ar.arg = "self" := by
    unfold selfOk at hself
    split at hself
    · rename_i ar e
      exact ⟨ar, e, of_decide_eq_true hself⟩
    · cases hself
  exact { cls := ⟨nm, qq, N, bs, bm, sn, sub, ab, col, dd, k0, k1, k2, k3, k5, hcl, hbm⟩, sa := sa, noN := noN, iC := iC, tC := tC, kC := kC, exC := exC, veC := veC, tyC := tyC, hdC := hdC, meC := meC, sup := sup, nsup := nsup, ntp := ntp,
          fn := ⟨q, L2.defArgs st, L2.defBody st, L2.defScope st, oc, od, doc, pm, an, cda, cc, ct, osl, lk, hcd, initB_of hin, ⟨ccl, cdd, vs, ccs, file, tf, hcode, hvs, hfile⟩, ⟨cl, cld, csl, hcell⟩, hs2, hb, s1, s2, s3, s4, s5, s6, s7⟩,
          htop := htop, nd := f1, few := f2, plainF := fun f hf => by have := f3 f hf; simpa using this }
end XA
end

section
set_option Elab.async false
set_option linter.all false
set_option maxRecDepth 100000
set_option maxHeartbeats 4000000
set_option autoImplicit false
/-! XG: data without truth values: equal as Python compares them is equal. -/
namespace PD
open PySem PySem.Spec L2
mutual
def nb : D → Bool
  | .none => true
  | .int _ => true
  | .str _ => true
  | .tuple xs => nbAll xs
  | _ => false
def nbAll : List D → Bool
  | [] => true
  | x :: xs => nb x && nbAll xs
end
theorem nbAll_iff : ∀ {xs : List D}, nbAll xs = true ↔ ∀ x ∈ xs, nb x = true
  | [] => by simp [nbAll]
  | x :: xs => by simp [nbAll, nbAll_iff (xs := xs)]
theorem depthAll_le {n : Nat} : ∀ {xs : List D}, (∀ x ∈ xs, x.depth ≤ n) → PyData.depthAll xs ≤ n
  | [], _ => by simp [PyData.depthAll]
  | x :: xs, h => by
    have h1 := h x List.mem_cons_self
    have h2 := depthAll_le fun y hy => h y (List.mem_cons_of_mem _ hy)
    simp only [PyData.depthAll]
    omega
/-- without truth values, of a small depth -/
def Nb (n : Nat) (d : D) : Prop := nb d = true ∧ d.depth ≤ n
theorem Nb.up {n m : Nat} {d : D} (h : Nb n d) (k : n ≤ m) : Nb m d := ⟨h.1, Nat.le_trans h.2 k⟩
theorem nb_tup {n : Nat} {xs : List D} (h : ∀ x ∈ xs, Nb n x) : Nb (n + 1) (.tuple xs) :=
  ⟨by unfold nb; exact nbAll_iff.mpr fun x hx => (h x hx).1, by simp only [PyData.depth]; have := depthAll_le fun x hx => (h x hx).2; omega⟩
theorem nb_str {n : Nat} {z : Str} : Nb n (.str z) := ⟨rfl, by simp [PyData.depth]⟩
theorem nb_int {n : Nat} {i : Int} : Nb n (.int i) := ⟨rfl, by simp [PyData.depth]⟩
theorem nb_none {n : Nat} : Nb n .none := ⟨rfl, by simp [PyData.depth]⟩
mutual
theorem eqv_nb : ∀ {d e : D}, nb d = true → nb e = true → (PyData.eqv d e = true ↔ d = e)
  | .none, e, _, he => by cases e <;> simp_all [nb, PyData.eqv]
  | .int i, e, _, he => by cases e <;> simp_all [nb, PyData.eqv]
  | .str z, e, _, he => by cases e <;> simp_all [nb, PyData.eqv]
  | .tuple xs, e, hd, he => by
    cases e with
    | tuple ys =>
      rw [nb] at hd he
      rw [PyData.eqv, eqvAll_nb hd he]
      constructor
      · rintro rfl; rfl
      · intro h; cases h; rfl
    | _ => simp_all [nb, PyData.eqv]
  | .bool _, _, hd, _ => by cases hd
  | .list _, _, hd, _ => by cases hd
  | .dict _, _, hd, _ => by cases hd
theorem eqvAll_nb : ∀ {xs ys : List D}, nbAll xs = true → nbAll ys = true → (PyData.eqvAll xs ys = true ↔ xs = ys)
  | [], [], _, _ => by simp [PyData.eqvAll]
  | [], _ :: _, _, _ => by simp [PyData.eqvAll]
  | _ :: _, [], _, _ => by simp [PyData.eqvAll]
  | x :: xs, y :: ys, hx, hy => by
    rw [nbAll, Bool.and_eq_true] at hx hy
    rw [PyData.eqvAll, Bool.and_eq_true, eqv_nb hx.1 hy.1, eqvAll_nb hx.2 hy.2, List.cons.injEq]
end
theorem Nb.eqv {n m : Nat} {d e : D} (h : Nb n d) (h' : Nb m e) : PyData.eqv d e = true ↔ d = e := eqv_nb h.1 h'.1
theorem Nb.refl {n : Nat} {d : D} (h : Nb n d) : PyData.eqv d d = true := (h.eqv h).mpr rfl
theorem Nb.eqv_dec {n m : Nat} {d e : D} (h : Nb n d) (h' : Nb m e) [Decidable (d = e)] : PyData.eqv d e = decide (d = e) := by
  by_cases c : d = e
  · rw [decide_eq_true c]; exact (h.eqv h').mpr c
  · rw [decide_eq_false c]
    cases q : PyData.eqv d e with
    | false => rfl
    | true => exact absurd ((h.eqv h').mp q) c
end PD
namespace Lw
open PySem PySem.Spec L2 PD
theorem sm_nb {k n : Nat} {d : D} (h : Sm k d) : Nb n d := by obtain ⟨z, rfl, _⟩ := h; exact nb_str
theorem ib_nb {n : Nat} {d : D} (h : Ib d) : Nb n d := by obtain ⟨z, rfl, _⟩ := h; exact nb_int
theorem bnd_nb {n : Nat} {d : D} (h : Bnd d) : Nb n d := by
  rcases h with rfl | h
  · exact nb_none
  · exact ib_nb h
theorem arr_nb {P : D → Prop} {n : Nat} {d : D} (h : Arr P d) (hp : ∀ x, P x → Nb n x) : Nb (n + 1) d := by
  obtain ⟨xs, rfl, _, hx⟩ := h
  exact nb_tup fun x hm => hp x (hx x hm)
def AllP (P : D → Prop) : List D → Prop
  | [] => True
  | [x] => P x
  | x :: y :: r => P x ∧ AllP P (y :: r)
theorem allP {P : D → Prop} : ∀ {xs : List D}, AllP P xs → ∀ x ∈ xs, P x
  | [], _, _, h => by cases h
  | [a], h, x, hx => by rw [List.mem_singleton] at hx; subst hx; exact h
  | a :: b :: r, h, x, hx => by
    rcases List.mem_cons.mp hx with rfl | hx
    · exact h.1
    · exact allP h.2 x hx
theorem all_nb {n : Nat} {xs : List D} (h : AllP (Nb n) xs) : ∀ x ∈ xs, Nb n x := allP h
theorem pair_nb {d : D} (h : PairT d) : Nb 1 d := by
  obtain ⟨a, b, rfl, ha, hb⟩ := h
  exact nb_tup (all_nb ⟨sm_nb ha, sm_nb hb⟩)
theorem arm_nb {d : D} (h : ArmT d) : Nb 1 d := by
  obtain ⟨a, b, c, i, j, k, rfl, ⟨ha, hb, hc⟩, hi, hj, hk⟩ := h
  exact nb_tup (all_nb ⟨sm_nb ha, sm_nb hb, sm_nb hc, ib_nb hi, ib_nb hj, ib_nb hk⟩)
theorem kind_nb {d : D} (h : KindT d) : Nb 3 d := by
  obtain ⟨a, i, j, p, rfl, ha, hi, hj, hp⟩ := h
  exact nb_tup (all_nb ⟨sm_nb ha, ib_nb hi, ib_nb hj, arr_nb hp fun x h => pair_nb h⟩)
theorem take_nb {d : D} (h : TakeT d) : Nb 1 d := by
  obtain ⟨a, i, b, rfl, ha, hi, hb⟩ := h
  exact nb_tup (all_nb ⟨sm_nb ha, ib_nb hi, sm_nb hb⟩)
theorem work_nb {d : D} (h : WorkT d) : Nb 3 d := by
  obtain ⟨a, t, c, i, j, k, l, rfl, ha, ⟨ht, hc⟩, hi, hj, hk, hl⟩ := h
  exact nb_tup (all_nb ⟨sm_nb ha, arr_nb ht fun x h => take_nb h, (arr_nb (n := 0) hc fun x h => sm_nb h).up (by decide), ib_nb hi, ib_nb hj, ib_nb hk, ib_nb hl⟩)
theorem link_nb {d : D} (h : LinkT d) : Nb 1 d := by
  obtain ⟨a, b, c, e, x, y, rfl, ⟨ha, hb, hc, he⟩, hx, hy⟩ := h
  exact nb_tup (all_nb ⟨sm_nb ha, sm_nb hb, sm_nb hc, sm_nb he, bnd_nb hx, bnd_nb hy⟩)
theorem find_nb {d : D} (h : FindT d) : Nb 3 d := by
  rcases h with rfl | ⟨t, c, i, j, rfl, ⟨ht, hc⟩, hi, hj⟩
  · exact nb_tup fun x hx => by cases hx
  · exact nb_tup (all_nb ⟨arr_nb ht fun x h => take_nb h, (arr_nb (n := 0) hc fun x h => sm_nb h).up (by decide), ib_nb hi, ib_nb hj⟩)
theorem trouble_nb {d : D} (h : TroubleT d) : Nb 4 d := by
  obtain ⟨a, b, i, f, rfl, ⟨ha, hb⟩, hi, hf⟩ := h
  exact nb_tup (all_nb ⟨sm_nb ha, sm_nb hb, ib_nb hi, find_nb hf⟩)
theorem mark_nb {d : D} (h : MarkT d) : Nb 1 d := by
  obtain ⟨a, b, x, y, rfl, ⟨ha, hb⟩, hx, hy⟩ := h
  exact nb_tup (all_nb ⟨sm_nb ha, sm_nb hb, bnd_nb hx, bnd_nb hy⟩)
theorem prom_nb {d : D} (h : PromT d) : Nb 2 d := by
  rcases h with ⟨a, f, i, rfl, ha, hf, hi⟩ | ⟨a, b, c, e, i, f, rfl, ⟨ha, hb, hc, he⟩, hi, hf⟩
  · exact nb_tup (all_nb ⟨nb_str, sm_nb ha, arr_nb (n := 0) hf fun x h => sm_nb h, ib_nb hi⟩)
  · exact nb_tup (all_nb ⟨nb_str, sm_nb ha, sm_nb hb, sm_nb hc, sm_nb he, ib_nb hi, sm_nb hf⟩)
theorem plan_nb {d : D} (h : PlanT d) : Nb 6 d := by
  obtain ⟨p1, p2, p3, p4, p5, p6, p7, p8, p9, p10, p11, p12, rfl, h1, h2, h3, h4, h5, h6, h7, h8, h9, h10, h11, h12⟩ := h
  exact nb_tup (all_nb ⟨nb_str, (arr_nb (n := 0) h1 fun x h => sm_nb h).up (by decide), (arr_nb h2 fun x h => arm_nb h).up (by decide), (arr_nb h3 fun x h => kind_nb h).up (by decide), (arr_nb (n := 0) h4 fun x h => sm_nb h).up (by decide), (arr_nb h5 fun x h => work_nb h).up (by decide), (arr_nb h6 fun x h => link_nb h).up (by decide), arr_nb h7 fun x h => trouble_nb h,
    ib_nb h8, (arr_nb (n := 0) h9 fun x h => sm_nb h).up (by decide), ib_nb h10, (arr_nb h11 fun x h => mark_nb h).up (by decide), (arr_nb h12 fun x h => prom_nb h).up (by decide)⟩)
end Lw
end

section
set_option Elab.async false
set_option linter.all false
set_option maxRecDepth 100000
set_option maxHeartbeats 4000000
set_option autoImplicit false
/-! XH: a op b op c; own dicts; walks by enumerate and zip, for the layer PD. -/
namespace XB
open PySem PySem.Spec L2 PD
open PyProof.Rows hiding St
/-! ### a op b op c -/
def chainM (h h' : Op → Op → M Op) (fa fb fc : M Op) : M Op := do
  let x ← fa
  let y ← fb
  let z ← h x y
  let b ← toBl z
  if b = true then (do let w ← fc; h' y w) else pure (.val (.bool false))
section
variable {X : Cx} {B : Bd} {a b c : Expr} {fa fb fc : M Op} {pos : Pos}
/-- the two first operands and their comparison -/
theorem chain_head {op op' : CmpOp} {h h' : Op → Op → M Op} (ho : Op2 X B (compareOp op) h) (ha : DE X B a fa) (hb : DE X B b fb) {F H : Hp} {γ : Option Addr} {s : Sg} {σ : L2.St} (R : Rel X.K B F γ s σ H) {Q : VK}
    (g : Good X B F γ s σ H (chainM h h' fa fb fc s) (fun o s' F' H' => ∀ v, OpOk X.K B F' γ s' σ H' v o → NewIn H v o → Q v H')) {pins : List (Addr × Obj)} {w : Shared} (I : Inv X pins σ H w) {P : Value → Value → Value → Shared → Prop}
    (k : ∀ (u v d : Value) (w3 : Shared) (k : Bool) (y : V) (oy : Op) (F3 : Hp) (s3 : Sg) (H3 : Hp), d = .bool k → RelV y v → Inv X pins σ H3 w3 → Rel X.K B F3 γ s3 σ H3 → OpOk X.K B F3 γ s3 σ H3 y oy →
      Good X B F3 γ s3 σ H3 ((if k = true then (fc >>= fun w => h' oy w) else pure (.val (.bool false)) : M Op) s3) (fun o s' F' H' => ∀ v, OpOk X.K B F' γ s' σ H' v o → NewIn H3 v o → Q v H') → P u v d w3) :
    wpAny (model X.prog X.w) X.A (eval a X.env) (fun u s1 => wpAny (model X.prog X.w) X.A (eval b X.env) (fun v s2 => wpAny (model X.prog X.w) X.A (compareOp op u v) (P u v) X.xe s2) X.xe s1) X.xe w := by
  have st1 := two ha hb R (T := fun x y H2 => ∃ F2 s2 ox oy, Rel X.K B F2 γ s2 σ H2 ∧ OpOk X.K B F2 γ s2 σ H2 x ox ∧ OpOk X.K B F2 γ s2 σ H2 y oy ∧
      Good X B F2 γ s2 σ H2 ((h ox oy >>= fun z => toBl z >>= fun b => if b = true then (fc >>= fun w => h' oy w) else pure (.val (.bool false)) : M Op) s2) (fun o s' F' H' => ∀ v, OpOk X.K B F' γ s' σ H' v o → NewIn H2 v o → Q v H'))
    (f := fun x y => (h x y >>= fun z => toBl z >>= fun b => if b = true then (fc >>= fun w => h' y w) else pure (.val (.bool false)) : M Op)) g (fun x y ox oy s2 F2 H2 R2 h1 h2 g2 => ⟨F2, s2, ox, oy, R2, h1, h2, g2⟩)
  refine thn (st1 pins w I) fun u s1 ⟨x, H1, I1, r1, q1⟩ => thn (q1 pins s1 I1) fun v s2 ⟨y, H2, I2, r2, F2, t2, ox, oy, R2, h1, h2, g2⟩ => ?_
  refine thn (ho.run F2 γ t2 σ H2 R2 x y ox oy h1 h2 (fun z H3 => ∃ k, z = .bl k ∧ ∃ F3 s3, Rel X.K B F3 γ s3 σ H3 ∧ OpOk X.K B F3 γ s3 σ H3 y oy ∧ Good X B F3 γ s3 σ H3 ((if k = true then (fc >>= fun w => h' oy w) else pure (.val (.bool false)) : M Op) s3) (fun o s' F' H' => ∀ v, OpOk X.K B F' γ s' σ H' v o → NewIn H3 v o → Q v H'))
    (g2.then fun oz s3 F3 H3 e0 st3 R3 g3 z hz hn0 => ?_) pins s2 u v I2 r1 r2) fun d s3 ⟨z, H3, I3, r3, k', e, F3, t3, R3, hy, g3⟩ => ?_
  · unfold toBl at g3
    split at g3
    · rename_i k'
      have hz' : Dq X.K F3 z (.bool k') := hz
      exact ⟨k', hz'.bl_, F3, s3, R3, h2.stp st3, g3.imp fun o s' F' H' _ st4 _ q v e1 e2 => q (st3.trans st4) v e1 (e2.back st3)⟩
    · exact g3.no
  · subst e
    cases r3
    exact k u v _ s3 k' y oy F3 t3 H3 rfl r2 I3 R3 hy g3
theorem de_chain {op op' : CmpOp} {h h' : Op → Op → M Op} (ho : Op2 X B (compareOp op) h) (ho' : Op2 X B (compareOp op') h') (ha : DE X B a fa) (hb : DE X B b fb) (hc : DE X B c fc)
    (hm : lastMarks [op, op'] [b, c] = false := by with_unfolding_all rfl) : DE X B (.Compare a [op, op'] [b, c] pos) (chainM h h' fa fb fc) := by
  refine ⟨fun F γ s σ H R Q g pins w I => ?_⟩
  have key := chain_head (op' := op') ho ha hb R g I (P := fun u v d w3 => ∃ (k : Bool) (y : V) (oy : Op) (F3 : Hp) (s3 : Sg) (H3 : Hp), d = .bool k ∧ RelV y v ∧ Inv X pins σ H3 w3 ∧ Rel X.K B F3 γ s3 σ H3 ∧ OpOk X.K B F3 γ s3 σ H3 y oy ∧
      Good X B F3 γ s3 σ H3 ((if k = true then (fc >>= fun w => h' oy w) else pure (.val (.bool false)) : M Op) s3) (fun o s' F' H' => ∀ v, OpOk X.K B F' γ s' σ H' v o → NewIn H3 v o → Q v H'))
    fun u v d w3 k y oy F3 s3 H3 e r I3 R3 hy g3 => ⟨k, y, oy, F3, s3, H3, e, r, I3, R3, hy, g3⟩
  refine Compare_chain (thn key fun u s1 q1 => chain_link (thn q1 fun v s2 q2 => thn q2 fun d s3 ⟨k, y, oy, F3, t3, H3, e, r, I3, R3, hy, g3⟩ => ?_)) hm
  subst e
  refine wpAny_truthy_bool ?_
  cases k with
  | false =>
    rw [if_neg Bool.false_ne_true] at g3
    exact ite_ff ⟨.bl false, H3, I3, rfl, Good.ok0 (b := (Op.val (.bool false))) R3 g3 _ (.bl false) trivial⟩
  | true =>
    refine ite_tt (chain_last ?_)
    refine thn (hc.run F3 γ t3 σ H3 R3 (fun z H4 => ∃ F4 s4 oz, Rel X.K B F4 γ s4 σ H4 ∧ OpOk X.K B F4 γ s4 σ H4 z oz ∧ OpOk X.K B F4 γ s4 σ H4 y oy ∧ Good X B F4 γ s4 σ H4 (h' oy oz s4) (fun o s' F' H' => ∀ v, OpOk X.K B F' γ s' σ H' v o → NewIn H4 v o → Q v H'))
      (Good.then (m := fc) (k := fun w => h' oy w) g3 fun oz s4 F4 H4 _ st4 R4 g4 z hz _ => ⟨F4, s4, oz, R4, hz, hy.stp st4, g4.imp fun o s' F' H' _ st5 _ q v e1 e2 => q (st4.trans st5) v e1 (e2.back st4)⟩) pins s3 I3) fun w' s4 ⟨z, H4, I4, r4, F4, t4, oz, R4, hz, hy4, g4⟩ => ?_
    exact ho'.run F4 γ t4 σ H4 R4 y z oy oz hy4 hz Q g4 pins s4 v w' I4 r r4
theorem dt_chain {op op' : CmpOp} {h h' : Op → Op → M Op} (ho : Op2 X B (compareOp op) h) (ho' : Op2 X B (compareOp op') h') (ha : DE X B a fa) (hb : DE X B b fb) (hc : DE X B c fc)
    (hm : lastMarks [op, op'] [b, c] = false := by with_unfolding_all rfl) : DT X B (.Compare a [op, op'] [b, c] pos) (chainM h h' fa fb fc >>= toBl) := by
  refine ⟨fun F γ s σ H R Q g pins w I => ?_⟩
  have g' : Good X B F γ s σ H (chainM h h' fa fb fc s) (fun o s1 F1 H1 => ∀ v, OpOk X.K B F1 γ s1 σ H1 v o → NewIn H v o → ∃ k, v = .bl k ∧ Q k H1) := g.then fun o s1 F1 H1 e0 st1 R1 g1 v hv hn => by
    unfold toBl at g1
    split at g1
    · rename_i k
      have hv' : Dq X.K F1 v (.bool k) := hv
      exact ⟨k, hv'.bl_, g1.ok0 R1 st1⟩
    · exact g1.no
  have key := chain_head (op' := op') ho ha hb R g' I (P := fun u v d w3 => ∃ (k : Bool) (y : V) (oy : Op) (F3 : Hp) (s3 : Sg) (H3 : Hp), d = .bool k ∧ RelV y v ∧ Inv X pins σ H3 w3 ∧ Rel X.K B F3 γ s3 σ H3 ∧ OpOk X.K B F3 γ s3 σ H3 y oy ∧
      Good X B F3 γ s3 σ H3 ((if k = true then (fc >>= fun w => h' oy w) else pure (.val (.bool false)) : M Op) s3) (fun o s' F' H' => ∀ v, OpOk X.K B F' γ s' σ H' v o → NewIn H3 v o → ∃ k, v = .bl k ∧ Q k H'))
    fun u v d w3 k y oy F3 s3 H3 e r I3 R3 hy g3 => ⟨k, y, oy, F3, s3, H3, e, r, I3, R3, hy, g3⟩
  refine isTrue_chain (thn key fun u s1 q1 => test_link (thn q1 fun v s2 q2 => thn q2 fun d s3 ⟨k, y, oy, F3, t3, H3, e, r, I3, R3, hy, g3⟩ => ?_)) hm
  subst e
  refine wpAny_truthy_bool ?_
  cases k with
  | false =>
    rw [if_neg Bool.false_ne_true] at g3
    obtain ⟨k', e', q'⟩ := Good.ok0 (b := (Op.val (.bool false))) R3 g3 _ (.bl false) trivial
    cases e'
    exact ite_ff ⟨H3, I3, q'⟩
  | true =>
    refine ite_tt (test_last ?_)
    refine thn (hc.run F3 γ t3 σ H3 R3 (fun z H4 => ∃ F4 s4 oz, Rel X.K B F4 γ s4 σ H4 ∧ OpOk X.K B F4 γ s4 σ H4 z oz ∧ OpOk X.K B F4 γ s4 σ H4 y oy ∧ Good X B F4 γ s4 σ H4 (h' oy oz s4) (fun o s' F' H' => ∀ v, OpOk X.K B F' γ s' σ H' v o → NewIn H4 v o → ∃ k, v = .bl k ∧ Q k H'))
      (Good.then (m := fc) (k := fun w => h' oy w) g3 fun oz s4 F4 H4 _ st4 R4 g4 z hz _ => ⟨F4, s4, oz, R4, hz, hy.stp st4, g4.imp fun o s' F' H' _ st5 _ q v e1 e2 => q (st4.trans st5) v e1 (e2.back st4)⟩) pins s3 I3) fun w' s4 ⟨z, H4, I4, r4, F4, t4, oz, R4, hz, hy4, g4⟩ => ?_
    refine thn (ho'.run F4 γ t4 σ H4 R4 y z oy oz hy4 hz _ g4 pins s4 v w' I4 r r4) fun d s5 ⟨x, H5, I5, r5, k, e, q⟩ => ?_
    subst e
    cases r5
    exact wpAny_truthy_bool ⟨H5, I5, q⟩
end

/-! ### {}, d[k] = v -/
theorem de_dnew {X : Cx} {B : Bd} {pos : Pos} : DE X B (.Dict [] [] pos) (pure (.new (.dct []))) := ⟨fun F γ s σ H R Q g => wE_of pe_dnewK fun p np => by
  obtain ⟨R', st, ok, nw⟩ := rel_new R np (o := .dK []) (c := .dct []) (.dct .nil)
  exact g F _ st R' _ ok nw⟩
def putD (kvs : List (Key × D)) (k : Key) (d : D) : List (Key × D) :=
  if (valD kvs k).isSome = true then kvs.map (fun kv => if kv.1 = k then (kv.1, d) else kv) else kvs ++ [(k, d)]
theorem kv_map {K : PySem.W.Frag} {F : Hp} {v : V} {d : D} (k : Key) (hd : Dq K F v d) : ∀ {ks : List (Key × V)} {kvs : List (Key × D)}, dpc_kv K F ks kvs → dpc_kv K F (ks.map fun kv => if kv.1 = k then (kv.1, v) else kv) (kvs.map fun kv => if kv.1 = k then (kv.1, d) else kv)
  | _, _, .nil => .nil
  | (k1, x) :: r, (k2, y) :: t, .cons ⟨e, h⟩ rest => by
    have e' : k1 = k2 := e
    subst e'
    refine .cons ?_ (kv_map k hd rest)
    by_cases c : k1 = k
    · dsimp only; rw [if_pos c, if_pos c]; exact ⟨rfl, hd⟩
    · dsimp only; rw [if_neg c, if_neg c]; exact ⟨rfl, h⟩
theorem kv_app {K : PySem.W.Frag} {F : Hp} : ∀ {ks ls : List (Key × V)} {kvs lvs : List (Key × D)}, dpc_kv K F ks kvs → dpc_kv K F ls lvs → dpc_kv K F (ks ++ ls) (kvs ++ lvs)
  | _, _, _, _, .nil, b => b
  | _, _, _, _, .cons h a, b => .cons h (kv_app a b)
theorem kv_put {K : PySem.W.Frag} {F : Hp} {ks : List (Key × V)} {kvs : List (Key × D)} {v : V} {d : D} (k : Key) (h : dpc_kv K F ks kvs) (hd : Dq K F v d) : dpc_kv K F (putK ks k v) (putD kvs k d) := by
  have e := kv_some k h
  unfold putK putD
  rw [valV_any, e]
  by_cases c : (valD kvs k).isSome = true
  · rw [if_pos c, if_pos c]; exact kv_map k hd h
  · rw [if_neg c, if_neg c]; exact kv_app h (.cons ⟨rfl, hd⟩ .nil)
/-- the own dict in slot j -/
def ownD (j : Nat) : M (List (Key × D)) := fun s => match s.ρ[j]? with
  | some (.own false (.dct kvs)) => .ok kvs s
  | _ => .bad
def toKey (o : Op) : M Key := fun s => match o with
  | .val d => match keyOf d with
    | some k => .ok k s
    | none => .bad
  | .slot i => match s.ρ[i]? with
    | some (.val d) => match keyOf d with
      | some k => .ok k s
      | none => .bad
    | _ => .bad
  | _ => .bad
def dputAt (j : Nat) (k : Key) (d : D) (kvs : List (Key × D)) : M Fl := fun s => if kvs.length < sizeLine then .ok .nx { s with ρ := s.ρ.set j (.own false (.dct (putD kvs k d))) } else .bad
def dputM (j : Nat) (fe fi : M Op) : M Fl := fe >>= fun o => frz o >>= fun d => ownD j >>= fun _ => fi >>= fun ix => toKey ix >>= fun k => ownD j >>= fun kvs => dputAt j k d kvs
section
variable {X : Cx} {B : Bd} {e ie : Expr} {fe fi : M Op} {pos pos' pos2 : Pos} {j : Nat} {x : Str}
theorem ownD_ok {K : PySem.W.Frag} {F H : Hp} {γ : Option Addr} {s s' : Sg} {σ : L2.St} {xs : List (Key × D)} (R : Rel K B F γ s σ H) (e : ownD j s = .ok xs s') :
    s' = s ∧ s.ρ[j]? = some (.own false (.dct xs)) ∧ ∃ p vs, σ[j]? = some (some (.ref p)) ∧ H p = some (.dK vs) ∧ dpc_kv K F vs xs := by
  unfold ownD at e
  split at e
  · rename_i e1
    cases e
    obtain ⟨p, o, ev, hp, ck, _⟩ := R.slot j _ e1
    cases ck with
    | dct ck => exact ⟨rfl, e1, p, _, ev, hp, ck⟩
  · cases e
theorem ownD_noex {s s' : Sg} {y : Xn} : ownD j s ≠ .ex y s' := by
  unfold ownD
  split <;> intro z <;> cases z
theorem toKey_ok {K : PySem.W.Frag} {F H : Hp} {γ : Option Addr} {s s' : Sg} {σ : L2.St} (R : Rel K B F γ s σ H) {o : Op} {v : V} (hv : OpOk K B F γ s σ H v o) {k : Key} (e : toKey o s = .ok k s') : v = kV k ∧ s' = s := by
  unfold toKey at e
  cases o with
  | new c => cases e
  | glob => cases e
  | val d =>
    dsimp only at e
    split at e
    · rename_i k' ek
      cases e
      exact ⟨key_is hv ek, rfl⟩
    · cases e
  | slot i =>
    obtain ⟨ev, sl, e1, _⟩ := hv
    dsimp only at e
    rw [e1] at e
    have so := R.slot i sl e1
    cases sl with
    | val d =>
      dsimp only at e
      obtain ⟨u, eu, hd⟩ := so
      rw [ev] at eu
      cases eu
      split at e
      · rename_i k' ek
        cases e
        exact ⟨key_is hd ek, rfl⟩
      · cases e
    | _ => cases e
theorem toKey_noex {o : Op} {s s' : Sg} {y : Xn} : toKey o s ≠ .ex y s' := by
  intro e
  unfold toKey at e
  cases o with
  | new c => cases e
  | glob => cases e
  | val d => dsimp only at e; split at e <;> cases e
  | slot i =>
    dsimp only at e
    cases h : s.ρ[i]? with
    | none => rw [h] at e; cases e
    | some sl =>
      rw [h] at e
      cases sl <;> first | cases e | (dsimp only at e; split at e <;> cases e)
theorem ds_dput (hu : X.A.units + 64 < cLine) (hN : X.N[j]? = some x) (he : DE X B e fe) (hi : DE X B ie fi) (hv : Vis X.env.scope x := by first | exact Or.inl rfl | exact Or.inr (Or.inl rfl) | exact Or.inr (Or.inr rfl)) (hd : (x == ("__debug__" : Str)) = false := by decide) (hcd : (x == ("__classdict__" : Str)) = false := by decide)
    (hs : swapsWith e (some (.Subscript (.Name x pos2) ie pos')) pos.line X.env = pure false := by rfl) : DS X B (.Assign [.Subscript (.Name x pos2) ie pos'] e pos) (dputM j fe fi) := by
  refine ⟨fun F γ s σ H E R h => ?_⟩
  refine wS_of (ps_dput (by omega) (pe_var hN hv hd hcd) pe_w pe_w hs) ?_
  unfold dputM at h
  refine he.run F γ s σ H R _ (Good.ofS h fun o s1 F1 H1 _ st1 R1 g1 v hv1 hn => ?_)
  cases e2 : frz o s1 with
  | ex y s2 => exact (frz_noex y s2 e2).elim
  | bad => rw [bind_bad e2] at g1; exact g1.elim
  | ok d s2 =>
    rw [bind_of e2] at g1
    obtain ⟨F2, f2, R2, hd2, st2, _⟩ := frz_ok R1 st1 (.of hv1 hn) e2
    cases e3 : ownD j s2 with
    | ex y s3 => exact (ownD_noex e3).elim
    | bad => rw [bind_bad e3] at g1; exact g1.elim
    | ok kvs0 s3 =>
      obtain ⟨rfl, e3', p, vs0, ev, hp0, _⟩ := ownD_ok R2 e3
      rw [bind_of e3] at g1
      refine ⟨_, ev, hi.run F2 γ s3 σ H1 R2 _ (Good.ofS (g1.le f2) fun ix s4 F4 H4 _ st4 R4 g4 vi hvi _ => ?_)⟩
      cases e5 : toKey ix s4 with
      | bad => rw [bind_bad e5] at g4; exact g4.elim
      | ex y s5 => exact (toKey_noex e5).elim
      | ok k s5 =>
        rw [bind_of e5] at g4
        obtain ⟨rfl, rfl⟩ := toKey_ok R4 hvi e5
        cases e6 : ownD j s5 with
        | bad => rw [bind_bad e6] at g4; exact g4.elim
        | ex y s6 => exact (ownD_noex e6).elim
        | ok kvs s6 =>
          obtain ⟨rfl, e6', p', vs, ev', hp, hk⟩ := ownD_ok R4 e6
          rw [bind_of e6] at g4
          rw [ev] at ev'
          cases ev'
          unfold dputAt at g4
          split at g4
          · rename_i hz
            have hk' := kv_put k hk (Dq.mono st4.fm hd2)
            obtain ⟨R7, st7⟩ := rel_mut R4 e6' ev (COk.dct hk')
            refine ⟨p, _, rfl, DPut.k hp (by rw [Paired.length hk]; exact hz), ?_⟩
            exact (show GoodS X B F4 (.ok .nx _) E from g4) F4 γ σ _ (Le.refl _) R7
          · exact g4.elim
end
end XB
end

section
set_option Elab.async false
set_option linter.all false
set_option maxRecDepth 100000
set_option maxHeartbeats 4000000
set_option autoImplicit false
/-! XI: for k, x in enumerate(xs), for x, y in zip(xs, ys), lists or tuples. -/
namespace XB
open PySem PySem.Spec L2 PD
open Sem (wp)
open PyProof.Rows hiding St
set_option maxHeartbeats 1000000 in
/-- enumerate(v) makes an iterator and keeps it -/
theorem enum_new {v : Value} {o : Obj} {H : Heap → Prop} (B : Begins v o H) :
    Meets (Builtin.«enumerate.__new__» ⟨[.type "enumerate", v], []⟩) (fun _ R s => H s.heap ∧
      R (.ok (.ret (.ref (s.heap.push o).objs.size))) { s with heap := (s.heap.push o).push { cls := .type "enumerate", data := .fields #[.none, .bool false, .ref s.heap.objs.size, rawInt 0, .none, .none] } }) :=
  .of_wp fun prog w A R s h => by
    obtain ⟨hp, g, d, tk, os⟩ := s; obtain ⟨h1, h⟩ := h
    have hsub := sub_enumerate
    have go : ∀ {A' : Around} {E : Value → Shared → Prop} {Q : Value → Shared → Prop}, Q (.ref hp.objs.size) ⟨hp.push o, g, d, tk, os⟩ → wpAny (model prog w) A' (pyIter v) Q E ⟨hp, g, d, tk, os⟩ :=
      fun q => B.iter prog w _ _ ⟨hp, g, d, tk, os⟩ _ h1 q
    wp_walk using go
    refine wpAny_stack_any fun st => wpAny_pure ?_
    split
    · rename_i c _ _ _ _ _
      cases (c == Value.type "enumerate")
      · wp_walk using go
        exact ⟨_, rfl, h⟩
      · wp_walk using go
        exact ⟨_, rfl, h⟩
    · wp_walk using go
      exact ⟨_, rfl, h⟩
theorem call_enum {prog : Program} {w : World} {A : Around} {E : Value → Shared → Prop} {s : Shared} {v : Value} {o : Obj} {H : Heap → Prop} {Q : Value → Shared → Prop} (B : Begins v o H) (h1 : H s.heap)
    (h : ∀ h', IsEnum h' (s.heap.objs.size + 1) s.heap.objs.size 0 .none → h'.get? s.heap.objs.size = some o → (∀ b o, s.heap.get? b = some o → h'.get? b = some o) → Q (.ref (s.heap.objs.size + 1)) { s with heap := h' }) :
    wpAny (model prog w) A (call (.type "enumerate") [v]) Q E s := by
  refine callType_new F.called_enumerate (by decide) (F.typeCall_enumerate_1 _) (F.newCall_enumerate_1 _) (fun obj => F.args_object_init_2 obj _) F.entry_enumerate_new (enum_new B) ⟨h1, ?_⟩
  have hz : (s.heap.push o).objs.size = s.heap.objs.size + 1 := Heap.size_push ..
  show _ ∧ _
  rw [hz]
  have he : IsEnum ((s.heap.push o).push { cls := .type "enumerate", data := .fields #[.none, .bool false, .ref s.heap.objs.size, rawInt 0, .none, .none] }) (s.heap.objs.size + 1) s.heap.objs.size 0 .none := by
    have := Heap.get?_push_size (s.heap.push o) (o := { cls := .type "enumerate", data := .fields #[.none, .bool false, .ref s.heap.objs.size, rawInt 0, .none, .none] }) rfl
    rw [hz] at this; exact this
  exact ⟨⟨_, he, rfl⟩, h _ he (Heap.get?_push_of_some _ (Heap.get?_push_size _ B.free)) fun b o' x => Heap.get?_push_of_some _ (Heap.get?_push_of_some _ x)⟩
/-- the tuple at a, each item in a new pair with its number -/
def IteT (K : PySem.W.Frag) (a : Addr) : It :=
  ⟨fun i H => ∃ (xs : List V) (x : V), SqT K H a xs ∧ xs[i]? = some x, fun i H v H' => ∃ T x, v = .ref T ∧ H T = none ∧ H' = upd H T (.tup [.int (i : Nat), x]) ∧ ∀ xs, SqT K H a xs → xs[i]? = some x, fun i H => ∃ xs : List V, SqT K H a xs ∧ xs.length ≤ i⟩
theorem apart_of {h : Heap} {a b : Addr} {o o' : Obj} {n m : String} (e : h.get? a = some o) (e' : h.get? b = some o') (c : o.cls = .type n) (c' : o'.cls = .type m) (hn : n ≠ m) : a ≠ b := fun z => by
  subst z
  rw [e] at e'
  cases e'
  rw [c] at c'
  cases c'
  exact hn rfl
/-- nothing is left of a tuple -/
theorem drawn_out {prog : Program} {w : World} {A : Around} (hh : A.handled = none) (it t : Addr) (i : Nat) (items : Array Value) (hx : items[i]? = none) :
    Draws prog w A it [it, t] i (fun _ _ => True) (fun j h => j = i ∧ h.IsTupleIter it t i ∧ h.IsTuple t items) where
  live := fun _ _ st => let ⟨o, ho, _⟩ := st.2.1; ⟨o, ho⟩
  frame := fun _ _ _ st hk => ⟨st.1, st.2.1.at fun o e => hk it (by simp) o e, st.2.2.at fun o e => hk t (by simp) o e⟩
  item := fun j s Q E hi st hQ => absurd hi (by rw [st.1]; exact Nat.lt_irrefl _)
  done := fun s Q E st hE => wpAny_nextOf_tuple_end hh st.2.1 st.2.2 hx hE
theorem turn_enumT {P : Program} {w : World} {K : PySem.W.Frag} {elts : List Expr} {kk : Nat} {tpos : Pos} (a e it : Addr) :
    Turn P w K (.Tuple elts kk tpos) (IteT K a) [e, it] e (fun i h => (∃ old, IsEnum h e it ((i : Nat) : Int) old) ∧ h.IsTupleIter it a i ∧ e ≠ it) where
  mem := by simp
  obj := fun i h st b hb => by
    obtain ⟨⟨old, he⟩, ⟨o, ho, hc, hd⟩, _⟩ := st
    rcases (show b = e ∨ b = it by simpa using hb) with z | z <;> subst z
    · exact ⟨_, he, fun v q => nomatch q⟩
    · exact ⟨o, ho, fun v q => by rw [hd] at q; cases q⟩
  keep := fun i h h' st k => let ⟨⟨old, he⟩, hi, hne⟩ := st; ⟨⟨old, k e (by simp) _ he⟩, hi.at fun o q => k it (by simp) o q, hne⟩
  item := by
    intro X hP hw hK hc i pins s σ H E I hf st hg
    subst hP hw hK
    obtain ⟨⟨old, he⟩, hit, hne⟩ := st
    obtain ⟨xs, x, hq, hx⟩ := hg
    obtain ⟨its, rv, p, hz⟩ := I.tuple hq
    have p : s.heap.IsTuple a its.toArray := p
    obtain ⟨u, hu, ru⟩ := rv.get hx
    have hel : e < s.heap.objs.size := Heap.lt_size he
    have hil : it < s.heap.objs.size := by obtain ⟨_, q, _⟩ := hit; exact Heap.lt_size q
    obtain ⟨oi, ei, ci, _⟩ := id hit
    obtain ⟨oa, ea, ca, _⟩ := id p
    have d1 : a ≠ it := apart_of ea ei ca ci (by decide)
    have d2 : e ≠ a := apart_of he ea rfl ca (by decide)
    have lt : i < its.toArray.size := by
      have := (List.getElem?_eq_some_iff.mp hu).1
      simpa using this
    refine wpAny_pyNext_enum_itemD (Draws.tuple (prog := X.prog) (w := X.w) (A := X.A.in1) (show X.A.in1.handled = none from I.ok.hd hc) it a d1 its.toArray) he ⟨hit, p⟩ lt hne (by simp [hne, d2]) fun y h' tk hy ho hst hT hsz hk => ?_
    have hyu : y = u := by
      have h1 : its[i]? = some y := by simpa using hy
      rw [hu] at h1
      exact (Option.some.inj h1).symm
    subst hyu
    refine ⟨_, rfl, wpAny_letOwnedTupleGo_enum (s := { s with heap := h', toks := tk + 1 }) ho fun h'' he' sb => ?_⟩
    have hT2 : h''.get? s.heap.objs.size = some { cls := .type "tuple", data := .seq #[.int i tk, y] } := (sb.2 _ (Nat.ne_of_gt hel)).trans hT
    have new : ObjOk X.prog X.w (upd H s.heap.objs.size (.tup [.int (i : Nat), x])) h'' s.heap.objs.size (.tup [.int (i : Nat), x]) :=
      ⟨by show 2 ≤ sizeLine; decide, [.int i tk, y], .cons ⟨_, rfl⟩ (.cons ru .nil), ⟨_, hT2, rfl, _, rfl⟩⟩
    have I1 : Inv X pins σ (upd H s.heap.objs.size (.tup [.int (i : Nat), x])) { s with heap := h'', toks := tk + 1 } :=
      I.turnedNew (ch := [e, it]) (fun b ob hb q => (sb.2 b (fun z => hb (by simp [z]))).trans (hk b ob (fun z => hb (by simp [z])) (fun z => hb (by simp [z])) q)) hf (Nat.le_refl _) new
    refine ⟨.ref s.heap.objs.size, _, I1, rfl, ⟨_, x, rfl, I.hok.fresh (Nat.le_refl _), rfl, fun ys hy => by rw [I.tuple_inj hy hq]; exact hx⟩, ⟨⟨y, ?_⟩, hst.1.at fun o q => (sb.2 it (Ne.symm hne)).trans q, hne⟩, fun b hb => ?_⟩
    · have e1 : ((i + 1 : Nat) : Int) = (i : Int) + 1 := by omega
      rw [e1]; exact he'
    · have hb' : b < s.heap.objs.size := by rcases (show b = e ∨ b = it by simpa using hb) with z | z <;> subst z <;> assumption
      rw [upd_ne (Nat.ne_of_lt hb')]
      exact (hf b hb).1
  done := by
    intro X hP hw hK hc i pins s σ H E I hf st hg
    subst hP hw hK
    obtain ⟨⟨old, he⟩, hit, hne⟩ := st
    obtain ⟨xs, hq, hx⟩ := hg
    obtain ⟨its, rv, p, hz⟩ := I.tuple hq
    have p : s.heap.IsTuple a its.toArray := p
    obtain ⟨f0, f1, f2, f3, f4, f5⟩ := hf it (by simp)
    obtain ⟨oi, ei, ci, di⟩ := id hit
    obtain ⟨oa, ea, ca, _⟩ := id p
    have d1 : a ≠ it := apart_of ea ei ca ci (by decide)
    have hl := rv.length
    exact wpAny_pyNext_enum_endD (drawn_out (show X.A.in1.handled = none from I.ok.hd hc) it a i its.toArray (by simp; omega)) he ⟨rfl, hit, p⟩ fun h' eb => ⟨rfl, I.turned (t' := s.toks) (fun b o hb q => eb b o hb q) f0 f1 f3 f4 f5⟩
  self := fun A i s Q E st h => let ⟨⟨_, he⟩, _⟩ := st; wpAny_pyIter_enum he h

def iEnumA (K : PySem.W.Frag) (ta : TA) : TI := fun σ H R => ta σ H fun vs H1 => ∃ a xs, vs = [.ref a] ∧ ((SqL K H1 a xs ∧ R (Ite K a) H1) ∨ (SqT K H1 a xs ∧ R (IteT K a) H1))
section
variable {X : Cx} {B : Bd} {e e2 : Expr} {fs : M (List Op)} {p pos tpos : Pos} {elts : List Expr} {kk : Nat}
theorem pi_enumA {ta : TA} (hg : Gl X "enumerate") (hm : X.mg "enumerate" = none) (ha : PA X [e] ta) (hs : starEach [e] X.env = [(false, eval e X.env)] := by rfl) :
    PI X (.Tuple elts kk tpos) (.Call (.Name "enumerate" p) [e] [] pos) (iEnumA X.K ta) := by
  refine ⟨fun pins s σ H R I h => ?_⟩
  refine Call_ (ld_blt I hg hm boot_enumerate (PyProof.Rows.callWith_type1 (thn (ha.run pos pins s σ H _ I h) fun us s1 ⟨vs, H1, I1, r1, q1⟩ => ?_) hs rfl))
  obtain ⟨a, xs, ex, q1⟩ := q1
  subst ex
  obtain ⟨u, rfl, ru⟩ := r1.one
  cases ru
  have fin : ∀ b, b ∈ [s1.heap.objs.size + 1, s1.heap.objs.size] → FpOk X pins H1 b := fun b hb => by
    have hle : s1.heap.objs.size ≤ b := by
      rcases (show b = s1.heap.objs.size + 1 ∨ b = s1.heap.objs.size by simpa using hb) with z | z <;> rw [z]
      · exact Nat.le_add_right _ _
      · exact Nat.le_refl _
    exact I1.fpOk hle (I1.hok.fresh hle)
  rcases q1 with ⟨hq, q⟩ | ⟨hq, q⟩
  · obtain ⟨its, rv, p', hz⟩ := I1.list hq
    refine call_enum (begins_list a its.toArray) (show s1.heap.IsList a its.toArray from p'.isList) fun h' he hit hk => wpAny_pyIter_enum he ?_
    have I2 : Inv X pins σ H1 { s1 with heap := h' } := I1.kept (t' := s1.toks) hk
    exact ⟨s1.heap.objs.size + 1, [s1.heap.objs.size + 1, s1.heap.objs.size], _, _, H1, rfl, I2, turn_enum a (s1.heap.objs.size + 1) s1.heap.objs.size, ⟨⟨.none, he⟩, ⟨_, hit, rfl, rfl⟩, Nat.succ_ne_self _⟩, fin, q⟩
  · obtain ⟨its, rv, p', hz⟩ := I1.tuple hq
    refine call_enum (begins_tuple a its.toArray) (show s1.heap.IsTuple a its.toArray from p') fun h' he hit hk => wpAny_pyIter_enum he ?_
    have I2 : Inv X pins σ H1 { s1 with heap := h' } := I1.kept (t' := s1.toks) hk
    exact ⟨s1.heap.objs.size + 1, [s1.heap.objs.size + 1, s1.heap.objs.size], _, _, H1, rfl, I2, turn_enumT a (s1.heap.objs.size + 1) s1.heap.objs.size, ⟨⟨.none, he⟩, ⟨_, hit, rfl, rfl⟩, Nat.succ_ne_self _⟩, fin, q⟩
def enumL (xs : List D) : List D := xs.zipIdx.map fun p => .tuple [.int (p.2 : Nat), p.1]
def enumIt (os : List Op) : M (List D) := frzAll os >>= fun ds => match ds with
  | [.list xs] => pure (enumL xs)
  | [.tuple xs] => pure (enumL xs)
  | _ => M.bad
theorem enumL_get {xs : List D} {i : Nat} {d : D} (e : (enumL xs)[i]? = some d) : ∃ x, xs[i]? = some x ∧ d = .tuple [.int (i : Nat), x] := by
  unfold enumL at e
  rw [List.getElem?_map, List.getElem?_zipIdx] at e
  cases q : xs[i]? with
  | none => rw [q] at e; cases e
  | some x => rw [q] at e; cases e; exact ⟨x, rfl, by simp⟩
theorem it_enumL {K : PySem.W.Frag} {F : Hp} {a : Addr} {vs : List V} {ds : List D} (h : DqAll K F vs ds) (hs : ∀ H, Kp B F H → SqL K H a vs) : ItOk K B F (Ite K a) (enumL ds) := by
  intro i H k
  refine ⟨fun d e => ?_, fun l => ⟨vs, hs H k, by rw [h.length]; simpa [enumL] using l⟩⟩
  obtain ⟨x, ex, rfl⟩ := enumL_get e
  obtain ⟨v, ev, hd⟩ := h.get' ex
  refine ⟨⟨vs, v, hs H k, ev⟩, fun y H' z => ?_⟩
  obtain ⟨T, x', rfl, hn, rfl, hy⟩ := z
  have := hy vs (hs _ k)
  rw [ev] at this
  cases this
  exact .inr ⟨T, _, _, hn, rfl, rfl, .cons (.int _) (.cons hd .nil), rfl⟩
theorem it_enumT {K : PySem.W.Frag} {F : Hp} {a : Addr} {vs : List V} {ds : List D} (h : DqAll K F vs ds) (hs : ∀ H, Kp B F H → SqT K H a vs) : ItOk K B F (IteT K a) (enumL ds) := by
  intro i H k
  refine ⟨fun d e => ?_, fun l => ⟨vs, hs H k, by rw [h.length]; simpa [enumL] using l⟩⟩
  obtain ⟨x, ex, rfl⟩ := enumL_get e
  obtain ⟨v, ev, hd⟩ := h.get' ex
  refine ⟨⟨vs, v, hs H k, ev⟩, fun y H' z => ?_⟩
  obtain ⟨T, x', rfl, hn, rfl, hy⟩ := z
  have := hy vs (hs _ k)
  rw [ev] at this
  cases this
  exact .inr ⟨T, _, _, hn, rfl, rfl, .cons (.int _) (.cons hd .nil), rfl⟩
theorem di_enum (hg : Gl X "enumerate") (hm : X.mg "enumerate" = none) (ha : DA X B [e] fs) (hs : starEach [e] X.env = [(false, eval e X.env)] := by rfl) : DI X B (.Tuple elts kk tpos) (.Call (.Name "enumerate" p) [e] [] pos) (fs >>= enumIt) := by
  refine ⟨fun F γ s σ H R Rk g => ?_⟩
  refine wI_of (pi_enumA hg hm pa_w hs) ?_
  refine ha.run F γ s σ H R _ (Good.thenO g fun os s1 F1 H1 _ st1 R1 g1 vs hvs => ?_)
  unfold enumIt at g1
  cases e1 : frzAll os s1 with
  | ex x s2 => exact (frzAll_noex x s2 e1).elim
  | bad => rw [bind_bad e1] at g1; exact g1.no
  | ok ds s2 =>
    rw [bind_of e1] at g1
    obtain ⟨F2, f2, R2, hds, st2, _⟩ := frzAll_ok R1 st1 hvs.pw e1
    split at g1
    · cases hds with
      | cons h t =>
        cases t
        cases h with
        | lst h1 h2 => exact ⟨_, _, rfl, .inl ⟨.inl (R2.fh.rd h1), g1 F2 H1 st2 R2 _ (it_enumL h2 fun H k => .inl (k.1.rd h1))⟩⟩
    · cases hds with
      | cons h t =>
        cases t
        obtain ⟨a, ws, rfl, h1, h2⟩ := h.tup_
        exact ⟨_, _, rfl, .inr ⟨R2.fh.st h1, g1 F2 H1 st2 R2 _ (it_enumT h2 fun H k => k.1.st h1)⟩⟩
    · exact g1.no
/-! ### zip -/
def zipIt (os : List Op) : M (List D) := frzAll os >>= fun ds => match ds with
  | [.list xs, .list ys] => pure (List.zipWith (fun x y => .tuple [x, y]) xs ys)
  | [.tuple xs, .tuple ys] => pure (List.zipWith (fun x y => .tuple [x, y]) xs ys)
  | _ => M.bad
theorem zip_get {xs ys : List D} {i : Nat} {d : D} (e : (List.zipWith (fun x y => PyData.tuple [x, y]) xs ys)[i]? = some d) : ∃ x y, xs[i]? = some x ∧ ys[i]? = some y ∧ d = .tuple [x, y] := by
  rw [List.getElem?_zipWith] at e
  cases q : xs[i]? with
  | none => rw [q] at e; cases e
  | some x =>
    cases q2 : ys[i]? with
    | none => rw [q, q2] at e; cases e
    | some y => rw [q, q2] at e; cases e; exact ⟨x, y, rfl, rfl, rfl⟩
theorem it_zipL {K : PySem.W.Frag} {F : Hp} {a b : Addr} {vs ws : List V} {ds es : List D} (h : DqAll K F vs ds) (h' : DqAll K F ws es) (hs : ∀ H, Kp B F H → SqL K H a vs ∧ SqL K H b ws) : ItOk K B F (Itz K a b) (List.zipWith (fun x y => .tuple [x, y]) ds es) := by
  intro i H k
  refine ⟨fun d e => ?_, fun l => ⟨vs, ws, (hs H k).1, (hs H k).2, by rw [h.length, h'.length]; rw [List.length_zipWith] at l; omega⟩⟩
  obtain ⟨x, y, ex, ey, rfl⟩ := zip_get e
  obtain ⟨v, ev, hd⟩ := h.get' ex
  obtain ⟨v', ev', hd'⟩ := h'.get' ey
  refine ⟨⟨vs, ws, v, v', (hs H k).1, (hs H k).2, ev, ev'⟩, fun y H' z => ?_⟩
  obtain ⟨T, x', y', rfl, hn, rfl, hx, hy⟩ := z
  have t1 := hx vs (hs _ k).1
  have t2 := hy ws (hs _ k).2
  rw [ev] at t1
  rw [ev'] at t2
  cases t1
  cases t2
  exact .inr ⟨T, _, _, hn, rfl, rfl, .cons hd (.cons hd' .nil), rfl⟩
theorem it_zipT {K : PySem.W.Frag} {F : Hp} {a b : Addr} {vs ws : List V} {ds es : List D} (h : DqAll K F vs ds) (h' : DqAll K F ws es) (hs : ∀ H, Kp B F H → SqT K H a vs ∧ SqT K H b ws) : ItOk K B F (RZ.ItzT K a b) (List.zipWith (fun x y => .tuple [x, y]) ds es) := by
  intro i H k
  refine ⟨fun d e => ?_, fun l => ⟨vs, ws, (hs H k).1, (hs H k).2, by rw [h.length, h'.length]; rw [List.length_zipWith] at l; omega⟩⟩
  obtain ⟨x, y, ex, ey, rfl⟩ := zip_get e
  obtain ⟨v, ev, hd⟩ := h.get' ex
  obtain ⟨v', ev', hd'⟩ := h'.get' ey
  refine ⟨⟨vs, ws, v, v', (hs H k).1, (hs H k).2, ev, ev'⟩, fun y H' z => ?_⟩
  obtain ⟨T, x', y', rfl, hn, rfl, hx, hy⟩ := z
  have t1 := hx vs (hs _ k).1
  have t2 := hy ws (hs _ k).2
  rw [ev] at t1
  rw [ev'] at t2
  cases t1
  cases t2
  exact .inr ⟨T, _, _, hn, rfl, rfl, .cons hd (.cons hd' .nil), rfl⟩
theorem di_zip (hg : Gl X "zip") (hm : X.mg "zip" = none) (ha : DA X B [e, e2] fs) (hs : starEach [e, e2] X.env = (false, eval e X.env) :: starEach [e2] X.env := by rfl) (hpl : (backTo pos (starEach [e2] X.env)).any (·.1) = false := by rfl) :
    DI X B (.Tuple elts kk tpos) (.Call (.Name "zip" p) [e, e2] [] pos) (fs >>= zipIt) := by
  refine ⟨fun F γ s σ H R Rk g => ?_⟩
  refine wI_of (RZ.pi_zipA hg hm pa_w hs hpl) ?_
  refine ha.run F γ s σ H R _ (Good.thenO g fun os s1 F1 H1 _ st1 R1 g1 vs hvs => ?_)
  unfold zipIt at g1
  cases e1 : frzAll os s1 with
  | ex x s2 => exact (frzAll_noex x s2 e1).elim
  | bad => rw [bind_bad e1] at g1; exact g1.no
  | ok ds s2 =>
    rw [bind_of e1] at g1
    obtain ⟨F2, f2, R2, hds, st2, _⟩ := frzAll_ok R1 st1 hvs.pw e1
    split at g1
    · cases hds with
      | cons h t =>
        cases t with
        | cons h' t =>
          cases t
          cases h with
          | lst h1 h2 =>
            cases h' with
            | lst h1' h2' => exact ⟨_, _, _, _, rfl, .inl ⟨.inl (R2.fh.rd h1), .inl (R2.fh.rd h1'), g1 F2 H1 st2 R2 _ (it_zipL h2 h2' fun H k => ⟨.inl (k.1.rd h1), .inl (k.1.rd h1')⟩)⟩⟩
    · cases hds with
      | cons h t =>
        cases t with
        | cons h' t =>
          cases t
          obtain ⟨a, ws, rfl, h1, h2⟩ := h.tup_
          obtain ⟨b, ws', rfl, h1', h2'⟩ := h'.tup_
          exact ⟨_, _, _, _, rfl, .inr ⟨R2.fh.st h1, R2.fh.st h1', g1 F2 H1 st2 R2 _ (it_zipT h2 h2' fun H k => ⟨k.1.st h1, k.1.st h1'⟩)⟩⟩
    · exact g1.no
end
end XB
end

section
set_option Elab.async false
set_option linter.all false
set_option maxRecDepth 100000
set_option maxHeartbeats 4000000
set_option autoImplicit false
/-! XJ: what the meanings of XH and XI do. -/
namespace XB
open PySem PySem.Spec L2 PD
open PyProof.Rows hiding St
/-- nothing is promised -/
theorem dss_none {X : Cx} {B : Bd} {sts : List Stmt} : DSs X B sts M.bad := ⟨fun F γ s σ H E R h => h.elim⟩
end XB
namespace PD
open PySem PySem.Spec L2 XB
open PyProof.Rows hiding St
variable {s : Sg}
@[simp] theorem ev_chain {h h' : Op → Op → M Op} {fa fb fc : M Op} {Q : Op → Sg → Prop} : Ev (chainM h h' fa fb fc) s Q ↔ Ev fa s fun x s1 => Ev fb s1 fun y s2 => Ev (h x y) s2 fun z s3 => Ev (toBl z) s3 fun b s4 => if b = true then Ev fc s4 fun w s5 => Ev (h' y w) s5 Q else Q (.val (.bool false)) s4 := by
  unfold chainM
  simp
def dctS (P : List (Key × D) → Prop) : Option Slt → Prop
  | some (.own false (.dct kvs)) => P kvs
  | _ => False
@[simp] theorem dctS_own {P : List (Key × D) → Prop} {kvs : List (Key × D)} : dctS P (some (.own false (.dct kvs))) ↔ P kvs := Iff.rfl
theorem ev_ownD {i : Nat} {Q : List (Key × D) → Sg → Prop} : Ev (ownD i) s Q ↔ dctS (fun xs => Q xs s) s.ρ[i]? := by
  unfold dctS
  split
  · rename_i kvs e
    exact ev_ok (by unfold ownD; rw [e])
  · rename_i h
    refine ev_bad ?_
    unfold ownD
    split
    · rename_i kvs e
      exact (h kvs e).elim
    · rfl
theorem dctS_congr {P P' : List (Key × D) → Prop} (h : ∀ xs, P xs ↔ P' xs) (o : Option Slt) : dctS P o ↔ dctS P' o := by
  unfold dctS
  split
  · exact h _
  · exact Iff.rfl
theorem ev_dputAt {j : Nat} {k : Key} {d : D} {kvs : List (Key × D)} {Q : Fl → Sg → Prop} : Ev (dputAt j k d kvs) s Q ↔ kvs.length < sizeLine ∧ Q .nx { s with ρ := s.ρ.set j (.own false (.dct (putD kvs k d))) } := by
  by_cases h : kvs.length < sizeLine
  · rw [ev_ok (by unfold dputAt; rw [if_pos h])]
    exact ⟨fun q => ⟨h, q⟩, fun q => q.2⟩
  · rw [ev_bad (by unfold dputAt; rw [if_neg h])]
    exact ⟨False.elim, fun q => h q.1⟩
@[simp] theorem ev_dput {j : Nat} {fe fi : M Op} {Q : Fl → Sg → Prop} : Ev (dputM j fe fi) s Q ↔ Ev fe s fun o s1 => Ev (frz o) s1 fun d s2 => dctS (fun _ => Ev fi s2 fun ix s3 => Ev (toKey ix) s3 fun k s4 => dctS (fun kvs => kvs.length < sizeLine ∧ Q .nx { s4 with ρ := s4.ρ.set j (.own false (.dct (putD kvs k d))) }) s4.ρ[j]?) s2.ρ[j]? := by
  unfold dputM
  simp only [ev_bind, ev_ownD, ev_dputAt]
@[simp] theorem ev_toKey_int {i : Int} {Q : Key → Sg → Prop} : Ev (toKey (.val (.int i))) s Q ↔ Q (.inl i) s := ev_ok rfl
@[simp] theorem ev_toKey_str {i : Str} {Q : Key → Sg → Prop} : Ev (toKey (.val (.str i))) s Q ↔ Q (.inr i) s := ev_ok rfl
def dctV (P : List (Key × D) → Prop) : Option Vw → Prop
  | some (.obj (.dct kvs)) => P kvs
  | _ => False
@[simp] theorem dctV_some {P : List (Key × D) → Prop} {kvs : List (Key × D)} : dctV P (some (.obj (.dct kvs))) ↔ P kvs := Iff.rfl
theorem view_slot_eq {i : Nat} : view (.slot i) s = match (s.ρ[i]?).bind Slt.view with | some w => .ok w s | none => .bad := by
  unfold view <;> (try dsimp only) <;> (try (cases s.ρ[i]? with
  | none => rfl
  | some sl => cases h : sl.view <;> simp [h]))
theorem ev_toDct {i : Nat} {Q : Unit → Sg → Prop} : Ev (toDct (.slot i)) s Q ↔ dctV (fun _ => Q () s) ((s.ρ[i]?).bind Slt.view) := by
  have e := view_slot_eq (s := s) (i := i)
  cases h : (s.ρ[i]?).bind Slt.view with
  | none => rw [h] at e; exact ev_bad (by unfold toDct; rw [e])
  | some w =>
    rw [h] at e
    cases w with
    | dat d => exact ev_bad (by unfold toDct; rw [e])
    | obj c =>
      cases c with
      | lst xs => exact ev_bad (by unfold toDct; rw [e])
      | dct kvs => exact ev_ok (by unfold toDct; rw [e])
theorem ev_getAt {i : Nat} {kd d : D} {Q : Op → Sg → Prop} : Ev (getAt (.slot i) (.val kd) d) s Q ↔ dctV (fun kvs => optS (fun kk => Q (.val ((valD kvs kk).getD d)) s) (keyOf kd)) ((s.ρ[i]?).bind Slt.view) := by
  have e := view_slot_eq (s := s) (i := i)
  cases h : (s.ρ[i]?).bind Slt.view with
  | none => rw [h] at e; exact ev_bad (by unfold getAt; rw [e])
  | some w =>
    rw [h] at e
    cases w with
    | dat d => exact ev_bad (by unfold getAt; rw [e])
    | obj c =>
      cases c with
      | lst xs => exact ev_bad (by unfold getAt; rw [e])
      | dct kvs =>
        cases hk : keyOf kd with
        | none => exact ev_bad (by unfold getAt; rw [e]; dsimp only; rw [hk])
        | some kk => exact ev_ok (by unfold getAt; rw [e]; dsimp only; rw [hk])
@[simp] theorem keyOf_int {i : Int} : keyOf (.int i) = some (.inl i) := rfl
@[simp] theorem keyOf_str {i : Str} : keyOf (.str i) = some (.inr i) := rfl
/-- d.get(k) of the dict in a slot -/
theorem ev_get1 {i : Nat} {fk : M Op} {kvs : List (Key × D)} {lk : Bool} {Q : Op → Sg → Prop} (e : s.ρ[i]? = some (.own lk (.dct kvs))) (h : Ev fk s fun k s1 => s1 = s ∧ ∃ kd kk, k = .val kd ∧ keyOf kd = some kk ∧ Q (.val ((valD kvs kk).getD .none)) s) : Ev (get1M (rdSlot i) fk) s Q := by
  unfold get1M
  simp only [ev_bind, ev_rdSlot]
  rw [e]
  rw [rdS_own, ev_toDct, e]
  refine h.mono ?_
  rintro k s1 ⟨rfl, kd, kk, rfl, hk, q⟩
  rw [ev_getAt, e]
  show optS _ _
  rw [hk]
  exact q
@[simp] theorem ev_enum_tup {xs : List D} {Q : List D → Sg → Prop} : Ev (enumIt [.val (.tuple xs)]) s Q ↔ Q (enumL xs) s := by
  unfold enumIt
  simp
@[simp] theorem ev_enum_list {xs : List D} {Q : List D → Sg → Prop} : Ev (enumIt [.val (.list xs)]) s Q ↔ Q (enumL xs) s := by
  unfold enumIt
  simp
@[simp] theorem ev_zip_tup {xs ys : List D} {Q : List D → Sg → Prop} : Ev (zipIt [.val (.tuple xs), .val (.tuple ys)]) s Q ↔ Q (List.zipWith (fun x y => .tuple [x, y]) xs ys) s := by
  unfold zipIt
  simp
@[simp] theorem ev_zip_list {xs ys : List D} {Q : List D → Sg → Prop} : Ev (zipIt [.val (.list xs), .val (.list ys)]) s Q ↔ Q (List.zipWith (fun x y => .tuple [x, y]) xs ys) s := by
  unfold zipIt
  simp
theorem enumL_len (xs : List D) : (enumL xs).length = xs.length := by simp [enumL]
theorem valD_put (kvs : List (Key × D)) (k j : Key) (d : D) : valD (putD kvs k d) j = if j = k then some d else valD kvs j := by
  have hm : ∀ (l : List (Key × D)), valD (l.map fun kv => if kv.1 = k then (kv.1, d) else kv) j = if j = k then (valD l j).map (fun _ => d) else valD l j := by
    intro l
    induction l with
    | nil => unfold valD; simp
    | cons p l ih =>
      unfold valD at ih ⊢
      by_cases h1 : p.1 = k
      · by_cases h2 : k = j
        · subst h2; simp [h1]
        · have h3 : ¬ j = k := fun z => h2 z.symm
          simp [h1, h2, h3] at ih ⊢
          exact ih
      · by_cases h2 : p.1 = j
        · have h3 : ¬ j = k := fun z => h1 (h2.trans z)
          simp [h2, h3]
        · simp [h1, h2] at ih ⊢
          exact ih
  have ha : ∀ (l : List (Key × D)), valD (l ++ [(k, d)]) j = if (valD l j).isSome then valD l j else if k = j then some d else none := by
    intro l
    induction l with
    | nil => unfold valD; by_cases h : k = j <;> simp [h]
    | cons p l ih =>
      unfold valD at ih ⊢
      by_cases h2 : p.1 = j
      · simp [h2]
      · have e1 : List.find? (fun p => decide (p.fst = j)) (p :: l) = List.find? (fun p => decide (p.fst = j)) l := by simp [h2]
        have e2 : List.find? (fun p => decide (p.fst = j)) (p :: l ++ [(k, d)]) = List.find? (fun p => decide (p.fst = j)) (l ++ [(k, d)]) := by simp [h2]
        rw [e1, e2]
        exact ih
  unfold putD
  by_cases c : (valD kvs k).isSome = true
  · rw [if_pos c, hm]
    by_cases h : j = k
    · subst h
      rw [if_pos rfl, if_pos rfl]
      cases e : valD kvs j with
      | none => rw [e] at c; cases c
      | some x => rfl
    · rw [if_neg h, if_neg h]
  · rw [if_neg c, ha]
    by_cases h : j = k
    · subst h
      rw [if_neg c, if_pos rfl, if_pos rfl]
    · have h' : ¬ k = j := fun z => h z.symm
      simp only [if_neg h, if_neg h']
      cases valD kvs j <;> rfl
theorem putD_len (kvs : List (Key × D)) (k : Key) (d : D) : (putD kvs k d).length ≤ kvs.length + 1 := by
  unfold putD
  split
  · rw [List.length_map]; omega
  · rw [List.length_append]; simp
theorem ev_elems_cons {s : Sg} {vs : List Nat} {t : Tg} {f : M (Option D)} {d : D} {ds : List D} {Q : List D → Sg → Prop} {ρ' : List Slt} (es : t.set d (wipeρ s.ρ vs) = some ρ') (h : Ev f { ρ := ρ', g := s.g } fun x s1 => Ev (elemsD vs t f ds) { s with g := s1.g } fun r s2 => Q (x.toList ++ r) s2) : Ev (elemsD vs t f (d :: ds)) s Q := by
  obtain ⟨x, s1, e, r, s2, e2, q⟩ := h
  exact ⟨_, _, by rw [elemsD_ok es e, bind_of e2]; rfl, q⟩
theorem ev_elems_nil {s : Sg} {vs : List Nat} {t : Tg} {f : M (Option D)} {Q : List D → Sg → Prop} (h : Q [] s) : Ev (elemsD vs t f []) s Q := ev_pure.mpr h
theorem gOut_self (g : G) : gOut g g = g := by cases g <;> rfl
theorem ne_self {n : Nat} {d : D} (h : Nb n d) (hn : n ≤ 64) : neV (.dat d) (.dat d) = some (.val (.bool false)) := by
  have := h.2
  rw [neV_dd, if_pos (by omega), h.refl]
  rfl
theorem ev_isi {kit : String → Option Bool} {o : Op} {s : Sg} {Q : Op → Sg → Prop} : Ev (isiM kit o) s Q ↔ Ev (view o) s fun w _ => optS (fun b => Q (.val (.bool b)) s) (kit (tyD w)) := by
  unfold isiM
  simp only [optS_ex]
  constructor
  · rintro ⟨b, s', e, q⟩
    dsimp only at e
    split at e
    · rename_i w s1 e1
      split at e
      · rename_i b' e2
        cases e
        exact ⟨w, s1, e1, _, e2, q⟩
      · cases e
    · cases e
  · rintro ⟨w, s1, e1, b, e2, q⟩
    exact ⟨_, s, by dsimp only; rw [e1]; dsimp only; rw [e2], q⟩
theorem all_true (n : Nat) : allV [.obj (.lst (List.replicate n (.bool true)))] = some (.val (.bool true)) := by
  have e : bools? (List.replicate n (.bool true)) = some (List.replicate n true) := by
    induction n with
    | zero => rfl
    | succ n ih => rw [List.replicate_succ, List.replicate_succ]; simp [bools?, ih]
  show Option.map _ (bools? _) = _
  rw [e]
  simp
end PD
end

section
set_option Elab.async false
set_option linter.all false
set_option maxRecDepth 100000
set_option maxHeartbeats 4000000
set_option autoImplicit false
/-! XK: a text or a list so many times; list(text). -/
namespace XB
open PySem PySem.Spec L2 PD
open PyProof.Rows hiding St
def repS (n : Nat) (x : Str) : Str := ⟨(List.replicate n x.cps).foldl (· ++ ·) #[]⟩
def mulW : Vw → Vw → Option Op
  | .dat (.int i), .dat (.int j) => if mulOk i j = true then some (.val (.int (i * j))) else none
  | .dat (.str x), .dat (.int k) => if 1 ≤ k ∧ k < 1000000000 ∧ x.length * k.toNat ≤ sizeLine then some (.val (.str (repS k.toNat x))) else none
  | .obj (.lst xs), .dat (.int k) => if 0 ≤ k ∧ k < 1000000000 ∧ xs.length * k.toNat ≤ sizeLine then some (.new (.lst (List.replicate k.toNat xs).flatten)) else none
  | _, _ => none
theorem dq_rep {K : PySem.W.Frag} {F : Hp} {vs : List V} {ds : List D} (h : DqAll K F vs ds) : ∀ n : Nat, DqAll K F (List.replicate n vs).flatten (List.replicate n ds).flatten
  | 0 => .nil
  | n + 1 => by
    rw [List.replicate_succ, List.replicate_succ, List.flatten_cons, List.flatten_cons]
    exact h.app (dq_rep h n)
theorem foldl_pre (a : Array Nat) : ∀ (n : Nat) (b : Array Nat), (List.replicate n a).foldl (· ++ ·) b = b ++ (List.replicate n a).foldl (· ++ ·) #[]
  | 0, b => by simp
  | n + 1, b => by
    rw [List.replicate_succ, List.foldl_cons, List.foldl_cons, foldl_pre a n (b ++ a), foldl_pre a n (#[] ++ a)]
    simp
theorem repS_cps (n : Nat) (x : Str) : (repS n x).cps.toList = (List.replicate n x.cps.toList).flatten := by
  unfold repS
  induction n with
  | zero => rfl
  | succ n ih =>
    rw [List.replicate_succ, List.replicate_succ, List.foldl_cons, List.flatten_cons, foldl_pre]
    show (#[] ++ x.cps ++ _).toList = _
    rw [Array.toList_append]
    rw [ih]
    simp
theorem repS_len (n : Nat) (x : Str) : (repS n x).length = n * x.length := by
  show (repS n x).cps.size = n * x.cps.size
  rw [← Array.length_toList, repS_cps, List.length_flatten]
  simp
theorem str_ext {x y : Str} (h : x.cps.toList = y.cps.toList) : x = y := by
  cases x; cases y
  congr 1
  exact Array.toList_inj.mp h
section
variable {X : Cx} {B : Bd}
theorem o_mulW : Op2 X B (binaryOp .Mult) (op2 mulW) := by
  refine op2_ok fun wx wy o e F γ s σ H R x y hx hy Q k pins w u v I rx ry => ?_
  unfold mulW at e
  split at e
  · split at e
    · cases e
      rename_i i j hz
      have hz' : (-(2 ^ 64) < i ∧ i < 2 ^ 64) ∨ (-(2 ^ 64) < j ∧ j < 2 ^ 64) := of_decide_eq_true hz
      obtain rfl := hx.1.int_
      obtain rfl := hy.1.int_
      exact op_mul pins w σ H _ _ u v Q I rx ry ⟨_, _, rfl, rfl, hz', k.val R (.int _)⟩
    · cases e
  · split at e
    · cases e
      rename_i z n hz
      obtain rfl := hx.1.str_
      obtain rfl := hy.1.int_
      obtain ⟨t, rfl⟩ := rx
      obtain ⟨t2, rfl⟩ := ry
      have big : sizeLine = 16777216 := by decide
      have fin : ∀ t s', Inv X pins σ H s' → EP X pins σ Q (.str (repS n.toNat z) t) s' := fun t s' I' => ⟨.str _, H, I', ⟨t, rfl⟩, k.val R (.str _)⟩
      refine PySem.P.mul_str (by rw [decide_eq_false (by omega), decide_eq_false (by omega)]; rfl) (fun h1 h2 => ?_) (fun h1 h2 => ?_) ?_
      · have h3 : z.length * 1 ≤ z.length * n.toNat := Nat.mul_le_mul_left _ (by omega)
        have h4 : (16777216 : Int) ≤ (2 ^ 63 - 1) / n := by
          rw [Int.le_ediv_iff_mul_le (by omega)]
          omega
        omega
      · unfold Builtin.Str.tooLong
        exact decide_eq_false (by omega)
      · rw [if_neg (by omega)]
        split
        · rename_i h1
          have e : repS n.toNat z = z := by
            rcases (Bool.or_eq_true _ _).mp h1 with h | h
            · have : n = 1 := by simpa using h
              subst this
              apply str_ext
              rw [repS_cps]
              simp
            · have h0 : z.length = 0 := by simpa using h
              have hl : (repS n.toNat z).length = 0 := by rw [repS_len, h0]; rfl
              apply str_ext
              rw [List.eq_nil_of_length_eq_zero (l := (repS n.toNat z).cps.toList) (by rw [Array.length_toList]; exact hl), List.eq_nil_of_length_eq_zero (l := z.cps.toList) (by rw [Array.length_toList]; exact h0)]
          have q := k.val R (.str (repS n.toNat z))
          rw [e] at q
          exact ⟨.str z, H, I, ⟨t, rfl⟩, q⟩
        · have q := repS_len n.toNat z
          refine ⟨?_, fin _ _ (I.tok _)⟩
          show (repS n.toNat z).length ≤ sizeLine
          rw [q, Nat.mul_comm]
          exact hz.2.2
    · cases e
  · split at e
    · cases e
      rename_i xs n hz
      obtain ⟨a, vs, rfl, ha, da⟩ := hx
      obtain rfl := hy.1.int_
      cases rx
      obtain ⟨t2, rfl⟩ := ry
      obtain ⟨_, its, m, r, e1⟩ := rd_lst I ha
      have hl := r.length
      have l1 := da.length
      have hlen : its.toArray.size * n.toNat ≤ sizeLine := by rw [List.size_toArray, ← hl, l1]; exact hz.2.2
      have hcap : ¬ its.toArray.size * n.toNat > (2 ^ 63 - 1) / 8 := by
        have : (sizeLine : Nat) ≤ (2 ^ 63 - 1) / 8 := by decide
        omega
      have hfit : ¬ (!Builtin.List.listFitsIndex n) = true := by
        rw [fitsIndex_both (by omega) (by omega)]
        exact Bool.false_ne_true
      have hlong : ¬ Builtin.List.listTooLong (its.toArray.size * n.toNat) = true := by
        rw [notLongL hlen]
        exact Bool.false_ne_true
      have hnew : List.foldl (fun x1 x2 => x1 ++ x2) #[] (List.replicate (if its.toArray.isEmpty = true then 0 else n.toNat) its.toArray) = (List.replicate n.toNat its).flatten.toArray := by
        have f0 : ∀ m : Nat, List.foldl (fun x1 x2 => x1 ++ x2) #[] (List.replicate m its.toArray) = (List.replicate m its).flatten.toArray := fun m => by
          have := foldl_rep its m []
          rw [List.nil_append] at this
          exact this
        rw [f0]
        cases its with
        | nil => simp
        | cons a r' => rw [if_neg (by simp)]
      refine wpAny_binaryOp_repeat_ref (T := "list") (U := "int") (by decide) ⟨_, e1, rfl⟩ (fun s' => typeIs_int s' n t2) noFill_list_mul PySem.F.fills_int_mul PySem.F.slot_int_rmul repeat_list PySem.F.slot_int_index.lookup
        (call_meets PySem.F.slot_int_rmul (typeIs_int w n t2) PySem.F.entry_int_rmul (PySem.F.args_int_rmul_2 _ _) (int___rmul___int_list n t2 a its.toArray m)
          ⟨e1, rfl, ⟨_, e1, rfl⟩, call_meets PySem.F.slot_list_mul ⟨_, e1, rfl⟩ PySem.F.entry_list_mul (PySem.F.args_list_mul_2 _ _) (AutoListH.list___mul___list_int_3 a its.toArray m n t2 hfit hcap hlong) ⟨e1, ?_⟩⟩)
      rw [hnew]
      obtain ⟨R', st, ok, nw⟩ := rel_new R I.fresh (.lst (dq_rep da n.toNat))
      exact ⟨.ref _, _, I.lnew (t' := w.toks) (r.rep n.toNat) (by rw [PyProof.Rows.lm_len_rep_flat, Nat.mul_comm, l1]; exact hz.2.2), rfl, k _ _ _ st R' ok nw⟩
    · cases e
  · cases e
theorem vals_each : ∀ {vs : List V} {us : List Value}, vs.length = us.length → (∀ (i : Nat) (a : V) (b : Value), vs[i]? = some a → us[i]? = some b → RelV a b) → Vals vs us
  | [], [], _, _ => .nil
  | v :: vs, u :: us, hl, h => .cons (h 0 v u rfl rfl) (vals_each (by simpa using hl) fun i a b e1 e2 => h (i + 1) a b (by simpa using e1) (by simpa using e2))
  | [], _ :: _, hl, _ => by simp at hl
  | _ :: _, [], hl, _ => by simp at hl
def listW : List Vw → Option Op
  | [.obj (.lst xs)] => some (.new (.lst xs))
  | [.dat (.tuple xs)] => some (.new (.lst xs))
  | [.dat (.str x)] => if x.length ≤ sizeLine then some (.new (.lst (chars x))) else none
  | _ => none
theorem c_listW (hc : X.calm = true) : CallD X B (.type "list") (opN listW) := by
  refine opN_ok fun ws o e F γ s σ H R xs hx Q k pins w us I r => ?_
  unfold listW at e
  split at e
  · cases e
    obtain ⟨x, rfl, p, vs, rfl, h1, h2⟩ := pair1 hx
    refine call_list_of pins w σ H _ us Q I r ⟨p, vs, rfl, .inl (.inl h1), fun l nl => ?_⟩
    obtain ⟨R', st, ok, nw⟩ := rel_new R nl (.lst h2)
    exact k _ _ _ st R' ok nw
  · cases e
    obtain ⟨x, rfl, hv⟩ := pair1 hx
    obtain ⟨p, vs, rfl, h1, h2⟩ := hv.1.tup_
    refine call_list_of pins w σ H _ us Q I r ⟨p, vs, rfl, .inr (R.fh.st h1), fun l nl => ?_⟩
    obtain ⟨R', st, ok, nw⟩ := rel_new R nl (.lst h2)
    exact k _ _ _ st R' ok nw
  · split at e
    · cases e
      rename_i z hz
      obtain ⟨x, rfl, hv⟩ := pair1 hx
      obtain rfl := hv.1.str_
      obtain ⟨u, rfl, t, rfl⟩ := r.one
      refine call_list_str (I.ok.hd hc) z t (fun h' tk acc c hk hS hacc => ?_) hz
      have hs : acc.size = z.cps.size := hacc.1
      have hv : Vals ((chars z).map fun d => match d with | .str y => V.str y | _ => .non) acc.toList := by
        refine vals_each (by simp [chars, hs]) fun i a b ea eb => ?_
        unfold chars at ea
        rw [List.map_map, List.getElem?_map] at ea
        rw [Array.getElem?_toList] at eb
        obtain ⟨c, u, h1, rfl⟩ := hacc.2 i b eb
        rw [Array.getElem?_toList, h1] at ea
        cases ea
        exact ⟨u, rfl⟩
      have hd : DqAll X.K F ((chars z).map fun d => match d with | .str y => V.str y | _ => .non) (chars z) := by
        unfold chars
        induction z.cps.toList with
        | nil => exact .nil
        | cons c cs ih => exact .cons (.str _) ih
      obtain ⟨R', st, ok, nw⟩ := rel_new R I.fresh (.lst hd)
      refine ⟨.ref _, _, I.laid (t' := tk) hk (Nat.le_refl _) (show ObjOk X.prog X.w _ _ _ (.lst _) from ⟨?_, acc.toList, c, hv, by rw [Array.toArray_toList]; exact hS⟩), rfl, k _ _ _ st R' ok nw⟩
      rw [List.length_map]
      unfold chars
      rw [List.length_map, Array.length_toList]
      exact hz
    · cases e
  · cases e
end
end XB
end

section
set_option Elab.async false
set_option linter.all false
set_option maxRecDepth 100000
set_option maxHeartbeats 4000000
set_option autoImplicit false
/-! XL: while in the calculus; texts sign by sign. -/
namespace PD
open PySem PySem.Spec L2 XB
open PyProof.Rows hiding St
variable {s : Sg}
theorem ev_while {c : M Bool} {body : M Fl} {Q : Fl → Sg → Prop} (n : Nat) (I : Nat → Sg → Prop) (h0 : I n s)
    (hs : ∀ m s, I m s → Ev c s fun b s1 => if b = true then ∃ m', m = m' + 1 ∧ Ev body s1 (turnK (I m') Q) else Q .nx s1) : Ev (whileM c body) s Q := by
  have go : ∀ (m : Nat) (s : Sg), I m s → Ev (whileD c body (m + 1)) s Q := by
    intro m
    induction m with
    | zero =>
      intro s hI
      unfold whileD
      rw [ev_bind]
      refine (hs 0 s hI).mono fun b s1 q => ?_
      cases b with
      | true =>
        obtain ⟨m', e, _⟩ := (show ∃ m', 0 = m' + 1 ∧ _ from q)
        omega
      | false => exact ev_pure.mpr q
    | succ m ih =>
      intro s hI
      unfold whileD
      rw [ev_bind]
      refine (hs (m + 1) s hI).mono fun b s1 q => ?_
      cases b with
      | true =>
        rw [if_pos rfl] at q ⊢
        obtain ⟨m', e, q⟩ := q
        obtain rfl : m = m' := by omega
        rw [ev_bind]
        refine q.mono fun r s2 k => ?_
        cases r with
        | nx => exact ih s2 k
        | ct => exact ih s2 k
        | bk => exact ev_pure.mpr k
        | rt r => exact ev_pure.mpr k
      | false => exact ev_pure.mpr q
  obtain ⟨a, s1, e, q⟩ := go n s h0
  refine ⟨a, s1, ?_, q⟩
  rw [whileM_of (n := n + 1) (by rw [e]; exact fun z => by cases z)]
  exact e
/-- a text of one sign -/
def ch (c : Nat) : Str := ⟨#[c]⟩
theorem ch_inj {c k : Nat} : ch c = ch k ↔ c = k := ⟨fun h => by cases h; rfl, fun h => by rw [h]⟩
theorem ch_eq {c k : Nat} {w : Str} (h : w = ch k) : (ch c == w) = decide (c = k) := by
  subst h
  by_cases e : c = k
  · subst e; rw [decide_eq_true rfl]; exact beq_iff_eq.mpr rfl
  · rw [decide_eq_false e]; exact beq_eq_false_iff_ne.mpr fun z => e (ch_inj.mp z)
theorem ch_ne (c : Nat) : (ch c == ("" : Str)) = false := beq_eq_false_iff_ne.mpr fun z => by cases z
/-- the sign at k, or the empty text -/
def sgn (z : Str) (k : Nat) : Str := match z.cps.toList[k]? with
  | some c => ch c
  | none => ""
theorem sgn_some {z : Str} {k c : Nat} (h : z.cps.toList[k]? = some c) : sgn z k = ch c := by unfold sgn; rw [h]
theorem sgn_none {z : Str} {k : Nat} (h : z.cps.toList[k]? = none) : sgn z k = "" := by unfold sgn; rw [h]
end PD
end

section
set_option Elab.async false
set_option linter.all false
set_option maxRecDepth 100000
set_option maxHeartbeats 4000000
set_option autoImplicit false
namespace K85
open PySem PySem.Spec L2 PD XB Lw
open PyProof.Rows hiding St

def kit_bool (t : String) : Option Bool := if (t == "bool") = true then some true else if t ∈ ["str", "int", "tuple", "list", "NoneType", "dict"] then some false else none
theorem hk_bool {K : PySem.W.Frag} (t : String) (b : Bool) (h : kit_bool t = some b) : PySem.W.kitOne K (.type t) (.type "bool") = some b := by
  unfold kit_bool at h
  split at h
  · rename_i e
    cases h
    obtain rfl := beq_iff_eq.mp e
    unfold PySem.W.kitOne
    rw [if_pos (by decide)]
  · split at h
    · cases h
      rename_i e
      simp only [List.mem_cons, List.not_mem_nil, or_false] at e
      rcases e with rfl | rfl | rfl | rfl | rfl | rfl <;> (unfold PySem.W.kitOne; rw [if_neg (by decide)]; rfl)
    · cases h
def kit_int (t : String) : Option Bool := if (t == "int") = true then some true else if t ∈ ["str", "tuple", "list", "NoneType", "dict"] then some false else none
theorem hk_int {K : PySem.W.Frag} (t : String) (b : Bool) (h : kit_int t = some b) : PySem.W.kitOne K (.type t) (.type "int") = some b := by
  unfold kit_int at h
  split at h
  · rename_i e
    cases h
    obtain rfl := beq_iff_eq.mp e
    unfold PySem.W.kitOne
    rw [if_pos (by decide)]
  · split at h
    · cases h
      rename_i e
      simp only [List.mem_cons, List.not_mem_nil, or_false] at e
      rcases e with rfl | rfl | rfl | rfl | rfl <;> (unfold PySem.W.kitOne; rw [if_neg (by decide)]; rfl)
    · cases h
def kit_str (t : String) : Option Bool := if (t == "str") = true then some true else if t ∈ ["int", "tuple", "list", "NoneType", "dict", "bool"] then some false else none
theorem hk_str {K : PySem.W.Frag} (t : String) (b : Bool) (h : kit_str t = some b) : PySem.W.kitOne K (.type t) (.type "str") = some b := by
  unfold kit_str at h
  split at h
  · rename_i e
    cases h
    obtain rfl := beq_iff_eq.mp e
    unfold PySem.W.kitOne
    rw [if_pos (by decide)]
  · split at h
    · cases h
      rename_i e
      simp only [List.mem_cons, List.not_mem_nil, or_false] at e
      rcases e with rfl | rfl | rfl | rfl | rfl | rfl <;> (unfold PySem.W.kitOne; rw [if_neg (by decide)]; rfl)
    · cases h
def kit_tuple (t : String) : Option Bool := if (t == "tuple") = true then some true else if t ∈ ["str", "int", "list", "NoneType", "dict", "bool"] then some false else none
theorem hk_tuple {K : PySem.W.Frag} (t : String) (b : Bool) (h : kit_tuple t = some b) : PySem.W.kitOne K (.type t) (.type "tuple") = some b := by
  unfold kit_tuple at h
  split at h
  · rename_i e
    cases h
    obtain rfl := beq_iff_eq.mp e
    unfold PySem.W.kitOne
    rw [if_pos (by decide)]
  · split at h
    · cases h
      rename_i e
      simp only [List.mem_cons, List.not_mem_nil, or_false] at e
      rcases e with rfl | rfl | rfl | rfl | rfl | rfl <;> (unfold PySem.W.kitOne; rw [if_neg (by decide)]; rfl)
    · cases h
abbrev gv_FIGURES : D := (.str "0123456789")
abbrev gv_LETTERS : D := (.str "abcdefghijklmnopqrstuvwxyzABCDEFGHIJKLMNOPQRSTUVWXYZ")
abbrev gv_OTHERS : D := (.str "-_ ")
abbrev gv_QUOTE : D := (.str "'")
abbrev gv_MOST_FIGURES : D := (.int (9))
abbrev gv_MOST_DEPTH : D := (.int (100))
noncomputable def m_bool_text : M Fl :=
    ((((rdSlot 0) >>= tru) >>= fun k => if k = true then (pure (.val (.str "+1"))) else (pure (.val (.str "+0")))) >>= retOf)
noncomputable def f_bool_text : Fn := runD 1 m_bool_text
noncomputable def m_string_text : M Fl :=
    ((bin (op2 addV) (bin (op2 addV) (pure (.val gv_QUOTE)) (rdSlot 0)) (pure (.val gv_QUOTE))) >>= retOf)
noncomputable def f_string_text : Fn := runD 1 m_string_text
noncomputable def m_sign_at : M Fl :=
    ((((bin (op2 ltV) (rdSlot 1) ((consM (rdSlot 0) (pure [])) >>= opN lenV)) >>= toBl) >>= fun k => if k = true then (bin (op2 ixV) (rdSlot 0) (rdSlot 1)) else (pure (.val (.str "")))) >>= retOf)
noncomputable def f_sign_at : Fn := runD 2 m_sign_at
noncomputable def m_is_figure : M Fl :=
    ((andE (bin (op2 neV) (rdSlot 0) (pure (.val (.str "")))) (bin (op2 inV) (rdSlot 0) (pure (.val gv_FIGURES)))) >>= retOf)
noncomputable def f_is_figure : Fn := runD 1 m_is_figure
noncomputable def m_is_inner : M Fl :=
    ((andE (bin (op2 neV) (rdSlot 0) (pure (.val (.str "")))) (orE (bin (op2 inV) (rdSlot 0) (pure (.val gv_LETTERS))) (orE (bin (op2 inV) (rdSlot 0) (pure (.val gv_FIGURES))) (bin (op2 inV) (rdSlot 0) (pure (.val gv_OTHERS)))))) >>= retOf)
noncomputable def f_is_inner : Fn := runD 1 m_is_inner
noncomputable def m__law_is_int : M Fl :=
    ((andE ((rdSlot 0) >>= isiM kit_int) (notE ((rdSlot 0) >>= isiM kit_bool))) >>= retOf)
noncomputable def f__law_is_int : Fn := runD 1 m__law_is_int
noncomputable def m__law_joined : M Fl :=
    ((tupM (consM ((consM (compM ((rdSlot 0) >>= frzIt) [1] (.nm 1) (pure true) (bin (op2 ixV) (rdSlot 1) (pure (.val (.int (0)))))) (pure [])) >>= opN tupleV) (consM (bin (op2 addV) (bin (op2 addV) (pure (.val (.str "("))) (met1 joinV (pure (.val (.str " "))) (compM ((rdSlot 0) >>= frzIt) [1] (.nm 1) (pure true) (bin (op2 ixV) (rdSlot 1) (pure (.val (.int (1)))))))) (pure (.val (.str ")")))) (pure [])))) >>= retOf)
noncomputable def f__law_joined : Fn := runD 2 m__law_joined
noncomputable def m__law_depth : M Fl :=
    (seqF ((pure (.val (.int (0)))) >>= asgF 1)
    (seqF ((pure (.val (.int (0)))) >>= asgF 2)
    (seqF (PD.forM ((rdSlot 0) >>= frzIt) (.nm 3) (seqF (augM .add 1 (bin (op2 subV) ((consM (bin (op2 eqV) (rdSlot 3) (pure (.val (.str "(")))) (pure [])) >>= opN intV) ((consM (bin (op2 eqV) (rdSlot 3) (pure (.val (.str ")")))) (pure [])) >>= opN intV)))
    (((consM (rdSlot 2) (consM (rdSlot 1) (pure []))) >>= opN maxV) >>= asgF 2)))
    ((rdSlot 2) >>= retOf))))
noncomputable def f__law_depth : Fn := runD 4 m__law_depth
noncomputable def m_integer_end : M Fl :=
    (seqF (ifM ((bin (op2 eqV) (callM f_sign_at (consM (rdSlot 0) (consM (rdSlot 1) (pure [])))) (pure (.val (.str "0")))) >>= toBl) ((bin (op2 addV) (rdSlot 1) (pure (.val (.int (1))))) >>= retOf) (pure .nx))
    (seqF ((bin (op2 addV) (rdSlot 1) (pure (.val (.int (1))))) >>= asgF 2)
    (seqF (whileM (PD.andM ((bin (op2 ltV) (rdSlot 2) (bin (op2 addV) (rdSlot 1) (pure (.val gv_MOST_FIGURES)))) >>= toBl) ((callM f_is_figure (consM (callM f_sign_at (consM (rdSlot 0) (consM (rdSlot 2) (pure [])))) (pure []))) >>= tru)) ((bin (op2 addV) (rdSlot 2) (pure (.val (.int (1))))) >>= asgF 2))
    ((rdSlot 2) >>= retOf))))
noncomputable def f_integer_end : Fn := runD 3 m_integer_end
noncomputable def m_read_bool : M Fl :=
    (seqF ((callM f_sign_at (consM (rdSlot 0) (consM (bin (op2 addV) (rdSlot 1) (pure (.val (.int (1))))) (pure [])))) >>= asgF 2)
    (seqF (ifM ((bin (op2 ninV) (rdSlot 2) (tupM (consM (pure (.val (.str "0"))) (consM (pure (.val (.str "1"))) (pure []))))) >>= toBl) (raiseM "BadValue" ["at"] (consM (bin (op2 addV) (rdSlot 1) (pure (.val (.int (1))))) (pure []))) (pure .nx))
    ((tupM (consM (bin (op2 eqV) (rdSlot 2) (pure (.val (.str "1")))) (consM (bin (op2 addV) (rdSlot 1) (pure (.val (.int (2))))) (pure [])))) >>= retOf)))
noncomputable def f_read_bool : Fn := runD 3 m_read_bool
noncomputable def m_read_string : M Fl :=
    (seqF ((bin (op2 addV) (rdSlot 1) (pure (.val (.int (1))))) >>= asgF 2)
    (seqF (whileM ((callM f_is_inner (consM (callM f_sign_at (consM (rdSlot 0) (consM (rdSlot 2) (pure [])))) (pure []))) >>= tru) ((bin (op2 addV) (rdSlot 2) (pure (.val (.int (1))))) >>= asgF 2))
    (seqF (ifM ((bin (op2 neV) (callM f_sign_at (consM (rdSlot 0) (consM (rdSlot 2) (pure [])))) (pure (.val gv_QUOTE))) >>= toBl) (raiseM "BadValue" ["at"] (consM (rdSlot 2) (pure []))) (pure .nx))
    ((tupM (consM (sliceM (rdSlot 0) (partM (bin (op2 addV) (rdSlot 1) (pure (.val (.int (1)))))) (partM (rdSlot 2))) (consM (bin (op2 addV) (rdSlot 2) (pure (.val (.int (1))))) (pure [])))) >>= retOf))))
noncomputable def f_read_string : Fn := runD 3 m_read_string
noncomputable def m_read_integer : M Fl :=
    (seqF ((callM f_integer_end (consM (rdSlot 0) (consM (rdSlot 1) (pure [])))) >>= asgF 2)
    ((tupM (consM ((consM (sliceM (rdSlot 0) (partM (rdSlot 1)) (partM (rdSlot 2))) (pure [])) >>= opN intV) (consM (rdSlot 2) (pure [])))) >>= retOf))
noncomputable def f_read_integer : Fn := runD 3 m_read_integer
noncomputable def m__law_string : M Fl :=
    (seqF ((pure (.val (.str "abcdefghijklmnopqrstuvwxyzABCDEFGHIJKLMNOPQRSTUVWXYZ0123456789-_ "))) >>= asgF 1)
    (seqF ((callM f__law_pick (consM (rdSlot 0) (consM (lstM (consM (pure (.val (.int (0)))) (consM (pure (.val (.int (1)))) (consM (pure (.val (.int (1)))) (consM (pure (.val (.int (2)))) (consM (pure (.val (.int (3)))) (consM (pure (.val (.int (8)))) (consM (pure (.val (.int (20)))) (pure []))))))))) (pure [])))) >>= asgF 2)
    (seqF ((met1 joinV (pure (.val (.str ""))) (compM ((consM (rdSlot 2) (pure [])) >>= rng1) [4] (.nm 4) (pure true) (bin (op2 ixV) (rdSlot 1) (callM f__law_draw (consM (rdSlot 0) (consM ((consM (rdSlot 1) (pure [])) >>= opN lenV) (pure []))))))) >>= asgF 3)
    ((tupM (consM (rdSlot 3) (consM (bin (op2 addV) (bin (op2 addV) (pure (.val (.str "'"))) (rdSlot 3)) (pure (.val (.str "'")))) (pure [])))) >>= retOf))))
noncomputable def f__law_string : Fn := runD 5 m__law_string
noncomputable def m__law_number : M Fl :=
    (seqF ((callM f__law_pick (consM (rdSlot 0) (consM (lstM (consM (pure (.val (.str "0"))) (consM (pure (.val (.str "9"))) (consM (pure (.val (.str "999999999"))) (consM (pure (.val (.str "100000000"))) (pure [])))))) (pure [])))) >>= asgF 1)
    (seqF (ifM ((bin (op2 gtV) (callM f__law_draw (consM (rdSlot 0) (consM (pure (.val (.int (3)))) (pure [])))) (pure (.val (.int (0))))) >>= toBl) (seqF ((callM f__law_pick (consM (rdSlot 0) (consM ((consM (pure (.val (.str "123456789"))) (pure [])) >>= opN listW) (pure [])))) >>= asgF 1)
    (PD.forM ((consM (callM f__law_draw (consM (rdSlot 0) (consM (pure (.val (.int (9)))) (pure [])))) (pure [])) >>= rng1) (.nm 2) ((bin (op2 addV) (rdSlot 1) ((consM (callM f__law_draw (consM (rdSlot 0) (consM (pure (.val (.int (10)))) (pure [])))) (pure [])) >>= opN strV)) >>= asgF 1))) (pure .nx))
    (seqF (ifM (PD.andM ((bin (op2 neV) (rdSlot 1) (pure (.val (.str "0")))) >>= toBl) ((bin (op2 eqV) (callM f__law_draw (consM (rdSlot 0) (consM (pure (.val (.int (2)))) (pure [])))) (pure (.val (.int (1))))) >>= toBl)) ((tupM (consM (((consM (rdSlot 1) (pure [])) >>= opN intV) >>= op1 negV) (consM (bin (op2 addV) (pure (.val (.str "-"))) (rdSlot 1)) (pure [])))) >>= retOf) (pure .nx))
    ((tupM (consM ((consM (rdSlot 1) (pure [])) >>= opN intV) (consM (rdSlot 1) (pure [])))) >>= retOf))))
noncomputable def f__law_number : Fn := runD 3 m__law_number
noncomputable def m__law_deep : M Fl :=
    (seqF ((callM f__law_pick (consM (rdSlot 0) (consM (lstM (consM (lstM (pure [])) (consM (lstM (consM (tupM (consM (pure (.val (.int (0)))) (consM (pure (.val (.str "0"))) (pure [])))) (pure []))) (consM (lstM (consM (tupM (consM (pure (.val .none)) (consM (pure (.val (.str "-"))) (pure [])))) (consM (tupM (consM (pure (.val (.str ""))) (consM (pure (.val (.str "''"))) (pure [])))) (pure [])))) (pure []))))) (pure [])))) >>= asgF 2)
    (seqF (PD.forM ((consM (bin (op2 subV) (pure (.val (.int (100)))) (callM f__law_depth (consM (bin (op2 ixV) (rdSlot 1) (pure (.val (.int (1))))) (pure [])))) (pure [])) >>= rng1) (.nm 3) ((callM f__law_joined (consM (bin (op2 addV) (rdSlot 2) (lstM (consM (rdSlot 1) (pure [])))) (pure []))) >>= asgF 1))
    ((rdSlot 1) >>= retOf)))
noncomputable def f__law_deep : Fn := runD 4 m__law_deep
noncomputable def m_read_minus : M Fl :=
    (seqF ((callM f_sign_at (consM (rdSlot 0) (consM (bin (op2 addV) (rdSlot 1) (pure (.val (.int (1))))) (pure [])))) >>= asgF 2)
    (seqF (ifM (PD.andM ((callM f_is_figure (consM (rdSlot 2) (pure []))) >>= tru) ((bin (op2 neV) (rdSlot 2) (pure (.val (.str "0")))) >>= toBl)) (seqF ((callM f_read_integer (consM (rdSlot 0) (consM (bin (op2 addV) (rdSlot 1) (pure (.val (.int (1))))) (pure [])))) >>= unpM [3, 4])
    ((tupM (consM ((rdSlot 3) >>= op1 negV) (consM (rdSlot 4) (pure [])))) >>= retOf)) (pure .nx))
    ((tupM (consM (pure (.val .none)) (consM (bin (op2 addV) (rdSlot 1) (pure (.val (.int (1))))) (pure [])))) >>= retOf)))
noncomputable def f_read_minus : Fn := runD 5 m_read_minus
noncomputable def m__law_plain : M Fl :=
    (seqF ((callM f__law_draw (consM (rdSlot 0) (consM (pure (.val (.int (7)))) (pure [])))) >>= asgF 1)
    (seqF (ifM ((bin (op2 eqV) (rdSlot 1) (pure (.val (.int (0))))) >>= toBl) ((tupM (consM (pure (.val .none)) (consM (pure (.val (.str "-"))) (pure [])))) >>= retOf) (pure .nx))
    (seqF (ifM ((bin (op2 ltV) (rdSlot 1) (pure (.val (.int (3))))) >>= toBl) ((tupM (consM (bin (op2 eqV) (rdSlot 1) (pure (.val (.int (1))))) (consM (bin (op2 addV) (pure (.val (.str "+"))) ((consM ((consM (bin (op2 eqV) (rdSlot 1) (pure (.val (.int (1))))) (pure [])) >>= opN intV) (pure [])) >>= opN strV)) (pure [])))) >>= retOf) (pure .nx))
    ((((bin (op2 ltV) (rdSlot 1) (pure (.val (.int (5))))) >>= toBl) >>= fun k => if k = true then (callM f__law_number (consM (rdSlot 0) (pure []))) else (callM f__law_string (consM (rdSlot 0) (pure [])))) >>= retOf))))
noncomputable def f__law_plain : Fn := runD 2 m__law_plain
noncomputable def m__law_value : M Fl :=
    (seqF ((lstM (pure [])) >>= asgO 1)
    (seqF (PD.forM ((consM (bin (op2 addV) (pure (.val (.int (1)))) (callM f__law_draw (consM (rdSlot 0) (consM (pure (.val (.int (9)))) (pure []))))) (pure [])) >>= rng1) (.nm 2) (seqF (exprM (appendM 1 (callM f__law_plain (consM (rdSlot 0) (pure [])))))
    (ifM ((bin (op2 eqV) (callM f__law_draw (consM (rdSlot 0) (consM (pure (.val (.int (3)))) (pure [])))) (pure (.val (.int (1))))) >>= toBl) (seqF ((callM f__law_draw (consM (rdSlot 0) (consM (bin (op2 addV) ((consM (rdSlot 1) (pure [])) >>= opN lenV) (pure (.val (.int (1))))) (pure [])))) >>= asgF 3)
    ((bin (op2 addV) (sliceM (rdSlot 1) (pure none) (partM (rdSlot 3))) (lstM (consM (callM f__law_joined (consM (sliceM (rdSlot 1) (partM (rdSlot 3)) (pure none)) (pure []))) (pure [])))) >>= asgO 1)) (pure .nx))))
    ((((bin (op2 eqV) ((consM (rdSlot 1) (pure [])) >>= opN lenV) (pure (.val (.int (1))))) >>= toBl) >>= fun k => if k = true then (bin (op2 ixV) (rdSlot 1) (pure (.val (.int (0))))) else (callM f__law_joined (consM (rdSlot 1) (pure [])))) >>= retOf)))
noncomputable def f__law_value : Fn := runD 4 m__law_value
noncomputable def m__law_long : M Fl :=
    (seqF (ifM ((bin (op2 eqV) (callM f__law_draw (consM (rdSlot 0) (consM (pure (.val (.int (2)))) (pure [])))) (pure (.val (.int (0))))) >>= toBl) ((callM f__law_joined (consM (bin (op2 mulW) (lstM (consM (callM f__law_plain (consM (rdSlot 0) (pure []))) (consM (callM f__law_plain (consM (rdSlot 0) (pure []))) (pure [])))) (pure (.val (.int (1000))))) (pure []))) >>= retOf) (pure .nx))
    (seqF ((callM f__law_pick (consM (rdSlot 0) (consM (lstM (consM (pure (.val (.int (498)))) (consM (pure (.val (.int (3998)))) (consM (pure (.val (.int (199998)))) (pure []))))) (pure [])))) >>= asgF 1)
    (seqF ((bin (op2 addV) (bin (op2 ixV) (callM f__law_string (consM (rdSlot 0) (pure []))) (pure (.val (.int (0))))) (pure (.val (.str "x")))) >>= asgF 2)
    (seqF ((sliceM (bin (op2 mulW) (rdSlot 2) (bin (op2 addV) (bin (op2 fdivV) (rdSlot 1) ((consM (rdSlot 2) (pure [])) >>= opN lenV)) (pure (.val (.int (1)))))) (pure none) (partM (rdSlot 1))) >>= asgF 3)
    ((tupM (consM (rdSlot 3) (consM (bin (op2 addV) (bin (op2 addV) (pure (.val (.str "'"))) (rdSlot 3)) (pure (.val (.str "'")))) (pure [])))) >>= retOf)))))
noncomputable def f__law_long : Fn := runD 4 m__law_long
noncomputable def m_tuple_text (f_tuple_text : Fn) (f_write_value : Fn) : M Fl :=
    ((bin (op2 addV) (bin (op2 addV) (pure (.val (.str "("))) (met1 joinV (pure (.val (.str " "))) (compM ((rdSlot 0) >>= frzIt) [1] (.nm 1) (pure true) (callM f_write_value (consM (rdSlot 1) (pure [])))))) (pure (.val (.str ")")))) >>= retOf)
noncomputable def m_write_value (f_tuple_text : Fn) (f_write_value : Fn) : M Fl :=
    (seqF (ifM ((bin (op2 isV) (rdSlot 0) (pure (.val .none))) >>= toBl) ((pure (.val (.str "-"))) >>= retOf) (pure .nx))
    (seqF (ifM (((rdSlot 0) >>= isiM kit_bool) >>= tru) ((callM f_bool_text (consM (rdSlot 0) (pure []))) >>= retOf) (pure .nx))
    (seqF (ifM (((rdSlot 0) >>= isiM kit_int) >>= tru) (((consM (rdSlot 0) (pure [])) >>= opN strV) >>= retOf) (pure .nx))
    (seqF (ifM (((rdSlot 0) >>= isiM kit_str) >>= tru) ((callM f_string_text (consM (rdSlot 0) (pure []))) >>= retOf) (pure .nx))
    ((callM f_tuple_text (consM (rdSlot 0) (pure []))) >>= retOf)))))
mutual
noncomputable def r_tuple_text : Nat → Fn
  | 0 => runD 2 M.bad
  | n + 1 => runD 2 (m_tuple_text (r_tuple_text n) (r_write_value n))
noncomputable def r_write_value : Nat → Fn
  | 0 => runD 1 M.bad
  | n + 1 => runD 1 (m_write_value (r_tuple_text n) (r_write_value n))
end
noncomputable def f_tuple_text : Fn := r_tuple_text 310
noncomputable def f_write_value : Fn := r_write_value 310
noncomputable def m__law_same (f__law_same : Fn) : M Fl :=
    (seqF (ifM ((bin (op2 isV) (rdSlot 1) (pure (.val .none))) >>= toBl) ((bin (op2 isV) (rdSlot 0) (pure (.val .none))) >>= retOf) (pure .nx))
    (seqF (ifM ((bin (op2 isV) (rdSlot 1) (pure (.val (.bool true)))) >>= toBl) ((bin (op2 isV) (rdSlot 0) (pure (.val (.bool true)))) >>= retOf) (pure .nx))
    (seqF (ifM ((bin (op2 isV) (rdSlot 1) (pure (.val (.bool false)))) >>= toBl) ((bin (op2 isV) (rdSlot 0) (pure (.val (.bool false)))) >>= retOf) (pure .nx))
    (seqF (ifM (((rdSlot 1) >>= isiM kit_tuple) >>= tru) (seqF (ifM (PD.orM (PD.notM (((rdSlot 0) >>= isiM kit_tuple) >>= tru)) ((bin (op2 neV) ((consM (rdSlot 0) (pure [])) >>= opN lenV) ((consM (rdSlot 1) (pure [])) >>= opN lenV)) >>= toBl)) ((pure (.val (.bool false))) >>= retOf) (pure .nx))
    (((consM (compM ((consM ((consM (rdSlot 1) (pure [])) >>= opN lenV) (pure [])) >>= rng1) [2] (.nm 2) (pure true) (callM f__law_same (consM (bin (op2 ixV) (rdSlot 0) (rdSlot 2)) (consM (bin (op2 ixV) (rdSlot 1) (rdSlot 2)) (pure []))))) (pure [])) >>= opN allV) >>= retOf)) (pure .nx))
    (seqF (ifM (((rdSlot 1) >>= isiM kit_str) >>= tru) ((andE ((rdSlot 0) >>= isiM kit_str) (bin (op2 eqV) (rdSlot 0) (rdSlot 1))) >>= retOf) (pure .nx))
    ((andE (callM f__law_is_int (consM (rdSlot 0) (pure []))) (bin (op2 eqV) (rdSlot 0) (rdSlot 1))) >>= retOf))))))
noncomputable def r__law_same : Nat → Fn
  | 0 => runD 3 M.bad
  | n + 1 => runD 3 (m__law_same (r__law_same n))
noncomputable def f__law_same : Fn := r__law_same 310
noncomputable def m_read_parts (f_read_parts : Fn) (f_read_tuple : Fn) (f_read_at : Fn) : M Fl :=
    (seqF ((callM f_read_at (consM (rdSlot 0) (consM (rdSlot 1) (consM (rdSlot 2) (pure []))))) >>= unpM [3, 4])
    (seqF ((lstM (consM (rdSlot 3) (pure []))) >>= asgO 5)
    (seqF (whileM ((bin (op2 eqV) (callM f_sign_at (consM (rdSlot 0) (consM (rdSlot 4) (pure [])))) (pure (.val (.str " ")))) >>= toBl) (seqF ((callM f_read_at (consM (rdSlot 0) (consM (bin (op2 addV) (rdSlot 4) (pure (.val (.int (1))))) (consM (rdSlot 2) (pure []))))) >>= unpM [3, 4])
    (exprM (appendM 5 (rdSlot 3)))))
    ((tupM (consM ((consM (rdSlot 5) (pure [])) >>= opN tupleV) (consM (rdSlot 4) (pure [])))) >>= retOf))))
noncomputable def m_read_tuple (f_read_parts : Fn) (f_read_tuple : Fn) (f_read_at : Fn) : M Fl :=
    (seqF (ifM ((bin (op2 eqV) (rdSlot 2) (pure (.val gv_MOST_DEPTH))) >>= toBl) (raiseM "BadValue" ["at"] (consM (rdSlot 1) (pure []))) (pure .nx))
    (seqF (ifM ((bin (op2 eqV) (callM f_sign_at (consM (rdSlot 0) (consM (bin (op2 addV) (rdSlot 1) (pure (.val (.int (1))))) (pure [])))) (pure (.val (.str ")")))) >>= toBl) ((tupM (consM (tupM (pure [])) (consM (bin (op2 addV) (rdSlot 1) (pure (.val (.int (2))))) (pure [])))) >>= retOf) (pure .nx))
    (seqF ((callM f_read_parts (consM (rdSlot 0) (consM (bin (op2 addV) (rdSlot 1) (pure (.val (.int (1))))) (consM (bin (op2 addV) (rdSlot 2) (pure (.val (.int (1))))) (pure []))))) >>= unpM [3, 4])
    (seqF (ifM ((bin (op2 neV) (callM f_sign_at (consM (rdSlot 0) (consM (rdSlot 4) (pure [])))) (pure (.val (.str ")")))) >>= toBl) (raiseM "BadValue" ["at"] (consM (rdSlot 4) (pure []))) (pure .nx))
    ((tupM (consM (rdSlot 3) (consM (bin (op2 addV) (rdSlot 4) (pure (.val (.int (1))))) (pure [])))) >>= retOf)))))
noncomputable def m_read_at (f_read_parts : Fn) (f_read_tuple : Fn) (f_read_at : Fn) : M Fl :=
    (seqF ((callM f_sign_at (consM (rdSlot 0) (consM (rdSlot 1) (pure [])))) >>= asgF 3)
    (seqF (ifM ((bin (op2 eqV) (rdSlot 3) (pure (.val (.str "(")))) >>= toBl) ((callM f_read_tuple (consM (rdSlot 0) (consM (rdSlot 1) (consM (rdSlot 2) (pure []))))) >>= retOf) (pure .nx))
    (seqF (ifM ((bin (op2 eqV) (rdSlot 3) (pure (.val gv_QUOTE))) >>= toBl) ((callM f_read_string (consM (rdSlot 0) (consM (rdSlot 1) (pure [])))) >>= retOf) (pure .nx))
    (seqF (ifM ((bin (op2 eqV) (rdSlot 3) (pure (.val (.str "+")))) >>= toBl) ((callM f_read_bool (consM (rdSlot 0) (consM (rdSlot 1) (pure [])))) >>= retOf) (pure .nx))
    (seqF (ifM ((bin (op2 eqV) (rdSlot 3) (pure (.val (.str "-")))) >>= toBl) ((callM f_read_minus (consM (rdSlot 0) (consM (rdSlot 1) (pure [])))) >>= retOf) (pure .nx))
    (seqF (ifM ((callM f_is_figure (consM (rdSlot 3) (pure []))) >>= tru) ((callM f_read_integer (consM (rdSlot 0) (consM (rdSlot 1) (pure [])))) >>= retOf) (pure .nx))
    (raiseM "BadValue" ["at"] (consM (rdSlot 1) (pure [])))))))))
mutual
noncomputable def r_read_parts : Nat → Fn
  | 0 => runD 6 M.bad
  | n + 1 => runD 6 (m_read_parts (r_read_parts n) (r_read_tuple n) (r_read_at n))
noncomputable def r_read_tuple : Nat → Fn
  | 0 => runD 5 M.bad
  | n + 1 => runD 5 (m_read_tuple (r_read_parts n) (r_read_tuple n) (r_read_at n))
noncomputable def r_read_at : Nat → Fn
  | 0 => runD 4 M.bad
  | n + 1 => runD 4 (m_read_at (r_read_parts n) (r_read_tuple n) (r_read_at n))
end
noncomputable def f_read_parts : Fn := r_read_parts 310
noncomputable def f_read_tuple : Fn := r_read_tuple 310
noncomputable def f_read_at : Fn := r_read_at 310
noncomputable def m_read_value : M Fl :=
    (seqF ((callM f_read_at (consM (rdSlot 0) (consM (pure (.val (.int (0)))) (consM (pure (.val (.int (0)))) (pure []))))) >>= unpM [1, 2])
    (seqF (ifM ((bin (op2 ltV) (rdSlot 2) ((consM (rdSlot 0) (pure [])) >>= opN lenV)) >>= toBl) (raiseM "BadValue" ["at"] (consM (rdSlot 2) (pure []))) (pure .nx))
    ((rdSlot 1) >>= retOf)))
noncomputable def f_read_value : Fn := runD 3 m_read_value
noncomputable def m__law_agrees : M Fl :=
    (seqF ((callM f_write_value (consM (rdSlot 0) (pure []))) >>= asgF 2)
    (seqF (ifM (PD.orM (PD.notM (((rdSlot 2) >>= isiM kit_str) >>= tru)) ((bin (op2 neV) (rdSlot 2) (rdSlot 1)) >>= toBl)) ((pure (.val (.bool false))) >>= retOf) (pure .nx))
    (seqF ((callM f_read_value (consM (rdSlot 1) (pure []))) >>= asgF 3)
    ((andE (callM f__law_same (consM (rdSlot 3) (consM (rdSlot 0) (pure [])))) (bin (op2 eqV) (callM f_write_value (consM (rdSlot 3) (pure []))) (rdSlot 1))) >>= retOf))))
noncomputable def f__law_agrees : Fn := runD 4 m__law_agrees
noncomputable def m_law : M Fl :=
    (seqF ((compM ((consM (pure (.val (.int (3)))) (pure [])) >>= rng1) [7] (.nm 7) (pure true) (callM f__law_value (consM (rdSlot 1) (pure [])))) >>= asgF 2)
    (seqF ((lstM (consM (tupM (consM (pure (.val (.bool true))) (consM (pure (.val (.str "+1"))) (pure [])))) (consM (tupM (consM (pure (.val (.int (1)))) (consM (pure (.val (.str "1"))) (pure [])))) (consM (tupM (consM (pure (.val (.bool false))) (consM (pure (.val (.str "+0"))) (pure [])))) (consM (tupM (consM (pure (.val (.int (0)))) (consM (pure (.val (.str "0"))) (pure [])))) (consM (tupM (consM (pure (.val .none)) (consM (pure (.val (.str "-"))) (pure [])))) (consM (tupM (consM (tupM (pure [])) (consM (pure (.val (.str "()"))) (pure [])))) (consM (tupM (consM (pure (.val (.str ""))) (consM (pure (.val (.str "''"))) (pure [])))) (consM (tupM (consM (pure (.val (.str "-"))) (consM (pure (.val (.str "'-'"))) (pure [])))) (pure [])))))))))) >>= asgF 3)
    (seqF ((callM f__law_shuffled (consM (rdSlot 1) (consM (bin (op2 addV) (bin (op2 addV) (rdSlot 2) (rdSlot 3)) (sliceM (rdSlot 3) (pure none) (partM (pure (.val (.int (4))))))) (pure [])))) >>= asgO 4)
    (seqF (exprM (appendM 4 (callM f__law_joined (consM (rdSlot 4) (pure [])))))
    (seqF (ifM ((callM f__law_rare (consM (rdSlot 1) (consM (pure (.val (.int (7)))) (pure [])))) >>= tru) (exprM (appendM 4 (callM f__law_deep (consM (rdSlot 1) (consM (callM f__law_pick (consM (rdSlot 1) (consM (rdSlot 2) (pure [])))) (pure [])))))) (pure .nx))
    (seqF (ifM ((callM f__law_rare (consM (rdSlot 1) (consM (pure (.val (.int (23)))) (pure [])))) >>= tru) (exprM (appendM 4 (callM f__law_long (consM (rdSlot 1) (pure []))))) (pure .nx))
    (seqF (PD.forM ((bin (op2 addV) (rdSlot 4) (sliceM (rdSlot 4) (pure none) (partM (pure (.val (.int (5))))))) >>= frzIt) (.tup [5, 6]) (ifM (PD.notM ((callM f__law_agrees (consM (rdSlot 5) (consM (rdSlot 6) (pure [])))) >>= tru)) ((pure (.val (.bool false))) >>= retOf) (pure .nx)))
    ((pure (.val (.bool true))) >>= retOf))))))))
end K85
end

section
set_option Elab.async false
set_option linter.all false
set_option maxRecDepth 100000
set_option maxHeartbeats 4000000
set_option autoImplicit false
namespace K85
open PySem PySem.Spec L2 PD XB Lw
open PyProof.Rows hiding St
def cp (z : Str) : List Nat := z.cps.toList
def figB (c : Nat) : Bool := decide (48 ≤ c ∧ c ≤ 57)
def innB (c : Nat) : Bool := decide ((97 ≤ c ∧ c ≤ 122) ∨ (65 ≤ c ∧ c ≤ 90) ∨ (48 ≤ c ∧ c ≤ 57) ∨ c = 45 ∨ c = 95 ∨ c = 32)
def figO : Option Nat → Bool
  | some c => figB c
  | none => false
def innO : Option Nat → Bool
  | some c => innB c
  | none => false
theorem fig_mem (c : Nat) : (c ∈ (PySem.Str.ofString "0123456789").cps) ↔ 48 ≤ c ∧ c ≤ 57 := by
  have e : (PySem.Str.ofString "0123456789").cps.toList = [48, 49, 50, 51, 52, 53, 54, 55, 56, 57] := by decide +kernel
  rw [← Array.mem_toList_iff, e]
  simp only [List.mem_cons, List.not_mem_nil, or_false]
  omega
theorem let_mem (c : Nat) : (c ∈ (PySem.Str.ofString "abcdefghijklmnopqrstuvwxyzABCDEFGHIJKLMNOPQRSTUVWXYZ").cps) ↔ (97 ≤ c ∧ c ≤ 122) ∨ (65 ≤ c ∧ c ≤ 90) := by
  have e : (PySem.Str.ofString "abcdefghijklmnopqrstuvwxyzABCDEFGHIJKLMNOPQRSTUVWXYZ").cps.toList = [97, 98, 99, 100, 101, 102, 103, 104, 105, 106, 107, 108, 109, 110, 111, 112, 113, 114, 115, 116, 117, 118, 119, 120, 121, 122, 65, 66, 67, 68, 69, 70, 71, 72, 73, 74, 75, 76, 77, 78, 79, 80, 81, 82, 83, 84, 85, 86, 87, 88, 89, 90] := by decide +kernel
  rw [← Array.mem_toList_iff, e]
  simp only [List.mem_cons, List.not_mem_nil, or_false]
  omega
theorem oth_mem (c : Nat) : (c ∈ (PySem.Str.ofString "-_ ").cps) ↔ (c = 45 ∨ c = 95 ∨ c = 32) := by
  have e : (PySem.Str.ofString "-_ ").cps.toList = [45, 95, 32] := by decide +kernel
  rw [← Array.mem_toList_iff, e]
  simp only [List.mem_cons, List.not_mem_nil, or_false]
theorem inV_ch (c : Nat) (z : Str) : inV (.dat (.str (ch c))) (.dat (.str z)) = some (.val (.bool (decide (c ∈ z.cps.toList)))) := rfl
theorem nat_lt_len {z : Str} {k : Nat} : decide ((k : Int) < z.length) = decide (k < z.cps.toList.length) := by
  apply decide_eq_decide.mpr
  rw [Array.length_toList]
  show (k : Int) < (z.cps.size : Nat) ↔ _
  omega
theorem sign_ok {z : Str} (hz : z.length ≤ sizeLine) (k : Nat) (g : G) : FnEv f_sign_at [.val (.str z), .val (.int k)] g fun r g' => g' = g ∧ r = .val (.str (sgn z k)) := by
  unfold f_sign_at
  rw [fnEv_run]
  unfold m_sign_at
  simp [startD, Arg.slot, hz, nat_lt_len, gOut_self]
  cases h : z.cps.toList[k]? with
  | none =>
    have : ¬ k < z.length := by
      have := List.getElem?_eq_none_iff.mp h
      rw [Array.length_toList] at this
      show ¬ k < z.cps.size
      omega
    rw [if_neg this, sgn_none h]
  | some c =>
    have : k < z.length := by
      have := (List.getElem?_eq_some_iff.mp h).1
      rwa [Array.length_toList] at this
    rw [if_pos this, sgn_some h, L2.atI_nat h]
    simp
    rfl
theorem figure_ok (z : Str) (k : Nat) (g : G) : FnEv f_is_figure [.val (.str (sgn z k))] g fun r g' => g' = g ∧ r = .val (.bool (figO (cp z)[k]?)) := by
  unfold f_is_figure
  rw [fnEv_run]
  unfold m_is_figure
  cases h : (cp z)[k]? with
  | none =>
    rw [sgn_none h]
    simp [startD, Arg.slot, PyData.depth, PyData.eqv, gOut_self, figO]
  | some c =>
    rw [sgn_some h]
    have hn := ch_ne c
    simp [startD, Arg.slot, PyData.depth, PyData.eqv, gOut_self, figO, figB, hn, inV_ch, fig_mem]
theorem inner_ok (z : Str) (k : Nat) (g : G) : FnEv f_is_inner [.val (.str (sgn z k))] g fun r g' => g' = g ∧ r = .val (.bool (innO (cp z)[k]?)) := by
  unfold f_is_inner
  rw [fnEv_run]
  unfold m_is_inner
  cases h : (cp z)[k]? with
  | none =>
    rw [sgn_none h]
    simp [startD, Arg.slot, PyData.depth, PyData.eqv, gOut_self, innO]
  | some c =>
    rw [sgn_some h]
    have hn := ch_ne c
    simp [startD, Arg.slot, PyData.depth, PyData.eqv, gOut_self, innO, innB, hn, inV_ch, fig_mem, let_mem, oth_mem]
    by_cases h1 : (97 ≤ c ∧ c ≤ 122) ∨ (65 ≤ c ∧ c ≤ 90)
    · rw [if_pos h1]
      rcases h1 with h | h
      · exact .inl h
      · exact .inr (.inl h)
    · rw [if_neg h1]
      by_cases h2 : 48 ≤ c ∧ c ≤ 57
      · rw [if_pos h2]
        exact .inr (.inr (.inl h2))
      · rw [if_neg h2]
        have a1 : ¬ (97 ≤ c ∧ c ≤ 122) := fun z => h1 (.inl z)
        have a2 : ¬ (65 ≤ c ∧ c ≤ 90) := fun z => h1 (.inr z)
        have e1 : (decide (97 ≤ c) && decide (c ≤ 122)) = false := by rw [← Bool.decide_and]; exact decide_eq_false a1
        have e2 : (decide (65 ≤ c) && decide (c ≤ 90)) = false := by rw [← Bool.decide_and]; exact decide_eq_false a2
        have e3 : (decide (48 ≤ c) && decide (c ≤ 57)) = false := by rw [← Bool.decide_and]; exact decide_eq_false h2
        rw [e1, e2, e3]
        rfl
/-- the rest of the text at a place -/
def At (z : Str) (k : Nat) (l : List Nat) : Prop := (cp z).drop k = l
theorem At.get {z : Str} {k : Nat} {l : List Nat} (h : At z k l) (i : Nat) : (cp z)[k + i]? = l[i]? := by
  rw [← h, List.getElem?_drop]
theorem At.get0 {z : Str} {k : Nat} {l : List Nat} (h : At z k l) : (cp z)[k]? = l.head? := by
  have := h.get 0
  rw [Nat.add_zero] at this
  rw [this]
  cases l <;> rfl
theorem At.sgn {z : Str} {k c : Nat} {l : List Nat} (h : At z k (c :: l)) : PD.sgn z k = ch c := sgn_some h.get0
theorem At.next {z : Str} {k : Nat} {a l : List Nat} (h : At z k (a ++ l)) : At z (k + a.length) l := by
  unfold At at *
  rw [← List.drop_drop, h, List.drop_left']
  rfl
theorem At.next1 {z : Str} {k c : Nat} {l : List Nat} (h : At z k (c :: l)) : At z (k + 1) l := At.next (a := [c]) h
theorem cut_at {z : Str} {k : Nat} {a l : List Nat} (h : At z k (a ++ l)) : (cutS z (some (k : Int)) (some ((k + a.length : Nat) : Int))).cps.toList = a := by
  have hl : (cp z).length = z.length := Array.length_toList
  have hk : a.length + l.length = (cp z).length - k := by
    have := congrArg List.length h
    rw [List.length_drop, List.length_append] at this
    omega
  unfold cutS
  rw [HT.sIx_nat, HT.sIx_nat]
  show (((cp z).drop (min k z.length)).take (min (k + a.length) z.length - min k z.length)).toArray.toList = a
  by_cases hk2 : k ≤ z.length
  · rw [Nat.min_eq_left hk2, Nat.min_eq_left (by omega)]
    have : k + a.length - k = a.length := by omega
    rw [this]
    have h' : (cp z).drop k = a ++ l := h
    rw [h', List.take_left']
    rfl
  · have ha : a = [] := List.eq_nil_of_length_eq_zero (by omega)
    subst ha
    simp
end K85
end

section
set_option Elab.async false
set_option linter.all false
set_option maxRecDepth 100000
set_option maxHeartbeats 4000000
set_option autoImplicit false
namespace K85
open PySem PySem.Spec L2 PD XB Lw PySem.NumText
open PyProof.Rows hiding St
/-- the figures of a number from 0 to 999999999 -/
structure Fig (ds : List Nat) : Prop where
  dg : AllDigits ds
  le : ds.length ≤ 9
  hd : ds = [48] ∨ ∃ c r, ds = c :: r ∧ 49 ≤ c
theorem Fig.ne {ds : List Nat} (h : Fig ds) : ds ≠ [] := by
  rcases h.hd with rfl | ⟨c, r, rfl, _⟩ <;> simp
theorem figB_dig {c : Nat} (h : 48 ≤ c ∧ c ≤ 57) : figB c = true := decide_eq_true h
theorem intend_ok {z : Str} (hz : z.length ≤ sizeLine) {k : Nat} {ds rest : List Nat} (h : At z k (ds ++ rest)) (F : Fig ds) (hr : figO rest.head? = false) (g : G) :
    FnEv f_integer_end [.val (.str z), .val (.int k)] g fun r g' => g' = g ∧ r = .val (.int ((k + ds.length : Nat) : Int)) := by
  unfold f_integer_end
  rw [fnEv_run]
  unfold m_integer_end
  have e0 : PySem.Str.ofString "0" = ch 48 := by decide +kernel
  rcases F.hd with rfl | ⟨c, r, rfl, hc⟩
  · refine ev_step fun K n r0 _ _ => ?_
    refine ev_stepI fun K2 t2 f2 => ?_
    simp [startD, Arg.slot]
    refine (sign_ok hz k g).mono ?_
    rintro r g' ⟨rfl, rfl⟩
    rw [h.sgn]
    simp [PyData.depth, PyData.eqv, ch_eq e0]
    refine t2 _ ?_
    simp
    refine r0 _ _ ?_
    simp [gOut_self]
  · have hc' : ¬ c = 48 := by omega
    refine ev_step fun K n r0 _ _ => ?_
    refine ev_stepI fun K2 t2 f2 => ?_
    simp [startD, Arg.slot]
    refine (sign_ok hz k g).mono ?_
    rintro r' g' ⟨rfl, rfl⟩
    rw [h.sgn]
    simp [PyData.depth, PyData.eqv, ch_eq e0, hc']
    refine f2 _ ?_
    simp
    refine n _ ?_
    clear n r0 t2 f2
    refine ev_step fun K n r0 _ _ => ?_
    simp
    refine n _ ?_
    clear n r0
    refine ev_step fun K n r0 _ _ => ?_
    obtain ⟨I, hI⟩ : ∃ I : Nat → Sg → Prop, I = fun m s => ∃ i : Nat, i ≤ r.length ∧ m = r.length - i ∧ s = { ρ := [.val (.str z), .val (.int k), .val (.int ((k + 1 + i : Nat) : Int))], g := g' } := ⟨_, rfl⟩
    refine ev_while r.length I ?_ ?_
    · rw [hI]
      exact ⟨0, Nat.zero_le _, rfl, by simp⟩
    · intro m s hs
      rw [hI] at hs
      obtain ⟨i, hi, rfl, rfl⟩ := hs
      have hle : r.length + 1 ≤ 9 := F.le
      have hat : (cp z)[k + 1 + i]? = (r ++ rest)[i]? := h.next1.get i
      obtain ⟨q, hq⟩ : ∃ q : Int, q = ((k + 1 + i : Nat) : Int) := ⟨_, rfl⟩
      have hlt : decide (q < (k : Int) + 9) = decide (i < 8) := decide_eq_decide.mpr (by omega)
      rw [← hq]
      simp [hlt]
      by_cases h8 : i < 8
      · rw [if_pos h8, hq]
        refine (sign_ok hz (k + 1 + i) g').mono ?_
        rintro r' g1 ⟨rfl, rfl⟩
        simp
        refine (figure_ok z (k + 1 + i) g1).mono ?_
        rintro r' g2 ⟨rfl, rfl⟩
        simp
        rw [hat]
        by_cases hi2 : i < r.length
        · have ef : figO (r ++ rest)[i]? = true := by
            rw [List.getElem?_append_left hi2, List.getElem?_eq_getElem hi2]
            exact figB_dig (F.dg _ (List.mem_cons_of_mem _ (List.getElem_mem hi2)))
          rw [ef, if_pos rfl]
          refine ⟨r.length - (i + 1), by omega, ?_⟩
          rw [hI]
          exact ⟨i + 1, hi2, rfl, by simp; omega⟩
        · have hi3 : i = r.length := by omega
          have ef : figO (r ++ rest)[i]? = false := by
            rw [hi3, List.getElem?_append_right (Nat.le_refl _), Nat.sub_self]
            rw [← hr]
            cases rest <;> rfl
          rw [ef, if_neg Bool.false_ne_true]
          refine n _ ?_
          simp [gOut_self]
          omega
      · rw [if_neg h8]
        have hi3 : i = r.length := by omega
        refine n _ ?_
        simp [gOut_self]
        omega
theorem beq_comm_str (a b : Str) : (a == b) = (b == a) := by
  by_cases e : a = b
  · subst e; rfl
  · rw [beq_eq_false_iff_ne.mpr e, beq_eq_false_iff_ne.mpr fun z => e z.symm]
theorem intV_s {x : Str} : intV [.dat (.str x)] = if x.length ≤ 640 then (PySem.intText? x).map fun n => Op.val (.int n) else none := rfl
theorem len_cp (x : Str) : x.length = x.cps.toList.length := (Array.length_toList).symm
theorem readint_ok {z : Str} (hz : z.length ≤ sizeLine) {k : Nat} {ds rest : List Nat} (h : At z k (ds ++ rest)) (F : Fig ds) (hr : figO rest.head? = false) (g : G) :
    FnEv f_read_integer [.val (.str z), .val (.int k)] g fun r g' => g' = g ∧ r = .val (.tuple [.int (digitsVal ds : Nat), .int ((k + ds.length : Nat) : Int)]) := by
  unfold f_read_integer
  rw [fnEv_run]
  unfold m_read_integer
  refine ev_step fun K n r0 _ _ => ?_
  simp [startD, Arg.slot]
  refine (intend_ok hz h F hr g).mono ?_
  rintro r g' ⟨rfl, rfl⟩
  obtain ⟨q, hq⟩ : ∃ q : Int, q = ((k + ds.length : Nat) : Int) := ⟨_, rfl⟩
  rw [← hq]
  simp
  refine n _ ?_
  have ec := cut_at h
  rw [← hq] at ec
  have hl : (cutS z (some (k : Int)) (some q)).length = ds.length := by rw [len_cp, ec]
  have hi : PySem.intText? (cutS z (some (k : Int)) (some q)) = some ((digitsVal ds : Nat) : Int) := by
    have := intText_digits (x := cutS z (some (k : Int)) (some q)) (by rw [ec]; exact F.dg) (by rw [ec]; exact F.ne) (by have := F.le; omega)
    rw [ec] at this
    exact this
  have h9 := F.le
  simp [hz, intV_s, hi, hl]
  refine ⟨by omega, ?_⟩
  exact ⟨by decide, gOut_self _, by omega⟩
theorem readbool_ok {z : Str} (hz : z.length ≤ sizeLine) {k : Nat} {b : Bool} {rest : List Nat} (h : At z k (43 :: (if b = true then 49 else 48) :: rest)) (g : G) :
    FnEv f_read_bool [.val (.str z), .val (.int k)] g fun r g' => g' = g ∧ r = .val (.tuple [.bool b, .int ((k + 2 : Nat) : Int)]) := by
  have e0 : PySem.Str.ofString "0" = ch 48 := by decide +kernel
  have e1 : PySem.Str.ofString "1" = ch 49 := by decide +kernel
  unfold f_read_bool
  rw [fnEv_run]
  unfold m_read_bool
  refine ev_step fun K n r0 _ _ => ?_
  have two : (2 : Nat) ≤ sizeLine := by decide
  have hs := sign_ok hz (k + 1) g
  obtain ⟨q, hq⟩ : ∃ q : Int, q = ((k + 1 : Nat) : Int) := ⟨_, rfl⟩
  have hq' : (k : Int) + 1 = q := by omega
  rw [← hq] at hs
  simp [startD, Arg.slot, hq']
  refine hs.mono ?_
  rintro r g' ⟨rfl, rfl⟩
  rw [h.next1.sgn]
  simp
  refine n _ ?_
  refine ev_step fun K n r1 _ _ => ?_
  refine ev_stepI fun K2 t2 f2 => ?_
  have eb : ∀ (c : Nat), (PyData.eqv (.str (PySem.Str.ofString "0")) (.str (ch c))) = decide (c = 48) := fun c => by
    rw [PyData.eqv, e0, beq_comm_str, ch_eq rfl]
  have eb1 : ∀ (c : Nat), (PyData.eqv (.str (PySem.Str.ofString "1")) (.str (ch c))) = decide (c = 49) := fun c => by
    rw [PyData.eqv, e1, beq_comm_str, ch_eq rfl]
  cases b
  · simp [ninV, inD, Vw.dat?, PyData.depth, PyData.depthAll, eb, eb1, two]
    refine f2 _ ?_
    simp
    refine n _ ?_
    simp [PyData.depth, PyData.eqv, ch_eq e1, two, gOut_self]
  · simp [ninV, inD, Vw.dat?, PyData.depth, PyData.depthAll, eb, eb1, two]
    refine f2 _ ?_
    simp
    refine n _ ?_
    simp [PyData.depth, PyData.eqv, ch_eq e1, two, gOut_self]
theorem readminus_num {z : Str} (hz : z.length ≤ sizeLine) {k : Nat} {ds rest : List Nat} (h : At z k (45 :: (ds ++ rest))) (F : Fig ds) (h0 : ds ≠ [48]) (hr : figO rest.head? = false) (g : G) :
    FnEv f_read_minus [.val (.str z), .val (.int k)] g fun r g' => g' = g ∧ r = .val (.tuple [.int (-(digitsVal ds : Nat)), .int ((k + 1 + ds.length : Nat) : Int)]) := by
  have e0 : PySem.Str.ofString "0" = ch 48 := by decide +kernel
  have two : (2 : Nat) ≤ sizeLine := by decide
  obtain ⟨c, r, rfl, hc⟩ : ∃ c r, ds = c :: r ∧ 49 ≤ c := by
    rcases F.hd with e | e
    · exact absurd e h0
    · exact e
  have hd := F.dg.head
  unfold f_read_minus
  rw [fnEv_run]
  unfold m_read_minus
  refine ev_step fun K n r0 _ _ => ?_
  have hs := sign_ok hz (k + 1) g
  have hr' := readint_ok hz h.next1 F hr g
  have hf := figure_ok z (k + 1) g
  obtain ⟨q, hq⟩ : ∃ q : Int, q = ((k + 1 : Nat) : Int) := ⟨_, rfl⟩
  have hq' : (k : Int) + 1 = q := by omega
  rw [← hq] at hs hr'
  simp [startD, Arg.slot, hq']
  refine hs.mono ?_
  rintro r' g' ⟨rfl, rfl⟩
  simp
  refine n _ ?_
  refine ev_step fun K n r1 _ _ => ?_
  refine ev_stepI fun K2 t2 f2 => ?_
  simp
  refine hf.mono ?_
  rintro r' g1 ⟨rfl, rfl⟩
  have e1 : figO (cp z)[k + 1]? = true := by
    rw [h.next1.get0]
    exact figB_dig hd
  have hc' : ¬ c = 48 := by omega
  rw [e1, h.next1.sgn]
  simp [PyData.depth, PyData.eqv, ch_eq e0, hc']
  refine t2 _ ?_
  refine ev_step fun K3 n3 r3 _ _ => ?_
  simp [hq']
  refine hr'.mono ?_
  rintro r' g2 ⟨rfl, rfl⟩
  simp
  refine n3 _ ?_
  simp [two]
  refine r1 _ _ ?_
  simp [gOut_self]
theorem readminus_none {z : Str} (hz : z.length ≤ sizeLine) {k : Nat} {rest : List Nat} (h : At z k (45 :: rest)) (hr : figO rest.head? = false) (g : G) :
    FnEv f_read_minus [.val (.str z), .val (.int k)] g fun r g' => g' = g ∧ r = .val (.tuple [.none, .int ((k + 1 : Nat) : Int)]) := by
  have two : (2 : Nat) ≤ sizeLine := by decide
  unfold f_read_minus
  rw [fnEv_run]
  unfold m_read_minus
  refine ev_step fun K n r0 _ _ => ?_
  have hs := sign_ok hz (k + 1) g
  have hf := figure_ok z (k + 1) g
  obtain ⟨q, hq⟩ : ∃ q : Int, q = ((k + 1 : Nat) : Int) := ⟨_, rfl⟩
  have hq' : (k : Int) + 1 = q := by omega
  rw [← hq] at hs
  simp [startD, Arg.slot, hq']
  refine hs.mono ?_
  rintro r' g' ⟨rfl, rfl⟩
  simp
  refine n _ ?_
  refine ev_step fun K n r1 _ _ => ?_
  refine ev_stepI fun K2 t2 f2 => ?_
  simp
  refine hf.mono ?_
  rintro r' g1 ⟨rfl, rfl⟩
  have e1 : figO (cp z)[k + 1]? = false := by
    rw [h.next1.get0]
    exact hr
  rw [e1]
  simp
  refine f2 _ ?_
  simp
  refine n _ ?_
  simp [two, gOut_self, hq']
theorem readstr_ok {z : Str} (hz : z.length ≤ sizeLine) {k : Nat} {w : Str} {rest : List Nat} (h : At z k (39 :: (cp w ++ 39 :: rest))) (hw : ∀ c ∈ cp w, innB c = true) (g : G) :
    FnEv f_read_string [.val (.str z), .val (.int k)] g fun r g' => g' = g ∧ r = .val (.tuple [.str w, .int ((k + (cp w).length + 2 : Nat) : Int)]) := by
  have e0 : PySem.Str.ofString "'" = ch 39 := by decide +kernel
  have two : (2 : Nat) ≤ sizeLine := by decide
  unfold f_read_string
  rw [fnEv_run]
  unfold m_read_string
  refine ev_step fun K n r0 _ _ => ?_
  simp [startD, Arg.slot]
  refine n _ ?_
  clear n r0
  refine ev_step fun K n r0 _ _ => ?_
  obtain ⟨I, hI⟩ : ∃ I : Nat → Sg → Prop, I = fun m s => ∃ i : Nat, i ≤ (cp w).length ∧ m = (cp w).length - i ∧ s = { ρ := [.val (.str z), .val (.int k), .val (.int ((k + 1 + i : Nat) : Int))], g := g } := ⟨_, rfl⟩
  refine ev_while (cp w).length I ?_ ?_
  · rw [hI]
    exact ⟨0, Nat.zero_le _, rfl, by simp⟩
  · intro m s hs
    rw [hI] at hs
    obtain ⟨i, hi, rfl, rfl⟩ := hs
    have hat : (cp z)[k + 1 + i]? = (cp w ++ 39 :: rest)[i]? := h.next1.get i
    obtain ⟨q, hq⟩ : ∃ q : Int, q = ((k + 1 + i : Nat) : Int) := ⟨_, rfl⟩
    have hsg := sign_ok hz (k + 1 + i) g
    rw [← hq] at hsg ⊢
    simp
    refine hsg.mono ?_
    rintro r' g1 ⟨rfl, rfl⟩
    simp
    refine (inner_ok z (k + 1 + i) g1).mono ?_
    rintro r' g2 ⟨rfl, rfl⟩
    rw [hat]
    by_cases hi2 : i < (cp w).length
    · have ef : innO (cp w ++ 39 :: rest)[i]? = true := by
        rw [List.getElem?_append_left hi2, List.getElem?_eq_getElem hi2]
        exact hw _ (List.getElem_mem hi2)
      rw [ef]
      simp
      refine ⟨(cp w).length - (i + 1), by omega, ?_⟩
      rw [hI]
      exact ⟨i + 1, hi2, rfl, by simp; omega⟩
    · have hi3 : i = (cp w).length := by omega
      have ef : innO (cp w ++ 39 :: rest)[i]? = false := by
        rw [hi3, List.getElem?_append_right (Nat.le_refl _), Nat.sub_self]
        show innB 39 = false
        decide
      rw [ef]
      simp
      refine n _ ?_
      clear n r0
      refine ev_step fun K n r0 _ _ => ?_
      refine ev_stepI fun K2 t2 f2 => ?_
      simp
      refine hsg.mono ?_
      rintro r' g3 ⟨rfl, rfl⟩
      have hn : At z (k + 1 + (cp w).length) (39 :: rest) := h.next1.next
      rw [hi3, hn.sgn]
      simp [PyData.depth, PyData.eqv, ch_eq e0]
      refine f2 _ ?_
      simp
      refine n _ ?_
      have ec := cut_at (k := k + 1) h.next1
      rw [← hi3, ← hq] at ec
      have ew : cutS z (some ((k : Int) + 1)) (some q) = w := str_ext (by
        have : ((k + 1 : Nat) : Int) = (k : Int) + 1 := by omega
        rw [this] at ec
        exact ec)
      simp [hz, two, ew, gOut_self]
      omega
end K85
end

section
set_option Elab.async false
set_option linter.all false
set_option maxRecDepth 100000
set_option maxHeartbeats 4000000
set_option autoImplicit false
namespace K85
open PySem PySem.Spec L2 PD XB Lw PySem.NumText TL
open PyProof.Rows hiding St
def wrI (i : Int) : List Nat := if i < 0 then 45 :: numL i.natAbs else numL i.natAbs
mutual
/-- the text of a value -/
def wr : D → List Nat
  | .none => [45]
  | .bool b => [43, if b = true then 49 else 48]
  | .int i => wrI i
  | .str z => 39 :: (cp z ++ [39])
  | .tuple xs => 40 :: (wrs xs ++ [41])
  | _ => []
def wrs : List D → List Nat
  | [] => []
  | x :: xs => wr x ++ wrt xs
def wrt : List D → List Nat
  | [] => []
  | x :: xs => 32 :: (wr x ++ wrt xs)
end
mutual
def ok : D → Bool
  | .none => true
  | .bool _ => true
  | .int i => decide (i.natAbs < 10 ^ 9)
  | .str z => (cp z).all innB
  | .tuple xs => okAll xs
  | _ => false
def okAll : List D → Bool
  | [] => true
  | x :: xs => ok x && okAll xs
end
theorem okAll_iff : ∀ {xs : List D}, okAll xs = true ↔ ∀ x ∈ xs, ok x = true
  | [] => by simp [okAll]
  | x :: xs => by simp [okAll, okAll_iff (xs := xs)]
theorem fig_num {n : Nat} (h : n < 10 ^ 9) : Fig (numL n) := by
  refine ⟨numL_digits n, numL_len (by decide) h, ?_⟩
  clear h
  by_cases h0 : n = 0
  · subst h0
    exact .inl (numL_lt (by decide))
  · right
    induction n using Nat.strongRecOn with
    | _ n ih =>
      by_cases h : n < 10
      · rw [numL_lt h]
        exact ⟨48 + n, [], rfl, by omega⟩
      · rw [numL_step (by omega)]
        obtain ⟨c, r, e, hc⟩ := ih (n / 10) (by omega) (by omega)
        rw [e]
        exact ⟨c, r ++ [48 + n % 10], rfl, hc⟩
theorem wr_pos {d : D} (h : ok d = true) : 1 ≤ (wr d).length := by
  cases d with
  | none => simp [wr]
  | bool b => simp [wr]
  | int i =>
    simp only [wr, wrI]
    have : 1 ≤ (numL i.natAbs).length := by
      have := numL_ne i.natAbs
      cases e : numL i.natAbs with
      | nil => exact absurd e this
      | cons a b => simp
    split <;> simp <;> omega
  | str z => simp [wr]
  | tuple xs => simp [wr]
  | list _ => simp [ok] at h
  | dict _ => simp [ok] at h
theorem wrt_len : ∀ xs : List D, xs.length ≤ (wrt xs).length
  | [] => by simp [wrt]
  | x :: xs => by
    have := wrt_len xs
    simp [wrt]
    omega
theorem wrs_len {xs : List D} (h : okAll xs = true) : xs.length ≤ (wrs xs).length := by
  cases xs with
  | nil => simp
  | cons x xs =>
    rw [okAll, Bool.and_eq_true] at h
    have h1 := wr_pos h.1
    have h2 := wrt_len xs
    simp [wrs]
    omega
theorem At.bound {z : Str} {k : Nat} {l : List Nat} (h : At z k l) : l.length ≤ z.length := by
  have := congrArg List.length h
  rw [List.length_drop] at this
  have e : (cp z).length = z.length := (len_cp z).symm
  omega
/-- what read_at has to do for a value -/
def RdAt (f : Fn) (z : Str) (d : D) (dp : Nat) : Prop := ∀ (k : Nat) (rest : List Nat) (g : G), At z k (wr d ++ rest) → figO rest.head? = false → FnEv f [.val (.str z), .val (.int k), .val (.int dp)] g fun r g' => g' = g ∧ r = .val (.tuple [d, .int ((k + (wr d).length : Nat) : Int)])
theorem parts_ok {z : Str} (hz : z.length ≤ sizeLine) {fp ft fa : Fn} {dp : Nat} {xs : List D} (hne : xs ≠ []) (hok : okAll xs = true) (ha : ∀ x ∈ xs, RdAt fa z x dp) {k : Nat} {rest : List Nat} (h : At z k (wrs xs ++ 41 :: rest)) (g : G) :
    FnEv (runD 6 (m_read_parts fp ft fa)) [.val (.str z), .val (.int k), .val (.int dp)] g fun r g' => g' = g ∧ r = .val (.tuple [.tuple xs, .int ((k + (wrs xs).length : Nat) : Int)]) := by
  have e32 : PySem.Str.ofString " " = ch 32 := by decide +kernel
  have two : (2 : Nat) ≤ sizeLine := by decide
  have hb := h.bound
  rw [List.length_append, List.length_cons] at hb
  have hx := wrs_len hok
  obtain ⟨x, ys, rfl⟩ : ∃ x ys, xs = x :: ys := by
    cases xs with
    | nil => exact absurd rfl hne
    | cons x ys => exact ⟨x, ys, rfl⟩
  rw [fnEv_run]
  unfold m_read_parts
  refine ev_step fun K n r0 _ _ => ?_
  simp [startD, Arg.slot]
  have h1 : At z k (wr x ++ (wrt ys ++ 41 :: rest)) := by
    unfold wrs at h
    rwa [List.append_assoc] at h
  have hf : ∀ ys : List D, figO (wrt ys ++ 41 :: rest).head? = false := fun ys => by cases ys <;> rfl
  refine (ha x List.mem_cons_self k _ g h1 (hf ys)).mono ?_
  rintro r g' ⟨rfl, rfl⟩
  simp
  refine n _ ?_
  clear n r0
  refine ev_step fun K n r0 _ _ => ?_
  simp
  refine ⟨Nat.le_trans (by decide) two, ?_⟩
  refine n _ ?_
  clear n r0
  refine ev_step fun K n r0 _ _ => ?_
  obtain ⟨I, hI⟩ : ∃ I : Nat → Sg → Prop, I = fun m s => ∃ (done todo : List D) (e : Nat) (a : D), x :: ys = done ++ todo ∧ 1 ≤ done.length ∧ m = todo.length ∧ At z e (wrt todo ++ 41 :: rest) ∧ e + (wrt todo).length = k + (wrs (x :: ys)).length ∧
      s = { ρ := [.val (.str z), .val (.int k), .val (.int dp), .val a, .val (.int (e : Nat)), .own false (.lst done)], g := g' } := ⟨_, rfl⟩
  refine ev_while ys.length I ?_ ?_
  · rw [hI]
    exact ⟨[x], ys, k + (wr x).length, x, rfl, by simp, rfl, h1.next, by simp [wrs]; omega, by simp⟩
  · intro m s hs
    rw [hI] at hs
    obtain ⟨done, todo, e, a, hsp, hd1, rfl, hat, he, rfl⟩ := hs
    have hsg := sign_ok hz e g'
    cases todo with
    | nil =>
      have hat' : At z e (41 :: rest) := hat
      simp
      refine hsg.mono ?_
      rintro r g1 ⟨rfl, rfl⟩
      rw [hat'.sgn]
      simp [PyData.depth, PyData.eqv, ch_eq e32]
      refine n _ ?_
      rw [List.append_nil] at hsp
      have he' : e = k + (wrs (x :: ys)).length := by simpa [wrt] using he
      subst he'
      simp [two, gOut_self, hsp]
    | cons y todo =>
      have hat' : At z e (32 :: (wr y ++ (wrt todo ++ 41 :: rest))) := by
        have : wrt (y :: todo) ++ 41 :: rest = 32 :: (wr y ++ (wrt todo ++ 41 :: rest)) := by simp [wrt]
        rwa [this] at hat
      simp
      refine hsg.mono ?_
      rintro r g1 ⟨rfl, rfl⟩
      rw [hat'.sgn]
      simp [PyData.depth, PyData.eqv, ch_eq e32]
      have hmem : y ∈ x :: ys := by rw [hsp]; simp
      have hr := ha y hmem (e + 1) _ g1 hat'.next1 (hf todo)
      obtain ⟨q, hq⟩ : ∃ q : Int, q = ((e + 1 : Nat) : Int) := ⟨_, rfl⟩
      have hq' : (e : Int) + 1 = q := by omega
      rw [← hq] at hr
      rw [hq']
      refine hr.mono ?_
      rintro r g2 ⟨rfl, rfl⟩
      simp
      have hl : done.length + (todo.length + 1) = ys.length + 1 := by
        have := congrArg List.length hsp
        simp at this
        omega
      simp at hx
      refine ⟨by omega, ?_⟩
      rw [hI]
      refine ⟨done ++ [y], todo, e + 1 + (wr y).length, y, by simp [hsp], by simp, rfl, hat'.next1.next, ?_, by simp⟩
      rw [← he]
      simp [wrt]
      omega
end K85
end

section
set_option Elab.async false
set_option linter.all false
set_option maxRecDepth 100000
set_option maxHeartbeats 4000000
set_option autoImplicit false
namespace K85
open PySem PySem.Spec L2 PD XB Lw PySem.NumText TL
open PyProof.Rows hiding St
theorem tuple_ok {z : Str} (hz : z.length ≤ sizeLine) {fp ft fa : Fn} {dp : Nat} (hdp : dp < 100) {xs : List D} (hok : okAll xs = true)
    {k : Nat} {rest : List Nat} (h : At z k (40 :: (wrs xs ++ 41 :: rest))) (g : G)
    (hp : xs ≠ [] → FnEv fp [.val (.str z), .val (.int ((k + 1 : Nat) : Int)), .val (.int ((dp + 1 : Nat) : Int))] g fun r g' => g' = g ∧ r = .val (.tuple [.tuple xs, .int ((k + 1 + (wrs xs).length : Nat) : Int)])) :
    FnEv (runD 5 (m_read_tuple fp ft fa)) [.val (.str z), .val (.int k), .val (.int dp)] g fun r g' => g' = g ∧ r = .val (.tuple [.tuple xs, .int ((k + (wr (.tuple xs)).length : Nat) : Int)]) := by
  have e41 : PySem.Str.ofString ")" = ch 41 := by decide +kernel
  have two : (2 : Nat) ≤ sizeLine := by decide
  have hl : (wr (.tuple xs)).length = (wrs xs).length + 2 := by simp [wr]
  rw [hl]
  rw [fnEv_run]
  unfold m_read_tuple
  refine ev_step fun K n r0 _ _ => ?_
  refine ev_stepI fun K2 t2 f2 => ?_
  have hne : (((dp : Int)) == 100) = false := beq_eq_false_iff_ne.mpr (by omega)
  simp [startD, Arg.slot, PyData.depth, PyData.eqv, hne]
  refine f2 _ ?_
  simp
  refine n _ ?_
  clear n r0 t2 f2
  have hs := sign_ok hz (k + 1) g
  obtain ⟨q, hq⟩ : ∃ q : Int, q = ((k + 1 : Nat) : Int) := ⟨_, rfl⟩
  have hq' : (k : Int) + 1 = q := by omega
  obtain ⟨p, hpp⟩ : ∃ p : Int, p = ((dp + 1 : Nat) : Int) := ⟨_, rfl⟩
  have hpp' : (dp : Int) + 1 = p := by omega
  rw [← hq] at hs
  rw [← hq, ← hpp] at hp
  refine ev_step fun K n r0 _ _ => ?_
  refine ev_stepI fun K2 t2 f2 => ?_
  simp [hq']
  refine hs.mono ?_
  rintro r g' ⟨rfl, rfl⟩
  cases xs with
  | nil =>
    have h' : At z k (40 :: 41 :: rest) := h
    rw [h'.next1.sgn]
    simp [PyData.depth, PyData.eqv, ch_eq e41]
    refine t2 _ ?_
    simp [two]
    refine r0 _ _ ?_
    simp [gOut_self, wrs]
  | cons x ys =>
    rw [okAll, Bool.and_eq_true] at hok
    obtain ⟨c, l, hc, hc41⟩ : ∃ c l, wrs (x :: ys) ++ 41 :: rest = c :: l ∧ c ≠ 41 := by
      unfold wrs
      have : ∃ c l, wr x = c :: l ∧ c ≠ 41 := by
        cases x with
        | none => exact ⟨45, [], rfl, by decide⟩
        | bool b => exact ⟨43, _, rfl, by decide⟩
        | int i =>
          simp only [wr, wrI]
          split
          · exact ⟨45, _, rfl, by decide⟩
          · cases e : numL i.natAbs with
            | nil => exact absurd e (numL_ne _)
            | cons a b =>
              have := numL_digits i.natAbs a (by rw [e]; simp)
              exact ⟨a, b, rfl, by omega⟩
        | str w => exact ⟨39, _, rfl, by decide⟩
        | tuple xs => exact ⟨40, _, rfl, by decide⟩
        | list _ => simp [ok] at hok
        | dict _ => simp [ok] at hok
      obtain ⟨c, l, e, hc⟩ := this
      exact ⟨c, l ++ wrt ys ++ 41 :: rest, by rw [e]; simp, hc⟩
    have h' : At z (k + 1) (c :: l) := by rw [← hc]; exact h.next1
    rw [h'.sgn]
    simp [PyData.depth, PyData.eqv, ch_eq e41, hc41]
    refine f2 _ ?_
    simp
    refine n _ ?_
    clear n r0 t2 f2
    refine ev_step fun K n r0 _ _ => ?_
    simp [hq', hpp']
    refine (hp (by simp)).mono ?_
    rintro r g1 ⟨rfl, rfl⟩
    simp
    refine n _ ?_
    clear n r0
    refine ev_step fun K n r0 _ _ => ?_
    refine ev_stepI fun K2 t2 f2 => ?_
    have hs2 := sign_ok hz (k + 1 + (wrs (x :: ys)).length) g1
    have h2 : At z (k + 1 + (wrs (x :: ys)).length) (41 :: rest) := h.next1.next
    obtain ⟨e, he⟩ : ∃ e : Int, e = ((k + 1 + (wrs (x :: ys)).length : Nat) : Int) := ⟨_, rfl⟩
    have he' : (k : Int) + 1 + ((wrs (x :: ys)).length : Int) = e := by omega
    rw [← he] at hs2
    simp [he']
    refine hs2.mono ?_
    rintro r g2 ⟨rfl, rfl⟩
    rw [h2.sgn]
    simp [PyData.depth, PyData.eqv, ch_eq e41]
    refine f2 _ ?_
    simp
    refine n _ ?_
    simp [two, gOut_self]
    omega
/-- read_at's choice by the first sign -/
theorem at_ok {z : Str} (hz : z.length ≤ sizeLine) {fp ft fa : Fn} {d : D} {dp : Nat} (hok : ok d = true)
    (ht : ∀ xs, d = .tuple xs → ∀ (k : Nat) (rest : List Nat) (g : G), At z k (40 :: (wrs xs ++ 41 :: rest)) → FnEv ft [.val (.str z), .val (.int k), .val (.int dp)] g fun r g' => g' = g ∧ r = .val (.tuple [.tuple xs, .int ((k + (wr (.tuple xs)).length : Nat) : Int)])) :
    RdAt (runD 4 (m_read_at fp ft fa)) z d dp := by
  intro k rest g h hr
  have e40 : PySem.Str.ofString "(" = ch 40 := by decide +kernel
  have e39 : PySem.Str.ofString "'" = ch 39 := by decide +kernel
  have e43 : PySem.Str.ofString "+" = ch 43 := by decide +kernel
  have e45 : PySem.Str.ofString "-" = ch 45 := by decide +kernel
  rw [fnEv_run]
  unfold m_read_at
  refine ev_step fun K n r0 _ _ => ?_
  simp [startD, Arg.slot]
  refine (sign_ok hz k g).mono ?_
  rintro r g' ⟨rfl, rfl⟩
  simp
  refine n _ ?_
  clear n r0
  -- the sign is c
  have head : ∀ c l, wr d ++ rest = c :: l → sgn z k = ch c := fun c l e => by rw [e] at h; exact h.sgn
  cases d with
  | list _ => simp [ok] at hok
  | dict _ => simp [ok] at hok
  | tuple xs =>
    have e : wr (.tuple xs) ++ rest = 40 :: (wrs xs ++ 41 :: rest) := by simp [wr]
    rw [head _ _ e]
    rw [e] at h
    refine ev_step fun K n r0 _ _ => ?_
    refine ev_stepI fun K2 t2 f2 => ?_
    simp [PyData.depth, PyData.eqv, ch_eq e40]
    refine t2 _ ?_
    simp
    refine (ht xs rfl k rest g' h).mono ?_
    rintro r g1 ⟨rfl, rfl⟩
    simp
    refine r0 _ _ ?_
    simp [gOut_self]
  | str w =>
    have e : wr (.str w) ++ rest = 39 :: (cp w ++ 39 :: rest) := by simp [wr]
    rw [head _ _ e]
    rw [e] at h
    refine ev_step fun K n r0 _ _ => ?_
    refine ev_stepI fun K2 t2 f2 => ?_
    simp [PyData.depth, PyData.eqv, ch_eq e40]
    refine f2 _ ?_
    simp
    refine n _ ?_
    clear n r0 t2 f2
    refine ev_step fun K n r0 _ _ => ?_
    refine ev_stepI fun K2 t2 f2 => ?_
    simp [PyData.depth, PyData.eqv, ch_eq e39]
    refine t2 _ ?_
    simp
    refine (readstr_ok hz h (fun c hc => List.all_eq_true.mp (by simpa [ok] using hok) c hc) g').mono ?_
    rintro r g1 ⟨rfl, rfl⟩
    simp
    refine r0 _ _ ?_
    simp [gOut_self, wr]
    omega
  | bool b =>
    have e : wr (.bool b) ++ rest = 43 :: (if b = true then 49 else 48) :: rest := by simp [wr]
    rw [head _ _ e]
    rw [e] at h
    refine ev_step fun K n r0 _ _ => ?_
    refine ev_stepI fun K2 t2 f2 => ?_
    simp [PyData.depth, PyData.eqv, ch_eq e40]
    refine f2 _ ?_
    simp
    refine n _ ?_
    clear n r0 t2 f2
    refine ev_step fun K n r0 _ _ => ?_
    refine ev_stepI fun K2 t2 f2 => ?_
    simp [PyData.depth, PyData.eqv, ch_eq e39]
    refine f2 _ ?_
    simp
    refine n _ ?_
    clear n r0 t2 f2
    refine ev_step fun K n r0 _ _ => ?_
    refine ev_stepI fun K2 t2 f2 => ?_
    simp [PyData.depth, PyData.eqv, ch_eq e43]
    refine t2 _ ?_
    simp
    refine (readbool_ok hz h g').mono ?_
    rintro r g1 ⟨rfl, rfl⟩
    simp
    refine r0 _ _ ?_
    simp [gOut_self, wr]
  | none =>
    have e : wr .none ++ rest = 45 :: rest := by simp [wr]
    rw [head _ _ e]
    rw [e] at h
    refine ev_step fun K n r0 _ _ => ?_
    refine ev_stepI fun K2 t2 f2 => ?_
    simp [PyData.depth, PyData.eqv, ch_eq e40]
    refine f2 _ ?_
    simp
    refine n _ ?_
    clear n r0 t2 f2
    refine ev_step fun K n r0 _ _ => ?_
    refine ev_stepI fun K2 t2 f2 => ?_
    simp [PyData.depth, PyData.eqv, ch_eq e39]
    refine f2 _ ?_
    simp
    refine n _ ?_
    clear n r0 t2 f2
    refine ev_step fun K n r0 _ _ => ?_
    refine ev_stepI fun K2 t2 f2 => ?_
    simp [PyData.depth, PyData.eqv, ch_eq e43]
    refine f2 _ ?_
    simp
    refine n _ ?_
    clear n r0 t2 f2
    refine ev_step fun K n r0 _ _ => ?_
    refine ev_stepI fun K2 t2 f2 => ?_
    simp [PyData.depth, PyData.eqv, ch_eq e45]
    refine t2 _ ?_
    simp
    refine (readminus_none hz h hr g').mono ?_
    rintro r g1 ⟨rfl, rfl⟩
    simp
    refine r0 _ _ ?_
    simp [gOut_self, wr]
  | int i =>
    have hi : i.natAbs < 10 ^ 9 := by simpa [ok] using hok
    have F := fig_num hi
    by_cases hn : i < 0
    · have e : wr (.int i) ++ rest = 45 :: (numL i.natAbs ++ rest) := by simp [wr, wrI, hn]
      have hne : numL i.natAbs ≠ [48] := fun z => by
        have := numL_val i.natAbs
        rw [z] at this
        have e0 : digitsVal [48] = 0 := rfl
        omega
      rw [head _ _ e]
      rw [e] at h
      refine ev_step fun K n r0 _ _ => ?_
      refine ev_stepI fun K2 t2 f2 => ?_
      simp [PyData.depth, PyData.eqv, ch_eq e40]
      refine f2 _ ?_
      simp
      refine n _ ?_
      clear n r0 t2 f2
      refine ev_step fun K n r0 _ _ => ?_
      refine ev_stepI fun K2 t2 f2 => ?_
      simp [PyData.depth, PyData.eqv, ch_eq e39]
      refine f2 _ ?_
      simp
      refine n _ ?_
      clear n r0 t2 f2
      refine ev_step fun K n r0 _ _ => ?_
      refine ev_stepI fun K2 t2 f2 => ?_
      simp [PyData.depth, PyData.eqv, ch_eq e43]
      refine f2 _ ?_
      simp
      refine n _ ?_
      clear n r0 t2 f2
      refine ev_step fun K n r0 _ _ => ?_
      refine ev_stepI fun K2 t2 f2 => ?_
      simp [PyData.depth, PyData.eqv, ch_eq e45]
      refine t2 _ ?_
      simp
      refine (readminus_num hz h F hne hr g').mono ?_
      rintro r g1 ⟨rfl, rfl⟩
      simp
      refine r0 _ _ ?_
      simp [gOut_self, wr, wrI, hn, numL_val]
      omega
    · have e : wr (.int i) ++ rest = numL i.natAbs ++ rest := by simp [wr, wrI, hn]
      obtain ⟨c, l, hc, hd⟩ : ∃ c l, numL i.natAbs = c :: l ∧ (48 ≤ c ∧ c ≤ 57) := by
        cases e : numL i.natAbs with
        | nil => exact absurd e (numL_ne _)
        | cons a b => exact ⟨a, b, rfl, numL_digits i.natAbs a (by rw [e]; simp)⟩
      have e2 : wr (.int i) ++ rest = c :: (l ++ rest) := by rw [e, hc]; rfl
      have hsg := head _ _ e2
      have hg0 : (cp z)[k]? = some c := by rw [e2] at h; exact h.get0
      have hf := figure_ok z k g'
      rw [e] at h
      have n40 : ¬ c = 40 := by omega
      have n39 : ¬ c = 39 := by omega
      have n43 : ¬ c = 43 := by omega
      have n45 : ¬ c = 45 := by omega
      rw [hg0, hsg] at hf
      rw [hsg]
      refine ev_step fun K n r0 _ _ => ?_
      refine ev_stepI fun K2 t2 f2 => ?_
      simp [PyData.depth, PyData.eqv, ch_eq e40, n40]
      refine f2 _ ?_
      simp
      refine n _ ?_
      clear n r0 t2 f2
      refine ev_step fun K n r0 _ _ => ?_
      refine ev_stepI fun K2 t2 f2 => ?_
      simp [PyData.depth, PyData.eqv, ch_eq e39, n39]
      refine f2 _ ?_
      simp
      refine n _ ?_
      clear n r0 t2 f2
      refine ev_step fun K n r0 _ _ => ?_
      refine ev_stepI fun K2 t2 f2 => ?_
      simp [PyData.depth, PyData.eqv, ch_eq e43, n43]
      refine f2 _ ?_
      simp
      refine n _ ?_
      clear n r0 t2 f2
      refine ev_step fun K n r0 _ _ => ?_
      refine ev_stepI fun K2 t2 f2 => ?_
      simp [PyData.depth, PyData.eqv, ch_eq e45, n45]
      refine f2 _ ?_
      simp
      refine n _ ?_
      clear n r0 t2 f2
      refine ev_step fun K n r0 _ _ => ?_
      refine ev_stepI fun K2 t2 f2 => ?_
      simp
      refine hf.mono ?_
      rintro r g1 ⟨rfl, rfl⟩
      have ef : figO (some c) = true := figB_dig hd
      rw [ef]
      simp
      refine t2 _ ?_
      simp
      refine (readint_ok hz h F hr g1).mono ?_
      rintro r g2 ⟨rfl, rfl⟩
      simp
      refine r0 _ _ ?_
      simp [gOut_self, wr, wrI, hn, numL_val]
      omega
end K85
end

section
set_option Elab.async false
set_option linter.all false
set_option maxRecDepth 100000
set_option maxHeartbeats 4000000
set_option autoImplicit false
namespace K85
open PySem PySem.Spec L2 PD XB Lw PySem.NumText TL
open PyProof.Rows hiding St
theorem depth_mem : ∀ {xs : List D} {x : D}, x ∈ xs → x.depth ≤ PyData.depthAll xs
  | y :: ys, x, h => by
    simp only [PyData.depthAll]
    rcases List.mem_cons.mp h with rfl | h
    · omega
    · have := depth_mem h
      omega
theorem read_full {z : Str} (hz : z.length ≤ sizeLine) : ∀ (m : Nat) (d : D), ok d = true → d.depth ≤ m → ∀ (n dp : Nat), 3 * m + 1 ≤ n → dp + m ≤ 100 → RdAt (r_read_at n) z d dp := by
  intro m
  induction m with
  | zero =>
    intro d hok hd n dp hn hdp
    obtain ⟨n, rfl⟩ : ∃ k, n = k + 1 := ⟨n - 1, by omega⟩
    refine at_ok hz hok fun xs e => ?_
    subst e
    simp only [PyData.depth] at hd
    omega
  | succ m ih =>
    intro d hok hd n dp hn hdp
    obtain ⟨n, rfl⟩ : ∃ k, n = k + 3 := ⟨n - 3, by omega⟩
    refine at_ok hz hok fun xs e k rest g h => ?_
    subst e
    have hok' : okAll xs = true := by simpa [ok] using hok
    simp only [PyData.depth] at hd
    refine tuple_ok hz (by omega) hok' h g fun hne => ?_
    refine parts_ok hz hne hok' (fun x hx => ?_) h.next1 g
    have := depth_mem hx
    exact ih x (okAll_iff.mp hok' x hx) (by omega) n (dp + 1) (by omega) (by omega)
theorem read_value_ok {z : Str} (hz : z.length ≤ sizeLine) {d : D} (hok : ok d = true) (hd : d.depth ≤ 100) (hw : cp z = wr d) (g : G) :
    FnEv f_read_value [.val (.str z)] g fun r g' => g' = g ∧ r = .val d := by
  unfold f_read_value
  rw [fnEv_run]
  unfold m_read_value
  have hat : At z 0 (wr d ++ []) := by
    show (cp z).drop 0 = _
    rw [hw]
    simp
  have hr := read_full hz 100 d hok hd 310 0 (by decide) (by decide) 0 [] g hat rfl
  have hl : (wr d).length = z.length := by rw [← hw]; exact (len_cp z).symm
  refine ev_step fun K n r0 _ _ => ?_
  simp [startD, Arg.slot]
  refine hr.mono ?_
  rintro r g' ⟨rfl, rfl⟩
  simp
  refine n _ ?_
  clear n r0
  refine ev_step fun K n r0 _ _ => ?_
  refine ev_stepI fun K2 t2 f2 => ?_
  simp [hz, hl]
  refine f2 _ ?_
  simp
  refine n _ ?_
  simp [gOut_self]
/-! writing -/
theorem cp_app (a b : Str) : cp (a ++ b) = cp a ++ cp b := by
  show (a.cps ++ b.cps).toList = _
  rw [Array.toList_append]
  rfl
theorem cp_join : ∀ (y : Str) (ys : List Str), cp (Txt.join " " (y :: ys)) = cp y ++ (ys.map fun w => 32 :: cp w).flatten := by
  have key : ∀ (y : Str) (ys : List Str), cp (PySem.Str.join " " (y :: ys)) = cp y ++ (ys.map fun w => 32 :: cp w).flatten := by
    intro y ys
    induction ys generalizing y with
    | nil => simp; rfl
    | cons z zs ih =>
      show cp (y ++ " " ++ PySem.Str.join " " (z :: zs)) = _
      rw [cp_app, cp_app, ih z]
      have : cp (PySem.Str.ofString " ") = [32] := by decide +kernel
      rw [this]
      simp
  intro y ys
  show cp (Builtin.Str.glued " " (y :: ys)) = _
  rw [StrLaws.glued_eq_join]
  exact key y ys
theorem wrt_flat : ∀ (xs : List D), wrt xs = (xs.map fun x => 32 :: wr x).flatten
  | [] => rfl
  | x :: xs => by simp [wrt, wrt_flat xs]
/-- texts of the parts -/
def Txts : List D → List D → Prop
  | [], [] => True
  | x :: xs, t :: ts => (∃ w : Str, t = .str w ∧ cp w = wr x) ∧ Txts xs ts
  | _, _ => False
theorem txts_snoc : ∀ {xs ts : List D} {x : D} {w : Str}, Txts xs ts → cp w = wr x → Txts (xs ++ [x]) (ts ++ [.str w])
  | [], [], x, w, _, h => ⟨⟨w, rfl, h⟩, trivial⟩
  | y :: ys, t :: ts, x, w, h, h' => ⟨h.1, txts_snoc h.2 h'⟩
theorem txts_strs : ∀ {xs ts : List D}, Txts xs ts → ∃ ws : List Str, PD.strs? ts = some ws ∧ ws.length = xs.length ∧ ws.map cp = xs.map wr
  | [], [], _ => ⟨[], rfl, rfl, rfl⟩
  | x :: xs, t :: ts, h => by
    obtain ⟨⟨w, rfl, hw⟩, h2⟩ := h
    obtain ⟨ws, e1, e2, e3⟩ := txts_strs h2
    exact ⟨w :: ws, by simp [PD.strs?, e1], by simp [e2], by simp [e3, hw]⟩
theorem sum_wr : ∀ xs : List D, (xs.map fun x => (wr x).length).sum + xs.length = (wrt xs).length
  | [] => rfl
  | x :: xs => by
    have := sum_wr xs
    simp [wrt]
    omega
theorem wrs_sum {xs : List D} : (xs.map fun x => (wr x).length).sum + xs.length ≤ (wrs xs).length + 1 := by
  cases xs with
  | nil => simp
  | cons x xs =>
    have := sum_wr xs
    simp [wrs]
    omega
theorem join_wrs {xs : List D} {ws : List Str} (h : ws.map cp = xs.map wr) : cp (Txt.join " " ws) = wrs xs := by
  cases xs with
  | nil =>
    have : ws = [] := by cases ws with | nil => rfl | cons a b => cases h
    subst this
    rfl
  | cons x xs =>
    cases ws with
    | nil => cases h
    | cons w ws =>
      rw [List.map_cons, List.map_cons] at h
      injection h with h1 h2
      rw [cp_join, h1, wrs, wrt_flat]
      congr 2
      have e : (ws.map fun w => 32 :: cp w) = (ws.map cp).map fun l => 32 :: l := by rw [List.map_map]; rfl
      have e2 : (xs.map fun x => 32 :: wr x) = (xs.map wr).map fun l => 32 :: l := by rw [List.map_map]; rfl
      rw [e, e2, h2]
def WrAt (f : Fn) (d : D) : Prop := ∀ g : G, FnEv f [.val d] g fun r g' => g' = g ∧ ∃ w : Str, r = .val (.str w) ∧ cp w = wr d
theorem mem_wrs_le {xs : List D} {x : D} (hx : x ∈ xs) : (wr x).length ≤ (wrs xs).length := by
  have key : ∀ {ys : List D}, x ∈ ys → (wr x).length ≤ (wrt ys).length := fun {ys} => by
    induction ys with
    | nil => intro h; cases h
    | cons y ys ih =>
      intro h
      simp only [wrt, List.length_cons, List.length_append]
      rcases List.mem_cons.mp h with rfl | h
      · omega
      · have := ih h; omega
  cases xs with
  | nil => cases hx
  | cons y ys =>
    simp only [wrs, List.length_append]
    rcases List.mem_cons.mp hx with rfl | h
    · omega
    · have := key h; omega
theorem tuptext_ok {ft fw : Fn} {xs : List D} (hl : (wr (.tuple xs)).length ≤ sizeLine) (hx : okAll xs = true) (hw : ∀ x ∈ xs, WrAt fw x) (g : G) :
    FnEv (runD 2 (m_tuple_text ft fw)) [.val (.tuple xs)] g fun r g' => g' = g ∧ ∃ w : Str, r = .val (.str w) ∧ cp w = wr (.tuple xs) := by
  have big : sizeLine = 16777216 := by decide
  have hlen : (wr (.tuple xs)).length = (wrs xs).length + 2 := by simp [wr]
  have h1 := wrs_len hx
  have h2 := wrs_sum (xs := xs)
  rw [fnEv_run]
  unfold m_tuple_text
  simp [startD, Arg.slot]
  refine ⟨by omega, ?_⟩
  obtain ⟨J, hJ⟩ : ∃ J : Nat → List D → G → Prop, J = fun i acc g' => g' = g ∧ Txts (xs.take i) acc := ⟨_, rfl⟩
  refine ev_elems _ J ?_ ?_ ?_
  · rw [hJ]; exact ⟨rfl, trivial⟩
  · intro i d acc g1 hd hj
    rw [hJ] at hj
    obtain ⟨rfl, hj⟩ := hj
    refine ⟨_, rfl, ?_⟩
    simp [wipeρ, Slt.lock]
    refine (hw d (List.mem_of_getElem? hd) g1).mono ?_
    rintro r g2 ⟨rfl, w, rfl, hcw⟩
    simp
    rw [hJ]
    refine ⟨rfl, ?_⟩
    rw [List.take_add_one, hd]
    exact txts_snoc hj hcw
  · intro acc g1 hj
    rw [hJ, List.take_length] at hj
    obtain ⟨rfl, hj⟩ := hj
    obtain ⟨ws, e1, e2, e3⟩ := txts_strs hj
    have hs : (ws.map (·.length)).sum = (xs.map fun x => (wr x).length).sum := by
      have a1 : ws.map (·.length) = (ws.map cp).map List.length := by
        rw [List.map_map]
        exact List.map_congr_left fun w _ => len_cp w
      have a2 : (xs.map fun x => (wr x).length) = (xs.map wr).map List.length := by rw [List.map_map]; rfl
      rw [a1, a2, e3]
    have ej := join_wrs e3
    have elj : (Txt.join " " ws).length = (wrs xs).length := by rw [len_cp]; exact congrArg List.length ej
    have one : (PySem.Str.ofString " ").length = 1 := by decide +kernel
    have one1 : (PySem.Str.ofString "(").length = 1 := by decide +kernel
    have one2 : (PySem.Str.ofString ")").length = 1 := by decide +kernel
    simp [joinV, e1, one, elj, one1, one2, hs, e2, str_append_len]
    refine ⟨by omega, by omega, by omega, gOut_self _, ?_⟩
    rw [cp_app, cp_app, ej]
    have c1 : cp (PySem.Str.ofString "(") = [40] := by decide +kernel
    have c2 : cp (PySem.Str.ofString ")") = [41] := by decide +kernel
    rw [c1, c2]
    simp [wr]
end K85
end

section
set_option Elab.async false
set_option linter.all false
set_option maxRecDepth 100000
set_option maxHeartbeats 4000000
set_option autoImplicit false
namespace K85
open PySem PySem.Spec L2 PD XB Lw PySem.NumText TL
open PyProof.Rows hiding St
theorem cp_int (i : Int) : cp (PySem.Str.ofString (toString i)) = wrI i := by
  cases i with
  | ofNat n =>
    have e : wrI (Int.ofNat n) = numL n := by
      unfold wrI
      rw [if_neg (by simp)]
      rfl
    rw [e]
    exact tl_num n
  | negSucc n =>
    have e : wrI (Int.negSucc n) = 45 :: numL (n + 1) := by
      unfold wrI
      rw [if_pos (by omega)]
      rfl
    rw [e]
    have h1 : toString (Int.negSucc n) = "-" ++ toString (((n + 1 : Nat)) : Int) := rfl
    have h2 := tl_num (n + 1)
    rw [tl_ofString] at h2
    show tl (PySem.Str.ofString (toString (Int.negSucc n))) = _
    rw [h1, tl_ofString, String.toList_append, List.map_append, h2]
    rfl
theorem log_small {n : Nat} (h : n < 10 ^ 9) : n.log2 < 1920 := by
  by_cases h0 : n = 0
  · subst h0; decide
  · exact (Nat.log2_lt h0).mpr (Nat.lt_of_lt_of_le h (Nat.le_trans (by decide : 10 ^ 9 ≤ 2 ^ 30) (Nat.pow_le_pow_right (by decide) (by decide))))
theorem booltext_ok (b : Bool) (g : G) : FnEv f_bool_text [.val (.bool b)] g fun r g' => g' = g ∧ ∃ w : Str, r = .val (.str w) ∧ cp w = wr (.bool b) := by
  unfold f_bool_text
  rw [fnEv_run]
  unfold m_bool_text
  cases b
  · simp [startD, Arg.slot, gOut_self]
    decide +kernel
  · simp [startD, Arg.slot, gOut_self]
    decide +kernel
theorem strtext_ok {z : Str} (hl : z.length + 2 ≤ sizeLine) (g : G) : FnEv f_string_text [.val (.str z)] g fun r g' => g' = g ∧ ∃ w : Str, r = .val (.str w) ∧ cp w = wr (.str z) := by
  have one : (PySem.Str.ofString "'").length = 1 := by decide +kernel
  have c1 : cp (PySem.Str.ofString "'") = [39] := by decide +kernel
  unfold f_string_text
  rw [fnEv_run]
  unfold m_string_text
  simp [startD, Arg.slot, gOut_self, one, str_append_len]
  refine ⟨by omega, by omega, ?_⟩
  rw [cp_app, cp_app, c1]
  simp [wr]
theorem write_ok {ft fw : Fn} {d : D} (hok : ok d = true) (hl : (wr d).length ≤ sizeLine) (ht : ∀ xs, d = .tuple xs → WrAt ft d) : WrAt (runD 1 (m_write_value ft fw)) d := by
  intro g
  have b1 : kit_bool "int" = some false := by decide +kernel
  have b2 : kit_bool "str" = some false := by decide +kernel
  have b3 : kit_bool "tuple" = some false := by decide +kernel
  have b4 : kit_bool "bool" = some true := by decide +kernel
  have i1 : kit_int "int" = some true := by decide +kernel
  have i2 : kit_int "str" = some false := by decide +kernel
  have i3 : kit_int "tuple" = some false := by decide +kernel
  have s2 : kit_str "str" = some true := by decide +kernel
  have s3 : kit_str "tuple" = some false := by decide +kernel
  rw [fnEv_run]
  unfold m_write_value
  refine ev_step fun K n r0 _ _ => ?_
  refine ev_stepI fun K2 t2 f2 => ?_
  cases d with
  | list _ => simp [ok] at hok
  | dict _ => simp [ok] at hok
  | none =>
    simp [startD, Arg.slot, isNW]
    refine t2 _ ?_
    simp
    refine r0 _ _ ?_
    simp [gOut_self]
    decide +kernel
  | bool b =>
    simp [startD, Arg.slot, isNW]
    refine f2 _ ?_
    simp
    refine n _ ?_
    clear n r0 t2 f2
    refine ev_step fun K n r0 _ _ => ?_
    refine ev_stepI fun K2 t2 f2 => ?_
    simp [ev_isi, tyD, b4]
    refine t2 _ ?_
    simp
    refine (booltext_ok b g).mono ?_
    rintro r g1 ⟨rfl, w, rfl, hw⟩
    simp
    refine r0 _ _ ?_
    simp [gOut_self]
    exact hw
  | int i =>
    have hi : i.natAbs < 10 ^ 9 := by simpa [ok] using hok
    have hlog := log_small hi
    simp [startD, Arg.slot, isNW]
    refine f2 _ ?_
    simp
    refine n _ ?_
    clear n r0 t2 f2
    refine ev_step fun K n r0 _ _ => ?_
    refine ev_stepI fun K2 t2 f2 => ?_
    simp [ev_isi, tyD, b1]
    refine f2 _ ?_
    simp
    refine n _ ?_
    clear n r0 t2 f2
    refine ev_step fun K n r0 _ _ => ?_
    refine ev_stepI fun K2 t2 f2 => ?_
    simp [ev_isi, tyD, i1]
    refine t2 _ ?_
    simp [hlog]
    refine r0 _ _ ?_
    simp [gOut_self]
    exact cp_int i
  | str z =>
    have hz : z.length + 2 ≤ sizeLine := by
      have : (wr (.str z)).length = (cp z).length + 2 := by simp [wr]
      have e := len_cp z
      have e' : z.length = (cp z).length := e
      omega
    simp [startD, Arg.slot, isNW]
    refine f2 _ ?_
    simp
    refine n _ ?_
    clear n r0 t2 f2
    refine ev_step fun K n r0 _ _ => ?_
    refine ev_stepI fun K2 t2 f2 => ?_
    simp [ev_isi, tyD, b2]
    refine f2 _ ?_
    simp
    refine n _ ?_
    clear n r0 t2 f2
    refine ev_step fun K n r0 _ _ => ?_
    refine ev_stepI fun K2 t2 f2 => ?_
    simp [ev_isi, tyD, i2]
    refine f2 _ ?_
    simp
    refine n _ ?_
    clear n r0 t2 f2
    refine ev_step fun K n r0 _ _ => ?_
    refine ev_stepI fun K2 t2 f2 => ?_
    simp [ev_isi, tyD, s2]
    refine t2 _ ?_
    simp
    refine (strtext_ok hz g).mono ?_
    rintro r g1 ⟨rfl, w, rfl, hw⟩
    simp
    refine r0 _ _ ?_
    simp [gOut_self]
    exact hw
  | tuple xs =>
    simp [startD, Arg.slot, isNW]
    refine f2 _ ?_
    simp
    refine n _ ?_
    clear n r0 t2 f2
    refine ev_step fun K n r0 _ _ => ?_
    refine ev_stepI fun K2 t2 f2 => ?_
    simp [ev_isi, tyD, b3]
    refine f2 _ ?_
    simp
    refine n _ ?_
    clear n r0 t2 f2
    refine ev_step fun K n r0 _ _ => ?_
    refine ev_stepI fun K2 t2 f2 => ?_
    simp [ev_isi, tyD, i3]
    refine f2 _ ?_
    simp
    refine n _ ?_
    clear n r0 t2 f2
    refine ev_step fun K n r0 _ _ => ?_
    refine ev_stepI fun K2 t2 f2 => ?_
    simp [ev_isi, tyD, s3]
    refine f2 _ ?_
    simp
    refine n _ ?_
    simp
    refine (ht xs rfl g).mono ?_
    rintro r g1 ⟨rfl, w, rfl, hw⟩
    simp [gOut_self]
    exact hw
theorem write_full : ∀ (m : Nat) (d : D), ok d = true → d.depth ≤ m → (wr d).length ≤ sizeLine → ∀ n : Nat, 2 * m + 1 ≤ n → WrAt (r_write_value n) d := by
  intro m
  induction m with
  | zero =>
    intro d hok hd hl n hn
    obtain ⟨n, rfl⟩ : ∃ k, n = k + 1 := ⟨n - 1, by omega⟩
    unfold r_write_value
    refine write_ok hok hl fun xs e => ?_
    subst e
    simp only [PyData.depth] at hd
    omega
  | succ m ih =>
    intro d hok hd hl n hn
    obtain ⟨n, rfl⟩ : ∃ k, n = k + 2 := ⟨n - 2, by omega⟩
    unfold r_write_value
    refine write_ok hok hl fun xs e => ?_
    subst e
    have hok' : okAll xs = true := by simpa [ok] using hok
    simp only [PyData.depth] at hd
    intro g
    unfold r_tuple_text
    refine tuptext_ok hl hok' (fun x hx => ?_) g
    have h1 := depth_mem hx
    have h2 := mem_wrs_le hx
    have h3 : (wr (.tuple xs)).length = (wrs xs).length + 2 := by simp [wr]
    exact ih x (okAll_iff.mp hok' x hx) (by omega) (by omega) n (by omega)
end K85
end

section
set_option Elab.async false
set_option linter.all false
set_option maxRecDepth 100000
set_option maxHeartbeats 4000000
set_option autoImplicit false
namespace K85
open PySem PySem.Spec L2 PD XB Lw PySem.NumText TL
open PyProof.Rows hiding St
theorem isint_ok (i : Int) (g : G) : FnEv f__law_is_int [.val (.int i)] g fun r g' => g' = g ∧ r = .val (.bool true) := by
  have k1 : kit_int "int" = some true := by decide +kernel
  have k2 : kit_bool "int" = some false := by decide +kernel
  unfold f__law_is_int
  rw [fnEv_run]
  unfold m__law_is_int
  simp [startD, Arg.slot, ev_isi, tyD, k1, k2, gOut_self]
def SameAt (f : Fn) (d : D) : Prop := ∀ g : G, FnEv f [.val d, .val d] g fun r g' => g' = g ∧ r = .val (.bool true)
theorem same_ok {fs : Fn} {d : D} (hok : ok d = true) (hl : (wr d).length ≤ sizeLine) (ht : ∀ xs, d = .tuple xs → ∀ x ∈ xs, SameAt fs x) : SameAt (runD 3 (m__law_same fs)) d := by
  intro g
  have t1 : kit_tuple "int" = some false := by decide +kernel
  have t2' : kit_tuple "str" = some false := by decide +kernel
  have t3 : kit_tuple "tuple" = some true := by decide +kernel
  have s1 : kit_str "int" = some false := by decide +kernel
  have s2 : kit_str "str" = some true := by decide +kernel
  rw [fnEv_run]
  unfold m__law_same
  refine ev_step fun K n r0 _ _ => ?_
  refine ev_stepI fun K2 t2 f2 => ?_
  cases d with
  | list _ => simp [ok] at hok
  | dict _ => simp [ok] at hok
  | none =>
    simp [startD, Arg.slot, isNW]
    refine t2 _ ?_
    simp [isNW]
    refine r0 _ _ ?_
    simp [gOut_self]
  | bool b =>
    simp [startD, Arg.slot, isNW]
    refine f2 _ ?_
    simp
    refine n _ ?_
    clear n r0 t2 f2
    refine ev_step fun K n r0 _ _ => ?_
    refine ev_stepI fun K2 t2 f2 => ?_
    cases b
    · simp [isV, isD, isBW]
      refine f2 _ ?_
      simp
      refine n _ ?_
      clear n r0 t2 f2
      refine ev_step fun K n r0 _ _ => ?_
      refine ev_stepI fun K2 t2 f2 => ?_
      simp [isV, isD, isBW]
      refine t2 _ ?_
      simp [isV, isD, isBW]
      refine r0 _ _ ?_
      simp [gOut_self]
    · simp [isV, isD, isBW]
      refine t2 _ ?_
      simp [isV, isD, isBW]
      refine r0 _ _ ?_
      simp [gOut_self]
  | int i =>
    simp [startD, Arg.slot, isNW]
    refine f2 _ ?_
    simp
    refine n _ ?_
    clear n r0 t2 f2
    refine ev_step fun K n r0 _ _ => ?_
    refine ev_stepI fun K2 t2 f2 => ?_
    simp [isV, isD, isBW]
    refine f2 _ ?_
    simp
    refine n _ ?_
    clear n r0 t2 f2
    refine ev_step fun K n r0 _ _ => ?_
    refine ev_stepI fun K2 t2 f2 => ?_
    simp [isV, isD, isBW]
    refine f2 _ ?_
    simp
    refine n _ ?_
    clear n r0 t2 f2
    refine ev_step fun K n r0 _ _ => ?_
    refine ev_stepI fun K2 t2 f2 => ?_
    simp [ev_isi, tyD, t1]
    refine f2 _ ?_
    simp
    refine n _ ?_
    clear n r0 t2 f2
    refine ev_step fun K n r0 _ _ => ?_
    refine ev_stepI fun K2 t2 f2 => ?_
    simp [ev_isi, tyD, s1]
    refine f2 _ ?_
    simp
    refine n _ ?_
    simp
    refine (isint_ok i g).mono ?_
    rintro r g1 ⟨rfl, rfl⟩
    simp [PyData.depth, PyData.eqv, gOut_self]
  | str z =>
    simp [startD, Arg.slot, isNW]
    refine f2 _ ?_
    simp
    refine n _ ?_
    clear n r0 t2 f2
    refine ev_step fun K n r0 _ _ => ?_
    refine ev_stepI fun K2 t2 f2 => ?_
    simp [isV, isD, isBW]
    refine f2 _ ?_
    simp
    refine n _ ?_
    clear n r0 t2 f2
    refine ev_step fun K n r0 _ _ => ?_
    refine ev_stepI fun K2 t2 f2 => ?_
    simp [isV, isD, isBW]
    refine f2 _ ?_
    simp
    refine n _ ?_
    clear n r0 t2 f2
    refine ev_step fun K n r0 _ _ => ?_
    refine ev_stepI fun K2 t2 f2 => ?_
    simp [ev_isi, tyD, t2']
    refine f2 _ ?_
    simp
    refine n _ ?_
    clear n r0 t2 f2
    refine ev_step fun K n r0 _ _ => ?_
    refine ev_stepI fun K2 t2 f2 => ?_
    simp [ev_isi, tyD, s2]
    refine t2 _ ?_
    have e : (z == z) = true := beq_iff_eq.mpr rfl
    simp [ev_isi, tyD, s2, PyData.depth, PyData.eqv, e]
    refine r0 _ _ ?_
    simp [gOut_self]
  | tuple xs =>
    have hok' : okAll xs = true := by simpa [ok] using hok
    have h1 := wrs_len hok'
    have h3 : (wr (.tuple xs)).length = (wrs xs).length + 2 := by simp [wr]
    have big : sizeLine = 16777216 := by decide
    simp [startD, Arg.slot, isNW]
    refine f2 _ ?_
    simp
    refine n _ ?_
    clear n r0 t2 f2
    refine ev_step fun K n r0 _ _ => ?_
    refine ev_stepI fun K2 t2 f2 => ?_
    simp [isV, isD, isBW]
    refine f2 _ ?_
    simp
    refine n _ ?_
    clear n r0 t2 f2
    refine ev_step fun K n r0 _ _ => ?_
    refine ev_stepI fun K2 t2 f2 => ?_
    simp [isV, isD, isBW]
    refine f2 _ ?_
    simp
    refine n _ ?_
    clear n r0 t2 f2
    refine ev_step fun K n r0 _ _ => ?_
    refine ev_stepI fun K2 t2 f2 => ?_
    simp [ev_isi, tyD, t3]
    refine t2 _ ?_
    refine ev_step fun K3 n3 r3 _ _ => ?_
    refine ev_stepI fun K4 t4 f4 => ?_
    have e : ((xs.length : Int) == (xs.length : Int)) = true := beq_iff_eq.mpr rfl
    simp [ev_isi, tyD, t3, PyData.depth, PyData.eqv]
    refine f4 _ ?_
    simp
    refine n3 _ ?_
    simp
    refine ⟨by omega, by rw [rngD_len]; omega, ?_⟩
    obtain ⟨J, hJ⟩ : ∃ J : Nat → List D → G → Prop, J = fun i acc g' => g' = g ∧ acc = List.replicate i (.bool true) := ⟨_, rfl⟩
    refine ev_elems _ J ?_ ?_ ?_
    · rw [hJ]; exact ⟨rfl, rfl⟩
    · intro i d acc g1 hd hj
      rw [hJ] at hj
      obtain ⟨rfl, rfl⟩ := hj
      obtain ⟨rfl, hi⟩ := rngD_at hd
      have hi' : i < xs.length := by omega
      obtain ⟨x, hx⟩ : ∃ x, xs[i]? = some x := ⟨_, List.getElem?_eq_getElem hi'⟩
      have ha : atI xs (i : Int) = some x := L2.atI_nat hx
      refine ⟨_, rfl, ?_⟩
      rw [Int.zero_add]
      simp [wipeρ, Slt.lock, ha]
      refine (ht xs rfl x (List.mem_of_getElem? hx) g1).mono ?_
      rintro r g2 ⟨rfl, rfl⟩
      simp [hJ]
      exact (List.replicate_succ' ..).symm
    · intro acc g1 hj
      rw [hJ] at hj
      obtain ⟨rfl, rfl⟩ := hj
      simp [all_true]
      refine r0 _ _ ?_
      simp [gOut_self]
theorem same_full : ∀ (m : Nat) (d : D), ok d = true → d.depth ≤ m → (wr d).length ≤ sizeLine → ∀ n : Nat, m + 1 ≤ n → SameAt (r__law_same n) d := by
  intro m
  induction m with
  | zero =>
    intro d hok hd hl n hn
    obtain ⟨n, rfl⟩ : ∃ k, n = k + 1 := ⟨n - 1, by omega⟩
    unfold r__law_same
    refine same_ok hok hl fun xs e => ?_
    subst e
    simp only [PyData.depth] at hd
    omega
  | succ m ih =>
    intro d hok hd hl n hn
    obtain ⟨n, rfl⟩ : ∃ k, n = k + 1 := ⟨n - 1, by omega⟩
    unfold r__law_same
    refine same_ok hok hl fun xs e x hx => ?_
    subst e
    have hok' : okAll xs = true := by simpa [ok] using hok
    simp only [PyData.depth] at hd
    have h1 := depth_mem hx
    have h2 := mem_wrs_le hx
    have h3 : (wr (.tuple xs)).length = (wrs xs).length + 2 := by simp [wr]
    exact ih x (okAll_iff.mp hok' x hx) (by omega) (by omega) n (by omega)
/-- a value with its text -/
structure Pr (z : Str) (d : D) : Prop where
  ok : ok d = true
  dp : d.depth ≤ 100
  wr : cp z = wr d
  le : z.length ≤ sizeLine
theorem agrees_ok {z : Str} {d : D} (P : Pr z d) (g : G) : FnEv f__law_agrees [.val d, .val (.str z)] g fun r g' => g' = g ∧ r = .val (.bool true) := by
  have hl : (K85.wr d).length ≤ sizeLine := by rw [← P.wr]; have := len_cp z; have := P.le; show (cp z).length ≤ _; exact Nat.le_trans (Nat.le_of_eq (len_cp z).symm) P.le
  have hw := write_full 100 d P.ok P.dp hl 310 (by decide)
  have hs := same_full 100 d P.ok P.dp hl 310 (by decide)
  have s2 : kit_str "str" = some true := by decide +kernel
  have e : (z == z) = true := beq_iff_eq.mpr rfl
  unfold f__law_agrees
  rw [fnEv_run]
  unfold m__law_agrees
  refine ev_step fun K n r0 _ _ => ?_
  simp [startD, Arg.slot]
  refine (hw g).mono ?_
  rintro r g1 ⟨rfl, w, rfl, hcw⟩
  obtain rfl : w = z := str_ext (by
    have h1 := P.wr
    rw [← hcw] at h1
    exact h1.symm)
  simp
  refine n _ ?_
  clear n r0
  refine ev_step fun K n r0 _ _ => ?_
  refine ev_stepI fun K2 t2 f2 => ?_
  simp [ev_isi, tyD, s2, PyData.depth, PyData.eqv, e]
  refine f2 _ ?_
  simp
  refine n _ ?_
  clear n r0 t2 f2
  refine ev_step fun K n r0 _ _ => ?_
  simp
  refine (read_value_ok P.le P.ok P.dp P.wr g1).mono ?_
  rintro r g2 ⟨rfl, rfl⟩
  simp
  refine n _ ?_
  simp
  refine (hs g2).mono ?_
  rintro r g3 ⟨rfl, rfl⟩
  simp
  refine (hw g3).mono ?_
  rintro r g4 ⟨rfl, w', rfl, hcw'⟩
  obtain rfl : w' = w := str_ext (by
    have h1 := P.wr
    rw [← hcw'] at h1
    exact h1.symm)
  simp [PyData.depth, PyData.eqv, e, gOut_self]
end K85
end

section
set_option Elab.async false
set_option linter.all false
set_option maxRecDepth 100000
set_option maxHeartbeats 4000000
set_option autoImplicit false
namespace K85
open PySem PySem.Spec L2 PD XB Lw PySem.NumText TL
open PyProof.Rows hiding St
/-- a pair of a value and its text -/
def PairP (m : Nat) (p : D) : Prop := ∃ (v : D) (z : Str), p = .tuple [v, .str z] ∧ ok v = true ∧ v.depth ≤ m ∧ cp z = wr v
def pl : D → Nat
  | .tuple [_, .str z] => z.length + 3
  | _ => 0
def W (ps : List D) : Nat := (ps.map pl).sum
theorem PairP.up {m k : Nat} {p : D} (h : PairP m p) (hk : m ≤ k) : PairP k p := by
  obtain ⟨v, z, rfl, h1, h2, h3⟩ := h
  exact ⟨v, z, rfl, h1, by omega, h3⟩
theorem PairP.pl3 {m : Nat} {p : D} (h : PairP m p) : 3 ≤ pl p := by
  obtain ⟨v, z, rfl, _⟩ := h
  simp [pl]
theorem w_len {m : Nat} : ∀ {ps : List D}, (∀ p ∈ ps, PairP m p) → 3 * ps.length ≤ W ps
  | [], _ => by simp [W]
  | p :: ps, h => by
    have h1 := (h p List.mem_cons_self).pl3
    have h2 := w_len fun q hq => h q (List.mem_cons_of_mem _ hq)
    simp [W] at h2 ⊢
    omega
theorem w_app (a b : List D) : W (a ++ b) = W a + W b := by simp [W]
def fstD : D → Option D
  | .tuple (w :: _) => some w
  | _ => none
def sndD : D → Option D
  | .tuple [_, t] => some t
  | _ => none
theorem depthAll_le {n : Nat} : ∀ {xs : List D}, (∀ x ∈ xs, x.depth ≤ n) → PyData.depthAll xs ≤ n
  | [], _ => by simp [PyData.depthAll]
  | x :: xs, h => by
    have h1 := h x List.mem_cons_self
    have h2 := depthAll_le fun y hy => h y (List.mem_cons_of_mem _ hy)
    simp only [PyData.depthAll]
    omega
/-- the values and the texts of pairs -/
theorem split_ok {m : Nat} : ∀ {ps : List D}, (∀ p ∈ ps, PairP m p) → ∃ (vs : List D) (ws : List Str), ps.filterMap fstD = vs ∧ ps.filterMap sndD = ws.map .str ∧ PD.strs? (ws.map .str) = some ws ∧ vs.length = ps.length ∧ ws.length = ps.length ∧ (∀ v ∈ vs, ok v = true ∧ v.depth ≤ m) ∧ ws.map cp = vs.map wr ∧ (ws.map (·.length)).sum + 3 * ps.length = W ps
  | [], _ => ⟨[], [], rfl, rfl, rfl, rfl, rfl, fun v hv => (by cases hv), rfl, rfl⟩
  | p :: ps, h => by
    obtain ⟨v, z, rfl, h1, h2, h3⟩ := h p List.mem_cons_self
    obtain ⟨vs, ws, e1, e2, e3, l1, l2, hv, hc, hw⟩ := split_ok fun q hq => h q (List.mem_cons_of_mem _ hq)
    refine ⟨v :: vs, z :: ws, by simp [fstD, e1], by simp [sndD, e2], by simp [PD.strs?, e3], by simp [l1], by simp [l2], fun u hu => ?_, by simp [hc, h3], ?_⟩
    · rcases List.mem_cons.mp hu with rfl | hu
      · exact ⟨h1, h2⟩
      · exact hv u hu
    · simp [W, pl] at hw ⊢
      omega
theorem joined_ok {m : Nat} {a : PD.Arg} {ps : List D} (ra : RowA a ps) (h : ∀ p ∈ ps, PairP m p) (hW : W ps ≤ 10000000) (g : G) :
    FnEv f__law_joined [a] g fun r g' => g' = g ∧ ∃ q, r = .val q ∧ PairP (m + 1) q ∧ pl q ≤ W ps + 5 := by
  have big : sizeLine = 16777216 := by decide
  obtain ⟨vs, ws, e1, e2, e3, l1, l2, hv, hc, hw⟩ := split_ok h
  have hl := w_len h
  have one : (PySem.Str.ofString " ").length = 1 := by decide +kernel
  have one1 : (PySem.Str.ofString "(").length = 1 := by decide +kernel
  have one2 : (PySem.Str.ofString ")").length = 1 := by decide +kernel
  have c1 : cp (PySem.Str.ofString "(") = [40] := by decide +kernel
  have c2 : cp (PySem.Str.ofString ")") = [41] := by decide +kernel
  have ej := join_wrs hc
  have elj : (Txt.join " " ws).length = (wrs vs).length := by rw [len_cp]; exact congrArg List.length ej
  have jl := join_len " " ws
  rw [one] at jl
  have fin : PairP (m + 1) (.tuple [.tuple vs, .str ("(" ++ Txt.join " " ws ++ ")")]) ∧ pl (.tuple [.tuple vs, .str ("(" ++ Txt.join " " ws ++ ")")]) ≤ W ps + 5 := by
    refine ⟨⟨_, _, rfl, ?_, ?_, ?_⟩, ?_⟩
    · rw [ok]
      exact okAll_iff.mpr fun v hv' => (hv v hv').1
    · simp only [PyData.depth]
      have := depthAll_le fun v hv' => (hv v hv').2
      omega
    · rw [cp_app, cp_app, ej, c1, c2]
      simp [wr]
    · simp [pl, str_append_len, one1, one2]
      omega
  unfold f__law_joined
  rw [fnEv_run]
  unfold m__law_joined
  have go1 : ∀ (s : Sg) (Q : List D → Sg → Prop), (∀ d ∈ ps, ∃ ρ', (Tg.nm 1).set d (wipeρ s.ρ [1]) = some ρ' ∧ ρ'[1]? = some (.val d)) → Q vs s → Ev (elemsD [1] (.nm 1) (elem1 (pure true) (PD.bin (op2 ixV) (rdSlot 1) (pure (Op.val (PyData.int 0))))) ps) s Q := by
    intro s Q hs hq
    refine ev_elems_pure _ fstD ?_ (by rw [e1]; exact hq)
    intro d hd
    obtain ⟨ρ', h1, h2⟩ := hs d hd
    refine ⟨ρ', h1, ?_⟩
    obtain ⟨v, z, rfl, _⟩ := h d hd
    simp [h2, fstD]
  have go2 : ∀ (s : Sg) (Q : List D → Sg → Prop), (∀ d ∈ ps, ∃ ρ', (Tg.nm 1).set d (wipeρ s.ρ [1]) = some ρ' ∧ ρ'[1]? = some (.val d)) → Q (ws.map .str) s → Ev (elemsD [1] (.nm 1) (elem1 (pure true) (PD.bin (op2 ixV) (rdSlot 1) (pure (Op.val (PyData.int 1))))) ps) s Q := by
    intro s Q hs hq
    refine ev_elems_pure _ sndD ?_ (by rw [e2]; exact hq)
    intro d hd
    obtain ⟨ρ', h1, h2⟩ := hs d hd
    refine ⟨ρ', h1, ?_⟩
    obtain ⟨v, z, rfl, _⟩ := h d hd
    simp [h2, sndD]
  have two : (2 : Nat) ≤ sizeLine := by decide
  cases ra
  · simp [startD, Arg.slot]
    refine ⟨by omega, go1 _ _ (fun d hd => ⟨_, rfl, rfl⟩) ?_⟩
    simp
    refine ⟨by omega, go2 _ _ (fun d hd => ⟨_, rfl, rfl⟩) ?_⟩
    simp [joinV, e3, one, elj, one1, one2, l2, str_append_len, gOut_self, two]
    exact ⟨by omega, by omega, by omega, fin⟩
  · simp [startD, Arg.slot]
    refine ⟨by omega, go1 _ _ (fun d hd => ⟨_, rfl, rfl⟩) ?_⟩
    simp
    refine ⟨by omega, go2 _ _ (fun d hd => ⟨_, rfl, rfl⟩) ?_⟩
    simp [joinV, e3, one, elj, one1, one2, l2, str_append_len, gOut_self, two]
    exact ⟨by omega, by omega, by omega, fin⟩
  · simp [startD, Arg.slot]
    rw [ev_it_bor (xs := ps) rfl]
    refine ⟨by omega, go1 _ _ (fun d hd => ⟨_, rfl, rfl⟩) ?_⟩
    simp
    rw [ev_it_bor (xs := ps) rfl]
    refine ⟨by omega, go2 _ _ (fun d hd => ⟨_, rfl, rfl⟩) ?_⟩
    simp [joinV, e3, one, elj, one1, one2, l2, str_append_len, gOut_self, two]
    exact ⟨by omega, by omega, by omega, fin⟩
end K85
end

section
set_option Elab.async false
set_option linter.all false
set_option maxRecDepth 100000
set_option maxHeartbeats 4000000
set_option autoImplicit false
namespace K85
open PySem PySem.Spec L2 PD XB Lw PySem.NumText TL
open PyProof.Rows hiding St
/-- texts of one inner sign -/
def InT (d : D) : Prop := ∃ c, d = .str (ch c) ∧ innB c = true
theorem ints_strs : ∀ {xs : List D}, (∀ d ∈ xs, InT d) → ∃ ws : List Str, xs = ws.map .str ∧ PD.strs? (ws.map .str) = some ws ∧ (ws.map (·.length)).sum = ws.length ∧ ∀ w ∈ ws, ∀ c ∈ cp w, innB c = true
  | [], _ => ⟨[], rfl, rfl, rfl, fun w hw => (by cases hw)⟩
  | d :: xs, h => by
    obtain ⟨c, rfl, hc⟩ := h d List.mem_cons_self
    obtain ⟨ws, rfl, e, l, hw⟩ := ints_strs fun d hd => h d (List.mem_cons_of_mem _ hd)
    refine ⟨ch c :: ws, rfl, by simp [PD.strs?, e], ?_, fun w hw' => ?_⟩
    · simp [l]
      show 1 + ws.length = _
      omega
    · rcases List.mem_cons.mp hw' with rfl | hw'
      · intro k hk
        have : k = c := by
          have e1 : cp (ch c) = [c] := rfl
          rw [e1] at hk
          exact List.mem_singleton.mp hk
        subst this
        exact hc
      · exact hw w hw'
theorem join_in : ∀ {ws : List Str}, (∀ w ∈ ws, ∀ c ∈ cp w, innB c = true) → ∀ c ∈ cp (Txt.join "" ws), innB c = true := by
  have key : ∀ ws : List Str, (∀ w ∈ ws, ∀ c ∈ cp w, innB c = true) → ∀ c ∈ cp (PySem.Str.join "" ws), innB c = true := by
    intro ws
    induction ws with
    | nil => intro _ c hc; cases hc
    | cons w ws ih =>
      intro h c hc
      cases ws with
      | nil => exact h w List.mem_cons_self c hc
      | cons w2 ws =>
        have hc' : c ∈ cp (w ++ "" ++ PySem.Str.join "" (w2 :: ws)) := hc
        rw [cp_app, cp_app] at hc'
        have e0 : cp (PySem.Str.ofString "") = [] := by decide +kernel
        rw [e0, List.append_nil] at hc'
        rcases List.mem_append.mp hc' with hc' | hc'
        · exact h w List.mem_cons_self c hc'
        · exact ih (fun w hw => h w (List.mem_cons_of_mem _ hw)) c hc'
  intro ws h c hc
  have e : cp (Txt.join "" ws) = cp (PySem.Str.join "" ws) := by
    show cp (Builtin.Str.glued "" ws) = _
    rw [StrLaws.glued_eq_join]
  rw [e] at hc
  exact key ws h c hc
theorem string_ok {g : G} (h : DSt g) : FnEv f__law_string [.glob] g fun r g' => DSt g' ∧ ∃ (w z : Str), r = .val (.tuple [.str w, .str z]) ∧ (∀ c ∈ cp w, innB c = true) ∧ w.length ≤ 20 ∧ cp z = wr (.str w) := by
  have big : sizeLine = 16777216 := by decide
  have two : (2 : Nat) ≤ sizeLine := by decide
  have hs : (PySem.Str.ofString "abcdefghijklmnopqrstuvwxyzABCDEFGHIJKLMNOPQRSTUVWXYZ0123456789-_ ").length = 65 := by decide +kernel
  have hin : ∀ c ∈ (PySem.Str.ofString "abcdefghijklmnopqrstuvwxyzABCDEFGHIJKLMNOPQRSTUVWXYZ0123456789-_ ").cps.toList, innB c = true := by decide +kernel
  have one : (PySem.Str.ofString "'").length = 1 := by decide +kernel
  have zero : (PySem.Str.ofString "").length = 0 := by decide +kernel
  have c1 : cp (PySem.Str.ofString "'") = [39] := by decide +kernel
  unfold f__law_string
  rw [fnEv_run]
  unfold m__law_string
  obtain ⟨S, hS⟩ : ∃ S, S = PySem.Str.ofString "abcdefghijklmnopqrstuvwxyzABCDEFGHIJKLMNOPQRSTUVWXYZ0123456789-_ " := ⟨_, rfl⟩
  rw [← hS] at hs hin ⊢
  clear hS
  refine ev_step fun K n r0 _ _ => ?_
  simp [startD, Arg.slot]
  refine n _ ?_
  clear n r0
  refine ev_step fun K n r0 _ _ => ?_
  simp
  refine ⟨by omega, ?_⟩
  refine (pick_ok h (.lst _) (by decide) (by decide)).mono ?_
  rintro r g1 ⟨hg1, t, ht, rfl⟩
  have : ∃ k : Int, t = .int k ∧ 0 ≤ k ∧ k ≤ 20 := by
    simp only [List.mem_cons, List.not_mem_nil, or_false] at ht
    rcases ht with rfl | rfl | rfl | rfl | rfl | rfl | rfl <;> exact ⟨_, rfl, by decide, by decide⟩
  obtain ⟨k, rfl, k0, k1⟩ := this
  simp
  refine n _ ?_
  clear n r0
  refine ev_step fun K n r0 _ _ => ?_
  simp
  refine ⟨by omega, by rw [rngD_len]; omega, ?_⟩
  refine ev_elems_draw _ InT hg1 ?_ ?_
  · intro i d g2 hd hg2
    refine ⟨_, rfl, ?_⟩
    simp [wipeρ, Slt.lock, hs, big]
    refine (draw_ok hg2 (by omega) (by omega)).mono ?_
    rintro r g3 ⟨hg3, j, rfl, j0, j1⟩
    simp [hs, big]
    have hlen : S.cps.toList.length = 65 := by rw [Array.length_toList]; exact hs
    have hj : j.toNat < S.cps.toList.length := by omega
    rw [atI_lt j0 (by omega), List.getElem?_eq_getElem hj]
    simp
    exact ⟨⟨_, rfl, hin _ (by simp)⟩, hg3⟩
  · intro acc g2 hg2 hl hacc
    rw [rngD_len] at hl
    obtain ⟨ws, rfl, e, hsum, hw⟩ := ints_strs hacc
    rw [List.length_map] at hl
    simp [joinV, e, hsum, zero]
    refine ⟨by omega, n _ ?_⟩
    have jl := join_len "" ws
    rw [zero, hsum] at jl
    simp [one, str_append_len, gOut_of h, two]
    refine ⟨by omega, by omega, hg2, _, _, ⟨rfl, rfl⟩, join_in hw, by omega, ?_⟩
    rw [cp_app, cp_app, c1]
    simp [wr]
theorem digits_lt : ∀ (cs : List Nat) (a : Nat), AllDigits cs → cs.foldl (fun acc c => acc * 10 + (c - 48)) a < (a + 1) * 10 ^ cs.length
  | [], a, _ => by simp
  | c :: cs, a, h => by
    have hc := h.head
    have := digits_lt cs (a * 10 + (c - 48)) h.tail
    show cs.foldl _ (a * 10 + (c - 48)) < _
    refine Nat.lt_of_lt_of_le this ?_
    rw [List.length_cons, Nat.pow_succ, ← Nat.mul_assoc, Nat.mul_assoc, Nat.mul_comm (10 ^ cs.length) 10, ← Nat.mul_assoc]
    exact Nat.mul_le_mul_right _ (by omega)
theorem fig_val {ds : List Nat} (F : Fig ds) : digitsVal ds < 10 ^ 9 ∧ numL (digitsVal ds) = ds := by
  constructor
  · have h := digits_lt ds 0 F.dg
    rw [Nat.zero_add, Nat.one_mul] at h
    exact Nat.lt_of_lt_of_le h (Nat.pow_le_pow_right (by decide) F.le)
  · have hne := F.ne
    have hl : ds.length = (ds.length - 1) + 1 := by
      cases ds with
      | nil => exact absurd rfl hne
      | cons a b => simp
    have h := toDigits_digitsVal (ds.length - 1) ds hl F.dg (by
      rcases F.hd with rfl | hh
      · exact .inl rfl
      · exact .inr hh)
    unfold numL
    rw [h, List.map_map]
    have : ∀ c ∈ ds, (Char.toNat ∘ Char.ofNat) c = c := fun c hc => by
      have hd := F.dg c hc
      show (Char.ofNat c).toNat = c
      have : ∀ k : Nat, k < 10 → (Char.ofNat (48 + k)).toNat = 48 + k := by decide
      have h2 := this (c - 48) (by omega)
      rwa [show 48 + (c - 48) = c by omega] at h2
    exact (List.map_congr_left this).trans (List.map_id _)
theorem intText_fig {z : Str} (F : Fig (cp z)) : PySem.intText? z = some ((digitsVal (cp z) : Nat) : Int) := by
  have h := F.le
  have e := len_cp z
  exact intText_digits F.dg F.ne (by rw [e]; show (cp z).length ≤ _; omega)
theorem pair_num {z : Str} (F : Fig (cp z)) : PairP 0 (.tuple [.int (digitsVal (cp z) : Nat), .str z]) := by
  obtain ⟨h1, h2⟩ := fig_val F
  refine ⟨_, _, rfl, ?_, by simp [PyData.depth], ?_⟩
  · simp only [ok]
    exact decide_eq_true h1
  · simp only [wr, wrI]
    rw [if_neg (by omega)]
    exact h2.symm
theorem pair_neg {z : Str} (F : Fig (cp z)) (h0 : cp z ≠ [48]) : PairP 0 (.tuple [.int (-(digitsVal (cp z) : Nat)), .str ("-" ++ z)]) := by
  obtain ⟨h1, h2⟩ := fig_val F
  have c1 : cp (PySem.Str.ofString "-") = [45] := by decide +kernel
  have hp : digitsVal (cp z) ≠ 0 := fun e => by
    rw [e] at h2
    exact h0 (h2.symm.trans (numL_lt (by decide)))
  refine ⟨_, _, rfl, ?_, by simp [PyData.depth], ?_⟩
  · simp only [ok]
    exact decide_eq_true (by omega)
  · simp only [wr, wrI]
    rw [if_pos (by omega), cp_app, c1]
    have : (-((digitsVal (cp z) : Nat) : Int)).natAbs = digitsVal (cp z) := by omega
    rw [this, h2]
    rfl
theorem number_ok {g : G} (h : DSt g) : FnEv f__law_number [.glob] g fun r g' => DSt g' ∧ ∃ q, r = .val q ∧ PairP 0 q ∧ pl q ≤ 25 := by
  have big : sizeLine = 16777216 := by decide
  have two : (2 : Nat) ≤ sizeLine := by decide
  have one1 : (PySem.Str.ofString "-").length = 1 := by decide +kernel
  have e48 : PySem.Str.ofString "0" = ch 48 := by decide +kernel
  unfold f__law_number
  rw [fnEv_run]
  unfold m__law_number
  refine ev_step fun K n r0 _ _ => ?_
  simp [startD, Arg.slot]
  refine ⟨by omega, ?_⟩
  refine (pick_ok h (.lst _) (by decide) (by decide)).mono ?_
  rintro r g1 ⟨hg1, t, ht, rfl⟩
  have : ∃ z : Str, t = .str z ∧ Fig (cp z) := by
    simp only [List.mem_cons, List.not_mem_nil, or_false] at ht
    have mk : ∀ (z : Str) (ds : List Nat), cp z = ds → (∀ c ∈ ds, 48 ≤ c ∧ c ≤ 57) → ds.length ≤ 9 → (ds = [48] ∨ ∃ c r, ds = c :: r ∧ 49 ≤ c) → Fig (cp z) := fun z ds e a b c => by rw [e]; exact ⟨a, b, c⟩
    rcases ht with rfl | rfl | rfl | rfl
    · exact ⟨_, rfl, mk _ [48] (by decide +kernel) (by decide) (by decide) (.inl rfl)⟩
    · exact ⟨_, rfl, mk _ [57] (by decide +kernel) (by decide) (by decide) (.inr ⟨57, [], rfl, by decide⟩)⟩
    · exact ⟨_, rfl, mk _ [57, 57, 57, 57, 57, 57, 57, 57, 57] (by decide +kernel) (by decide) (by decide) (.inr ⟨57, _, rfl, by decide⟩)⟩
    · exact ⟨_, rfl, mk _ [49, 48, 48, 48, 48, 48, 48, 48, 48] (by decide +kernel) (by decide) (by decide) (.inr ⟨49, _, rfl, by decide⟩)⟩
  obtain ⟨z, rfl, F⟩ := this
  simp
  refine n _ ?_
  clear n r0
  refine ev_step fun K n r0 _ _ => ?_
  have rest : ∀ (z : Str) (s2 : Slt) (g2 : G), Fig (cp z) → DSt g2 → K .nx { ρ := [.glob, .val (.str z), s2], g := g2 } := by
    intro z s2 g2 F hg2
    refine n _ ?_
    clear n r0
    have hi := intText_fig F
    have hl : z.length = (cp z).length := len_cp z
    have h9 := F.le
    have hlp : pl (.tuple [.int (digitsVal (cp z) : Nat), .str z]) ≤ 25 := by simp [pl]; omega
    refine ev_step fun K n r0 _ _ => ?_
    refine ev_stepI fun K2 t2 f2 => ?_
    have pos : ∀ g3 : G, DSt g3 → K2 false { ρ := [.glob, .val (.str z), s2], g := g3 } := by
      intro g3 hg3
      refine f2 _ ?_
      simp
      refine n _ ?_
      simp [intV_s, hi, two, gOut_of h]
      exact ⟨by omega, hg3, pair_num F, hlp⟩
    by_cases h0 : z = ch 48
    · have e : (z == ch 48) = true := beq_iff_eq.mpr h0
      simp [PyData.depth, PyData.eqv, e48, e]
      exact pos g2 hg2
    · have e : (z == ch 48) = false := beq_eq_false_iff_ne.mpr h0
      have h0' : cp z ≠ [48] := fun q => h0 (str_ext q)
      simp [PyData.depth, PyData.eqv, e48, e]
      refine (draw_ok hg2 (by decide) (by decide)).mono ?_
      rintro r g3 ⟨hg3, k, rfl, _, _⟩
      simp [PyData.depth, PyData.eqv]
      by_cases e1 : k = 1
      · subst e1
        refine t2 _ ?_
        simp [intV_s, hi, two, one1]
        refine ⟨by omega, by omega, r0 _ _ ?_⟩
        simp [gOut_of h]
        exact ⟨hg3, pair_neg F h0', by simp [pl, str_append_len, one1]; omega⟩
      · rw [show (k == 1) = false from beq_eq_false_iff_ne.mpr e1]
        exact pos g3 hg3
  refine ev_stepI fun K2 t2 f2 => ?_
  simp
  refine (draw_ok hg1 (by decide) (by decide)).mono ?_
  rintro r g2 ⟨hg2, k, rfl, _, _⟩
  simp
  by_cases hk : 0 < k
  · rw [decide_eq_true hk]
    refine t2 _ ?_
    refine ev_step fun K3 n3 _ _ _ => ?_
    have hD : (PySem.Str.ofString "123456789").cps.toList = [49, 50, 51, 52, 53, 54, 55, 56, 57] := by decide +kernel
    have hDl : (PySem.Str.ofString "123456789").length = 9 := by decide +kernel
    have hch : chars (PySem.Str.ofString "123456789") = [49, 50, 51, 52, 53, 54, 55, 56, 57].map fun c => PyData.str (ch c) := by
      unfold chars
      rw [hD]
      rfl
    have hlw : listW [.dat (.str (PySem.Str.ofString "123456789"))] = some (.new (.lst ([49, 50, 51, 52, 53, 54, 55, 56, 57].map fun c => PyData.str (ch c)))) := by
      show (if (PySem.Str.ofString "123456789").length ≤ sizeLine then some (Op.new (.lst (chars (PySem.Str.ofString "123456789")))) else none) = _
      rw [hDl, if_pos (by omega), hch]
    simp only [ev_bind, ev_callM, ev_cons, ev_rdSlot]
    simp [hlw]
    refine (pick_ok hg2 (.lst _) (by decide) (by decide)).mono ?_
    rintro r g3 ⟨hg3, t, ht, rfl⟩
    have : ∃ c, t = .str (ch c) ∧ 49 ≤ c ∧ c ≤ 57 := by
      simp only [List.mem_cons, List.not_mem_nil, or_false] at ht
      rcases ht with rfl | rfl | rfl | rfl | rfl | rfl | rfl | rfl | rfl <;> exact ⟨_, rfl, by decide, by decide⟩
    obtain ⟨c, rfl, hc1, hc2⟩ := this
    simp
    refine n3 _ ?_
    simp
    refine (draw_ok hg3 (by decide) (by decide)).mono ?_
    rintro r g4 ⟨hg4, m, rfl, m0, m1⟩
    simp
    refine ⟨by omega, ?_⟩
    obtain ⟨Inv, hI⟩ : ∃ Inv : Nat → Sg → Prop, Inv = fun i s => ∃ (z : Str) (s2 : Slt) (g' : G), s = { ρ := [.glob, .val (.str z), s2], g := g' } ∧ DSt g' ∧ AllDigits (cp z) ∧ (cp z).length = i + 1 ∧ ∃ l, cp z = c :: l := ⟨_, rfl⟩
    refine ev_forD _ Inv ?_ ?_ ?_
    · rw [hI]
      refine ⟨ch c, _, g4, rfl, hg4, fun k hk => ?_, rfl, [], rfl⟩
      have e1 : cp (ch c) = [c] := rfl
      rw [e1] at hk
      rw [List.mem_singleton.mp hk]
      omega
    · intro i d s hd hs
      rw [hI] at hs
      obtain ⟨z, s2, g5, rfl, hg5, hz1, hz2, l, hz3⟩ := hs
      have hil : i < 9 := by
        have := (List.getElem?_eq_some_iff.mp hd).1
        rw [rngD_len] at this
        omega
      have hzl : z.length = (cp z).length := len_cp z
      refine ⟨_, rfl, ?_⟩
      simp
      refine (draw_ok hg5 (by decide) (by decide)).mono ?_
      rintro r g6 ⟨hg6, j, rfl, j0, j1⟩
      have hjn : j.natAbs < 10 := by omega
      have hlog : j.natAbs.log2 < 1920 := log_small (by omega)
      have hcj : cp (PySem.Str.ofString (toString j)) = [48 + j.natAbs] := by
        rw [cp_int]
        unfold wrI
        rw [if_neg (by omega), numL_lt hjn]
      have hlj : (PySem.Str.ofString (toString j)).length = 1 := by
        have := len_cp (PySem.Str.ofString (toString j))
        rw [this]
        exact congrArg List.length hcj
      have hcj' : cp (PySem.Str.ofString j.repr) = [48 + j.natAbs] := hcj
      have hlj' : (PySem.Str.ofString j.repr).length = 1 := hlj
      simp [hlog, hlj']
      refine ⟨by omega, ?_⟩
      rw [hI]
      refine ⟨_, _, g6, rfl, hg6, fun k hk => ?_, ?_, l ++ [48 + j.natAbs], ?_⟩
      · rw [cp_app, hcj'] at hk
        rcases List.mem_append.mp hk with hk | hk
        · exact hz1 k hk
        · rw [List.mem_singleton.mp hk]
          omega
      · rw [cp_app, hcj', List.length_append, hz2]
        rfl
      · rw [cp_app, hcj', hz3]
        rfl
    · intro s hs
      rw [hI, rngD_len] at hs
      obtain ⟨z, s2, g5, rfl, hg5, hz1, hz2, l, hz3⟩ := hs
      exact rest z s2 g5 ⟨hz1, by omega, .inr ⟨c, l, hz3, hc1⟩⟩ hg5
  · rw [decide_eq_false hk]
    refine f2 _ ?_
    simp
    exact rest z _ g2 F hg2
end K85
end

section
set_option Elab.async false
set_option linter.all false
set_option maxRecDepth 100000
set_option maxHeartbeats 4000000
set_option autoImplicit false
namespace K85
open PySem PySem.Spec L2 PD XB Lw PySem.NumText TL
open PyProof.Rows hiding St
theorem plain_ok {g : G} (h : DSt g) : FnEv f__law_plain [.glob] g fun r g' => DSt g' ∧ ∃ q, r = .val q ∧ PairP 0 q ∧ pl q ≤ 25 := by
  have big : sizeLine = 16777216 := by decide
  have two : (2 : Nat) ≤ sizeLine := by decide
  unfold f__law_plain
  rw [fnEv_run]
  unfold m__law_plain
  refine ev_step fun K n r0 _ _ => ?_
  simp [startD, Arg.slot]
  refine (draw_ok h (by decide) (by decide)).mono ?_
  rintro r g1 ⟨hg1, m, rfl, m0, m1⟩
  simp
  refine n _ ?_
  clear n r0
  refine ev_step fun K n r0 _ _ => ?_
  refine ev_stepI fun K2 t2 f2 => ?_
  simp [PyData.depth, PyData.eqv]
  by_cases e0 : m = 0
  · subst e0
    refine t2 _ ?_
    simp [two]
    refine r0 _ _ ?_
    simp [gOut_of h]
    refine ⟨hg1, ⟨_, _, rfl, rfl, by simp [PyData.depth], by decide +kernel⟩, ?_⟩
    decide +kernel
  rw [show (m == 0) = false from beq_eq_false_iff_ne.mpr e0]
  refine f2 _ ?_
  simp
  refine n _ ?_
  clear n r0 t2 f2
  refine ev_step fun K n r0 _ _ => ?_
  refine ev_stepI fun K2 t2 f2 => ?_
  simp
  by_cases e1 : m < 3
  · rw [decide_eq_true e1]
    refine t2 _ ?_
    have hm : m = 1 ∨ m = 2 := by omega
    have l1 : Nat.log2 1 < 1920 := by decide +kernel
    have l0 : Nat.log2 0 < 1920 := by decide +kernel
    have p1 : (PySem.Str.ofString "+").length + (PySem.Str.ofString (Int.repr 1)).length ≤ sizeLine := by decide +kernel
    have p0 : (PySem.Str.ofString "+").length + (PySem.Str.ofString (Int.repr 0)).length ≤ sizeLine := by decide +kernel
    rcases hm with rfl | rfl
    · simp [PyData.depth, PyData.eqv, l1, l0, p1, p0, two]
      refine r0 _ _ ?_
      simp [gOut_of h]
      refine ⟨hg1, ⟨_, _, rfl, rfl, by simp [PyData.depth], by decide +kernel⟩, ?_⟩
      decide +kernel
    · simp [PyData.depth, PyData.eqv, l1, l0, p1, p0, two]
      refine r0 _ _ ?_
      simp [gOut_of h]
      refine ⟨hg1, ⟨_, _, rfl, rfl, by simp [PyData.depth], by decide +kernel⟩, ?_⟩
      decide +kernel
  rw [decide_eq_false e1]
  refine f2 _ ?_
  simp
  refine n _ ?_
  simp
  by_cases e2 : m < 5
  · rw [if_pos e2]
    refine (number_ok hg1).mono ?_
    rintro r g2 ⟨hg2, q, rfl, hq, hl⟩
    simp [gOut_of h]
    exact ⟨hg2, hq, hl⟩
  · rw [if_neg e2]
    refine (string_ok hg1).mono ?_
    rintro r g2 ⟨hg2, w, z, rfl, hw, hl, hz⟩
    simp [gOut_of h]
    have h1 : z.length = (cp z).length := len_cp z
    have h2 : w.length = (cp w).length := len_cp w
    have h3 : (cp z).length = (cp w).length + 2 := by rw [hz]; simp [wr]
    refine ⟨hg2, ⟨_, _, rfl, ?_, by simp [PyData.depth], hz⟩, by simp [pl]; omega⟩
    simp only [ok]
    exact List.all_eq_true.mpr hw
theorem w_le {ps : List D} (k : Nat) : W (ps.take k) + W (ps.drop k) = W ps := by
  rw [← w_app, List.take_append_drop]
theorem value_ok {g : G} (h : DSt g) : FnEv f__law_value [.glob] g fun r g' => DSt g' ∧ ∃ q, r = .val q ∧ PairP 10 q ∧ pl q ≤ 300 := by
  have big : sizeLine = 16777216 := by decide
  unfold f__law_value
  rw [fnEv_run]
  unfold m__law_value
  refine ev_step fun K n r0 _ _ => ?_
  simp [startD, Arg.slot]
  refine n _ ?_
  clear n r0
  refine ev_step fun K n r0 _ _ => ?_
  simp
  refine (draw_ok h (by decide) (by decide)).mono ?_
  rintro r g1 ⟨hg1, m, rfl, m0, m1⟩
  simp
  refine ⟨by omega, ?_⟩
  obtain ⟨Inv, hI⟩ : ∃ Inv : Nat → Sg → Prop, Inv = fun i s => ∃ (ps : List D) (a b : Slt) (g' : G), s = { ρ := [.glob, .own false (.lst ps), a, b], g := g' } ∧ DSt g' ∧ (∀ p ∈ ps, PairP i p) ∧ W ps ≤ 30 * i ∧ (1 ≤ i → 1 ≤ ps.length) := ⟨_, rfl⟩
  refine ev_forD _ Inv ?_ ?_ ?_
  · rw [hI]
    exact ⟨[], _, _, g1, rfl, hg1, fun p hp => (by cases hp), by simp [W], fun h => absurd h (by decide)⟩
  · intro i d s hd hs
    rw [hI] at hs
    obtain ⟨ps, a, b, g2, rfl, hg2, hps, hW, _⟩ := hs
    have hil : i < 9 := by
      have := (List.getElem?_eq_some_iff.mp hd).1
      rw [rngD_len] at this
      omega
    have hlen := w_len hps
    refine ⟨_, rfl, ?_⟩
    refine ev_step fun K n r0 _ _ => ?_
    simp
    refine (plain_ok hg2).mono ?_
    rintro r g3 ⟨hg3, q, rfl, hq, hql⟩
    simp
    refine ⟨by omega, ?_⟩
    refine n _ ?_
    clear n r0
    have hps' : ∀ p ∈ ps ++ [q], PairP i p := fun p hp => by
      rcases List.mem_append.mp hp with hp | hp
      · exact hps p hp
      · rw [List.mem_singleton.mp hp]; exact hq.up (Nat.zero_le _)
    have hW' : W (ps ++ [q]) ≤ 30 * i + 25 := by
      rw [w_app]
      simp [W] at hW ⊢
      omega
    have hlen' := w_len hps'
    generalize hpp : ps ++ [q] = qs at hps' hW' hlen' ⊢
    have hq1 : 1 ≤ qs.length := by rw [← hpp]; simp
    refine ev_stepI fun K2 t2 f2 => ?_
    simp
    refine (draw_ok hg3 (by decide) (by decide)).mono ?_
    rintro r g4 ⟨hg4, k, rfl, _, _⟩
    simp [PyData.depth, PyData.eqv]
    by_cases e : k = 1
    · subst e
      refine t2 _ ?_
      refine ev_step fun K n r0 _ _ => ?_
      simp
      refine (draw_ok hg4 (by omega) (by omega)).mono ?_
      rintro r g5 ⟨hg5, cut, rfl, c0, c1⟩
      simp
      refine n _ ?_
      have e1 : cutL qs none (some cut) = qs.take cut.toNat := cutL_to c0
      have e2 : cutL qs (some cut) none = qs.drop cut.toNat := cutL_from c0
      have hwd := w_le (ps := qs) cut.toNat
      simp [e1, e2]
      refine (joined_ok (.lst _) (fun p hp => hps' p (List.mem_of_mem_drop hp)) (by omega) g5).mono ?_
      rintro r g6 ⟨rfl, t, rfl, ht, htl⟩
      simp
      refine ⟨by omega, by omega, ?_⟩
      rw [hI]
      refine ⟨_, _, _, g6, rfl, hg5, fun p hp => ?_, ?_, fun _ => by simp⟩
      · rcases List.mem_append.mp hp with hp | hp
        · exact (hps' p (List.mem_of_mem_take hp)).up (by omega)
        · rw [List.mem_singleton.mp hp]; exact ht
      · rw [w_app]
        have : W [t] = pl t := by simp [W]
        omega
    · rw [show (k == 1) = false from beq_eq_false_iff_ne.mpr e]
      refine f2 _ ?_
      simp
      rw [hI]
      exact ⟨qs, _, _, g4, rfl, hg4, fun p hp => (hps' p hp).up (by omega), by omega, fun _ => hq1⟩
  · intro s hs
    rw [hI, rngD_len] at hs
    obtain ⟨ps, a, b, g2, rfl, hg2, hps, hW, h1⟩ := hs
    have hm : (1 + m - 0).toNat ≤ 9 := by omega
    have h1' := h1 (by omega)
    have hlen := w_len hps
    refine n _ ?_
    simp [PyData.depth, PyData.eqv]
    by_cases e : (ps.length : Int) = 1
    · have el : ps.length = 1 := by omega
      obtain ⟨p, rfl⟩ : ∃ p, ps = [p] := by
        cases ps with
        | nil => cases el
        | cons a b => cases b with
          | nil => exact ⟨a, rfl⟩
          | cons _ _ => simp at el
      simp [gOut_of h]
      refine ⟨hg2, (hps p (by simp)).up (by omega), ?_⟩
      have : W [p] = pl p := by simp [W]
      omega
    · have e' : ¬ ps.length = 1 := by omega
      rw [if_neg e]
      refine (joined_ok (.bor _) hps (by omega) g2).mono ?_
      rintro r g3 ⟨rfl, q, rfl, hq, hql⟩
      simp [gOut_of h]
      exact ⟨hg2, hq.up (by omega), by omega⟩
end K85
end

section
set_option Elab.async false
set_option linter.all false
set_option maxRecDepth 100000
set_option maxHeartbeats 4000000
set_option autoImplicit false
namespace K85
open PySem PySem.Spec L2 PD XB Lw PySem.NumText TL
open PyProof.Rows hiding St
/-! how deep a text is -/
def stp (p : Int × Int) (x : Nat) : Int × Int :=
  let c := p.1 + (if x = 40 then 1 else 0) - (if x = 41 then 1 else 0)
  (c, if c > p.2 then c else p.2)
def scan (p : Int × Int) (l : List Nat) : Int × Int := l.foldl stp p
theorem scan_app (p : Int × Int) (a b : List Nat) : scan p (a ++ b) = scan (scan p a) b := List.foldl_append ..
theorem scan_flat : ∀ (l : List Nat) (c f : Int), (∀ x ∈ l, x ≠ 40 ∧ x ≠ 41) → ∃ f', scan (c, f) l = (c, f') ∧ f ≤ f'
  | [], c, f, _ => ⟨f, rfl, Int.le_refl _⟩
  | x :: l, c, f, h => by
    have hx := h x List.mem_cons_self
    obtain ⟨f', e, hf⟩ := scan_flat l c (if c > f then c else f) fun y hy => h y (List.mem_cons_of_mem _ hy)
    refine ⟨f', ?_, ?_⟩
    · show scan (stp (c, f) x) l = _
      have : stp (c, f) x = (c, if c > f then c else f) := by
        unfold stp
        simp [hx.1, hx.2]
      rw [this]
      exact e
    · split at hf <;> omega
theorem inn_flat {z : Str} (h : ∀ c ∈ cp z, innB c = true) : ∀ x ∈ cp z, x ≠ 40 ∧ x ≠ 41 := fun x hx => by
  have := of_decide_eq_true (h x hx)
  omega
theorem num_flat (i : Int) : ∀ x ∈ wrI i, x ≠ 40 ∧ x ≠ 41 := fun x hx => by
  have : x = 45 ∨ x ∈ numL i.natAbs := by
    unfold wrI at hx
    split at hx
    · exact List.mem_cons.mp hx
    · exact .inr hx
  rcases this with rfl | h
  · decide
  · have := numL_digits i.natAbs x h
    omega
mutual
theorem scan_wr : ∀ (d : D) (c f : Int), ok d = true → c ≤ f → ∃ f', scan (c, f) (wr d) = (c, f') ∧ f ≤ f' ∧ c + d.depth ≤ f'
  | .none, c, f, _, h0 => by
    obtain ⟨f', e, hf⟩ := scan_flat [45] c f (by decide)
    exact ⟨f', e, hf, by simp [PyData.depth]; omega⟩
  | .bool b, c, f, _, h0 => by
    obtain ⟨f', e, hf⟩ := scan_flat (wr (.bool b)) c f (by cases b <;> decide)
    exact ⟨f', e, hf, by simp [PyData.depth]; omega⟩
  | .int i, c, f, _, h0 => by
    obtain ⟨f', e, hf⟩ := scan_flat (wr (.int i)) c f (by simp only [wr]; exact num_flat i)
    exact ⟨f', e, hf, by simp [PyData.depth]; omega⟩
  | .str z, c, f, hk, h0 => by
    have hz : ∀ c ∈ cp z, innB c = true := fun c hc => List.all_eq_true.mp (by simpa [ok] using hk) c hc
    obtain ⟨f', e, hf⟩ := scan_flat (wr (.str z)) c f (by
      intro x hx
      simp only [wr, List.mem_cons, List.mem_append, List.not_mem_nil, or_false] at hx
      rcases hx with rfl | hx | rfl
      · decide
      · exact inn_flat hz x hx
      · decide)
    exact ⟨f', e, hf, by simp [PyData.depth]; omega⟩
  | .tuple xs, c, f, hk, h0 => by
    have hk' : okAll xs = true := by simpa [ok] using hk
    have e1 : stp (c, f) 40 = (c + 1, if c + 1 > f then c + 1 else f) := by unfold stp; simp
    have hle : c + 1 ≤ (if c + 1 > f then c + 1 else f) := by split <;> omega
    have hff : f ≤ (if c + 1 > f then c + 1 else f) := by split <;> omega
    obtain ⟨f', e, hf, hd⟩ := scan_wrs xs (c + 1) (if c + 1 > f then c + 1 else f) hk' hle
    refine ⟨f', ?_, by omega, ?_⟩
    · rw [wr]
      show scan (stp (c, f) 40) (wrs xs ++ [41]) = _
      rw [e1, scan_app, e]
      show stp (c + 1, f') 41 = _
      unfold stp
      simp
      omega
    · simp only [PyData.depth]
      omega
  | .list _, _, _, hk, _ => by simp [ok] at hk
  | .dict _, _, _, hk, _ => by simp [ok] at hk
theorem scan_wrs : ∀ (xs : List D) (c f : Int), okAll xs = true → c ≤ f → ∃ f', scan (c, f) (wrs xs) = (c, f') ∧ f ≤ f' ∧ c + PyData.depthAll xs ≤ f'
  | [], c, f, _, h0 => ⟨f, rfl, Int.le_refl _, by simp [PyData.depthAll]; omega⟩
  | x :: xs, c, f, hk, h0 => by
    rw [okAll, Bool.and_eq_true] at hk
    obtain ⟨f1, e1, hf1, hd1⟩ := scan_wr x c f hk.1 h0
    obtain ⟨f2, e2, hf2, hd2⟩ := scan_wrt xs c f1 hk.2 (by omega)
    refine ⟨f2, ?_, by omega, ?_⟩
    · rw [wrs, scan_app, e1, e2]
    · simp only [PyData.depthAll]
      omega
theorem scan_wrt : ∀ (xs : List D) (c f : Int), okAll xs = true → c ≤ f → ∃ f', scan (c, f) (wrt xs) = (c, f') ∧ f ≤ f' ∧ c + PyData.depthAll xs ≤ f'
  | [], c, f, _, h0 => ⟨f, rfl, Int.le_refl _, by simp [PyData.depthAll]; omega⟩
  | x :: xs, c, f, hk, h0 => by
    rw [okAll, Bool.and_eq_true] at hk
    obtain ⟨f0, e0, hf0⟩ := scan_flat [32] c f (by decide)
    obtain ⟨f1, e1, hf1, hd1⟩ := scan_wr x c f0 hk.1 (by omega)
    obtain ⟨f2, e2, hf2, hd2⟩ := scan_wrt xs c f1 hk.2 (by omega)
    refine ⟨f2, ?_, by omega, ?_⟩
    · rw [wrt]
      show scan (c, f) ([32] ++ (wr x ++ wrt xs)) = _
      rw [scan_app, e0, scan_app, e1, e2]
    · simp only [PyData.depthAll]
      omega
end
theorem depth_ok (z : Str) (g : G) : FnEv f__law_depth [.val (.str z)] g fun r g' => g' = g ∧ r = .val (.int (scan (0, 0) (cp z)).2) := by
  have e40 : PySem.Str.ofString "(" = ch 40 := by decide +kernel
  have e41 : PySem.Str.ofString ")" = ch 41 := by decide +kernel
  unfold f__law_depth
  rw [fnEv_run]
  unfold m__law_depth
  refine ev_step fun K n r0 _ _ => ?_
  simp [startD, Arg.slot]
  refine n _ ?_
  clear n r0
  refine ev_step fun K n r0 _ _ => ?_
  simp
  refine n _ ?_
  clear n r0
  refine ev_step fun K n r0 _ _ => ?_
  simp
  obtain ⟨Inv, hI⟩ : ∃ Inv : Nat → Sg → Prop, Inv = fun i s => ∃ (s3 : Slt), s = { ρ := [.val (.str z), .val (.int (scan (0, 0) ((cp z).take i)).1), .val (.int (scan (0, 0) ((cp z).take i)).2), s3], g := g } := ⟨_, rfl⟩
  refine ev_forD _ Inv ?_ ?_ ?_
  · rw [hI]
    exact ⟨_, rfl⟩
  · intro i d s hd hs
    rw [hI] at hs
    obtain ⟨s3, rfl⟩ := hs
    obtain ⟨c, hc, rfl⟩ : ∃ c, (cp z)[i]? = some c ∧ d = .str (ch c) := by
      unfold chars at hd
      rw [List.getElem?_map] at hd
      cases e : (cp z)[i]? with
      | none =>
        have e' : z.cps.toList[i]? = none := e
        rw [e'] at hd
        cases hd
      | some c =>
        have e' : z.cps.toList[i]? = some c := e
        rw [e'] at hd
        cases hd
        exact ⟨c, rfl, rfl⟩
    have et : (cp z).take (i + 1) = (cp z).take i ++ [c] := by
      rw [List.take_add_one, hc]
      rfl
    have es : scan (0, 0) ((cp z).take (i + 1)) = stp (scan (0, 0) ((cp z).take i)) c := by
      rw [et, scan_app]
      rfl
    obtain ⟨⟨a, b⟩, hp⟩ : ∃ p : Int × Int, scan (0, 0) ((cp z).take i) = p := ⟨_, rfl⟩
    rw [hp] at es ⊢
    refine ⟨_, rfl, ?_⟩
    have fin : ∀ (x y : Int), (x, y) = stp (a, b) c → Inv (i + 1) { ρ := [.val (.str z), .val (.int x), .val (.int y), .val (.str (ch c))], g := g } := by
      intro x y h
      rw [hI]
      refine ⟨.val (.str (ch c)), ?_⟩
      rw [es, ← h]
    by_cases h40 : c = 40
    · subst h40
      simp [PyData.depth, PyData.eqv, ch_eq e40, ch_eq e41]
      exact fin _ _ (by unfold stp; simp)
    · by_cases h41 : c = 41
      · subst h41
        simp [PyData.depth, PyData.eqv, ch_eq e40, ch_eq e41]
        exact fin _ _ (by unfold stp; simp; omega)
      · simp [PyData.depth, PyData.eqv, ch_eq e40, ch_eq e41, h40, h41]
        exact fin _ _ (by unfold stp; simp [h40, h41])
  · intro s hs
    have hl : (chars z).length = (cp z).length := by unfold chars; rw [List.length_map]; rfl
    rw [hI, hl, List.take_length] at hs
    obtain ⟨s3, rfl⟩ := hs
    refine n _ ?_
    simp [gOut_self]
end K85
end

section
set_option Elab.async false
set_option linter.all false
set_option maxRecDepth 100000
set_option maxHeartbeats 4000000
set_option autoImplicit false
namespace K85
open PySem PySem.Spec L2 PD XB Lw PySem.NumText TL
open PyProof.Rows hiding St
theorem deep_ok {g : G} (h : DSt g) {q : D} (hq : PairP 10 q) (hl : pl q ≤ 300) : FnEv f__law_deep [.glob, .val q] g fun r g' => DSt g' ∧ ∃ q, r = .val q ∧ PairP 100 q ∧ pl q ≤ 3000 := by
  have big : sizeLine = 16777216 := by decide
  have two : (2 : Nat) ≤ sizeLine := by decide
  obtain ⟨v, z, rfl, hk, hd, hz⟩ := hq
  obtain ⟨f', hsc, hf0, hfd⟩ := scan_wr v 0 0 hk (Int.le_refl _)
  have hdep : (scan (0, 0) (cp z)).2 = f' := by rw [hz, hsc]
  have hv10 : f' ≥ v.depth := by omega
  unfold f__law_deep
  rw [fnEv_run]
  unfold m__law_deep
  refine ev_step fun K n r0 _ _ => ?_
  simp [startD, Arg.slot, two]
  refine ⟨by omega, by omega, ?_⟩
  refine (pick_ok h (.lst _) (by decide) (by decide)).mono ?_
  rintro r g1 ⟨hg1, t, ht, rfl⟩
  have : ∃ ps : List D, t = .list ps ∧ (∀ p ∈ ps, PairP 0 p) ∧ W ps ≤ 9 ∧ ps.length ≤ 2 := by
    have p1 : PairP 0 (.tuple [.int 0, .str (PySem.Str.ofString "0")]) := ⟨_, _, rfl, by decide +kernel, by simp [PyData.depth], by decide +kernel⟩
    have p2 : PairP 0 (.tuple [.none, .str (PySem.Str.ofString "-")]) := ⟨_, _, rfl, rfl, by simp [PyData.depth], by decide +kernel⟩
    have p3 : PairP 0 (.tuple [.str (PySem.Str.ofString ""), .str (PySem.Str.ofString "''")]) := ⟨_, _, rfl, by decide +kernel, by simp [PyData.depth], by decide +kernel⟩
    simp only [List.mem_cons, List.not_mem_nil, or_false] at ht
    rcases ht with rfl | rfl | rfl
    · exact ⟨[], rfl, fun p hp => (by cases hp), by simp [W], by simp⟩
    · exact ⟨_, rfl, fun p hp => (by rw [List.mem_singleton.mp hp]; exact p1), by decide +kernel, by simp⟩
    · refine ⟨_, rfl, fun p hp => ?_, by decide +kernel, by simp⟩
      rcases List.mem_cons.mp hp with rfl | hp
      · exact p2
      · rw [List.mem_singleton.mp hp]; exact p3
  obtain ⟨ps, rfl, hps, hW, hpl⟩ := this
  simp
  refine n _ ?_
  clear n r0
  refine ev_step fun K n r0 _ _ => ?_
  simp
  refine (depth_ok z g1).mono ?_
  rintro r g2 ⟨rfl, rfl⟩
  rw [hdep]
  simp
  have hb : f' ≤ (cp z).length := by
    have key : ∀ (l : List Nat) (c f : Int), f ≤ c + l.length → (scan (c, f) l).2 ≤ c + l.length ∨ True := fun _ _ _ _ => .inr trivial
    clear key
    have key : ∀ (l : List Nat) (c f N : Int), f ≤ N → c + l.length ≤ N → (scan (c, f) l).2 ≤ N := by
      intro l
      induction l with
      | nil => intro c f N hf _; exact hf
      | cons x l ih =>
        intro c f N hf hc
        simp only [List.length_cons] at hc
        show (scan (stp (c, f) x) l).2 ≤ N
        unfold stp
        refine ih _ _ N ?_ ?_
        · dsimp only
          repeat' split
          all_goals omega
        · dsimp only
          repeat' split
          all_goals omega
    have := key (cp z) 0 0 (cp z).length (by omega) (by omega)
    rw [hdep] at this
    exact this
  have hzl : z.length = (cp z).length := len_cp z
  have hl' : z.length ≤ 300 := by simp [pl] at hl; omega
  refine ⟨by omega, ?_⟩
  obtain ⟨Inv, hI⟩ : ∃ Inv : Nat → Sg → Prop, Inv = fun i s => ∃ (q : D) (a : Slt), s = { ρ := [.glob, .val q, .val (.list ps), a], g := g2 } ∧ PairP (v.depth + i) q ∧ pl q ≤ 303 + 14 * i := ⟨_, rfl⟩
  refine ev_forD _ Inv ?_ ?_ ?_
  · rw [hI]
    exact ⟨_, _, rfl, ⟨v, z, rfl, hk, Nat.le_refl _, hz⟩, by simp [pl]; omega⟩
  · intro i d s hd hs
    rw [hI] at hs
    obtain ⟨q, a, rfl, hq, hql⟩ := hs
    have hil : i < 100 := by
      have := (List.getElem?_eq_some_iff.mp hd).1
      rw [rngD_len] at this
      omega
    refine ⟨_, rfl, ?_⟩
    simp
    refine ⟨by omega, by omega, ?_⟩
    have hall : ∀ p ∈ ps ++ [q], PairP (v.depth + i) p := fun p hp => by
      rcases List.mem_append.mp hp with hp | hp
      · exact (hps p hp).up (Nat.zero_le _)
      · rw [List.mem_singleton.mp hp]; exact hq
    have hWq : W (ps ++ [q]) = W ps + pl q := by rw [w_app]; simp [W]
    refine (joined_ok (.lst _) hall (by omega) g2).mono ?_
    rintro r g3 ⟨rfl, t, rfl, ht, htl⟩
    simp
    rw [hI]
    exact ⟨t, _, rfl, ht, by omega⟩
  · intro s hs
    rw [hI, rngD_len] at hs
    obtain ⟨q, a, rfl, hq, hql⟩ := hs
    refine n _ ?_
    simp [gOut_of h]
    refine ⟨hg1, hq.up ?_, by omega⟩
    omega
theorem long_ok {g : G} (h : DSt g) : FnEv f__law_long [.glob] g fun r g' => DSt g' ∧ ∃ q, r = .val q ∧ PairP 100 q ∧ pl q ≤ 1000000 := by
  have big : sizeLine = 16777216 := by decide
  have two : (2 : Nat) ≤ sizeLine := by decide
  have one : (PySem.Str.ofString "'").length = 1 := by decide +kernel
  have onex : (PySem.Str.ofString "x").length = 1 := by decide +kernel
  have cx : cp (PySem.Str.ofString "x") = [120] := by decide +kernel
  have c1 : cp (PySem.Str.ofString "'") = [39] := by decide +kernel
  unfold f__law_long
  rw [fnEv_run]
  unfold m__law_long
  refine ev_step fun K n r0 _ _ => ?_
  refine ev_stepI fun K2 t2 f2 => ?_
  simp [startD, Arg.slot]
  refine (draw_ok h (by decide) (by decide)).mono ?_
  rintro r g1 ⟨hg1, m, rfl, _, _⟩
  simp [PyData.depth, PyData.eqv]
  by_cases e : m = 0
  · subst e
    refine t2 _ ?_
    simp
    refine (plain_ok hg1).mono ?_
    rintro r g2 ⟨hg2, p, rfl, hp, hpl⟩
    simp
    refine (plain_ok hg2).mono ?_
    rintro r g3 ⟨hg3, q, rfl, hq, hql⟩
    have hm : ∀ xs : List D, xs.length = 2 → mulW (.obj (.lst xs)) (.dat (.int 1000)) = some (.new (.lst (List.replicate 1000 xs).flatten)) := fun xs hx => by
      show (if _ then _ else _) = _
      rw [if_pos ⟨by decide, by decide, by rw [hx, big]; decide⟩]
      rfl
    simp [hm, two]
    have hall : ∀ x ∈ (List.replicate 1000 [p, q]).flatten, PairP 0 x := fun x hx => by
      obtain ⟨l, hl, hx⟩ := List.mem_flatten.mp hx
      rw [List.eq_of_mem_replicate hl] at hx
      rcases List.mem_cons.mp hx with rfl | hx
      · exact hp
      · rw [List.mem_singleton.mp hx]; exact hq
    have hW : ∀ n : Nat, W (List.replicate n [p, q]).flatten = n * (pl p + pl q) := fun n => by
      induction n with
      | zero => simp [W]
      | succ n ih =>
        rw [List.replicate_succ, List.flatten_cons, w_app, ih, Nat.succ_mul]
        simp [W]
        omega
    have hw := hW 1000
    refine (joined_ok (.lst _) hall (by omega) g3).mono ?_
    rintro r g4 ⟨rfl, t, rfl, ht, htl⟩
    simp
    refine r0 _ _ ?_
    simp [gOut_of h]
    exact ⟨hg3, ht.up (by decide), by omega⟩
  · rw [show (m == 0) = false from beq_eq_false_iff_ne.mpr e]
    refine f2 _ ?_
    simp
    refine n _ ?_
    clear n r0 t2 f2
    refine ev_step fun K n r0 _ _ => ?_
    simp
    refine ⟨by omega, ?_⟩
    refine (pick_ok hg1 (.lst _) (by decide) (by decide)).mono ?_
    rintro r g2 ⟨hg2, t, ht, rfl⟩
    have : ∃ k : Nat, t = .int k ∧ k ≤ 199998 := by
      simp only [List.mem_cons, List.not_mem_nil, or_false] at ht
      rcases ht with rfl | rfl | rfl
      · exact ⟨498, rfl, by decide⟩
      · exact ⟨3998, rfl, by decide⟩
      · exact ⟨199998, rfl, by decide⟩
    obtain ⟨k, rfl, hk⟩ := this
    simp
    refine n _ ?_
    clear n r0
    refine ev_step fun K n r0 _ _ => ?_
    simp
    refine (string_ok hg2).mono ?_
    rintro r g3 ⟨hg3, w, z, rfl, hw, hwl, hz⟩
    simp [onex]
    refine ⟨by omega, ?_⟩
    refine n _ ?_
    clear n r0
    refine ev_step fun K n r0 _ _ => ?_
    have hP : (w ++ "x").length = w.length + 1 := by rw [str_append_len, onex]
    obtain ⟨P, hPe⟩ : ∃ P, P = w ++ (PySem.Str.ofString "x") := ⟨_, rfl⟩
    have hPl : P.length = w.length + 1 := by rw [hPe]; exact hP
    have hPin : ∀ c ∈ cp P, innB c = true := fun c hc => by
      rw [hPe, cp_app, cx] at hc
      rcases List.mem_append.mp hc with hc | hc
      · exact hw c hc
      · rw [List.mem_singleton.mp hc]; decide
    rw [← hPe]
    obtain ⟨N, hN⟩ : ∃ N : Int, (k : Int) / (P.length : Int) + 1 = N := ⟨_, rfl⟩
    have hN1 : 1 ≤ N ∧ N ≤ 200000 := by
      have h1 : (0 : Int) ≤ (k : Int) / (P.length : Int) := Int.ediv_nonneg (by omega) (by omega)
      have h2 : (k : Int) / (P.length : Int) ≤ k := Int.ediv_le_self _ (by omega)
      omega
    have hmul : P.length * N.toNat ≤ sizeLine := by
      have := Nat.mul_le_mul (show P.length ≤ 21 by omega) (show N.toNat ≤ 200000 by omega)
      omega
    have hm : mulW (.dat (.str P)) (.dat (.int N)) = some (.val (.str (repS N.toNat P))) := by
      show (if _ then _ else _) = _
      rw [if_pos ⟨by omega, by omega, hmul⟩]
    have hrl : (repS N.toNat P).length ≤ sizeLine := by rw [repS_len, Nat.mul_comm]; exact hmul
    have hP0 : (0 : Int) < P.length := by omega
    have hP1 : (P.length : Int) < 1073741824 := by omega
    have hPs : P.length ≤ sizeLine := by omega
    simp [hPs, hP1, hN, hm, hrl, show 0 < P.length by omega]
    refine n _ ?_
    obtain ⟨T, hT⟩ : ∃ T, T = cutS (repS N.toNat P) none (some (k : Int)) := ⟨_, rfl⟩
    rw [← hT]
    have hTc : cp T = (cp (repS N.toNat P)).take k := by
      rw [hT]
      unfold cutS
      rw [HT.sIx_none]
      have : HT.sIx (repS N.toNat P).length (repS N.toNat P).length (some (k : Int)) = min k (repS N.toNat P).length := HT.sIx_nat _ _ k
      rw [this]
      show (((cp (repS N.toNat P)).drop 0).take (min k (repS N.toNat P).length - 0)) = _
      rw [List.drop_zero, Nat.sub_zero]
      by_cases hkl : k ≤ (repS N.toNat P).length
      · rw [Nat.min_eq_left hkl]
      · have hle : (cp (repS N.toNat P)).length = (repS N.toNat P).length := (len_cp _).symm
        rw [Nat.min_eq_right (by omega), List.take_of_length_le (by omega), List.take_of_length_le (by omega)]
    have hTin : ∀ c ∈ cp T, innB c = true := fun c hc => by
      rw [hTc] at hc
      have h1 := List.mem_of_mem_take hc
      have h2 : c ∈ (List.replicate N.toNat (cp P)).flatten := by
        have := repS_cps N.toNat P
        show c ∈ (List.replicate N.toNat P.cps.toList).flatten
        rw [← this]
        exact h1
      obtain ⟨l, hl, hx⟩ := List.mem_flatten.mp h2
      rw [List.eq_of_mem_replicate hl] at hx
      exact hPin c hx
    have hTl : T.length ≤ 199998 := by
      have h1 : T.length = (cp T).length := len_cp T
      rw [h1, hTc, List.length_take]
      omega
    simp [one, str_append_len, two, gOut_of h]
    refine ⟨by omega, by omega, hg3, ⟨_, _, rfl, ?_, by simp [PyData.depth], ?_⟩, ?_⟩
    · simp only [ok]
      exact List.all_eq_true.mpr hTin
    · rw [cp_app, cp_app, c1]
      simp [wr]
    · simp [pl, str_append_len, one]
      omega
end K85
end

section
set_option Elab.async false
set_option linter.all false
set_option maxRecDepth 100000
set_option maxHeartbeats 4000000
set_option autoImplicit false
namespace K85
open PySem PySem.Spec L2 PD XB Lw PySem.NumText TL
open PyProof.Rows hiding St
theorem w_bound {B : Nat} : ∀ {ps : List D}, (∀ p ∈ ps, pl p ≤ B) → W ps ≤ B * ps.length
  | [], _ => by simp [W]
  | p :: ps, h => by
    have h1 := h p List.mem_cons_self
    have h2 := w_bound fun q hq => h q (List.mem_cons_of_mem _ hq)
    simp [W] at h2 ⊢
    rw [Nat.mul_add]
    omega
def Good1 (p : D) : Prop := PairP 100 p ∧ pl p ≤ 1000000
def Good0 (p : D) : Prop := PairP 10 p ∧ pl p ≤ 300
theorem Good0.up {p : D} (h : Good0 p) : Good1 p := ⟨h.1.up (by decide), Nat.le_trans h.2 (by decide)⟩
def smallL : List D := [.tuple [.bool true, .str "+1"], .tuple [.int 1, .str "1"], .tuple [.bool false, .str "+0"], .tuple [.int 0, .str "0"], .tuple [.none, .str "-"], .tuple [.tuple [], .str "()"], .tuple [.str "", .str "''"], .tuple [.str "-", .str "'-'"]]
theorem small_ok : ∀ p ∈ smallL, Good0 p := by
  have mk : ∀ (v : D) (z : Str), ok v = true → v.depth ≤ 10 → cp z = wr v → pl (.tuple [v, .str z]) ≤ 300 → Good0 (.tuple [v, .str z]) := fun v z a b c d => ⟨⟨v, z, rfl, a, b, c⟩, d⟩
  intro p hp
  simp only [smallL, List.mem_cons, List.not_mem_nil, or_false] at hp
  rcases hp with rfl | rfl | rfl | rfl | rfl | rfl | rfl | rfl <;> exact mk _ _ (by decide +kernel) (by decide +kernel) (by decide +kernel) (by decide +kernel)
theorem law_ev (ns : List Int) (hz : ns.length ≤ 63) : Ev m_law (lawStart 8 1 ns) fun r _ => r = .rt (.val (.bool true)) := by
  have h0 : DSt (lawStart 8 1 ns).g := ⟨ns, 0, 0, 7, rfl, by decide⟩
  have es : lawStart 8 1 ns = { ρ := [.no, .glob, .no, .no, .no, .no, .no, .no], g := (lawStart 8 1 ns).g } := rfl
  rw [es]
  generalize (lawStart 8 1 ns).g = g at h0
  have big : sizeLine = 16777216 := by decide
  unfold m_law
  refine ev_step fun K n r0 _ _ => ?_
  simp
  refine ⟨by rw [rngD_len]; decide, ?_⟩
  refine ev_elems_draw _ Good0 h0 ?_ ?_
  · intro i d g1 hd hg1
    refine ⟨_, rfl, ?_⟩
    simp [wipeρ, Slt.lock]
    refine (value_ok hg1).mono ?_
    rintro r g2 ⟨hg2, q, rfl, hq, hl⟩
    simp
    exact ⟨⟨hq, hl⟩, hg2⟩
  intro drawn g1 hg1 hdl hdr
  rw [rngD_len] at hdl
  have hdl : drawn.length = 3 := hdl
  simp
  refine n _ ?_
  clear n r0
  refine ev_step fun K n r0 _ _ => ?_
  simp [big]
  refine n _ ?_
  clear n r0
  have hsm : [PyData.tuple [PyData.bool true, PyData.str (PySem.Str.ofString "+1")], PyData.tuple [PyData.int 1, PyData.str (PySem.Str.ofString "1")], PyData.tuple [PyData.bool false, PyData.str (PySem.Str.ofString "+0")], PyData.tuple [PyData.int 0, PyData.str (PySem.Str.ofString "0")], PyData.tuple [PyData.none, PyData.str (PySem.Str.ofString "-")], PyData.tuple [PyData.tuple [], PyData.str (PySem.Str.ofString "()")], PyData.tuple [PyData.str (PySem.Str.ofString ""), PyData.str (PySem.Str.ofString "''")], PyData.tuple [PyData.str (PySem.Str.ofString "-"), PyData.str (PySem.Str.ofString "'-'")]] = smallL := rfl
  rw [hsm]
  have hsl : smallL.length = 8 := rfl
  have hs4 : cutL smallL none (some 4) = smallL.take 4 := cutL_to (by decide)
  generalize hSM : smallL = small at hsl hs4
  have hsok : ∀ p ∈ small, Good0 p := by rw [← hSM]; exact small_ok
  clear hSM hsm
  refine ev_step fun K n r0 _ _ => ?_
  simp [hs4, hdl, hsl, big]
  have hl0 : (drawn ++ (small ++ small.take 4)).length = 15 := by simp [hdl, hsl]
  refine (shuffled_ok hg1 (.lst _) (by omega)).mono ?_
  rintro r g2 ⟨hg2, line, rfl, hp⟩
  have hll : line.length = 15 := by rw [hp.length_eq]; exact hl0
  have hlo : ∀ p ∈ line, Good0 p := fun p hm => by
    have := hp.mem_iff.mp hm
    simp only [List.mem_append] at this
    rcases this with h | h | h
    · exact hdr p h
    · exact hsok p h
    · exact hsok p (List.mem_of_mem_take h)
  clear hp
  simp
  refine n _ ?_
  clear n r0
  refine ev_step fun K n r0 _ _ => ?_
  have hw := w_bound fun p hm => (hlo p hm).2
  simp
  refine (joined_ok (.bor _) (fun p hm => (hlo p hm).1) (by omega) g2).mono ?_
  rintro r g3 ⟨rfl, q, rfl, hq, hql⟩
  simp [hll, big]
  refine n _ ?_
  clear n r0
  have hl1 : ∀ p ∈ line ++ [q], Good1 p := fun p hm => by
    rcases List.mem_append.mp hm with hm | hm
    · exact (hlo p hm).up
    · rw [List.mem_singleton.mp hm]; exact ⟨hq.up (by decide), by omega⟩
  have hll1 : (line ++ [q]).length = 16 := by simp [hll]
  generalize line ++ [q] = l1 at hl1 hll1
  refine ev_step fun K n r0 _ _ => ?_
  have rest : ∀ (l2 : List D) (g4 : G), (∀ p ∈ l2, Good1 p) → l2.length ≤ 17 → DSt g4 → K .nx { ρ := [.no, .glob, .val (.list drawn), .val (.list small), .own false (.lst l2), .no, .no, .no], g := g4 } := by
    intro l2 g4 h2 hl2 hg4
    refine n _ ?_
    clear n r0
    refine ev_step fun K n r0 _ _ => ?_
    have rest : ∀ (l3 : List D) (g5 : G), (∀ p ∈ l3, Good1 p) → l3.length ≤ 18 → K .nx { ρ := [.no, .glob, .val (.list drawn), .val (.list small), .own false (.lst l3), .no, .no, .no], g := g5 } := by
      intro l3 g5 h3 hl3
      refine n _ ?_
      clear n r0
      refine ev_step fun K n r0 _ _ => ?_
      have e5 : cutL l3 none (some 5) = l3.take 5 := cutL_to (by decide)
      simp [e5]
      refine ⟨by omega, ?_⟩
      have hall : ∀ p ∈ l3 ++ l3.take 5, Good1 p := fun p hm => by
        rcases List.mem_append.mp hm with hm | hm
        · exact h3 p hm
        · exact h3 p (List.mem_of_mem_take hm)
      generalize l3 ++ l3.take 5 = l4 at hall
      obtain ⟨Inv, hI⟩ : ∃ Inv : Nat → Sg → Prop, Inv = fun i s => ∃ a b : Slt, s = { ρ := [.no, .glob, .val (.list drawn), .val (.list small), .own false (.lst l3), a, b, .no], g := g5 } := ⟨_, rfl⟩
      refine ev_forD _ Inv ?_ ?_ ?_
      · rw [hI]
        exact ⟨_, _, rfl⟩
      · intro i d s hd hs
        rw [hI] at hs
        obtain ⟨a, b, rfl⟩ := hs
        obtain ⟨⟨v, z, rfl, hk, hdp, hwz⟩, hpl⟩ := hall d (List.mem_of_getElem? hd)
        have hle : z.length ≤ sizeLine := by simp [pl] at hpl; omega
        refine ⟨_, rfl, ?_⟩
        refine ev_stepI fun K2 t2 f2 => ?_
        simp
        refine (agrees_ok ⟨hk, hdp, hwz, hle⟩ g5).mono ?_
        rintro r g6 ⟨rfl, rfl⟩
        simp
        refine f2 _ ?_
        simp
        rw [hI]
        exact ⟨_, _, rfl⟩
      · intro s hs
        rw [hI] at hs
        obtain ⟨a, b, rfl⟩ := hs
        refine n _ ?_
        simp
    refine ev_stepI fun K2 t2 f2 => ?_
    simp
    refine (rare_ok hg4 (by decide) (by decide)).mono ?_
    rintro r g5 ⟨hg5, b, rfl⟩
    cases b
    · simp
      refine f2 _ ?_
      simp
      exact rest l2 g5 h2 (by omega)
    · simp
      refine t2 _ ?_
      simp
      refine (long_ok hg5).mono ?_
      rintro r g6 ⟨hg6, t, rfl, ht, htl⟩
      simp
      refine ⟨by omega, rest _ g6 (fun p hm => ?_) (by simp; omega)⟩
      rcases List.mem_append.mp hm with hm | hm
      · exact h2 p hm
      · rw [List.mem_singleton.mp hm]; exact ⟨ht, htl⟩
  refine ev_stepI fun K2 t2 f2 => ?_
  simp
  refine (rare_ok hg2 (by decide) (by decide)).mono ?_
  rintro r g4 ⟨hg4, b, rfl⟩
  cases b
  · simp
    refine f2 _ ?_
    simp
    exact rest l1 g4 hl1 (by omega) hg4
  · simp
    refine t2 _ ?_
    simp
    refine (pick_ok hg4 (.lst _) (by omega) (by omega)).mono ?_
    rintro r g5 ⟨hg5, t, ht, rfl⟩
    simp
    refine (deep_ok hg5 (hdr t ht).1 (hdr t ht).2).mono ?_
    rintro r g6 ⟨hg6, u, rfl, hu, hul⟩
    simp
    refine ⟨by omega, rest _ g6 (fun p hm => ?_) (by simp; omega) hg6⟩
    rcases List.mem_append.mp hm with hm | hm
    · exact hl1 p hm
    · rw [List.mem_singleton.mp hm]; exact ⟨hu, by omega⟩
theorem math : ∀ ns : List Int, ns.length ≤ 63 → ∃ s1, m_law (lawStart 8 1 ns) = .ok (.rt (.val (.bool true))) s1 := fun ns hz => by
  obtain ⟨a, s1, e, rfl⟩ := law_ev ns hz
  exact ⟨s1, e⟩
end K85
end

section
set_option Elab.async false
set_option linter.all false
set_option maxRecDepth 100000
set_option maxHeartbeats 4000000
set_option autoImplicit false
namespace K85
open PySem PySem.Spec L2 PD XB Lw
open PyProof.Rows hiding St
def topS (i : Nat) : Stmt := PySem.Challenge.pw_delvewarden_k85_values_there_and_back.main.body.getD i (.Pass ⟨0, 0, 0, 0⟩)
abbrev s_bool_text : Stmt := topS 10
theorem sc_bool_text : FnScope ["value"] ["value"] (defScope s_bool_text) := ⟨rfl, rfl, rfl, by decide +kernel, rfl, by decide +kernel, by decide +kernel⟩
abbrev s_string_text : Stmt := topS 11
theorem sc_string_text : FnScope ["value"] ["value"] (defScope s_string_text) := ⟨rfl, rfl, rfl, by decide +kernel, rfl, by decide +kernel, by decide +kernel⟩
abbrev s_tuple_text : Stmt := topS 12
theorem sc_tuple_text : FnScope ["value", "part"] ["value"] (defScope s_tuple_text) := ⟨rfl, rfl, rfl, by decide +kernel, rfl, by decide +kernel, by decide +kernel⟩
abbrev s_write_value : Stmt := topS 13
theorem sc_write_value : FnScope ["value"] ["value"] (defScope s_write_value) := ⟨rfl, rfl, rfl, by decide +kernel, rfl, by decide +kernel, by decide +kernel⟩
abbrev s_sign_at : Stmt := topS 14
theorem sc_sign_at : FnScope ["text", "at"] ["text", "at"] (defScope s_sign_at) := ⟨rfl, rfl, rfl, by decide +kernel, rfl, by decide +kernel, by decide +kernel⟩
abbrev s_is_figure : Stmt := topS 15
theorem sc_is_figure : FnScope ["sign"] ["sign"] (defScope s_is_figure) := ⟨rfl, rfl, rfl, by decide +kernel, rfl, by decide +kernel, by decide +kernel⟩
abbrev s_is_inner : Stmt := topS 16
theorem sc_is_inner : FnScope ["sign"] ["sign"] (defScope s_is_inner) := ⟨rfl, rfl, rfl, by decide +kernel, rfl, by decide +kernel, by decide +kernel⟩
abbrev s_integer_end : Stmt := topS 17
theorem sc_integer_end : FnScope ["text", "at", "end"] ["text", "at"] (defScope s_integer_end) := ⟨rfl, rfl, rfl, by decide +kernel, rfl, by decide +kernel, by decide +kernel⟩
abbrev s_read_integer : Stmt := topS 18
theorem sc_read_integer : FnScope ["text", "at", "end"] ["text", "at"] (defScope s_read_integer) := ⟨rfl, rfl, rfl, by decide +kernel, rfl, by decide +kernel, by decide +kernel⟩
abbrev s_read_minus : Stmt := topS 19
theorem sc_read_minus : FnScope ["text", "at", "sign", "number", "end"] ["text", "at"] (defScope s_read_minus) := ⟨rfl, rfl, rfl, by decide +kernel, rfl, by decide +kernel, by decide +kernel⟩
abbrev s_read_bool : Stmt := topS 20
theorem sc_read_bool : FnScope ["text", "at", "sign"] ["text", "at"] (defScope s_read_bool) := ⟨rfl, rfl, rfl, by decide +kernel, rfl, by decide +kernel, by decide +kernel⟩
abbrev s_read_string : Stmt := topS 21
theorem sc_read_string : FnScope ["text", "at", "end"] ["text", "at"] (defScope s_read_string) := ⟨rfl, rfl, rfl, by decide +kernel, rfl, by decide +kernel, by decide +kernel⟩
abbrev s_read_parts : Stmt := topS 22
theorem sc_read_parts : FnScope ["text", "at", "depth", "part", "end", "parts"] ["text", "at", "depth"] (defScope s_read_parts) := ⟨rfl, rfl, rfl, by decide +kernel, rfl, by decide +kernel, by decide +kernel⟩
abbrev s_read_tuple : Stmt := topS 23
theorem sc_read_tuple : FnScope ["text", "at", "depth", "parts", "end"] ["text", "at", "depth"] (defScope s_read_tuple) := ⟨rfl, rfl, rfl, by decide +kernel, rfl, by decide +kernel, by decide +kernel⟩
abbrev s_read_at : Stmt := topS 24
theorem sc_read_at : FnScope ["text", "at", "depth", "sign"] ["text", "at", "depth"] (defScope s_read_at) := ⟨rfl, rfl, rfl, by decide +kernel, rfl, by decide +kernel, by decide +kernel⟩
abbrev s_read_value : Stmt := topS 25
theorem sc_read_value : FnScope ["text", "value", "end"] ["text"] (defScope s_read_value) := ⟨rfl, rfl, rfl, by decide +kernel, rfl, by decide +kernel, by decide +kernel⟩
abbrev s__law_begin : Stmt := topS 27
theorem sc__law_begin : FnScope ["script", "cell"] ["script"] (defScope s__law_begin) := ⟨rfl, rfl, rfl, by decide +kernel, rfl, by decide +kernel, by decide +kernel⟩
abbrev s__law_draw : Stmt := topS 28
theorem sc__law_draw : FnScope ["d", "many", "found", "size", "cell"] ["d", "many"] (defScope s__law_draw) := ⟨rfl, rfl, rfl, by decide +kernel, rfl, by decide +kernel, by decide +kernel⟩
abbrev s__law_pick : Stmt := topS 29
theorem sc__law_pick : FnScope ["d", "row"] ["d", "row"] (defScope s__law_pick) := ⟨rfl, rfl, rfl, by decide +kernel, rfl, by decide +kernel, by decide +kernel⟩
abbrev s__law_rare : Stmt := topS 30
theorem sc__law_rare : FnScope ["d", "many"] ["d", "many"] (defScope s__law_rare) := ⟨rfl, rfl, rfl, by decide +kernel, rfl, by decide +kernel, by decide +kernel⟩
abbrev s__law_shuffled : Stmt := topS 31
theorem sc__law_shuffled : FnScope ["d", "row", "left", "found", "k"] ["d", "row"] (defScope s__law_shuffled) := ⟨rfl, rfl, rfl, by decide +kernel, rfl, by decide +kernel, by decide +kernel⟩
abbrev s__law_is_int : Stmt := topS 32
theorem sc__law_is_int : FnScope ["thing"] ["thing"] (defScope s__law_is_int) := ⟨rfl, rfl, rfl, by decide +kernel, rfl, by decide +kernel, by decide +kernel⟩
abbrev s__law_string : Stmt := topS 33
theorem sc__law_string : FnScope ["d", "signs", "size", "found", "k"] ["d"] (defScope s__law_string) := ⟨rfl, rfl, rfl, by decide +kernel, rfl, by decide +kernel, by decide +kernel⟩
abbrev s__law_number : Stmt := topS 34
theorem sc__law_number : FnScope ["d", "figures", "k"] ["d"] (defScope s__law_number) := ⟨rfl, rfl, rfl, by decide +kernel, rfl, by decide +kernel, by decide +kernel⟩
abbrev s__law_plain : Stmt := topS 35
theorem sc__law_plain : FnScope ["d", "mode"] ["d"] (defScope s__law_plain) := ⟨rfl, rfl, rfl, by decide +kernel, rfl, by decide +kernel, by decide +kernel⟩
abbrev s__law_joined : Stmt := topS 36
theorem sc__law_joined : FnScope ["pairs", "pair"] ["pairs"] (defScope s__law_joined) := ⟨rfl, rfl, rfl, by decide +kernel, rfl, by decide +kernel, by decide +kernel⟩
abbrev s__law_value : Stmt := topS 37
theorem sc__law_value : FnScope ["d", "pairs", "k", "cut"] ["d"] (defScope s__law_value) := ⟨rfl, rfl, rfl, by decide +kernel, rfl, by decide +kernel, by decide +kernel⟩
abbrev s__law_depth : Stmt := topS 38
theorem sc__law_depth : FnScope ["text", "depth", "found", "sign"] ["text"] (defScope s__law_depth) := ⟨rfl, rfl, rfl, by decide +kernel, rfl, by decide +kernel, by decide +kernel⟩
abbrev s__law_deep : Stmt := topS 39
theorem sc__law_deep : FnScope ["d", "pair", "side", "k"] ["d", "pair"] (defScope s__law_deep) := ⟨rfl, rfl, rfl, by decide +kernel, rfl, by decide +kernel, by decide +kernel⟩
abbrev s__law_long : Stmt := topS 40
theorem sc__law_long : FnScope ["d", "size", "piece", "found"] ["d"] (defScope s__law_long) := ⟨rfl, rfl, rfl, by decide +kernel, rfl, by decide +kernel, by decide +kernel⟩
abbrev s__law_same : Stmt := topS 41
theorem sc__law_same : FnScope ["told", "due", "k"] ["told", "due"] (defScope s__law_same) := ⟨rfl, rfl, rfl, by decide +kernel, rfl, by decide +kernel, by decide +kernel⟩
abbrev s__law_agrees : Stmt := topS 42
theorem sc__law_agrees : FnScope ["value", "text", "told", "back"] ["value", "text"] (defScope s__law_agrees) := ⟨rfl, rfl, rfl, by decide +kernel, rfl, by decide +kernel, by decide +kernel⟩
abbrev s_law : Stmt := topS 43
theorem sc_law : FnScope ["script", "d", "drawn", "small", "line", "value", "text", "k"] ["script"] (defScope s_law) := ⟨rfl, rfl, rfl, by decide +kernel, rfl, by decide +kernel, by decide +kernel⟩
abbrev i_BadValue : Stmt := XA.clsDef (topS 2) 0
structure Zs (P : Program) (K : PySem.W.Frag) (mg : Str → Option Value) (A_WardenError A_BadValue I_BadValue : Addr) : Prop where
  T_BadValue : XA.ClsT P K A_BadValue I_BadValue "bad value" ["at"]
  F_WardenError : XB.ClsF K mg "WardenError" A_WardenError
  F_BadValue : XB.ClsF K mg "BadValue" A_BadValue
  g_FIGURES : XB.GlD K mg "FIGURES" gv_FIGURES
  g_LETTERS : XB.GlD K mg "LETTERS" gv_LETTERS
  g_OTHERS : XB.GlD K mg "OTHERS" gv_OTHERS
  g_QUOTE : XB.GlD K mg "QUOTE" gv_QUOTE
  g_MOST_FIGURES : XB.GlD K mg "MOST_FIGURES" gv_MOST_FIGURES
  g_MOST_DEPTH : XB.GlD K mg "MOST_DEPTH" gv_MOST_DEPTH
  b_abs : mg "abs" = none
  b_all : mg "all" = none
  b_bool : mg "bool" = none
  b_int : mg "int" = none
  b_isinstance : mg "isinstance" = none
  b_len : mg "len" = none
  b_list : mg "list" = none
  b_max : mg "max" = none
  b_range : mg "range" = none
  b_str : mg "str" = none
  b_tuple : mg "tuple" = none
section
variable {P : Program} {w : World} {K : PySem.W.Frag} {mg : Str → Option Value} {base : Heap} {A_WardenError A_BadValue I_BadValue : Addr}
theorem k_bool_text (z : Zs P K mg A_WardenError A_BadValue I_BadValue)  {f : Addr} {fd : FuncData} (F : L2.Fun K "bool_text" "bool_text" s_bool_text f fd) (g : mg "bool_text" = some (.ref f)) : Cal P w K mg base "bool_text" ["value"] 1 f_bool_text := by
  refine cal_mk F g (F.binds fun _ _ _ _ _ _ us hl => match us, hl with | [_], _ => rfl) sc_bool_text rfl (fun cdv A outer s H E B hB hr tk => ?_)
  exact (by
      refine dss_one ?_; exact (ds_ret (de_ifExp (dt_val (de_var 0)) de_str de_str)))
theorem k_string_text (z : Zs P K mg A_WardenError A_BadValue I_BadValue)  {f : Addr} {fd : FuncData} (F : L2.Fun K "string_text" "string_text" s_string_text f fd) (g : mg "string_text" = some (.ref f)) : Cal P w K mg base "string_text" ["value"] 1 f_string_text := by
  refine cal_mk F g (F.binds fun _ _ _ _ _ _ us hl => match us, hl with | [_], _ => rfl) sc_string_text rfl (fun cdv A outer s H E B hB hr tk => ?_)
  exact (by
      refine dss_one ?_; exact (ds_ret (de_bin o_add (de_bin o_add (de_gl z.g_QUOTE rfl) (de_var 0)) (de_gl z.g_QUOTE rfl))))
theorem k_sign_at (z : Zs P K mg A_WardenError A_BadValue I_BadValue)  {f : Addr} {fd : FuncData} (F : L2.Fun K "sign_at" "sign_at" s_sign_at f fd) (g : mg "sign_at" = some (.ref f)) : Cal P w K mg base "sign_at" ["text", "at"] 1 f_sign_at := by
  refine cal_mk F g (F.binds fun _ _ _ _ _ _ us hl => match us, hl with | [_, _], _ => rfl) sc_sign_at rfl (fun cdv A outer s H E B hB hr tk => ?_)
  exact (by
      refine dss_one ?_; exact (ds_ret (de_ifExp (dt_cmp (o_lt (hu_room hr)) (de_var 1) (de_callB c_len rfl z.b_len (by decide +kernel) (da_consN (de_var 0) da_nil)) rfl) (de_ix (hu_room hr) (de_var 0) (de_var 1) (fun _ _ => rfl)) de_str)))
theorem k_is_figure (z : Zs P K mg A_WardenError A_BadValue I_BadValue)  {f : Addr} {fd : FuncData} (F : L2.Fun K "is_figure" "is_figure" s_is_figure f fd) (g : mg "is_figure" = some (.ref f)) : Cal P w K mg base "is_figure" ["sign"] 1 f_is_figure := by
  refine cal_mk F g (F.binds fun _ _ _ _ _ _ us hl => match us, hl with | [_], _ => rfl) sc_is_figure rfl (fun cdv A outer s H E B hB hr tk => ?_)
  exact (by
      refine dss_one ?_; exact (ds_ret (de_and (de_cmp (o_ne (hu_room hr)) (de_var 0) de_str rfl) (de_one (de_cmp (o_in (hu_room hr)) (de_var 0) (de_gl z.g_FIGURES rfl) rfl)))))
theorem k_is_inner (z : Zs P K mg A_WardenError A_BadValue I_BadValue)  {f : Addr} {fd : FuncData} (F : L2.Fun K "is_inner" "is_inner" s_is_inner f fd) (g : mg "is_inner" = some (.ref f)) : Cal P w K mg base "is_inner" ["sign"] 1 f_is_inner := by
  refine cal_mk F g (F.binds fun _ _ _ _ _ _ us hl => match us, hl with | [_], _ => rfl) sc_is_inner rfl (fun cdv A outer s H E B hB hr tk => ?_)
  exact (by
      refine dss_one ?_; exact (ds_ret (de_and (de_cmp (o_ne (hu_room hr)) (de_var 0) de_str rfl) (de_one (de_or (de_cmp (o_in (hu_room hr)) (de_var 0) (de_gl z.g_LETTERS rfl) rfl) (de_or (de_cmp (o_in (hu_room hr)) (de_var 0) (de_gl z.g_FIGURES rfl) rfl) (de_one (de_cmp (o_in (hu_room hr)) (de_var 0) (de_gl z.g_OTHERS rfl) rfl))))))))
theorem k_begin (z : Zs P K mg A_WardenError A_BadValue I_BadValue) {f : Addr} {fd : FuncData} (F : L2.Fun K "_law_begin" "_law_begin" s__law_begin f fd) : FnOk P w K mg base (L2.CX P w) 1 f fd ["script"] (spBegin K) := by
  refine ok_begin F sc__law_begin (fun cdv A outer s H E σ a ns En hσ hl hS q => ?_)
  refine begin_run rfl sc__law_begin.nd ?_ ?_ ?_ ?_ rfl rfl rfl rfl hσ hl hS q
  · exact pv 0
  · exact blkOk_by (by rfl)
  · exact fun _ _ _ _ _ => pg_name (i := 1) sc__law_begin.nd rfl (by first | exact .inl rfl | exact .inr rfl)
  · exact fun _ _ _ _ _ _ => de_callTy c_int rfl z.b_int (by decide +kernel) (da_cons (de_var 1) da_nil)
theorem k__law_draw (z : Zs P K mg A_WardenError A_BadValue I_BadValue)  {f : Addr} {fd : FuncData} (F : L2.Fun K "_law_draw" "_law_draw" s__law_draw f fd) (g : mg "_law_draw" = some (.ref f)) : Cal P w K mg base "_law_draw" ["d", "many"] 1 f__law_draw := by
  refine cal_mk F g (F.binds fun _ _ _ _ _ _ us hl => match us, hl with | [_, _], _ => rfl) sc__law_draw rfl (fun cdv A outer s H E B hB hr tk => ?_)
  exact (by
      refine dss_cons ?_ ?_; exact (ds_if (dt_cmp (o_gt (hu_room hr)) (de_ix (hu_room hr) (de_var 0) de_int (fun _ _ => rfl)) de_int rfl) (by
      refine dss_cons ?_ ?_; exact (ds_setF (i := 2) sc__law_draw.nd rfl (by first | exact .inl rfl | exact .inr rfl) (de_ix (hu_room hr) (de_var 0) de_int (fun _ _ => rfl)))
      refine dss_cons ?_ ?_; exact (ds_iset (j := 0) rfl (de_bin o_fdiv (de_var 2) (de_var 1)) de_int)
      refine dss_one ?_; exact (ds_ret (de_bin o_mod (de_callTy c_int rfl z.b_int (by decide +kernel) (da_consN (de_var 2) da_nil)) (de_var 1)))) dss_nil)
      refine dss_cons ?_ ?_; exact (ds_setF (i := 3) sc__law_draw.nd rfl (by first | exact .inl rfl | exact .inr rfl) de_int)
      refine dss_cons ?_ ?_; exact (ds_if (dt_cmp (o_lt (hu_room hr)) (de_ix (hu_room hr) (de_var 0) de_int (fun _ _ => rfl)) (de_callB c_len rfl z.b_len (by decide +kernel) (da_consN (de_ix (hu_room hr) (de_var 0) de_int (fun _ _ => rfl)) da_nil)) rfl) (by
      refine dss_cons ?_ ?_; exact (ds_setF (i := 4) sc__law_draw.nd rfl (by first | exact .inl rfl | exact .inr rfl) (de_ix (hu_room hr) (de_ix (hu_room hr) (de_var 0) de_int (fun _ _ => rfl)) (de_ix (hu_room hr) (de_var 0) de_int (fun _ _ => rfl)) (fun _ _ => rfl)))
      refine dss_one ?_; exact (ds_setF (i := 3) sc__law_draw.nd rfl (by first | exact .inl rfl | exact .inr rfl) (de_bin o_add (de_bin o_mul de_int (de_callB c_abs rfl z.b_abs (by decide +kernel) (da_consN (de_var 4) da_nil))) (de_callTy c_int rfl z.b_int (by decide +kernel) (da_consN (de_cmp (o_lt (hu_room hr)) (de_var 4) de_int rfl) da_nil))))) dss_nil)
      refine dss_cons ?_ ?_; exact (ds_isAug .add (j := 0) rfl de_int de_int)
      refine dss_cons ?_ ?_; exact (ds_if (dt_cmp (o_ge (hu_room hr)) (de_var 3) (de_bin o_mul de_int (de_bin o_pow de_int de_int)) rfl) (by
      refine dss_cons ?_ ?_; exact (ds_setF (i := 2) sc__law_draw.nd rfl (by first | exact .inl rfl | exact .inr rfl) (de_bin o_mod (de_callTy c_int rfl z.b_int (by decide +kernel) (da_consN (de_bin o_fdiv (de_var 3) de_int) da_nil)) (de_bin o_shl de_int de_int)))
      refine dss_cons ?_ ?_; exact (ds_iset (j := 0) rfl (de_bin o_fdiv (de_var 2) (de_var 1)) de_int)
      refine dss_one ?_; exact (ds_ret (de_bin o_mod (de_callTy c_int rfl z.b_int (by decide +kernel) (da_consN (de_var 2) da_nil)) (de_var 1)))) dss_nil)
      refine dss_cons ?_ ?_; exact (ds_iset (j := 0) rfl (de_bin o_mod (de_callTy c_int rfl z.b_int (by decide +kernel) (da_consN (de_bin o_add (de_bin o_add (de_bin o_add (de_bin o_mul (de_ix (hu_room hr) (de_var 0) de_int (fun _ _ => rfl)) de_int) (de_bin o_mul (de_bin o_mod (de_callTy c_int rfl z.b_int (by decide +kernel) (da_consN (de_var 3) da_nil)) de_int) de_int)) (de_bin o_mul (de_ix (hu_room hr) (de_var 0) de_int (fun _ _ => rfl)) de_int)) de_int) da_nil)) de_int) de_int)
      refine dss_one ?_; exact (ds_ret (de_bin o_mod (de_callTy c_int rfl z.b_int (by decide +kernel) (da_consN (de_bin o_fdiv (de_ix (hu_room hr) (de_var 0) de_int (fun _ _ => rfl)) de_int) da_nil)) (de_var 1))))
theorem k__law_is_int (z : Zs P K mg A_WardenError A_BadValue I_BadValue)  {f : Addr} {fd : FuncData} (F : L2.Fun K "_law_is_int" "_law_is_int" s__law_is_int f fd) (g : mg "_law_is_int" = some (.ref f)) : Cal P w K mg base "_law_is_int" ["thing"] 1 f__law_is_int := by
  refine cal_mk F g (F.binds fun _ _ _ _ _ _ us hl => match us, hl with | [_], _ => rfl) sc__law_is_int rfl (fun cdv A outer s H E B hB hr tk => ?_)
  exact (by
      refine dss_one ?_; exact (ds_ret (de_and (de_isi kit_int hk_int rfl z.b_isinstance (de_var 0) rfl z.b_int (by decide +kernel)) (de_one (de_not (de_isi kit_bool hk_bool rfl z.b_isinstance (de_var 0) rfl z.b_bool (by decide +kernel)))))))
theorem k__law_joined (z : Zs P K mg A_WardenError A_BadValue I_BadValue)  {f : Addr} {fd : FuncData} (F : L2.Fun K "_law_joined" "_law_joined" s__law_joined f fd) (g : mg "_law_joined" = some (.ref f)) : Cal P w K mg base "_law_joined" ["pairs"] 1 f__law_joined := by
  refine cal_mk F g (F.binds fun _ _ _ _ _ _ us hl => match us, hl with | [_], _ => rfl) sc__law_joined rfl (fun cdv A outer s H E B hB hr tk => ?_)
  exact (by
      refine dss_one ?_; exact (ds_ret (de_tup (da_consN (de_callTy c_tuple rfl z.b_tuple (by decide +kernel) (da_consN (de_lc (X := _) (own := [("pair", 1)]) (t := (.nm 1)) (hi := (de_src (de_var 0))) (hv := by decide) (hg := fun _ _ _ _ _ => (pg_name (i := 1) sc__law_joined.nd rfl (by first | exact .inl rfl | exact .inr rfl))) (ht := fun _ _ _ _ _ => dts_nil) (he := fun _ _ _ _ _ => (de_ix (hu_room hr) (de_var 1) de_int (fun _ _ => rfl))) (hc := rfl) (hN := sc__law_joined.nd) (ok := blkOk_by (by rfl))) da_nil)) (da_consN (de_bin o_add (de_bin o_add de_str (de_join de_str (de_lc (X := _) (own := [("pair", 1)]) (t := (.nm 1)) (hi := (de_src (de_var 0))) (hv := by decide) (hg := fun _ _ _ _ _ => (pg_name (i := 1) sc__law_joined.nd rfl (by first | exact .inl rfl | exact .inr rfl))) (ht := fun _ _ _ _ _ => dts_nil) (he := fun _ _ _ _ _ => (de_ix (hu_room hr) (de_var 1) de_int (fun _ _ => rfl))) (hc := rfl) (hN := sc__law_joined.nd) (ok := blkOk_by (by rfl))))) de_str) da_nil)))))
theorem k__law_depth (z : Zs P K mg A_WardenError A_BadValue I_BadValue)  {f : Addr} {fd : FuncData} (F : L2.Fun K "_law_depth" "_law_depth" s__law_depth f fd) (g : mg "_law_depth" = some (.ref f)) : Cal P w K mg base "_law_depth" ["text"] 1 f__law_depth := by
  refine cal_mk F g (F.binds fun _ _ _ _ _ _ us hl => match us, hl with | [_], _ => rfl) sc__law_depth rfl (fun cdv A outer s H E B hB hr tk => ?_)
  exact (by
      refine dss_cons ?_ ?_; exact (ds_setF (i := 1) sc__law_depth.nd rfl (by first | exact .inl rfl | exact .inr rfl) de_int)
      refine dss_cons ?_ ?_; exact (ds_setF (i := 2) sc__law_depth.nd rfl (by first | exact .inl rfl | exact .inr rfl) de_int)
      refine dss_cons ?_ ?_; exact (ds_for (t := (.nm 3)) (passes_of rfl) rfl (de_src (de_var 0)) (pg_name (i := 3) sc__law_depth.nd rfl (by first | exact .inl rfl | exact .inr rfl)) (by
      refine dss_cons ?_ ?_; exact (ds_aug .add (i := 1) sc__law_depth.nd rfl (by first | exact .inl rfl | exact .inr rfl) (de_bin o_sub (de_callTy c_int rfl z.b_int (by decide +kernel) (da_consN (de_cmp (o_eq (hu_room hr)) (de_var 3) de_str rfl) da_nil)) (de_callTy c_int rfl z.b_int (by decide +kernel) (da_consN (de_cmp (o_eq (hu_room hr)) (de_var 3) de_str rfl) da_nil))))
      refine dss_one ?_; exact (ds_setF (i := 2) sc__law_depth.nd rfl (by first | exact .inl rfl | exact .inr rfl) (de_callB (c_max rfl) rfl z.b_max (by decide +kernel) (da_consN (de_var 2) (da_consN (de_var 1) da_nil))))))
      refine dss_one ?_; exact (ds_ret (de_var 2)))
theorem k_integer_end (z : Zs P K mg A_WardenError A_BadValue I_BadValue) (c_sign_at : Cal P w K mg base "sign_at" ["text", "at"] 1 f_sign_at) (c_is_figure : Cal P w K mg base "is_figure" ["sign"] 1 f_is_figure) {f : Addr} {fd : FuncData} (F : L2.Fun K "integer_end" "integer_end" s_integer_end f fd) (g : mg "integer_end" = some (.ref f)) : Cal P w K mg base "integer_end" ["text", "at"] 2 f_integer_end := by
  refine cal_mk F g (F.binds fun _ _ _ _ _ _ us hl => match us, hl with | [_, _], _ => rfl) sc_integer_end rfl (fun cdv A outer s H E B hB hr tk => ?_)
  exact (by
      refine dss_cons ?_ ?_; exact (ds_if (dt_cmp (o_eq (hu_room hr)) (de_callC c_sign_at tk hr (by decide) rfl (da_consN (de_var 0) (da_consN (de_var 1) da_nil)) (len_cons (len_cons len_nil)) rfl) de_str rfl) (by
      refine dss_one ?_; exact (ds_ret (de_bin o_add (de_var 1) de_int))) dss_nil)
      refine dss_cons ?_ ?_; exact (ds_setF (i := 2) sc_integer_end.nd rfl (by first | exact .inl rfl | exact .inr rfl) (de_bin o_add (de_var 1) de_int))
      refine dss_cons ?_ ?_; exact (ds_while (passes_of rfl) (dt_bool (dw_and (dt_cmp (o_lt (hu_room hr)) (de_var 2) (de_bin o_add (de_var 1) (de_gl z.g_MOST_FIGURES rfl)) rfl) (dw_and1 (dt_val (de_callC c_is_figure tk hr (by decide) rfl (da_consN (de_callC c_sign_at tk hr (by decide) rfl (da_consN (de_var 0) (da_consN (de_var 2) da_nil)) (len_cons (len_cons len_nil)) rfl) da_nil) (len_cons len_nil) rfl))))) (by
      refine dss_one ?_; exact (ds_setF (i := 2) sc_integer_end.nd rfl (by first | exact .inl rfl | exact .inr rfl) (de_bin o_add (de_var 2) de_int))))
      refine dss_one ?_; exact (ds_ret (de_var 2)))
theorem k_read_bool (z : Zs P K mg A_WardenError A_BadValue I_BadValue) (c_sign_at : Cal P w K mg base "sign_at" ["text", "at"] 1 f_sign_at) {f : Addr} {fd : FuncData} (F : L2.Fun K "read_bool" "read_bool" s_read_bool f fd) (g : mg "read_bool" = some (.ref f)) : Cal P w K mg base "read_bool" ["text", "at"] 2 f_read_bool := by
  refine cal_mk F g (F.binds fun _ _ _ _ _ _ us hl => match us, hl with | [_, _], _ => rfl) sc_read_bool rfl (fun cdv A outer s H E B hB hr tk => ?_)
  exact (by
      refine dss_cons ?_ ?_; exact (ds_setF (i := 2) sc_read_bool.nd rfl (by first | exact .inl rfl | exact .inr rfl) (de_callC c_sign_at tk hr (by decide) rfl (da_consN (de_var 0) (da_consN (de_bin o_add (de_var 1) de_int) da_nil)) (len_cons (len_cons len_nil)) rfl))
      refine dss_cons ?_ ?_; exact (ds_if (dt_cmp (o_nin (hu_room hr)) (de_var 2) (de_tup (da_consN de_str (da_consN de_str da_nil))) rfl) (by
      refine dss_one ?_; exact (ds_raise rfl tk z.T_BadValue z.F_BadValue.g (by decide) hr rfl (da_consN (de_bin o_add (de_var 1) de_int) da_nil) rfl (len_cons len_nil))) dss_nil)
      refine dss_one ?_; exact (ds_ret (de_tup (da_consN (de_cmp (o_eq (hu_room hr)) (de_var 2) de_str rfl) (da_consN (de_bin o_add (de_var 1) de_int) da_nil)))))
theorem k_read_string (z : Zs P K mg A_WardenError A_BadValue I_BadValue) (c_is_inner : Cal P w K mg base "is_inner" ["sign"] 1 f_is_inner) (c_sign_at : Cal P w K mg base "sign_at" ["text", "at"] 1 f_sign_at) {f : Addr} {fd : FuncData} (F : L2.Fun K "read_string" "read_string" s_read_string f fd) (g : mg "read_string" = some (.ref f)) : Cal P w K mg base "read_string" ["text", "at"] 2 f_read_string := by
  refine cal_mk F g (F.binds fun _ _ _ _ _ _ us hl => match us, hl with | [_, _], _ => rfl) sc_read_string rfl (fun cdv A outer s H E B hB hr tk => ?_)
  exact (by
      refine dss_cons ?_ ?_; exact (ds_setF (i := 2) sc_read_string.nd rfl (by first | exact .inl rfl | exact .inr rfl) (de_bin o_add (de_var 1) de_int))
      refine dss_cons ?_ ?_; exact (ds_while (passes_of rfl) (dt_val (de_callC c_is_inner tk hr (by decide) rfl (da_consN (de_callC c_sign_at tk hr (by decide) rfl (da_consN (de_var 0) (da_consN (de_var 2) da_nil)) (len_cons (len_cons len_nil)) rfl) da_nil) (len_cons len_nil) rfl)) (by
      refine dss_one ?_; exact (ds_setF (i := 2) sc_read_string.nd rfl (by first | exact .inl rfl | exact .inr rfl) (de_bin o_add (de_var 2) de_int))))
      refine dss_cons ?_ ?_; exact (ds_if (dt_cmp (o_ne (hu_room hr)) (de_callC c_sign_at tk hr (by decide) rfl (da_consN (de_var 0) (da_consN (de_var 2) da_nil)) (len_cons (len_cons len_nil)) rfl) (de_gl z.g_QUOTE rfl) rfl) (by
      refine dss_one ?_; exact (ds_raise rfl tk z.T_BadValue z.F_BadValue.g (by decide) hr rfl (da_consN (de_var 2) da_nil) rfl (len_cons len_nil))) dss_nil)
      refine dss_one ?_; exact (ds_ret (de_tup (da_consN (de_slice (de_var 0) (do_some (de_bin o_add (de_var 1) de_int)) (do_some (de_var 2))) (da_consN (de_bin o_add (de_var 2) de_int) da_nil)))))
theorem k__law_pick (z : Zs P K mg A_WardenError A_BadValue I_BadValue) (c__law_draw : Cal P w K mg base "_law_draw" ["d", "many"] 1 f__law_draw) {f : Addr} {fd : FuncData} (F : L2.Fun K "_law_pick" "_law_pick" s__law_pick f fd) (g : mg "_law_pick" = some (.ref f)) : Cal P w K mg base "_law_pick" ["d", "row"] 2 f__law_pick := by
  refine cal_mk F g (F.binds fun _ _ _ _ _ _ us hl => match us, hl with | [_, _], _ => rfl) sc__law_pick rfl (fun cdv A outer s H E B hB hr tk => ?_)
  exact (by
      refine dss_one ?_; exact (ds_ret (de_ix (hu_room hr) (de_var 1) (de_callC c__law_draw tk hr (by decide) rfl (da_consN (de_var 0) (da_consN (de_callB c_len rfl z.b_len (by decide +kernel) (da_consN (de_var 1) da_nil)) da_nil)) (len_cons (len_cons len_nil)) rfl) (fun _ _ => rfl))))
theorem k__law_rare (z : Zs P K mg A_WardenError A_BadValue I_BadValue) (c__law_draw : Cal P w K mg base "_law_draw" ["d", "many"] 1 f__law_draw) {f : Addr} {fd : FuncData} (F : L2.Fun K "_law_rare" "_law_rare" s__law_rare f fd) (g : mg "_law_rare" = some (.ref f)) : Cal P w K mg base "_law_rare" ["d", "many"] 2 f__law_rare := by
  refine cal_mk F g (F.binds fun _ _ _ _ _ _ us hl => match us, hl with | [_, _], _ => rfl) sc__law_rare rfl (fun cdv A outer s H E B hB hr tk => ?_)
  exact (by
      refine dss_one ?_; exact (ds_ret (de_cmp (o_eq (hu_room hr)) (de_callC c__law_draw tk hr (by decide) rfl (da_consN (de_var 0) (da_consN (de_var 1) da_nil)) (len_cons (len_cons len_nil)) rfl) (de_bin o_fdiv (de_var 1) de_int) rfl)))
theorem k__law_shuffled (z : Zs P K mg A_WardenError A_BadValue I_BadValue) (c__law_draw : Cal P w K mg base "_law_draw" ["d", "many"] 1 f__law_draw) {f : Addr} {fd : FuncData} (F : L2.Fun K "_law_shuffled" "_law_shuffled" s__law_shuffled f fd) (g : mg "_law_shuffled" = some (.ref f)) : Cal P w K mg base "_law_shuffled" ["d", "row"] 2 f__law_shuffled := by
  refine cal_mk F g (F.binds fun _ _ _ _ _ _ us hl => match us, hl with | [_, _], _ => rfl) sc__law_shuffled rfl (fun cdv A outer s H E B hB hr tk => ?_)
  exact (by
      refine dss_cons ?_ ?_; exact (ds_setO (i := 2) sc__law_shuffled.nd rfl (by first | exact .inl rfl | exact .inr rfl) (de_callTy c_list rfl z.b_list (by decide +kernel) (da_consN (de_var 1) da_nil)))
      refine dss_cons ?_ ?_; exact (ds_setO (i := 3) sc__law_shuffled.nd rfl (by first | exact .inl rfl | exact .inr rfl) (de_lst da_nil))
      refine dss_cons ?_ ?_; exact (ds_for (t := (.nm 4)) (passes_of rfl) rfl (di_range1 rfl z.b_range (da_consN (de_callB c_len rfl z.b_len (by decide +kernel) (da_consN (de_var 2) da_nil)) da_nil)) (pg_name (i := 4) sc__law_shuffled.nd rfl (by first | exact .inl rfl | exact .inr rfl)) (by
      refine dss_one ?_; exact (ds_expr (de_append (i := 3) rfl (de_pop (i := 2) rfl (de_callC c__law_draw tk hr (by decide) rfl (da_consN (de_var 0) (da_consN (de_callB c_len rfl z.b_len (by decide +kernel) (da_consN (de_var 2) da_nil)) da_nil)) (len_cons (len_cons len_nil)) rfl))))))
      refine dss_one ?_; exact (ds_ret (de_var 3)))
theorem k_read_integer (z : Zs P K mg A_WardenError A_BadValue I_BadValue) (c_integer_end : Cal P w K mg base "integer_end" ["text", "at"] 2 f_integer_end) {f : Addr} {fd : FuncData} (F : L2.Fun K "read_integer" "read_integer" s_read_integer f fd) (g : mg "read_integer" = some (.ref f)) : Cal P w K mg base "read_integer" ["text", "at"] 3 f_read_integer := by
  refine cal_mk F g (F.binds fun _ _ _ _ _ _ us hl => match us, hl with | [_, _], _ => rfl) sc_read_integer rfl (fun cdv A outer s H E B hB hr tk => ?_)
  exact (by
      refine dss_cons ?_ ?_; exact (ds_setF (i := 2) sc_read_integer.nd rfl (by first | exact .inl rfl | exact .inr rfl) (de_callC c_integer_end tk hr (by decide) rfl (da_consN (de_var 0) (da_consN (de_var 1) da_nil)) (len_cons (len_cons len_nil)) rfl))
      refine dss_one ?_; exact (ds_ret (de_tup (da_consN (de_callTy c_int rfl z.b_int (by decide +kernel) (da_consN (de_slice (de_var 0) (do_some (de_var 1)) (do_some (de_var 2))) da_nil)) (da_consN (de_var 2) da_nil)))))
theorem k__law_string (z : Zs P K mg A_WardenError A_BadValue I_BadValue) (c__law_pick : Cal P w K mg base "_law_pick" ["d", "row"] 2 f__law_pick) (c__law_draw : Cal P w K mg base "_law_draw" ["d", "many"] 1 f__law_draw) {f : Addr} {fd : FuncData} (F : L2.Fun K "_law_string" "_law_string" s__law_string f fd) (g : mg "_law_string" = some (.ref f)) : Cal P w K mg base "_law_string" ["d"] 3 f__law_string := by
  refine cal_mk F g (F.binds fun _ _ _ _ _ _ us hl => match us, hl with | [_], _ => rfl) sc__law_string rfl (fun cdv A outer s H E B hB hr tk => ?_)
  exact (by
      refine dss_cons ?_ ?_; exact (ds_setF (i := 1) sc__law_string.nd rfl (by first | exact .inl rfl | exact .inr rfl) de_str)
      refine dss_cons ?_ ?_; exact (ds_setF (i := 2) sc__law_string.nd rfl (by first | exact .inl rfl | exact .inr rfl) (de_callC c__law_pick tk hr (by decide) rfl (da_consN (de_var 0) (da_consN (de_lst (da_consN de_int (da_consN de_int (da_consN de_int (da_consN de_int (da_consN de_int (da_consN de_int (da_consN de_int da_nil)))))))) da_nil)) (len_cons (len_cons len_nil)) rfl))
      refine dss_cons ?_ ?_; exact (ds_setF (i := 3) sc__law_string.nd rfl (by first | exact .inl rfl | exact .inr rfl) (de_join de_str (de_lc (X := _) (own := [("k", 4)]) (t := (.nm 4)) (hi := (di_range1 rfl z.b_range (da_consN (de_var 2) da_nil))) (hv := by decide) (hg := fun _ _ _ _ _ => (pg_name (i := 4) sc__law_string.nd rfl (by first | exact .inl rfl | exact .inr rfl))) (ht := fun _ _ _ _ _ => dts_nil) (he := fun _ _ _ _ _ => (de_ix (hu_room hr) (de_var 1) (de_callC c__law_draw takes0 hr (by decide) rfl (da_consN (de_var 0) (da_consN (de_callB c_len rfl z.b_len (by decide +kernel) (da_consN (de_var 1) da_nil)) da_nil)) (len_cons (len_cons len_nil)) rfl) (fun _ _ => rfl))) (hc := rfl) (hN := sc__law_string.nd) (ok := blkOk_by (by rfl)))))
      refine dss_one ?_; exact (ds_ret (de_tup (da_consN (de_var 3) (da_consN (de_bin o_add (de_bin o_add de_str (de_var 3)) de_str) da_nil)))))
theorem k__law_number (z : Zs P K mg A_WardenError A_BadValue I_BadValue) (c__law_pick : Cal P w K mg base "_law_pick" ["d", "row"] 2 f__law_pick) (c__law_draw : Cal P w K mg base "_law_draw" ["d", "many"] 1 f__law_draw) {f : Addr} {fd : FuncData} (F : L2.Fun K "_law_number" "_law_number" s__law_number f fd) (g : mg "_law_number" = some (.ref f)) : Cal P w K mg base "_law_number" ["d"] 3 f__law_number := by
  refine cal_mk F g (F.binds fun _ _ _ _ _ _ us hl => match us, hl with | [_], _ => rfl) sc__law_number rfl (fun cdv A outer s H E B hB hr tk => ?_)
  exact (by
      refine dss_cons ?_ ?_; exact (ds_setF (i := 1) sc__law_number.nd rfl (by first | exact .inl rfl | exact .inr rfl) (de_callC c__law_pick tk hr (by decide) rfl (da_consN (de_var 0) (da_consN (de_lst (da_consN de_str (da_consN de_str (da_consN de_str (da_consN de_str da_nil))))) da_nil)) (len_cons (len_cons len_nil)) rfl))
      refine dss_cons ?_ ?_; exact (ds_if (dt_cmp (o_gt (hu_room hr)) (de_callC c__law_draw tk hr (by decide) rfl (da_consN (de_var 0) (da_consN de_int da_nil)) (len_cons (len_cons len_nil)) rfl) de_int rfl) (by
      refine dss_cons ?_ ?_; exact (ds_setF (i := 1) sc__law_number.nd rfl (by first | exact .inl rfl | exact .inr rfl) (de_callC c__law_pick tk hr (by decide) rfl (da_consN (de_var 0) (da_consN (de_callTy (c_listW rfl) rfl z.b_list (by decide +kernel) (da_consN de_str da_nil)) da_nil)) (len_cons (len_cons len_nil)) rfl))
      refine dss_one ?_; exact (ds_for (t := (.nm 2)) (passes_of rfl) rfl (di_range1 rfl z.b_range (da_consN (de_callC c__law_draw tk hr (by decide) rfl (da_consN (de_var 0) (da_consN de_int da_nil)) (len_cons (len_cons len_nil)) rfl) da_nil)) (pg_name (i := 2) sc__law_number.nd rfl (by first | exact .inl rfl | exact .inr rfl)) (by
      refine dss_one ?_; exact (ds_setF (i := 1) sc__law_number.nd rfl (by first | exact .inl rfl | exact .inr rfl) (de_bin o_add (de_var 1) (de_callTy c_str rfl z.b_str (by decide +kernel) (da_consN (de_callC c__law_draw tk hr (by decide) rfl (da_consN (de_var 0) (da_consN de_int da_nil)) (len_cons (len_cons len_nil)) rfl) da_nil))))))) dss_nil)
      refine dss_cons ?_ ?_; exact (ds_if (dt_bool (dw_and (dt_cmp (o_ne (hu_room hr)) (de_var 1) de_str rfl) (dw_and1 (dt_cmp (o_eq (hu_room hr)) (de_callC c__law_draw tk hr (by decide) rfl (da_consN (de_var 0) (da_consN de_int da_nil)) (len_cons (len_cons len_nil)) rfl) de_int rfl)))) (by
      refine dss_one ?_; exact (ds_ret (de_tup (da_consN (de_un o_neg (de_callTy c_int rfl z.b_int (by decide +kernel) (da_consN (de_var 1) da_nil))) (da_consN (de_bin o_add de_str (de_var 1)) da_nil))))) dss_nil)
      refine dss_one ?_; exact (ds_ret (de_tup (da_consN (de_callTy c_int rfl z.b_int (by decide +kernel) (da_consN (de_var 1) da_nil)) (da_consN (de_var 1) da_nil)))))
theorem k__law_deep (z : Zs P K mg A_WardenError A_BadValue I_BadValue) (c__law_pick : Cal P w K mg base "_law_pick" ["d", "row"] 2 f__law_pick) (c__law_depth : Cal P w K mg base "_law_depth" ["text"] 1 f__law_depth) (c__law_joined : Cal P w K mg base "_law_joined" ["pairs"] 1 f__law_joined) {f : Addr} {fd : FuncData} (F : L2.Fun K "_law_deep" "_law_deep" s__law_deep f fd) (g : mg "_law_deep" = some (.ref f)) : Cal P w K mg base "_law_deep" ["d", "pair"] 3 f__law_deep := by
  refine cal_mk F g (F.binds fun _ _ _ _ _ _ us hl => match us, hl with | [_, _], _ => rfl) sc__law_deep rfl (fun cdv A outer s H E B hB hr tk => ?_)
  exact (by
      refine dss_cons ?_ ?_; exact (ds_setF (i := 2) sc__law_deep.nd rfl (by first | exact .inl rfl | exact .inr rfl) (de_callC c__law_pick tk hr (by decide) rfl (da_consN (de_var 0) (da_consN (de_lst (da_consN (de_lst da_nil) (da_consN (de_lst (da_consN (de_tup (da_consN de_int (da_consN de_str da_nil))) da_nil)) (da_consN (de_lst (da_consN (de_tup (da_consN de_non (da_consN de_str da_nil))) (da_consN (de_tup (da_consN de_str (da_consN de_str da_nil))) da_nil))) da_nil)))) da_nil)) (len_cons (len_cons len_nil)) rfl))
      refine dss_cons ?_ ?_; exact (ds_for (t := (.nm 3)) (passes_of rfl) rfl (di_range1 rfl z.b_range (da_consN (de_bin o_sub de_int (de_callC c__law_depth tk hr (by decide) rfl (da_consN (de_ix (hu_room hr) (de_var 1) de_int (fun _ _ => rfl)) da_nil) (len_cons len_nil) rfl)) da_nil)) (pg_name (i := 3) sc__law_deep.nd rfl (by first | exact .inl rfl | exact .inr rfl)) (by
      refine dss_one ?_; exact (ds_setF (i := 1) sc__law_deep.nd rfl (by first | exact .inl rfl | exact .inr rfl) (de_callC c__law_joined tk hr (by decide) rfl (da_consN (de_bin o_add (de_var 2) (de_lst (da_consN (de_var 1) da_nil))) da_nil) (len_cons len_nil) rfl))))
      refine dss_one ?_; exact (ds_ret (de_var 1)))
theorem k_read_minus (z : Zs P K mg A_WardenError A_BadValue I_BadValue) (c_sign_at : Cal P w K mg base "sign_at" ["text", "at"] 1 f_sign_at) (c_is_figure : Cal P w K mg base "is_figure" ["sign"] 1 f_is_figure) (c_read_integer : Cal P w K mg base "read_integer" ["text", "at"] 3 f_read_integer) {f : Addr} {fd : FuncData} (F : L2.Fun K "read_minus" "read_minus" s_read_minus f fd) (g : mg "read_minus" = some (.ref f)) : Cal P w K mg base "read_minus" ["text", "at"] 4 f_read_minus := by
  refine cal_mk F g (F.binds fun _ _ _ _ _ _ us hl => match us, hl with | [_, _], _ => rfl) sc_read_minus rfl (fun cdv A outer s H E B hB hr tk => ?_)
  exact (by
      refine dss_cons ?_ ?_; exact (ds_setF (i := 2) sc_read_minus.nd rfl (by first | exact .inl rfl | exact .inr rfl) (de_callC c_sign_at tk hr (by decide) rfl (da_consN (de_var 0) (da_consN (de_bin o_add (de_var 1) de_int) da_nil)) (len_cons (len_cons len_nil)) rfl))
      refine dss_cons ?_ ?_; exact (ds_if (dt_bool (dw_and (dt_val (de_callC c_is_figure tk hr (by decide) rfl (da_consN (de_var 2) da_nil) (len_cons len_nil) rfl)) (dw_and1 (dt_cmp (o_ne (hu_room hr)) (de_var 2) de_str rfl)))) (by
      refine dss_cons ?_ ?_; exact (ds_unp (js := [3, 4]) (pg_tup rfl (pgs_cons (pg_name (i := 3) sc_read_minus.nd rfl (by first | exact .inl rfl | exact .inr rfl)) (pgs_cons (pg_name (i := 4) sc_read_minus.nd rfl (by first | exact .inl rfl | exact .inr rfl)) pgs_nil))) (de_callC c_read_integer tk hr (by decide) rfl (da_consN (de_var 0) (da_consN (de_bin o_add (de_var 1) de_int) da_nil)) (len_cons (len_cons len_nil)) rfl))
      refine dss_one ?_; exact (ds_ret (de_tup (da_consN (de_un o_neg (de_var 3)) (da_consN (de_var 4) da_nil))))) dss_nil)
      refine dss_one ?_; exact (ds_ret (de_tup (da_consN de_non (da_consN (de_bin o_add (de_var 1) de_int) da_nil)))))
theorem k__law_plain (z : Zs P K mg A_WardenError A_BadValue I_BadValue) (c__law_draw : Cal P w K mg base "_law_draw" ["d", "many"] 1 f__law_draw) (c__law_number : Cal P w K mg base "_law_number" ["d"] 3 f__law_number) (c__law_string : Cal P w K mg base "_law_string" ["d"] 3 f__law_string) {f : Addr} {fd : FuncData} (F : L2.Fun K "_law_plain" "_law_plain" s__law_plain f fd) (g : mg "_law_plain" = some (.ref f)) : Cal P w K mg base "_law_plain" ["d"] 4 f__law_plain := by
  refine cal_mk F g (F.binds fun _ _ _ _ _ _ us hl => match us, hl with | [_], _ => rfl) sc__law_plain rfl (fun cdv A outer s H E B hB hr tk => ?_)
  exact (by
      refine dss_cons ?_ ?_; exact (ds_setF (i := 1) sc__law_plain.nd rfl (by first | exact .inl rfl | exact .inr rfl) (de_callC c__law_draw tk hr (by decide) rfl (da_consN (de_var 0) (da_consN de_int da_nil)) (len_cons (len_cons len_nil)) rfl))
      refine dss_cons ?_ ?_; exact (ds_if (dt_cmp (o_eq (hu_room hr)) (de_var 1) de_int rfl) (by
      refine dss_one ?_; exact (ds_ret (de_tup (da_consN de_non (da_consN de_str da_nil))))) dss_nil)
      refine dss_cons ?_ ?_; exact (ds_if (dt_cmp (o_lt (hu_room hr)) (de_var 1) de_int rfl) (by
      refine dss_one ?_; exact (ds_ret (de_tup (da_consN (de_cmp (o_eq (hu_room hr)) (de_var 1) de_int rfl) (da_consN (de_bin o_add de_str (de_callTy c_str rfl z.b_str (by decide +kernel) (da_consN (de_callTy c_int rfl z.b_int (by decide +kernel) (da_consN (de_cmp (o_eq (hu_room hr)) (de_var 1) de_int rfl) da_nil)) da_nil))) da_nil))))) dss_nil)
      refine dss_one ?_; exact (ds_ret (de_ifExp (dt_cmp (o_lt (hu_room hr)) (de_var 1) de_int rfl) (de_callC c__law_number tk hr (by decide) rfl (da_consN (de_var 0) da_nil) (len_cons len_nil) rfl) (de_callC c__law_string tk hr (by decide) rfl (da_consN (de_var 0) da_nil) (len_cons len_nil) rfl))))
theorem k__law_value (z : Zs P K mg A_WardenError A_BadValue I_BadValue) (c__law_draw : Cal P w K mg base "_law_draw" ["d", "many"] 1 f__law_draw) (c__law_plain : Cal P w K mg base "_law_plain" ["d"] 4 f__law_plain) (c__law_joined : Cal P w K mg base "_law_joined" ["pairs"] 1 f__law_joined) {f : Addr} {fd : FuncData} (F : L2.Fun K "_law_value" "_law_value" s__law_value f fd) (g : mg "_law_value" = some (.ref f)) : Cal P w K mg base "_law_value" ["d"] 5 f__law_value := by
  refine cal_mk F g (F.binds fun _ _ _ _ _ _ us hl => match us, hl with | [_], _ => rfl) sc__law_value rfl (fun cdv A outer s H E B hB hr tk => ?_)
  exact (by
      refine dss_cons ?_ ?_; exact (ds_setO (i := 1) sc__law_value.nd rfl (by first | exact .inl rfl | exact .inr rfl) (de_lst da_nil))
      refine dss_cons ?_ ?_; exact (ds_for (t := (.nm 2)) (passes_of rfl) rfl (di_range1 rfl z.b_range (da_consN (de_bin o_add de_int (de_callC c__law_draw tk hr (by decide) rfl (da_consN (de_var 0) (da_consN de_int da_nil)) (len_cons (len_cons len_nil)) rfl)) da_nil)) (pg_name (i := 2) sc__law_value.nd rfl (by first | exact .inl rfl | exact .inr rfl)) (by
      refine dss_cons ?_ ?_; exact (ds_expr (de_append (i := 1) rfl (de_callC c__law_plain tk hr (by decide) rfl (da_consN (de_var 0) da_nil) (len_cons len_nil) rfl)))
      refine dss_one ?_; exact (ds_if (dt_cmp (o_eq (hu_room hr)) (de_callC c__law_draw tk hr (by decide) rfl (da_consN (de_var 0) (da_consN de_int da_nil)) (len_cons (len_cons len_nil)) rfl) de_int rfl) (by
      refine dss_cons ?_ ?_; exact (ds_setF (i := 3) sc__law_value.nd rfl (by first | exact .inl rfl | exact .inr rfl) (de_callC c__law_draw tk hr (by decide) rfl (da_consN (de_var 0) (da_consN (de_bin o_add (de_callB c_len rfl z.b_len (by decide +kernel) (da_consN (de_var 1) da_nil)) de_int) da_nil)) (len_cons (len_cons len_nil)) rfl))
      refine dss_one ?_; exact (ds_setO (i := 1) sc__law_value.nd rfl (by first | exact .inl rfl | exact .inr rfl) (de_bin o_add (de_slice (de_var 1) do_none (do_some (de_var 3))) (de_lst (da_consN (de_callC c__law_joined tk hr (by decide) rfl (da_consN (de_slice (de_var 1) (do_some (de_var 3)) do_none) da_nil) (len_cons len_nil) rfl) da_nil))))) dss_nil)))
      refine dss_one ?_; exact (ds_ret (de_ifExp (dt_cmp (o_eq (hu_room hr)) (de_callB c_len rfl z.b_len (by decide +kernel) (da_consN (de_var 1) da_nil)) de_int rfl) (de_ix (hu_room hr) (de_var 1) de_int (fun _ _ => rfl)) (de_callC c__law_joined tk hr (by decide) rfl (da_consN (de_var 1) da_nil) (len_cons len_nil) rfl))))
theorem k__law_long (z : Zs P K mg A_WardenError A_BadValue I_BadValue) (c__law_draw : Cal P w K mg base "_law_draw" ["d", "many"] 1 f__law_draw) (c__law_joined : Cal P w K mg base "_law_joined" ["pairs"] 1 f__law_joined) (c__law_plain : Cal P w K mg base "_law_plain" ["d"] 4 f__law_plain) (c__law_pick : Cal P w K mg base "_law_pick" ["d", "row"] 2 f__law_pick) (c__law_string : Cal P w K mg base "_law_string" ["d"] 3 f__law_string) {f : Addr} {fd : FuncData} (F : L2.Fun K "_law_long" "_law_long" s__law_long f fd) (g : mg "_law_long" = some (.ref f)) : Cal P w K mg base "_law_long" ["d"] 5 f__law_long := by
  refine cal_mk F g (F.binds fun _ _ _ _ _ _ us hl => match us, hl with | [_], _ => rfl) sc__law_long rfl (fun cdv A outer s H E B hB hr tk => ?_)
  exact (by
      refine dss_cons ?_ ?_; exact (ds_if (dt_cmp (o_eq (hu_room hr)) (de_callC c__law_draw tk hr (by decide) rfl (da_consN (de_var 0) (da_consN de_int da_nil)) (len_cons (len_cons len_nil)) rfl) de_int rfl) (by
      refine dss_one ?_; exact (ds_ret (de_callC c__law_joined tk hr (by decide) rfl (da_consN (de_bin o_mulW (de_lst (da_consN (de_callC c__law_plain tk hr (by decide) rfl (da_consN (de_var 0) da_nil) (len_cons len_nil) rfl) (da_consN (de_callC c__law_plain tk hr (by decide) rfl (da_consN (de_var 0) da_nil) (len_cons len_nil) rfl) da_nil))) de_int) da_nil) (len_cons len_nil) rfl))) dss_nil)
      refine dss_cons ?_ ?_; exact (ds_setF (i := 1) sc__law_long.nd rfl (by first | exact .inl rfl | exact .inr rfl) (de_callC c__law_pick tk hr (by decide) rfl (da_consN (de_var 0) (da_consN (de_lst (da_consN de_int (da_consN de_int (da_consN de_int da_nil)))) da_nil)) (len_cons (len_cons len_nil)) rfl))
      refine dss_cons ?_ ?_; exact (ds_setF (i := 2) sc__law_long.nd rfl (by first | exact .inl rfl | exact .inr rfl) (de_bin o_add (de_ix (hu_room hr) (de_callC c__law_string tk hr (by decide) rfl (da_consN (de_var 0) da_nil) (len_cons len_nil) rfl) de_int (fun _ _ => rfl)) de_str))
      refine dss_cons ?_ ?_; exact (ds_setF (i := 3) sc__law_long.nd rfl (by first | exact .inl rfl | exact .inr rfl) (de_slice (de_bin o_mulW (de_var 2) (de_bin o_add (de_bin o_fdiv (de_var 1) (de_callB c_len rfl z.b_len (by decide +kernel) (da_consN (de_var 2) da_nil))) de_int)) do_none (do_some (de_var 1))))
      refine dss_one ?_; exact (ds_ret (de_tup (da_consN (de_var 3) (da_consN (de_bin o_add (de_bin o_add de_str (de_var 3)) de_str) da_nil)))))
theorem k_tuple_text (z : Zs P K mg A_WardenError A_BadValue I_BadValue) (c_bool_text : Cal P w K mg base "bool_text" ["value"] 1 f_bool_text) (c_string_text : Cal P w K mg base "string_text" ["value"] 1 f_string_text) {a_tuple_text : Addr} {d_tuple_text : FuncData} (F_tuple_text : L2.Fun K "tuple_text" "tuple_text" s_tuple_text a_tuple_text d_tuple_text) (g_tuple_text : mg "tuple_text" = some (.ref a_tuple_text)) {a_write_value : Addr} {d_write_value : FuncData} (F_write_value : L2.Fun K "write_value" "write_value" s_write_value a_write_value d_write_value) (g_write_value : mg "write_value" = some (.ref a_write_value)) : ∀ n : Nat, Cal P w K mg base "tuple_text" ["value"] (1 + n + 1) (r_tuple_text n) ∧ Cal P w K mg base "write_value" ["value"] (1 + n + 1) (r_write_value n)
  | 0 => ⟨(cal_mk F_tuple_text g_tuple_text (F_tuple_text.binds fun _ _ _ _ _ _ us hl => match us, hl with | [_], _ => rfl) sc_tuple_text rfl (fun cdv A outer s H E B hB hr tk => XB.dss_none)), (cal_mk F_write_value g_write_value (F_write_value.binds fun _ _ _ _ _ _ us hl => match us, hl with | [_], _ => rfl) sc_write_value rfl (fun cdv A outer s H E B hB hr tk => XB.dss_none))⟩
  | n + 1 => by
    obtain ⟨c_tuple_text, c_write_value⟩ := k_tuple_text z c_bool_text c_string_text F_tuple_text g_tuple_text F_write_value g_write_value n
    exact ⟨(cal_mk F_tuple_text g_tuple_text (F_tuple_text.binds fun _ _ _ _ _ _ us hl => match us, hl with | [_], _ => rfl) sc_tuple_text rfl (fun cdv A outer s H E B hB hr tk => (by
      refine dss_one ?_; exact (ds_ret (de_bin o_add (de_bin o_add de_str (de_join de_str (de_lc (X := _) (own := [("part", 1)]) (t := (.nm 1)) (hi := (de_src (de_var 0))) (hv := by decide) (hg := fun _ _ _ _ _ => (pg_name (i := 1) sc_tuple_text.nd rfl (by first | exact .inl rfl | exact .inr rfl))) (ht := fun _ _ _ _ _ => dts_nil) (he := fun _ _ _ _ _ => (de_callC c_write_value takes0 hr (by omega) rfl (da_consN (de_var 1) da_nil) (len_cons len_nil) rfl)) (hc := rfl) (hN := sc_tuple_text.nd) (ok := blkOk_by (by rfl))))) de_str))))),
      (cal_mk F_write_value g_write_value (F_write_value.binds fun _ _ _ _ _ _ us hl => match us, hl with | [_], _ => rfl) sc_write_value rfl (fun cdv A outer s H E B hB hr tk => (by
      refine dss_cons ?_ ?_; exact (ds_if (dt_cmp o_is (de_var 0) de_non rfl) (by
      refine dss_one ?_; exact (ds_ret de_str)) dss_nil)
      refine dss_cons ?_ ?_; exact (ds_if (dt_val (de_isi kit_bool hk_bool rfl z.b_isinstance (de_var 0) rfl z.b_bool (by decide +kernel))) (by
      refine dss_one ?_; exact (ds_ret (de_callC c_bool_text tk hr (by omega) rfl (da_consN (de_var 0) da_nil) (len_cons len_nil) rfl))) dss_nil)
      refine dss_cons ?_ ?_; exact (ds_if (dt_val (de_isi kit_int hk_int rfl z.b_isinstance (de_var 0) rfl z.b_int (by decide +kernel))) (by
      refine dss_one ?_; exact (ds_ret (de_callTy c_str rfl z.b_str (by decide +kernel) (da_consN (de_var 0) da_nil)))) dss_nil)
      refine dss_cons ?_ ?_; exact (ds_if (dt_val (de_isi kit_str hk_str rfl z.b_isinstance (de_var 0) rfl z.b_str (by decide +kernel))) (by
      refine dss_one ?_; exact (ds_ret (de_callC c_string_text tk hr (by omega) rfl (da_consN (de_var 0) da_nil) (len_cons len_nil) rfl))) dss_nil)
      refine dss_one ?_; exact (ds_ret (de_callC c_tuple_text tk hr (by omega) rfl (da_consN (de_var 0) da_nil) (len_cons len_nil) rfl)))))⟩
theorem k__law_same (z : Zs P K mg A_WardenError A_BadValue I_BadValue) (c__law_is_int : Cal P w K mg base "_law_is_int" ["thing"] 1 f__law_is_int) {a__law_same : Addr} {d__law_same : FuncData} (F__law_same : L2.Fun K "_law_same" "_law_same" s__law_same a__law_same d__law_same) (g__law_same : mg "_law_same" = some (.ref a__law_same)) : ∀ n : Nat, Cal P w K mg base "_law_same" ["told", "due"] (1 + n + 1) (r__law_same n)
  | 0 => (cal_mk F__law_same g__law_same (F__law_same.binds fun _ _ _ _ _ _ us hl => match us, hl with | [_, _], _ => rfl) sc__law_same rfl (fun cdv A outer s H E B hB hr tk => XB.dss_none))
  | n + 1 => by
    obtain c__law_same := k__law_same z c__law_is_int F__law_same g__law_same n
    exact (cal_mk F__law_same g__law_same (F__law_same.binds fun _ _ _ _ _ _ us hl => match us, hl with | [_, _], _ => rfl) sc__law_same rfl (fun cdv A outer s H E B hB hr tk => (by
      refine dss_cons ?_ ?_; exact (ds_if (dt_cmp o_is (de_var 1) de_non rfl) (by
      refine dss_one ?_; exact (ds_ret (de_cmp o_is (de_var 0) de_non rfl))) dss_nil)
      refine dss_cons ?_ ?_; exact (ds_if (dt_cmp o_is (de_var 1) de_bl rfl) (by
      refine dss_one ?_; exact (ds_ret (de_cmp o_is (de_var 0) de_bl rfl))) dss_nil)
      refine dss_cons ?_ ?_; exact (ds_if (dt_cmp o_is (de_var 1) de_bl rfl) (by
      refine dss_one ?_; exact (ds_ret (de_cmp o_is (de_var 0) de_bl rfl))) dss_nil)
      refine dss_cons ?_ ?_; exact (ds_if (dt_val (de_isi kit_tuple hk_tuple rfl z.b_isinstance (de_var 1) rfl z.b_tuple (by decide +kernel))) (by
      refine dss_cons ?_ ?_; exact (ds_if (dt_bool (dw_or (dt_not (dt_val (de_isi kit_tuple hk_tuple rfl z.b_isinstance (de_var 0) rfl z.b_tuple (by decide +kernel)))) (dw_or1 (dt_cmp (o_ne (hu_room hr)) (de_callB c_len rfl z.b_len (by decide +kernel) (da_consN (de_var 0) da_nil)) (de_callB c_len rfl z.b_len (by decide +kernel) (da_consN (de_var 1) da_nil)) rfl)))) (by
      refine dss_one ?_; exact (ds_ret de_bl)) dss_nil)
      refine dss_one ?_; exact (ds_ret (de_callB (c_all rfl) rfl z.b_all (by decide +kernel) (da_consN (de_lc (X := _) (own := [("k", 2)]) (t := (.nm 2)) (hi := (di_range1 rfl z.b_range (da_consN (de_callB c_len rfl z.b_len (by decide +kernel) (da_consN (de_var 1) da_nil)) da_nil))) (hv := by decide) (hg := fun _ _ _ _ _ => (pg_name (i := 2) sc__law_same.nd rfl (by first | exact .inl rfl | exact .inr rfl))) (ht := fun _ _ _ _ _ => dts_nil) (he := fun _ _ _ _ _ => (de_callC c__law_same takes0 hr (by omega) rfl (da_consN (de_ix (hu_room hr) (de_var 0) (de_var 2) (fun _ _ => rfl)) (da_consN (de_ix (hu_room hr) (de_var 1) (de_var 2) (fun _ _ => rfl)) da_nil)) (len_cons (len_cons len_nil)) rfl)) (hc := rfl) (hN := sc__law_same.nd) (ok := blkOk_by (by rfl))) da_nil)))) dss_nil)
      refine dss_cons ?_ ?_; exact (ds_if (dt_val (de_isi kit_str hk_str rfl z.b_isinstance (de_var 1) rfl z.b_str (by decide +kernel))) (by
      refine dss_one ?_; exact (ds_ret (de_and (de_isi kit_str hk_str rfl z.b_isinstance (de_var 0) rfl z.b_str (by decide +kernel)) (de_one (de_cmp (o_eq (hu_room hr)) (de_var 0) (de_var 1) rfl))))) dss_nil)
      refine dss_one ?_; exact (ds_ret (de_and (de_callC c__law_is_int tk hr (by omega) rfl (da_consN (de_var 0) da_nil) (len_cons len_nil) rfl) (de_one (de_cmp (o_eq (hu_room hr)) (de_var 0) (de_var 1) rfl)))))))
theorem k_read_parts (z : Zs P K mg A_WardenError A_BadValue I_BadValue) (c_sign_at : Cal P w K mg base "sign_at" ["text", "at"] 1 f_sign_at) (c_read_string : Cal P w K mg base "read_string" ["text", "at"] 2 f_read_string) (c_read_bool : Cal P w K mg base "read_bool" ["text", "at"] 2 f_read_bool) (c_read_minus : Cal P w K mg base "read_minus" ["text", "at"] 4 f_read_minus) (c_is_figure : Cal P w K mg base "is_figure" ["sign"] 1 f_is_figure) (c_read_integer : Cal P w K mg base "read_integer" ["text", "at"] 3 f_read_integer) {a_read_parts : Addr} {d_read_parts : FuncData} (F_read_parts : L2.Fun K "read_parts" "read_parts" s_read_parts a_read_parts d_read_parts) (g_read_parts : mg "read_parts" = some (.ref a_read_parts)) {a_read_tuple : Addr} {d_read_tuple : FuncData} (F_read_tuple : L2.Fun K "read_tuple" "read_tuple" s_read_tuple a_read_tuple d_read_tuple) (g_read_tuple : mg "read_tuple" = some (.ref a_read_tuple)) {a_read_at : Addr} {d_read_at : FuncData} (F_read_at : L2.Fun K "read_at" "read_at" s_read_at a_read_at d_read_at) (g_read_at : mg "read_at" = some (.ref a_read_at)) : ∀ n : Nat, Cal P w K mg base "read_parts" ["text", "at", "depth"] (4 + n + 1) (r_read_parts n) ∧ Cal P w K mg base "read_tuple" ["text", "at", "depth"] (4 + n + 1) (r_read_tuple n) ∧ Cal P w K mg base "read_at" ["text", "at", "depth"] (4 + n + 1) (r_read_at n)
  | 0 => ⟨(cal_mk F_read_parts g_read_parts (F_read_parts.binds fun _ _ _ _ _ _ us hl => match us, hl with | [_, _, _], _ => rfl) sc_read_parts rfl (fun cdv A outer s H E B hB hr tk => XB.dss_none)), (cal_mk F_read_tuple g_read_tuple (F_read_tuple.binds fun _ _ _ _ _ _ us hl => match us, hl with | [_, _, _], _ => rfl) sc_read_tuple rfl (fun cdv A outer s H E B hB hr tk => XB.dss_none)), (cal_mk F_read_at g_read_at (F_read_at.binds fun _ _ _ _ _ _ us hl => match us, hl with | [_, _, _], _ => rfl) sc_read_at rfl (fun cdv A outer s H E B hB hr tk => XB.dss_none))⟩
  | n + 1 => by
    obtain ⟨c_read_parts, c_read_tuple, c_read_at⟩ := k_read_parts z c_sign_at c_read_string c_read_bool c_read_minus c_is_figure c_read_integer F_read_parts g_read_parts F_read_tuple g_read_tuple F_read_at g_read_at n
    exact ⟨(cal_mk F_read_parts g_read_parts (F_read_parts.binds fun _ _ _ _ _ _ us hl => match us, hl with | [_, _, _], _ => rfl) sc_read_parts rfl (fun cdv A outer s H E B hB hr tk => (by
      refine dss_cons ?_ ?_; exact (ds_unp (js := [3, 4]) (pg_tup rfl (pgs_cons (pg_name (i := 3) sc_read_parts.nd rfl (by first | exact .inl rfl | exact .inr rfl)) (pgs_cons (pg_name (i := 4) sc_read_parts.nd rfl (by first | exact .inl rfl | exact .inr rfl)) pgs_nil))) (de_callC c_read_at tk hr (by omega) rfl (da_consN (de_var 0) (da_consN (de_var 1) (da_consN (de_var 2) da_nil))) (len_cons (len_cons (len_cons len_nil))) rfl))
      refine dss_cons ?_ ?_; exact (ds_setO (i := 5) sc_read_parts.nd rfl (by first | exact .inl rfl | exact .inr rfl) (de_lst (da_consN (de_var 3) da_nil)))
      refine dss_cons ?_ ?_; exact (ds_while (passes_of rfl) (dt_cmp (o_eq (hu_room hr)) (de_callC c_sign_at tk hr (by omega) rfl (da_consN (de_var 0) (da_consN (de_var 4) da_nil)) (len_cons (len_cons len_nil)) rfl) de_str rfl) (by
      refine dss_cons ?_ ?_; exact (ds_unp (js := [3, 4]) (pg_tup rfl (pgs_cons (pg_name (i := 3) sc_read_parts.nd rfl (by first | exact .inl rfl | exact .inr rfl)) (pgs_cons (pg_name (i := 4) sc_read_parts.nd rfl (by first | exact .inl rfl | exact .inr rfl)) pgs_nil))) (de_callC c_read_at tk hr (by omega) rfl (da_consN (de_var 0) (da_consN (de_bin o_add (de_var 4) de_int) (da_consN (de_var 2) da_nil))) (len_cons (len_cons (len_cons len_nil))) rfl))
      refine dss_one ?_; exact (ds_expr (de_append (i := 5) rfl (de_var 3)))))
      refine dss_one ?_; exact (ds_ret (de_tup (da_consN (de_callTy c_tuple rfl z.b_tuple (by decide +kernel) (da_consN (de_var 5) da_nil)) (da_consN (de_var 4) da_nil))))))),
      (cal_mk F_read_tuple g_read_tuple (F_read_tuple.binds fun _ _ _ _ _ _ us hl => match us, hl with | [_, _, _], _ => rfl) sc_read_tuple rfl (fun cdv A outer s H E B hB hr tk => (by
      refine dss_cons ?_ ?_; exact (ds_if (dt_cmp (o_eq (hu_room hr)) (de_var 2) (de_gl z.g_MOST_DEPTH rfl) rfl) (by
      refine dss_one ?_; exact (ds_raise rfl tk z.T_BadValue z.F_BadValue.g (by decide) hr rfl (da_consN (de_var 1) da_nil) rfl (len_cons len_nil))) dss_nil)
      refine dss_cons ?_ ?_; exact (ds_if (dt_cmp (o_eq (hu_room hr)) (de_callC c_sign_at tk hr (by omega) rfl (da_consN (de_var 0) (da_consN (de_bin o_add (de_var 1) de_int) da_nil)) (len_cons (len_cons len_nil)) rfl) de_str rfl) (by
      refine dss_one ?_; exact (ds_ret (de_tup (da_consN (de_tup da_nil) (da_consN (de_bin o_add (de_var 1) de_int) da_nil))))) dss_nil)
      refine dss_cons ?_ ?_; exact (ds_unp (js := [3, 4]) (pg_tup rfl (pgs_cons (pg_name (i := 3) sc_read_tuple.nd rfl (by first | exact .inl rfl | exact .inr rfl)) (pgs_cons (pg_name (i := 4) sc_read_tuple.nd rfl (by first | exact .inl rfl | exact .inr rfl)) pgs_nil))) (de_callC c_read_parts tk hr (by omega) rfl (da_consN (de_var 0) (da_consN (de_bin o_add (de_var 1) de_int) (da_consN (de_bin o_add (de_var 2) de_int) da_nil))) (len_cons (len_cons (len_cons len_nil))) rfl))
      refine dss_cons ?_ ?_; exact (ds_if (dt_cmp (o_ne (hu_room hr)) (de_callC c_sign_at tk hr (by omega) rfl (da_consN (de_var 0) (da_consN (de_var 4) da_nil)) (len_cons (len_cons len_nil)) rfl) de_str rfl) (by
      refine dss_one ?_; exact (ds_raise rfl tk z.T_BadValue z.F_BadValue.g (by decide) hr rfl (da_consN (de_var 4) da_nil) rfl (len_cons len_nil))) dss_nil)
      refine dss_one ?_; exact (ds_ret (de_tup (da_consN (de_var 3) (da_consN (de_bin o_add (de_var 4) de_int) da_nil))))))),
      (cal_mk F_read_at g_read_at (F_read_at.binds fun _ _ _ _ _ _ us hl => match us, hl with | [_, _, _], _ => rfl) sc_read_at rfl (fun cdv A outer s H E B hB hr tk => (by
      refine dss_cons ?_ ?_; exact (ds_setF (i := 3) sc_read_at.nd rfl (by first | exact .inl rfl | exact .inr rfl) (de_callC c_sign_at tk hr (by omega) rfl (da_consN (de_var 0) (da_consN (de_var 1) da_nil)) (len_cons (len_cons len_nil)) rfl))
      refine dss_cons ?_ ?_; exact (ds_if (dt_cmp (o_eq (hu_room hr)) (de_var 3) de_str rfl) (by
      refine dss_one ?_; exact (ds_ret (de_callC c_read_tuple tk hr (by omega) rfl (da_consN (de_var 0) (da_consN (de_var 1) (da_consN (de_var 2) da_nil))) (len_cons (len_cons (len_cons len_nil))) rfl))) dss_nil)
      refine dss_cons ?_ ?_; exact (ds_if (dt_cmp (o_eq (hu_room hr)) (de_var 3) (de_gl z.g_QUOTE rfl) rfl) (by
      refine dss_one ?_; exact (ds_ret (de_callC c_read_string tk hr (by omega) rfl (da_consN (de_var 0) (da_consN (de_var 1) da_nil)) (len_cons (len_cons len_nil)) rfl))) dss_nil)
      refine dss_cons ?_ ?_; exact (ds_if (dt_cmp (o_eq (hu_room hr)) (de_var 3) de_str rfl) (by
      refine dss_one ?_; exact (ds_ret (de_callC c_read_bool tk hr (by omega) rfl (da_consN (de_var 0) (da_consN (de_var 1) da_nil)) (len_cons (len_cons len_nil)) rfl))) dss_nil)
      refine dss_cons ?_ ?_; exact (ds_if (dt_cmp (o_eq (hu_room hr)) (de_var 3) de_str rfl) (by
      refine dss_one ?_; exact (ds_ret (de_callC c_read_minus tk hr (by omega) rfl (da_consN (de_var 0) (da_consN (de_var 1) da_nil)) (len_cons (len_cons len_nil)) rfl))) dss_nil)
      refine dss_cons ?_ ?_; exact (ds_if (dt_val (de_callC c_is_figure tk hr (by omega) rfl (da_consN (de_var 3) da_nil) (len_cons len_nil) rfl)) (by
      refine dss_one ?_; exact (ds_ret (de_callC c_read_integer tk hr (by omega) rfl (da_consN (de_var 0) (da_consN (de_var 1) da_nil)) (len_cons (len_cons len_nil)) rfl))) dss_nil)
      refine dss_one ?_; exact (ds_raise rfl tk z.T_BadValue z.F_BadValue.g (by decide) hr rfl (da_consN (de_var 1) da_nil) rfl (len_cons len_nil)))))⟩
theorem k_read_value (z : Zs P K mg A_WardenError A_BadValue I_BadValue) (c_read_at : Cal P w K mg base "read_at" ["text", "at", "depth"] 315 f_read_at) {f : Addr} {fd : FuncData} (F : L2.Fun K "read_value" "read_value" s_read_value f fd) (g : mg "read_value" = some (.ref f)) : Cal P w K mg base "read_value" ["text"] 316 f_read_value := by
  refine cal_mk F g (F.binds fun _ _ _ _ _ _ us hl => match us, hl with | [_], _ => rfl) sc_read_value rfl (fun cdv A outer s H E B hB hr tk => ?_)
  exact (by
      refine dss_cons ?_ ?_; exact (ds_unp (js := [1, 2]) (pg_tup rfl (pgs_cons (pg_name (i := 1) sc_read_value.nd rfl (by first | exact .inl rfl | exact .inr rfl)) (pgs_cons (pg_name (i := 2) sc_read_value.nd rfl (by first | exact .inl rfl | exact .inr rfl)) pgs_nil))) (de_callC c_read_at tk hr (by decide) rfl (da_consN (de_var 0) (da_consN de_int (da_consN de_int da_nil))) (len_cons (len_cons (len_cons len_nil))) rfl))
      refine dss_cons ?_ ?_; exact (ds_if (dt_cmp (o_lt (hu_room hr)) (de_var 2) (de_callB c_len rfl z.b_len (by decide +kernel) (da_consN (de_var 0) da_nil)) rfl) (by
      refine dss_one ?_; exact (ds_raise rfl tk z.T_BadValue z.F_BadValue.g (by decide) hr rfl (da_consN (de_var 2) da_nil) rfl (len_cons len_nil))) dss_nil)
      refine dss_one ?_; exact (ds_ret (de_var 1)))
theorem k__law_agrees (z : Zs P K mg A_WardenError A_BadValue I_BadValue) (c_write_value : Cal P w K mg base "write_value" ["value"] 312 f_write_value) (c_read_value : Cal P w K mg base "read_value" ["text"] 316 f_read_value) (c__law_same : Cal P w K mg base "_law_same" ["told", "due"] 312 f__law_same) {f : Addr} {fd : FuncData} (F : L2.Fun K "_law_agrees" "_law_agrees" s__law_agrees f fd) (g : mg "_law_agrees" = some (.ref f)) : Cal P w K mg base "_law_agrees" ["value", "text"] 317 f__law_agrees := by
  refine cal_mk F g (F.binds fun _ _ _ _ _ _ us hl => match us, hl with | [_, _], _ => rfl) sc__law_agrees rfl (fun cdv A outer s H E B hB hr tk => ?_)
  exact (by
      refine dss_cons ?_ ?_; exact (ds_setF (i := 2) sc__law_agrees.nd rfl (by first | exact .inl rfl | exact .inr rfl) (de_callC c_write_value tk hr (by decide) rfl (da_consN (de_var 0) da_nil) (len_cons len_nil) rfl))
      refine dss_cons ?_ ?_; exact (ds_if (dt_bool (dw_or (dt_not (dt_val (de_isi kit_str hk_str rfl z.b_isinstance (de_var 2) rfl z.b_str (by decide +kernel)))) (dw_or1 (dt_cmp (o_ne (hu_room hr)) (de_var 2) (de_var 1) rfl)))) (by
      refine dss_one ?_; exact (ds_ret de_bl)) dss_nil)
      refine dss_cons ?_ ?_; exact (ds_setF (i := 3) sc__law_agrees.nd rfl (by first | exact .inl rfl | exact .inr rfl) (de_callC c_read_value tk hr (by decide) rfl (da_consN (de_var 1) da_nil) (len_cons len_nil) rfl))
      refine dss_one ?_; exact (ds_ret (de_and (de_callC c__law_same tk hr (by decide) rfl (da_consN (de_var 3) (da_consN (de_var 0) da_nil)) (len_cons (len_cons len_nil)) rfl) (de_one (de_cmp (o_eq (hu_room hr)) (de_callC c_write_value tk hr (by decide) rfl (da_consN (de_var 3) da_nil) (len_cons len_nil) rfl) (de_var 1) rfl)))))
theorem k_law (math : ∀ ns : List Int, ns.length ≤ 63 → ∃ s1, m_law (lawStart 8 1 ns) = .ok (.rt (.val (.bool true))) s1) (z : Zs P K mg A_WardenError A_BadValue I_BadValue) (c__law_value : Cal P w K mg base "_law_value" ["d"] 5 f__law_value) (c__law_shuffled : Cal P w K mg base "_law_shuffled" ["d", "row"] 2 f__law_shuffled) (c__law_joined : Cal P w K mg base "_law_joined" ["pairs"] 1 f__law_joined) (c__law_rare : Cal P w K mg base "_law_rare" ["d", "many"] 2 f__law_rare) (c__law_deep : Cal P w K mg base "_law_deep" ["d", "pair"] 3 f__law_deep) (c__law_pick : Cal P w K mg base "_law_pick" ["d", "row"] 2 f__law_pick) (c__law_long : Cal P w K mg base "_law_long" ["d"] 5 f__law_long) (c__law_agrees : Cal P w K mg base "_law_agrees" ["value", "text"] 317 f__law_agrees) {fB : Addr} {fdB : FuncData} (FB : L2.Fun K "_law_begin" "_law_begin" s__law_begin fB fdB) (gB : mg "_law_begin" = some (.ref fB)) {f : Addr} {fd : FuncData} (F : L2.Fun K "law" "law" s_law f fd) : FnOk P w K mg base (L2.CX P w) 230 f fd ["script"] (spLaw K) := by
  refine ok_law (k := 317) (kk := 229) F sc_law rfl (j := 1) rfl (k_begin z FB) gB FB.kp (FB.binds fun _ _ _ _ _ _ us hl => match us, hl with | [_], _ => rfl) (by decide) (by decide) (by decide) rfl (fun cdv A outer s H E => ⟨pv 0, rfl, (by first | exact .inl rfl | exact .inr rfl), (by first | exact .inl rfl | exact .inr rfl), rfl, rfl⟩) (fun cdv A outer s H E B hB hr tk => ?_) math
  exact (by
      refine dss_cons ?_ ?_; exact (ds_lcF (i := 2) (hy := rfl) (hyl := rfl) (hsw := sw_true rfl rfl rfl rfl) (X := _) (own := [("k", 7)]) (t := (.nm 7)) (hi := (di_range1 rfl z.b_range (da_consN de_int da_nil))) (hv := by decide) (hg := fun _ _ _ _ _ => (pg_name (i := 7) sc_law.nd rfl (by first | exact .inl rfl | exact .inr rfl))) (ht := fun _ _ _ _ _ => dts_nil) (he := fun _ _ _ _ _ => (de_callC c__law_value takes0 hr (by decide) rfl (da_consN (de_var 1) da_nil) (len_cons len_nil) rfl)) (hc := rfl) (hN := sc_law.nd) (ok := blkOk_by (by rfl)))
      refine dss_cons ?_ ?_; exact (ds_setF (i := 3) sc_law.nd rfl (by first | exact .inl rfl | exact .inr rfl) (de_lst (da_consN (de_tup (da_consN de_bl (da_consN de_str da_nil))) (da_consN (de_tup (da_consN de_int (da_consN de_str da_nil))) (da_consN (de_tup (da_consN de_bl (da_consN de_str da_nil))) (da_consN (de_tup (da_consN de_int (da_consN de_str da_nil))) (da_consN (de_tup (da_consN de_non (da_consN de_str da_nil))) (da_consN (de_tup (da_consN (de_tup da_nil) (da_consN de_str da_nil))) (da_consN (de_tup (da_consN de_str (da_consN de_str da_nil))) (da_consN (de_tup (da_consN de_str (da_consN de_str da_nil))) da_nil))))))))))
      refine dss_cons ?_ ?_; exact (ds_setO (i := 4) sc_law.nd rfl (by first | exact .inl rfl | exact .inr rfl) (de_callC c__law_shuffled tk hr (by decide) rfl (da_consN (de_var 1) (da_consN (de_bin o_add (de_bin o_add (de_var 2) (de_var 3)) (de_slice (de_var 3) do_none (do_some de_int))) da_nil)) (len_cons (len_cons len_nil)) rfl))
      refine dss_cons ?_ ?_; exact (ds_expr (de_append (i := 4) rfl (de_callC c__law_joined tk hr (by decide) rfl (da_consN (de_var 4) da_nil) (len_cons len_nil) rfl)))
      refine dss_cons ?_ ?_; exact (ds_if (dt_val (de_callC c__law_rare tk hr (by decide) rfl (da_consN (de_var 1) (da_consN de_int da_nil)) (len_cons (len_cons len_nil)) rfl)) (by
      refine dss_one ?_; exact (ds_expr (de_append (i := 4) rfl (de_callC c__law_deep tk hr (by decide) rfl (da_consN (de_var 1) (da_consN (de_callC c__law_pick tk hr (by decide) rfl (da_consN (de_var 1) (da_consN (de_var 2) da_nil)) (len_cons (len_cons len_nil)) rfl) da_nil)) (len_cons (len_cons len_nil)) rfl)))) dss_nil)
      refine dss_cons ?_ ?_; exact (ds_if (dt_val (de_callC c__law_rare tk hr (by decide) rfl (da_consN (de_var 1) (da_consN de_int da_nil)) (len_cons (len_cons len_nil)) rfl)) (by
      refine dss_one ?_; exact (ds_expr (de_append (i := 4) rfl (de_callC c__law_long tk hr (by decide) rfl (da_consN (de_var 1) da_nil) (len_cons len_nil) rfl)))) dss_nil)
      refine dss_cons ?_ ?_; exact (ds_for (t := (.tup [5, 6])) (passes_of rfl) rfl (de_src (de_bin o_add (de_var 4) (de_slice (de_var 4) do_none (do_some de_int)))) (pg_tup rfl (pgs_cons (pg_name (i := 5) sc_law.nd rfl (by first | exact .inl rfl | exact .inr rfl)) (pgs_cons (pg_name (i := 6) sc_law.nd rfl (by first | exact .inl rfl | exact .inr rfl)) pgs_nil))) (by
      refine dss_one ?_; exact (ds_if (dt_not (dt_val (de_callC c__law_agrees tk hr (by decide) rfl (da_consN (de_var 5) (da_consN (de_var 6) da_nil)) (len_cons (len_cons len_nil)) rfl))) (by
      refine dss_one ?_; exact (ds_ret de_bl)) dss_nil)))
      refine dss_one ?_; exact (ds_ret de_bl))
end
end K85
end

section
set_option Elab.async false
set_option linter.all false
set_option maxRecDepth 100000
set_option maxHeartbeats 4000000
set_option autoImplicit false
namespace K85
open PySem PySem.Spec L2 PD XB Lw
open PyProof.Rows hiding St
theorem all_mk (math : ∀ ns : List Int, ns.length ≤ 63 → ∃ s1, m_law (lawStart 8 1 ns) = .ok (.rt (.val (.bool true))) s1) {P : Program} {w : World} {K : PySem.W.Frag} {h : Heap} {mg : Str → Option Value} {fa : Addr} (X : K.In h) (G : h.Ns mainGlobals mg) (hfa : mg "law" = some (.ref fa))
    {f0 : Addr} {od0 an0 : Option Addr} {sl0 : Array (Option Value)} {oc0 kV0 dc0 pm0 cd0 ct0 : Value}
    (a0 : PySem.W.nsIn K mainGlobals "bool_text" = some (some (.ref f0))) (l0 : K.lookup f0 = some ⟨oc0, od0, .func (PySem.W.fnOf "bool_text" "bool_text" (defArgs s_bool_text) (defBody s_bool_text) (defScope s_bool_text) .none kV0 dc0 pm0 an0 cd0 ct0), sl0⟩) (c0 : PySem.W.codeIn K cd0 "bool_text" = true) (k0 : PySem.W.keepIn K (.ref f0) = true)
    {f1 : Addr} {od1 an1 : Option Addr} {sl1 : Array (Option Value)} {oc1 kV1 dc1 pm1 cd1 ct1 : Value}
    (a1 : PySem.W.nsIn K mainGlobals "string_text" = some (some (.ref f1))) (l1 : K.lookup f1 = some ⟨oc1, od1, .func (PySem.W.fnOf "string_text" "string_text" (defArgs s_string_text) (defBody s_string_text) (defScope s_string_text) .none kV1 dc1 pm1 an1 cd1 ct1), sl1⟩) (c1 : PySem.W.codeIn K cd1 "string_text" = true) (k1 : PySem.W.keepIn K (.ref f1) = true)
    {f2 : Addr} {od2 an2 : Option Addr} {sl2 : Array (Option Value)} {oc2 kV2 dc2 pm2 cd2 ct2 : Value}
    (a2 : PySem.W.nsIn K mainGlobals "sign_at" = some (some (.ref f2))) (l2 : K.lookup f2 = some ⟨oc2, od2, .func (PySem.W.fnOf "sign_at" "sign_at" (defArgs s_sign_at) (defBody s_sign_at) (defScope s_sign_at) .none kV2 dc2 pm2 an2 cd2 ct2), sl2⟩) (c2 : PySem.W.codeIn K cd2 "sign_at" = true) (k2 : PySem.W.keepIn K (.ref f2) = true)
    {f3 : Addr} {od3 an3 : Option Addr} {sl3 : Array (Option Value)} {oc3 kV3 dc3 pm3 cd3 ct3 : Value}
    (a3 : PySem.W.nsIn K mainGlobals "is_figure" = some (some (.ref f3))) (l3 : K.lookup f3 = some ⟨oc3, od3, .func (PySem.W.fnOf "is_figure" "is_figure" (defArgs s_is_figure) (defBody s_is_figure) (defScope s_is_figure) .none kV3 dc3 pm3 an3 cd3 ct3), sl3⟩) (c3 : PySem.W.codeIn K cd3 "is_figure" = true) (k3 : PySem.W.keepIn K (.ref f3) = true)
    {f4 : Addr} {od4 an4 : Option Addr} {sl4 : Array (Option Value)} {oc4 kV4 dc4 pm4 cd4 ct4 : Value}
    (a4 : PySem.W.nsIn K mainGlobals "is_inner" = some (some (.ref f4))) (l4 : K.lookup f4 = some ⟨oc4, od4, .func (PySem.W.fnOf "is_inner" "is_inner" (defArgs s_is_inner) (defBody s_is_inner) (defScope s_is_inner) .none kV4 dc4 pm4 an4 cd4 ct4), sl4⟩) (c4 : PySem.W.codeIn K cd4 "is_inner" = true) (k4 : PySem.W.keepIn K (.ref f4) = true)
    {f5 : Addr} {od5 an5 : Option Addr} {sl5 : Array (Option Value)} {oc5 kV5 dc5 pm5 cd5 ct5 : Value}
    (a5 : PySem.W.nsIn K mainGlobals "_law_begin" = some (some (.ref f5))) (l5 : K.lookup f5 = some ⟨oc5, od5, .func (PySem.W.fnOf "_law_begin" "_law_begin" (defArgs s__law_begin) (defBody s__law_begin) (defScope s__law_begin) .none kV5 dc5 pm5 an5 cd5 ct5), sl5⟩) (c5 : PySem.W.codeIn K cd5 "_law_begin" = true) (k5 : PySem.W.keepIn K (.ref f5) = true)
    {f6 : Addr} {od6 an6 : Option Addr} {sl6 : Array (Option Value)} {oc6 kV6 dc6 pm6 cd6 ct6 : Value}
    (a6 : PySem.W.nsIn K mainGlobals "_law_draw" = some (some (.ref f6))) (l6 : K.lookup f6 = some ⟨oc6, od6, .func (PySem.W.fnOf "_law_draw" "_law_draw" (defArgs s__law_draw) (defBody s__law_draw) (defScope s__law_draw) .none kV6 dc6 pm6 an6 cd6 ct6), sl6⟩) (c6 : PySem.W.codeIn K cd6 "_law_draw" = true) (k6 : PySem.W.keepIn K (.ref f6) = true)
    {f7 : Addr} {od7 an7 : Option Addr} {sl7 : Array (Option Value)} {oc7 kV7 dc7 pm7 cd7 ct7 : Value}
    (a7 : PySem.W.nsIn K mainGlobals "_law_is_int" = some (some (.ref f7))) (l7 : K.lookup f7 = some ⟨oc7, od7, .func (PySem.W.fnOf "_law_is_int" "_law_is_int" (defArgs s__law_is_int) (defBody s__law_is_int) (defScope s__law_is_int) .none kV7 dc7 pm7 an7 cd7 ct7), sl7⟩) (c7 : PySem.W.codeIn K cd7 "_law_is_int" = true) (k7 : PySem.W.keepIn K (.ref f7) = true)
    {f8 : Addr} {od8 an8 : Option Addr} {sl8 : Array (Option Value)} {oc8 kV8 dc8 pm8 cd8 ct8 : Value}
    (a8 : PySem.W.nsIn K mainGlobals "_law_joined" = some (some (.ref f8))) (l8 : K.lookup f8 = some ⟨oc8, od8, .func (PySem.W.fnOf "_law_joined" "_law_joined" (defArgs s__law_joined) (defBody s__law_joined) (defScope s__law_joined) .none kV8 dc8 pm8 an8 cd8 ct8), sl8⟩) (c8 : PySem.W.codeIn K cd8 "_law_joined" = true) (k8 : PySem.W.keepIn K (.ref f8) = true)
    {f9 : Addr} {od9 an9 : Option Addr} {sl9 : Array (Option Value)} {oc9 kV9 dc9 pm9 cd9 ct9 : Value}
    (a9 : PySem.W.nsIn K mainGlobals "_law_depth" = some (some (.ref f9))) (l9 : K.lookup f9 = some ⟨oc9, od9, .func (PySem.W.fnOf "_law_depth" "_law_depth" (defArgs s__law_depth) (defBody s__law_depth) (defScope s__law_depth) .none kV9 dc9 pm9 an9 cd9 ct9), sl9⟩) (c9 : PySem.W.codeIn K cd9 "_law_depth" = true) (k9 : PySem.W.keepIn K (.ref f9) = true)
    {f10 : Addr} {od10 an10 : Option Addr} {sl10 : Array (Option Value)} {oc10 kV10 dc10 pm10 cd10 ct10 : Value}
    (a10 : PySem.W.nsIn K mainGlobals "integer_end" = some (some (.ref f10))) (l10 : K.lookup f10 = some ⟨oc10, od10, .func (PySem.W.fnOf "integer_end" "integer_end" (defArgs s_integer_end) (defBody s_integer_end) (defScope s_integer_end) .none kV10 dc10 pm10 an10 cd10 ct10), sl10⟩) (c10 : PySem.W.codeIn K cd10 "integer_end" = true) (k10 : PySem.W.keepIn K (.ref f10) = true)
    {f11 : Addr} {od11 an11 : Option Addr} {sl11 : Array (Option Value)} {oc11 kV11 dc11 pm11 cd11 ct11 : Value}
    (a11 : PySem.W.nsIn K mainGlobals "read_bool" = some (some (.ref f11))) (l11 : K.lookup f11 = some ⟨oc11, od11, .func (PySem.W.fnOf "read_bool" "read_bool" (defArgs s_read_bool) (defBody s_read_bool) (defScope s_read_bool) .none kV11 dc11 pm11 an11 cd11 ct11), sl11⟩) (c11 : PySem.W.codeIn K cd11 "read_bool" = true) (k11 : PySem.W.keepIn K (.ref f11) = true)
    {f12 : Addr} {od12 an12 : Option Addr} {sl12 : Array (Option Value)} {oc12 kV12 dc12 pm12 cd12 ct12 : Value}
    (a12 : PySem.W.nsIn K mainGlobals "read_string" = some (some (.ref f12))) (l12 : K.lookup f12 = some ⟨oc12, od12, .func (PySem.W.fnOf "read_string" "read_string" (defArgs s_read_string) (defBody s_read_string) (defScope s_read_string) .none kV12 dc12 pm12 an12 cd12 ct12), sl12⟩) (c12 : PySem.W.codeIn K cd12 "read_string" = true) (k12 : PySem.W.keepIn K (.ref f12) = true)
    {f13 : Addr} {od13 an13 : Option Addr} {sl13 : Array (Option Value)} {oc13 kV13 dc13 pm13 cd13 ct13 : Value}
    (a13 : PySem.W.nsIn K mainGlobals "_law_pick" = some (some (.ref f13))) (l13 : K.lookup f13 = some ⟨oc13, od13, .func (PySem.W.fnOf "_law_pick" "_law_pick" (defArgs s__law_pick) (defBody s__law_pick) (defScope s__law_pick) .none kV13 dc13 pm13 an13 cd13 ct13), sl13⟩) (c13 : PySem.W.codeIn K cd13 "_law_pick" = true) (k13 : PySem.W.keepIn K (.ref f13) = true)
    {f14 : Addr} {od14 an14 : Option Addr} {sl14 : Array (Option Value)} {oc14 kV14 dc14 pm14 cd14 ct14 : Value}
    (a14 : PySem.W.nsIn K mainGlobals "_law_rare" = some (some (.ref f14))) (l14 : K.lookup f14 = some ⟨oc14, od14, .func (PySem.W.fnOf "_law_rare" "_law_rare" (defArgs s__law_rare) (defBody s__law_rare) (defScope s__law_rare) .none kV14 dc14 pm14 an14 cd14 ct14), sl14⟩) (c14 : PySem.W.codeIn K cd14 "_law_rare" = true) (k14 : PySem.W.keepIn K (.ref f14) = true)
    {f15 : Addr} {od15 an15 : Option Addr} {sl15 : Array (Option Value)} {oc15 kV15 dc15 pm15 cd15 ct15 : Value}
    (a15 : PySem.W.nsIn K mainGlobals "_law_shuffled" = some (some (.ref f15))) (l15 : K.lookup f15 = some ⟨oc15, od15, .func (PySem.W.fnOf "_law_shuffled" "_law_shuffled" (defArgs s__law_shuffled) (defBody s__law_shuffled) (defScope s__law_shuffled) .none kV15 dc15 pm15 an15 cd15 ct15), sl15⟩) (c15 : PySem.W.codeIn K cd15 "_law_shuffled" = true) (k15 : PySem.W.keepIn K (.ref f15) = true)
    {f16 : Addr} {od16 an16 : Option Addr} {sl16 : Array (Option Value)} {oc16 kV16 dc16 pm16 cd16 ct16 : Value}
    (a16 : PySem.W.nsIn K mainGlobals "read_integer" = some (some (.ref f16))) (l16 : K.lookup f16 = some ⟨oc16, od16, .func (PySem.W.fnOf "read_integer" "read_integer" (defArgs s_read_integer) (defBody s_read_integer) (defScope s_read_integer) .none kV16 dc16 pm16 an16 cd16 ct16), sl16⟩) (c16 : PySem.W.codeIn K cd16 "read_integer" = true) (k16 : PySem.W.keepIn K (.ref f16) = true)
    {f17 : Addr} {od17 an17 : Option Addr} {sl17 : Array (Option Value)} {oc17 kV17 dc17 pm17 cd17 ct17 : Value}
    (a17 : PySem.W.nsIn K mainGlobals "_law_string" = some (some (.ref f17))) (l17 : K.lookup f17 = some ⟨oc17, od17, .func (PySem.W.fnOf "_law_string" "_law_string" (defArgs s__law_string) (defBody s__law_string) (defScope s__law_string) .none kV17 dc17 pm17 an17 cd17 ct17), sl17⟩) (c17 : PySem.W.codeIn K cd17 "_law_string" = true) (k17 : PySem.W.keepIn K (.ref f17) = true)
    {f18 : Addr} {od18 an18 : Option Addr} {sl18 : Array (Option Value)} {oc18 kV18 dc18 pm18 cd18 ct18 : Value}
    (a18 : PySem.W.nsIn K mainGlobals "_law_number" = some (some (.ref f18))) (l18 : K.lookup f18 = some ⟨oc18, od18, .func (PySem.W.fnOf "_law_number" "_law_number" (defArgs s__law_number) (defBody s__law_number) (defScope s__law_number) .none kV18 dc18 pm18 an18 cd18 ct18), sl18⟩) (c18 : PySem.W.codeIn K cd18 "_law_number" = true) (k18 : PySem.W.keepIn K (.ref f18) = true)
    {f19 : Addr} {od19 an19 : Option Addr} {sl19 : Array (Option Value)} {oc19 kV19 dc19 pm19 cd19 ct19 : Value}
    (a19 : PySem.W.nsIn K mainGlobals "_law_deep" = some (some (.ref f19))) (l19 : K.lookup f19 = some ⟨oc19, od19, .func (PySem.W.fnOf "_law_deep" "_law_deep" (defArgs s__law_deep) (defBody s__law_deep) (defScope s__law_deep) .none kV19 dc19 pm19 an19 cd19 ct19), sl19⟩) (c19 : PySem.W.codeIn K cd19 "_law_deep" = true) (k19 : PySem.W.keepIn K (.ref f19) = true)
    {f20 : Addr} {od20 an20 : Option Addr} {sl20 : Array (Option Value)} {oc20 kV20 dc20 pm20 cd20 ct20 : Value}
    (a20 : PySem.W.nsIn K mainGlobals "read_minus" = some (some (.ref f20))) (l20 : K.lookup f20 = some ⟨oc20, od20, .func (PySem.W.fnOf "read_minus" "read_minus" (defArgs s_read_minus) (defBody s_read_minus) (defScope s_read_minus) .none kV20 dc20 pm20 an20 cd20 ct20), sl20⟩) (c20 : PySem.W.codeIn K cd20 "read_minus" = true) (k20 : PySem.W.keepIn K (.ref f20) = true)
    {f21 : Addr} {od21 an21 : Option Addr} {sl21 : Array (Option Value)} {oc21 kV21 dc21 pm21 cd21 ct21 : Value}
    (a21 : PySem.W.nsIn K mainGlobals "_law_plain" = some (some (.ref f21))) (l21 : K.lookup f21 = some ⟨oc21, od21, .func (PySem.W.fnOf "_law_plain" "_law_plain" (defArgs s__law_plain) (defBody s__law_plain) (defScope s__law_plain) .none kV21 dc21 pm21 an21 cd21 ct21), sl21⟩) (c21 : PySem.W.codeIn K cd21 "_law_plain" = true) (k21 : PySem.W.keepIn K (.ref f21) = true)
    {f22 : Addr} {od22 an22 : Option Addr} {sl22 : Array (Option Value)} {oc22 kV22 dc22 pm22 cd22 ct22 : Value}
    (a22 : PySem.W.nsIn K mainGlobals "_law_value" = some (some (.ref f22))) (l22 : K.lookup f22 = some ⟨oc22, od22, .func (PySem.W.fnOf "_law_value" "_law_value" (defArgs s__law_value) (defBody s__law_value) (defScope s__law_value) .none kV22 dc22 pm22 an22 cd22 ct22), sl22⟩) (c22 : PySem.W.codeIn K cd22 "_law_value" = true) (k22 : PySem.W.keepIn K (.ref f22) = true)
    {f23 : Addr} {od23 an23 : Option Addr} {sl23 : Array (Option Value)} {oc23 kV23 dc23 pm23 cd23 ct23 : Value}
    (a23 : PySem.W.nsIn K mainGlobals "_law_long" = some (some (.ref f23))) (l23 : K.lookup f23 = some ⟨oc23, od23, .func (PySem.W.fnOf "_law_long" "_law_long" (defArgs s__law_long) (defBody s__law_long) (defScope s__law_long) .none kV23 dc23 pm23 an23 cd23 ct23), sl23⟩) (c23 : PySem.W.codeIn K cd23 "_law_long" = true) (k23 : PySem.W.keepIn K (.ref f23) = true)
    {f24 : Addr} {od24 an24 : Option Addr} {sl24 : Array (Option Value)} {oc24 kV24 dc24 pm24 cd24 ct24 : Value}
    (a24 : PySem.W.nsIn K mainGlobals "tuple_text" = some (some (.ref f24))) (l24 : K.lookup f24 = some ⟨oc24, od24, .func (PySem.W.fnOf "tuple_text" "tuple_text" (defArgs s_tuple_text) (defBody s_tuple_text) (defScope s_tuple_text) .none kV24 dc24 pm24 an24 cd24 ct24), sl24⟩) (c24 : PySem.W.codeIn K cd24 "tuple_text" = true) (k24 : PySem.W.keepIn K (.ref f24) = true)
    {f25 : Addr} {od25 an25 : Option Addr} {sl25 : Array (Option Value)} {oc25 kV25 dc25 pm25 cd25 ct25 : Value}
    (a25 : PySem.W.nsIn K mainGlobals "write_value" = some (some (.ref f25))) (l25 : K.lookup f25 = some ⟨oc25, od25, .func (PySem.W.fnOf "write_value" "write_value" (defArgs s_write_value) (defBody s_write_value) (defScope s_write_value) .none kV25 dc25 pm25 an25 cd25 ct25), sl25⟩) (c25 : PySem.W.codeIn K cd25 "write_value" = true) (k25 : PySem.W.keepIn K (.ref f25) = true)
    {f26 : Addr} {od26 an26 : Option Addr} {sl26 : Array (Option Value)} {oc26 kV26 dc26 pm26 cd26 ct26 : Value}
    (a26 : PySem.W.nsIn K mainGlobals "_law_same" = some (some (.ref f26))) (l26 : K.lookup f26 = some ⟨oc26, od26, .func (PySem.W.fnOf "_law_same" "_law_same" (defArgs s__law_same) (defBody s__law_same) (defScope s__law_same) .none kV26 dc26 pm26 an26 cd26 ct26), sl26⟩) (c26 : PySem.W.codeIn K cd26 "_law_same" = true) (k26 : PySem.W.keepIn K (.ref f26) = true)
    {f27 : Addr} {od27 an27 : Option Addr} {sl27 : Array (Option Value)} {oc27 kV27 dc27 pm27 cd27 ct27 : Value}
    (a27 : PySem.W.nsIn K mainGlobals "read_parts" = some (some (.ref f27))) (l27 : K.lookup f27 = some ⟨oc27, od27, .func (PySem.W.fnOf "read_parts" "read_parts" (defArgs s_read_parts) (defBody s_read_parts) (defScope s_read_parts) .none kV27 dc27 pm27 an27 cd27 ct27), sl27⟩) (c27 : PySem.W.codeIn K cd27 "read_parts" = true) (k27 : PySem.W.keepIn K (.ref f27) = true)
    {f28 : Addr} {od28 an28 : Option Addr} {sl28 : Array (Option Value)} {oc28 kV28 dc28 pm28 cd28 ct28 : Value}
    (a28 : PySem.W.nsIn K mainGlobals "read_tuple" = some (some (.ref f28))) (l28 : K.lookup f28 = some ⟨oc28, od28, .func (PySem.W.fnOf "read_tuple" "read_tuple" (defArgs s_read_tuple) (defBody s_read_tuple) (defScope s_read_tuple) .none kV28 dc28 pm28 an28 cd28 ct28), sl28⟩) (c28 : PySem.W.codeIn K cd28 "read_tuple" = true) (k28 : PySem.W.keepIn K (.ref f28) = true)
    {f29 : Addr} {od29 an29 : Option Addr} {sl29 : Array (Option Value)} {oc29 kV29 dc29 pm29 cd29 ct29 : Value}
    (a29 : PySem.W.nsIn K mainGlobals "read_at" = some (some (.ref f29))) (l29 : K.lookup f29 = some ⟨oc29, od29, .func (PySem.W.fnOf "read_at" "read_at" (defArgs s_read_at) (defBody s_read_at) (defScope s_read_at) .none kV29 dc29 pm29 an29 cd29 ct29), sl29⟩) (c29 : PySem.W.codeIn K cd29 "read_at" = true) (k29 : PySem.W.keepIn K (.ref f29) = true)
    {f30 : Addr} {od30 an30 : Option Addr} {sl30 : Array (Option Value)} {oc30 kV30 dc30 pm30 cd30 ct30 : Value}
    (a30 : PySem.W.nsIn K mainGlobals "read_value" = some (some (.ref f30))) (l30 : K.lookup f30 = some ⟨oc30, od30, .func (PySem.W.fnOf "read_value" "read_value" (defArgs s_read_value) (defBody s_read_value) (defScope s_read_value) .none kV30 dc30 pm30 an30 cd30 ct30), sl30⟩) (c30 : PySem.W.codeIn K cd30 "read_value" = true) (k30 : PySem.W.keepIn K (.ref f30) = true)
    {f31 : Addr} {od31 an31 : Option Addr} {sl31 : Array (Option Value)} {oc31 kV31 dc31 pm31 cd31 ct31 : Value}
    (a31 : PySem.W.nsIn K mainGlobals "_law_agrees" = some (some (.ref f31))) (l31 : K.lookup f31 = some ⟨oc31, od31, .func (PySem.W.fnOf "_law_agrees" "_law_agrees" (defArgs s__law_agrees) (defBody s__law_agrees) (defScope s__law_agrees) .none kV31 dc31 pm31 an31 cd31 ct31), sl31⟩) (c31 : PySem.W.codeIn K cd31 "_law_agrees" = true) (k31 : PySem.W.keepIn K (.ref f31) = true)
    {f32 : Addr} {od32 an32 : Option Addr} {sl32 : Array (Option Value)} {oc32 kV32 dc32 pm32 cd32 ct32 : Value}
    (a32 : PySem.W.nsIn K mainGlobals "law" = some (some (.ref f32))) (l32 : K.lookup f32 = some ⟨oc32, od32, .func (PySem.W.fnOf "law" "law" (defArgs s_law) (defBody s_law) (defScope s_law) .none kV32 dc32 pm32 an32 cd32 ct32), sl32⟩) (c32 : PySem.W.codeIn K cd32 "law" = true) (k32 : PySem.W.keepIn K (.ref f32) = true)
    {A_WardenError : Addr} (aC_WardenError : PySem.W.nsIn K mainGlobals "WardenError" = some (some (.ref A_WardenError)))
    {A_BadValue : Addr} (aC_BadValue : PySem.W.nsIn K mainGlobals "BadValue" = some (some (.ref A_BadValue)))
    (ga_WardenError : PySem.W.findIn K (.ref A_WardenError) "__getattribute__" = some (some (.builtin "BaseException.__getattribute__")))
    (gg_WardenError : PySem.W.findIn K (.ref A_WardenError) "__getattr__" = some none)
    (ex_WardenError : PySem.W.subIn K (.ref A_WardenError) (.type "BaseException") = some true)
    (hd_WardenError : PySem.W.hasDictIn K A_WardenError = true)
    (ty_WardenError : PySem.W.typeIn K (.ref A_WardenError) = some (.type "type"))
    (cl_WardenError : PySem.W.findIn K (.ref A_WardenError) "__class__" = some (some (.builtin "object.__class__")))
    (ob_WardenError : PySem.W.mroIn K A_WardenError (.type "object") = some true)
    (se_WardenError : PySem.W.subIn K (.ref A_WardenError) (.ref A_WardenError) = some true)
    (ga_BadValue : PySem.W.findIn K (.ref A_BadValue) "__getattribute__" = some (some (.builtin "BaseException.__getattribute__")))
    (gg_BadValue : PySem.W.findIn K (.ref A_BadValue) "__getattr__" = some none)
    (ex_BadValue : PySem.W.subIn K (.ref A_BadValue) (.type "BaseException") = some true)
    (hd_BadValue : PySem.W.hasDictIn K A_BadValue = true)
    (ty_BadValue : PySem.W.typeIn K (.ref A_BadValue) = some (.type "type"))
    (cl_BadValue : PySem.W.findIn K (.ref A_BadValue) "__class__" = some (some (.builtin "object.__class__")))
    (ob_BadValue : PySem.W.mroIn K A_BadValue (.type "object") = some true)
    (se_BadValue : PySem.W.subIn K (.ref A_BadValue) (.ref A_BadValue) = some true)
    (x_gt : PySem.W.specialIn K (.builtin "object.__class__") "__get__" = some (some (.builtin "getset_descriptor.__get__"))) (x_tk : PySem.W.takesIn K (.builtin "object.__class__") = some true)
    (x_nsup : PySem.W.nsIn K mainGlobals "super" = some none) (x_ntp : PySem.W.nsIn K PySem.cStatics "thirdparty.any" = some none) (x_top : (P.main.scope.names.lookup ("super" : Str)).isSome = false)
    {nm_BadValue q_BadValue : Str} {N_BadValue I_BadValue cda_BadValue cc_BadValue : Addr} {bs_BadValue : List Value} {sn_BadValue : List Str} {sb_BadValue : List Value} {ab_BadValue : Bool} {co_BadValue : Option Bool} {dd_BadValue : Option Addr} {k0_BadValue k1_BadValue k2_BadValue k3_BadValue k5_BadValue : Option Value} {oc_BadValue do_BadValue pm_BadValue ct_BadValue ccl_BadValue cv_BadValue : Value} {od_BadValue an_BadValue cdd_BadValue cld_BadValue : Option Addr} {osl_BadValue ccs_BadValue csl_BadValue : Array (Option Value)} {vs_BadValue : Array Value} {file_BadValue : Str} {tf_BadValue : Tok}
    (xL_BadValue : K.lookup A_BadValue = some (excClassObj nm_BadValue q_BadValue A_BadValue N_BadValue bs_BadValue [.ref A_WardenError, .type "ValueError", .type "Exception", .type "BaseException", .type "object"] true sn_BadValue sb_BadValue ab_BadValue co_BadValue dd_BadValue k0_BadValue k1_BadValue k2_BadValue k3_BadValue k5_BadValue "ValueError.__new__"))
    (sa_BadValue : PySem.W.findIn K (.ref A_BadValue) "__setattr__" = some (some (.builtin "object.__setattr__"))) (iC_BadValue : PySem.W.findIn K (.ref A_BadValue) "__init__" = some (some (.ref I_BadValue))) (tC_BadValue : PySem.W.typeIn K (.ref I_BadValue) = some (.type "function")) (kC_BadValue : PySem.W.keepIn K (.ref A_BadValue) = true)
    (ve_BadValue : PySem.W.subIn K (.ref A_BadValue) (.type "ValueError") = some true) (me_BadValue : PySem.W.mroIn K A_BadValue (.ref A_BadValue) = some true) (su_BadValue : PySem.W.ks_superIn K A_BadValue A_BadValue "__init__" = some (some (.builtin "ValueError.__init__")))
    (lk_BadValue : K.lookup I_BadValue = some ⟨oc_BadValue, od_BadValue, .func (PySem.W.ksFn "__init__" "BadValue.__init__" (defArgs i_BadValue) (defBody i_BadValue) (defScope i_BadValue) .none .none do_BadValue pm_BadValue an_BadValue (.ref cda_BadValue) ct_BadValue cc_BadValue), osl_BadValue⟩) (cd_BadValue : PySem.W.codeIn K (.ref cda_BadValue) "BadValue.__init__" = true)
    (cr_BadValue : K.lookup cda_BadValue = some ⟨ccl_BadValue, cdd_BadValue, .fields vs_BadValue, ccs_BadValue⟩) (vz_BadValue : vs_BadValue[2]? = some (.str file_BadValue tf_BadValue)) (hf_BadValue : ((P.main.file : Str) == file_BadValue) = true) (ce_BadValue : K.lookup cc_BadValue = some ⟨cv_BadValue, cld_BadValue, .cell (some (.ref A_BadValue)), csl_BadValue⟩)
    (n_BadValue_at : PySem.W.findIn K (.ref A_BadValue) "at" = some none)
    {t_FIGURES : Tok} (gl_FIGURES : PySem.W.nsIn K mainGlobals "FIGURES" = some (some (.str "0123456789" t_FIGURES)))
    {t_LETTERS : Tok} (gl_LETTERS : PySem.W.nsIn K mainGlobals "LETTERS" = some (some (.str "abcdefghijklmnopqrstuvwxyzABCDEFGHIJKLMNOPQRSTUVWXYZ" t_LETTERS)))
    {t_OTHERS : Tok} (gl_OTHERS : PySem.W.nsIn K mainGlobals "OTHERS" = some (some (.str "-_ " t_OTHERS)))
    {t_QUOTE : Tok} (gl_QUOTE : PySem.W.nsIn K mainGlobals "QUOTE" = some (some (.str "'" t_QUOTE)))
    {t_MOST_FIGURES : Tok} (gl_MOST_FIGURES : PySem.W.nsIn K mainGlobals "MOST_FIGURES" = some (some (.int (9) t_MOST_FIGURES)))
    {t_MOST_DEPTH : Tok} (gl_MOST_DEPTH : PySem.W.nsIn K mainGlobals "MOST_DEPTH" = some (some (.int (100) t_MOST_DEPTH)))
    (z_abs : PySem.W.nsIn K mainGlobals "abs" = some none)
    (z_all : PySem.W.nsIn K mainGlobals "all" = some none)
    (z_bool : PySem.W.nsIn K mainGlobals "bool" = some none)
    (z_int : PySem.W.nsIn K mainGlobals "int" = some none)
    (z_isinstance : PySem.W.nsIn K mainGlobals "isinstance" = some none)
    (z_len : PySem.W.nsIn K mainGlobals "len" = some none)
    (z_list : PySem.W.nsIn K mainGlobals "list" = some none)
    (z_max : PySem.W.nsIn K mainGlobals "max" = some none)
    (z_range : PySem.W.nsIn K mainGlobals "range" = some none)
    (z_str : PySem.W.nsIn K mainGlobals "str" = some none)
    (z_tuple : PySem.W.nsIn K mainGlobals "tuple" = some none)
    : ∃ fd : FuncData, (∀ (s : Shared) (v : Value), BindsTo s fd ⟨[v], []⟩ [("script", v)]) ∧ ∀ base : Heap, K.In base → base.Ns mainGlobals mg → FnOk P w K mg base (L2.CX P w) 230 fa fd ["script"] (spLaw K) := by
  have e := hfa.symm.trans (PySem.W.mg_of X G a32)
  cases e
  have hn_BadValue : ∀ f ∈ (["at"] : List Str), PySem.W.findIn K (.ref A_BadValue) f = some none := fun f hf => by
      simp only [List.mem_cons, List.not_mem_nil, or_false] at hf
      subst hf
      exact n_BadValue_at
  have T_BadValue : XA.ClsT P K A_BadValue I_BadValue "bad value" ["at"] := XA.clsT_mk (st := i_BadValue) xL_BadValue rfl sa_BadValue hn_BadValue iC_BadValue tC_BadValue kC_BadValue ex_BadValue ve_BadValue ty_BadValue hd_BadValue me_BadValue su_BadValue x_nsup x_ntp lk_BadValue cd_BadValue (by decide +kernel) cr_BadValue vz_BadValue hf_BadValue ce_BadValue (by decide +kernel) (fun s us hl => match us, hl with | [_, _], _ => .of_eq (by first | rfl | with_unfolding_all rfl)) (by decide +kernel) x_top (by decide +kernel)
  have z : Zs P K mg A_WardenError A_BadValue I_BadValue := { b_abs := PySem.W.mg_none_of X G z_abs, b_all := PySem.W.mg_none_of X G z_all, b_bool := PySem.W.mg_none_of X G z_bool, b_int := PySem.W.mg_none_of X G z_int, b_isinstance := PySem.W.mg_none_of X G z_isinstance, b_len := PySem.W.mg_none_of X G z_len, b_list := PySem.W.mg_none_of X G z_list, b_max := PySem.W.mg_none_of X G z_max, b_range := PySem.W.mg_none_of X G z_range, b_str := PySem.W.mg_none_of X G z_str, b_tuple := PySem.W.mg_none_of X G z_tuple, T_BadValue := T_BadValue, F_WardenError := ⟨PySem.W.mg_of X G aC_WardenError, ga_WardenError, gg_WardenError, ex_WardenError, hd_WardenError, ty_WardenError, se_WardenError, cl_WardenError, x_gt, x_tk, ob_WardenError⟩, F_BadValue := ⟨PySem.W.mg_of X G aC_BadValue, ga_BadValue, gg_BadValue, ex_BadValue, hd_BadValue, ty_BadValue, se_BadValue, cl_BadValue, x_gt, x_tk, ob_BadValue⟩, g_FIGURES := XB.gld_str (PySem.W.mg_of X G gl_FIGURES), g_LETTERS := XB.gld_str (PySem.W.mg_of X G gl_LETTERS), g_OTHERS := XB.gld_str (PySem.W.mg_of X G gl_OTHERS), g_QUOTE := XB.gld_str (PySem.W.mg_of X G gl_QUOTE), g_MOST_FIGURES := XB.gld_int (PySem.W.mg_of X G gl_MOST_FIGURES), g_MOST_DEPTH := XB.gld_int (PySem.W.mg_of X G gl_MOST_DEPTH) }
  have F0 := fun_mk (st := s_bool_text) l0 c0 k0
  have F1 := fun_mk (st := s_string_text) l1 c1 k1
  have F2 := fun_mk (st := s_sign_at) l2 c2 k2
  have F3 := fun_mk (st := s_is_figure) l3 c3 k3
  have F4 := fun_mk (st := s_is_inner) l4 c4 k4
  have F5 := fun_mk (st := s__law_begin) l5 c5 k5
  have F6 := fun_mk (st := s__law_draw) l6 c6 k6
  have F7 := fun_mk (st := s__law_is_int) l7 c7 k7
  have F8 := fun_mk (st := s__law_joined) l8 c8 k8
  have F9 := fun_mk (st := s__law_depth) l9 c9 k9
  have F10 := fun_mk (st := s_integer_end) l10 c10 k10
  have F11 := fun_mk (st := s_read_bool) l11 c11 k11
  have F12 := fun_mk (st := s_read_string) l12 c12 k12
  have F13 := fun_mk (st := s__law_pick) l13 c13 k13
  have F14 := fun_mk (st := s__law_rare) l14 c14 k14
  have F15 := fun_mk (st := s__law_shuffled) l15 c15 k15
  have F16 := fun_mk (st := s_read_integer) l16 c16 k16
  have F17 := fun_mk (st := s__law_string) l17 c17 k17
  have F18 := fun_mk (st := s__law_number) l18 c18 k18
  have F19 := fun_mk (st := s__law_deep) l19 c19 k19
  have F20 := fun_mk (st := s_read_minus) l20 c20 k20
  have F21 := fun_mk (st := s__law_plain) l21 c21 k21
  have F22 := fun_mk (st := s__law_value) l22 c22 k22
  have F23 := fun_mk (st := s__law_long) l23 c23 k23
  have F24 := fun_mk (st := s_tuple_text) l24 c24 k24
  have F25 := fun_mk (st := s_write_value) l25 c25 k25
  have F26 := fun_mk (st := s__law_same) l26 c26 k26
  have F27 := fun_mk (st := s_read_parts) l27 c27 k27
  have F28 := fun_mk (st := s_read_tuple) l28 c28 k28
  have F29 := fun_mk (st := s_read_at) l29 c29 k29
  have F30 := fun_mk (st := s_read_value) l30 c30 k30
  have F31 := fun_mk (st := s__law_agrees) l31 c31 k31
  have F32 := fun_mk (st := s_law) l32 c32 k32
  refine ⟨PySem.W.fnOf "law" "law" (defArgs s_law) (defBody s_law) (defScope s_law) .none kV32 dc32 pm32 an32 cd32 ct32, fun s v => .of_eq rfl, fun base _ _ => ?_⟩
  have C_bool_text := k_bool_text (P := P) (w := w) (base := base) z  F0 (PySem.W.mg_of X G a0)
  have C_string_text := k_string_text (P := P) (w := w) (base := base) z  F1 (PySem.W.mg_of X G a1)
  have C_sign_at := k_sign_at (P := P) (w := w) (base := base) z  F2 (PySem.W.mg_of X G a2)
  have C_is_figure := k_is_figure (P := P) (w := w) (base := base) z  F3 (PySem.W.mg_of X G a3)
  have C_is_inner := k_is_inner (P := P) (w := w) (base := base) z  F4 (PySem.W.mg_of X G a4)
  have C__law_draw := k__law_draw (P := P) (w := w) (base := base) z  F6 (PySem.W.mg_of X G a6)
  have C__law_is_int := k__law_is_int (P := P) (w := w) (base := base) z  F7 (PySem.W.mg_of X G a7)
  have C__law_joined := k__law_joined (P := P) (w := w) (base := base) z  F8 (PySem.W.mg_of X G a8)
  have C__law_depth := k__law_depth (P := P) (w := w) (base := base) z  F9 (PySem.W.mg_of X G a9)
  have C_integer_end := k_integer_end (P := P) (w := w) (base := base) z C_sign_at C_is_figure F10 (PySem.W.mg_of X G a10)
  have C_read_bool := k_read_bool (P := P) (w := w) (base := base) z C_sign_at F11 (PySem.W.mg_of X G a11)
  have C_read_string := k_read_string (P := P) (w := w) (base := base) z C_is_inner C_sign_at F12 (PySem.W.mg_of X G a12)
  have C__law_pick := k__law_pick (P := P) (w := w) (base := base) z C__law_draw F13 (PySem.W.mg_of X G a13)
  have C__law_rare := k__law_rare (P := P) (w := w) (base := base) z C__law_draw F14 (PySem.W.mg_of X G a14)
  have C__law_shuffled := k__law_shuffled (P := P) (w := w) (base := base) z C__law_draw F15 (PySem.W.mg_of X G a15)
  have C_read_integer := k_read_integer (P := P) (w := w) (base := base) z C_integer_end F16 (PySem.W.mg_of X G a16)
  have C__law_string := k__law_string (P := P) (w := w) (base := base) z C__law_pick C__law_draw F17 (PySem.W.mg_of X G a17)
  have C__law_number := k__law_number (P := P) (w := w) (base := base) z C__law_pick C__law_draw F18 (PySem.W.mg_of X G a18)
  have C__law_deep := k__law_deep (P := P) (w := w) (base := base) z C__law_pick C__law_depth C__law_joined F19 (PySem.W.mg_of X G a19)
  have C_read_minus := k_read_minus (P := P) (w := w) (base := base) z C_sign_at C_is_figure C_read_integer F20 (PySem.W.mg_of X G a20)
  have C__law_plain := k__law_plain (P := P) (w := w) (base := base) z C__law_draw C__law_number C__law_string F21 (PySem.W.mg_of X G a21)
  have C__law_value := k__law_value (P := P) (w := w) (base := base) z C__law_draw C__law_plain C__law_joined F22 (PySem.W.mg_of X G a22)
  have C__law_long := k__law_long (P := P) (w := w) (base := base) z C__law_draw C__law_joined C__law_plain C__law_pick C__law_string F23 (PySem.W.mg_of X G a23)
  have ⟨C_tuple_text, C_write_value⟩ := k_tuple_text (P := P) (w := w) (base := base) z C_bool_text C_string_text F24 (PySem.W.mg_of X G a24) F25 (PySem.W.mg_of X G a25) 310
  have C__law_same := k__law_same (P := P) (w := w) (base := base) z C__law_is_int F26 (PySem.W.mg_of X G a26) 310
  have ⟨C_read_parts, C_read_tuple, C_read_at⟩ := k_read_parts (P := P) (w := w) (base := base) z C_sign_at C_read_string C_read_bool C_read_minus C_is_figure C_read_integer F27 (PySem.W.mg_of X G a27) F28 (PySem.W.mg_of X G a28) F29 (PySem.W.mg_of X G a29) 310
  have C_read_value := k_read_value (P := P) (w := w) (base := base) z C_read_at F30 (PySem.W.mg_of X G a30)
  have C__law_agrees := k__law_agrees (P := P) (w := w) (base := base) z C_write_value C_read_value C__law_same F31 (PySem.W.mg_of X G a31)
  exact k_law math z C__law_value C__law_shuffled C__law_joined C__law_rare C__law_deep C__law_pick C__law_long C__law_agrees F5 (PySem.W.mg_of X G a5) F32
end K85
open PySem PySem.W PyProof.Rows
set_option maxHeartbeats 0 in
theorem PySem.Challenge.cw_delvewarden_k85_values_there_and_back_holds : PySem.Challenge.rw_delvewarden_k85_values_there_and_back.Holds := by
  w_on; o_law; k_head; (case hw => w_witness2)
  k_fill
  refine L2.walk_of (l := PySem.Challenge.rw_delvewarden_k85_values_there_and_back) (n := 63) (k := 230) (x := "script") (CX := fun w => L2.CX PySem.Challenge.rw_delvewarden_k85_values_there_and_back.prog w) (sp := fun w => PD.spLaw _) rfl (by decide) rfl ⟨rfl, by decide, by decide⟩ (fun w h Y => PySem.W.kIn_of Y) ?F (fun _ _ a ns hl _ hS => ⟨a, ns, rfl, hS, hl, fun _ => rfl⟩) (fun w H s e s' h => by obtain ⟨_, _, _, _, _, _, _, _, _, _, _, _, z⟩ := h; exact z)
  case F =>
    intro w mg fa h KX G hmg
    refine' K85.all_mk K85.math KX G hmg ?a0 ?l0 ?c0 ?k0 ?a1 ?l1 ?c1 ?k1 ?a2 ?l2 ?c2 ?k2 ?a3 ?l3 ?c3 ?k3 ?a4 ?l4 ?c4 ?k4 ?a5 ?l5 ?c5 ?k5 ?a6 ?l6 ?c6 ?k6 ?a7 ?l7 ?c7 ?k7 ?a8 ?l8 ?c8 ?k8 ?a9 ?l9 ?c9 ?k9 ?a10 ?l10 ?c10 ?k10 ?a11 ?l11 ?c11 ?k11 ?a12 ?l12 ?c12 ?k12 ?a13 ?l13 ?c13 ?k13 ?a14 ?l14 ?c14 ?k14 ?a15 ?l15 ?c15 ?k15 ?a16 ?l16 ?c16 ?k16 ?a17 ?l17 ?c17 ?k17 ?a18 ?l18 ?c18 ?k18 ?a19 ?l19 ?c19 ?k19 ?a20 ?l20 ?c20 ?k20 ?a21 ?l21 ?c21 ?k21 ?a22 ?l22 ?c22 ?k22 ?a23 ?l23 ?c23 ?k23 ?a24 ?l24 ?c24 ?k24 ?a25 ?l25 ?c25 ?k25 ?a26 ?l26 ?c26 ?k26 ?a27 ?l27 ?c27 ?k27 ?a28 ?l28 ?c28 ?k28 ?a29 ?l29 ?c29 ?k29 ?a30 ?l30 ?c30 ?k30 ?a31 ?l31 ?c31 ?k31 ?a32 ?l32 ?c32 ?k32 ?aC_WardenError ?aC_BadValue ?ga_WardenError ?gg_WardenError ?ex_WardenError ?hd_WardenError ?ty_WardenError ?cl_WardenError ?ob_WardenError ?se_WardenError ?ga_BadValue ?gg_BadValue ?ex_BadValue ?hd_BadValue ?ty_BadValue ?cl_BadValue ?ob_BadValue ?se_BadValue ?x_gt ?x_tk ?x_nsup ?x_ntp ?x_top ?xL_BadValue ?sa_BadValue ?iC_BadValue ?tC_BadValue ?kC_BadValue ?ve_BadValue ?me_BadValue ?su_BadValue ?lk_BadValue ?cd_BadValue ?cr_BadValue ?vz_BadValue ?hf_BadValue ?ce_BadValue ?n_BadValue_at ?gl_FIGURES ?gl_LETTERS ?gl_OTHERS ?gl_QUOTE ?gl_MOST_FIGURES ?gl_MOST_DEPTH ?z_abs ?z_all ?z_bool ?z_int ?z_isinstance ?z_len ?z_list ?z_max ?z_range ?z_str ?z_tuple
    (case a0 => k_is); (case l0 => k_is); (case c0 => k_is); (case k0 => k_is); (case a1 => k_is); (case l1 => k_is); (case c1 => k_is); (case k1 => k_is)
    (case a2 => k_is); (case l2 => k_is); (case c2 => k_is); (case k2 => k_is); (case a3 => k_is); (case l3 => k_is); (case c3 => k_is); (case k3 => k_is)
    (case a4 => k_is); (case l4 => k_is); (case c4 => k_is); (case k4 => k_is); (case a5 => k_is); (case l5 => k_is); (case c5 => k_is); (case k5 => k_is)
    (case a6 => k_is); (case l6 => k_is); (case c6 => k_is); (case k6 => k_is); (case a7 => k_is); (case l7 => k_is); (case c7 => k_is); (case k7 => k_is)
    (case a8 => k_is); (case l8 => k_is); (case c8 => k_is); (case k8 => k_is); (case a9 => k_is); (case l9 => k_is); (case c9 => k_is); (case k9 => k_is)
    (case a10 => k_is); (case l10 => k_is); (case c10 => k_is); (case k10 => k_is); (case a11 => k_is); (case l11 => k_is); (case c11 => k_is); (case k11 => k_is)
    (case a12 => k_is); (case l12 => k_is); (case c12 => k_is); (case k12 => k_is); (case a13 => k_is); (case l13 => k_is); (case c13 => k_is); (case k13 => k_is)
    (case a14 => k_is); (case l14 => k_is); (case c14 => k_is); (case k14 => k_is); (case a15 => k_is); (case l15 => k_is); (case c15 => k_is); (case k15 => k_is)
    (case a16 => k_is); (case l16 => k_is); (case c16 => k_is); (case k16 => k_is); (case a17 => k_is); (case l17 => k_is); (case c17 => k_is); (case k17 => k_is)
    (case a18 => k_is); (case l18 => k_is); (case c18 => k_is); (case k18 => k_is); (case a19 => k_is); (case l19 => k_is); (case c19 => k_is); (case k19 => k_is)
    (case a20 => k_is); (case l20 => k_is); (case c20 => k_is); (case k20 => k_is); (case a21 => k_is); (case l21 => k_is); (case c21 => k_is); (case k21 => k_is)
    (case a22 => k_is); (case l22 => k_is); (case c22 => k_is); (case k22 => k_is); (case a23 => k_is); (case l23 => k_is); (case c23 => k_is); (case k23 => k_is)
    (case a24 => k_is); (case l24 => k_is); (case c24 => k_is); (case k24 => k_is); (case a25 => k_is); (case l25 => k_is); (case c25 => k_is); (case k25 => k_is)
    (case a26 => k_is); (case l26 => k_is); (case c26 => k_is); (case k26 => k_is); (case a27 => k_is); (case l27 => k_is); (case c27 => k_is); (case k27 => k_is)
    (case a28 => k_is); (case l28 => k_is); (case c28 => k_is); (case k28 => k_is); (case a29 => k_is); (case l29 => k_is); (case c29 => k_is); (case k29 => k_is)
    (case a30 => k_is); (case l30 => k_is); (case c30 => k_is); (case k30 => k_is); (case a31 => k_is); (case l31 => k_is); (case c31 => k_is); (case k31 => k_is)
    (case a32 => k_is); (case l32 => k_is); (case c32 => k_is); (case k32 => k_is); (case aC_WardenError => k_is); (case aC_BadValue => k_is); (case ga_WardenError => k_is); (case gg_WardenError => k_is)
    (case ex_WardenError => k_is); (case hd_WardenError => k_is); (case ty_WardenError => k_is); (case cl_WardenError => k_is); (case ob_WardenError => k_is); (case se_WardenError => first | rfl | k_is); (case ga_BadValue => k_is); (case gg_BadValue => k_is)
    (case ex_BadValue => k_is); (case hd_BadValue => k_is); (case ty_BadValue => k_is); (case cl_BadValue => k_is); (case ob_BadValue => k_is); (case se_BadValue => first | rfl | k_is); (case x_gt => k_is); (case x_tk => k_is)
    (case x_nsup => k_is); (case x_ntp => k_is); (case x_top => first | rfl | decide +kernel); (case xL_BadValue => k_is); (case sa_BadValue => k_is); (case iC_BadValue => k_is); (case tC_BadValue => k_is); (case kC_BadValue => k_is)
    (case ve_BadValue => k_is); (case me_BadValue => k_is); (case su_BadValue => ks_is); (case lk_BadValue => k_is); (case cd_BadValue => k_is); (case cr_BadValue => k_is); (case vz_BadValue => first | rfl | decide +kernel); (case hf_BadValue => first | rfl | decide +kernel)
    (case ce_BadValue => k_is); (case n_BadValue_at => k_is); (case gl_FIGURES => k_is); (case gl_LETTERS => k_is); (case gl_OTHERS => k_is); (case gl_QUOTE => k_is); (case gl_MOST_FIGURES => k_is); (case gl_MOST_DEPTH => k_is)
    (case z_abs => k_is); (case z_all => k_is); (case z_bool => k_is); (case z_int => k_is); (case z_isinstance => k_is); (case z_len => k_is); (case z_list => k_is); (case z_max => k_is)
    (case z_range => k_is); (case z_str => k_is); (case z_tuple => k_is)
end
