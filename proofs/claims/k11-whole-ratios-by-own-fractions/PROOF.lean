import PyProof.Rows.All
import Wide.All
import OpenK.AllK
import Wide.FinOn
import HandS.ForMost
import HandS.Wide
import HandS.WideBits
import HandS.WordsExc
import KE.DataCmp
import HandS.IsInst
import HandS.TupAny
import HandS.Deep
import HandS.Conv
import HandS.RaiseMore
import KE.SortData
import HandS.Flow
import HandS.TupLen
import HandS.ExcOwn
import HandS.Property
import HandS.MakeKwOnly
import HandS.Small
import HandS.Iter
import HandS.Comp
import HandS.Style
import HandS.OwnEq
import KE.KOpsOwn
import KE.KFmtOwn
import HandS.FStr
import HandS.Text
import HandS.SortInts
import HandS.Ends
import HandS.Defaults
import HandS.ClsMeth
import HandS.Codes
import PySem.Challenge.RW_evenloads_k11_whole_ratios_by_own_fracti
set_option Elab.async false
set_option linter.all false
set_option maxRecDepth 100000
set_option maxHeartbeats 4000000
namespace G
open PySem PySem.Spec PyProof.Rows L2

/-! ### data -/
inductive D where
  | non | bl (b : Bool) | int (i : Int) | str (x : Str) | ty (n : String) | cl (c : Nat)
  | lst (xs : List D) | tup (xs : List D) | scr (xs : List D)
  | dk (kvs : List (Key × D)) | dt (kvs : List (List Key × D))
  | obj (c : Nat) (fs : List (String × D))

structure KX where
  K : PySem.W.Frag
  cm : Nat → Addr

mutual
inductive Rep (k : KX) (F : Hp) : V → D → Prop
  | non : Rep k F .non .non
  | bl {b} : Rep k F (.bl b) (.bl b)
  | int {i} : Rep k F (.int i) (.int i)
  | str {x} : Rep k F (.str x) (.str x)
  | ty {n} : Rep k F (.ty n) (.ty n)
  | cl {c} : Rep k F (.ref (k.cm c)) (.cl c)
  | lst {a vs ds} : F a = some (.lst vs) → RepL k F vs ds → Rep k F (.ref a) (.lst ds)
  | scr {a vs ds} : SqL k.K F a vs → RepL k F vs ds → Rep k F (.ref a) (.scr ds)
  | tup {a vs ds} : F a = some (.tup vs) → RepL k F vs ds → Rep k F (.ref a) (.tup ds)
  | dk {a kvs kds} : F a = some (.dK kvs) → RepK k F kvs kds → Rep k F (.ref a) (.dk kds)
  | dt {a kvs kds} : F a = some (.dT kvs) → RepT k F kvs kds → Rep k F (.ref a) (.dt kds)
  | obj {a c dx fvs fs} : F a = some (.ins (k.cm c) dx fvs) → RepF k F fvs fs → Rep k F (.ref a) (.obj c fs)
inductive RepL (k : KX) (F : Hp) : List V → List D → Prop
  | nil : RepL k F [] []
  | cons {v d vs ds} : Rep k F v d → RepL k F vs ds → RepL k F (v :: vs) (d :: ds)
inductive RepK (k : KX) (F : Hp) : List (Key × V) → List (Key × D) → Prop
  | nil : RepK k F [] []
  | cons {q v d vs ds} : Rep k F v d → RepK k F vs ds → RepK k F ((q, v) :: vs) ((q, d) :: ds)
inductive RepT (k : KX) (F : Hp) : List (List Key × V) → List (List Key × D) → Prop
  | nil : RepT k F [] []
  | cons {q v d vs ds} : Rep k F v d → RepT k F vs ds → RepT k F ((q, v) :: vs) ((q, d) :: ds)
inductive RepF (k : KX) (F : Hp) : List (Str × V) → List (String × D) → Prop
  | nil : RepF k F [] []
  | cons {n v d vs ds} : Rep k F v d → RepF k F vs ds → RepF k F ((Str.ofString n, v) :: vs) ((n, d) :: ds)
end

/-- F is part of H -/
def Sub (F H : Hp) : Prop := ∀ a o, F a = some o → H a = some o
theorem Sub.refl (F : Hp) : Sub F F := fun _ _ h => h
theorem Sub.trans {F G H : Hp} (a : Sub F G) (b : Sub G H) : Sub F H := fun x o h => b x o (a x o h)
theorem Sub.upd {F : Hp} {p : Addr} {o : HO} (h : F p = none) : Sub F (L2.upd F p o) := fun a u e => by
  rw [upd_ne (ne_of_none e h)]
  exact e
theorem Sub.none {F H : Hp} {a : Addr} (s : Sub F H) (h : H a = none) : F a = none := by
  cases e : F a with
  | none => rfl
  | some o => rw [s a o e] at h; cases h
theorem Sub.sq {K : PySem.W.Frag} {F H : Hp} {a : Addr} {xs : List V} (e : Sub F H) (h : SqL K F a xs) : SqL K H a xs := by
  rcases h with (h | ⟨o, h⟩) | h
  · exact .inl (.inl (e _ _ h))
  · exact .inl (.inr ⟨o, e _ _ h⟩)
  · exact .inr h
theorem Sub.st {K : PySem.W.Frag} {F H : Hp} {a : Addr} {xs : List V} (e : Sub F H) (h : SqT K F a xs) : SqT K H a xs := by
  rcases h with (h | ⟨o, h⟩) | h
  · exact .inl (.inl (e _ _ h))
  · exact .inl (.inr ⟨o, e _ _ h⟩)
  · exact .inr h

section
variable {k : KX} {F F' : Hp}
mutual
theorem Rep.mono (s : Sub F F') : ∀ {v d}, Rep k F v d → Rep k F' v d
  | _, _, .non => .non
  | _, _, .bl => .bl
  | _, _, .int => .int
  | _, _, .str => .str
  | _, _, .ty => .ty
  | _, _, .cl => .cl
  | _, _, .lst h r => .lst (s _ _ h) (RepL.mono s r)
  | _, _, .scr h r => .scr (s.sq h) (RepL.mono s r)
  | _, _, .tup h r => .tup (s _ _ h) (RepL.mono s r)
  | _, _, .dk h r => .dk (s _ _ h) (RepK.mono s r)
  | _, _, .dt h r => .dt (s _ _ h) (RepT.mono s r)
  | _, _, .obj h r => .obj (s _ _ h) (RepF.mono s r)
theorem RepL.mono (s : Sub F F') : ∀ {v d}, RepL k F v d → RepL k F' v d
  | _, _, .nil => .nil
  | _, _, .cons h r => .cons (Rep.mono s h) (RepL.mono s r)
theorem RepK.mono (s : Sub F F') : ∀ {v d}, RepK k F v d → RepK k F' v d
  | _, _, .nil => .nil
  | _, _, .cons h r => .cons (Rep.mono s h) (RepK.mono s r)
theorem RepT.mono (s : Sub F F') : ∀ {v d}, RepT k F v d → RepT k F' v d
  | _, _, .nil => .nil
  | _, _, .cons h r => .cons (Rep.mono s h) (RepT.mono s r)
theorem RepF.mono (s : Sub F F') : ∀ {v d}, RepF k F v d → RepF k F' v d
  | _, _, .nil => .nil
  | _, _, .cons h r => .cons (Rep.mono s h) (RepF.mono s r)
end
theorem RepL.length : ∀ {vs ds}, RepL k F vs ds → vs.length = ds.length
  | _, _, .nil => rfl
  | _, _, .cons _ r => congrArg Nat.succ (RepL.length r)
theorem RepL.get : ∀ {vs ds} {i : Nat} {d : D}, RepL k F vs ds → ds[i]? = some d → ∃ v, vs[i]? = some v ∧ Rep k F v d
  | _, _, _, _, .nil, e => by simp at e
  | _, _, 0, _, .cons h _, e => by simp at e; subst e; exact ⟨_, rfl, h⟩
  | _, _, i + 1, d, .cons _ r, e => by
    obtain ⟨v, h1, h2⟩ := RepL.get (i := i) (d := d) r (by simpa using e)
    exact ⟨v, by simpa using h1, h2⟩
theorem RepL.getV : ∀ {vs ds} {i : Nat} {v : V}, RepL k F vs ds → vs[i]? = some v → ∃ d, ds[i]? = some d ∧ Rep k F v d
  | _, _, _, _, .nil, e => by simp at e
  | _, _, 0, _, .cons h _, e => by simp at e; subst e; exact ⟨_, rfl, h⟩
  | _, _, i + 1, d, .cons _ r, e => by
    obtain ⟨v, h1, h2⟩ := RepL.getV (i := i) (v := d) r (by simpa using e)
    exact ⟨v, by simpa using h1, h2⟩
theorem RepL.append : ∀ {vs ds ws es}, RepL k F vs ds → RepL k F ws es → RepL k F (vs ++ ws) (ds ++ es)
  | _, _, _, _, .nil, s => s
  | _, _, _, _, .cons h r, s => .cons h (RepL.append r s)
theorem RepL.take : ∀ {vs ds} (n : Nat), RepL k F vs ds → RepL k F (vs.take n) (ds.take n)
  | _, _, 0, _ => .nil
  | _, _, _ + 1, .nil => .nil
  | _, _, n + 1, .cons h t => .cons h (RepL.take n t)
theorem RepL.drop : ∀ {vs ds} (n : Nat), RepL k F vs ds → RepL k F (vs.drop n) (ds.drop n)
  | _, _, 0, r => r
  | _, _, _ + 1, .nil => .nil
  | _, _, n + 1, .cons _ t => RepL.drop n t
theorem RepL.set : ∀ {vs ds} (i : Nat) {v d}, RepL k F vs ds → Rep k F v d → RepL k F (vs.set i v) (ds.set i d)
  | _, _, _, _, _, .nil, _ => .nil
  | _, _, 0, _, _, .cons _ t, h => .cons h t
  | _, _, i + 1, _, _, .cons q t, h => .cons q (RepL.set i t h)
end

/-! ### slots -/
inductive SD where
  | no | val (d : D) | own (d : D) | arg (d : D) | frz (d : D)
abbrev DEnv := List SD

/-- what is owned: nothing else leads to a -/
inductive OwnAt (k : KX) (F H : Hp) (a : Addr) : D → Prop
  | lst {vs ds} : H a = some (.lst vs) → RepL k F vs ds → OwnAt k F H a (.lst ds)
  | dk {kvs kds} : H a = some (.dK kvs) → RepK k F kvs kds → OwnAt k F H a (.dk kds)
  | dt {kvs kds} : H a = some (.dT kvs) → RepT k F kvs kds → OwnAt k F H a (.dt kds)
  | obj {c dx fvs fs} : H a = some (.ins (k.cm c) dx fvs) → RepF k F fvs fs → OwnAt k F H a (.obj c fs)

/-- the frame's own: what stood frozen and what stood at the entry; the slots that hold lent objects -/
structure Fx where
  k : KX
  F0 : Hp
  H0 : Hp
  pr : List (Nat × Addr)

def Lent (φ : Fx) (a : Addr) : Prop := ∃ i, (i, a) ∈ φ.pr

/-- from (F, H) to (F', H'): all but A is as it was, and nothing else is frozen -/
structure Grow (L : Addr → Prop) (F H F' H' : Hp) : Prop where
  ff : Sub F F'
  fh : Sub F' H'
  hh : ∀ a o, H a = some o → ¬ L a → H' a = some o
  nf : ∀ a o, H a = some o → F a = none → ¬ L a → F' a = none
  th : ∀ a, H' a = none → H a = none

def Slot1 (φ : Fx) (F H : Hp) (i : Nat) (v : Option (Option V)) : SD → Prop
  | .no => True
  | .val d => ∃ x, v = some (some x) ∧ Rep φ.k F x d
  | .own d => ∃ a, v = some (some (.ref a)) ∧ F a = none ∧ OwnAt φ.k F H a d ∧ φ.H0 a = none
  | .arg d => ∃ a, v = some (some (.ref a)) ∧ F a = none ∧ OwnAt φ.k F H a d ∧ (i, a) ∈ φ.pr
  | .frz d => ∃ a, v = some (some (.ref a)) ∧ Rep φ.k F (.ref a) d ∧ (i, a) ∈ φ.pr

def SD.owns : SD → Bool
  | .own _ => true
  | .arg _ => true
  | _ => false
def SD.lent : SD → Bool
  | .arg _ => true
  | .frz _ => true
  | _ => false

structure GI (φ : Fx) (F H : Hp) (σ : L2.St) (δ : DEnv) : Prop where
  gr : Grow (Lent φ) φ.F0 φ.H0 F H
  len : σ.length = δ.length
  sl : ∀ (i : Nat) (sd : SD), δ[i]? = some sd → Slot1 φ F H i (σ[i]?) sd
  dis : ∀ (i j : Nat) (a : Addr) (sd se : SD), i ≠ j → δ[i]? = some sd → δ[j]? = some se → sd.owns = true → se.owns = true → σ[i]? = some (some (.ref a)) → σ[j]? = some (some (.ref a)) → False
  pr : ∀ (i : Nat) (a : Addr), (i, a) ∈ φ.pr → ∃ sd : SD, δ[i]? = some sd ∧ sd.lent = true ∧ σ[i]? = some (some (.ref a))
  uq : ∀ (i j : Nat) (a : Addr), (i, a) ∈ φ.pr → (j, a) ∈ φ.pr → i = j
  h0 : ∀ (i : Nat) (a : Addr), (i, a) ∈ φ.pr → φ.H0 a ≠ none

/-! ### results -/
structure Ex where
  cls : Nat ⊕ String
  fs : Option (List (String × D))
def Ex.val (k : KX) (x : Ex) : Value := match x.cls with
  | .inl c => .ref (k.cm c)
  | .inr n => .type n
def XAt (k : KX) (F : Hp) (d : Option Addr) (x : Ex) : Prop := match d, x.fs with
  | none, none => True
  | some a, some fs => ∃ fvs, F a = some (.xd fvs) ∧ RepF k F fvs fs
  | _, _ => False

inductive R (α : Type) where
  | ok (a : α) (e : DEnv)
  | exc (x : Ex) (e : DEnv)
  | bad
abbrev M (α : Type) := DEnv → R α
def M.pure {α : Type} (a : α) : M α := fun δ => .ok a δ
def M.bind {α β : Type} (m : M α) (f : α → M β) : M β := fun δ => match m δ with
  | .ok a δ' => f a δ'
  | .exc x δ' => .exc x δ'
  | .bad => .bad
def badM {α : Type} : M α := fun _ => .bad
def M.map {α β : Type} (f : α → β) (m : M α) : M β := m.bind fun a => M.pure (f a)
instance : Monad M where
  pure := M.pure
  bind := M.bind
def lift {α : Type} (o : Option α) : M α := fun δ => match o with
  | some a => .ok a δ
  | none => .bad

/-- what is to be shown of a result -/
def Out {α : Type} (φ : Fx) (W : WX) (σ : L2.St) (F : Hp) (r : R α) (P : α → DEnv → Hp → Hp → Prop) : Prop := match r with
  | .ok a δ' => ∀ F' H', GI φ F' H' σ δ' → Sub F F' → P a δ' F' H'
  | .exc x δ' => ∀ F' H' da, GI φ F' H' σ δ' → Sub F F' → XAt φ.k F' da x → W (x.val φ.k) da σ H'
  | .bad => False
section
variable {α β : Type} {φ : Fx} {W : WX} {σ : L2.St} {F F' H : Hp} {δ : DEnv}
theorem Out.mono {r : R α} {P P' : α → DEnv → Hp → Hp → Prop} (h : Out φ W σ F r P) (s : Sub F F') (w : ∀ a δ' F1 H1, GI φ F1 H1 σ δ' → Sub F' F1 → P a δ' F1 H1 → P' a δ' F1 H1) : Out φ W σ F' r P' := by
  cases r with
  | ok a δ' => exact fun F1 H1 g s1 => w a δ' F1 H1 g s1 (h F1 H1 g (s.trans s1))
  | exc x δ' => exact fun F1 H1 da g s1 => h F1 H1 da g (s.trans s1)
  | bad => exact h
theorem Out.bind {m : M α} {f : α → M β} {P : β → DEnv → Hp → Hp → Prop} (h : Out φ W σ F (m.bind f δ) P) : Out φ W σ F (m δ) fun a δ1 F1 _ => Out φ W σ F1 (f a δ1) P := by
  unfold M.bind at h
  cases e : m δ with
  | ok a δ1 =>
    rw [e] at h
    exact fun F1 H1 g s => Out.mono h s fun _ _ _ _ _ _ p => p
  | exc x δ1 =>
    rw [e] at h
    exact h
  | bad =>
    rw [e] at h
    exact h
end

/-- an expression's reading: it computes m -/
def tM (φ : Fx) (W : WX) (m : M D) : TE := fun σ H Q => ∃ F δ, GI φ F H σ δ ∧ Out φ W σ F (m δ) fun d _ F' H' => ∀ v, Rep φ.k F' v d → Q v H'
/-- a new object, that no slot leads to -/
structure Fresh (φ : Fx) (σ : L2.St) (δ : DEnv) (F H : Hp) (p : Addr) (d : D) : Prop where
  h0 : φ.H0 p = none
  f : F p = none
  own : OwnAt φ.k F H p d
  nd : ∀ (i : Nat) (sd : SD), δ[i]? = some sd → sd.owns = true → σ[i]? ≠ some (some (.ref p))
/-- .. and is a new object, that nothing else leads to -/
def tN (φ : Fx) (W : WX) (m : M D) : TE := fun σ H Q => ∃ F δ, GI φ F H σ δ ∧ Out φ W σ F (m δ) fun d δ' F' H' => ∀ p, Fresh φ σ δ' F' H' p d → Q (.ref p) H'
abbrev DE (X : Cx) (φ : Fx) (W : WX) (e : Expr) (m : M D) : Prop := PE X e (tM φ W m)
abbrev DN (X : Cx) (φ : Fx) (W : WX) (e : Expr) (m : M D) : Prop := PE X e (tN φ W m)

theorem PE.imp {X : Cx} {e : Expr} {t t' : TE} (h : PE X e t) (i : ∀ σ H Q, t' σ H Q → t σ H Q) : PE X e t' := ⟨fun pins s σ H Q I hw => h.run pins s σ H Q I (i σ H Q hw)⟩
theorem PT.imp {X : Cx} {e : Expr} {t t' : TT} (h : PT X e t) (i : ∀ σ H Q, t' σ H Q → t σ H Q) : PT X e t' := ⟨fun pins s σ H Q I hw => h.run pins s σ H Q I (i σ H Q hw)⟩
theorem PS.imp {X : Cx} {e : Stmt} {t t' : TS} (h : PS X e t) (i : ∀ D σ H, t' D σ H → t D σ H) : PS X e t' := ⟨fun pins s σ H D I hw => h.run pins s σ H D I (i D σ H hw)⟩
theorem PSs.imp {X : Cx} {e : List Stmt} {t t' : TS} (h : PSs X e t) (i : ∀ D σ H, t' D σ H → t D σ H) : PSs X e t' := ⟨fun pins s σ H D I hw => h.run pins s σ H D I (i D σ H hw)⟩

end G
set_option maxRecDepth 100000
set_option maxHeartbeats 4000000
namespace G
open PySem PySem.Spec PyProof.Rows L2

/-- frozen, or an owned object -/
def RepO (k : KX) (F H : Hp) (v : V) (d : D) : Prop := Rep k F v d ∨ ∃ a, v = .ref a ∧ F a = none ∧ OwnAt k F H a d
/-- objects were made (and perhaps frozen), nothing else happened -/
structure New (F H F' H' : Hp) : Prop where
  ff : Sub F F'
  fh : Sub F' H'
  hh : Sub H H'
  nf : ∀ a o, H a = some o → F a = none → F' a = none
theorem New.th {F H F' H' : Hp} (n : New F H F' H') (a : Addr) (h : H' a = none) : H a = none := n.hh.none h
theorem New.refl {F H : Hp} (s : Sub F H) : New F H F H := ⟨Sub.refl F, s, Sub.refl H, fun _ _ _ h => h⟩
theorem New.trans {F H F1 H1 F2 H2 : Hp} (a : New F H F1 H1) (b : New F1 H1 F2 H2) : New F H F2 H2 :=
  ⟨a.ff.trans b.ff, b.fh, a.hh.trans b.hh, fun x o h f => b.nf x o (a.hh x o h) (a.nf x o h f)⟩
theorem New.made {F H : Hp} {p : Addr} {o : HO} (s : Sub F H) (h : H p = none) : New F H F (upd H p o) :=
  ⟨Sub.refl F, s.trans (Sub.upd h), Sub.upd h, fun _ _ _ f => f⟩
/-- made, and frozen at once -/
theorem New.froze {F H : Hp} {p : Addr} {o : HO} (s : Sub F H) (h : H p = none) : New F H (upd F p o) (upd H p o) := by
  have hf := s.none h
  refine ⟨Sub.upd hf, fun a u e => ?_, Sub.upd h, fun a u e f => ?_⟩
  · by_cases x : a = p
    · subst x
      rw [upd_same] at e ⊢
      exact e
    · rw [upd_ne x] at e ⊢
      exact s _ _ e
  · rw [upd_ne (ne_of_none e h)]
    exact f

/-- a slot frozen -/
def SD.frozen : SD → SD
  | .own d => .val d
  | .arg d => .frz d
  | x => x
def SD.get? : SD → Option D
  | .no => none
  | .val d => some d
  | .own d => some d
  | .arg d => some d
  | .frz d => some d
section
variable {φ : Fx} {F F' H H' : Hp} {σ : L2.St} {δ : DEnv} {k : KX}
theorem OwnAt.mono {a : Addr} {d : D} (h : OwnAt k F H a d) (s : Sub F F') (e : ∀ o, H a = some o → H' a = some o) : OwnAt k F' H' a d := by
  cases h with
  | lst h r => exact .lst (e _ h) (r.mono s)
  | dk h r => exact .dk (e _ h) (r.mono s)
  | dt h r => exact .dt (e _ h) (r.mono s)
  | obj h r => exact .obj (e _ h) (r.mono s)
theorem OwnAt.there {a : Addr} {d : D} (h : OwnAt k F H a d) : ∃ o, H a = some o := by
  cases h with
  | lst h r => exact ⟨_, h⟩
  | dk h r => exact ⟨_, h⟩
  | dt h r => exact ⟨_, h⟩
  | obj h r => exact ⟨_, h⟩
theorem OwnAt.ne {a : Addr} {d : D} (h : OwnAt k F H a d) : H a ≠ none := fun e => by
  obtain ⟨o, q⟩ := h.there
  rw [e] at q
  cases q
/-- the owned object is frozen -/
theorem OwnAt.froze {a : Addr} {d : D} (h : OwnAt k F H a d) (f : F a = none) : ∃ o, H a = some o ∧ Rep k (upd F a o) (.ref a) d := by
  cases h with
  | lst h r => exact ⟨_, h, .lst upd_same (r.mono (Sub.upd f))⟩
  | dk h r => exact ⟨_, h, .dk upd_same (r.mono (Sub.upd f))⟩
  | dt h r => exact ⟨_, h, .dt upd_same (r.mono (Sub.upd f))⟩
  | obj h r => exact ⟨_, h, .obj upd_same (r.mono (Sub.upd f))⟩
theorem Slot1.new {i : Nat} {v : Option (Option V)} {sd : SD} (h : Slot1 φ F H i v sd) (n : New F H F' H') : Slot1 φ F' H' i v sd := by
  cases sd with
  | no => trivial
  | val d => obtain ⟨x, e, r⟩ := h; exact ⟨x, e, r.mono n.ff⟩
  | own d =>
    obtain ⟨a, e, f, o, z⟩ := h
    obtain ⟨u, hu⟩ := o.there
    exact ⟨a, e, n.nf a u hu f, o.mono n.ff (fun _ => n.hh _ _), z⟩
  | arg d =>
    obtain ⟨a, e, f, o, z⟩ := h
    obtain ⟨u, hu⟩ := o.there
    exact ⟨a, e, n.nf a u hu f, o.mono n.ff (fun _ => n.hh _ _), z⟩
  | frz d => obtain ⟨a, e, r, z⟩ := h; exact ⟨a, e, r.mono n.ff, z⟩
theorem GI.fh (g : GI φ F H σ δ) : Sub F H := g.gr.fh
theorem GI.new (g : GI φ F H σ δ) (n : New F H F' H') : GI φ F' H' σ δ where
  gr := ⟨g.gr.ff.trans n.ff, n.fh, fun a o h l => n.hh _ _ (g.gr.hh a o h l), fun a o h f l => n.nf a o (g.gr.hh a o h l) (g.gr.nf a o h f l), fun a h => g.gr.th a (n.th a h)⟩
  len := g.len
  sl := fun i sd e => (g.sl i sd e).new n
  dis := g.dis
  pr := g.pr
  uq := g.uq
  h0 := g.h0
/-- an owned slot's object -/
theorem GI.owned (g : GI φ F H σ δ) {i : Nat} {sd : SD} (e : δ[i]? = some sd) (o : sd.owns = true) : ∃ a d, sd.get? = some d ∧ σ[i]? = some (some (.ref a)) ∧ F a = none ∧ OwnAt φ.k F H a d := by
  have h := g.sl i sd e
  cases sd with
  | no => cases o
  | val d => cases o
  | frz d => cases o
  | own d => obtain ⟨a, e, f, w, z⟩ := h; exact ⟨a, d, rfl, e, f, w⟩
  | arg d => obtain ⟨a, e, f, w, z⟩ := h; exact ⟨a, d, rfl, e, f, w⟩
/-- a slot that is not owned -/
theorem GI.kept (g : GI φ F H σ δ) {i : Nat} {sd : SD} {d : D} (e : δ[i]? = some sd) (o : sd.owns = false) (hd : sd.get? = some d) : ∃ v, σ[i]? = some (some v) ∧ Rep φ.k F v d := by
  have h := g.sl i sd e
  cases sd with
  | no => cases hd
  | val d => cases hd; exact h
  | own d => cases o
  | arg d => cases o
  | frz d => cases hd; obtain ⟨a, e, r, _⟩ := h; exact ⟨_, e, r⟩
/-- what is free now was free at the entry -/
theorem GI.free (g : GI φ F H σ δ) {p : Addr} (h : H p = none) : φ.H0 p = none := g.gr.th p h

theorem GI.notLent (g : GI φ F H σ δ) {p : Addr} (h : φ.H0 p = none) : ¬ Lent φ p := fun ⟨i, q⟩ => g.h0 i p q h
/-- freezing what is fresh -/
theorem GI.frozeNew (g : GI φ F H σ δ) {p : Addr} {d : D} (x : Fresh φ σ δ F H p d) : ∃ F', GI φ F' H σ δ ∧ Sub F F' ∧ Rep φ.k F' (.ref p) d := by
  obtain ⟨o, h, r⟩ := x.own.froze x.f
  refine ⟨upd F p o, ?_, Sub.upd x.f, r⟩
  have s : Sub F (upd F p o) := Sub.upd x.f
  refine ⟨⟨g.gr.ff.trans s, fun a u e => ?_, g.gr.hh, fun a u e f l => ?_, g.gr.th⟩, g.len, fun i sd e => ?_, g.dis, g.pr, g.uq, g.h0⟩
  · by_cases q : a = p
    · subst q
      rw [upd_same] at e
      cases e
      exact h
    · rw [upd_ne q] at e
      exact g.fh _ _ e
  · rw [upd_ne (fun z => by rw [z, x.h0] at e; cases e)]
    exact g.gr.nf a u e f l
  · have h1 := g.sl i sd e
    cases sd with
    | no => trivial
    | val d => obtain ⟨y, e, r⟩ := h1; exact ⟨y, e, r.mono s⟩
    | own d =>
      obtain ⟨a, e', f, w, z⟩ := h1
      refine ⟨a, e', ?_, w.mono s (fun _ z => z), z⟩
      rw [upd_ne (fun z => x.nd i _ e rfl (by rw [e', z]))]
      exact f
    | arg d =>
      obtain ⟨a, e', f, w, z⟩ := h1
      refine ⟨a, e', ?_, w.mono s (fun _ z => z), z⟩
      rw [upd_ne (fun z => x.nd i _ e rfl (by rw [e', z]))]
      exact f
    | frz d => obtain ⟨a, e, r, z⟩ := h1; exact ⟨a, e, r.mono s, z⟩

theorem GI.froze (g : GI φ F H σ δ) {i : Nat} {sd : SD} {d : D} (e : δ[i]? = some sd) (hd : sd.get? = some d) : ∃ F' v, GI φ F' H σ (δ.set i sd.frozen) ∧ Sub F F' ∧ σ[i]? = some (some v) ∧ Rep φ.k F' v d := by
  have hi : i < δ.length := (List.getElem?_eq_some_iff.mp e).1
  have lk : ∀ {j : Nat} {se : SD}, (δ.set i sd.frozen)[j]? = some se → (j = i ∧ se = sd.frozen) ∨ (j ≠ i ∧ δ[j]? = some se) := fun {j se} h => by
    by_cases q : j = i
    · subst q
      rw [List.getElem?_set_self hi] at h
      exact .inl ⟨rfl, (Option.some.inj h).symm⟩
    · rw [List.getElem?_set_ne (Ne.symm q)] at h
      exact .inr ⟨q, h⟩
  cases ow : sd.owns with
  | false =>
    obtain ⟨v, e1, r⟩ := g.kept e ow hd
    have hs : δ.set i sd.frozen = δ := by
      have : sd.frozen = sd := by cases sd <;> first | rfl | cases ow
      rw [this]
      apply List.ext_getElem?
      intro j
      by_cases q : i = j
      · subst q
        rw [List.getElem?_set_self hi, e]
      · rw [List.getElem?_set_ne q]
    rw [hs]
    exact ⟨F, v, g, Sub.refl F, e1, r⟩
  | true =>
    obtain ⟨a, d', hd', e', f, w⟩ := g.owned e ow
    rw [hd] at hd'
    cases hd'
    obtain ⟨o, h, r⟩ := w.froze f
    have s : Sub F (upd F a o) := Sub.upd f
    have notl : sd.frozen.owns = false := by cases sd <;> first | rfl | cases ow
    have la : ∀ u, φ.H0 a = some u → Lent φ a := fun u hu => by
      have h1 := g.sl i sd e
      cases sd with
      | no => cases ow
      | val _ => cases ow
      | frz _ => cases ow
      | own d2 =>
        obtain ⟨a2, q1, _, _, q2⟩ := h1
        rw [e'] at q1
        cases q1
        rw [q2] at hu
        cases hu
      | arg d2 =>
        obtain ⟨a2, q1, _, _, q2⟩ := h1
        rw [e'] at q1
        cases q1
        exact ⟨i, q2⟩
    refine ⟨upd F a o, .ref a, ⟨⟨g.gr.ff.trans s, fun b u q => ?_, g.gr.hh, fun b u q f' l => ?_, g.gr.th⟩, ?_, fun j se q => ?_, fun j1 j2 b s1 s2 n q1 q2 o1 o2 v1 v2 => ?_, fun j b q => ?_, g.uq, g.h0⟩, s, e', r⟩
    · by_cases z : b = a
      · subst z
        rw [upd_same] at q
        cases q
        exact h
      · rw [upd_ne z] at q
        exact g.fh _ _ q
    · by_cases z : b = a
      · subst z
        exact absurd (la u q) l
      · rw [upd_ne z]
        exact g.gr.nf b u q f' l
    · rw [List.length_set]
      exact g.len
    · rcases lk q with ⟨rfl, rfl⟩ | ⟨z, q⟩
      · have h1 := g.sl j sd e
        cases sd with
        | no => cases ow
        | val _ => cases ow
        | frz _ => cases ow
        | own d2 =>
          cases hd
          exact ⟨.ref a, e', r⟩
        | arg d2 =>
          cases hd
          obtain ⟨a2, q1, _, _, q2⟩ := h1
          rw [e'] at q1
          cases q1
          exact ⟨a, e', r, q2⟩
      · have h1 := g.sl j se q
        cases se with
        | no => trivial
        | val d => obtain ⟨y, e, r⟩ := h1; exact ⟨y, e, r.mono s⟩
        | own d =>
          obtain ⟨b, e1, f1, w1, z1⟩ := h1
          refine ⟨b, e1, ?_, w1.mono s (fun _ z => z), z1⟩
          rw [upd_ne (fun y => g.dis j i b _ _ z q e rfl ow e1 (by rw [e', y]))]
          exact f1
        | arg d =>
          obtain ⟨b, e1, f1, w1, z1⟩ := h1
          refine ⟨b, e1, ?_, w1.mono s (fun _ z => z), z1⟩
          rw [upd_ne (fun y => g.dis j i b _ _ z q e rfl ow e1 (by rw [e', y]))]
          exact f1
        | frz d => obtain ⟨b, e, r, z⟩ := h1; exact ⟨b, e, r.mono s, z⟩
    · rcases lk q1 with ⟨_, rfl⟩ | ⟨_, q1⟩
      · rw [notl] at o1
        cases o1
      · rcases lk q2 with ⟨_, rfl⟩ | ⟨_, q2⟩
        · rw [notl] at o2
          cases o2
        · exact g.dis j1 j2 b s1 s2 n q1 q2 o1 o2 v1 v2
    · obtain ⟨sd', q1, q2, q3⟩ := g.pr j b q
      by_cases z : j = i
      · subst z
        rw [e] at q1
        cases q1
        refine ⟨sd.frozen, List.getElem?_set_self hi, ?_, q3⟩
        cases sd <;> first | rfl | cases q2
      · exact ⟨sd', by rw [List.getElem?_set_ne (Ne.symm z)]; exact q1, q2, q3⟩

/-- a slot is stored anew -/
theorem GI.store (g : GI φ F H σ δ) {i : Nat} {sd : SD} {v : V} {d : D} (e : δ[i]? = some sd) (hl : sd.lent = false) (r : Rep φ.k F v d) : GI φ F H (σ.set i (some v)) (δ.set i (.val d)) := by
  have hi : i < δ.length := (List.getElem?_eq_some_iff.mp e).1
  have hi' : i < σ.length := by rw [g.len]; exact hi
  have lk : ∀ {j : Nat} {se : SD}, (δ.set i (.val d))[j]? = some se → (j = i ∧ se = .val d) ∨ (j ≠ i ∧ δ[j]? = some se) := fun {j se} h => by
    by_cases q : j = i
    · subst q
      rw [List.getElem?_set_self hi] at h
      exact .inl ⟨rfl, (Option.some.inj h).symm⟩
    · rw [List.getElem?_set_ne (Ne.symm q)] at h
      exact .inr ⟨q, h⟩
  refine ⟨g.gr, by rw [List.length_set, List.length_set]; exact g.len, fun j se q => ?_, fun j1 j2 b s1 s2 n q1 q2 o1 o2 v1 v2 => ?_, fun j b q => ?_, g.uq, g.h0⟩
  · rcases lk q with ⟨rfl, rfl⟩ | ⟨z, q⟩
    · exact ⟨v, List.getElem?_set_self hi', r⟩
    · rw [List.getElem?_set_ne (Ne.symm z)]
      exact g.sl j se q
  · rcases lk q1 with ⟨_, rfl⟩ | ⟨z1, q1⟩
    · cases o1
    · rcases lk q2 with ⟨_, rfl⟩ | ⟨z2, q2⟩
      · cases o2
      · rw [List.getElem?_set_ne (Ne.symm z1)] at v1
        rw [List.getElem?_set_ne (Ne.symm z2)] at v2
        exact g.dis j1 j2 b s1 s2 n q1 q2 o1 o2 v1 v2
  · obtain ⟨sd', q1, q2, q3⟩ := g.pr j b q
    by_cases z : j = i
    · subst z
      rw [e] at q1
      cases q1
      rw [hl] at q2
      cases q2
    · exact ⟨sd', by rw [List.getElem?_set_ne (Ne.symm z)]; exact q1, q2, by rw [List.getElem?_set_ne (Ne.symm z)]; exact q3⟩
/-- .. with a new object of its own -/
theorem GI.storeOwn (g : GI φ F H σ δ) {i : Nat} {sd : SD} {p : Addr} {d : D} (e : δ[i]? = some sd) (hl : sd.lent = false) (x : Fresh φ σ δ F H p d) : GI φ F H (σ.set i (some (.ref p))) (δ.set i (.own d)) := by
  have hi : i < δ.length := (List.getElem?_eq_some_iff.mp e).1
  have hi' : i < σ.length := by rw [g.len]; exact hi
  have lk : ∀ {j : Nat} {se : SD}, (δ.set i (.own d))[j]? = some se → (j = i ∧ se = .own d) ∨ (j ≠ i ∧ δ[j]? = some se) := fun {j se} h => by
    by_cases q : j = i
    · subst q
      rw [List.getElem?_set_self hi] at h
      exact .inl ⟨rfl, (Option.some.inj h).symm⟩
    · rw [List.getElem?_set_ne (Ne.symm q)] at h
      exact .inr ⟨q, h⟩
  refine ⟨g.gr, by rw [List.length_set, List.length_set]; exact g.len, fun j se q => ?_, fun j1 j2 b s1 s2 n q1 q2 o1 o2 v1 v2 => ?_, fun j b q => ?_, g.uq, g.h0⟩
  · rcases lk q with ⟨rfl, rfl⟩ | ⟨z, q⟩
    · exact ⟨p, List.getElem?_set_self hi', x.f, x.own, x.h0⟩
    · rw [List.getElem?_set_ne (Ne.symm z)]
      exact g.sl j se q
  · rcases lk q1 with ⟨y1, rfl⟩ | ⟨z1, q1⟩
    · rcases lk q2 with ⟨y2, rfl⟩ | ⟨z2, q2'⟩
      · exact n (y1.trans y2.symm)
      · rw [y1, List.getElem?_set_self hi'] at v1
        rw [List.getElem?_set_ne (Ne.symm z2)] at v2
        exact x.nd j2 s2 q2' o2 (v2.trans v1.symm)
    · rcases lk q2 with ⟨y2, rfl⟩ | ⟨z2, q2'⟩
      · rw [y2, List.getElem?_set_self hi'] at v2
        rw [List.getElem?_set_ne (Ne.symm z1)] at v1
        exact x.nd j1 s1 q1 o1 (v1.trans v2.symm)
      · rw [List.getElem?_set_ne (Ne.symm z1)] at v1
        rw [List.getElem?_set_ne (Ne.symm z2)] at v2
        exact g.dis j1 j2 b s1 s2 n q1 q2' o1 o2 v1 v2
  · obtain ⟨sd', q1, q2, q3⟩ := g.pr j b q
    by_cases z : j = i
    · subst z
      rw [e] at q1
      cases q1
      rw [hl] at q2
      cases q2
    · exact ⟨sd', by rw [List.getElem?_set_ne (Ne.symm z)]; exact q1, q2, by rw [List.getElem?_set_ne (Ne.symm z)]; exact q3⟩
def SD.with (d : D) : SD → SD
  | .own _ => .own d
  | .arg _ => .arg d
  | x => x
/-- the object of an owned slot is changed in place -/
theorem GI.write (g : GI φ F H σ δ) {i : Nat} {sd : SD} {a : Addr} {d : D} {o : HO} (e : δ[i]? = some sd) (ow : sd.owns = true) (ea : σ[i]? = some (some (.ref a))) (n : OwnAt φ.k F (upd H a o) a d) : GI φ F (upd H a o) σ (δ.set i (sd.with d)) := by
  have hi : i < δ.length := (List.getElem?_eq_some_iff.mp e).1
  have lk : ∀ {j : Nat} {se : SD}, (δ.set i (sd.with d))[j]? = some se → (j = i ∧ se = sd.with d) ∨ (j ≠ i ∧ δ[j]? = some se) := fun {j se} h => by
    by_cases q : j = i
    · subst q
      rw [List.getElem?_set_self hi] at h
      exact .inl ⟨rfl, (Option.some.inj h).symm⟩
    · rw [List.getElem?_set_ne (Ne.symm q)] at h
      exact .inr ⟨q, h⟩
  obtain ⟨a', d', hd', e', f, w⟩ := g.owned e ow
  rw [ea] at e'
  cases e'
  have la : ∀ u, φ.H0 a = some u → Lent φ a := fun u hu => by
    have h1 := g.sl i sd e
    cases sd with
    | no => cases ow
    | val _ => cases ow
    | frz _ => cases ow
    | own d2 =>
      obtain ⟨a2, q1, _, _, q2⟩ := h1
      rw [ea] at q1
      cases q1
      rw [q2] at hu
      cases hu
    | arg d2 =>
      obtain ⟨a2, q1, _, _, q2⟩ := h1
      rw [ea] at q1
      cases q1
      exact ⟨i, q2⟩
  refine ⟨⟨g.gr.ff, fun b u q => ?_, fun b u q l => ?_, g.gr.nf, fun b q => ?_⟩, by rw [List.length_set]; exact g.len, fun j se q => ?_, fun j1 j2 b s1 s2 nn q1 q2 o1 o2 v1 v2 => ?_, fun j b q => ?_, g.uq, g.h0⟩
  · rw [upd_ne (fun z => by rw [z, f] at q; cases q)]
    exact g.fh _ _ q
  · by_cases z : b = a
    · subst z
      exact absurd (la u q) l
    · rw [upd_ne z]
      exact g.gr.hh b u q l
  · by_cases z : b = a
    · subst z
      rw [upd_same] at q
      cases q
    · rw [upd_ne z] at q
      exact g.gr.th b q
  · rcases lk q with ⟨rfl, rfl⟩ | ⟨z, q⟩
    · have h1 := g.sl j sd e
      cases sd with
      | no => cases ow
      | val _ => cases ow
      | frz _ => cases ow
      | own d2 =>
        obtain ⟨a2, q1, q3, _, q2⟩ := h1
        rw [ea] at q1
        cases q1
        exact ⟨a, ea, q3, n, q2⟩
      | arg d2 =>
        obtain ⟨a2, q1, q3, _, q2⟩ := h1
        rw [ea] at q1
        cases q1
        exact ⟨a, ea, q3, n, q2⟩
    · have h1 := g.sl j se q
      cases se with
      | no => trivial
      | val d => exact h1
      | own d =>
        obtain ⟨b, e1, f1, w1, z1⟩ := h1
        refine ⟨b, e1, f1, w1.mono (Sub.refl F) (fun u hu => ?_), z1⟩
        rw [upd_ne (fun y => g.dis j i b _ _ z q e rfl ow e1 (by rw [ea, y]))]
        exact hu
      | arg d =>
        obtain ⟨b, e1, f1, w1, z1⟩ := h1
        refine ⟨b, e1, f1, w1.mono (Sub.refl F) (fun u hu => ?_), z1⟩
        rw [upd_ne (fun y => g.dis j i b _ _ z q e rfl ow e1 (by rw [ea, y]))]
        exact hu
      | frz d => exact h1
  · have oo : ∀ {j : Nat} {se : SD}, (δ.set i (sd.with d))[j]? = some se → se.owns = true → ∃ se', δ[j]? = some se' ∧ se'.owns = true := fun {j se} q o => by
      rcases lk q with ⟨rfl, _⟩ | ⟨_, q⟩
      · exact ⟨sd, e, ow⟩
      · exact ⟨se, q, o⟩
    obtain ⟨s1', q1', o1'⟩ := oo q1 o1
    obtain ⟨s2', q2', o2'⟩ := oo q2 o2
    exact g.dis j1 j2 b s1' s2' nn q1' q2' o1' o2' v1 v2
  · obtain ⟨sd', q1, q2, q3⟩ := g.pr j b q
    by_cases z : j = i
    · subst z
      rw [e] at q1
      cases q1
      refine ⟨_, List.getElem?_set_self hi, ?_, q3⟩
      cases sd <;> first | rfl | cases q2
    · exact ⟨sd', by rw [List.getElem?_set_ne (Ne.symm z)]; exact q1, q2, q3⟩
/-- what is new now is fresh -/
theorem GI.fresh (g : GI φ F H σ δ) {p : Addr} {d : D} (h : H p = none) (f : F' p = none) (w : OwnAt φ.k F' H' p d) : Fresh φ σ δ F' H' p d := by
  refine ⟨g.free h, f, w, fun i sd e o z => ?_⟩
  obtain ⟨a, d', _, e', _, w'⟩ := g.owned e o
  rw [e'] at z
  cases z
  exact w'.ne h
end
end G
set_option maxRecDepth 100000
set_option maxHeartbeats 4000000
namespace G
open PySem PySem.Spec PyProof.Rows L2

/-! ### what a value of a datum is -/
section
variable {k : KX} {F H : Hp} {v : V}
theorem RepO.of {d : D} (h : Rep k F v d) : RepO k F H v d := .inl h
theorem RepO.int {i : Int} (h : RepO k F H v (.int i)) : v = .int i := by
  rcases h with h | ⟨a, _, _, h⟩
  · cases h; rfl
  · cases h
theorem RepO.bl {i : Bool} (h : RepO k F H v (.bl i)) : v = .bl i := by
  rcases h with h | ⟨a, _, _, h⟩
  · cases h; rfl
  · cases h
theorem RepO.str {i : Str} (h : RepO k F H v (.str i)) : v = .str i := by
  rcases h with h | ⟨a, _, _, h⟩
  · cases h; rfl
  · cases h
theorem RepO.non (h : RepO k F H v .non) : v = .non := by
  rcases h with h | ⟨a, _, _, h⟩
  · cases h; rfl
  · cases h
theorem RepO.ty {n : String} (h : RepO k F H v (.ty n)) : v = .ty n := by
  rcases h with h | ⟨a, _, _, h⟩
  · cases h; rfl
  · cases h
theorem RepO.cl {n : Nat} (h : RepO k F H v (.cl n)) : v = .ref (k.cm n) := by
  rcases h with h | ⟨a, _, _, h⟩
  · cases h; rfl
  · cases h
theorem RepO.lst {xs : List D} (h : RepO k F H v (.lst xs)) (s : Sub F H) : ∃ a vs, v = .ref a ∧ H a = some (.lst vs) ∧ RepL k F vs xs := by
  rcases h with h | ⟨a, e, _, h⟩
  · cases h with
    | lst h r => exact ⟨_, _, rfl, s _ _ h, r⟩
  · cases h with
    | lst h r => exact ⟨_, _, e, h, r⟩
theorem RepO.tup {xs : List D} (h : RepO k F H v (.tup xs)) (s : Sub F H) : ∃ a vs, v = .ref a ∧ H a = some (.tup vs) ∧ RepL k F vs xs := by
  rcases h with h | ⟨a, e, _, h⟩
  · cases h with
    | tup h r => exact ⟨_, _, rfl, s _ _ h, r⟩
  · cases h
theorem RepO.scr {xs : List D} (h : RepO k F H v (.scr xs)) (s : Sub F H) : ∃ a vs, v = .ref a ∧ SqL k.K H a vs ∧ RepL k F vs xs := by
  rcases h with h | ⟨a, e, _, h⟩
  · cases h with
    | scr h r => exact ⟨_, _, rfl, s.sq h, r⟩
  · cases h
theorem RepO.dk {xs : List (Key × D)} (h : RepO k F H v (.dk xs)) (s : Sub F H) : ∃ a vs, v = .ref a ∧ H a = some (.dK vs) ∧ RepK k F vs xs := by
  rcases h with h | ⟨a, e, _, h⟩
  · cases h with
    | dk h r => exact ⟨_, _, rfl, s _ _ h, r⟩
  · cases h with
    | dk h r => exact ⟨_, _, e, h, r⟩
theorem RepO.dt {xs : List (List Key × D)} (h : RepO k F H v (.dt xs)) (s : Sub F H) : ∃ a vs, v = .ref a ∧ H a = some (.dT vs) ∧ RepT k F vs xs := by
  rcases h with h | ⟨a, e, _, h⟩
  · cases h with
    | dt h r => exact ⟨_, _, rfl, s _ _ h, r⟩
  · cases h with
    | dt h r => exact ⟨_, _, e, h, r⟩
theorem RepO.obj {c : Nat} {xs : List (String × D)} (h : RepO k F H v (.obj c xs)) (s : Sub F H) : ∃ a dx vs, v = .ref a ∧ H a = some (.ins (k.cm c) dx vs) ∧ RepF k F vs xs := by
  rcases h with h | ⟨a, e, _, h⟩
  · cases h with
    | obj h r => exact ⟨_, _, _, rfl, s _ _ h, r⟩
  · cases h with
    | obj h r => exact ⟨_, _, _, e, h, r⟩
end

/-! ### operands: computed, or a slot that is looked at when its turn comes -/
inductive Opd where
  | m (m : M D)
  | s (i : Nat)
def pk (i : Nat) : M D := fun δ => match δ[i]? with
  | some (.val d) => .ok d δ
  | some (.own d) => .ok d δ
  | some (.arg d) => .ok d δ
  | some (.frz d) => .ok d δ
  | _ => .bad
/-- a name's value, to keep: an owned object is frozen -/
def getV (i : Nat) : M D := fun δ => match δ[i]? with
  | some (.val d) => .ok d δ
  | some (.own d) => .ok d (δ.set i (.val d))
  | some (.arg d) => .ok d (δ.set i (.frz d))
  | some (.frz d) => .ok d δ
  | _ => .bad
def Opd.p1 : Opd → M (Option D)
  | .m x => x.bind fun d => M.pure (some d)
  | .s i => (pk i).bind fun _ => M.pure none
def Opd.p2 : Opd → Option D → M D
  | .m _, some d => M.pure d
  | .s i, none => pk i
  | _, _ => badM
def tO (φ : Fx) (W : WX) : Opd → TE
  | .m x => tM φ W x
  | .s i => tVar i
abbrev DO (X : Cx) (φ : Fx) (W : WX) (e : Expr) (o : Opd) : Prop := PE X e (tO φ W o)
/-- the value of an operand before its turn -/
def Late (φ : Fx) (σ : L2.St) (F : Hp) (v : V) : Opd → Option D → Prop
  | .m _, some d => Rep φ.k F v d
  | .s i, none => σ[i]? = some (some v)
  | _, _ => False

section
variable {X : Cx} {φ : Fx} {W : WX} {F F' H H' : Hp} {σ : L2.St} {δ : DEnv} {e : Expr} {Q : VK}
theorem pk_ok {i : Nat} {δ' : DEnv} {d : D} (h : pk i δ = .ok d δ') : δ' = δ ∧ ∃ sd : SD, δ[i]? = some sd ∧ sd.get? = some d := by
  unfold pk at h
  split at h <;> first | (cases h; exact ⟨rfl, _, by assumption, rfl⟩) | cases h
theorem pk_bad {i : Nat} : pk i δ = .bad ∨ ∃ d, pk i δ = .ok d δ := by
  unfold pk
  split <;> first | exact .inr ⟨_, rfl⟩ | exact .inl rfl
theorem GI.look (g : GI φ F H σ δ) {i : Nat} {sd : SD} {d : D} (e : δ[i]? = some sd) (hd : sd.get? = some d) : ∃ v, σ[i]? = some (some v) ∧ RepO φ.k F H v d := by
  cases ow : sd.owns with
  | false =>
    obtain ⟨v, h, r⟩ := g.kept e ow hd
    exact ⟨v, h, .inl r⟩
  | true =>
    obtain ⟨a, d', hd', h, f, w⟩ := g.owned e ow
    rw [hd] at hd'
    cases hd'
    exact ⟨_, h, .inr ⟨a, rfl, f, w⟩⟩
theorem Late.mono {v : V} {o : Opd} {x : Option D} (h : Late φ σ F v o x) (s : Sub F F') : Late φ σ F' v o x := by
  cases o with
  | m m =>
    cases x with
    | none => exact h
    | some d => exact Rep.mono s h
  | s i => cases x <;> exact h
/-- at its turn -/
theorem Late.now {α : Type} {v : V} {o : Opd} {x : Option D} {f : D → M α} {P : α → DEnv → Hp → Hp → Prop} (h : Late φ σ F v o x) (g : GI φ F H σ δ) (q : Out φ W σ F ((o.p2 x).bind f δ) P) :
    ∃ d, RepO φ.k F H v d ∧ Out φ W σ F (f d δ) P := by
  cases o with
  | m m =>
    cases x with
    | none => exact h.elim
    | some d => exact ⟨d, .inl h, q⟩
  | s i =>
    cases x with
    | some d => exact h.elim
    | none =>
      change Out φ W σ F ((pk i).bind f δ) P at q
      rcases pk_bad (δ := δ) (i := i) with z | ⟨d, z⟩
      · unfold M.bind at q
        rw [z] at q
        exact q.elim
      · unfold M.bind at q
        rw [z] at q
        obtain ⟨_, sd, e1, e2⟩ := pk_ok z
        obtain ⟨v', e3, r⟩ := g.look e1 e2
        have h' : σ[i]? = some (some v) := h
        rw [h'] at e3
        cases e3
        exact ⟨d, r, q⟩
/-- an operand is evaluated -/
theorem tO_run {α : Type} {o : Opd} {f : Option D → M α} {P : α → DEnv → Hp → Hp → Prop} (g : GI φ F H σ δ) (q : Out φ W σ F (o.p1.bind f δ) P)
    (h : ∀ x v δ' F' H', GI φ F' H' σ δ' → Sub F F' → Late φ σ F' v o x → Out φ W σ F' (f x δ') P → Q v H') : tO φ W o σ H Q := by
  have q2 := q.bind
  cases o with
  | m m =>
    refine ⟨F, δ, g, ?_⟩
    change Out φ W σ F ((m.bind fun d => M.pure (some d)) δ) _ at q2
    refine q2.bind.mono (Sub.refl F) fun d δ' F' H' g' s' z v r => ?_
    exact h (some d) v δ' F' H' g' s' r (z F' H' g' (Sub.refl F'))
  | s i =>
    change Out φ W σ F (((pk i).bind fun _ => M.pure none) δ) _ at q2
    rcases pk_bad (δ := δ) (i := i) with z | ⟨d, z⟩
    · unfold M.bind at q2
      rw [z] at q2
      exact q2.elim
    · unfold M.bind at q2
      rw [z] at q2
      obtain ⟨_, sd, e1, e2⟩ := pk_ok z
      obtain ⟨v, e3, r⟩ := g.look e1 e2
      exact ⟨v, e3, h none v δ F H g (Sub.refl F) e3 (q2 F H g (Sub.refl F))⟩
theorem do_m {m : M D} (h : DE X φ W e m) : DO X φ W e (.m m) := h
theorem do_s (i : Nat) {x : Str} {pos : Pos} (hN : X.N[i]? = some x := by rfl) (hv : Vis X.env.scope x := by first | exact Or.inl rfl | exact Or.inr (Or.inl rfl) | exact Or.inr (Or.inr rfl)) (hd : (x == ("__debug__" : Str)) = false := by decide)
    (hcd : (x == ("__classdict__" : Str)) = false := by decide) : DO X φ W (.Name x pos) (.s i) := pe_var hN hv hd hcd

/-! ### names and constants -/
theorem tM_pure {d : D} {v : V} (h : tM φ W (M.pure d) σ H Q) (r : ∀ F, Rep φ.k F v d) : Q v H := by
  obtain ⟨F, δ, g, q⟩ := h
  exact q F H g (Sub.refl F) v (r F)
theorem d_int {i j pos} : DE X φ W (.Constant (.int i) j pos) (M.pure (.int i)) := PE.imp pe_int fun _ _ _ h => tM_pure h fun _ => .int
theorem d_bl {b j pos} : DE X φ W (.Constant (.bool b) j pos) (M.pure (.bl b)) := PE.imp pe_bl fun _ _ _ h => tM_pure h fun _ => .bl
theorem d_non {j pos} : DE X φ W (.Constant .none j pos) (M.pure .non) := PE.imp pe_non fun _ _ _ h => tM_pure h fun _ => .non
theorem d_str {x j pos} : DE X φ W (.Constant (.str x) j pos) (M.pure (.str x)) := PE.imp pe_str fun _ _ _ h => tM_pure h fun _ => .str
theorem d_var (i : Nat) {x : Str} {pos : Pos} (hN : X.N[i]? = some x := by rfl) (hv : Vis X.env.scope x := by first | exact Or.inl rfl | exact Or.inr (Or.inl rfl) | exact Or.inr (Or.inr rfl)) (hd : (x == ("__debug__" : Str)) = false := by decide)
    (hcd : (x == ("__classdict__" : Str)) = false := by decide) : DE X φ W (.Name x pos) (getV i) := PE.imp (pe_var hN hv hd hcd) fun σ H Q h => by
  obtain ⟨F, δ, g, q⟩ := h
  have key : ∀ {sd : SD} {d : D}, δ[i]? = some sd → sd.get? = some d → getV i δ = .ok d (δ.set i sd.frozen) → tVar i σ H Q := fun {sd d} e1 e2 e3 => by
    obtain ⟨F', v, g', s, e4, r⟩ := g.froze e1 e2
    rw [e3] at q
    exact ⟨v, e4, q F' H g' s v r⟩
  have same : ∀ {sd : SD}, δ[i]? = some sd → sd.frozen = sd → δ.set i sd.frozen = δ := fun {sd} e f => by
    rw [f]
    apply List.ext_getElem?
    intro j
    by_cases z : i = j
    · subst z
      rw [List.getElem?_set_self (List.getElem?_eq_some_iff.mp e).1, e]
    · rw [List.getElem?_set_ne z]
  cases e : δ[i]? with
  | none =>
    unfold getV at q
    rw [e] at q
    exact q.elim
  | some sd =>
    cases sd with
    | no =>
      unfold getV at q
      rw [e] at q
      exact q.elim
    | val d => exact key e rfl (by unfold getV; rw [e, same e rfl])
    | own d => exact key e rfl (by unfold getV; rw [e]; rfl)
    | arg d => exact key e rfl (by unfold getV; rw [e]; rfl)
    | frz d => exact key e rfl (by unfold getV; rw [e, same e rfl])
/-- a constant of the module -/
theorem d_glob {x : Str} {v : V} {u : Value} {d : D} {pos : Pos} (hg : Gl X x) (hm : X.mg x = some u) (r : RelV v u) (rd : ∀ F, Rep φ.k F v d) (hd : (x == ("__debug__" : Str)) = false := by decide) : DE X φ W (.Name x pos) (M.pure d) :=
  PE.imp (pe_glob hg hm r hd) fun _ _ _ h => tM_pure h rd
/-- a built-in type as a value -/
theorem d_bty {x : Str} {n : String} {pos : Pos} (hg : Gl X x) (hm : X.mg x = none) (hv : bootBuiltins x = some (.type n)) (hn : x ≠ "__name__" := by decide) (hd : (x == ("__debug__" : Str)) = false := by decide) : DE X φ W (.Name x pos) (M.pure (.ty n)) :=
  PE.imp (pe_bltn (v := .ty n) hg hm hv rfl hn hd) fun _ _ _ h => tM_pure h fun _ => .ty
end

/-! ### operations on values -/
def OpV (k : KX) (r : R2) (f : D → D → Option D) : Prop := ∀ F H v1 v2 d1 d2 d, Sub F H → RepO k F H v1 d1 → RepO k F H v2 d2 → f d1 d2 = some d → ∀ Q : VK, (∀ F' H' v, New F H F' H' → Rep k F' v d → Q v H') → r v1 v2 H Q
/-- .. whose value is a new object -/
def OpN (k : KX) (r : R2) (f : D → D → Option D) : Prop := ∀ F H v1 v2 d1 d2 d, Sub F H → RepO k F H v1 d1 → RepO k F H v2 d2 → f d1 d2 = some d → ∀ Q : VK, (∀ F' H' p, New F H F' H' → H p = none → F' p = none → OwnAt k F' H' p d → Q (.ref p) H') → r v1 v2 H Q
def UnV (k : KX) (r : V → Hp → VK → Prop) (f : D → Option D) : Prop := ∀ F H v1 d1 d, Sub F H → RepO k F H v1 d1 → f d1 = some d → ∀ Q : VK, (∀ F' H' v, New F H F' H' → Rep k F' v d → Q v H') → r v1 H Q
inductive RepOs (k : KX) (F H : Hp) : List V → List D → Prop
  | nil : RepOs k F H [] []
  | cons {v d vs ds} : RepO k F H v d → RepOs k F H vs ds → RepOs k F H (v :: vs) (d :: ds)
def CaV (k : KX) (r : List V → Hp → VK → Prop) (f : List D → Option D) : Prop := ∀ F H vs ds d, Sub F H → RepOs k F H vs ds → f ds = some d → ∀ Q : VK, (∀ F' H' v, New F H F' H' → Rep k F' v d → Q v H') → r vs H Q
def CaN (k : KX) (r : List V → Hp → VK → Prop) (f : List D → Option D) : Prop := ∀ F H vs ds d, Sub F H → RepOs k F H vs ds → f ds = some d → ∀ Q : VK, (∀ F' H' p, New F H F' H' → H p = none → F' p = none → OwnAt k F' H' p d → Q (.ref p) H') → r vs H Q

theorem New.froze1 {k : KX} {F H F' H' : Hp} {p : Addr} {d : D} (n : New F H F' H') (h : H p = none) (f : F' p = none) (w : OwnAt k F' H' p d) : ∃ F'', New F H F'' H' ∧ Rep k F'' (.ref p) d := by
  obtain ⟨o, e, r⟩ := w.froze f
  refine ⟨upd F' p o, ⟨n.ff.trans (Sub.upd f), fun a u q => ?_, n.hh, fun a u q z => ?_⟩, r⟩
  · by_cases y : a = p
    · subst y
      rw [upd_same] at q
      cases q
      exact e
    · rw [upd_ne y] at q
      exact n.fh _ _ q
  · rw [upd_ne (ne_of_none q h)]
    exact n.nf a u q z
theorem OpN.v {k : KX} {r : R2} {f : D → D → Option D} (h : OpN k r f) : OpV k r f := fun F H v1 v2 d1 d2 d s r1 r2 e Q q =>
  h F H v1 v2 d1 d2 d s r1 r2 e Q fun F' H' p n h1 h2 w => by
    obtain ⟨F'', n', r'⟩ := n.froze1 h1 h2 w
    exact q F'' H' _ n' r'
theorem CaN.v {k : KX} {r : List V → Hp → VK → Prop} {f : List D → Option D} (h : CaN k r f) : CaV k r f := fun F H vs ds d s r1 e Q q =>
  h F H vs ds d s r1 e Q fun F' H' p n h1 h2 w => by
    obtain ⟨F'', n', r'⟩ := n.froze1 h1 h2 w
    exact q F'' H' _ n' r'

def binM (f : D → D → Option D) (a b : Opd) : M D := a.p1.bind fun x => b.p1.bind fun y => (a.p2 x).bind fun dx => (b.p2 y).bind fun dy => lift (f dx dy)
def unM (f : D → Option D) (a : Opd) : M D := a.p1.bind fun x => (a.p2 x).bind fun dx => lift (f dx)
section
variable {X : Cx} {φ : Fx} {W : WX} {F F' H H' : Hp} {σ : L2.St} {δ : DEnv} {e a b : Expr} {Q : VK} {oa ob : Opd}
theorem Out.lift {α : Type} {o : Option α} {P : α → DEnv → Hp → Hp → Prop} (h : Out φ W σ F (lift o δ) P) : ∃ x, o = some x ∧ Out φ W σ F (.ok x δ) P := by
  cases o with
  | none => exact h.elim
  | some x => exact ⟨x, rfl, h⟩
/-- an operation at the end -/
theorem tOp_bin {r : R2} {f : D → D → Option D} (hr : OpV φ.k r f) (h : tM φ W (binM f oa ob) σ H Q) : tOp r (tO φ W oa) (tO φ W ob) σ H Q := by
  obtain ⟨F, δ, g, q⟩ := h
  refine tO_run g q fun x v1 δ1 F1 H1 g1 s1 l1 q1 => ?_
  refine tO_run g1 q1 fun y v2 δ2 F2 H2 g2 s2 l2 q2 => ?_
  obtain ⟨d1, r1, q3⟩ := (l1.mono s2).now g2 q2
  obtain ⟨d2, r2, q4⟩ := l2.now g2 q3
  obtain ⟨d, e, q5⟩ := q4.lift
  exact hr F2 H2 v1 v2 d1 d2 d g2.fh r1 r2 e Q fun F' H' v n rv => q5 F' H' (g2.new n) n.ff v rv
theorem tOp_binN {r : R2} {f : D → D → Option D} (hr : OpN φ.k r f) (h : tN φ W (binM f oa ob) σ H Q) : tOp r (tO φ W oa) (tO φ W ob) σ H Q := by
  obtain ⟨F, δ, g, q⟩ := h
  refine tO_run g q fun x v1 δ1 F1 H1 g1 s1 l1 q1 => ?_
  refine tO_run g1 q1 fun y v2 δ2 F2 H2 g2 s2 l2 q2 => ?_
  obtain ⟨d1, r1, q3⟩ := (l1.mono s2).now g2 q2
  obtain ⟨d2, r2, q4⟩ := l2.now g2 q3
  obtain ⟨d, e, q5⟩ := q4.lift
  exact hr F2 H2 v1 v2 d1 d2 d g2.fh r1 r2 e Q fun F' H' p n h1 h2 w => q5 F' H' (g2.new n) n.ff p (g2.fresh h1 h2 w)
theorem tUn_un {r : V → Hp → VK → Prop} {f : D → Option D} (hr : UnV φ.k r f) (h : tM φ W (unM f oa) σ H Q) : tUn r (tO φ W oa) σ H Q := by
  obtain ⟨F, δ, g, q⟩ := h
  refine tO_run g q fun x v1 δ1 F1 H1 g1 s1 l1 q1 => ?_
  obtain ⟨d1, r1, q3⟩ := l1.now g1 q1
  obtain ⟨d, e, q5⟩ := q3.lift
  exact hr F1 H1 v1 d1 d g1.fh r1 e Q fun F' H' v n rv => q5 F' H' (g1.new n) n.ff v rv
/-- what is new may be kept as any value -/
theorem DN.kept {e : Expr} {m : M D} (h : DN X φ W e m) : DE X φ W e m := PE.imp h fun σ H Q q => by
  obtain ⟨F, δ, g, q⟩ := q
  refine ⟨F, δ, g, ?_⟩
  cases z : m δ with
  | bad =>
    rw [z] at q
    exact q
  | exc x δ' =>
    rw [z] at q
    exact q
  | ok d δ' =>
    rw [z] at q
    intro F' H' g' s' p x
    obtain ⟨F'', g2, s2, r⟩ := g'.frozeNew x
    exact q F'' H' g2 (s'.trans s2) _ r
variable {pos : Pos}
theorem d_bin {op : Operator} {r : R2} {f : D → D → Option D} (hr : OpV φ.k r f) (ho : OpR X (binaryOp op) r) (ha : DO X φ W a oa) (hb : DO X φ W b ob) : DE X φ W (.BinOp a op b pos) (binM f oa ob) :=
  PE.imp (pe_op ho ha hb) fun _ _ _ h => tOp_bin hr h
theorem d_binN {op : Operator} {r : R2} {f : D → D → Option D} (hr : OpN φ.k r f) (ho : OpR X (binaryOp op) r) (ha : DO X φ W a oa) (hb : DO X φ W b ob) : DN X φ W (.BinOp a op b pos) (binM f oa ob) :=
  PE.imp (pe_op ho ha hb) fun _ _ _ h => tOp_binN hr h
theorem d_cmp {op : CmpOp} {r : R2} {f : D → D → Option D} (hr : OpV φ.k r f) (ho : OpR X (compareOp op) r) (ha : DO X φ W a oa) (hb : DO X φ W b ob) (hm : behindInMarks op b = false) : DE X φ W (.Compare a [op] [b] pos) (binM f oa ob) :=
  PE.imp (pe_cmpR ho ha hb hm) fun _ _ _ h => tOp_bin hr h
theorem d_un {op : UnaryOp} {r : V → Hp → VK → Prop} {f : D → Option D} (hr : UnV φ.k r f) (ho : UnR X (unaryOp op) r) (ha : DO X φ W a oa) : DE X φ W (.UnaryOp op a pos) (unM f oa) :=
  PE.imp (pe_un ho ha) fun _ _ _ h => tUn_un hr h
end
end G
set_option maxRecDepth 100000
set_option maxHeartbeats 4000000
namespace G
open PySem PySem.Spec PyProof.Rows L2

/-! ### data without objects, as the library has it -/
mutual
def toP : D → Option PyData
  | .non => some .none
  | .bl b => some (.bool b)
  | .int i => some (.int i)
  | .str x => some (.str x)
  | .lst xs => (toPs xs).map .list
  | .tup xs => (toPs xs).map .tuple
  | _ => none
def toPs : List D → Option (List PyData)
  | [] => some []
  | x :: xs => match toP x, toPs xs with
    | some a, some b => some (a :: b)
    | _, _ => none
end
section
variable {k : KX} {F H : Hp}
mutual
theorem toP_dp (s : Sub F H) : ∀ {d : D} {v : V} {p : PyData}, Rep k F v d → toP d = some p → Dp k.K H v p
  | _, _, _, .non, h => by cases h; exact .non
  | _, _, _, .bl, h => by cases h; exact .bl _
  | _, _, _, .int, h => by cases h; exact .int _
  | _, _, _, .str, h => by cases h; exact .str _
  | _, _, _, .ty, h => by cases h
  | _, _, _, .cl, h => by cases h
  | _, _, _, .scr _ _, h => by cases h
  | _, _, _, .dk _ _, h => by cases h
  | _, _, _, .dt _ _, h => by cases h
  | _, _, _, .obj _ _, h => by cases h
  | .lst xs, _, _, .lst e r, h => by
    cases q : toPs xs with
    | none => rw [toP, q] at h; cases h
    | some ps =>
      rw [toP, q] at h
      cases h
      exact .lst (.of (s _ _ e)) (toPs_dp s r q)
  | .tup xs, _, _, .tup e r, h => by
    cases q : toPs xs with
    | none => rw [toP, q] at h; cases h
    | some ps =>
      rw [toP, q] at h
      cases h
      exact .tup (.of (s _ _ e)) (toPs_dp s r q)
theorem toPs_dp (s : Sub F H) : ∀ {ds : List D} {vs : List V} {ps : List PyData}, RepL k F vs ds → toPs ds = some ps → DpAll k.K H vs ps
  | _, _, _, .nil, h => by cases h; exact .nil
  | x :: xs, _, _, .cons r rs, h => by
    cases q1 : toP x with
    | none => rw [toPs, q1] at h; cases h
    | some a =>
      cases q2 : toPs xs with
      | none => rw [toPs, q1, q2] at h; cases h
      | some b =>
        rw [toPs, q1, q2] at h
        cases h
        exact .cons (toP_dp s r q1) (toPs_dp s rs q2)
end
theorem RepO.dp {d : D} {v : V} {p : PyData} (r : RepO k F H v d) (s : Sub F H) (h : toP d = some p) : Dp k.K H v p := by
  rcases r with r | ⟨a, rfl, f, w⟩
  · exact toP_dp s r h
  · cases w with
    | lst e r =>
      rename_i vs ds
      cases q : toPs ds with
      | none => rw [toP, q] at h; cases h
      | some ps =>
        rw [toP, q] at h
        cases h
        exact .lst (.of e) (toPs_dp s r q)
    | dk e r => cases h
    | dt e r => cases h
    | obj e r => cases h
end

/-! ### whole numbers -/
def mulOk (i j : Int) : Bool := decide (i.natAbs.log2 + j.natAbs.log2 < 1000000)
def divOk (j : Int) : Bool := decide (j ≠ 0 ∧ j.natAbs.log2 < 9000)
def powOk (i j : Int) : Bool := decide (0 ≤ j ∧ j ≤ 1000000 ∧ i.natAbs < 2 ^ 64)
def shortS (n : Nat) : Bool := decide (n ≤ sizeLine)
def addD : D → D → Option D
  | .int i, .int j => some (.int (i + j))
  | .str x, .str y => if shortS (x.length + y.length) then some (.str (x ++ y)) else none
  | .tup xs, .tup ys => if shortS (xs.length + ys.length) then some (.tup (xs ++ ys)) else none
  | .lst xs, .lst ys => if shortS (xs.length + ys.length) then some (.lst (xs ++ ys)) else none
  | _, _ => none
def catD : D → D → Option D
  | .lst xs, .lst ys => if shortS (xs.length + ys.length) then some (.lst (xs ++ ys)) else none
  | _, _ => none
def subD : D → D → Option D
  | .int i, .int j => some (.int (i - j))
  | _, _ => none
def mulD : D → D → Option D
  | .int i, .int j => if mulOk i j then some (.int (i * j)) else none
  | .lst xs, .int j => if j < 2 ^ 63 ∧ 0 ≤ j ∧ shortS (xs.length * j.toNat) = true then some (.lst (List.replicate j.toNat xs).flatten) else none
  | _, _ => none
def repD : D → D → Option D
  | .lst xs, .int j => if j < 2 ^ 63 ∧ 0 ≤ j ∧ shortS (xs.length * j.toNat) = true then some (.lst (List.replicate j.toNat xs).flatten) else none
  | _, _ => none
def fdivD : D → D → Option D
  | .int i, .int j => if divOk j then some (.int (i.fdiv j)) else none
  | _, _ => none
def modD : D → D → Option D
  | .int i, .int j => if j ≠ 0 then some (.int (i.fmod j)) else none
  | _, _ => none
def powD : D → D → Option D
  | .int i, .int j => if powOk i j then some (.int (i ^ j.toNat)) else none
  | _, _ => none
def negD : D → Option D
  | .int i => some (.int (-i))
  | _ => none

def rAddG (K : PySem.W.Frag) : R2 := fun x y H Q => (∃ i j, x = .int i ∧ y = .int j ∧ Q (.int (i + j)) H) ∨ (∃ i j, x = .str i ∧ y = .str j ∧ i.length + j.length ≤ sizeLine ∧ Q (.str (i ++ j)) H) ∨ rCatA K x y H Q ∨ rCat x y H Q
def rMulG : R2 := fun x y H Q => rI CMulW (fun i j => .int (i * j)) x y H Q ∨ rRep x y H Q
section
variable {X : Cx}
theorem op_addG : OpR X (binaryOp .Add) (rAddG X.K) := op_add.or (op_add_str.or (op_catA.or op_cat))
theorem op_mulG : OpR X (binaryOp .Mult) rMulG := op_mulW.or op_rep
theorem op_fdivG : OpR X (binaryOp .FloorDiv) (rI (fun _ j => j ≠ 0 ∧ j.natAbs.log2 < 9000) fun i j => .int (i.fdiv j)) := opI fun _ _ _ _ _ _ _ hc q => floordiv_int hc.1 q (.inl (PyProof.noPylong_of_log2 hc.2))
end
section
variable {k : KX}
theorem New.app {F H : Hp} {p : Addr} {o : HO} (s : Sub F H) (h : H p = none) : New F H F (upd H p o) ∧ F p = none := ⟨New.made s h, s.none h⟩
theorem ov_cat : OpN k rCat catD := by
  intro F H v1 v2 d1 d2 d s r1 r2 e Q q
  unfold catD at e
  split at e
  · obtain ⟨a, vs, rfl, ha, l1⟩ := r1.lst s
    obtain ⟨b, ws, rfl, hb, l2⟩ := r2.lst s
    split at e
    · rename_i hz
      cases e
      refine ⟨a, b, vs, ws, rfl, rfl, ha, hb, ?_, fun p hp => ?_⟩
      · rw [l1.length, l2.length]
        exact of_decide_eq_true hz
      · exact q F _ p (New.made s hp) hp (s.none hp) (.lst upd_same (l1.append l2))
    · cases e
  · cases e
theorem RepO.tupR {F H : Hp} {v : V} {xs : List D} (h : RepO k F H v (.tup xs)) : Rep k F v (.tup xs) := by
  rcases h with h | ⟨a, e, _, h⟩
  · exact h
  · cases h
theorem ov_add : OpV k (rAddG k.K) addD := by
  intro F H v1 v2 d1 d2 d s r1 r2 e Q q
  unfold addD at e
  split at e
  · cases e
    exact .inl ⟨_, _, r1.int, r2.int, q F H _ (New.refl s) .int⟩
  · split at e
    · rename_i hz
      cases e
      exact .inr (.inl ⟨_, _, r1.str, r2.str, of_decide_eq_true hz, q F H _ (New.refl s) .str⟩)
    · cases e
  · have r0 := r1.tupR
    have r0' := r2.tupR
    obtain ⟨a, vs, rfl, ha, l1⟩ := r1.tup s
    obtain ⟨b, ws, rfl, hb, l2⟩ := r2.tup s
    split at e
    · rename_i xs ys hz
      cases e
      refine .inr (.inr (.inl ⟨a, b, vs, ws, rfl, rfl, .of ha, .of hb, ?_, fun z => ?_, fun _ z => ?_, fun _ _ p hp => ?_⟩))
      · rw [l1.length, l2.length]
        exact of_decide_eq_true hz
      · subst z
        cases l1
        exact q F H _ (New.refl s) r0'
      · subst z
        cases l2
        exact q F H _ (New.refl s) (by rw [List.append_nil]; exact r0)
      · have n := New.froze (o := .tup (vs ++ ws)) s hp
        exact q _ _ _ n (.tup upd_same ((l1.append l2).mono n.ff))
    · cases e
  · exact .inr (.inr (.inr (ov_cat.v F H v1 v2 _ _ d s r1 r2 e Q q)))
  · cases e
theorem ov_I0 {f : D → D → Option D} {g : Int → Int → V} {gd : Int → Int → D} (hf : ∀ a b d, f a b = some d → ∃ i j, a = .int i ∧ b = .int j ∧ d = gd i j) (hg : ∀ i j F, Rep k F (g i j) (gd i j)) : OpV k (rI0 g) f := by
  intro F H v1 v2 d1 d2 d s r1 r2 e Q q
  obtain ⟨i, j, rfl, rfl, rfl⟩ := hf _ _ _ e
  exact ⟨i, j, r1.int, r2.int, q F H _ (New.refl s) (hg i j F)⟩
theorem ov_I {f : D → D → Option D} {C : Int → Int → Prop} {g : Int → Int → V} {gd : Int → Int → D} (hf : ∀ a b d, f a b = some d → ∃ i j, a = .int i ∧ b = .int j ∧ C i j ∧ d = gd i j) (hg : ∀ i j F, Rep k F (g i j) (gd i j)) : OpV k (rI C g) f := by
  intro F H v1 v2 d1 d2 d s r1 r2 e Q q
  obtain ⟨i, j, rfl, rfl, c, rfl⟩ := hf _ _ _ e
  exact ⟨i, j, r1.int, r2.int, c, q F H _ (New.refl s) (hg i j F)⟩
theorem ov_sub : OpV k (rI0 fun i j => .int (i - j)) subD := ov_I0 (gd := fun i j => .int (i - j)) (fun a b d e => by
  unfold subD at e
  split at e <;> cases e
  exact ⟨_, _, rfl, rfl, rfl⟩) fun _ _ _ => .int
theorem ov_rep : OpN k rRep repD := by
  intro F H v1 v2 d1 d2 d s r1 r2 e Q q
  unfold repD at e
  split at e
  · obtain ⟨a, vs, rfl, ha, l1⟩ := r1.lst s
    split at e
    · rename_i xs j hz
      cases e
      refine ⟨a, j, vs, rfl, r2.int, ha, by have := hz.2.1; omega, hz.1, ?_, fun p hp => ?_⟩
      · rw [l1.length]
        exact of_decide_eq_true hz.2.2
      · refine q F _ p (New.made s hp) hp (s.none hp) (.lst upd_same ?_)
        have : ∀ n : Nat, RepL k F (List.replicate n vs).flatten (List.replicate n xs).flatten := fun n => by
          induction n with
          | zero => exact .nil
          | succ n ih =>
            rw [List.replicate_succ, List.replicate_succ, List.flatten_cons, List.flatten_cons]
            exact l1.append ih
        exact this _
    · cases e
  · cases e
theorem mulOk_of {i j : Int} (h : mulOk i j = true) : CMulW i j := by
  unfold mulOk at h
  unfold CMulW
  exact of_decide_eq_true h
theorem ov_mul : OpV k rMulG mulD := by
  intro F H v1 v2 d1 d2 d s r1 r2 e Q q
  unfold mulD at e
  split at e
  · split at e
    · rename_i hz
      cases e
      exact .inl ⟨_, _, r1.int, r2.int, mulOk_of hz, q F H _ (New.refl s) .int⟩
    · cases e
  · exact .inr (ov_rep.v F H v1 v2 _ _ d s r1 r2 e Q q)
  · cases e
theorem ov_fdiv : OpV k (rI (fun _ j => j ≠ 0 ∧ j.natAbs.log2 < 9000) fun i j => .int (i.fdiv j)) fdivD := ov_I (gd := fun i j => .int (i.fdiv j)) (fun a b d e => by
  unfold fdivD at e
  split at e
  · split at e
    · rename_i hz
      cases e
      exact ⟨_, _, rfl, rfl, of_decide_eq_true hz, rfl⟩
    · cases e
  · cases e) fun _ _ _ => .int
theorem ov_mod : OpV k (rI (fun _ j => j ≠ 0) fun i j => .int (i.fmod j)) modD := ov_I (gd := fun i j => .int (i.fmod j)) (fun a b d e => by
  unfold modD at e
  split at e
  · split at e
    · rename_i hz
      cases e
      exact ⟨_, _, rfl, rfl, hz, rfl⟩
    · cases e
  · cases e) fun _ _ _ => .int
theorem powOk_of {i j : Int} (h : powOk i j = true) : CPow i j := by
  unfold powOk at h
  unfold CPow
  exact of_decide_eq_true h
theorem ov_pow : OpV k (rI CPow fun i j => .int (i ^ j.toNat)) powD := ov_I (gd := fun i j => .int (i ^ j.toNat)) (fun a b d e => by
  unfold powD at e
  split at e
  · split at e
    · rename_i hz
      cases e
      exact ⟨_, _, rfl, rfl, powOk_of hz, rfl⟩
    · cases e
  · cases e) fun _ _ _ => .int
theorem uv_neg : UnV k (rU fun i => .int (-i)) negD := by
  intro F H v1 d1 d s r1 e Q q
  unfold negD at e
  split at e <;> cases e
  exact ⟨_, r1.int, q F H _ (New.refl s) .int⟩
end

/-! ### comparisons -/
def eqP (a b : D) : Option Bool := match toP a, toP b with
  | some p, some q => if SeqAt.shaped p && SeqAt.shaped q then some (PyData.eqv p q) else none
  | _, _ => none
def eqD (a b : D) : Option D := (eqP a b).map .bl
def neD (a b : D) : Option D := (eqP a b).map fun c => .bl (!c)
def noneP : PyData → Bool
  | .none => true
  | _ => false
def nonD : D → Bool
  | .non => true
  | _ => false
def ltP (a b : D) : Option Bool := match toP a, toP b with
  | some p, some q => if PySem.W.alike p q && decide (p.depth ≤ 64) && !noneP p then some (PySem.W.dataLt p q) else none
  | _, _ => none
def ltD (a b : D) : Option D := (ltP a b).map .bl
def geD (a b : D) : Option D := (ltP a b).map fun c => .bl (!c)
def gtP (a b : D) : Option Bool := match toP a, toP b with
  | some p, some q => if PySem.W.alike p q && decide (p.depth ≤ 64) && !noneP p then some (PySem.W.dataLt q p) else none
  | _, _ => none
def gtD (a b : D) : Option D := (gtP a b).map .bl
def leD (a b : D) : Option D := (gtP a b).map fun c => .bl (!c)
/-- x in a list, in a tuple, in a text -/
def inP (a b : D) : Option Bool := match b with
  | .lst xs => (match toP a, toPs xs with
    | some p, some ps => if SeqAt.shaped p && SeqAt.shaped (.list ps) then some (ps.any fun z => PyData.eqv z p) else none
    | _, _ => none)
  | .str z => (match a with
    | .str x => (match x.cps.toList with
      | [c] => some (decide (c ∈ z.cps.toList))
      | _ => none)
    | _ => none)
  | _ => none
def inD (a b : D) : Option D := (inP a b).map .bl
def notinD (a b : D) : Option D := (inP a b).map fun c => .bl (!c)
def isnD (a b : D) : Option D := match b with
  | .non => some (.bl (nonD a))
  | _ => none
def isnotD (a b : D) : Option D := match b with
  | .non => some (.bl (!nonD a))
  | _ => none

def rCmpD (K : PySem.W.Frag) (f : PyData → PyData → Bool) : R2 := fun x y H Q => ∃ p q, Dp K H x p ∧ Dp K H y q ∧ PySem.W.alike p q = true ∧ p.depth ≤ 64 ∧ p ≠ .none ∧ Q (.bl (f p q)) H
section
variable {X : Cx}
theorem room_min {A : Around} {p q : PyData} (h : p.depth ≤ 64) (hu : A.units + 64 < cLine) : A.units + min p.depth q.depth < cLine := by
  have : min p.depth q.depth ≤ p.depth := Nat.min_le_left _ _
  omega
theorem op_ltD (hu : X.A.units + 64 < cLine) : OpR X (compareOp .Lt) (rCmpD X.K fun p q => PySem.W.dataLt p q) := by
  intro pins s σ H x y v u Q I rx ry h
  obtain ⟨p, q, d1, d2, al, dp, hn, hq⟩ := h
  obtain ⟨as, r1⟩ := Dp.reads I p x v d1 rx
  obtain ⟨bs, r2⟩ := Dp.reads I q y u d2 ry
  exact PySem.W.lt_data r1 r2 al hn (room_min dp hu) ⟨.bl _, H, I, rfl, hq⟩
theorem op_gtD (hu : X.A.units + 64 < cLine) : OpR X (compareOp .Gt) (rCmpD X.K fun p q => PySem.W.dataLt q p) := by
  intro pins s σ H x y v u Q I rx ry h
  obtain ⟨p, q, d1, d2, al, dp, hn, hq⟩ := h
  obtain ⟨as, r1⟩ := Dp.reads I p x v d1 rx
  obtain ⟨bs, r2⟩ := Dp.reads I q y u d2 ry
  exact PySem.W.gt_data r1 r2 al hn (room_min dp hu) ⟨.bl _, H, I, rfl, hq⟩
theorem op_leD (hu : X.A.units + 64 < cLine) : OpR X (compareOp .LtE) (rCmpD X.K fun p q => !PySem.W.dataLt q p) := by
  intro pins s σ H x y v u Q I rx ry h
  obtain ⟨p, q, d1, d2, al, dp, hn, hq⟩ := h
  obtain ⟨as, r1⟩ := Dp.reads I p x v d1 rx
  obtain ⟨bs, r2⟩ := Dp.reads I q y u d2 ry
  exact PySem.W.le_data r1 r2 al hn (room_min dp hu) ⟨.bl _, H, I, rfl, hq⟩
theorem op_geD (hu : X.A.units + 64 < cLine) : OpR X (compareOp .GtE) (rCmpD X.K fun p q => !PySem.W.dataLt p q) := by
  intro pins s σ H x y v u Q I rx ry h
  obtain ⟨p, q, d1, d2, al, dp, hn, hq⟩ := h
  obtain ⟨as, r1⟩ := Dp.reads I p x v d1 rx
  obtain ⟨bs, r2⟩ := Dp.reads I q y u d2 ry
  exact PySem.W.ge_data r1 r2 al hn (room_min dp hu) ⟨.bl _, H, I, rfl, hq⟩
end
def rInG (K : PySem.W.Frag) : R2 := fun x y H Q => rInD K x y H Q ∨ ∃ c z, x = .str ⟨#[c]⟩ ∧ y = .str z ∧ Q (.bl (decide (c ∈ z.cps.toList))) H
def rNotInG (K : PySem.W.Frag) : R2 := fun x y H Q => rNotInD K x y H Q ∨ ∃ c z, x = .str ⟨#[c]⟩ ∧ y = .str z ∧ Q (.bl (!decide (c ∈ z.cps.toList))) H
section
variable {X : Cx}
theorem op_inG (hu : X.A.units + 65 < cLine) : OpR X (compareOp .In) (rInG X.K) := (op_inD hu).or op_in_sign
theorem op_notinG (hu : X.A.units + 65 < cLine) : OpR X (compareOp .NotIn) (rNotInG X.K) := (op_notInD hu).or op_notIn_sign
end
section
variable {k : KX}
theorem eqP_some {a b : D} {c : Bool} (h : eqP a b = some c) : ∃ p q, toP a = some p ∧ toP b = some q ∧ SeqAt.shaped p = true ∧ SeqAt.shaped q = true ∧ c = PyData.eqv p q := by
  unfold eqP at h
  split at h
  · split at h
    · rename_i p q h1 h2 h3
      rw [Bool.and_eq_true] at h3
      cases h
      exact ⟨p, q, h1, h2, h3.1, h3.2, rfl⟩
    · cases h
  · cases h
theorem ov_eq : OpV k (rEqD k.K) eqD := by
  intro F H v1 v2 d1 d2 d s r1 r2 e Q q
  unfold eqD at e
  cases h : eqP d1 d2 with
  | none => rw [h] at e; cases e
  | some c =>
    rw [h] at e
    cases e
    obtain ⟨p, p', h1, h2, h3, h4, rfl⟩ := eqP_some h
    exact ⟨p, p', r1.dp s h1, r2.dp s h2, h3, h4, q F H _ (New.refl s) .bl⟩
theorem ov_ne : OpV k (rNeD k.K) neD := by
  intro F H v1 v2 d1 d2 d s r1 r2 e Q q
  unfold neD at e
  cases h : eqP d1 d2 with
  | none => rw [h] at e; cases e
  | some c =>
    rw [h] at e
    cases e
    obtain ⟨p, p', h1, h2, h3, h4, rfl⟩ := eqP_some h
    exact ⟨p, p', r1.dp s h1, r2.dp s h2, h3, h4, q F H _ (New.refl s) .bl⟩
theorem ltP_some {a b : D} {c : Bool} (h : ltP a b = some c) : ∃ p q, toP a = some p ∧ toP b = some q ∧ PySem.W.alike p q = true ∧ p.depth ≤ 64 ∧ p ≠ .none ∧ c = PySem.W.dataLt p q := by
  unfold ltP at h
  split at h
  · split at h
    · rename_i p q h1 h2 h3
      rw [Bool.and_eq_true, Bool.and_eq_true] at h3
      cases h
      exact ⟨p, q, h1, h2, h3.1.1, of_decide_eq_true h3.1.2, fun z => by rw [z] at h3; exact absurd h3.2 (by decide), rfl⟩
    · cases h
  · cases h
theorem gtP_some {a b : D} {c : Bool} (h : gtP a b = some c) : ∃ p q, toP a = some p ∧ toP b = some q ∧ PySem.W.alike p q = true ∧ p.depth ≤ 64 ∧ p ≠ .none ∧ c = PySem.W.dataLt q p := by
  unfold gtP at h
  split at h
  · split at h
    · rename_i p q h1 h2 h3
      rw [Bool.and_eq_true, Bool.and_eq_true] at h3
      cases h
      exact ⟨p, q, h1, h2, h3.1.1, of_decide_eq_true h3.1.2, fun z => by rw [z] at h3; exact absurd h3.2 (by decide), rfl⟩
    · cases h
  · cases h
theorem ov_lt : OpV k (rCmpD k.K fun p q => PySem.W.dataLt p q) ltD := by
  intro F H v1 v2 d1 d2 d s r1 r2 e Q q
  unfold ltD at e
  cases h : ltP d1 d2 with
  | none => rw [h] at e; cases e
  | some c =>
    rw [h] at e
    cases e
    obtain ⟨p, p', h1, h2, h3, h4, h5, rfl⟩ := ltP_some h
    exact ⟨p, p', r1.dp s h1, r2.dp s h2, h3, h4, h5, q F H _ (New.refl s) .bl⟩
theorem ov_ge : OpV k (rCmpD k.K fun p q => !PySem.W.dataLt p q) geD := by
  intro F H v1 v2 d1 d2 d s r1 r2 e Q q
  unfold geD at e
  cases h : ltP d1 d2 with
  | none => rw [h] at e; cases e
  | some c =>
    rw [h] at e
    cases e
    obtain ⟨p, p', h1, h2, h3, h4, h5, rfl⟩ := ltP_some h
    exact ⟨p, p', r1.dp s h1, r2.dp s h2, h3, h4, h5, q F H _ (New.refl s) .bl⟩
theorem ov_gt : OpV k (rCmpD k.K fun p q => PySem.W.dataLt q p) gtD := by
  intro F H v1 v2 d1 d2 d s r1 r2 e Q q
  unfold gtD at e
  cases h : gtP d1 d2 with
  | none => rw [h] at e; cases e
  | some c =>
    rw [h] at e
    cases e
    obtain ⟨p, p', h1, h2, h3, h4, h5, rfl⟩ := gtP_some h
    exact ⟨p, p', r1.dp s h1, r2.dp s h2, h3, h4, h5, q F H _ (New.refl s) .bl⟩
theorem ov_le : OpV k (rCmpD k.K fun p q => !PySem.W.dataLt q p) leD := by
  intro F H v1 v2 d1 d2 d s r1 r2 e Q q
  unfold leD at e
  cases h : gtP d1 d2 with
  | none => rw [h] at e; cases e
  | some c =>
    rw [h] at e
    cases e
    obtain ⟨p, p', h1, h2, h3, h4, h5, rfl⟩ := gtP_some h
    exact ⟨p, p', r1.dp s h1, r2.dp s h2, h3, h4, h5, q F H _ (New.refl s) .bl⟩
theorem inP_some {a b : D} {c : Bool} (h : inP a b = some c) : (∃ xs p ps, b = .lst xs ∧ toP a = some p ∧ toPs xs = some ps ∧ SeqAt.shaped p = true ∧ SeqAt.shaped (.list ps) = true ∧ c = ps.any fun z => PyData.eqv z p) ∨
    ∃ n z, a = .str ⟨#[n]⟩ ∧ b = .str z ∧ c = decide (n ∈ z.cps.toList) := by
  unfold inP at h
  split at h
  · split at h
    · split at h
      · rename_i p ps h1 h2 h3
        rw [Bool.and_eq_true] at h3
        cases h
        exact .inl ⟨_, p, ps, rfl, h1, h2, h3.1, h3.2, rfl⟩
      · cases h
    · cases h
  · split at h
    · split at h
      · rename_i x _ c hx
        cases h
        refine .inr ⟨c, _, ?_, rfl, rfl⟩
        have e : x = ⟨#[c]⟩ := by
          cases x with
          | mk cps =>
            have : cps = #[c] := by
              apply Array.toList_inj.mp
              exact hx
            rw [this]
        rw [e]
      · cases h
    · cases h
  · cases h
theorem toP_lst {xs : List D} {ps : List PyData} (h : toPs xs = some ps) : toP (.lst xs) = some (.list ps) := by
  rw [toP, h]
  rfl
theorem ov_in : OpV k (rInG k.K) inD := by
  intro F H v1 v2 d1 d2 d s r1 r2 e Q q
  unfold inD at e
  cases h : inP d1 d2 with
  | none => rw [h] at e; cases e
  | some c =>
    rw [h] at e
    cases e
    rcases inP_some h with ⟨xs, p, ps, rfl, h1, h2, h3, h4, rfl⟩ | ⟨n, z, rfl, rfl, rfl⟩
    · exact .inl ⟨p, ps, r1.dp s h1, r2.dp s (toP_lst h2), h3, h4, q F H _ (New.refl s) .bl⟩
    · exact .inr ⟨n, z, r1.str, r2.str, q F H _ (New.refl s) .bl⟩
theorem ov_notin : OpV k (rNotInG k.K) notinD := by
  intro F H v1 v2 d1 d2 d s r1 r2 e Q q
  unfold notinD at e
  cases h : inP d1 d2 with
  | none => rw [h] at e; cases e
  | some c =>
    rw [h] at e
    cases e
    rcases inP_some h with ⟨xs, p, ps, rfl, h1, h2, h3, h4, rfl⟩ | ⟨n, z, rfl, rfl, rfl⟩
    · exact .inl ⟨p, ps, r1.dp s h1, r2.dp s (toP_lst h2), h3, h4, q F H _ (New.refl s) .bl⟩
    · exact .inr ⟨n, z, r1.str, r2.str, q F H _ (New.refl s) .bl⟩
theorem RepO.isNon {F H : Hp} {v : V} {d : D} (r : RepO k F H v d) : decide (v = .non) = nonD d := by
  rcases r with r | ⟨a, rfl, _, w⟩
  · cases r <;> rfl
  · cases w <;> rfl
theorem ov_isn : OpV k (fun x y H Q => y = .non ∧ Q (.bl (decide (x = .non))) H) isnD := by
  intro F H v1 v2 d1 d2 d s r1 r2 e Q q
  unfold isnD at e
  split at e
  · cases e
    refine ⟨r2.non, ?_⟩
    rw [r1.isNon]
    exact q F H _ (New.refl s) .bl
  · cases e
theorem ov_isnot : OpV k (fun x y H Q => y = .non ∧ Q (.bl (!decide (x = .non))) H) isnotD := by
  intro F H v1 v2 d1 d2 d s r1 r2 e Q q
  unfold isnotD at e
  split at e
  · cases e
    refine ⟨r2.non, ?_⟩
    rw [r1.isNon]
    exact q F H _ (New.refl s) .bl
  · cases e
end
end G
set_option maxRecDepth 100000
set_option maxHeartbeats 4000000
namespace G
open PySem PySem.Spec PyProof.Rows L2

/-! ### argument lists -/
def tAs (φ : Fx) (W : WX) : List Opd → TA
  | [] => tNil
  | o :: os => tCons (tO φ W o) (tAs φ W os)
def args1 : List Opd → M (List (Option D))
  | [] => M.pure []
  | o :: os => o.p1.bind fun x => (args1 os).bind fun xs => M.pure (x :: xs)
def args2 : List Opd → List (Option D) → M (List D)
  | [], _ => M.pure []
  | o :: os, x :: xs => (o.p2 x).bind fun d => (args2 os xs).bind fun ds => M.pure (d :: ds)
  | _ :: _, [] => badM
def callM (f : List D → Option D) (os : List Opd) : M D := (args1 os).bind fun xs => (args2 os xs).bind fun ds => lift (f ds)
inductive Lates (φ : Fx) (σ : L2.St) (F : Hp) : List V → List Opd → List (Option D) → Prop
  | nil : Lates φ σ F [] [] []
  | cons {v vs o os x xs} : Late φ σ F v o x → Lates φ σ F vs os xs → Lates φ σ F (v :: vs) (o :: os) (x :: xs)
abbrev DA (X : Cx) (φ : Fx) (W : WX) (es : List Expr) (os : List Opd) : Prop := PA X es (tAs φ W os)
section
variable {X : Cx} {φ : Fx} {W : WX} {F F' H H' : Hp} {σ : L2.St} {δ : DEnv} {e : Expr} {es : List Expr} {Q : VK} {o : Opd} {os : List Opd}
theorem da_nil : DA X φ W [] [] := pa_nil
theorem da_cons (h : DO X φ W e o) (hr : DA X φ W es os) (hs : starEach (e :: es) X.env = (false, eval e X.env) :: starEach es X.env := by rfl) : DA X φ W (e :: es) (o :: os) := pa_cons h hr hs
theorem Lates.mono {vs : List V} {os : List Opd} {xs : List (Option D)} (h : Lates φ σ F vs os xs) (s : Sub F F') : Lates φ σ F' vs os xs := by
  induction h with
  | nil => exact .nil
  | cons a _ ih => exact .cons (a.mono s) ih
theorem Out.pure {α β : Type} {a : α} {f : α → M β} {P : β → DEnv → Hp → Hp → Prop} (h : Out φ W σ F ((M.pure a).bind f δ) P) : Out φ W σ F (f a δ) P := h
theorem bind_assoc {α β γ : Type} (m : M α) (f : α → M β) (g : β → M γ) : (m.bind f).bind g = m.bind fun a => (f a).bind g := by
  funext δ
  unfold M.bind
  cases m δ <;> rfl
theorem tAs_run {α : Type} {P : α → DEnv → Hp → Hp → Prop} : ∀ {os : List Opd} {F H : Hp} {δ : DEnv} {f : List (Option D) → M α} {Q : List V → Hp → Prop}, GI φ F H σ δ → Out φ W σ F ((args1 os).bind f δ) P →
    (∀ xs vs δ' F' H', GI φ F' H' σ δ' → Sub F F' → Lates φ σ F' vs os xs → Out φ W σ F' (f xs δ') P → Q vs H') → tAs φ W os σ H Q
  | [], F, H, δ, f, Q, g, q, h => h [] [] δ F H g (Sub.refl F) .nil q.pure
  | o :: os, F, H, δ, f, Q, g, q, h => by
    rw [args1, bind_assoc] at q
    refine tO_run g q fun x v δ1 F1 H1 g1 s1 l1 q1 => ?_
    rw [bind_assoc] at q1
    exact tAs_run g1 q1 fun xs vs δ2 F2 H2 g2 s2 l2 q2 => h (x :: xs) (v :: vs) δ2 F2 H2 g2 (s1.trans s2) (.cons (l1.mono s2) l2) q2.pure
theorem Lates.now {α : Type} {P : α → DEnv → Hp → Hp → Prop} : ∀ {os : List Opd} {vs : List V} {xs : List (Option D)} {f : List D → M α}, Lates φ σ F vs os xs → GI φ F H σ δ → Out φ W σ F ((args2 os xs).bind f δ) P →
    ∃ ds, RepOs φ.k F H vs ds ∧ Out φ W σ F (f ds δ) P
  | [], _, _, f, .nil, g, q => ⟨[], .nil, q.pure⟩
  | o :: os, _, _, f, .cons l ls, g, q => by
    rw [args2, bind_assoc] at q
    obtain ⟨d, r, q1⟩ := l.now g q
    rw [bind_assoc] at q1
    obtain ⟨ds, rs, q2⟩ := ls.now g q1
    exact ⟨d :: ds, .cons r rs, q2.pure⟩
theorem tCB_call {r : List V → Hp → VK → Prop} {f : List D → Option D} (hr : CaV φ.k r f) (h : tM φ W (callM f os) σ H Q) : tCB r (tAs φ W os) σ H Q := by
  obtain ⟨F, δ, g, q⟩ := h
  refine tAs_run g q fun xs vs δ1 F1 H1 g1 s1 l1 q1 => ?_
  obtain ⟨ds, rs, q2⟩ := l1.now g1 q1
  obtain ⟨d, e, q3⟩ := q2.lift
  exact hr F1 H1 vs ds d g1.fh rs e Q fun F' H' v n rv => q3 F' H' (g1.new n) n.ff v rv
theorem tCB_callN {r : List V → Hp → VK → Prop} {f : List D → Option D} (hr : CaN φ.k r f) (h : tN φ W (callM f os) σ H Q) : tCB r (tAs φ W os) σ H Q := by
  obtain ⟨F, δ, g, q⟩ := h
  refine tAs_run g q fun xs vs δ1 F1 H1 g1 s1 l1 q1 => ?_
  obtain ⟨ds, rs, q2⟩ := l1.now g1 q1
  obtain ⟨d, e, q3⟩ := q2.lift
  exact hr F1 H1 vs ds d g1.fh rs e Q fun F' H' p n h1 h2 w => q3 F' H' (g1.new n) n.ff p (g1.fresh h1 h2 w)
variable {x : Str} {p pos : Pos} {id T : String} {r : List V → Hp → VK → Prop} {f : List D → Option D}
theorem d_callB (hr : CaV φ.k r f) (hc : CallR X (.builtin id) r) (hg : Gl X x) (hm : X.mg x = none) (hv : bootBuiltins x = some (.builtin id)) (ha : DA X φ W (e :: es) os) (hn : x ≠ "__name__" := by decide) (hdb : (x == ("__debug__" : Str)) = false := by decide)
    (he : starEach (e :: es) X.env = (false, eval e X.env) :: starEach es X.env := by rfl) (hpl : (backTo pos (starEach es X.env)).any (·.1) = false := by rfl) : DE X φ W (.Call (.Name x p) (e :: es) [] pos) (callM f os) :=
  PE.imp (pe_callB hc hg hm hv ha hn hdb he hpl) fun _ _ _ h => tCB_call hr h
theorem d_callBN (hr : CaN φ.k r f) (hc : CallR X (.builtin id) r) (hg : Gl X x) (hm : X.mg x = none) (hv : bootBuiltins x = some (.builtin id)) (ha : DA X φ W (e :: es) os) (hn : x ≠ "__name__" := by decide) (hdb : (x == ("__debug__" : Str)) = false := by decide)
    (he : starEach (e :: es) X.env = (false, eval e X.env) :: starEach es X.env := by rfl) (hpl : (backTo pos (starEach es X.env)).any (·.1) = false := by rfl) : DN X φ W (.Call (.Name x p) (e :: es) [] pos) (callM f os) :=
  PE.imp (pe_callB hc hg hm hv ha hn hdb he hpl) fun _ _ _ h => tCB_callN hr h
theorem d_callT (hr : CaV φ.k r f) (hc : CallR X (.type T) r) (hg : Gl X x) (hm : X.mg x = none) (hv : bootBuiltins x = some (.type T)) (ha : DA X φ W (e :: es) os) (hn : x ≠ "__name__" := by decide) (hdb : (x == ("__debug__" : Str)) = false := by decide)
    (he : starEach (e :: es) X.env = (false, eval e X.env) :: starEach es X.env := by rfl) (hpl : (backTo pos (starEach es X.env)).any (·.1) = false := by rfl) : DE X φ W (.Call (.Name x p) (e :: es) [] pos) (callM f os) :=
  PE.imp (pe_callTy hc hg hm hv ha hn hdb he hpl) fun _ _ _ h => tCB_call hr h
theorem d_callTN (hr : CaN φ.k r f) (hc : CallR X (.type T) r) (hg : Gl X x) (hm : X.mg x = none) (hv : bootBuiltins x = some (.type T)) (ha : DA X φ W (e :: es) os) (hn : x ≠ "__name__" := by decide) (hdb : (x == ("__debug__" : Str)) = false := by decide)
    (he : starEach (e :: es) X.env = (false, eval e X.env) :: starEach es X.env := by rfl) (hpl : (backTo pos (starEach es X.env)).any (·.1) = false := by rfl) : DN X φ W (.Call (.Name x p) (e :: es) [] pos) (callM f os) :=
  PE.imp (pe_callTy hc hg hm hv ha hn hdb he hpl) fun _ _ _ h => tCB_callN hr h
end

/-! ### displays: their items are kept -/
def tCs (φ : Fx) (W : WX) : List (M D) → TA
  | [] => tNil
  | m :: ms => tCons (tM φ W m) (tCs φ W ms)
def evalC : List (M D) → M (List D)
  | [] => M.pure []
  | m :: ms => m.bind fun d => (evalC ms).bind fun ds => M.pure (d :: ds)
abbrev DC (X : Cx) (φ : Fx) (W : WX) (es : List Expr) (ms : List (M D)) : Prop := PA X es (tCs φ W ms)
def tupM (ms : List (M D)) : M D := (evalC ms).bind fun ds => if shortS ds.length then M.pure (.tup ds) else badM
def lstM (ms : List (M D)) : M D := (evalC ms).bind fun ds => if shortS ds.length then M.pure (.lst ds) else badM
section
variable {X : Cx} {φ : Fx} {W : WX} {F F' H H' : Hp} {σ : L2.St} {δ : DEnv} {e : Expr} {es : List Expr} {Q : VK} {m : M D} {ms : List (M D)} {pos : Pos}
theorem dc_nil : DC X φ W [] [] := pa_nil
theorem dc_cons (h : DE X φ W e m) (hr : DC X φ W es ms) (hs : starEach (e :: es) X.env = (false, eval e X.env) :: starEach es X.env := by rfl) : DC X φ W (e :: es) (m :: ms) := pa_cons h hr hs
theorem tM_run {α : Type} {m : M D} {f : D → M α} {P : α → DEnv → Hp → Hp → Prop} (g : GI φ F H σ δ) (q : Out φ W σ F (m.bind f δ) P)
    (h : ∀ d v δ' F' H', GI φ F' H' σ δ' → Sub F F' → Rep φ.k F' v d → Out φ W σ F' (f d δ') P → Q v H') : tM φ W m σ H Q :=
  ⟨F, δ, g, q.bind.mono (Sub.refl F) fun d δ' F' H' g' s' z v r => h d v δ' F' H' g' s' r z⟩
theorem tCs_run {α : Type} {P : α → DEnv → Hp → Hp → Prop} : ∀ {ms : List (M D)} {F H : Hp} {δ : DEnv} {f : List D → M α} {Q : List V → Hp → Prop}, GI φ F H σ δ → Out φ W σ F ((evalC ms).bind f δ) P →
    (∀ ds vs δ' F' H', GI φ F' H' σ δ' → Sub F F' → RepL φ.k F' vs ds → Out φ W σ F' (f ds δ') P → Q vs H') → tCs φ W ms σ H Q
  | [], F, H, δ, f, Q, g, q, h => h [] [] δ F H g (Sub.refl F) .nil q.pure
  | m :: ms, F, H, δ, f, Q, g, q, h => by
    rw [evalC, bind_assoc] at q
    refine tM_run g q fun d v δ1 F1 H1 g1 s1 l1 q1 => ?_
    rw [bind_assoc] at q1
    exact tCs_run g1 q1 fun ds vs δ2 F2 H2 g2 s2 l2 q2 => h (d :: ds) (v :: vs) δ2 F2 H2 g2 (s1.trans s2) (.cons (l1.mono s2) l2) q2.pure
theorem Out.ite {α : Type} {c : Bool} {a b : M α} {P : α → DEnv → Hp → Hp → Prop} (h : Out φ W σ F ((if c = true then a else b) δ) P) : (c = true ∧ Out φ W σ F (a δ) P) ∨ (c = false ∧ Out φ W σ F (b δ) P) := by
  cases c
  · exact .inr ⟨rfl, h⟩
  · exact .inl ⟨rfl, h⟩
theorem d_tup {x1} (h : DC X φ W es ms) : DE X φ W (.Tuple es x1 pos) (tupM ms) := PE.imp (pe_tup h) fun σ H Q q => by
  obtain ⟨F, δ, g, q⟩ := q
  refine tCs_run g q fun ds vs δ1 F1 H1 g1 s1 l1 q1 => ?_
  rcases q1.ite with ⟨hz, q2⟩ | ⟨_, q2⟩
  · refine ⟨by rw [l1.length]; exact of_decide_eq_true hz, fun p hp => ?_⟩
    have n := New.froze (o := .tup vs) g1.fh hp
    exact q2 _ _ (g1.new n) n.ff _ (.tup upd_same (l1.mono n.ff))
  · exact q2.elim
theorem d_lst (h : DC X φ W es ms) : DN X φ W (.List es pos) (lstM ms) := PE.imp (pe_lst h) fun σ H Q q => by
  obtain ⟨F, δ, g, q⟩ := q
  refine tCs_run g q fun ds vs δ1 F1 H1 g1 s1 l1 q1 => ?_
  rcases q1.ite with ⟨hz, q2⟩ | ⟨_, q2⟩
  · refine ⟨by rw [l1.length]; exact of_decide_eq_true hz, fun p hp => ?_⟩
    have n := New.made (o := .lst vs) g1.fh hp
    exact q2 _ _ (g1.new n) n.ff _ (g1.fresh hp (g1.fh.none hp) (.lst upd_same l1))
  · exact q2.elim
end

/-! ### truth, tests -/
def truthD : D → Option Bool
  | .non => some false
  | .bl b => some b
  | .int i => some (i != 0)
  | .str x => if shortS x.length then some ((x.length : Int) != 0) else none
  | .lst xs => some (!xs.isEmpty)
  | .tup xs => some (!xs.isEmpty)
  | .scr xs => some (!xs.isEmpty)
  | .dk kvs => some (!kvs.isEmpty)
  | _ => none
theorem RepL.empty {k : KX} {F : Hp} {vs : List V} {ds : List D} (h : RepL k F vs ds) : vs.isEmpty = ds.isEmpty := by cases h <;> rfl
theorem RepK.empty {k : KX} {F : Hp} {vs : List (Key × V)} {ds : List (Key × D)} (h : RepK k F vs ds) : vs.isEmpty = ds.isEmpty := by cases h <;> rfl
theorem RepO.truth {k : KX} {F H : Hp} {v : V} {d : D} {c : Bool} (r : RepO k F H v d) (s : Sub F H) (h : truthD d = some c) : TruV k.K v H c := by
  cases d with
  | non => cases h; rw [r.non]; rfl
  | bl b => cases h; rw [r.bl]; rfl
  | int i => cases h; rw [r.int]; rfl
  | str x =>
    rw [r.str]
    change (if shortS x.length = true then some ((x.length : Int) != 0) else none) = some c at h
    by_cases z : shortS x.length = true
    · rw [if_pos z] at h
      cases h
      exact ⟨of_decide_eq_true z, rfl⟩
    · rw [if_neg z] at h
      cases h
  | lst xs => cases h; obtain ⟨a, vs, rfl, e, l⟩ := r.lst s; exact .inl ⟨vs, .of e, by rw [l.empty]⟩
  | tup xs => cases h; obtain ⟨a, vs, rfl, e, l⟩ := r.tup s; exact .inr (.inl ⟨vs, .of e, by rw [l.empty]⟩)
  | scr xs => cases h; obtain ⟨a, vs, rfl, e, l⟩ := r.scr s; exact .inl ⟨vs, e, by rw [l.empty]⟩
  | dk xs => cases h; obtain ⟨a, vs, rfl, e, l⟩ := r.dk s; exact .inr (.inr ⟨vs, e, by rw [l.empty]⟩)
  | ty _ => cases h
  | cl _ => cases h
  | dt _ => cases h
  | obj _ _ => cases h
/-- a test's reading -/
def tT (φ : Fx) (W : WX) (m : M Bool) : TT := fun σ H Q => ∃ F δ, GI φ F H σ δ ∧ Out φ W σ F (m δ) fun b _ _ H' => Q b H'
abbrev DT (X : Cx) (φ : Fx) (W : WX) (e : Expr) (m : M Bool) : Prop := PT X e (tT φ W m)
abbrev DW (X : Cx) (φ : Fx) (W : WX) (e : Expr) (m : M Bool) : Prop := PW X e (tT φ W m)
def truthM (o : Opd) : M Bool := o.p1.bind fun x => (o.p2 x).bind fun d => lift (truthD d)
def asB : D → Option Bool
  | .bl b => some b
  | _ => none
def testM (m : M D) : M Bool := m.bind fun d => lift (asB d)
def andM (a b : M Bool) : M Bool := a.bind fun c => if c = true then b else M.pure false
def orM (a b : M Bool) : M Bool := a.bind fun c => if c = true then M.pure true else b
def notM (a : M Bool) : M Bool := a.bind fun c => M.pure (!c)
section
variable {X : Cx} {φ : Fx} {W : WX} {F F' H H' : Hp} {σ : L2.St} {δ : DEnv} {e a b c : Expr} {rest : List Expr} {pos : Pos} {o oa ob oc : Opd} {ma mb : M Bool}
theorem PW.imp {X : Cx} {e : Expr} {t t' : TT} (h : PW X e t) (i : ∀ σ H Q, t' σ H Q → t σ H Q) : PW X e t' := ⟨fun wh pins s σ H Q I hw => h.run wh pins s σ H Q I (i σ H Q hw)⟩
theorem tT_run {α : Type} {m : M Bool} {f : Bool → M α} {P : α → DEnv → Hp → Hp → Prop} {Q : Bool → Hp → Prop} (g : GI φ F H σ δ) (q : Out φ W σ F (m.bind f δ) P)
    (h : ∀ c δ' F' H', GI φ F' H' σ δ' → Sub F F' → Out φ W σ F' (f c δ') P → Q c H') : tT φ W m σ H Q :=
  ⟨F, δ, g, q.bind.mono (Sub.refl F) fun d δ' F' H' g' s' z => h d δ' F' H' g' s' z⟩
/-- any expression by its truth -/
theorem dt_tru (h : DO X φ W e o) (hK : φ.k.K = X.K := by rfl) (he : ∀ whole, isTrue e X.env whole = (do let v ← whole; standAt e.pos; holding [v] (truthy v)) := by intro _; rfl) : DT X φ W e (truthM o) := PT.imp (pt_truth h he) fun σ H Q q => by
  obtain ⟨F, δ, g, q⟩ := q
  refine tO_run g q fun x v δ1 F1 H1 g1 s1 l1 q1 => ?_
  obtain ⟨d, r, q2⟩ := l1.now g1 q1
  obtain ⟨k, e, q3⟩ := q2.lift
  exact ⟨k, by rw [← hK]; exact r.truth g1.fh e, q3 F1 H1 g1 (Sub.refl F1)⟩
theorem dt_cmp {op : CmpOp} {r : R2} {f : D → D → Option D} (hr : OpV φ.k r f) (ho : OpR X (compareOp op) r) (ha : DO X φ W a oa) (hb : DO X φ W b ob) (hm : behindInMarks op b = false) : DT X φ W (.Compare a [op] [b] pos) (testM (binM f oa ob)) :=
  PT.imp (pt_cmpR ho ha hb hm) fun σ H Q q => by
    obtain ⟨F, δ, g, q⟩ := q
    refine tOp_bin (W := W) hr ⟨F, δ, g, q.bind.mono (Sub.refl F) fun d δ' F' H' g' s' z v r => ?_⟩
    obtain ⟨k, e, q2⟩ := z.lift
    cases d with
    | bl k' =>
      cases e
      cases r
      exact ⟨_, rfl, q2 F' H' g' (Sub.refl F')⟩
    | _ => cases e
theorem dw_and1 (h : DT X φ W a ma) : DW X φ W (.BoolOp .And [a] pos) ma := pw_and1 h
theorem dw_or1 (h : DT X φ W a ma) : DW X φ W (.BoolOp .Or [a] pos) ma := pw_or1 h
theorem dw_and (ha : DT X φ W a ma) (hb : DW X φ W (.BoolOp .And (b :: rest) pos) mb) : DW X φ W (.BoolOp .And (a :: b :: rest) pos) (andM ma mb) := PW.imp (pw_and ha hb) fun σ H Q q => by
  obtain ⟨F, δ, g, q⟩ := q
  refine tT_run g q fun c δ1 F1 H1 g1 s1 q1 => ?_
  cases c with
  | true => exact ⟨F1, δ1, g1, q1⟩
  | false => exact q1 F1 H1 g1 (Sub.refl F1)
theorem dw_or (ha : DT X φ W a ma) (hb : DW X φ W (.BoolOp .Or (b :: rest) pos) mb) : DW X φ W (.BoolOp .Or (a :: b :: rest) pos) (orM ma mb) := PW.imp (pw_or ha hb) fun σ H Q q => by
  obtain ⟨F, δ, g, q⟩ := q
  refine tT_run g q fun c δ1 F1 H1 g1 s1 q1 => ?_
  cases c with
  | true => exact q1 F1 H1 g1 (Sub.refl F1)
  | false => exact ⟨F1, δ1, g1, q1⟩
theorem dt_bool (h : DW X φ W e ma) : DT X φ W e ma := h.pt
theorem dt_not (h : DT X φ W a ma) : DT X φ W (.UnaryOp .Not a pos) (notM ma) := PT.imp (pt_not h) fun σ H Q q => by
  obtain ⟨F, δ, g, q⟩ := q
  exact tT_run g q fun c δ1 F1 H1 g1 s1 q1 => q1 F1 H1 g1 (Sub.refl F1)
end

/-! ### a op b op c -/
def chainM (f f' : D → D → Option D) (a b c : Opd) : M D := a.p1.bind fun x => b.p1.bind fun y => (a.p2 x).bind fun dx => (b.p2 y).bind fun dy => (lift (f dx dy)).bind fun z => (lift (asB z)).bind fun k =>
  if k = true then c.p1.bind fun u => (b.p2 y).bind fun dy => (c.p2 u).bind fun dz => lift (f' dy dz) else M.pure (.bl false)
section
variable {X : Cx} {φ : Fx} {W : WX} {F F' H H' : Hp} {σ : L2.St} {δ : DEnv} {e a b c : Expr} {rest : List Expr} {pos : Pos} {o oa ob oc : Opd} {Q : VK}
theorem tChain_run {r r' : R2} {f f' : D → D → Option D} (hr : OpV φ.k r f) (hr' : OpV φ.k r' f') (h : tM φ W (chainM f f' oa ob oc) σ H Q) : tChain r r' (tO φ W oa) (tO φ W ob) (tO φ W oc) σ H Q := by
  obtain ⟨F, δ, g, q⟩ := h
  refine tO_run g q fun x v1 δ1 F1 H1 g1 s1 l1 q1 => ?_
  refine tO_run g1 q1 fun y v2 δ2 F2 H2 g2 s2 l2 q2 => ?_
  obtain ⟨d1, r1, q3⟩ := (l1.mono s2).now g2 q2
  obtain ⟨d2, r2, q4⟩ := l2.now g2 q3
  obtain ⟨d, e, q5⟩ := (show Out φ W σ F2 (lift (f d1 d2) δ2) _ from q4.bind).lift
  refine hr F2 H2 v1 v2 d1 d2 d g2.fh r1 r2 e _ fun F3 H3 v n rv => ?_
  have g3 := g2.new n
  have q6 := q5 F3 H3 g3 n.ff
  obtain ⟨k, e2, q7⟩ := (show Out φ W σ F3 (lift (asB d) δ2) _ from q6.bind).lift
  have q8 := q7 F3 H3 g3 (Sub.refl F3)
  cases d with
  | bl k' =>
    obtain rfl : k' = k := Option.some.inj e2
    cases rv
    refine ⟨k', rfl, ?_⟩
    cases k' with
    | true =>
      refine tO_run g3 q8 fun u v3 δ4 F4 H4 g4 s4 l4 q9 => ?_
      obtain ⟨d2', r2', q10⟩ := ((l2.mono n.ff).mono s4).now g4 q9
      obtain ⟨d3, r3, q11⟩ := l4.now g4 q10
      obtain ⟨d', e3, q12⟩ := q11.lift
      exact hr' F4 H4 v2 v3 d2' d3 d' g4.fh r2' r3 e3 Q fun F' H' v n rv => q12 F' H' (g4.new n) n.ff v rv
    | false => exact q8 F3 H3 g3 (Sub.refl F3) _ .bl
  | _ => cases e2
theorem d_chain {op op' : CmpOp} {r r' : R2} {f f' : D → D → Option D} (hr : OpV φ.k r f) (hr' : OpV φ.k r' f') (ho : OpR X (compareOp op) r) (ho' : OpR X (compareOp op') r') (ha : DO X φ W a oa) (hb : DO X φ W b ob) (hc : DO X φ W c oc)
    (hm : lastMarks [op, op'] [b, c] = false := by with_unfolding_all rfl) : DE X φ W (.Compare a [op, op'] [b, c] pos) (chainM f f' oa ob oc) :=
  PE.imp (pe_chain ho ho' ha hb hc hm) fun _ _ _ h => tChain_run hr hr' h
theorem dt_chain {op op' : CmpOp} {r r' : R2} {f f' : D → D → Option D} (hr : OpV φ.k r f) (hr' : OpV φ.k r' f') (ho : OpR X (compareOp op) r) (ho' : OpR X (compareOp op') r') (ha : DO X φ W a oa) (hb : DO X φ W b ob) (hc : DO X φ W c oc)
    (hm : lastMarks [op, op'] [b, c] = false := by with_unfolding_all rfl) : DT X φ W (.Compare a [op, op'] [b, c] pos) (testM (chainM f f' oa ob oc)) :=
  PT.imp (pt_chain ho ho' ha hb hc hm) fun σ H Q q => by
    obtain ⟨F, δ, g, q⟩ := q
    refine tChain_run (W := W) hr hr' ⟨F, δ, g, q.bind.mono (Sub.refl F) fun d δ' F' H' g' s' z v r => ?_⟩
    obtain ⟨k, e, q2⟩ := z.lift
    cases d with
    | bl k' =>
      cases e
      cases r
      exact ⟨_, rfl, q2 F' H' g' (Sub.refl F')⟩
    | _ => cases e
end
end G
set_option maxRecDepth 100000
set_option maxHeartbeats 4000000
namespace G
open PySem PySem.Spec PyProof.Rows L2

section
variable {k : KX} {F H : Hp}
theorem RepOs.one {v : List V} {d : D} (h : RepOs k F H v [d]) : ∃ x, v = [x] ∧ RepO k F H x d := by
  cases h with
  | cons r t => cases t; exact ⟨_, rfl, r⟩
theorem RepOs.two {v : List V} {d e : D} (h : RepOs k F H v [d, e]) : ∃ x y, v = [x, y] ∧ RepO k F H x d ∧ RepO k F H y e := by
  cases h with
  | cons r t =>
    obtain ⟨y, rfl, r2⟩ := RepOs.one t
    exact ⟨_, y, rfl, r, r2⟩
theorem RepL.ints : ∀ {vs : List V} {is : List Int}, RepL k F vs (is.map .int) → vs = is.map V.int
  | [], [], _ => rfl
  | _, _ :: _, .cons h r => by
    cases h
    rw [List.map_cons, RepL.ints r]
theorem RepL.bls : ∀ {vs : List V} {is : List Bool}, RepL k F vs (is.map .bl) → vs = is.map V.bl
  | [], [], _ => rfl
  | _, _ :: _, .cons h r => by
    cases h
    rw [List.map_cons, RepL.bls r]
theorem RepL.strs : ∀ {vs : List V} {is : List Str}, RepL k F vs (is.map .str) → vs = is.map V.str
  | [], [], _ => rfl
  | _, _ :: _, .cons h r => by
    cases h
    rw [List.map_cons, RepL.strs r]
end
def intsOf : List D → Option (List Int)
  | [] => some []
  | .int i :: r => (intsOf r).map (i :: ·)
  | _ => none
def blsOf : List D → Option (List Bool)
  | [] => some []
  | .bl i :: r => (blsOf r).map (i :: ·)
  | _ => none
def strsOf : List D → Option (List Str)
  | [] => some []
  | .str i :: r => (strsOf r).map (i :: ·)
  | _ => none
theorem intsOf_some : ∀ {ds : List D} {is : List Int}, intsOf ds = some is → ds = is.map .int
  | [], _, h => by cases h; rfl
  | d :: r, is, h => by
    cases d with
    | int i =>
      rw [intsOf] at h
      cases e : intsOf r with
      | none => rw [e] at h; cases h
      | some js =>
        rw [e] at h
        cases h
        rw [intsOf_some e]
        rfl
    | _ => cases h
theorem blsOf_some : ∀ {ds : List D} {is : List Bool}, blsOf ds = some is → ds = is.map .bl
  | [], _, h => by cases h; rfl
  | d :: r, is, h => by
    cases d with
    | bl i =>
      rw [blsOf] at h
      cases e : blsOf r with
      | none => rw [e] at h; cases h
      | some js =>
        rw [e] at h
        cases h
        rw [blsOf_some e]
        rfl
    | _ => cases h
theorem strsOf_some : ∀ {ds : List D} {is : List Str}, strsOf ds = some is → ds = is.map .str
  | [], _, h => by cases h; rfl
  | d :: r, is, h => by
    cases d with
    | str i =>
      rw [strsOf] at h
      cases e : strsOf r with
      | none => rw [e] at h; cases h
      | some js =>
        rw [e] at h
        cases h
        rw [strsOf_some e]
        rfl
    | _ => cases h
theorem intsOf_map (is : List Int) : intsOf (is.map .int) = some is := by
  induction is with
  | nil => rfl
  | cons i r ih => rw [List.map_cons, intsOf, ih]; rfl
theorem blsOf_map (is : List Bool) : blsOf (is.map .bl) = some is := by
  induction is with
  | nil => rfl
  | cons i r ih => rw [List.map_cons, blsOf, ih]; rfl
theorem strsOf_map (is : List Str) : strsOf (is.map .str) = some is := by
  induction is with
  | nil => rfl
  | cons i r ih => rw [List.map_cons, strsOf, ih]; rfl

/-! ### len -/
def lenD : List D → Option D
  | [.str x] => if shortS x.length then some (.int x.length) else none
  | [.lst xs] => some (.int xs.length)
  | [.tup xs] => some (.int xs.length)
  | [.scr xs] => some (.int xs.length)
  | [.dk xs] => some (.int xs.length)
  | [.dt xs] => some (.int xs.length)
  | _ => none
def rLenG (K : PySem.W.Frag) : List V → Hp → VK → Prop := fun xs H Q => (∃ x n, xs = [x] ∧ LenV K x H n ∧ Q (.int n) H) ∨ (∃ a kvs, xs = [V.ref a] ∧ H a = some (.dK kvs) ∧ Q (.int kvs.length) H) ∨ rLenT xs H Q
section
variable {X : Cx}
theorem call_lenG : CallR X (.builtin "len") (rLenG X.K) := call_len.or (call_lenD.or call_len_dT)
end
section
variable {k : KX}
theorem RepK.length {F : Hp} : ∀ {vs : List (Key × V)} {ds : List (Key × D)}, RepK k F vs ds → vs.length = ds.length
  | _, _, .nil => rfl
  | _, _, .cons _ r => congrArg Nat.succ (RepK.length r)
theorem RepT.length {F : Hp} : ∀ {vs : List (List Key × V)} {ds : List (List Key × D)}, RepT k F vs ds → vs.length = ds.length
  | _, _, .nil => rfl
  | _, _, .cons _ r => congrArg Nat.succ (RepT.length r)
theorem cv_len : CaV k (rLenG k.K) lenD := by
  intro F H vs ds d s rs e Q q
  unfold lenD at e
  split at e
  · split at e
    · rename_i z
      cases e
      obtain ⟨x, rfl, r⟩ := rs.one
      exact .inl ⟨_, _, rfl, by rw [r.str]; exact ⟨of_decide_eq_true z, rfl⟩, q F H _ (New.refl s) .int⟩
    · cases e
  · cases e
    obtain ⟨x, rfl, r⟩ := rs.one
    obtain ⟨a, vs, rfl, ha, l⟩ := r.lst s
    exact .inl ⟨_, vs.length, rfl, .inl ⟨vs, .of ha, rfl⟩, by rw [l.length]; exact q F H _ (New.refl s) .int⟩
  · cases e
    obtain ⟨x, rfl, r⟩ := rs.one
    obtain ⟨a, vs, rfl, ha, l⟩ := r.tup s
    exact .inl ⟨_, vs.length, rfl, .inr ⟨vs, .of ha, rfl⟩, by rw [l.length]; exact q F H _ (New.refl s) .int⟩
  · cases e
    obtain ⟨x, rfl, r⟩ := rs.one
    obtain ⟨a, vs, rfl, ha, l⟩ := r.scr s
    exact .inl ⟨_, vs.length, rfl, .inl ⟨vs, ha, rfl⟩, by rw [l.length]; exact q F H _ (New.refl s) .int⟩
  · cases e
    obtain ⟨x, rfl, r⟩ := rs.one
    obtain ⟨a, vs, rfl, ha, l⟩ := r.dk s
    exact .inr (.inl ⟨_, vs, rfl, ha, by rw [l.length]; exact q F H _ (New.refl s) .int⟩)
  · cases e
    obtain ⟨x, rfl, r⟩ := rs.one
    obtain ⟨a, vs, rfl, ha, l⟩ := r.dt s
    exact .inr (.inr ⟨_, vs, rfl, ha, by rw [l.length]; exact q F H _ (New.refl s) .int⟩)
  · cases e

/-! ### ints -/
def absD : List D → Option D
  | [.int i] => some (.int (if i < 0 then -i else i))
  | _ => none
def maxD : List D → Option D
  | [.int i, .int j] => some (.int (if j > i then j else i))
  | _ => none
def minD : List D → Option D
  | [.int i, .int j] => some (.int (if j < i then j else i))
  | _ => none
def intD : List D → Option D
  | [.int i] => some (.int i)
  | [.bl b] => some (.int (if b then 1 else 0))
  | _ => none
def divmodD : List D → Option D
  | [.int i, .int j] => if decide (0 < j) && divOk j then some (.tup [.int (i / j), .int (i % j)]) else none
  | _ => none
theorem cv_abs : CaV k (fun xs H Q => ∃ i, xs = [.int i] ∧ Q (.int (if i < 0 then -i else i)) H) absD := by
  intro F H vs ds d s rs e Q q
  unfold absD at e
  split at e <;> cases e
  obtain ⟨x, rfl, r⟩ := rs.one
  exact ⟨_, by rw [r.int], q F H _ (New.refl s) .int⟩
theorem cv_max : CaV k (fun xs H Q => ∃ i j, xs = [.int i, .int j] ∧ Q (.int (if j > i then j else i)) H) maxD := by
  intro F H vs ds d s rs e Q q
  unfold maxD at e
  split at e <;> cases e
  obtain ⟨x, y, rfl, r1, r2⟩ := rs.two
  exact ⟨_, _, by rw [r1.int, r2.int], q F H _ (New.refl s) .int⟩
theorem cv_min : CaV k (fun xs H Q => ∃ i j, xs = [.int i, .int j] ∧ Q (.int (if j < i then j else i)) H) minD := by
  intro F H vs ds d s rs e Q q
  unfold minD at e
  split at e <;> cases e
  obtain ⟨x, y, rfl, r1, r2⟩ := rs.two
  exact ⟨_, _, by rw [r1.int, r2.int], q F H _ (New.refl s) .int⟩
theorem cv_int : CaV k (fun xs H Q => (∃ i, xs = [.int i] ∧ Q (.int i) H) ∨ ∃ k, xs = [.bl k] ∧ Q (.int (if k then 1 else 0)) H) intD := by
  intro F H vs ds d s rs e Q q
  unfold intD at e
  split at e <;> cases e
  · obtain ⟨x, rfl, r⟩ := rs.one
    exact .inl ⟨_, by rw [r.int], q F H _ (New.refl s) .int⟩
  · obtain ⟨x, rfl, r⟩ := rs.one
    exact .inr ⟨_, by rw [r.bl], q F H _ (New.refl s) .int⟩
theorem cv_divmod : CaV k (fun xs H Q => ∃ i j, xs = [.int i, .int j] ∧ CDivP i j ∧ ∀ p, H p = none → Q (.ref p) (upd H p (.tup [.int (i / j), .int (i % j)]))) divmodD := by
  intro F H vs ds d s rs e Q q
  unfold divmodD at e
  split at e
  · split at e
    · rename_i z
      cases e
      rw [Bool.and_eq_true] at z
      obtain ⟨x, y, rfl, r1, r2⟩ := rs.two
      have z2 := of_decide_eq_true z.2
      refine ⟨_, _, by rw [r1.int, r2.int], ⟨of_decide_eq_true z.1, PyProof.noPylong_of_log2 z2.2⟩, fun p hp => ?_⟩
      exact q _ _ _ (New.froze s hp) (.tup upd_same (.cons .int (.cons .int .nil)))
    · cases e
  · cases e

/-! ### lists -/
def allD : List D → Option D
  | [.lst xs] => (blsOf xs).map fun bs => .bl (bs.all id)
  | _ => none
def anyD : List D → Option D
  | [.lst xs] => (blsOf xs).map fun bs => .bl (bs.any id)
  | _ => none
def sumD : List D → Option D
  | [.lst xs] => (intsOf xs).map fun bs => .int bs.sum
  | _ => none
theorem cv_all : CaV k (rAll k.K) allD := by
  intro F H vs ds d s rs e Q q
  unfold allD at e
  split at e
  · rename_i xs
    cases h : blsOf xs with
    | none => rw [h] at e; cases e
    | some bs =>
      rw [h] at e
      cases e
      obtain ⟨x, rfl, r⟩ := rs.one
      obtain ⟨a, vs, rfl, ha, l⟩ := r.lst s
      rw [blsOf_some h] at l
      rw [l.bls] at ha
      exact ⟨a, bs, rfl, .of ha, q F H _ (New.refl s) .bl⟩
  · cases e
theorem cv_any : CaV k (rAny k.K) anyD := by
  intro F H vs ds d s rs e Q q
  unfold anyD at e
  split at e
  · rename_i xs
    cases h : blsOf xs with
    | none => rw [h] at e; cases e
    | some bs =>
      rw [h] at e
      cases e
      obtain ⟨x, rfl, r⟩ := rs.one
      obtain ⟨a, vs, rfl, ha, l⟩ := r.lst s
      rw [blsOf_some h] at l
      rw [l.bls] at ha
      exact ⟨a, bs, rfl, .of ha, q F H _ (New.refl s) .bl⟩
  · cases e
theorem cv_sum : CaV k (rSum k.K) sumD := by
  intro F H vs ds d s rs e Q q
  unfold sumD at e
  split at e
  · rename_i xs
    cases h : intsOf xs with
    | none => rw [h] at e; cases e
    | some bs =>
      rw [h] at e
      cases e
      obtain ⟨x, rfl, r⟩ := rs.one
      obtain ⟨a, vs, rfl, ha, l⟩ := r.lst s
      rw [intsOf_some h] at l
      rw [l.ints] at ha
      exact ⟨a, bs, rfl, .of ha, q F H _ (New.refl s) .int⟩
  · cases e
/-- list(xs): a new list -/
def listD : List D → Option D
  | [.lst xs] => some (.lst xs)
  | [.tup xs] => some (.lst xs)
  | [.scr xs] => some (.lst xs)
  | _ => none
theorem cn_list : CaN k (fun xs H Q => ∃ p ys, xs = [.ref p] ∧ (SqL k.K H p ys ∨ SqT k.K H p ys) ∧ ∀ l, H l = none → Q (.ref l) (upd H l (.lst ys))) listD := by
  intro F H vs ds d s rs e Q q
  unfold listD at e
  split at e <;> cases e
  · obtain ⟨x, rfl, r⟩ := rs.one
    obtain ⟨a, vs, rfl, ha, l⟩ := r.lst s
    exact ⟨a, vs, rfl, .inl (.of ha), fun p hp => q F _ p (New.made s hp) hp (s.none hp) (.lst upd_same l)⟩
  · obtain ⟨x, rfl, r⟩ := rs.one
    obtain ⟨a, vs, rfl, ha, l⟩ := r.tup s
    exact ⟨a, vs, rfl, .inr (.of ha), fun p hp => q F _ p (New.made s hp) hp (s.none hp) (.lst upd_same l)⟩
  · obtain ⟨x, rfl, r⟩ := rs.one
    obtain ⟨a, vs, rfl, ha, l⟩ := r.scr s
    exact ⟨a, vs, rfl, .inl ha, fun p hp => q F _ p (New.made s hp) hp (s.none hp) (.lst upd_same l)⟩
/-- tuple(xs) -/
def tupleD : List D → Option D
  | [.lst xs] => some (.tup xs)
  | [.tup xs] => some (.tup xs)
  | [.scr xs] => some (.tup xs)
  | _ => none
theorem cv_tuple : CaV k (fun xs H Q => ∃ p ys, xs = [.ref p] ∧ ((SqL k.K H p ys ∧ ∀ l, H l = none → Q (.ref l) (upd H l (.tup ys))) ∨ (SqT k.K H p ys ∧ Q (.ref p) H))) tupleD := by
  intro F H vs ds d s rs e Q q
  unfold tupleD at e
  split at e <;> cases e
  · obtain ⟨x, rfl, r⟩ := rs.one
    obtain ⟨a, vs, rfl, ha, l⟩ := r.lst s
    refine ⟨a, vs, rfl, .inl ⟨.of ha, fun p hp => ?_⟩⟩
    have n := New.froze (o := .tup vs) s hp
    exact q _ _ _ n (.tup upd_same (l.mono n.ff))
  · obtain ⟨x, rfl, r⟩ := rs.one
    have r0 := r.tupR
    obtain ⟨a, vs, rfl, ha, l⟩ := r.tup s
    exact ⟨a, vs, rfl, .inr ⟨.of ha, q F H _ (New.refl s) r0⟩⟩
  · obtain ⟨x, rfl, r⟩ := rs.one
    obtain ⟨a, vs, rfl, ha, l⟩ := r.scr s
    refine ⟨a, vs, rfl, .inl ⟨ha, fun p hp => ?_⟩⟩
    have n := New.froze (o := .tup vs) s hp
    exact q _ _ _ n (.tup upd_same (l.mono n.ff))
end

/-! ### isinstance -/
abbrev TyN := Nat ⊕ String
def tyV (k : KX) : TyN → Value
  | .inl c => .ref (k.cm c)
  | .inr n => .type n
/-- what the text's classes are to one another -/
structure Cfg where
  isa : TyN → TyN → Option Bool
  cls : Nat → Bool
structure ClsOk (k : KX) (c : Nat) : Prop where
  cls : Cls k.K (k.cm c)
  ha : PySem.W.findIn k.K (.ref (k.cm c)) "__class__" = some (some (.builtin "object.__class__"))
  hn : PySem.W.specialIn k.K (.builtin "object.__class__") "__get__" = some (some (.builtin "getset_descriptor.__get__"))
  htk : PySem.W.takesIn k.K (.builtin "object.__class__") = some true
  hm : PySem.W.mroIn k.K (k.cm c) (.type "object") = some true
structure CfgOk (k : KX) (g : Cfg) : Prop where
  isa : ∀ t u b, g.isa t u = some b → PySem.W.kitOne k.K (tyV k t) (tyV k u) = some b
  cls : ∀ c, g.cls c = true → ClsOk k c
def tyD (g : Cfg) : D → Option TyN
  | .non => some (.inr "NoneType")
  | .bl _ => some (.inr "bool")
  | .int _ => some (.inr "int")
  | .str _ => some (.inr "str")
  | .lst _ => some (.inr "list")
  | .tup _ => some (.inr "tuple")
  | .dk _ => some (.inr "dict")
  | .dt _ => some (.inr "dict")
  | .obj c _ => if g.cls c then some (.inl c) else none
  | _ => none
def clsD : D → Option TyN
  | .ty n => some (.inr n)
  | .cl c => some (.inl c)
  | _ => none
def clsDs : List D → Option (List TyN)
  | [] => some []
  | d :: ds => match clsD d, clsDs ds with
    | some a, some b => some (a :: b)
    | _, _ => none
def isaAny (g : Cfg) (t : TyN) : List TyN → Option Bool
  | [] => some false
  | u :: us => match g.isa t u with
    | some true => some true
    | some false => isaAny g t us
    | none => none
def isinD (g : Cfg) : List D → Option D
  | [x, .tup cs] => (match tyD g x, clsDs cs with
    | some t, some us => (isaAny g t us).map .bl
    | _, _ => none)
  | [x, c] => (match tyD g x, clsD c with
    | some t, some u => (g.isa t u).map .bl
    | _, _ => none)
  | _ => none
def rIsiG (K : PySem.W.Frag) : List V → Hp → VK → Prop := fun xs H Q => rIsiT K xs H Q ∨ rIsi K xs H Q
section
variable {X : Cx}
theorem call_isiG : CallR X (.builtin "isinstance") (rIsiG X.K) := call_isiT.or call_isi
end
section
variable {k : KX} {g : Cfg}
theorem RepO.ty1 {F H : Hp} {v : V} {d : D} {t : TyN} (r : RepO k F H v d) (G : CfgOk k g) (s : Sub F H) (h : tyD g d = some t) : TyX k.K H v (tyV k t) := by
  refine .base ?_
  cases d with
  | non => cases h; rw [r.non]; exact .non
  | bl _ => cases h; rw [r.bl]; exact .bl _
  | int _ => cases h; rw [r.int]; exact .int _
  | str _ => cases h; rw [r.str]; exact .str _
  | ty _ => cases h
  | cl _ => cases h
  | scr _ => cases h
  | lst xs => cases h; obtain ⟨a, vs, rfl, e, l⟩ := r.lst s; exact .lst e
  | tup xs => cases h; obtain ⟨a, vs, rfl, e, l⟩ := r.tup s; exact .tup e
  | dk xs => cases h; obtain ⟨a, vs, rfl, e, l⟩ := r.dk s; exact .dK e
  | dt xs => cases h; obtain ⟨a, vs, rfl, e, l⟩ := r.dt s; exact .dT e
  | obj c xs =>
    change (if g.cls c = true then some (Sum.inl c) else none) = some t at h
    by_cases z : g.cls c = true
    · rw [if_pos z] at h
      cases h
      have o := G.cls c z
      obtain ⟨a, dx, vs, rfl, e, l⟩ := r.obj s
      exact .ins e o.cls o.ha o.hn o.htk o.hm
    · rw [if_neg z] at h
      cases h
theorem RepO.cls1 {F H : Hp} {v : V} {d : D} {t : TyN} (r : RepO k F H v d) (h : clsD d = some t) : ClsV v (tyV k t) := by
  cases d with
  | ty _ => cases h; rw [r.ty]; exact .ty _
  | cl _ => cases h; rw [r.cl]; exact .own _
  | _ => cases h
theorem RepL.clss {F : Hp} : ∀ {vs : List V} {ds : List D} {ts : List TyN}, RepL k F vs ds → clsDs ds = some ts → Paired ClsV vs (ts.map (tyV k))
  | _, [], _, .nil, h => by cases h; exact .nil
  | _, d :: ds, _, .cons r rs, h => by
    cases h1 : clsD d with
    | none => rw [clsDs, h1] at h; cases h
    | some t =>
      cases h2 : clsDs ds with
      | none => rw [clsDs, h1, h2] at h; cases h
      | some ts =>
        rw [clsDs, h1, h2] at h
        cases h
        exact .cons ((RepO.of (H := F) r).cls1 h1) (rs.clss h2)
theorem isaAny_ok (G : CfgOk k g) {t : TyN} : ∀ {us : List TyN} {b : Bool}, isaAny g t us = some b → PySem.W.kitAny k.K (tyV k t) (us.map (tyV k)) = some b
  | [], b, h => by cases h; exact kitAny_nil
  | u :: us, b, h => by
    cases e : g.isa t u with
    | none => rw [isaAny, e] at h; cases h
    | some c =>
      rw [isaAny, e] at h
      cases c with
      | true => cases h; exact kitAny_cons (r := true) (G.isa t u true e) (fun z => nomatch z) fun _ => rfl
      | false => exact kitAny_cons (G.isa t u false e) (fun _ => isaAny_ok G h) fun z => nomatch z
theorem cv_isin (G : CfgOk k g) : CaV k (rIsiG k.K) (isinD g) := by
  intro F H vs ds d s rs e Q q
  unfold isinD at e
  split at e
  · rename_i x cs
    split at e
    · rename_i t us h1 h2
      cases h3 : isaAny g t us with
      | none => rw [h3] at e; cases e
      | some b =>
        rw [h3] at e
        cases e
        obtain ⟨v, w, rfl, r1, r2⟩ := rs.two
        obtain ⟨a, vs, rfl, ha, l⟩ := r2.tup s
        exact .inl ⟨v, a, vs, tyV k t, us.map (tyV k), b, rfl, ha, l.clss h2, r1.ty1 G s h1, isaAny_ok G h3, q F H _ (New.refl s) .bl⟩
    · cases e
  · rename_i x c _
    split at e
    · rename_i t u h1 h2
      cases h3 : g.isa t u with
      | none => rw [h3] at e; cases e
      | some b =>
        rw [h3] at e
        cases e
        obtain ⟨v, w, rfl, r1, r2⟩ := rs.two
        exact .inr ⟨v, w, tyV k t, tyV k u, b, rfl, r2.cls1 h2, r1.ty1 G s h1, G.isa t u b h3, q F H _ (New.refl s) .bl⟩
    · cases e
  · cases e
end
end G
set_option maxRecDepth 100000
set_option maxHeartbeats 4000000
namespace G
open PySem PySem.Spec PyProof.Rows L2

/-! ### keys -/
def keyD : D → Option Key
  | .int i => some (.inl i)
  | .str x => some (.inr x)
  | _ => none
def keysD : List D → Option (List Key)
  | [] => some []
  | d :: ds => match keyD d, keysD ds with
    | some a, some b => some (a :: b)
    | _, _ => none
def tupKey : D → Option (List Key)
  | .tup ds => keysD ds
  | _ => none
def valD {κ : Type} [DecidableEq κ] (kds : List (κ × D)) (q : κ) : Option D := (kds.find? fun kv => decide (kv.1 = q)).map (·.2)
theorem valD_neg {κ : Type} [DecidableEq κ] {p q : κ} {d : D} {r : List (κ × D)} (e : ¬ p = q) : valD ((p, d) :: r) q = valD r q := by simp only [valD, List.find?_cons, decide_eq_false e]
theorem valD_pos {κ : Type} [DecidableEq κ] {p : κ} {d : D} {r : List (κ × D)} : valD ((p, d) :: r) p = some d := by simp [valD, List.find?_cons]
section
variable {k : KX} {F H : Hp}
theorem RepO.key {v : V} {d : D} {q : Key} (r : RepO k F H v d) (h : keyD d = some q) : v = kV q := by
  cases d with
  | int i => cases h; exact r.int
  | str x => cases h; exact r.str
  | _ => cases h
theorem RepL.keys : ∀ {vs : List V} {ds : List D} {q : List Key}, RepL k F vs ds → keysD ds = some q → vs = q.map kV
  | _, [], _, .nil, h => by cases h; rfl
  | _, d :: ds, _, .cons r rs, h => by
    cases h1 : keyD d with
    | none => rw [keysD, h1] at h; cases h
    | some t =>
      cases h2 : keysD ds with
      | none => rw [keysD, h1, h2] at h; cases h
      | some ts =>
        rw [keysD, h1, h2] at h
        cases h
        rw [List.map_cons, (RepO.of (H := F) r).key h1, rs.keys h2]
theorem RepK.val : ∀ {vs : List (Key × V)} {ds : List (Key × D)} {q : Key}, RepK k F vs ds → (∀ d, valD ds q = some d → ∃ v, valV vs q = some v ∧ Rep k F v d) ∧ (valD ds q = none → valV vs q = none)
  | _, _, q, .nil => ⟨fun d h => (by cases h), fun _ => rfl⟩
  | _, _, q, .cons (q := p) (v := v) (d := d) r rs => by
    have ih := RepK.val (q := q) rs
    by_cases e : p = q
    · subst e
      refine ⟨fun d' h => ⟨v, valV_pos (p := (p, v)) rfl, ?_⟩, fun h => ?_⟩
      · have : d = d' := by simpa [valD, List.find?_cons] using h
        subst this
        exact r
      · simp [valD, List.find?_cons] at h
    · rw [valD_neg e, valV_neg (p := (p, v)) e]
      exact ih
theorem RepT.val : ∀ {vs : List (List Key × V)} {ds : List (List Key × D)} {q : List Key}, RepT k F vs ds → (∀ d, valD ds q = some d → ∃ v, valV vs q = some v ∧ Rep k F v d) ∧ (valD ds q = none → valV vs q = none)
  | _, _, q, .nil => ⟨fun d h => (by cases h), fun _ => rfl⟩
  | _, _, q, .cons (q := p) (v := v) (d := d) r rs => by
    have ih := RepT.val (q := q) rs
    by_cases e : p = q
    · subst e
      refine ⟨fun d' h => ⟨v, valV_pos (p := (p, v)) rfl, ?_⟩, fun h => ?_⟩
      · have : d = d' := by simpa [valD, List.find?_cons] using h
        subst this
        exact r
      · simp [valD, List.find?_cons] at h
    · rw [valD_neg e, valV_neg (p := (p, v)) e]
      exact ih
/-- a look-up -/
theorem RepO.dgetK {v y : V} {kds : List (Key × D)} {d : D} {q : Key} (r : RepO k F H v (.dk kds)) (s : Sub F H) (ry : RepO k F H y d) (hk : keyD d = some q) : ∃ a o, v = .ref a ∧ DGet H a y o ∧
    (∀ z, valD kds q = some z → ∃ w, o = some w ∧ Rep k F w z) ∧ (valD kds q = none → o = none) := by
  obtain ⟨a, vs, rfl, e, l⟩ := r.dk s
  refine ⟨a, valV vs q, rfl, ?_, (l.val (q := q)).1, (l.val (q := q)).2⟩
  rw [ry.key hk]
  exact .k e
theorem RepO.dgetT {v y : V} {kds : List (List Key × D)} {d : D} {q : List Key} (r : RepO k F H v (.dt kds)) (s : Sub F H) (ry : RepO k F H y d) (hk : tupKey d = some q) : ∃ a o, v = .ref a ∧ DGet H a y o ∧
    (∀ z, valD kds q = some z → ∃ w, o = some w ∧ Rep k F w z) ∧ (valD kds q = none → o = none) := by
  obtain ⟨a, vs, rfl, e, l⟩ := r.dt s
  cases d with
  | tup ds =>
    obtain ⟨b, ws, rfl, e2, l2⟩ := ry.tup s
    rw [l2.keys hk] at e2
    exact ⟨a, valV vs q, rfl, .t e e2, (l.val (q := q)).1, (l.val (q := q)).2⟩
  | _ => cases hk
end
/-- what stands under a key -/
def dgetD (o i : D) : Option (Option D) := match o with
  | .dk kds => (keyD i).map (valD kds)
  | .dt kds => (tupKey i).map (valD kds)
  | _ => none
theorem RepO.dget {k : KX} {F H : Hp} {v y : V} {o i : D} {r : Option D} (ro : RepO k F H v o) (s : Sub F H) (ry : RepO k F H y i) (h : dgetD o i = some r) : ∃ a w, v = .ref a ∧ DGet H a y w ∧
    (∀ z, r = some z → ∃ x, w = some x ∧ Rep k F x z) ∧ (r = none → w = none) := by
  unfold dgetD at h
  split at h
  · rename_i kds
    cases e : keyD i with
    | none => rw [e] at h; cases h
    | some q => rw [e] at h; cases h; exact ro.dgetK s ry e
  · rename_i kds
    cases e : tupKey i with
    | none => rw [e] at h; cases h
    | some q => rw [e] at h; cases h; exact ro.dgetT s ry e
  · cases h

/-! ### o[i] -/
def ixD (o i : D) : Option D := match o, i with
  | .lst xs, .int j => atI xs j
  | .tup xs, .int j => atI xs j
  | .scr xs, .int j => atI xs j
  | .str z, .int j => if shortS z.length then (atI z.cps.toList j).map fun c => .str ⟨#[c]⟩ else none
  | o, i => (dgetD o i).bind id
def rIxD : R2 := fun x y H Q => ∃ a v, x = .ref a ∧ DGet H a y (some v) ∧ Q v H
def rIxG (K : PySem.W.Frag) : R2 := fun x y H Q => rIx K x y H Q ∨ rIxD x y H Q
section
variable {X : Cx}
theorem ix_dict (hu : X.A.units + 1 < cLine) : IxR X rIxD := by
  intro value slice pins s σ H x y v u Q I rx ry h hs
  obtain ⟨a, z, rfl, g, q⟩ := h
  cases rx
  have hT := dict_typeIs I g
  unfold subscriptTail
  refine wpAny_bind ?_
  rw [getitemInPython_of_ne hT.not_modules]
  refine wpAny_bind (wpAny_specialOf hT PySem.F.slot_dict_getitem.lookup ?_)
  have fin : wpAny (model X.prog X.w) X.A (subscripted slice false (.ref a) u) (fun r s₃ => wpAny (model X.prog X.w) X.A (letTemporaryGo value (.ref a) r >>= fun _ => pure r) (EP X pins σ Q) X.xe s₃) X.xe s := by
    rw [hs]
    exact wpAny_operating (wpAny_mono (d_getItem hu I g ry fun w' s3 I3 rw' => (⟨z, H, I3, rw', q⟩ : EP X pins σ Q w' s3)) (fun r s₃ h₃ => wpAny_bind (wpAny_letTemporaryGo (wpAny_pure h₃))) fun _ _ x => x)
  first
    | exact wpAny_pure (wpAny_bind fin)
    | exact wpAny_bind (wpAny_pure (wpAny_bind fin))
    | exact wpAny_bind fin
theorem ix_all (hu : X.A.units + 1 < cLine) : IxR X (rIxG X.K) := ix_seq.or (ix_dict hu)
end
theorem atI_rep {k : KX} {F : Hp} {vs : List V} {ds : List D} {j : Int} {d : D} (l : RepL k F vs ds) (h : atI ds j = some d) : ∃ v, atI vs j = some v ∧ Rep k F v d := by
  unfold atI at h ⊢
  rw [l.length]
  cases e : ixN ds.length j with
  | none => rw [e] at h; cases h
  | some i =>
    rw [e] at h
    exact l.get h
theorem ov_ix {k : KX} : OpV k (rIxG k.K) ixD := by
  intro F H v1 v2 d1 d2 d s r1 r2 e Q q
  unfold ixD at e
  split at e
  · obtain ⟨a, vs, rfl, ha, l⟩ := r1.lst s
    obtain ⟨w, h1, h2⟩ := atI_rep l e
    exact .inl (.inl ⟨a, vs, _, w, rfl, r2.int, .of ha, h1, q F H _ (New.refl s) h2⟩)
  · obtain ⟨a, vs, rfl, ha, l⟩ := r1.tup s
    obtain ⟨w, h1, h2⟩ := atI_rep l e
    exact .inl (.inr (.inl ⟨a, vs, _, w, rfl, r2.int, .of ha, h1, q F H _ (New.refl s) h2⟩))
  · obtain ⟨a, vs, rfl, ha, l⟩ := r1.scr s
    obtain ⟨w, h1, h2⟩ := atI_rep l e
    exact .inl (.inl ⟨a, vs, _, w, rfl, r2.int, ha, h1, q F H _ (New.refl s) h2⟩)
  · rename_i z j
    by_cases hz : shortS z.length = true
    · rw [if_pos hz] at e
      cases h1 : atI z.cps.toList j with
      | none => rw [h1] at e; cases e
      | some c =>
        rw [h1] at e
        cases e
        exact .inl (.inr (.inr ⟨z, j, c, r1.str, r2.int, of_decide_eq_true hz, h1, q F H _ (New.refl s) .str⟩))
    · rw [if_neg hz] at e
      cases e
  · cases h1 : dgetD d1 d2 with
    | none => rw [h1] at e; cases e
    | some r =>
      rw [h1] at e
      obtain ⟨a, w, rfl, g, h2, _⟩ := r1.dget s r2 h1
      obtain ⟨x, rfl, rx⟩ := h2 d e
      exact .inr ⟨a, x, rfl, g, q F H _ (New.refl s) rx⟩
section
variable {X : Cx} {φ : Fx} {W : WX} {F F' H H' : Hp} {σ : L2.St} {δ : DEnv} {e a b c : Expr} {rest : List Expr} {pos : Pos} {o oa ob oc : Opd} {Q : VK}
theorem d_ix (hr : IxR X (rIxG X.K)) (ha : DO X φ W a oa) (hb : DO X φ W b ob) (hs : PlainIx b := by intro _ _; rfl) (hK : φ.k.K = X.K := by rfl) : DE X φ W (.Subscript a b pos) (binM ixD oa ob) :=
  PE.imp (pe_ix hr ha hb hs) fun _ _ _ h => tOp_bin (by rw [← hK]; exact ov_ix) h

/-! ### slices -/
def partM : Option Opd → M (Option Int)
  | none => M.pure none
  | some o => o.p1.bind fun x => (o.p2 x).bind fun d => match d with
    | .int i => M.pure (some i)
    | _ => badM
def cutDs (xs : List D) (lo hi : Option Int) : List D := (xs.drop (HT.sIx xs.length 0 lo)).take (HT.sIx xs.length xs.length hi - HT.sIx xs.length 0 lo)
def tPO (φ : Fx) (W : WX) : Option Opd → TO
  | none => tNoPart
  | some o => tPart (tO φ W o)
abbrev DP (X : Cx) (φ : Fx) (W : WX) (e : Option Expr) (o : Option Opd) : Prop := PO X e (tPO φ W o)
theorem dp_none : DP X φ W none none := po_none
theorem dp_some (h : DO X φ W e o) : DP X φ W (some e) (some o) := po_some h
theorem tPO_run {α : Type} {o : Option Opd} {f : Option Int → M α} {P : α → DEnv → Hp → Hp → Prop} {Q : Option Int → Hp → Prop} (g : GI φ F H σ δ) (q : Out φ W σ F ((partM o).bind f δ) P)
    (h : ∀ x δ' F' H', GI φ F' H' σ δ' → Sub F F' → Out φ W σ F' (f x δ') P → Q x H') : tPO φ W o σ H Q := by
  cases o with
  | none => exact h none δ F H g (Sub.refl F) q
  | some o =>
    rw [partM, bind_assoc] at q
    refine tO_run g q fun x v δ1 F1 H1 g1 s1 l1 q1 => ?_
    rw [bind_assoc] at q1
    obtain ⟨d, r, q2⟩ := l1.now g1 q1
    cases d with
    | int i => exact ⟨i, r.int, h (some i) δ1 F1 H1 g1 s1 q2⟩
    | _ => exact (show False from q2).elim
def slM (f : D → Option Int → Option Int → Option D) (o : Opd) (lo hi : Option Opd) : M D := o.p1.bind fun x => (partM lo).bind fun l => (partM hi).bind fun u => (o.p2 x).bind fun d => lift (f d l u)
def slD : D → Option Int → Option Int → Option D
  | .lst xs, lo, hi => some (.lst (cutDs xs lo hi))
  | .tup xs, lo, hi => some (.tup (cutDs xs lo hi))
  | .str z, lo, hi => if shortS z.length then some (.str (cutS z lo hi)) else none
  | _, _, _ => none
def slN : D → Option Int → Option Int → Option D
  | .lst xs, lo, hi => some (.lst (cutDs xs lo hi))
  | _, _, _ => none
def rSlG (K : PySem.W.Frag) : V → Option Int → Option Int → Hp → VK → Prop := fun x lo hi H Q => rSlL K x lo hi H Q ∨ rSlA K x lo hi H Q ∨ rSlS x lo hi H Q
theorem sl_all : SlR X (rSlG X.K) := sl_list.or (sl_tupA.or sl_str)
theorem cut_rep {k : KX} {F : Hp} {vs : List V} {ds : List D} {lo hi : Option Int} (l : RepL k F vs ds) : RepL k F (cutV vs lo hi) (cutDs ds lo hi) := by
  unfold cutV cutDs
  rw [l.length]
  exact (l.drop _).take _
theorem cut_whole {ds : List D} {lo hi : Option Int} (h : HT.sIx ds.length 0 lo = 0 ∧ HT.sIx ds.length ds.length hi = ds.length) : cutDs ds lo hi = ds := by
  unfold cutDs
  rw [h.1, h.2, List.drop_zero, Nat.sub_zero, List.take_length]
theorem tSl_run {lo hi : Option Opd} (hK : φ.k.K = X.K) (h : tM φ W (slM slD o lo hi) σ H Q) : tSl (rSlG X.K) (tO φ W o) (tPO φ W lo) (tPO φ W hi) σ H Q := by
  obtain ⟨F, δ, g, q⟩ := h
  refine tO_run g q fun x v δ1 F1 H1 g1 s1 l1 q1 => ?_
  refine tPO_run g1 q1 fun l δ2 F2 H2 g2 s2 q2 => ?_
  refine tPO_run g2 q2 fun u δ3 F3 H3 g3 s3 q3 => ?_
  obtain ⟨d, r, q4⟩ := ((l1.mono s2).mono s3).now g3 q3
  obtain ⟨z, e, q5⟩ := q4.lift
  unfold slD at e
  split at e
  · cases e
    obtain ⟨a, vs, rfl, ha, ll⟩ := r.lst g3.fh
    refine .inl ⟨a, vs, rfl, .of ha, fun p hp => ?_⟩
    have n := New.froze (o := .lst (cutV vs l u)) g3.fh hp
    exact q5 _ _ (g3.new n) n.ff _ (.lst upd_same ((cut_rep ll).mono n.ff))
  · cases e
    have r0 := r.tupR
    obtain ⟨a, vs, rfl, ha, ll⟩ := r.tup g3.fh
    refine .inr (.inl ⟨a, vs, rfl, .of ha, fun w => ?_, fun _ p hp => ?_⟩)
    · refine q5 F3 H3 g3 (Sub.refl F3) _ ?_
      have e : cutDs _ l u = _ := cut_whole (by rw [← ll.length]; exact w)
      rw [e]
      exact r0
    · have n := New.froze (o := .tup (cutV vs l u)) g3.fh hp
      exact q5 _ _ (g3.new n) n.ff _ (.tup upd_same ((cut_rep ll).mono n.ff))
  · rename_i zz
    by_cases hz : shortS zz.length = true
    · rw [if_pos hz] at e
      cases e
      exact .inr (.inr ⟨zz, r.str, of_decide_eq_true hz, q5 F3 H3 g3 (Sub.refl F3) _ .str⟩)
    · rw [if_neg hz] at e
      cases e
  · cases e
theorem tSl_runN {lo hi : Option Opd} (hK : φ.k.K = X.K) (h : tN φ W (slM slN o lo hi) σ H Q) : tSl (rSlG X.K) (tO φ W o) (tPO φ W lo) (tPO φ W hi) σ H Q := by
  obtain ⟨F, δ, g, q⟩ := h
  refine tO_run g q fun x v δ1 F1 H1 g1 s1 l1 q1 => ?_
  refine tPO_run g1 q1 fun l δ2 F2 H2 g2 s2 q2 => ?_
  refine tPO_run g2 q2 fun u δ3 F3 H3 g3 s3 q3 => ?_
  obtain ⟨d, r, q4⟩ := ((l1.mono s2).mono s3).now g3 q3
  obtain ⟨z, e, q5⟩ := q4.lift
  unfold slN at e
  split at e
  · cases e
    obtain ⟨a, vs, rfl, ha, ll⟩ := r.lst g3.fh
    refine .inl ⟨a, vs, rfl, .of ha, fun p hp => ?_⟩
    have n := New.made (o := .lst (cutV vs l u)) g3.fh hp
    exact q5 _ _ (g3.new n) n.ff _ (g3.fresh hp (g3.fh.none hp) (.lst upd_same (cut_rep ll)))
  · cases e
theorem d_sl {lo hi : Option Expr} {ol oh : Option Opd} {p2 : Pos} (he : DO X φ W e o) (hl : DP X φ W lo ol) (hu : DP X φ W hi oh) (hK : φ.k.K = X.K := by rfl) : DE X φ W (.Subscript e (.Slice lo hi none p2) pos) (slM slD o ol oh) :=
  PE.imp (pe_slice sl_all he hl hu) fun _ _ _ h => tSl_run hK h
theorem d_slN {lo hi : Option Expr} {ol oh : Option Opd} {p2 : Pos} (he : DO X φ W e o) (hl : DP X φ W lo ol) (hu : DP X φ W hi oh) (hK : φ.k.K = X.K := by rfl) : DN X φ W (.Subscript e (.Slice lo hi none p2) pos) (slM slN o ol oh) :=
  PE.imp (pe_slice sl_all he hl hu) fun _ _ _ h => tSl_runN hK h

/-! ### a if t else b; and, or, not as values -/
def ifM (t : M Bool) (a b : M D) : M D := t.bind fun c => if c = true then a else b
def andV (o : M D) (b : M D) : M D := o.bind fun d => (lift (truthD d)).bind fun c => if c = true then b else M.pure d
def orV (o : M D) (b : M D) : M D := o.bind fun d => (lift (truthD d)).bind fun c => if c = true then M.pure d else b
def notV (o : Opd) : M D := o.p1.bind fun x => (o.p2 x).bind fun d => (lift (truthD d)).bind fun c => M.pure (.bl (!c))
variable {t : M Bool} {ma mb : M D}
theorem d_if (hc : DT X φ W c t) (ha : DE X φ W a ma) (hb : DE X φ W b mb) : DE X φ W (.IfExp c a b pos) (ifM t ma mb) := PE.imp (pe_ifExp hc ha hb) fun σ H Q q => by
  obtain ⟨F, δ, g, q⟩ := q
  refine tT_run g q fun c δ1 F1 H1 g1 s1 q1 => ?_
  cases c with
  | true => exact ⟨F1, δ1, g1, q1⟩
  | false => exact ⟨F1, δ1, g1, q1⟩
theorem d_one {op : BoolOp} (ha : DE X φ W a ma) : DE X φ W (.BoolOp op [a] pos) ma := pe_one ha
theorem d_and (ha : DE X φ W a ma) (hb : DE X φ W (.BoolOp .And (b :: rest) pos) mb) (hK : φ.k.K = X.K := by rfl) : DE X φ W (.BoolOp .And (a :: b :: rest) pos) (andV ma mb) := PE.imp (pe_andT ha hb) fun σ H Q q => by
  obtain ⟨F, δ, g, q⟩ := q
  refine tM_run g q fun d v δ1 F1 H1 g1 s1 r1 q1 => ?_
  obtain ⟨k, e, q2⟩ := (show Out φ W σ F1 (lift (truthD d) δ1) _ from q1.bind).lift
  have q3 := q2 F1 H1 g1 (Sub.refl F1)
  refine ⟨k, by rw [← hK]; exact (RepO.of r1).truth g1.fh e, ?_⟩
  cases k with
  | true => exact ⟨F1, δ1, g1, q3⟩
  | false => exact q3 F1 H1 g1 (Sub.refl F1) v r1
theorem d_or (ha : DE X φ W a ma) (hb : DE X φ W (.BoolOp .Or (b :: rest) pos) mb) (hK : φ.k.K = X.K := by rfl) : DE X φ W (.BoolOp .Or (a :: b :: rest) pos) (orV ma mb) := PE.imp (pe_orT ha hb) fun σ H Q q => by
  obtain ⟨F, δ, g, q⟩ := q
  refine tM_run g q fun d v δ1 F1 H1 g1 s1 r1 q1 => ?_
  obtain ⟨k, e, q2⟩ := (show Out φ W σ F1 (lift (truthD d) δ1) _ from q1.bind).lift
  have q3 := q2 F1 H1 g1 (Sub.refl F1)
  refine ⟨k, by rw [← hK]; exact (RepO.of r1).truth g1.fh e, ?_⟩
  cases k with
  | true => exact q3 F1 H1 g1 (Sub.refl F1) v r1
  | false => exact ⟨F1, δ1, g1, q3⟩
theorem d_not (ha : DO X φ W a o) (hK : φ.k.K = X.K := by rfl) : DE X φ W (.UnaryOp .Not a pos) (notV o) := PE.imp (pe_notT ha) fun σ H Q q => by
  obtain ⟨F, δ, g, q⟩ := q
  refine tO_run g q fun x v δ1 F1 H1 g1 s1 l1 q1 => ?_
  obtain ⟨d, r, q2⟩ := l1.now g1 q1
  obtain ⟨k, e, q3⟩ := (show Out φ W σ F1 (lift (truthD d) δ1) _ from q2.bind).lift
  exact ⟨k, by rw [← hK]; exact r.truth g1.fh e, q3 F1 H1 g1 (Sub.refl F1) F1 H1 g1 (Sub.refl F1) _ .bl⟩
end
end G
set_option maxRecDepth 100000
set_option maxHeartbeats 4000000
namespace G
open PySem PySem.Spec PyProof.Rows L2

inductive Fl where
  | nx | rt (r : SD) | bk | ct
/-- what is handed back: kept, or a new object of the def's own -/
def RetOk (φ : Fx) (F H : Hp) (v : V) : SD → Prop
  | .val d => Rep φ.k F v d
  | .own d => ∃ p, v = .ref p ∧ φ.H0 p = none ∧ F p = none ∧ OwnAt φ.k F H p d
  | _ => False
def SOut (φ : Fx) (W : WX) (F : Hp) (r : R Fl) (D : Ends) : Prop := match r with
  | .ok .nx δ' => ∀ F' H' σ', GI φ F' H' σ' δ' → Sub F F' → D.nx σ' H'
  | .ok .bk δ' => ∀ F' H' σ', GI φ F' H' σ' δ' → Sub F F' → D.bk σ' H'
  | .ok .ct δ' => ∀ F' H' σ', GI φ F' H' σ' δ' → Sub F F' → D.ct σ' H'
  | .ok (.rt r) δ' => ∀ F' H' σ' v, GI φ F' H' σ' δ' → Sub F F' → RetOk φ F' H' v r → D.rt v H'
  | .exc x δ' => ∀ F' H' σ' da, GI φ F' H' σ' δ' → Sub F F' → XAt φ.k F' da x → W (x.val φ.k) da σ' H'
  | .bad => False
def tS (φ : Fx) (W : WX) (m : M Fl) : TS := fun D σ H => ∃ F δ, GI φ F H σ δ ∧ SOut φ W F (m δ) D
abbrev DS (X : Cx) (φ : Fx) (W : WX) (st : Stmt) (m : M Fl) : Prop := PS X st (tS φ W m)
abbrev DSs (X : Cx) (φ : Fx) (W : WX) (st : List Stmt) (m : M Fl) : Prop := PSs X st (tS φ W m)
def seqS (a b : M Fl) : M Fl := a.bind fun f => match f with
  | .nx => b
  | f => M.pure f
def passS : M Fl := M.pure .nx
def exprS (m : M D) : M Fl := m.bind fun _ => M.pure .nx
def retS (m : M D) : M Fl := m.bind fun d => M.pure (.rt (.val d))
def retO (m : M D) : M Fl := m.bind fun d => M.pure (.rt (.own d))
def retN : M Fl := M.pure (.rt (.val .non))
def iffS (t : M Bool) (a b : M Fl) : M Fl := t.bind fun c => if c = true then a else b
/-- a slot is handed back -/
def retV (i : Nat) : M Fl := fun δ => match δ[i]? with
  | some (.own d) => .ok (.rt (.own d)) δ
  | some (.val d) => .ok (.rt (.val d)) δ
  | some (.arg d) => .ok (.rt (.val d)) (δ.set i (.frz d))
  | some (.frz d) => .ok (.rt (.val d)) δ
  | _ => .bad
def storeM (i : Nat) (d : D) : M Unit := fun δ => match δ[i]? with
  | some .no => .ok () (δ.set i (.val d))
  | some (.val _) => .ok () (δ.set i (.val d))
  | some (.own _) => .ok () (δ.set i (.val d))
  | _ => .bad
def storeN (i : Nat) (d : D) : M Unit := fun δ => match δ[i]? with
  | some .no => .ok () (δ.set i (.own d))
  | some (.val _) => .ok () (δ.set i (.own d))
  | some (.own _) => .ok () (δ.set i (.own d))
  | _ => .bad
def setS (i : Nat) (m : M D) : M Fl := m.bind fun d => (storeM i d).bind fun _ => M.pure .nx
def setN (i : Nat) (m : M D) : M Fl := m.bind fun d => (storeN i d).bind fun _ => M.pure .nx

section
variable {X : Cx} {φ : Fx} {W : WX} {F F' H H' : Hp} {σ : L2.St} {δ : DEnv} {D : Ends} {st : Stmt} {rest : List Stmt} {pos : Pos} {e : Expr} {a b : M Fl} {m : M G.D} {i : Nat}
theorem SOut.mono {r : R Fl} (h : SOut φ W F r D) (s : Sub F F') : SOut φ W F' r D := by
  cases r with
  | bad => exact h
  | exc x δ' => exact fun F1 H1 σ1 da g s1 x => h F1 H1 σ1 da g (s.trans s1) x
  | ok f δ' =>
    cases f with
    | nx => exact fun F1 H1 σ1 g s1 => h F1 H1 σ1 g (s.trans s1)
    | bk => exact fun F1 H1 σ1 g s1 => h F1 H1 σ1 g (s.trans s1)
    | ct => exact fun F1 H1 σ1 g s1 => h F1 H1 σ1 g (s.trans s1)
    | rt r => exact fun F1 H1 σ1 v g s1 x => h F1 H1 σ1 v g (s.trans s1) x
theorem tS_seq (h : tS φ W (seqS a b) D σ H) : tS φ W a { D with nx := tS φ W b D } σ H := by
  obtain ⟨F, δ, g, q⟩ := h
  refine ⟨F, δ, g, ?_⟩
  unfold seqS M.bind at q
  cases z : a δ with
  | bad => rw [z] at q; exact q
  | exc x δ' => rw [z] at q; exact q
  | ok f δ' =>
    rw [z] at q
    cases f with
    | nx => exact fun F1 H1 σ1 g1 s1 => ⟨F1, δ', g1, SOut.mono q s1⟩
    | bk => exact q
    | ct => exact q
    | rt r => exact q
theorem dss_cons (h1 : DS X φ W st a) (h2 : DSs X φ W rest b) : DSs X φ W (st :: rest) (seqS a b) := PSs.imp (pss_cons h1 h2) fun _ _ _ q => tS_seq q
theorem dss_one (h1 : DS X φ W st a) : DSs X φ W [st] a := pss_one h1
theorem dss_nil : DSs X φ W [] passS := PSs.imp pss_nil fun D σ H q => by
  obtain ⟨F, δ, g, q⟩ := q
  exact q F H σ g (Sub.refl F)
/-- an expression ahead of the rest of a statement -/
theorem SOut.bind {α : Type} {m : M α} {f : α → M Fl} (h : SOut φ W F (m.bind f δ) D) : Out φ (fun c d σ H => W c d σ H) σ F (m δ) fun x δ' F' _ => SOut φ W F' (f x δ') D := by
  unfold M.bind at h
  cases z : m δ with
  | bad => rw [z] at h; exact h
  | exc x δ' => rw [z] at h; exact fun F1 H1 da g s x => h F1 H1 σ da g s x
  | ok x δ' => rw [z] at h; exact fun F1 H1 g s => SOut.mono h s
theorem tM_S {f : G.D → M Fl} {Q : VK} (g : GI φ F H σ δ) (q : SOut φ W F (m.bind f δ) D) (h : ∀ d v δ' F' H', GI φ F' H' σ δ' → Sub F F' → Rep φ.k F' v d → SOut φ W F' (f d δ') D → Q v H') : tM φ W m σ H Q :=
  ⟨F, δ, g, (SOut.bind (σ := σ) q).mono (Sub.refl F) fun d δ' F' H' g' s' z v r => h d v δ' F' H' g' s' r z⟩
theorem tN_S {f : G.D → M Fl} {Q : VK} (g : GI φ F H σ δ) (q : SOut φ W F (m.bind f δ) D) (h : ∀ d p δ' F' H', GI φ F' H' σ δ' → Sub F F' → Fresh φ σ δ' F' H' p d → SOut φ W F' (f d δ') D → Q (.ref p) H') : tN φ W m σ H Q :=
  ⟨F, δ, g, (SOut.bind (σ := σ) q).mono (Sub.refl F) fun d δ' F' H' g' s' z p r => h d p δ' F' H' g' s' r z⟩
theorem tT_S {m : M Bool} {f : Bool → M Fl} {Q : Bool → Hp → Prop} (g : GI φ F H σ δ) (q : SOut φ W F (m.bind f δ) D) (h : ∀ c δ' F' H', GI φ F' H' σ δ' → Sub F F' → SOut φ W F' (f c δ') D → Q c H') : tT φ W m σ H Q :=
  ⟨F, δ, g, (SOut.bind (σ := σ) q).mono (Sub.refl F) fun c δ' F' H' g' s' z => h c δ' F' H' g' s' z⟩
theorem ds_pass : DS X φ W (.Pass pos) passS := PS.imp ps_pass fun D σ H q => by
  obtain ⟨F, δ, g, q⟩ := q
  exact q F H σ g (Sub.refl F)
theorem ds_break : DS X φ W (.Break pos) (M.pure .bk) := PS.imp ps_break fun D σ H q => by
  obtain ⟨F, δ, g, q⟩ := q
  exact q F H σ g (Sub.refl F)
theorem ds_cont : DS X φ W (.Continue pos) (M.pure .ct) := PS.imp ps_continue fun D σ H q => by
  obtain ⟨F, δ, g, q⟩ := q
  exact q F H σ g (Sub.refl F)
theorem ds_expr (he : DE X φ W e m) (hs : swapsWith e none pos.line X.env = pure false := by rfl) : DS X φ W (.Expr e pos) (exprS m) := PS.imp (ps_expr he hs) fun D σ H q => by
  obtain ⟨F, δ, g, q⟩ := q
  exact tM_S g q fun d v δ' F' H' g' s r z => z F' H' σ g' (Sub.refl F')
theorem ds_ret (he : DE X φ W e m) : DS X φ W (.Return (some e) pos) (retS m) := PS.imp (ps_ret he) fun D σ H q => by
  obtain ⟨F, δ, g, q⟩ := q
  exact tM_S g q fun d v δ' F' H' g' s r z => z F' H' σ v g' (Sub.refl F') r
theorem ds_retO (he : DN X φ W e m) : DS X φ W (.Return (some e) pos) (retO m) := PS.imp (ps_ret he) fun D σ H q => by
  obtain ⟨F, δ, g, q⟩ := q
  exact tN_S g q fun d p δ' F' H' g' s r z => z F' H' σ (.ref p) g' (Sub.refl F') ⟨p, rfl, r.h0, r.f, r.own⟩
theorem ds_retN : DS X φ W (.Return none pos) retN := PS.imp ps_retN fun D σ H q => by
  obtain ⟨F, δ, g, q⟩ := q
  exact q F H σ .non g (Sub.refl F) .non
theorem ds_if {c : Expr} {s1 s2 : List Stmt} {t : M Bool} (hc : DT X φ W c t) (ha : DSs X φ W s1 a) (hb : DSs X φ W s2 b) : DS X φ W (.If c s1 s2 pos) (iffS t a b) := PS.imp (ps_if hc ha hb) fun D σ H q => by
  obtain ⟨F, δ, g, q⟩ := q
  refine tT_S g q fun c δ' F' H' g' s z => ?_
  cases c with
  | true => exact ⟨F', δ', g', z⟩
  | false => exact ⟨F', δ', g', z⟩
theorem storeM_ok {i : Nat} {d : G.D} {f : Unit → M Fl} {v : V} (g : GI φ F H σ δ) (r : Rep φ.k F v d) (q : SOut φ W F ((storeM i d).bind f δ) D) : ∃ δ', GI φ F H (σ.set i (some v)) δ' ∧ SOut φ W F (f () δ') D := by
  have key : ∀ {sd : SD}, δ[i]? = some sd → sd.lent = false → storeM i d δ = .ok () (δ.set i (.val d)) → ∃ δ', GI φ F H (σ.set i (some v)) δ' ∧ SOut φ W F (f () δ') D := fun {sd} e l z => by
    unfold M.bind at q
    rw [z] at q
    exact ⟨_, g.store e l r, q⟩
  cases e : δ[i]? with
  | none => unfold M.bind storeM at q; rw [e] at q; exact q.elim
  | some sd =>
    cases sd with
    | no => exact key e rfl (by unfold storeM; rw [e])
    | val _ => exact key e rfl (by unfold storeM; rw [e])
    | own _ => exact key e rfl (by unfold storeM; rw [e])
    | arg _ => unfold M.bind storeM at q; rw [e] at q; exact q.elim
    | frz _ => unfold M.bind storeM at q; rw [e] at q; exact q.elim
theorem storeN_ok {i : Nat} {d : G.D} {f : Unit → M Fl} {p : Addr} (g : GI φ F H σ δ) (r : Fresh φ σ δ F H p d) (q : SOut φ W F ((storeN i d).bind f δ) D) : ∃ δ', GI φ F H (σ.set i (some (.ref p))) δ' ∧ SOut φ W F (f () δ') D := by
  have key : ∀ {sd : SD}, δ[i]? = some sd → sd.lent = false → storeN i d δ = .ok () (δ.set i (.own d)) → ∃ δ', GI φ F H (σ.set i (some (.ref p))) δ' ∧ SOut φ W F (f () δ') D := fun {sd} e l z => by
    unfold M.bind at q
    rw [z] at q
    exact ⟨_, g.storeOwn e l r, q⟩
  cases e : δ[i]? with
  | none => unfold M.bind storeN at q; rw [e] at q; exact q.elim
  | some sd =>
    cases sd with
    | no => exact key e rfl (by unfold storeN; rw [e])
    | val _ => exact key e rfl (by unfold storeN; rw [e])
    | own _ => exact key e rfl (by unfold storeN; rw [e])
    | arg _ => unfold M.bind storeN at q; rw [e] at q; exact q.elim
    | frz _ => unfold M.bind storeN at q; rw [e] at q; exact q.elim
theorem ds_set (i : Nat) {x : Str} {pos' : Pos} (he : DE X φ W e m) (hN : X.N.Nodup) (hi : X.N[i]? = some x := by rfl) (hx : Loc X.env.scope x := by first | exact Or.inl rfl | exact Or.inr rfl) (hs : swapsWith e (some (.Name x pos')) pos.line X.env = pure false := by rfl)
    (hf : X.fn x = true ∨ X.env.scope.names.lookup x = some .local := by first | exact .inl rfl | exact .inr rfl | assumption) : DS X φ W (.Assign [.Name x pos'] e pos) (setS i m) := PS.imp (ps_set hN hi hx he hs hf) fun D σ H q => by
  obtain ⟨F, δ, g, q⟩ := q
  refine tM_S g q fun d v δ' F' H' g' s r z => ?_
  obtain ⟨δ2, g2, z2⟩ := storeM_ok g' r z
  exact z2 F' H' _ g2 (Sub.refl F')
theorem ds_setN (i : Nat) {x : Str} {pos' : Pos} (he : DN X φ W e m) (hN : X.N.Nodup) (hi : X.N[i]? = some x := by rfl) (hx : Loc X.env.scope x := by first | exact Or.inl rfl | exact Or.inr rfl) (hs : swapsWith e (some (.Name x pos')) pos.line X.env = pure false := by rfl)
    (hf : X.fn x = true ∨ X.env.scope.names.lookup x = some .local := by first | exact .inl rfl | exact .inr rfl | assumption) : DS X φ W (.Assign [.Name x pos'] e pos) (setN i m) := PS.imp (ps_set hN hi hx he hs hf) fun D σ H q => by
  obtain ⟨F, δ, g, q⟩ := q
  refine tN_S g q fun d v δ' F' H' g' s r z => ?_
  obtain ⟨δ2, g2, z2⟩ := storeN_ok g' r z
  exact z2 F' H' _ g2 (Sub.refl F')
/-- return name -/
theorem ds_retV (i : Nat) {x : Str} {pos' : Pos} (hN : X.N[i]? = some x := by rfl) (hv : Vis X.env.scope x := by first | exact Or.inl rfl | exact Or.inr (Or.inl rfl) | exact Or.inr (Or.inr rfl)) (hd : (x == ("__debug__" : Str)) = false := by decide)
    (hcd : (x == ("__classdict__" : Str)) = false := by decide) : DS X φ W (.Return (some (.Name x pos')) pos) (retV i) := PS.imp (ps_ret (pe_var hN hv hd hcd)) fun D σ H q => by
  obtain ⟨F, δ, g, q⟩ := q
  cases e : δ[i]? with
  | none => unfold retV at q; rw [e] at q; exact q.elim
  | some sd =>
    cases sd with
    | no => unfold retV at q; rw [e] at q; exact q.elim
    | val d =>
      unfold retV at q
      rw [e] at q
      obtain ⟨v, e1, r⟩ := g.sl i _ e
      exact ⟨v, e1, q F H σ v g (Sub.refl F) r⟩
    | own d =>
      unfold retV at q
      rw [e] at q
      obtain ⟨p, e1, f, w, h0⟩ := g.sl i _ e
      exact ⟨.ref p, e1, q F H σ _ g (Sub.refl F) ⟨p, rfl, h0, f, w⟩⟩
    | arg d =>
      unfold retV at q
      rw [e] at q
      obtain ⟨F', v, g', s, e1, r⟩ := g.froze e rfl
      exact ⟨v, e1, q F' H σ v g' s r⟩
    | frz d =>
      unfold retV at q
      rw [e] at q
      obtain ⟨p, e1, r, _⟩ := g.sl i _ e
      exact ⟨_, e1, q F H σ _ g (Sub.refl F) r⟩

/-! ### targets -/
def GOut (φ : Fx) (W : WX) (F : Hp) (r : R Unit) (Q : L2.St → Hp → Prop) : Prop := match r with
  | .ok _ δ' => ∀ F' H' σ', GI φ F' H' σ' δ' → Sub F F' → Q σ' H'
  | .exc x δ' => ∀ F' H' σ' da, GI φ F' H' σ' δ' → Sub F F' → XAt φ.k F' da x → W (x.val φ.k) da σ' H'
  | .bad => False
def tG (φ : Fx) (W : WX) (t : G.D → M Unit) : TG := fun v σ H Q => ∃ F δ d, GI φ F H σ δ ∧ Rep φ.k F v d ∧ GOut φ W F (t d δ) Q
abbrev DG (X : Cx) (φ : Fx) (W : WX) (tg : Expr) (t : G.D → M Unit) : Prop := PG X tg (tG φ W t)
def tGs (φ : Fx) (W : WX) (t : List G.D → M Unit) : TGs := fun vs σ H Q => ∃ F δ ds, GI φ F H σ δ ∧ RepL φ.k F vs ds ∧ GOut φ W F (t ds δ) Q
abbrev DGs (X : Cx) (φ : Fx) (W : WX) (tg : List Expr) (t : List G.D → M Unit) : Prop := PGs X tg (tGs φ W t)
def gsNil : List G.D → M Unit
  | [] => M.pure ()
  | _ => badM
def gsCons (t : G.D → M Unit) (u : List G.D → M Unit) : List G.D → M Unit
  | d :: ds => (t d).bind fun _ => u ds
  | [] => badM
def gTupM (n : Nat) (t : List G.D → M Unit) : G.D → M Unit
  | .tup ds => if ds.length = n then t ds else badM
  | _ => badM
def asgS (m : M G.D) (t : G.D → M Unit) : M Fl := m.bind fun d => (t d).bind fun _ => M.pure .nx
theorem PG.imp {e : Expr} {t t' : TG} (h : PG X e t) (i : ∀ v σ H Q, t' v σ H Q → t v σ H Q) : PG X e t' := ⟨fun pins s σ H v u Q I r hw => h.run pins s σ H v u Q I r (i v σ H Q hw)⟩
theorem PGs.imp {e : List Expr} {t t' : TGs} (h : PGs X e t) (i : ∀ v σ H Q, t' v σ H Q → t v σ H Q) : PGs X e t' := ⟨fun pins s σ H v u Q I r hw => h.run pins s σ H v u Q I r (i v σ H Q hw)⟩
theorem GOut.mono {r : R Unit} {Q : L2.St → Hp → Prop} (h : GOut φ W F r Q) (s : Sub F F') : GOut φ W F' r Q := by
  cases r with
  | bad => exact h
  | exc x δ' => exact fun F1 H1 σ1 da g s1 x => h F1 H1 σ1 da g (s.trans s1) x
  | ok f δ' => exact fun F1 H1 σ1 g s1 => h F1 H1 σ1 g (s.trans s1)
theorem dg_name (i : Nat) {x : Str} (hN : X.N.Nodup) (hi : X.N[i]? = some x := by rfl) (hx : Loc X.env.scope x := by first | exact Or.inl rfl | exact Or.inr rfl)
    (hf : X.fn x = true ∨ X.env.scope.names.lookup x = some .local := by first | exact .inl rfl | exact .inr rfl | assumption) : DG X φ W (.Name x pos) (storeM i) := PG.imp (pg_name hN hi hx hf) fun v σ H Q q => by
  obtain ⟨F, δ, d, g, r, q⟩ := q
  have key : ∀ {sd : SD}, δ[i]? = some sd → sd.lent = false → storeM i d δ = .ok () (δ.set i (.val d)) → Q (σ.set i (some v)) H := fun {sd} e l z => by
    rw [z] at q
    exact q F H _ (g.store e l r) (Sub.refl F)
  cases e : δ[i]? with
  | none => unfold storeM at q; rw [e] at q; exact q.elim
  | some sd =>
    cases sd with
    | no => exact key e rfl (by unfold storeM; rw [e])
    | val _ => exact key e rfl (by unfold storeM; rw [e])
    | own _ => exact key e rfl (by unfold storeM; rw [e])
    | arg _ => unfold storeM at q; rw [e] at q; exact q.elim
    | frz _ => unfold storeM at q; rw [e] at q; exact q.elim
theorem dgs_nil : DGs X φ W [] gsNil := PGs.imp pgs_nil fun vs σ H Q q => by
  obtain ⟨F, δ, ds, g, r, q⟩ := q
  cases r with
  | nil => exact ⟨rfl, q F H σ g (Sub.refl F)⟩
  | cons _ _ => exact (show False from q).elim
theorem dgs_cons {es : List Expr} {t : G.D → M Unit} {u : List G.D → M Unit} (h1 : DG X φ W e t) (h2 : DGs X φ W es u)
    (hs : (assignEach (e :: es) X.env).map (·.2) = assign e X.env :: (assignEach es X.env).map (·.2) := by rfl) : DGs X φ W (e :: es) (gsCons t u) := PGs.imp (pgs_cons h1 h2 hs) fun vs σ H Q q => by
  obtain ⟨F, δ, ds, g, r, q⟩ := q
  cases r with
  | nil => exact (show False from q).elim
  | @cons v d vs ds r rs =>
    refine ⟨v, vs, rfl, F, δ, d, g, r, ?_⟩
    change GOut φ W F (M.bind (t d) (fun _ => u ds) δ) Q at q
    unfold M.bind at q
    cases z : t d δ with
    | bad => rw [z] at q; exact q
    | exc x δ' => rw [z] at q; exact q
    | ok y δ' =>
      rw [z] at q
      exact fun F1 H1 σ1 g1 s1 => ⟨F1, δ', ds, g1, rs.mono s1, GOut.mono q s1⟩
theorem dg_tup {es : List Expr} {k n : Nat} {t : List G.D → M Unit} (hc : X.calm = true) (h : DGs X φ W es t) (hn : (assignEach es X.env).length = n := by rfl) (hst : (assignEach es X.env).findIdx? (·.1) = none := by rfl) (hK : φ.k.K = X.K := by rfl) :
    DG X φ W (.Tuple es k pos) (gTupM n t) := PG.imp (pg_tup hc h hn hst) fun v σ H Q q => by
  obtain ⟨F, δ, d, g, r, q⟩ := q
  cases d with
  | tup ds =>
    change GOut φ W F ((if ds.length = n then t ds else badM) δ) Q at q
    by_cases z : ds.length = n
    · rw [if_pos z] at q
      obtain ⟨a, vs, rfl, e, l⟩ := (RepO.of (H := H) r).tup g.fh
      exact ⟨a, vs, rfl, .of e, by rw [l.length]; exact z, F, δ, ds, g, l, q⟩
    · rw [if_neg z] at q
      exact q.elim
  | _ => exact (show False from q).elim
theorem ds_asg {tg : Expr} {t : G.D → M Unit} (he : DE X φ W e m) (hg : DG X φ W tg t) (hs : swapsWithSole [tg] e pos.line X.env = pure false := by rfl) (hw : swappedStores [tg] e X.env = pure none := by rfl)
    (h1 : (assignEach [tg] X.env).map (·.2) = [assign tg X.env] := by rfl) : DS X φ W (.Assign [tg] e pos) (asgS m t) := PS.imp (ps_asg he hg hs hw h1) fun D σ H q => by
  obtain ⟨F, δ, g, q⟩ := q
  refine tM_S g q fun d v δ' F' H' g' s r z => ⟨F', δ', d, g', r, ?_⟩
  unfold M.bind at z
  cases y : t d δ' with
  | bad => rw [y] at z; exact z
  | exc x δ2 => rw [y] at z; exact z
  | ok u δ2 => rw [y] at z; exact z
end
end G
set_option maxRecDepth 100000
set_option maxHeartbeats 4000000
namespace G
open PySem PySem.Spec PyProof.Rows L2

/-! ### defs: what is promised, where no repr is under way -/
structure FnG (P : Program) (w : World) (K : PySem.W.Frag) (mg : Str → Option Value) (base : Heap) (lv : Nat) (f : Addr) (fd : FuncData) (ps : List Str) (sp : Sp) : Prop where
  len : ∀ vs H Q E, sp vs H Q E → vs.length = ps.length
  run : ∀ (A : Around) (outer : List PySem.Env) (s : Shared) (H : Hp) (args : Args) (us : List Value) (vs : List V) (Q : VK) (E : XK), Room lv A → A.guards = some [] → Env0 P w K mg base A outer s H → BindsTo s fd args (ps.zip us) →
    Vals vs us → sp vs H Q E → codeAny (model P w) A (.call (.ref f) args) (CR (CX P w) outer P w H s Q E) s
section
variable {P : Program} {w : World} {K : PySem.W.Frag} {mg : Str → Option Value} {base : Heap} {lv : Nat} {f : Addr} {fd : FuncData} {ps : List Str} {sp : Sp}
theorem FnG.up {lv' : Nat} (F : FnG P w K mg base lv f fd ps sp) (h : lv ≤ lv') : FnG P w K mg base lv' f fd ps sp :=
  ⟨F.len, fun A outer s H args us vs Q E hr => F.run A outer s H args us vs Q E (hr.mono h)⟩
/-- the context of a body -/
abbrev bodyX (P : Program) (w : World) (K : PySem.W.Frag) (mg : Str → Option Value) (base : Heap) (N : List Str) (qual : Str) (st : Stmt) (f : Addr) (cdv : Value) (A : Around) (outer : List PySem.Env) (s : Shared) (H : Hp) (E : XK) : Cx :=
  cxOf (CX P w) P w K mg base N qual (defScope st) f cdv A outer s H E
theorem Fun.okR {x qual : Str} {st : Stmt} {N : List Str} (Fd : Fun K x qual st f fd) (S : FnScope N ps (defScope st)) (len : ∀ vs H Q E, sp vs H Q E → vs.length = ps.length)
    (body : ∀ (cdv : Value) (A : Around) (outer : List PySem.Env) (s : Shared) (H : Hp) (vs : List V) (Q : VK) (E : XK), Room lv (A.deeper (envOfC qual (defScope st) s.heap.objs.size f cdv)) → A.guards = some [] → sp vs H Q E →
      ∃ t, PSs (bodyX P w K mg base N qual st f cdv A outer s H E) (defBody st) t ∧ t { nx := fun _ H' => Q .non H', rt := Q } (start N vs) H) : FnG P w K mg base (lv + 1) f fd ps sp := by
  obtain ⟨oc, od, kV, doc, pm, an, cdv, ct, osl, rfl, lk, hcd⟩ := Fd.ex
  refine ⟨len, fun A outer s H args us vs Q E hr gd e0 hb r hsp => ?_⟩
  have kx : K.In s.heap := e0.mod.kin.keeps fun b o e => (e0.bs b o e).1
  have nl : s.heap.NoLimit := e0.mod.nolimit.keeps fun b o e => (e0.bs b o e).1
  have kinds : ∀ z ∈ ps.zip us, (defScope st).names.lookup z.1 = some .local ∨ ((defScope st).names.lookup z.1 = some .cell ∧ ((cellsFrom (s.heap.objs.size + 1) (defScope st).names []).lookup z.1).isSome = true) := by
    rintro ⟨n, v⟩ hz
    cases S.par n (List.of_mem_zip hz).1 with
    | inl q => exact .inl q
    | inr q => exact .inr ⟨q, PySem.W.cellsFrom_some _ _ _ (.inl q)⟩
  refine codeAny_call_function hr.depth (kx _ _ lk) rfl S.co S.gen rfl (PySem.W.codeRec_of kx hcd) (hb _ _ _ _ (wpAny_newFunctionEnv_cells S.kind kinds fun env he s1 i1 => ?_))
  subst he
  refine ⟨nl.keeps i1.toInCall.keep, codeAny_func ?_⟩
  obtain ⟨t, ht, hq⟩ := body cdv A outer s H vs Q E (hr.deeper _) gd hsp
  have I : Inv (bodyX P w K mg base N qual st f cdv A outer s H E) [] (start N vs) H s1 := inv_start S hr.hd e0 (len _ _ _ _ hsp) r i1
  refine wpAny_mono (ht.run [] s1 (start N vs) H _ I hq) (fun fl s' z => ?_) fun e s' z => z
  cases fl with
  | ret u => obtain ⟨v, σ', H', J, rv, q⟩ := z; exact ⟨v, H', J.os, J.bare, J.base, J.hok, rv, q⟩
  | next => obtain ⟨σ', H', J, q⟩ := z; exact ⟨.non, H', J.os, J.bare, J.base, J.hok, rfl, q⟩
  | brk => obtain ⟨_, _, _, q⟩ := z; exact q.elim
  | cont => obtain ⟨_, _, _, q⟩ := z; exact q.elim
end

/-! ### what is handed over, what comes back -/
inductive ArgOk (k : KX) (F H : Hp) : V → SD → Prop
  | val {v d} : Rep k F v d → ArgOk k F H v (.val d)
  | own {a d} : F a = none → OwnAt k F H a d → ArgOk k F H (.ref a) (.own d)
abbrev ArgsOk (k : KX) (F H : Hp) : List V → List SD → Prop := Paired (ArgOk k F H)
/-- the addresses of what is lent -/
def OwnArg (vs : List V) (sds : List SD) (a : Addr) : Prop := ∃ (i : Nat) (d : D), sds[i]? = some (.own d) ∧ vs[i]? = some (.ref a)
def Apart (vs : List V) (sds : List SD) : Prop := ∀ (i j : Nat) (a : Addr) (d e : D), i ≠ j → sds[i]? = some (.own d) → sds[j]? = some (.own e) → vs[i]? = some (.ref a) → vs[j]? = some (.ref a) → False
def BackOk (k : KX) (F H : Hp) (a : Addr) : Option SD → Prop
  | some (.own d) => F a = none ∧ OwnAt k F H a d
  | some (.val d) => Rep k F (.ref a) d
  | _ => False
structure FEnd (k : KX) (F H : Hp) (vs : List V) (sds : List SD) (F' H' : Hp) (sds' : List SD) : Prop where
  gr : Grow (OwnArg vs sds) F H F' H'
  args : ∀ (i : Nat) (d : D) (a : Addr), sds[i]? = some (.own d) → vs[i]? = some (.ref a) → BackOk k F' H' a sds'[i]?
def ResOk (k : KX) (H F' H' : Hp) (v : V) : SD → Prop
  | .val d => Rep k F' v d
  | .own d => ∃ p, v = .ref p ∧ H p = none ∧ F' p = none ∧ OwnAt k F' H' p d
  | _ => False
def FD (k : KX) (f : List SD → R SD) : Sp := fun vs H Q E => ∃ F sds, Sub F H ∧ ArgsOk k F H vs sds ∧ Apart vs sds ∧ match f sds with
  | .ok r sds' => ∀ F' H' v, FEnd k F H vs sds F' H' sds' → ResOk k H F' H' v r → Q v H'
  | .exc x sds' => ∀ F' H' da, FEnd k F H vs sds F' H' sds' → XAt k F' da x → E (x.val k) da H'
  | .bad => False
def SD.lend : SD → SD
  | .own d => .arg d
  | x => x
def SD.back : SD → SD
  | .arg d => .own d
  | .frz d => .val d
  | x => x
/-- a def's function from its body's -/
def runF (np n : Nat) (body : M Fl) (sds : List SD) : R SD :=
  if sds.length = np then match body (sds.map SD.lend ++ List.replicate (n - np) .no) with
    | .ok (.rt r) δ => .ok r ((δ.take np).map SD.back)
    | .ok .nx δ => .ok (.val .non) ((δ.take np).map SD.back)
    | .ok _ _ => .bad
    | .exc x δ => .exc x ((δ.take np).map SD.back)
    | .bad => .bad
  else .bad

section
variable {k : KX} {F H F' H' : Hp} {vs : List V} {sds : List SD}
theorem ArgsOk.get : ∀ {vs : List V} {sds : List SD} {i : Nat} {sd : SD}, ArgsOk k F H vs sds → sds[i]? = some sd → ∃ v, vs[i]? = some v ∧ ArgOk k F H v sd
  | _, _, _, _, .nil, e => by simp at e
  | _, _, 0, _, .cons h _, e => by simp at e; subst e; exact ⟨_, rfl, h⟩
  | _, _, i + 1, d, .cons _ r, e => by
    obtain ⟨v, h1, h2⟩ := ArgsOk.get (i := i) (sd := d) r (by simpa using e)
    exact ⟨v, by simpa using h1, h2⟩
/-- the lent slots -/
def lentOf (vs : List V) (sds : List SD) : List (Nat × Addr) := ((vs.zip sds).zipIdx).filterMap fun p => match p.1.1, p.1.2 with
  | .ref a, .own _ => some (p.2, a)
  | _, _ => none
theorem lentOf_mem {i : Nat} {a : Addr} : (i, a) ∈ lentOf vs sds ↔ ∃ d, sds[i]? = some (.own d) ∧ vs[i]? = some (.ref a) := by
  unfold lentOf
  rw [List.mem_filterMap]
  constructor
  · rintro ⟨⟨⟨v, sd⟩, j⟩, hm, e⟩
    rw [List.mem_zipIdx_iff_getElem?] at hm
    have hm' : (vs.zip sds)[j]? = some (v, sd) := hm
    rw [List.getElem?_zip_eq_some] at hm'
    cases v with
    | ref b =>
      cases sd with
      | own d =>
        cases e
        exact ⟨d, hm'.2, hm'.1⟩
      | _ => cases e
    | _ => cases e
  · rintro ⟨d, h1, h2⟩
    refine ⟨((.ref a, .own d), i), ?_, rfl⟩
    rw [List.mem_zipIdx_iff_getElem?]
    show (vs.zip sds)[i]? = _
    rw [List.getElem?_zip_eq_some]
    exact ⟨h2, h1⟩
theorem lent_own {φ : Fx} {a : Addr} (h : φ.pr = lentOf vs sds) : Lent φ a ↔ OwnArg vs sds a := by
  constructor
  · rintro ⟨i, m⟩
    rw [h, lentOf_mem] at m
    obtain ⟨d, h1, h2⟩ := m
    exact ⟨i, d, h1, h2⟩
  · rintro ⟨i, d, h1, h2⟩
    exact ⟨i, by rw [h, lentOf_mem]; exact ⟨d, h1, h2⟩⟩
theorem Grow.refl {L : Addr → Prop} (s : Sub F H) : Grow L F H F H := ⟨Sub.refl F, s, fun _ _ h _ => h, fun _ _ _ f _ => f, fun _ h => h⟩
theorem Grow.iff {L L' : Addr → Prop} (g : Grow L F H F' H') (h : ∀ a, L a → L' a) : Grow L' F H F' H' :=
  ⟨g.ff, g.fh, fun a o e l => g.hh a o e fun z => l (h a z), fun a o e f l => g.nf a o e f fun z => l (h a z), g.th⟩
/-- the state at a body's beginning -/
theorem GI.start {N : List Str} {np n : Nat} (hn : N.length = n) (hp : vs.length = np) (hnp : np ≤ n) (s : Sub F H) (ao : ArgsOk k F H vs sds) (ap : Apart vs sds) :
    GI ⟨k, F, H, lentOf vs sds⟩ F H (L2.start N vs) (sds.map SD.lend ++ List.replicate (n - np) .no) := by
  have hl : vs.length = sds.length := Paired.length ao
  have ls : (sds.map SD.lend ++ List.replicate (n - np) SD.no).length = n := by
    rw [List.length_append, List.length_map, List.length_replicate, ← hl, hp]
    omega
  have lo : ∀ {i : Nat} {sd : SD}, (sds.map SD.lend ++ List.replicate (n - np) SD.no)[i]? = some sd → sd = .no ∨ ∃ se, sds[i]? = some se ∧ sd = se.lend := fun {i sd} e => by
    by_cases hi : i < sds.length
    · rw [List.getElem?_append_left (by rw [List.length_map]; exact hi), List.getElem?_map] at e
      cases z : sds[i]? with
      | none => rw [z] at e; cases e
      | some se =>
        rw [z] at e
        cases e
        exact .inr ⟨se, rfl, rfl⟩
    · rw [List.getElem?_append_right (by rw [List.length_map]; omega), List.getElem?_replicate] at e
      split at e
      · cases e; exact .inl rfl
      · cases e
  have st : ∀ {i : Nat} {v : V}, vs[i]? = some v → (L2.start N vs)[i]? = some (some v) := fun {i v} e => by
    have hi := (List.getElem?_eq_some_iff.mp e).1
    unfold L2.start
    rw [List.getElem?_append_left (by rw [List.length_map]; exact hi), List.getElem?_map, e]
    rfl
  have si : ∀ {i : Nat} {v : V} {se : SD}, sds[i]? = some se → (L2.start N vs)[i]? = some (some v) → vs[i]? = some v := fun {i v se} e1 e2 => by
    obtain ⟨v', h1, _⟩ := ArgsOk.get ao e1
    rw [st h1] at e2
    cases e2
    exact h1
  refine ⟨Grow.refl s, ?_, fun i sd e => ?_, fun i j a sd se ne e1 e2 o1 o2 v1 v2 => ?_, fun i a m => ?_, fun i j a m1 m2 => ?_, fun i a m => ?_⟩
  · rw [ls]
    unfold L2.start
    rw [List.length_append, List.length_map, List.length_replicate]
    omega
  · rcases lo e with rfl | ⟨se, e1, rfl⟩
    · trivial
    · obtain ⟨v, h1, h2⟩ := ArgsOk.get ao e1
      cases h2 with
      | val r => exact ⟨v, st h1, r⟩
      | own f w => exact ⟨_, st h1, f, w, by rw [lentOf_mem]; exact ⟨_, e1, h1⟩⟩
  · rcases lo e1 with rfl | ⟨se1, q1, rfl⟩
    · cases o1
    · rcases lo e2 with rfl | ⟨se2, q2, rfl⟩
      · cases o2
      · have h1 := si q1 v1
        have h2 := si q2 v2
        obtain ⟨_, _, z1⟩ := ArgsOk.get ao q1
        obtain ⟨_, _, z2⟩ := ArgsOk.get ao q2
        cases z1 with
        | val _ => cases o1
        | own _ _ =>
          cases z2 with
          | val _ => cases o2
          | own _ _ => exact ap i j a _ _ ne q1 q2 h1 h2
  · rw [lentOf_mem] at m
    obtain ⟨d, h1, h2⟩ := m
    have hi := (List.getElem?_eq_some_iff.mp h1).1
    refine ⟨.arg d, ?_, rfl, st h2⟩
    rw [List.getElem?_append_left (by rw [List.length_map]; exact hi), List.getElem?_map, h1]
    rfl
  · rw [lentOf_mem] at m1 m2
    obtain ⟨d, h1, h2⟩ := m1
    obtain ⟨e, h3, h4⟩ := m2
    by_cases z : i = j
    · exact z
    · exact (ap i j a d e z h1 h3 h2 h4).elim
  · rw [lentOf_mem] at m
    obtain ⟨d, h1, h2⟩ := m
    obtain ⟨v, h3, h4⟩ := ArgsOk.get ao h1
    rw [h2] at h3
    cases h3
    cases h4 with
    | own f w => exact w.ne
/-- at its end -/
theorem GI.fend {np : Nat} {σ : L2.St} {δ : DEnv} (hp : sds.length = np) (g : GI ⟨k, F, H, lentOf vs sds⟩ F' H' σ δ) : FEnd k F H vs sds F' H' ((δ.take np).map SD.back) := by
  refine ⟨g.gr.iff fun a h => (lent_own (φ := ⟨k, F, H, lentOf vs sds⟩) rfl).mp h, fun i d a e1 e2 => ?_⟩
  have hi : i < np := by rw [← hp]; exact (List.getElem?_eq_some_iff.mp e1).1
  obtain ⟨sd, q1, q2, q3⟩ := g.pr i a (by show (i, a) ∈ lentOf vs sds; rw [lentOf_mem]; exact ⟨d, e1, e2⟩)
  have sl := g.sl i sd q1
  rw [List.getElem?_map, List.getElem?_take_of_lt hi, q1]
  cases sd with
  | no => cases q2
  | val _ => cases q2
  | own _ => cases q2
  | arg d' =>
    obtain ⟨a', e, f, w, _⟩ := sl
    rw [q3] at e
    cases e
    exact ⟨f, w⟩
  | frz d' =>
    obtain ⟨a', e, r, _⟩ := sl
    rw [q3] at e
    cases e
    exact r
end

section
variable {P : Program} {w : World} {K : PySem.W.Frag} {mg : Str → Option Value} {base : Heap} {lv : Nat} {f : Addr} {fd : FuncData} {ps : List Str}
/-- THE RULE for a def: its body's derivation -/
theorem Fun.okG {x qual : Str} {st : Stmt} {N : List Str} {cm : Nat → Addr} {np n : Nat} {m : M Fl} (Fd : Fun K x qual st f fd) (S : FnScope N ps (defScope st)) (hn : N.length = n) (hp : ps.length = np) (hnp : np ≤ n)
    (body : ∀ (cdv : Value) (A : Around) (outer : List PySem.Env) (s : Shared) (H : Hp) (E : XK) (F0 H0 : Hp) (pr : List (Nat × Addr)), Room lv (A.deeper (envOfC qual (defScope st) s.heap.objs.size f cdv)) → A.guards = some [] →
      DSs (bodyX P w K mg base N qual st f cdv A outer s H E) ⟨⟨K, cm⟩, F0, H0, pr⟩ (fun c d _ H => E c d H) (defBody st) m) : FnG P w K mg base (lv + 1) f fd ps (FD ⟨K, cm⟩ (runF np n m)) := by
  have lenOk : ∀ vs H Q E, FD ⟨K, cm⟩ (runF np n m) vs H Q E → vs.length = np := fun vs H Q E h => by
    obtain ⟨F, sds, s, ao, ap, q⟩ := h
    rw [Paired.length ao]
    unfold runF at q
    by_cases z : sds.length = np
    · exact z
    · rw [if_neg z] at q
      exact q.elim
  refine Fun.okR Fd S (fun vs H Q E h => by rw [hp]; exact lenOk vs H Q E h) fun cdv A outer s H vs Q E hr hg h => ?_
  have hl := lenOk _ _ _ _ h
  obtain ⟨F, sds, sub, ao, ap, q⟩ := h
  have hl2 : sds.length = np := by rw [← Paired.length ao]; exact hl
  refine ⟨_, body cdv A outer s H E F H (lentOf vs sds) hr hg, F, _, GI.start hn hl hnp sub ao ap, ?_⟩
  unfold runF at q
  rw [if_pos hl2] at q
  cases z : m (sds.map SD.lend ++ List.replicate (n - np) .no) with
  | bad => rw [z] at q; exact q
  | exc y δ' =>
    rw [z] at q
    exact fun F1 H1 σ1 da g s1 xa => q F1 H1 da (g.fend hl2) xa
  | ok fl δ' =>
    rw [z] at q
    cases fl with
    | nx => exact fun F1 H1 σ1 g s1 => q F1 H1 .non (g.fend hl2) .non
    | bk => exact q.elim
    | ct => exact q.elim
    | rt r =>
      refine fun F1 H1 σ1 v g s1 ro => q F1 H1 v (g.fend hl2) ?_
      cases r with
      | val d => exact ro
      | own d => exact ro
      | no => exact ro
      | arg _ => exact ro
      | frz _ => exact ro
end
end G
set_option maxRecDepth 100000
set_option maxHeartbeats 4000000
namespace G
open PySem PySem.Spec PyProof.Rows L2

/-! ### handing over -/
def passI (i : Nat) : M SD := fun δ => match δ[i]? with
  | some (.val d) => .ok (.val d) δ
  | some (.own d) => .ok (.own d) δ
  | some (.arg d) => .ok (.own d) δ
  | some (.frz d) => .ok (.val d) δ
  | _ => .bad
def Opd.pass : Opd → Option D → M SD
  | .m _, some d => M.pure (.val d)
  | .s i, none => passI i
  | _, _ => badM
def passAll : List Opd → List (Option D) → M (List SD)
  | [], [] => M.pure []
  | o :: os, x :: xs => (o.pass x).bind fun d => (passAll os xs).bind fun ds => M.pure (d :: ds)
  | _, _ => badM
def backSD : SD → Option SD → SD
  | .own _, some (.own d) => .own d
  | .own _, some (.val d) => .val d
  | .arg _, some (.own d) => .arg d
  | .arg _, some (.val d) => .frz d
  | x, _ => x
def Opd.isS (i : Nat) : Opd → Bool
  | .s j => i == j
  | .m _ => false
def backAll (os : List Opd) (rs : List SD) (δ : DEnv) : DEnv := δ.mapIdx fun i sd => match os.findIdx? (Opd.isS i) with
  | some j => backSD sd rs[j]?
  | none => sd
def slots : List Opd → List Nat
  | [] => []
  | .s i :: os => i :: slots os
  | .m _ :: os => slots os
/-- a call's mirror -/
def runC (f : List SD → R SD) (os : List Opd) (sds : List SD) : M SD := fun δ => match f sds with
  | .ok r rs => .ok r (backAll os rs δ)
  | .exc x rs => .exc x (backAll os rs δ)
  | .bad => .bad
def callS (f : List SD → R SD) (os : List Opd) : M SD := (args1 os).bind fun xs => (passAll os xs).bind fun sds => runC f os sds
/-- its value, kept -/
def keptV : SD → M D
  | .val d => M.pure d
  | .own d => M.pure d
  | _ => badM
def keptR (m : M SD) : M D := m.bind keptV
/-- its value, a new object -/
def ownV : SD → M D
  | .own d => M.pure d
  | _ => badM
def ownR (m : M SD) : M D := m.bind ownV

section
variable {k : KX} {φ : Fx} {W : WX} {F F' H H' : Hp} {σ : L2.St} {δ δ' : DEnv} {vs : List V} {sds sds' : List SD} {os : List Opd}
theorem backSD_owns {sd : SD} {r : Option SD} (h : (backSD sd r).owns = true) : sd.owns = true := by
  cases sd <;> first | rfl | (cases r with
    | none => exact h
    | some r => cases r <;> exact h)
theorem GI.called (g : GI φ F H σ δ) (e : FEnd φ.k F H vs sds F' H' sds') (hlen : δ'.length = δ.length)
    (hL : ∀ a, OwnArg vs sds a → (∃ (i : Nat) (sd : SD), δ[i]? = some sd ∧ sd.owns = true ∧ σ[i]? = some (some (.ref a))) ∨ φ.H0 a = none)
    (hsl : ∀ (i : Nat) (sd : SD), δ[i]? = some sd → (δ'[i]? = some sd ∧ (sd.owns = true → ∀ a, σ[i]? = some (some (.ref a)) → ¬ OwnArg vs sds a)) ∨
      ∃ (j : Nat) (d : D) (a : Addr), sd.owns = true ∧ σ[i]? = some (some (.ref a)) ∧ sds[j]? = some (.own d) ∧ vs[j]? = some (.ref a) ∧ δ'[i]? = some (backSD sd sds'[j]?)) : GI φ F' H' σ δ' := by
  have notOwn : ∀ a, ¬ Lent φ a → φ.H0 a ≠ none → ¬ OwnArg vs sds a := fun a nl h0 oa => by
    rcases hL a oa with ⟨i, sd, e1, e2, e3⟩ | z
    case inr => exact h0 z
    have s := g.sl i sd e1
    cases sd with
    | own d =>
      obtain ⟨a', e4, _, _, z⟩ := s
      rw [e3] at e4
      cases e4
      exact h0 z
    | arg d =>
      obtain ⟨a', e4, _, _, z⟩ := s
      rw [e3] at e4
      cases e4
      exact nl ⟨i, z⟩
    | no => cases e2
    | val _ => cases e2
    | frz _ => cases e2
  have inv : ∀ {i : Nat} {se : SD}, δ'[i]? = some se → ∃ sd, δ[i]? = some sd := fun {i se} h => by
    have hi := (List.getElem?_eq_some_iff.mp h).1
    rw [hlen] at hi
    exact ⟨_, List.getElem?_eq_getElem hi⟩
  refine ⟨⟨g.gr.ff.trans e.gr.ff, e.gr.fh, fun a o h0 nl => ?_, fun a o h0 f0 nl => ?_, fun a h => g.gr.th a (e.gr.th a h)⟩, by rw [hlen]; exact g.len, fun i se es => ?_, fun i j a sd se ne e1 e2 o1 o2 v1 v2 => ?_, fun i a m => ?_, g.uq, g.h0⟩
  · exact e.gr.hh a o (g.gr.hh a o h0 nl) (notOwn a nl (by rw [h0]; exact fun z => by cases z))
  · exact e.gr.nf a o (g.gr.hh a o h0 nl) (g.gr.nf a o h0 f0 nl) (notOwn a nl (by rw [h0]; exact fun z => by cases z))
  · obtain ⟨sd, es0⟩ := inv es
    have s := g.sl i sd es0
    rcases hsl i sd es0 with ⟨h1, h2⟩ | ⟨j, d, a, ow, ea, h1, h2, h3⟩
    · rw [es] at h1
      cases h1
      cases se with
      | no => trivial
      | val d =>
        obtain ⟨x, e1, r⟩ := s
        exact ⟨x, e1, Rep.mono e.gr.ff r⟩
      | own d =>
        obtain ⟨a, e1, f, w, z⟩ := s
        have na := h2 rfl a e1
        obtain ⟨o, ho⟩ := w.there
        exact ⟨a, e1, e.gr.nf a o ho f na, w.mono e.gr.ff fun o' ho' => e.gr.hh a o' ho' na, z⟩
      | arg d =>
        obtain ⟨a, e1, f, w, z⟩ := s
        have na := h2 rfl a e1
        obtain ⟨o, ho⟩ := w.there
        exact ⟨a, e1, e.gr.nf a o ho f na, w.mono e.gr.ff fun o' ho' => e.gr.hh a o' ho' na, z⟩
      | frz d =>
        obtain ⟨a, e1, r, z⟩ := s
        exact ⟨a, e1, Rep.mono e.gr.ff r, z⟩
    · rw [es] at h3
      cases h3
      have b := e.args j d a h1 h2
      cases sd with
      | no => cases ow
      | val _ => cases ow
      | frz _ => cases ow
      | own d0 =>
        obtain ⟨a', e1, f, w, z⟩ := s
        rw [ea] at e1
        cases e1
        cases q : sds'[j]? with
        | none => rw [q] at b; exact b.elim
        | some r =>
          rw [q] at b
          cases r with
          | own d' => exact ⟨a, ea, b.1, b.2, z⟩
          | val d' => exact ⟨_, ea, b⟩
          | no => exact b.elim
          | arg _ => exact b.elim
          | frz _ => exact b.elim
      | arg d0 =>
        obtain ⟨a', e1, f, w, z⟩ := s
        rw [ea] at e1
        cases e1
        cases q : sds'[j]? with
        | none => rw [q] at b; exact b.elim
        | some r =>
          rw [q] at b
          cases r with
          | own d' => exact ⟨a, ea, b.1, b.2, z⟩
          | val d' => exact ⟨a, ea, b, z⟩
          | no => exact b.elim
          | arg _ => exact b.elim
          | frz _ => exact b.elim
  · have back : ∀ {i : Nat} {se : SD}, δ'[i]? = some se → se.owns = true → ∃ sd, δ[i]? = some sd ∧ sd.owns = true := fun {i se} h o => by
      obtain ⟨sd, es0⟩ := inv h
      rcases hsl i sd es0 with ⟨h1, _⟩ | ⟨_, _, _, ow, _⟩
      · rw [h] at h1
        cases h1
        exact ⟨_, es0, o⟩
      · exact ⟨_, es0, ow⟩
    obtain ⟨s1, q1, q2⟩ := back e1 o1
    obtain ⟨s2, q3, q4⟩ := back e2 o2
    exact g.dis i j a s1 s2 ne q1 q3 q2 q4 v1 v2
  · obtain ⟨sd, es0, hl, ea⟩ := g.pr i a m
    rcases hsl i sd es0 with ⟨h1, _⟩ | ⟨j, d, a', ow, ea', h1, h2, h3⟩
    · exact ⟨sd, h1, hl, ea⟩
    · refine ⟨_, h3, ?_, ea⟩
      have b := e.args j d a' h1 h2
      cases sd with
      | no => cases ow
      | val _ => cases ow
      | frz _ => cases ow
      | own _ => cases hl
      | arg d0 =>
        cases q : sds'[j]? with
        | none => rw [q] at b; exact b.elim
        | some r =>
          rw [q] at b
          cases r with
          | own d' => rfl
          | val d' => rfl
          | no => exact b.elim
          | arg _ => exact b.elim
          | frz _ => exact b.elim

/-- what is handed over, told of each place -/
structure Handed (φ : Fx) (σ : L2.St) (δ : DEnv) (F H : Hp) (os : List Opd) (vs : List V) (sds : List SD) : Prop where
  args : ArgsOk φ.k F H vs sds
  slot : ∀ (j : Nat) (d : D), sds[j]? = some (.own d) → ∃ (i : Nat) (sd : SD) (a : Addr), os[j]? = some (.s i) ∧ δ[i]? = some sd ∧ sd.owns = true ∧ σ[i]? = some (some (.ref a)) ∧ vs[j]? = some (.ref a)
  own : ∀ (j i : Nat) (sd : SD), os[j]? = some (.s i) → δ[i]? = some sd → sd.owns = true → ∃ d, sds[j]? = some (.own d)
theorem Opd.pass_ok {o : Opd} {x : Option D} {v : V} {α : Type} {f : SD → M α} {P : α → DEnv → Hp → Hp → Prop} (g : GI φ F H σ δ) (l : Late φ σ F v o x) (q : Out φ W σ F ((o.pass x).bind f δ) P) :
    ∃ sd, ArgOk φ.k F H v sd ∧ (∀ d, sd = .own d → ∃ (i : Nat) (se : SD) (a : Addr), o = .s i ∧ δ[i]? = some se ∧ se.owns = true ∧ σ[i]? = some (some (.ref a)) ∧ v = .ref a) ∧ (∀ (i : Nat) (se : SD), o = .s i → δ[i]? = some se → se.owns = true → ∃ d, sd = .own d) ∧ Out φ W σ F (f sd δ) P := by
  cases o with
  | m m =>
    cases x with
    | none => exact l.elim
    | some d => exact ⟨.val d, .val l, (fun d' e => by cases e), (fun i se e => by cases e), q⟩
  | s i =>
    cases x with
    | some d => exact l.elim
    | none =>
      have l' : σ[i]? = some (some v) := l
      change Out φ W σ F ((passI i).bind f δ) P at q
      unfold M.bind passI at q
      cases e : δ[i]? with
      | none => rw [e] at q; exact q.elim
      | some sd =>
        rw [e] at q
        have s := g.sl i sd e
        cases sd with
        | no => exact (show False from q).elim
        | val d =>
          obtain ⟨x, e1, r⟩ := s
          rw [l'] at e1
          cases e1
          refine ⟨.val d, .val r, (fun d' e => by cases e), fun j se e1 e2 e3 => ?_, q⟩
          cases e1
          rw [e] at e2
          cases e2
          cases e3
        | own d =>
          obtain ⟨a, e1, f, w, _⟩ := s
          have l2 := l'
          rw [l'] at e1
          cases e1
          exact ⟨.own d, .own f w, fun d' _ => ⟨i, _, a, rfl, e, rfl, l2, rfl⟩, fun j se _ _ _ => ⟨d, rfl⟩, q⟩
        | arg d =>
          obtain ⟨a, e1, f, w, _⟩ := s
          have l2 := l'
          rw [l'] at e1
          cases e1
          exact ⟨.own d, .own f w, fun d' _ => ⟨i, _, a, rfl, e, rfl, l2, rfl⟩, fun j se _ _ _ => ⟨d, rfl⟩, q⟩
        | frz d =>
          obtain ⟨a, e1, r, _⟩ := s
          rw [l'] at e1
          cases e1
          refine ⟨.val d, .val r, (fun d' e => by cases e), fun j se e1 e2 e3 => ?_, q⟩
          cases e1
          rw [e] at e2
          cases e2
          cases e3
theorem Lates.hand {α : Type} {P : α → DEnv → Hp → Hp → Prop} (g : GI φ F H σ δ) : ∀ {os : List Opd} {vs : List V} {xs : List (Option D)} {f : List SD → M α}, Lates φ σ F vs os xs → Out φ W σ F ((passAll os xs).bind f δ) P →
    ∃ sds, Handed φ σ δ F H os vs sds ∧ Out φ W σ F (f sds δ) P
  | [], _, _, f, .nil, q => ⟨[], ⟨.nil, (fun j d e => by simp at e), (fun j i sd e => by simp at e)⟩, q.pure⟩
  | o :: os, v :: vs, x :: xs, f, .cons l ls, q => by
    rw [passAll, bind_assoc] at q
    obtain ⟨sd, h1, h2, h3, q1⟩ := Opd.pass_ok g l q
    rw [bind_assoc] at q1
    obtain ⟨sds, h, q2⟩ := Lates.hand g ls q1
    refine ⟨sd :: sds, ⟨.cons h1 h.args, fun j d e => ?_, fun j i se e1 e2 e3 => ?_⟩, q2.pure⟩
    · cases j with
      | zero =>
        obtain ⟨i, se, a, e1, e2, e3, e4, e5⟩ := h2 d (by simpa using e)
        exact ⟨i, se, a, by simp [e1], e2, e3, e4, by simp [e5]⟩
      | succ j => exact h.slot j d (by simpa using e)
    · cases j with
      | zero =>
        obtain ⟨d, e⟩ := h3 i se (by simpa using e1) e2 e3
        exact ⟨d, by simp [e]⟩
      | succ j => exact h.own j i se (by simpa using e1) e2 e3
theorem slots_mem : ∀ {os : List Opd} {j i : Nat}, os[j]? = some (.s i) → i ∈ slots os
  | .s i :: os, 0, k, e => by
    simp at e
    subst e
    exact List.mem_cons_self
  | .m m :: os, 0, k, e => by simp at e
  | .s i :: os, j + 1, k, e => List.mem_cons_of_mem _ (slots_mem (os := os) (j := j) (by simpa using e))
  | .m m :: os, j + 1, k, e => slots_mem (os := os) (j := j) (by simpa using e)
theorem slots_inj : ∀ {os : List Opd} {j l i : Nat}, (slots os).Nodup → os[j]? = some (.s i) → os[l]? = some (.s i) → j = l
  | o :: os, 0, 0, i, _, _, _ => rfl
  | .s k :: os, 0, l + 1, i, h, e1, e2 => by
    simp at e1
    subst e1
    exact ((List.nodup_cons.mp h).1 (slots_mem (by simpa using e2))).elim
  | .m k :: os, 0, l + 1, i, h, e1, e2 => by simp at e1
  | .s k :: os, l + 1, 0, i, h, e1, e2 => by
    simp at e2
    subst e2
    exact ((List.nodup_cons.mp h).1 (slots_mem (by simpa using e1))).elim
  | .m k :: os, l + 1, 0, i, h, e1, e2 => by simp at e2
  | o :: os, j + 1, l + 1, i, h, e1, e2 => by
    have h' : (slots os).Nodup := by
      cases o with
      | s k => exact (List.nodup_cons.mp h).2
      | m k => exact h
    exact congrArg Nat.succ (slots_inj (j := j) (l := l) (i := i) h' (by simpa using e1) (by simpa using e2))
theorem Opd.isS_iff {o : Opd} {i : Nat} : o.isS i = true ↔ o = .s i := by
  cases o with
  | m m => exact ⟨(fun h => by cases h), (fun h => by cases h)⟩
  | s j =>
    constructor
    · intro h
      have h : (i == j) = true := h
      rw [beq_iff_eq] at h
      rw [h]
    · intro h
      cases h
      show (i == i) = true
      rw [beq_iff_eq]
theorem Handed.apart (h : Handed φ σ δ F H os vs sds) (g : GI φ F H σ δ) (nd : (slots os).Nodup) : Apart vs sds := fun i j a d e ne e1 e2 v1 v2 => by
  obtain ⟨p, sd, a1, o1, q1, w1, s1, z1⟩ := h.slot i d e1
  obtain ⟨r, se, a2, o2, q2, w2, s2, z2⟩ := h.slot j e e2
  rw [v1] at z1
  cases z1
  rw [v2] at z2
  cases z2
  by_cases z : p = r
  · subst z
    exact ne (slots_inj nd o1 o2)
  · exact g.dis p r a sd se z q1 q2 w1 w2 s1 s2
theorem ownArg_app {pv vs : List V} {ps sds : List SD} (hl : pv.length = ps.length) {a : Addr} : OwnArg (pv ++ vs) (ps ++ sds) a ↔ OwnArg pv ps a ∨ OwnArg vs sds a := by
  constructor
  · rintro ⟨i, d, e1, e2⟩
    by_cases h : i < ps.length
    · rw [List.getElem?_append_left h] at e1
      rw [List.getElem?_append_left (by rw [hl]; exact h)] at e2
      exact .inl ⟨i, d, e1, e2⟩
    · rw [List.getElem?_append_right (by omega)] at e1
      rw [List.getElem?_append_right (by omega), hl] at e2
      exact .inr ⟨_, d, e1, e2⟩
  · rintro (⟨i, d, e1, e2⟩ | ⟨i, d, e1, e2⟩)
    · have h := (List.getElem?_eq_some_iff.mp e1).1
      exact ⟨i, d, by rw [List.getElem?_append_left h]; exact e1, by rw [List.getElem?_append_left (by rw [hl]; exact h)]; exact e2⟩
    · refine ⟨ps.length + i, d, ?_, ?_⟩
      · rw [List.getElem?_append_right (by omega), Nat.add_sub_cancel_left]
        exact e1
      · rw [← hl, List.getElem?_append_right (by omega), Nat.add_sub_cancel_left]
        exact e2
/-- pv: what is handed over ahead of the arguments, that no slot leads to -/
theorem Handed.backP {pv : List V} {psd prs : List SD} (hp : pv.length = psd.length) (hp2 : prs.length = psd.length) (h : Handed φ σ δ F H os vs sds) (g : GI φ F H σ δ) (nd : (slots os).Nodup)
    (hpre : ∀ a, OwnArg pv psd a → φ.H0 a = none ∧ ∀ (i : Nat) (sd : SD), δ[i]? = some sd → sd.owns = true → σ[i]? ≠ some (some (.ref a)))
    (e : FEnd φ.k F H (pv ++ vs) (psd ++ sds) F' H' (prs ++ sds')) : GI φ F' H' σ (backAll os sds' δ) := by
  refine g.called e (by unfold backAll; rw [List.length_mapIdx]) (fun a oa => ?_) fun i sd es => ?_
  · rcases (ownArg_app hp).mp oa with oa | oa
    · exact .inr (hpre a oa).1
    obtain ⟨j, d, e1, e2⟩ := oa
    obtain ⟨i, sd, a', o1, q1, w1, s1, z1⟩ := h.slot j d e1
    rw [e2] at z1
    cases z1
    exact .inl ⟨i, sd, q1, w1, s1⟩
  · have eb : (backAll os sds' δ)[i]? = some (match os.findIdx? (Opd.isS i) with | some j => backSD sd sds'[j]? | none => sd) := by
      unfold backAll
      rw [List.getElem?_mapIdx, es]
      rfl
    cases fi : os.findIdx? (Opd.isS i) with
    | none =>
      rw [fi] at eb
      refine .inl ⟨eb, fun ow a ea oa => ?_⟩
      rcases (ownArg_app hp).mp oa with oa | oa
      · exact (hpre a oa).2 i sd es ow ea
      obtain ⟨j, d, e1, e2⟩ := oa
      obtain ⟨p, se, a', o1, q1, w1, s1, z1⟩ := h.slot j d e1
      rw [e2] at z1
      cases z1
      by_cases z : p = i
      · subst z
        rw [List.findIdx?_eq_none_iff] at fi
        have := fi _ (List.mem_of_getElem? o1)
        rw [Opd.isS_iff.mpr rfl] at this
        cases this
      · exact g.dis p i a se sd z q1 es w1 ow s1 ea
    | some j =>
      rw [fi] at eb
      have hj : os[j]? = some (.s i) := by
        rw [List.findIdx?_eq_some_iff_getElem] at fi
        obtain ⟨hlt, hp, _⟩ := fi
        rw [List.getElem?_eq_getElem hlt, Opd.isS_iff.mp hp]
      cases ow : sd.owns with
      | true =>
        obtain ⟨d, ed⟩ := h.own j i sd hj es ow
        obtain ⟨p, se, a', o1, q1, w1, s1, z1⟩ := h.slot j d ed
        rw [hj] at o1
        cases o1
        refine .inr ⟨psd.length + j, d, a', rfl, s1, ?_, ?_, ?_⟩
        · rw [List.getElem?_append_right (by omega), Nat.add_sub_cancel_left]
          exact ed
        · rw [← hp, List.getElem?_append_right (by omega), Nat.add_sub_cancel_left]
          exact z1
        · rw [← hp2, List.getElem?_append_right (by omega), Nat.add_sub_cancel_left]
          exact eb
      | false =>
        refine .inl ⟨?_, fun z => by cases z⟩
        rw [eb]
        cases sd <;> first | rfl | cases ow
theorem Handed.back (h : Handed φ σ δ F H os vs sds) (g : GI φ F H σ δ) (nd : (slots os).Nodup) (e : FEnd φ.k F H vs sds F' H' sds') : GI φ F' H' σ (backAll os sds' δ) :=
  Handed.backP (pv := []) (psd := []) (prs := []) rfl rfl h g nd (fun a ⟨i, d, e, _⟩ => by simp at e) e
/-- a new object, that a callee gave back -/
theorem GI.freshRes (g : GI φ F H σ δ) (g' : GI φ F' H' σ δ') {p : Addr} {d : D} (h : H p = none) (f : F' p = none) (w : OwnAt φ.k F' H' p d) (ho : ∀ (i : Nat) (sd : SD), δ'[i]? = some sd → sd.owns = true → ∃ se, δ[i]? = some se ∧ se.owns = true) : Fresh φ σ δ' F' H' p d := by
  refine ⟨g.free h, f, w, fun i sd e o z => ?_⟩
  obtain ⟨se, e1, o1⟩ := ho i sd e o
  obtain ⟨a, d', _, e2, _, w2⟩ := g.owned e1 o1
  rw [z] at e2
  cases e2
  exact w2.ne h
theorem backAll_owns {i : Nat} {sd : SD} {rs : List SD} (e : (backAll os rs δ)[i]? = some sd) (o : sd.owns = true) : ∃ se, δ[i]? = some se ∧ se.owns = true := by
  unfold backAll at e
  rw [List.getElem?_mapIdx] at e
  cases q : δ[i]? with
  | none => rw [q] at e; cases e
  | some se =>
    rw [q] at e
    refine ⟨se, rfl, ?_⟩
    simp only [Option.map_some, Option.some.injEq] at e
    cases fi : os.findIdx? (Opd.isS i) with
    | none => rw [fi] at e; subst e; exact o
    | some j => rw [fi] at e; subst e; exact backSD_owns o
end

section
variable {X : Cx} {φ : Fx} {W : WX} {k : Nat} {f : Addr} {fd : FuncData} {ps : List Str} {fn : List SD → R SD} {pins : List (Addr × Obj)} {σ : L2.St} {H : Hp} {s : Shared} {us : List Value} {vs : List V} {Q : VK} {F : Hp} {δ : DEnv} {os : List Opd} {sds : List SD}
/-- a call's result, as the caller sees it -/
structure ResFor (φ : Fx) (σ : L2.St) (δ' : DEnv) (F' H' : Hp) (v : V) (r : SD) : Prop where
  val : ∀ d, r = .val d → Rep φ.k F' v d
  own : ∀ d, r = .own d → ∃ p, v = .ref p ∧ Fresh φ σ δ' F' H' p d
  no : (r = .no ∨ (∃ d, r = .arg d) ∨ (∃ d, r = .frz d)) → False
/-- a callee's promise is used -/
theorem FD.use (g : GI φ F H σ δ) (nd : (slots os).Nodup) (h : Handed φ σ δ F H os vs sds) (q : Out φ W σ F (runC fn os sds δ) fun r δ' F' H' => ∀ v, (∀ d, r = .val d → Rep φ.k F' v d) → (∀ d, r = .own d → ∃ p, v = .ref p ∧ Fresh φ σ δ' F' H' p d) → ((r = .no ∨ (∃ d, r = .arg d) ∨ (∃ d, r = .frz d)) → False) → Q v H') :
    FD φ.k fn vs H Q (WE W σ) := by
  refine ⟨F, sds, g.fh, h.args, h.apart g nd, ?_⟩
  unfold runC at q
  cases z : fn sds with
  | bad => rw [z] at q; exact q
  | exc x rs =>
    rw [z] at q
    exact fun F' H' da e xa => q F' H' da (h.back g nd e) e.gr.ff xa
  | ok r rs =>
    rw [z] at q
    refine fun F' H' v e ro => q F' H' (h.back g nd e) e.gr.ff v (fun d er => ?_) (fun d er => ?_) fun er => ?_
    · subst er; exact ro
    · subst er
      obtain ⟨p, e1, e2, e3, e4⟩ := ro
      exact ⟨p, e1, g.freshRes (h.back g nd e) e2 e3 e4 fun i sd e o => backAll_owns e o⟩
    · rcases er with rfl | ⟨d, rfl⟩ | ⟨d, rfl⟩ <;> exact ro
theorem run_fnG (Fn : FnG X.prog X.w X.K X.mg X.base k f fd ps (FD φ.k fn)) (hr : Room k X.A) (hg : X.A.guards = some []) (b : BindsTo s fd ⟨us, []⟩ (ps.zip us)) (tk : Takes X W)
    (I : Inv X pins σ H s) (r : Vals vs us) (h : FD φ.k fn vs H Q (WE W σ)) : wpAny (model X.prog X.w) X.A (call (.ref f) us) (EP X pins σ Q) X.xe s := by
  refine wpAny_call (codeAny_mono (Fn.run X.A X.stack s H ⟨us, []⟩ us vs Q (WE W σ) hr hg I.env0 b r h) fun r s' hq => ?_)
  cases r with
  | error e => exact passAt tk σ pins H s e s' I hq
  | ok fl =>
    cases fl with
    | ret u => exact I.after hq
    | next => exact False.elim hq
    | brk => exact False.elim hq
    | cont => exact False.elim hq
/-- a def's function, with what a call needs -/
structure Gf (X : Cx) (k : KX) (lv : Nat) (f : Addr) (fn : List SD → R SD) : Prop where
  ex : ∃ fd ps, FnG X.prog X.w X.K X.mg X.base lv f fd ps (FD k fn) ∧ Binds X.K fd ps [] ∧ PySem.W.keepIn X.K (.ref f) = true
theorem Gf.run {lv : Nat} (Gx : Gf X φ.k lv f fn) (hr : Room lv X.A) (hg : X.A.guards = some []) (tk : Takes X W) (I : Inv X pins σ H s) (r : Vals vs us) (h : FD φ.k fn vs H Q (WE W σ)) :
    wpAny (model X.prog X.w) X.A (call (.ref f) us) (EP X pins σ Q) X.xe s := by
  obtain ⟨fd, ps, Fn, hb, _⟩ := Gx.ex
  have hl : us.length = ps.length := by rw [← r.length]; exact Fn.len _ _ _ _ h
  have b := hb s us I.kIn (by rw [List.append_nil]; exact hl)
  rw [List.append_nil] at b
  exact run_fnG Fn hr hg b tk I r h
variable {x : Str} {p pos : Pos} {e : Expr} {es : List Expr} {lv : Nat}
def tCallG (φ : Fx) (W : WX) (fn : List SD → R SD) (t : TA) : TE := fun σ H Q => t σ H fun vs H1 => FD φ.k fn vs H1 Q (WE W σ)
theorem pe_callG (Gx : Gf X φ.k lv f fn) (hr : Room lv X.A) (hg : X.A.guards = some []) (tk : Takes X W) (gl : Gl X x) (hm : X.mg x = some (.ref f)) {t : TA} (ha : PA X (e :: es) t) (hdb : (x == ("__debug__" : Str)) = false := by decide)
    (he : starEach (e :: es) X.env = (false, eval e X.env) :: starEach es X.env := by rfl) (hpl : (backTo pos (starEach es X.env)).any (·.1) = false := by rfl) : PE X (.Call (.Name x p) (e :: es) [] pos) (tCallG φ W fn t) := by
  refine ⟨fun pins s σ H Q I h => ?_⟩
  refine wpAny_Call_Name_kw (ld_glob I gl hm ?_ hdb)
  obtain ⟨fd, ps, Fn, hb, hk⟩ := Gx.ex
  refine PySem.W.callWith_K (h₀ := X.base) I.ok.mod.kin hk (thn (ha.run pos pins s σ H _ I h) fun us s1 ⟨vs, H1, I1, r, q⟩ => ⟨I1.kIn, ?_⟩) he hpl
  exact Gx.run hr hg tk I1 r q
theorem callS_tM (nd : (slots os).Nodup) (h : tM φ W (keptR (callS fn os)) σ H Q) : tCallG φ W fn (tAs φ W os) σ H Q := by
  obtain ⟨F, δ, g, q⟩ := h
  unfold keptR callS at q
  rw [bind_assoc] at q
  refine tAs_run g q fun xs vs δ1 F1 H1 g1 s1 l1 q1 => ?_
  rw [bind_assoc] at q1
  obtain ⟨sds, hd, q2⟩ := l1.hand g1 q1
  refine FD.use g1 nd hd (q2.bind.mono (Sub.refl F1) fun r δ' F' H' g' s' z v h1 h2 h3 => ?_)
  cases r with
  | val d => exact z F' H' g' (Sub.refl F') v (h1 d rfl)
  | own d =>
    obtain ⟨p, rfl, fr⟩ := h2 d rfl
    obtain ⟨F2, g2, s2, r2⟩ := g'.frozeNew fr
    exact z F2 H' g2 s2 _ r2
  | no => exact z.elim
  | arg d => exact z.elim
  | frz d => exact z.elim
theorem callS_tN (nd : (slots os).Nodup) (h : tN φ W (ownR (callS fn os)) σ H Q) : tCallG φ W fn (tAs φ W os) σ H Q := by
  obtain ⟨F, δ, g, q⟩ := h
  unfold ownR callS at q
  rw [bind_assoc] at q
  refine tAs_run g q fun xs vs δ1 F1 H1 g1 s1 l1 q1 => ?_
  rw [bind_assoc] at q1
  obtain ⟨sds, hd, q2⟩ := l1.hand g1 q1
  refine FD.use g1 nd hd (q2.bind.mono (Sub.refl F1) fun r δ' F' H' g' s' z v h1 h2 h3 => ?_)
  cases r with
  | val d => exact z.elim
  | own d =>
    obtain ⟨p, rfl, fr⟩ := h2 d rfl
    exact z F' H' g' (Sub.refl F') p fr
  | no => exact z.elim
  | arg d => exact z.elim
  | frz d => exact z.elim
theorem d_callG (Gx : Gf X φ.k lv f fn) (hr : Room lv X.A) (hg : X.A.guards = some []) (tk : Takes X W) (gl : Gl X x) (hm : X.mg x = some (.ref f)) (ha : DA X φ W (e :: es) os) (nd : (slots os).Nodup := by decide) (hdb : (x == ("__debug__" : Str)) = false := by decide)
    (he : starEach (e :: es) X.env = (false, eval e X.env) :: starEach es X.env := by rfl) (hpl : (backTo pos (starEach es X.env)).any (·.1) = false := by rfl) : DE X φ W (.Call (.Name x p) (e :: es) [] pos) (keptR (callS fn os)) :=
  PE.imp (pe_callG Gx hr hg tk gl hm ha hdb he hpl) fun _ _ _ h => callS_tM nd h
theorem d_callGN (Gx : Gf X φ.k lv f fn) (hr : Room lv X.A) (hg : X.A.guards = some []) (tk : Takes X W) (gl : Gl X x) (hm : X.mg x = some (.ref f)) (ha : DA X φ W (e :: es) os) (nd : (slots os).Nodup := by decide) (hdb : (x == ("__debug__" : Str)) = false := by decide)
    (he : starEach (e :: es) X.env = (false, eval e X.env) :: starEach es X.env := by rfl) (hpl : (backTo pos (starEach es X.env)).any (·.1) = false := by rfl) : DN X φ W (.Call (.Name x p) (e :: es) [] pos) (ownR (callS fn os)) :=
  PE.imp (pe_callG Gx hr hg tk gl hm ha hdb he hpl) fun _ _ _ h => callS_tN nd h
end
end G
set_option maxRecDepth 100000
set_option maxHeartbeats 4000000
namespace G
open PySem PySem.Spec PyProof.Rows L2

theorem under_guards {A : Around} {C : Addr} {us : List Value} {kw : List (Str × Value)} : (A.under (.builtin "type.__call__" ⟨.ref C :: us, kw⟩)).guards = A.guards := by
  simp [Around.under, pushGuards, Code.isGuard, Code.guards, guardIds]
theorem ofString_inj {a b : String} (h : Str.ofString a = Str.ofString b) : a = b := by
  rw [Str.ofString_eq_toList, Str.ofString_eq_toList] at h
  have h2 := congrArg (fun s => s.cps.toList) h
  simp at h2
  have h3 := List.map_inj_right (f := Char.toNat) (fun a b e => Char.ext (UInt32.toNat.inj e)) |>.mp h2
  exact String.toList_inj.mp h3
theorem ofString_beq {a b : String} : (Str.ofString a == Str.ofString b) = (a == b) := by
  rw [Bool.eq_iff_iff, beq_iff_eq, beq_iff_eq]
  exact ⟨ofString_inj, congrArg _⟩

/-! ### attributes -/
inductive Acc where
  | fld
  | prop (fn : List SD → R SD)
  | con (d : D)
def quietF (f : List SD → R SD) : List SD → R SD := fun sds => match f sds with
  | .ok r rs => .ok r rs
  | _ => .bad
def accM (n : String) (o : Opd) (x : Option D) (fs : List (String × D)) : Option Acc → M D
  | some .fld => lift (fs.lookup n)
  | some (.prop fn) => keptR ((o.pass x).bind fun sd => runC (quietF fn) [o] [sd])
  | some (.con d) => if (fs.lookup n).isNone then M.pure d else badM
  | none => badM
def attrM (n : String) (tab : List (Nat × Acc)) (o : Opd) : M D := o.p1.bind fun x => (o.p2 x).bind fun d => match d with
  | .obj c fs => accM n o x fs (tab.lookup c)
  | _ => badM
section
variable {k : KX} {F H : Hp}
theorem RepF.get : ∀ {vs : List (Str × V)} {fs : List (String × D)} {n : String} {d : D}, RepF k F vs fs → fs.lookup n = some d → ∃ v, vs.lookup (Str.ofString n) = some v ∧ Rep k F v d
  | _, _, n, d, .nil, e => by cases e
  | _, _, n, d, @RepF.cons _ _ m v d' vs fs r rs, e => by
    rw [List.lookup_cons] at e
    rw [List.lookup_cons, ofString_beq]
    cases h : n == m with
    | true =>
      rw [h] at e
      cases e
      exact ⟨v, rfl, r⟩
    | false =>
      rw [h] at e
      exact RepF.get rs e
theorem RepF.none : ∀ {vs : List (Str × V)} {fs : List (String × D)} {n : String}, RepF k F vs fs → fs.lookup n = none → vs.lookup (Str.ofString n) = none
  | _, _, n, .nil, e => rfl
  | _, _, n, @RepF.cons _ _ m v d' vs fs r rs, e => by
    rw [List.lookup_cons] at e
    rw [List.lookup_cons, ofString_beq]
    cases h : n == m with
    | true =>
      rw [h] at e
      cases e
    | false =>
      rw [h] at e
      exact RepF.none rs e
theorem FD.wish {fn : List SD → R SD} {vs : List V} {Q : VK} {E : XK} (h : FD k (quietF fn) vs H Q E) {E' : XK} : FD k fn vs H Q E' := by
  obtain ⟨F, sds, s, a, ap, q⟩ := h
  refine ⟨F, sds, s, a, ap, ?_⟩
  unfold quietF at q
  cases z : fn sds with
  | bad => rw [z] at q; exact q
  | exc x rs => rw [z] at q; exact q.elim
  | ok r rs => rw [z] at q; exact q
end
section
variable {X : Cx} {φ : Fx} {W : WX} {lv : Nat} {σ : L2.St} {H F : Hp} {δ : DEnv} {Q : VK} {o : Opd} {os : List Opd} {e : Expr} {f : Str} {pos : Pos}
/-- what stands behind an attribute's name at a class -/
inductive AccOk (X : Cx) (k : KX) (c : Nat) (f : Str) : Acc → Prop
  | fld : Cls X.K (k.cm c) → NoAttr X.K (k.cm c) f → AccOk X k c f .fld
  | prop {p g : Addr} {lv : Nat} {fn : List SD → R SD} : Cls X.K (k.cm c) → PropOf X.K (k.cm c) f p g → Gf X k lv g fn → Room (lv + 1) X.A → AccOk X k c f (.prop fn)
  | con {d : D} {v : V} {u : Value} : Cls X.K (k.cm c) → Con X.K (k.cm c) f v u → (∀ F, Rep k F v d) → AccOk X k c f (.con d)
def AccsOk (X : Cx) (k : KX) (f : Str) (tab : List (Nat × Acc)) : Prop := ∀ c a, tab.lookup c = some a → AccOk X k c f a
theorem AccsOk.nil {k : KX} : AccsOk X k f [] := fun _ _ h => by cases h
theorem AccsOk.cons {k : KX} {c : Nat} {a : Acc} {tab : List (Nat × Acc)} (h : AccOk X k c f a) (r : AccsOk X k f tab) : AccsOk X k f ((c, a) :: tab) := fun c' a' e => by
  rw [List.lookup_cons] at e
  cases z : c' == c with
  | true =>
    rw [z] at e
    cases e
    rw [beq_iff_eq.mp z]
    exact h
  | false =>
    rw [z] at e
    exact r c' a' e
def tAttr (X : Cx) (k : KX) (f : Str) (ta : TE) : TE := fun σ H Q => ta σ H fun x H1 => ∃ a c dx fs, x = .ref a ∧ H1 a = some (.ins (k.cm c) dx fs) ∧
  ((Cls X.K (k.cm c) ∧ NoAttr X.K (k.cm c) f ∧ ∃ v, fs.lookup f = some v ∧ Q v H1) ∨
   (∃ p g lv fn, Cls X.K (k.cm c) ∧ PropOf X.K (k.cm c) f p g ∧ Gf X k lv g fn ∧ Room (lv + 1) X.A ∧ FD k fn [.ref a] H1 Q fun _ _ _ => False) ∨
   (∃ v u, Cls X.K (k.cm c) ∧ Con X.K (k.cm c) f v u ∧ fs.lookup f = none ∧ Q v H1))
theorem pe_attrG {k : KX} {ta : TE} (hg : X.A.guards = some []) (he : PE X e ta) (hab : attributeBase e f X.env (eval e X.env) = eval e X.env) : PE X (.Attribute e f pos) (tAttr X k f ta) := by
  refine ⟨fun pins s σ H Q I h => ?_⟩
  refine attr_of hab (thn (he.run pins s σ H _ I h) fun u s1 ⟨x, H1, I1, rx, a, c, dx, fs, ex, ea, q⟩ => ?_)
  subst ex
  obtain rfl : u = Value.ref a := rx
  rcases q with ⟨cc, n, v, l, q⟩ | ⟨p, g, lv, fn, cc, hp, Gx, hr, q⟩ | ⟨v, u0, cc, kc, l, q⟩
  · exact getattr_ok I1 ea cc n l fun u' s2 I2 ru => ⟨v, H1, I2, ru, q⟩
  · obtain ⟨fd, ps, Fn, hb, hk⟩ := Gx.ex
    obtain ⟨mA, O, _, _, _, _⟩ := ins_get I1.hok ea
    obtain ⟨od, J, _⟩ := O.look
    obtain ⟨rest, hrec⟩ := hp.rec_
    have I2 := I1.tok (s1.toks + 1)
    have hl : ([Value.ref a] ++ []).length = ps.length := by
      rw [← Fn.len _ _ _ _ q]
      rfl
    have hc : (PySem.W.clsIn X.K (k.cm c)).isSome = true := by
      obtain ⟨cd, hc, _⟩ := PySem.W.any_some cc.hd
      rw [hc]
      rfl
    have b := hb { s1 with toks := s1.toks + 1 } [.ref a] I2.kIn hl
    refine PySem.W.get_bind I1.kIn J (PySem.W.plainGet_of (cc.get f)).1 (PySem.W.findObj_data hc hp.at_ hp.get hp.tak) (PySem.W.plainGet_of (cc.get f)).2 (wpAny_call (PySem.W.prop_get (s := { s1 with toks := s1.toks + 1 }) I1.kIn hrec ?_))
    refine codeAny_mono (Fn.run X.A.in1 X.stack { s1 with toks := s1.toks + 1 } H1 ⟨[.ref a], []⟩ [.ref a] [.ref a] Q (fun _ _ _ => False) hr.in1 hg I2.env0.in1 b (.cons rfl .nil) q) fun r s' hq => ?_
    cases r with
    | error er =>
      obtain ⟨_, _, _, _, _, _, _, _, _, _, _, _, _, _, _, _, z⟩ := XE.of_call (W := fun _ _ _ _ => False) I2 (fun _ _ _ z => z) hq
      exact z.elim
    | ok fl =>
      cases fl with
      | ret u =>
        obtain ⟨v, H', I3, rv, q3⟩ := I2.after hq
        show wpAny _ _ (handedOut u) _ _ _
        rw [PySem.W.handedOut_of (handed_of rv)]
        exact wpAny_pure ⟨v, H', I3, rv, q3⟩
      | next => exact False.elim hq
      | brk => exact False.elim hq
      | cont => exact False.elim hq
  · exact getcon_ok I1 ea cc kc l fun s2 I2 => ⟨v, H1, I2, kc.rel, q⟩
theorem tO_pass {α : Type} {o : Opd} {x : Option D} {v : V} {f : SD → M α} {P : α → DEnv → Hp → Hp → Prop} (g : GI φ F H σ δ) (l : Late φ σ F v o x) (q : Out φ W σ F ((o.pass x).bind f δ) P) :
    ∃ sd, Handed φ σ δ F H [o] [v] [sd] ∧ Out φ W σ F (f sd δ) P := by
  have q' : Out φ W σ F ((passAll [o] [x]).bind (fun sds => match sds with | [sd] => f sd | _ => badM) δ) P := by
    rw [passAll, bind_assoc]
    have e : (fun a => M.bind (M.bind (passAll [] []) fun ds => M.pure (a :: ds)) fun sds => match sds with | [sd] => f sd | _ => badM) = f := by
      funext a
      rfl
    rw [e]
    exact q
  obtain ⟨sds, h, q2⟩ := Lates.hand g (.cons l .nil) q'
  have := Paired.length h.args
  match sds, this, h, q2 with
  | [sd], _, h, q2 => exact ⟨sd, h, q2⟩
theorem slots_one : (slots [o]).Nodup := by
  cases o with
  | m m => exact List.nodup_nil
  | s i => exact List.nodup_cons.mpr ⟨by simp [slots], List.nodup_nil⟩
theorem d_attr (n : String) (tab : List (Nat × Acc)) (hg : X.A.guards = some []) (hn : f = Str.ofString n) (ht : AccsOk X φ.k f tab) (he : DO X φ W e o) (hab : attributeBase e f X.env (eval e X.env) = eval e X.env := by rfl) : DE X φ W (.Attribute e f pos) (attrM n tab o) := by
  subst hn
  refine PE.imp (pe_attrG (k := φ.k) hg he hab) fun σ H Q h => ?_
  obtain ⟨F, δ, g, q⟩ := h
  refine tO_run g q fun x v δ1 F1 H1 g1 s1 l1 q1 => ?_
  have q1' := q1
  obtain ⟨d, r, q2⟩ := l1.now g1 q1
  cases d with
  | obj c fs =>
    obtain ⟨a, dx, fvs, rfl, ea, rf⟩ := r.obj g1.fh
    change Out φ W σ F1 (accM n o x fs (tab.lookup c) δ1) _ at q2
    cases z : tab.lookup c with
    | none => rw [z] at q2; exact q2.elim
    | some ac =>
      rw [z] at q2
      cases ht c ac z with
      | fld c1 c2 =>
        obtain ⟨d, e, q3⟩ := Out.lift (o := fs.lookup n) q2
        obtain ⟨v, e1, rv⟩ := rf.get e
        exact ⟨a, c, dx, fvs, rfl, ea, .inl ⟨c1, c2, v, e1, q3 F1 H1 g1 (Sub.refl F1) v rv⟩⟩
      | @prop p gg lv fn c1 hp Gx hr =>
        refine ⟨a, c, dx, fvs, rfl, ea, .inr (.inl ⟨p, gg, lv, fn, c1, hp, Gx, hr, ?_⟩)⟩
        change Out φ W σ F1 (keptR ((o.pass x).bind fun sd => runC (quietF fn) [o] [sd]) δ1) _ at q2
        unfold keptR at q2
        rw [bind_assoc] at q2
        obtain ⟨sd, hd, q3⟩ := tO_pass g1 l1 q2
        refine FD.wish (E := WE W σ) (FD.use g1 slots_one hd (q3.bind.mono (Sub.refl F1) fun r δ' F' H' g' s' z v h1 h2 h3 => ?_))
        cases r with
        | val d => exact z F' H' g' (Sub.refl F') v (h1 d rfl)
        | own d =>
          obtain ⟨p, rfl, fr⟩ := h2 d rfl
          obtain ⟨F2, g2, s2, r2⟩ := g'.frozeNew fr
          exact z F2 H' g2 s2 _ r2
        | no => exact z.elim
        | arg d => exact z.elim
        | frz d => exact z.elim
      | @con d v u c1 kc rv =>
        change Out φ W σ F1 ((if (fs.lookup n).isNone = true then M.pure d else badM) δ1) _ at q2
        rcases q2.ite with ⟨h1, q3⟩ | ⟨_, q3⟩
        · exact ⟨a, c, dx, fvs, rfl, ea, .inr (.inr ⟨v, u, c1, kc, rf.none (Option.isNone_iff_eq_none.mp h1), q3 F1 H1 g1 (Sub.refl F1) v (rv F1)⟩)⟩
        · exact q3.elim
  | _ => exact q2.elim

/-! ### methods -/
def methM (n : String) (tab : List (Nat × (List SD → R SD))) (o : Opd) (os : List Opd) : M SD := o.p1.bind fun x => (o.p2 x).bind fun d => match d with
  | .obj c fs => match tab.lookup c with
    | some fn => if (fs.lookup n).isNone then (args1 os).bind fun xs => (passAll (o :: os) (x :: xs)).bind fun sds => runC fn (o :: os) sds else badM
    | none => badM
  | _ => badM
structure MethOk (X : Cx) (k : KX) (c : Nat) (m : Str) (fn : List SD → R SD) : Prop where
  cls : Cls X.K (k.cm c)
  ex : ∃ f lv, Meth X.K (k.cm c) m f ∧ Gf X k lv f fn ∧ Room lv X.A
def MethsOk (X : Cx) (k : KX) (m : Str) (tab : List (Nat × (List SD → R SD))) : Prop := ∀ c a, tab.lookup c = some a → MethOk X k c m a
theorem MethsOk.nil {k : KX} {m : Str} : MethsOk X k m [] := fun _ _ h => by cases h
theorem MethsOk.cons {k : KX} {m : Str} {c : Nat} {a : List SD → R SD} {tab : List (Nat × (List SD → R SD))} (h : MethOk X k c m a) (r : MethsOk X k m tab) : MethsOk X k m ((c, a) :: tab) := fun c' a' e => by
  rw [List.lookup_cons] at e
  cases z : c' == c with
  | true =>
    rw [z] at e
    cases e
    rw [beq_iff_eq.mp z]
    exact h
  | false =>
    rw [z] at e
    exact r c' a' e
def tMethG (X : Cx) (φ : Fx) (W : WX) (m : Str) (ta : TE) (t : TA) : TE := fun σ H Q => ta σ H fun x H1 => ∃ a c dx fs f lv fn, x = .ref a ∧ H1 a = some (.ins (φ.k.cm c) dx fs) ∧ fs.lookup m = none ∧ Cls X.K (φ.k.cm c) ∧ Meth X.K (φ.k.cm c) m f ∧ Gf X φ.k lv f fn ∧ Room lv X.A ∧
  t σ H1 fun vs H2 => FD φ.k fn (x :: vs) H2 Q (WE W σ)
variable {m : Str} {apos : Pos} {es : List Expr} {ex : Expr}
theorem pe_methG {pl : Sem Bool} {ta : TE} {t : TA} (hg : X.A.guards = some []) (tk : Takes X W) (he : PE X ex ta) (ha : PA X (e :: es) t)
    (hst : starEach (e :: es) X.env = (false, eval e X.env) :: starEach es X.env := by rfl) (hpl : (backTo pos (starEach es X.env)).any (·.1) = false := by rfl)
    (ht : eval (.Call (.Attribute ex m apos) (e :: es) [] pos) X.env = (do
      let ov ← eval ex X.env
      standAt apos.atName
      let (f, first) ← holding [ov] (getMethod ov m pl)
      callWith pos f first (backTo pos (starEach (e :: es) X.env)) (backToKw pos (keywordEach [] X.env))) := by rfl) :
    PE X (.Call (.Attribute ex m apos) (e :: es) [] pos) (tMethG X φ W m ta t) := by
  refine ⟨fun pins s σ H Q I h => ?_⟩
  refine PySem.W.methodCall_KW (pl := pl) (thn (he.run pins s σ H _ I h) fun u s1 ⟨x, H1, I1, rx, a, c, dx, fs, f, lv, fn, ex, ea, l, cc, hm, Gx, hr, q⟩ => ?_) ht
  subst ex
  obtain rfl : u = Value.ref a := rx
  refine getmeth_ok I1 ea cc hm l ?_
  refine PySem.W.callWith_K (first := [.ref a]) (h₀ := X.base) I.ok.mod.kin hm.kp (thn (ha.run pos pins s1 σ H1 _ I1 q) fun us s2 ⟨vs, H2, I2, r, q2⟩ => ⟨I2.kIn, ?_⟩) hst hpl
  exact Gx.run (us := .ref a :: us) (vs := .ref a :: vs) hr hg tk I2 (.cons rfl r) q2
theorem pe_methG0 {pl : Sem Bool} {ta : TE} (hg : X.A.guards = some []) (tk : Takes X W) (he : PE X ex ta)
    (ht : eval (.Call (.Attribute ex m apos) [] [] pos) X.env = (do
      let ov ← eval ex X.env
      standAt apos.atName
      let (f, first) ← holding [ov] (getMethod ov m pl)
      callWith pos f first (backTo pos (starEach [] X.env)) (backToKw pos (keywordEach [] X.env))) := by rfl) :
    PE X (.Call (.Attribute ex m apos) [] [] pos) (tMethG X φ W m ta tNil) := by
  refine ⟨fun pins s σ H Q I h => ?_⟩
  refine PySem.W.methodCall_KW (pl := pl) (thn (he.run pins s σ H _ I h) fun u s1 ⟨x, H1, I1, rx, a, c, dx, fs, f, lv, fn, ex, ea, l, cc, hm, Gx, hr, q⟩ => ?_) ht
  subst ex
  obtain rfl : u = Value.ref a := rx
  refine getmeth_ok I1 ea cc hm l ?_
  exact PySem.W.callWith_K0 (first := [.ref a]) I1.kIn hm.kp (Gx.run (us := [.ref a]) (vs := [.ref a]) hr hg tk I1 (.cons rfl .nil) q)
theorem methM_run {n : String} {tab : List (Nat × (List SD → R SD))} {f : SD → M D} {P : D → DEnv → Hp → Hp → Prop} (hn : m = Str.ofString n) (ht : MethsOk X φ.k m tab) (nd : (slots (o :: os)).Nodup) (g : GI φ F H σ δ) (q : Out φ W σ F ((methM n tab o os).bind f δ) P)
    (h : ∀ v r δ' F' H', GI φ F' H' σ δ' → Sub F F' → ResFor φ σ δ' F' H' v r → Out φ W σ F' (f r δ') P → Q v H') : tMethG X φ W m (tO φ W o) (tAs φ W os) σ H Q := by
  subst hn
  unfold methM at q
  rw [bind_assoc] at q
  refine tO_run g q fun x v δ1 F1 H1 g1 s1 l1 q1 => ?_
  rw [bind_assoc] at q1
  obtain ⟨d, r, q2⟩ := l1.now g1 q1
  cases d with
  | obj c fs =>
    obtain ⟨a, dx, fvs, rfl, ea, rf⟩ := r.obj g1.fh
    cases z : tab.lookup c with
    | none =>
      change Out φ W σ F1 ((M.bind (match tab.lookup c with
    | some fn => if (fs.lookup n).isNone then (args1 os).bind fun xs => (passAll (o :: os) (x :: xs)).bind fun sds => runC fn (o :: os) sds else badM
    | none => badM) f) δ1) _ at q2
      rw [z] at q2
      exact q2.elim
    | some fn =>
      change Out φ W σ F1 ((M.bind (match tab.lookup c with
    | some fn => if (fs.lookup n).isNone then (args1 os).bind fun xs => (passAll (o :: os) (x :: xs)).bind fun sds => runC fn (o :: os) sds else badM
    | none => badM) f) δ1) _ at q2
      rw [z] at q2
      obtain ⟨cc, ff, lv, hm, Gx, hr⟩ := ht c fn z
      cases zn : (fs.lookup n).isNone with
      | false =>
        dsimp only at q2
        rw [zn] at q2
        exact q2.elim
      | true =>
        dsimp only at q2
        rw [zn, if_pos rfl, bind_assoc] at q2
        refine ⟨a, c, dx, fvs, ff, lv, fn, rfl, ea, rf.none (Option.isNone_iff_eq_none.mp zn), cc, hm, Gx, hr, ?_⟩
        refine tAs_run g1 q2 fun xs vs δ2 F2 H2 g2 s2 l2 q3 => ?_
        rw [bind_assoc] at q3
        obtain ⟨sds, hd, q4⟩ := Lates.hand g2 (.cons (l1.mono s2) l2) q3
        exact FD.use g2 nd hd (q4.bind.mono (Sub.refl F2) fun r δ' F' H' g' s' z v h1 h2 h3 => h v r δ' F' H' g' ((s1.trans s2).trans s') ⟨h1, h2, h3⟩ z)
  | _ => exact q2.elim
end
end G
set_option maxRecDepth 100000
set_option maxHeartbeats 4000000
namespace G
open PySem PySem.Spec PyProof.Rows L2
theorem PairedA.app {α β : Type} {r : α → β → Prop} {xs : List α} {ys : List β} {us : List α} {vs : List β} (h : Paired r xs ys) (h2 : Paired r us vs) : Paired r (xs ++ us) (ys ++ vs) := by
  induction h with
  | nil => exact h2
  | cons a _ ih => exact .cons a ih
section
variable {X : Cx} {φ : Fx} {W : WX} {lv : Nat} {σ : L2.St} {H F F' H' : Hp} {δ δ' : DEnv} {Q : VK} {o : Opd} {os : List Opd} {e ex : Expr} {es : List Expr} {m : Str} {pos apos : Pos}
theorem ResFor.fin {v : V} {r : SD} (g : GI φ F H σ δ) (s : ResFor φ σ δ F H v r) (q : Out φ W σ F (keptV r δ) fun d _ F' H' => ∀ v, Rep φ.k F' v d → Q v H') : Q v H := by
  cases r with
  | val d => exact q F H g (Sub.refl F) v (s.val d rfl)
  | own d =>
    obtain ⟨p, rfl, fr⟩ := s.own d rfl
    obtain ⟨F2, g2, s2, r2⟩ := g.frozeNew fr
    exact q F2 H g2 s2 _ r2
  | no => exact q.elim
  | arg d => exact q.elim
  | frz d => exact q.elim
theorem ResFor.finN {v : V} {r : SD} (g : GI φ F H σ δ) (s : ResFor φ σ δ F H v r) (q : Out φ W σ F (ownV r δ) fun d δ' F' H' => ∀ p, Fresh φ σ δ' F' H' p d → Q (.ref p) H') : Q v H := by
  cases r with
  | val d => exact q.elim
  | own d =>
    obtain ⟨p, rfl, fr⟩ := s.own d rfl
    exact q F H g (Sub.refl F) p fr
  | no => exact q.elim
  | arg d => exact q.elim
  | frz d => exact q.elim
theorem methM_tM {n : String} {tab : List (Nat × (List SD → R SD))} (hn : m = Str.ofString n) (ht : MethsOk X φ.k m tab) (nd : (slots (o :: os)).Nodup) (h : tM φ W (keptR (methM n tab o os)) σ H Q) : tMethG X φ W m (tO φ W o) (tAs φ W os) σ H Q := by
  obtain ⟨F, δ, g, q⟩ := h
  exact methM_run hn ht nd g q fun v r δ' F' H' g' s' rf z => rf.fin g' z
theorem methM_tN {n : String} {tab : List (Nat × (List SD → R SD))} (hn : m = Str.ofString n) (ht : MethsOk X φ.k m tab) (nd : (slots (o :: os)).Nodup) (h : tN φ W (ownR (methM n tab o os)) σ H Q) : tMethG X φ W m (tO φ W o) (tAs φ W os) σ H Q := by
  obtain ⟨F, δ, g, q⟩ := h
  exact methM_run hn ht nd g q fun v r δ' F' H' g' s' rf z => rf.finN g' z
theorem d_meth (n : String) (tab : List (Nat × (List SD → R SD))) {pl : Sem Bool} (hg : X.A.guards = some []) (tk : Takes X W) (hn : m = Str.ofString n) (ht : MethsOk X φ.k m tab) (he : DO X φ W ex o) (ha : DA X φ W (e :: es) os) (nd : (slots (o :: os)).Nodup := by decide)
    (hst : starEach (e :: es) X.env = (false, eval e X.env) :: starEach es X.env := by rfl) (hpl : (backTo pos (starEach es X.env)).any (·.1) = false := by rfl)
    (hv : eval (.Call (.Attribute ex m apos) (e :: es) [] pos) X.env = (do
      let ov ← eval ex X.env
      standAt apos.atName
      let (f, first) ← holding [ov] (getMethod ov m pl)
      callWith pos f first (backTo pos (starEach (e :: es) X.env)) (backToKw pos (keywordEach [] X.env))) := by rfl) :
    DE X φ W (.Call (.Attribute ex m apos) (e :: es) [] pos) (keptR (methM n tab o os)) := PE.imp (pe_methG hg tk he ha hst hpl hv) fun _ _ _ h => methM_tM hn ht nd h
theorem d_methN (n : String) (tab : List (Nat × (List SD → R SD))) {pl : Sem Bool} (hg : X.A.guards = some []) (tk : Takes X W) (hn : m = Str.ofString n) (ht : MethsOk X φ.k m tab) (he : DO X φ W ex o) (ha : DA X φ W (e :: es) os) (nd : (slots (o :: os)).Nodup := by decide)
    (hst : starEach (e :: es) X.env = (false, eval e X.env) :: starEach es X.env := by rfl) (hpl : (backTo pos (starEach es X.env)).any (·.1) = false := by rfl)
    (hv : eval (.Call (.Attribute ex m apos) (e :: es) [] pos) X.env = (do
      let ov ← eval ex X.env
      standAt apos.atName
      let (f, first) ← holding [ov] (getMethod ov m pl)
      callWith pos f first (backTo pos (starEach (e :: es) X.env)) (backToKw pos (keywordEach [] X.env))) := by rfl) :
    DN X φ W (.Call (.Attribute ex m apos) (e :: es) [] pos) (ownR (methM n tab o os)) := PE.imp (pe_methG hg tk he ha hst hpl hv) fun _ _ _ h => methM_tN hn ht nd h
theorem d_meth0 (n : String) (tab : List (Nat × (List SD → R SD))) {pl : Sem Bool} (hg : X.A.guards = some []) (tk : Takes X W) (hn : m = Str.ofString n) (ht : MethsOk X φ.k m tab) (he : DO X φ W ex o)
    (hv : eval (.Call (.Attribute ex m apos) [] [] pos) X.env = (do
      let ov ← eval ex X.env
      standAt apos.atName
      let (f, first) ← holding [ov] (getMethod ov m pl)
      callWith pos f first (backTo pos (starEach [] X.env)) (backToKw pos (keywordEach [] X.env))) := by rfl) :
    DE X φ W (.Call (.Attribute ex m apos) [] [] pos) (keptR (methM n tab o [])) := PE.imp (pe_methG0 hg tk he hv) fun _ _ _ h => methM_tM (os := []) hn ht slots_one h
theorem d_meth0N (n : String) (tab : List (Nat × (List SD → R SD))) {pl : Sem Bool} (hg : X.A.guards = some []) (tk : Takes X W) (hn : m = Str.ofString n) (ht : MethsOk X φ.k m tab) (he : DO X φ W ex o)
    (hv : eval (.Call (.Attribute ex m apos) [] [] pos) X.env = (do
      let ov ← eval ex X.env
      standAt apos.atName
      let (f, first) ← holding [ov] (getMethod ov m pl)
      callWith pos f first (backTo pos (starEach [] X.env)) (backToKw pos (keywordEach [] X.env))) := by rfl) :
    DN X φ W (.Call (.Attribute ex m apos) [] [] pos) (ownR (methM n tab o [])) := PE.imp (pe_methG0 hg tk he hv) fun _ _ _ h => methM_tN (os := []) hn ht slots_one h

/-! ### f() -/
theorem d_callG0 {fn : List SD → R SD} {f : Addr} {x : Str} {p : Pos} (Gx : Gf X φ.k lv f fn) (hr : Room lv X.A) (hg : X.A.guards = some []) (tk : Takes X W) (gl : Gl X x) (hm : X.mg x = some (.ref f)) (hdb : (x == ("__debug__" : Str)) = false := by decide) :
    DE X φ W (.Call (.Name x p) [] [] pos) (keptR (callS fn [])) := by
  refine PE.imp (t := tCallG φ W fn tNil) ⟨fun pins s σ H Q I h => ?_⟩ fun _ _ _ h => callS_tM (os := []) List.nodup_nil h
  refine wpAny_Call_Name_kw (ld_glob I gl hm ?_ hdb)
  obtain ⟨fd, ps, Fn, hb, hk⟩ := Gx.ex
  exact PySem.W.callWith_K0 I.kIn hk (Gx.run (us := []) hr hg tk I .nil h)

/-! ### arguments in another order, defaults -/
def permL {α : Type} (ix : List Nat) (l : List α) : List α := ix.filterMap fun i => l[i]?
theorem permL_get {α : Type} {l : List α} : ∀ {ix : List Nat} {j : Nat}, (∀ i ∈ ix, i < l.length) → (permL ix l)[j]? = (ix[j]?).bind fun i => l[i]?
  | [], j, h => by simp [permL]
  | i :: ix, j, h => by
    have hi := h i List.mem_cons_self
    have e : permL (i :: ix) l = l[i] :: permL ix l := by
      unfold permL
      rw [List.filterMap_cons, List.getElem?_eq_getElem hi]
    rw [e]
    cases j with
    | zero => simp [hi]
    | succ j =>
      have := permL_get (l := l) (ix := ix) (j := j) fun i q => h i (List.mem_cons_of_mem _ q)
      simpa using this
theorem permL_length {α : Type} {l : List α} : ∀ {ix : List Nat}, (∀ i ∈ ix, i < l.length) → (permL ix l).length = ix.length
  | [], h => rfl
  | i :: ix, h => by
    have hi := h i List.mem_cons_self
    have e : permL (i :: ix) l = l[i] :: permL ix l := by
      unfold permL
      rw [List.filterMap_cons, List.getElem?_eq_getElem hi]
    rw [e, List.length_cons, permL_length fun i q => h i (List.mem_cons_of_mem _ q)]
    rfl
theorem permL_paired {α β : Type} {r : α → β → Prop} {l : List α} {l' : List β} (h : Paired r l l') : ∀ {ix : List Nat}, (∀ i ∈ ix, i < l.length) → Paired r (permL ix l) (permL ix l')
  | [], _ => .nil
  | i :: ix, hi => by
    have h1 := hi i List.mem_cons_self
    have h2 : i < l'.length := by rw [← Paired.length h]; exact h1
    have e : permL (i :: ix) l = l[i] :: permL ix l := by
      unfold permL
      rw [List.filterMap_cons, List.getElem?_eq_getElem h1]
    have e' : permL (i :: ix) l' = l'[i] :: permL ix l' := by
      unfold permL
      rw [List.filterMap_cons, List.getElem?_eq_getElem h2]
    rw [e, e']
    refine .cons ?_ (permL_paired h fun i q => hi i (List.mem_cons_of_mem _ q))
    clear e e' hi
    induction h generalizing i with
    | nil => exact absurd h1 (Nat.not_lt_zero _)
    | cons a _ ih =>
      cases i with
      | zero => exact a
      | succ i => exact ih i (by simpa using h1) (by simpa using h2)
theorem Handed.perm {vs : List V} {sds : List SD} {ix : List Nat} (h : Handed φ σ δ F H os vs sds) (hl : os.length = vs.length) (hi : ∀ i ∈ ix, i < os.length) : Handed φ σ δ F H (permL ix os) (permL ix vs) (permL ix sds) := by
  have hv : ∀ i ∈ ix, i < vs.length := by rw [← hl]; exact hi
  have hs : ∀ i ∈ ix, i < sds.length := by rw [← Paired.length h.args]; exact hv
  refine ⟨permL_paired h.args hv, fun j d e => ?_, fun j i sd e e2 e3 => ?_⟩
  · rw [permL_get hs] at e
    cases q : ix[j]? with
    | none => rw [q] at e; cases e
    | some i =>
      rw [q] at e
      obtain ⟨i', sd, a, e1, e2, e3, e4, e5⟩ := h.slot i d e
      exact ⟨i', sd, a, by rw [permL_get hi, q]; exact e1, e2, e3, e4, by rw [permL_get hv, q]; exact e5⟩
  · rw [permL_get hi] at e
    cases q : ix[j]? with
    | none => rw [q] at e; cases e
    | some i' =>
      rw [q] at e
      obtain ⟨d, e4⟩ := h.own i' i sd e e2 e3
      exact ⟨d, by rw [permL_get hs, q]; exact e4⟩
/-- constants behind the arguments -/
def dOps (ds : List D) : List Opd := ds.map fun d => .m (M.pure d)
theorem Handed.more {vs dvs : List V} {sds : List SD} {ds : List D} (h : Handed φ σ δ F H os vs sds) (hl : os.length = vs.length) (hd : RepL φ.k F dvs ds) : Handed φ σ δ F H (os ++ dOps ds) (vs ++ dvs) (sds ++ ds.map SD.val) := by
  have hs : sds.length = vs.length := (Paired.length h.args).symm
  have args : ∀ {dvs : List V} {ds : List D}, RepL φ.k F dvs ds → ArgsOk φ.k F H dvs (ds.map SD.val) := fun {dvs ds} r => by
    induction ds generalizing dvs with
    | nil => cases r; exact .nil
    | cons d ds ih =>
      cases r with
      | cons r rs => exact .cons (.val r) (ih rs)
  refine ⟨PairedA.app h.args (args hd), fun j d e => ?_, fun j i sd e e2 e3 => ?_⟩
  · by_cases z : j < sds.length
    · rw [List.getElem?_append_left z] at e
      obtain ⟨i', sd, a, e1, e2, e3, e4, e5⟩ := h.slot j d e
      exact ⟨i', sd, a, by rw [List.getElem?_append_left (by omega)]; exact e1, e2, e3, e4, by rw [List.getElem?_append_left (by omega)]; exact e5⟩
    · rw [List.getElem?_append_right (by omega), List.getElem?_map] at e
      cases q : ds[j - sds.length]? with
      | none => rw [q] at e; cases e
      | some d => rw [q] at e; cases e
  · by_cases z : j < os.length
    · rw [List.getElem?_append_left z] at e
      obtain ⟨d, e4⟩ := h.own j i sd e e2 e3
      exact ⟨d, by rw [List.getElem?_append_left (by omega)]; exact e4⟩
    · rw [List.getElem?_append_right (by omega)] at e
      unfold dOps at e
      rw [List.getElem?_map] at e
      cases q : ds[j - os.length]? with
      | none => rw [q] at e; cases e
      | some d => rw [q] at e; cases e
theorem Lates.length {vs : List V} {xs : List (Option D)} (h : Lates φ σ F vs os xs) : os.length = vs.length := by
  induction h with
  | nil => rfl
  | cons _ _ ih => simp [ih]
end
end G
set_option maxRecDepth 100000
set_option maxHeartbeats 4000000
namespace G
open PySem PySem.Spec PyProof.Rows L2

/-! ### C(..) -/
def runMk (fn : List SD → R SD) (c : Nat) (os : List Opd) (sds : List SD) : M SD := fun δ => match fn (.own (.obj c []) :: sds) with
  | .ok (.val .non) (r :: rs) => .ok r (backAll os rs δ)
  | .exc x (_ :: rs) => .exc x (backAll os rs δ)
  | _ => .bad
def makeS (c : Nat) (fn : List SD → R SD) (os : List Opd) : M SD := (args1 os).bind fun xs => (passAll os xs).bind fun sds => runMk fn c os sds
def makeKS (c : Nat) (fn : List SD → R SD) (ix : List Nat) (ds : List D) (os : List Opd) : M SD := (args1 os).bind fun xs => (passAll os xs).bind fun sds => runMk fn c (permL ix (os ++ dOps ds)) (permL ix (sds ++ ds.map SD.val))
def callKS (fn : List SD → R SD) (ix : List Nat) (ds : List D) (os : List Opd) : M SD := (args1 os).bind fun xs => (passAll os xs).bind fun sds => runC fn (permL ix (os ++ dOps ds)) (permL ix (sds ++ ds.map SD.val))
section
variable {X : Cx} {φ : Fx} {W : WX} {lv c : Nat} {σ : L2.St} {H F F' H' : Hp} {δ δ' : DEnv} {Q : VK} {o : Opd} {os : List Opd} {e ex : Expr} {es : List Expr} {m x : Str} {p pos apos : Pos} {fn : List SD → R SD} {vs : List V} {sds : List SD} {a dx f C : Addr} {fd : FuncData} {ps : List Str}
theorem FD.make (g : GI φ F H σ δ) (nd : (slots os).Nodup) (h : Handed φ σ δ F H os vs sds) (hx : H a = none) (hdx : H dx = none) (ne : dx ≠ a)
    (q : Out φ W σ F (runMk fn c os sds δ) fun r δ' F' H' => ∀ v, ResFor φ σ δ' F' H' v r → Q v H') :
    FD φ.k fn (.ref a :: vs) (upd (upd H dx (.own a)) a (.ins (φ.k.cm c) dx [])) (fun v H2 => v = .non ∧ Q (.ref a) H2) (WE W σ) := by
  have n1 : New F H F (upd H dx (.own a)) := New.made g.fh hdx
  have hx1 : upd H dx (.own a) a = none := by rw [upd_ne (fun z => ne z.symm)]; exact hx
  have n2 := n1.trans (New.made (o := .ins (φ.k.cm c) dx []) n1.fh hx1)
  have g2 := g.new n2
  have hd2 : Handed φ σ δ F (upd (upd H dx (.own a)) a (.ins (φ.k.cm c) dx [])) os vs sds := by
    refine ⟨?_, h.slot, h.own⟩
    have key : ∀ {vs : List V} {sds : List SD}, ArgsOk φ.k F H vs sds → ArgsOk φ.k F (upd (upd H dx (.own a)) a (.ins (φ.k.cm c) dx [])) vs sds := fun {vs sds} r => by
      induction r with
      | nil => exact .nil
      | cons b _ ih =>
        refine .cons ?_ ih
        cases b with
        | val r => exact .val r
        | own f w => exact .own f (w.mono (Sub.refl F) fun o ho => n2.hh _ o ho)
    exact key h.args
  have fa : F a = none := g.fh.none hx
  have notH : ∀ {i : Nat} {sd : SD}, δ[i]? = some sd → sd.owns = true → σ[i]? ≠ some (some (.ref a)) := fun {i sd} e1 o1 z => by
    obtain ⟨a', d', _, e2, _, w2⟩ := g.owned e1 o1
    rw [z] at e2
    cases e2
    exact w2.ne hx
  have pre : ∀ b, OwnArg [V.ref a] [SD.own (.obj c [])] b → b = a := fun b ⟨i, d, e1, e2⟩ => by
    cases i with
    | zero => simp at e2; exact e2.symm
    | succ i => simp at e1
  refine ⟨F, .own (.obj c []) :: sds, g2.fh, .cons (.own fa (.obj upd_same .nil)) hd2.args, fun i j b d e ne' e1 e2 v1 v2 => ?_, ?_⟩
  · have main : ∀ {j : Nat} {e : D}, sds[j]? = some (.own e) → vs[j]? = some (.ref a) → False := fun {j e} e2 v2 => by
      obtain ⟨i, sd, a', q0, q1, q2, q3, q4⟩ := h.slot j e e2
      rw [v2] at q4
      cases q4
      exact notH q1 q2 q3
    cases i with
    | zero =>
      simp at v1
      subst v1
      cases j with
      | zero => exact ne' rfl
      | succ j => exact main (by simpa using e2) (by simpa using v2)
    | succ i =>
      cases j with
      | zero =>
        simp at v2
        subst v2
        exact main (by simpa using e1) (by simpa using v1)
      | succ j => exact (hd2.apart g2 nd) i j b d e (fun z => ne' (by rw [z])) (by simpa using e1) (by simpa using e2) (by simpa using v1) (by simpa using v2)
  · have fin : ∀ {F' H' : Hp} {r : SD} {rs : List SD}, FEnd φ.k F (upd (upd H dx (.own a)) a (.ins (φ.k.cm c) dx [])) (.ref a :: vs) (.own (.obj c []) :: sds) F' H' (r :: rs) → GI φ F' H' σ (backAll os rs δ) ∧ BackOk φ.k F' H' a (some r) := fun {F' H' r rs} e => by
      refine ⟨Handed.backP (pv := [.ref a]) (psd := [.own (.obj c [])]) (prs := [r]) rfl rfl hd2 g2 nd (fun b ob => ?_) e, e.args 0 _ a rfl rfl⟩
      rw [pre b ob]
      exact ⟨g.free hx, fun i sd e1 o1 => notH e1 o1⟩
    unfold runMk at q
    cases z : fn (.own (.obj c []) :: sds) with
    | bad => rw [z] at q; exact q
    | exc y rs =>
      rw [z] at q
      cases rs with
      | nil => exact q.elim
      | cons r rs => exact fun F' H' da e xa => q F' H' da (fin e).1 e.gr.ff xa
    | ok r0 rs =>
      rw [z] at q
      have hq : ∃ r rs', r0 = .val .non ∧ rs = r :: rs' ∧ Out φ W σ F (.ok r (backAll os rs' δ)) fun r δ' F' H' => ∀ v, ResFor φ σ δ' F' H' v r → Q v H' := by
        split at q
        · rename_i r2 rs2 heq
          cases heq
          exact ⟨_, _, rfl, rfl, q⟩
        · rename_i heq
          cases heq
        · exact q.elim
      obtain ⟨r, rs', rfl, rfl, q⟩ := hq
      refine fun F' H' v e ro => ⟨by cases ro; rfl, ?_⟩
      obtain ⟨g3, b⟩ := fin e
      refine q F' H' g3 e.gr.ff _ ⟨fun d er => ?_, fun d er => ?_, fun er => ?_⟩
      · subst er; exact b
      · subst er
        refine ⟨a, rfl, g.freshRes (δ' := backAll os rs' δ) g3 hx b.1 b.2 fun i sd e o => backAll_owns e o⟩
      · rcases er with rfl | ⟨d, rfl⟩ | ⟨d, rfl⟩ <;> exact b
/-- the run of C(..) -/
theorem run_makeG {pins : List (Addr × Obj)} {s : Shared} {us all : List Value} {kw : List (Str × Value)} {allv : List V} (M : Mk X.K C f) (Fn : FnG X.prog X.w X.K X.mg X.base lv f fd ps (FD φ.k fn)) (hr : Room (lv + 1) X.A) (hg : X.A.guards = some []) (tk : Takes X W)
    (I : Inv X pins σ H s) (r : Vals allv all) (b : ∀ s' : Shared, X.K.In s'.heap → ∀ self : Value, BindsTo s' fd ⟨self :: us, kw⟩ (ps.zip (self :: all)))
    (h : ∀ x dx, H x = none → H dx = none → dx ≠ x → FD φ.k fn (.ref x :: allv) (upd (upd H dx (.own x)) x (.ins C dx [])) (fun v H2 => v = .non ∧ Q (.ref x) H2) (WE W σ)) :
    wpAny (model X.prog X.w) X.A (call (.ref C) us kw) (EP X pins σ Q) X.xe s := by
  have hq := h (s.heap.objs.size + 1) s.heap.objs.size (I.hok.fresh (Nat.le_succ _)) (I.hok.fresh (Nat.le_refl _)) (Nat.ne_of_lt (Nat.lt_succ_self _))
  have I2 := Inv.made (C := C) I
  have r2 : Vals (V.ref (s.heap.objs.size + 1) :: allv) (Value.ref (s.heap.objs.size + 1) :: all) := .cons rfl r
  refine wpAny_call (make_map (f := f) I.kIn M.makes M.init (beq_iff_eq.mp M.fn) (codeAny_mono (Fn.run _ X.stack _ _ ⟨Value.ref (s.heap.objs.size + 1) :: us, kw⟩ (Value.ref (s.heap.objs.size + 1) :: all) _ _ (WE W σ) (hr.make C us kw) (by rw [under_guards]; exact hg)
    (I2.env0.make C us kw) (b _ I2.kIn _) r2 hq) fun r s' hq' => ?_))
  cases r with
  | error e => exact passAt tk σ pins _ _ e s' I2 hq'
  | ok fl =>
    cases fl with
    | ret u =>
      obtain ⟨v, H', I3, rv, ev, q3⟩ := I2.after hq'
      subst ev
      exact ⟨rv, ⟨V.ref (s.heap.objs.size + 1), H', I3, rfl, q3⟩⟩
    | next => exact False.elim hq'
    | brk => exact False.elim hq'
    | cont => exact False.elim hq'
/-- a class's constructor -/
structure Gm (X : Cx) (k : KX) (lv c : Nat) (fn : List SD → R SD) : Prop where
  ex : ∃ f fd ps, Mk X.K (k.cm c) f ∧ FnG X.prog X.w X.K X.mg X.base lv f fd ps (FD k fn) ∧ Binds X.K fd ps []
def tMakeG (φ : Fx) (W : WX) (c : Nat) (fn : List SD → R SD) (t : TA) : TE := fun σ H Q => t σ H fun vs H1 => ∀ x dx, H1 x = none → H1 dx = none → dx ≠ x → FD φ.k fn (.ref x :: vs) (upd (upd H1 dx (.own x)) x (.ins (φ.k.cm c) dx [])) (fun v H2 => v = .non ∧ Q (.ref x) H2) (WE W σ)
theorem Gm.run {pins : List (Addr × Obj)} {s : Shared} {us : List Value} (Gx : Gm X φ.k lv c fn) (hr : Room (lv + 1) X.A) (hg : X.A.guards = some []) (tk : Takes X W) (I : Inv X pins σ H s) (r : Vals vs us)
    (h : ∀ x dx, H x = none → H dx = none → dx ≠ x → FD φ.k fn (.ref x :: vs) (upd (upd H dx (.own x)) x (.ins (φ.k.cm c) dx [])) (fun v H2 => v = .non ∧ Q (.ref x) H2) (WE W σ)) :
    wpAny (model X.prog X.w) X.A (call (.ref (φ.k.cm c)) us) (EP X pins σ Q) X.xe s := by
  obtain ⟨f, fd, ps, Mx, Fn, hb⟩ := Gx.ex
  have hq := h (s.heap.objs.size + 1) s.heap.objs.size (I.hok.fresh (Nat.le_succ _)) (I.hok.fresh (Nat.le_refl _)) (Nat.ne_of_lt (Nat.lt_succ_self _))
  have hl : us.length + 1 = ps.length := by
    rw [← Fn.len _ _ _ _ hq, ← r.length]
    rfl
  refine run_makeG (us := us) (kw := []) (all := us) Mx Fn hr hg tk I r (fun s' kin self => ?_) h
  have b := hb s' (self :: us) kin (by rw [List.append_nil]; exact hl)
  rw [List.append_nil] at b
  exact b
theorem pe_makeG (Gx : Gm X φ.k lv c fn) (hr : Room (lv + 1) X.A) (hg : X.A.guards = some []) (tk : Takes X W) (gl : Gl X x) (hm : X.mg x = some (.ref (φ.k.cm c))) {t : TA} (ha : PA X (e :: es) t) (hdb : (x == ("__debug__" : Str)) = false := by decide)
    (he : starEach (e :: es) X.env = (false, eval e X.env) :: starEach es X.env := by rfl) (hpl : (backTo pos (starEach es X.env)).any (·.1) = false := by rfl) : PE X (.Call (.Name x p) (e :: es) [] pos) (tMakeG φ W c fn t) := by
  refine ⟨fun pins s σ H Q I h => ?_⟩
  refine wpAny_Call_Name_kw (ld_glob I gl hm ?_ hdb)
  obtain ⟨f, fd, ps, Mx, _⟩ := Gx.ex
  refine PySem.W.callWith_K (h₀ := X.base) I.ok.mod.kin Mx.kp (thn (ha.run pos pins s σ H _ I h) fun us s1 ⟨vs, H1, I1, r, q⟩ => ⟨I1.kIn, ?_⟩) he hpl
  exact Gx.run hr hg tk I1 r q
theorem pe_makeG0 (Gx : Gm X φ.k lv c fn) (hr : Room (lv + 1) X.A) (hg : X.A.guards = some []) (tk : Takes X W) (gl : Gl X x) (hm : X.mg x = some (.ref (φ.k.cm c))) (hdb : (x == ("__debug__" : Str)) = false := by decide) :
    PE X (.Call (.Name x p) [] [] pos) (tMakeG φ W c fn tNil) := by
  refine ⟨fun pins s σ H Q I h => ?_⟩
  refine wpAny_Call_Name_kw (ld_glob I gl hm ?_ hdb)
  obtain ⟨f, fd, ps, Mx, _⟩ := Gx.ex
  exact PySem.W.callWith_K0 I.kIn Mx.kp (Gx.run (us := []) hr hg tk I .nil h)
theorem makeS_run {f : SD → M D} {P : D → DEnv → Hp → Hp → Prop} (nd : (slots os).Nodup) (g : GI φ F H σ δ) (q : Out φ W σ F ((makeS c fn os).bind f δ) P)
    (h : ∀ v r δ' F' H', GI φ F' H' σ δ' → Sub F F' → ResFor φ σ δ' F' H' v r → Out φ W σ F' (f r δ') P → Q v H') : tMakeG φ W c fn (tAs φ W os) σ H Q := by
  unfold makeS at q
  rw [bind_assoc] at q
  refine tAs_run g q fun xs vs δ1 F1 H1 g1 s1 l1 q1 => ?_
  rw [bind_assoc] at q1
  obtain ⟨sds, hd, q2⟩ := l1.hand g1 q1
  exact fun x dx hx hdx ne => FD.make g1 nd hd hx hdx ne (q2.bind.mono (Sub.refl F1) fun r δ' F' H' g' s' z v rf => h v r δ' F' H' g' (s1.trans s') rf z)
theorem makeS_tM (nd : (slots os).Nodup) (h : tM φ W (keptR (makeS c fn os)) σ H Q) : tMakeG φ W c fn (tAs φ W os) σ H Q := by
  obtain ⟨F, δ, g, q⟩ := h
  exact makeS_run nd g q fun v r δ' F' H' g' s' rf z => rf.fin g' z
theorem makeS_tN (nd : (slots os).Nodup) (h : tN φ W (ownR (makeS c fn os)) σ H Q) : tMakeG φ W c fn (tAs φ W os) σ H Q := by
  obtain ⟨F, δ, g, q⟩ := h
  exact makeS_run nd g q fun v r δ' F' H' g' s' rf z => rf.finN g' z
theorem d_make (Gx : Gm X φ.k lv c fn) (hr : Room (lv + 1) X.A) (hg : X.A.guards = some []) (tk : Takes X W) (gl : Gl X x) (hm : X.mg x = some (.ref (φ.k.cm c))) (ha : DA X φ W (e :: es) os) (nd : (slots os).Nodup := by decide) (hdb : (x == ("__debug__" : Str)) = false := by decide)
    (he : starEach (e :: es) X.env = (false, eval e X.env) :: starEach es X.env := by rfl) (hpl : (backTo pos (starEach es X.env)).any (·.1) = false := by rfl) : DE X φ W (.Call (.Name x p) (e :: es) [] pos) (keptR (makeS c fn os)) :=
  PE.imp (pe_makeG Gx hr hg tk gl hm ha hdb he hpl) fun _ _ _ h => makeS_tM nd h
theorem d_makeN (Gx : Gm X φ.k lv c fn) (hr : Room (lv + 1) X.A) (hg : X.A.guards = some []) (tk : Takes X W) (gl : Gl X x) (hm : X.mg x = some (.ref (φ.k.cm c))) (ha : DA X φ W (e :: es) os) (nd : (slots os).Nodup := by decide) (hdb : (x == ("__debug__" : Str)) = false := by decide)
    (he : starEach (e :: es) X.env = (false, eval e X.env) :: starEach es X.env := by rfl) (hpl : (backTo pos (starEach es X.env)).any (·.1) = false := by rfl) : DN X φ W (.Call (.Name x p) (e :: es) [] pos) (ownR (makeS c fn os)) :=
  PE.imp (pe_makeG Gx hr hg tk gl hm ha hdb he hpl) fun _ _ _ h => makeS_tN nd h
theorem d_make0 (Gx : Gm X φ.k lv c fn) (hr : Room (lv + 1) X.A) (hg : X.A.guards = some []) (tk : Takes X W) (gl : Gl X x) (hm : X.mg x = some (.ref (φ.k.cm c))) (hdb : (x == ("__debug__" : Str)) = false := by decide) : DE X φ W (.Call (.Name x p) [] [] pos) (keptR (makeS c fn [])) :=
  PE.imp (pe_makeG0 Gx hr hg tk gl hm hdb) fun _ _ _ h => makeS_tM (os := []) List.nodup_nil h
theorem d_make0N (Gx : Gm X φ.k lv c fn) (hr : Room (lv + 1) X.A) (hg : X.A.guards = some []) (tk : Takes X W) (gl : Gl X x) (hm : X.mg x = some (.ref (φ.k.cm c))) (hdb : (x == ("__debug__" : Str)) = false := by decide) : DN X φ W (.Call (.Name x p) [] [] pos) (ownR (makeS c fn [])) :=
  PE.imp (pe_makeG0 Gx hr hg tk gl hm hdb) fun _ _ _ h => makeS_tN (os := []) List.nodup_nil h

/-! ### with keywords, defaults -/
/-- pn: values ahead (self); n positional ones, ks the keywords, ds the defaults used; ix: where each parameter's value stands -/
structure KBi (K : PySem.W.Frag) (k : KX) (fd : FuncData) (ps : List Str) (pn n : Nat) (ks : List Str) (ix : List Nat) (ds : List D) : Prop where
  ex : ∃ (dvs : List V) (dv : List Value), Vals dvs dv ∧ (∀ F, RepL k F dvs ds) ∧ (∀ i ∈ ix, i < n + ks.length + ds.length) ∧ ∀ (s : Shared) (pre us ws : List Value), K.In s.heap → pre.length = pn → us.length = n → ws.length = ks.length → BindsTo s fd ⟨pre ++ us, ks.zip ws⟩ (ps.zip (pre ++ permL ix ((us ++ ws) ++ dv)))
structure Gk (X : Cx) (k : KX) (lv : Nat) (f : Addr) (fn : List SD → R SD) (n : Nat) (ks : List Str) (ix : List Nat) (ds : List D) : Prop where
  ex : ∃ fd ps, FnG X.prog X.w X.K X.mg X.base lv f fd ps (FD k fn) ∧ KBi X.K k fd ps 0 n ks ix ds ∧ PySem.W.keepIn X.K (.ref f) = true
structure Gmk (X : Cx) (k : KX) (lv c : Nat) (fn : List SD → R SD) (n : Nat) (ks : List Str) (ix : List Nat) (ds : List D) : Prop where
  ex : ∃ f fd ps, Mk X.K (k.cm c) f ∧ FnG X.prog X.w X.K X.mg X.base lv f fd ps (FD k fn) ∧ KBi X.K k fd ps 1 n ks ix ds
variable {n : Nat} {ks : List Str} {ix : List Nat} {ds : List D} {kws : List Keyword} {os2 : List Opd} {zs : List V}
abbrev DK (X : Cx) (φ : Fx) (W : WX) (kws : List Keyword) (os : List Opd) : Prop := PK X kws (tAs φ W os)
theorem dk_nil : DK X φ W [] [] := pk_nil
theorem dk_cons {nm : Option Str} {kpos : Pos} (h : DO X φ W e o) (hr : DK X φ W kws os) : DK X φ W (⟨nm, e, kpos⟩ :: kws) (o :: os) := pk_cons h hr
theorem tO_mono {Q Q' : VK} (h : tO φ W o σ H Q) (i : ∀ v H1, Q v H1 → Q' v H1) : tO φ W o σ H Q' := by
  cases o with
  | m m =>
    obtain ⟨F, δ, g, q⟩ := h
    exact ⟨F, δ, g, Out.mono q (Sub.refl F) fun d δ' F' H' _ _ z v r => i v H' (z v r)⟩
  | s j =>
    obtain ⟨v, e, q⟩ := h
    exact ⟨v, e, i v H q⟩
theorem tAs_mono {Q Q' : List V → Hp → Prop} (h : tAs φ W os σ H Q) (i : ∀ vs H1, Q vs H1 → Q' vs H1) : tAs φ W os σ H Q' := by
  induction os generalizing H Q Q' with
  | nil => exact i [] H h
  | cons o os ih => exact tO_mono h fun v H1 h1 => ih h1 fun vs H2 q => i (v :: vs) H2 q
theorem tAs_len {Q : List V → Hp → Prop} (h : tAs φ W os σ H Q) : tAs φ W os σ H fun vs H1 => vs.length = os.length ∧ Q vs H1 := by
  induction os generalizing H Q with
  | nil => exact ⟨rfl, h⟩
  | cons o os ih => exact tO_mono h fun v H1 h1 => tAs_mono (ih h1) fun vs H2 q => ⟨congrArg Nat.succ q.1, q.2⟩
theorem tAs_app0 : ∀ {os : List Opd} {H : Hp} {Q : List V → Hp → Prop}, tAs φ W (os ++ os2) σ H Q → tAs φ W os σ H fun vs H1 => tAs φ W os2 σ H1 fun zs H2 => Q (vs ++ zs) H2
  | [], H, Q, h => h
  | o :: os, H, Q, h => by
    refine tO_mono (Q := fun v H1 => tAs φ W (os ++ os2) σ H1 fun xs H2 => Q (v :: xs) H2) h fun v H1 h1 => ?_
    exact tAs_app0 (os := os) (Q := fun xs H2 => Q (v :: xs) H2) h1
theorem tAs_app {Q : List V → Hp → Prop} (h : tAs φ W (os ++ os2) σ H Q) : tAs φ W os σ H fun vs H1 => tAs φ W os2 σ H1 fun zs H2 => vs.length = os.length ∧ zs.length = os2.length ∧ Q (vs ++ zs) H2 :=
  tAs_mono (tAs_len (tAs_app0 h)) fun vs H1 q => tAs_mono (tAs_len q.2) fun zs H2 q2 => ⟨q.1, q2.1, q2.2⟩
def tMakeK (φ : Fx) (W : WX) (c : Nat) (fn : List SD → R SD) (ix : List Nat) (dvs : List V) (t tk : TA) : TE := fun σ H Q => t σ H fun vs H1 => tk σ H1 fun zs H2 => ∀ x dx, H2 x = none → H2 dx = none → dx ≠ x →
  FD φ.k fn (.ref x :: permL ix ((vs ++ zs) ++ dvs)) (upd (upd H2 dx (.own x)) x (.ins (φ.k.cm c) dx [])) (fun v H3 => v = .non ∧ Q (.ref x) H3) (WE W σ)
theorem ArgsRun {α : Type} {f : List SD → M α} {P : α → DEnv → Hp → Hp → Prop} {dvs : List V} (hd : ∀ F, RepL φ.k F dvs ds) (hix : ∀ i ∈ ix, i < os.length + ds.length) (g : GI φ F H σ δ)
    (q : Out φ W σ F (((args1 os).bind fun xs => (passAll os xs).bind f) δ) P) {Q : List V → Hp → Prop}
    (h : ∀ vs sds δ' F' H', GI φ F' H' σ δ' → Sub F F' → vs.length = os.length → Handed φ σ δ' F' H' (permL ix (os ++ dOps ds)) (permL ix (vs ++ dvs)) (permL ix (sds ++ ds.map SD.val)) → Out φ W σ F' (f sds δ') P → Q vs H') : tAs φ W os σ H Q := by
  refine tAs_run g q fun xs vs δ1 F1 H1 g1 s1 l1 q1 => ?_
  obtain ⟨sds, hd1, q2⟩ := l1.hand g1 q1
  have el := l1.length
  refine h vs sds δ1 F1 H1 g1 s1 el.symm ((hd1.more el (hd F1)).perm ?_ fun i hi => ?_) q2
  · rw [List.length_append, List.length_append, el, (hd F1).length]
    unfold dOps
    rw [List.length_map]
  · rw [List.length_append]
    unfold dOps
    rw [List.length_map]
    exact hix i hi
theorem makeKS_run {f : SD → M D} {P : D → DEnv → Hp → Hp → Prop} {dvs : List V} (hd : ∀ F, RepL φ.k F dvs ds) (hix : ∀ i ∈ ix, i < os.length + ds.length) (nd : (slots (permL ix (os ++ dOps ds))).Nodup) (g : GI φ F H σ δ) (q : Out φ W σ F ((makeKS c fn ix ds os).bind f δ) P)
    (h : ∀ v r δ' F' H', GI φ F' H' σ δ' → Sub F F' → ResFor φ σ δ' F' H' v r → Out φ W σ F' (f r δ') P → Q v H') :
    tAs φ W os σ H fun vs H1 => vs.length = os.length ∧ ∀ x dx, H1 x = none → H1 dx = none → dx ≠ x → FD φ.k fn (.ref x :: permL ix (vs ++ dvs)) (upd (upd H1 dx (.own x)) x (.ins (φ.k.cm c) dx [])) (fun v H2 => v = .non ∧ Q (.ref x) H2) (WE W σ) := by
  unfold makeKS at q
  simp only [bind_assoc] at q
  refine ArgsRun hd hix g q fun vs sds δ1 F1 H1 g1 s1 el hd1 q1 => ⟨el, fun x dx hx hdx ne => ?_⟩
  exact FD.make g1 nd hd1 hx hdx ne (q1.bind.mono (Sub.refl F1) fun r δ' F' H' g' s' z v rf => h v r δ' F' H' g' (s1.trans s') rf z)
theorem callKS_run {f : SD → M D} {P : D → DEnv → Hp → Hp → Prop} {dvs : List V} (hd : ∀ F, RepL φ.k F dvs ds) (hix : ∀ i ∈ ix, i < os.length + ds.length) (nd : (slots (permL ix (os ++ dOps ds))).Nodup) (g : GI φ F H σ δ) (q : Out φ W σ F ((callKS fn ix ds os).bind f δ) P)
    (h : ∀ v r δ' F' H', GI φ F' H' σ δ' → Sub F F' → ResFor φ σ δ' F' H' v r → Out φ W σ F' (f r δ') P → Q v H') :
    tAs φ W os σ H fun vs H1 => vs.length = os.length ∧ FD φ.k fn (permL ix (vs ++ dvs)) H1 Q (WE W σ) := by
  unfold callKS at q
  simp only [bind_assoc] at q
  refine ArgsRun hd hix g q fun vs sds δ1 F1 H1 g1 s1 el hd1 q1 => ⟨el, ?_⟩
  exact FD.use g1 nd hd1 (q1.bind.mono (Sub.refl F1) fun r δ' F' H' g' s' z v h1 h2 h3 => h v r δ' F' H' g' (s1.trans s') ⟨h1, h2, h3⟩ z)
theorem vals_perm {vs : List V} {us : List Value} (h : Vals vs us) (hi : ∀ i ∈ ix, i < vs.length) : Vals (permL ix vs) (permL ix us) := permL_paired h hi
/-- C(e, .., k = v, ..); any of the two lists may be empty -/
theorem kwArgs_run {s : Shared} {pins : List (Addr × Obj)} {fv : Value} (hall : (backToKw pos (keywordEach kws X.env)).all (·.1.isSome) = true) (hks : (backToKw pos (keywordEach kws X.env)).filterMap (·.1) = ks)
    (hk : PySem.W.keepIn X.K fv = true) (ha : PA X es (tAs φ W os)) (hkw : PK X kws (tAs φ W os2)) (I : Inv X pins σ H s) {R : List V → List V → Hp → Prop}
    (hpl : ((backTo pos (starEach es X.env)).any (·.1) || (backToKw pos (keywordEach kws X.env)).any (·.1.isNone)) = false)
    (ho : es = [] → os = []) (he : ∀ e es', es = e :: es' → starEach (e :: es') X.env = (false, eval e X.env) :: starEach es' X.env)
    (h : tAs φ W os σ H fun vs H1 => tAs φ W os2 σ H1 fun zs H2 => R vs zs H2)
    (fin : ∀ us ws s2 vs zs H2, Inv X pins σ H2 s2 → Vals vs us → Vals zs ws → R vs zs H2 → wpAny (model X.prog X.w) X.A (call fv us (ks.zip ws)) (EP X pins σ Q) X.xe s2) :
    wpAny (model X.prog X.w) X.A (callWith pos fv [] (backTo pos (starEach es X.env)) (backToKw pos (keywordEach kws X.env))) (EP X pins σ Q) X.xe s := by
  cases es with
  | nil =>
    refine PySem.W.callWith_KW0 (h₀ := X.base) I.ok.mod.kin hk hall ?_ hpl
    have ho' := ho rfl
    subst ho'
    refine thn (hkw.run pos pins s σ H _ I h) fun ws s2 ⟨zs, H2, I2, rz, q2⟩ => ⟨I2.kIn, ?_⟩
    rw [hks]
    exact fin [] ws s2 [] zs H2 I2 .nil rz q2
  | cons e es =>
    have he' := he e es rfl
    refine PySem.W.callWith_KW (h₀ := X.base) I.ok.mod.kin hk hall (thn (ha.run pos pins s σ H _ I h) fun us s1 ⟨vs, H1, I1, r, q⟩ => ?_) hpl he'
    refine thn (hkw.run pos pins s1 σ H1 _ I1 q) fun ws s2 ⟨zs, H2, I2, rz, q2⟩ => ⟨I2.kIn, ?_⟩
    rw [hks]
    exact fin us ws s2 vs zs H2 I2 r rz q2
theorem Gmk.run {pins : List (Addr × Obj)} {s : Shared} {us ws : List Value} {fd : FuncData} {dvs : List V} {dv : List Value} (Mx : Mk X.K (φ.k.cm c) C) (Fn : FnG X.prog X.w X.K X.mg X.base lv C fd ps (FD φ.k fn)) (hdv : Vals dvs dv)
    (hix : ∀ i ∈ ix, i < n + ks.length + dvs.length) (b : ∀ (s : Shared) (pre us ws : List Value), X.K.In s.heap → pre.length = 1 → us.length = n → ws.length = ks.length → BindsTo s fd ⟨pre ++ us, ks.zip ws⟩ (ps.zip (pre ++ permL ix ((us ++ ws) ++ dv))))
    (hr : Room (lv + 1) X.A) (hg : X.A.guards = some []) (tk : Takes X W) (I : Inv X pins σ H s) (r : Vals vs us) (rz : Vals zs ws) (l1 : vs.length = n) (l2 : zs.length = ks.length)
    (h : ∀ x dx, H x = none → H dx = none → dx ≠ x → FD φ.k fn (.ref x :: permL ix ((vs ++ zs) ++ dvs)) (upd (upd H dx (.own x)) x (.ins (φ.k.cm c) dx [])) (fun v H2 => v = .non ∧ Q (.ref x) H2) (WE W σ)) :
    wpAny (model X.prog X.w) X.A (call (.ref (φ.k.cm c)) us (ks.zip ws)) (EP X pins σ Q) X.xe s := by
  have rv : Vals ((vs ++ zs) ++ dvs) ((us ++ ws) ++ dv) := (r.append rz).append hdv
  refine run_makeG Mx Fn hr hg tk I (vals_perm rv fun i hi => ?_) (fun s' kin self => ?_) h
  · have := hix i hi
    rw [List.length_append, List.length_append, l1, l2]
    exact this
  · exact b s' [self] us ws kin rfl (by rw [← r.length]; exact l1) (by rw [← rz.length]; exact l2)
theorem d_makeK (n : Nat) (ix : List Nat) (ds : List D) (Gx : Gmk X φ.k lv c fn n ks ix ds) (hr : Room (lv + 1) X.A) (hg : X.A.guards = some []) (tk : Takes X W) (gl : Gl X x) (hm : X.mg x = some (.ref (φ.k.cm c))) (ha : DA X φ W es os) (hkw : DK X φ W kws os2)
    (l1 : os.length = n := by rfl) (l2 : os2.length = ks.length := by rfl) (nd : (slots (permL ix ((os ++ os2) ++ dOps ds))).Nodup := by decide)
    (hall : (backToKw pos (keywordEach kws X.env)).all (·.1.isSome) = true := by rfl) (hks : (backToKw pos (keywordEach kws X.env)).filterMap (·.1) = ks := by rfl) (hdb : (x == ("__debug__" : Str)) = false := by decide)
    (hpl : ((backTo pos (starEach es X.env)).any (·.1) || (backToKw pos (keywordEach kws X.env)).any (·.1.isNone)) = false := by rfl) (ho : es = [] → os = [] := by first | exact fun _ => rfl | (intro h; cases h))
    (he : ∀ e es', es = e :: es' → starEach (e :: es') X.env = (false, eval e X.env) :: starEach es' X.env := by (intro e es' h; cases h; try rfl)) : DN X φ W (.Call (.Name x p) es kws pos) (ownR (makeKS c fn ix ds (os ++ os2))) := by
  refine ⟨fun pins s σ H Q I h => ?_⟩
  refine wpAny_Call_Name_kw (ld_glob I gl hm ?_ hdb)
  obtain ⟨f, fd, ps, Mx, Fn, dvs, dv, hdv, hds, hix, b⟩ := Gx.ex
  have ldv : dvs.length = ds.length := (hds fun _ => none).length
  obtain ⟨F, δ, g, q⟩ := h
  have hrun := makeKS_run hds (fun i hi => by rw [List.length_append, l1, l2]; exact hix i hi) nd g q fun v r δ' F' H' g' s' rf z => rf.finN g' z
  refine kwArgs_run hall hks Mx.kp ha hkw I hpl ho he (tAs_app hrun) fun us ws s2 vs zs H2 I2 r rz ⟨e1, e2, _, q2⟩ => ?_
  exact Gmk.run Mx Fn hdv (by rw [ldv]; exact hix) b hr hg tk I2 r rz (by rw [e1]; exact l1) (by rw [e2]; exact l2) q2
/-- f(e, .., k = v, ..) -/
theorem callK_ok {R : SD → M D} {Q : VK} {P : D → DEnv → Hp → Hp → Prop} {s : Shared} {pins : List (Addr × Obj)} (Gx : Gk X φ.k lv f fn n ks ix ds) (hr : Room lv X.A) (hg : X.A.guards = some []) (tk : Takes X W) (gl : Gl X x) (hm : X.mg x = some (.ref f)) (ha : DA X φ W es os) (hkw : DK X φ W kws os2)
    (l1 : os.length = n) (l2 : os2.length = ks.length) (nd : (slots (permL ix ((os ++ os2) ++ dOps ds))).Nodup)
    (hall : (backToKw pos (keywordEach kws X.env)).all (·.1.isSome) = true) (hks : (backToKw pos (keywordEach kws X.env)).filterMap (·.1) = ks) (hdb : (x == ("__debug__" : Str)) = false)
    (hpl : ((backTo pos (starEach es X.env)).any (·.1) || (backToKw pos (keywordEach kws X.env)).any (·.1.isNone)) = false) (ho : es = [] → os = [])
    (he : ∀ e es', es = e :: es' → starEach (e :: es') X.env = (false, eval e X.env) :: starEach es' X.env) (I : Inv X pins σ H s) (g : GI φ F H σ δ) (q : Out φ W σ F ((callKS fn ix ds (os ++ os2)).bind R δ) P)
    (h : ∀ v r δ' F' H', GI φ F' H' σ δ' → Sub F F' → ResFor φ σ δ' F' H' v r → Out φ W σ F' (R r δ') P → Q v H') :
    wpAny (model X.prog X.w) X.A (eval (.Call (.Name x p) es kws pos) X.env) (EP X pins σ Q) X.xe s := by
  refine wpAny_Call_Name_kw (ld_glob I gl hm ?_ hdb)
  obtain ⟨fd, ps, Fn, ⟨dvs, dv, hdv, hds, hix, b⟩, hk⟩ := Gx.ex
  have ldv : dvs.length = ds.length := (hds fun _ => none).length
  have hrun := callKS_run hds (fun i hi => by rw [List.length_append, l1, l2]; exact hix i hi) nd g q h
  refine kwArgs_run hall hks hk ha hkw I hpl ho he (tAs_app hrun) fun us ws s2 vs zs H2 I2 r rz ⟨e1, e2, _, q2⟩ => ?_
  have rv : Vals ((vs ++ zs) ++ dvs) ((us ++ ws) ++ dv) := (r.append rz).append hdv
  have rp := vals_perm rv (ix := ix) fun i hi => by
    have := hix i hi
    rw [List.length_append, List.length_append, e1, e2, ldv, l1, l2]
    exact this
  have b2 := b s2 [] us ws I2.kIn rfl (by rw [← r.length, e1]; exact l1) (by rw [← rz.length, e2]; exact l2)
  refine wpAny_call (codeAny_mono (Fn.run X.A X.stack s2 H2 ⟨us, ks.zip ws⟩ (permL ix ((us ++ ws) ++ dv)) _ Q (WE W σ) hr hg I2.env0 b2 rp q2) fun r s' hq => ?_)
  cases r with
  | error e => exact passAt tk σ pins H2 s2 e s' I2 hq
  | ok fl =>
    cases fl with
    | ret u => exact I2.after hq
    | next => exact False.elim hq
    | brk => exact False.elim hq
    | cont => exact False.elim hq
theorem d_callK (n : Nat) (ix : List Nat) (ds : List D) (Gx : Gk X φ.k lv f fn n ks ix ds) (hr : Room lv X.A) (hg : X.A.guards = some []) (tk : Takes X W) (gl : Gl X x) (hm : X.mg x = some (.ref f)) (ha : DA X φ W es os) (hkw : DK X φ W kws os2)
    (l1 : os.length = n := by rfl) (l2 : os2.length = ks.length := by rfl) (nd : (slots (permL ix ((os ++ os2) ++ dOps ds))).Nodup := by decide)
    (hall : (backToKw pos (keywordEach kws X.env)).all (·.1.isSome) = true := by rfl) (hks : (backToKw pos (keywordEach kws X.env)).filterMap (·.1) = ks := by rfl) (hdb : (x == ("__debug__" : Str)) = false := by decide)
    (hpl : ((backTo pos (starEach es X.env)).any (·.1) || (backToKw pos (keywordEach kws X.env)).any (·.1.isNone)) = false := by rfl) (ho : es = [] → os = [] := by first | exact fun _ => rfl | (intro h; cases h))
    (he : ∀ e es', es = e :: es' → starEach (e :: es') X.env = (false, eval e X.env) :: starEach es' X.env := by (intro e es' h; cases h; try rfl)) : DE X φ W (.Call (.Name x p) es kws pos) (keptR (callKS fn ix ds (os ++ os2))) :=
  ⟨fun pins s σ H Q I h => by
    obtain ⟨F, δ, g, q⟩ := h
    exact callK_ok Gx hr hg tk gl hm ha hkw l1 l2 nd hall hks hdb hpl ho he I g q fun v r δ' F' H' g' s' rf z => rf.fin g' z⟩
theorem d_callKN (n : Nat) (ix : List Nat) (ds : List D) (Gx : Gk X φ.k lv f fn n ks ix ds) (hr : Room lv X.A) (hg : X.A.guards = some []) (tk : Takes X W) (gl : Gl X x) (hm : X.mg x = some (.ref f)) (ha : DA X φ W es os) (hkw : DK X φ W kws os2)
    (l1 : os.length = n := by rfl) (l2 : os2.length = ks.length := by rfl) (nd : (slots (permL ix ((os ++ os2) ++ dOps ds))).Nodup := by decide)
    (hall : (backToKw pos (keywordEach kws X.env)).all (·.1.isSome) = true := by rfl) (hks : (backToKw pos (keywordEach kws X.env)).filterMap (·.1) = ks := by rfl) (hdb : (x == ("__debug__" : Str)) = false := by decide)
    (hpl : ((backTo pos (starEach es X.env)).any (·.1) || (backToKw pos (keywordEach kws X.env)).any (·.1.isNone)) = false := by rfl) (ho : es = [] → os = [] := by first | exact fun _ => rfl | (intro h; cases h))
    (he : ∀ e es', es = e :: es' → starEach (e :: es') X.env = (false, eval e X.env) :: starEach es' X.env := by (intro e es' h; cases h; try rfl)) : DN X φ W (.Call (.Name x p) es kws pos) (ownR (callKS fn ix ds (os ++ os2))) :=
  ⟨fun pins s σ H Q I h => by
    obtain ⟨F, δ, g, q⟩ := h
    exact callK_ok Gx hr hg tk gl hm ha hkw l1 l2 nd hall hks hdb hpl ho he I g q fun v r δ' F' H' g' s' rf z => rf.finN g' z⟩
end
end G
set_option maxRecDepth 100000
set_option maxHeartbeats 4000000
namespace G
open PySem PySem.Spec PyProof.Rows L2

/-! ### methods of built-in types -/
def kindD (T : String) : D → Bool
  | .lst _ => T == "list"
  | .scr _ => T == "list"
  | .str _ => T == "str"
  | .int _ => T == "int"
  | .dk _ => T == "dict"
  | .dt _ => T == "dict"
  | _ => false
def MeV (k : KX) (r : V → List V → Hp → VK → Prop) (f : D → List D → Option D) : Prop := ∀ F H v d vs ds e, Sub F H → RepO k F H v d → RepOs k F H vs ds → f d ds = some e → ∀ Q : VK, (∀ F' H' v', New F H F' H' → Rep k F' v' e → Q v' H') → r v vs H Q
def MeN (k : KX) (r : V → List V → Hp → VK → Prop) (f : D → List D → Option D) : Prop := ∀ F H v d vs ds e, Sub F H → RepO k F H v d → RepOs k F H vs ds → f d ds = some e → ∀ Q : VK, (∀ F' H' p, New F H F' H' → H p = none → F' p = none → OwnAt k F' H' p e → Q (.ref p) H') → r v vs H Q
def bmM (T : String) (f : D → List D → Option D) (o : Opd) (os : List Opd) : M D := o.p1.bind fun x => (o.p2 x).bind fun d0 => if kindD T d0 then (args1 os).bind fun xs => (o.p2 x).bind fun d => (args2 os xs).bind fun ds => lift (f d ds) else badM
/-- what changes an owned object -/
def MuV (k : KX) (r : V → List V → Hp → VK → Prop) (f : D → List D → Option (D × D)) : Prop := ∀ F H a d vs ds d' e, Sub F H → F a = none → OwnAt k F H a d → RepL k F vs ds → f d ds = some (d', e) → ∀ Q : VK, (∀ o v, OwnAt k F (upd H a o) a d' → Rep k F v e → Q v (upd H a o)) → r (.ref a) vs H Q
def mutI (f : D → Option (D × D)) (i : Nat) : M D := fun δ => match δ[i]? with
  | some (.own d) => match f d with
    | some (d', e) => .ok e (δ.set i (.own d'))
    | none => .bad
  | some (.arg d) => match f d with
    | some (d', e) => .ok e (δ.set i (.arg d'))
    | none => .bad
  | _ => .bad
def mutM (T : String) (f : D → List D → Option (D × D)) (i : Nat) (ms : List (M D)) : M D := (pk i).bind fun d0 => if kindD T d0 then (evalC ms).bind fun ds => mutI (fun d => f d ds) i else badM
section
variable {X : Cx} {φ : Fx} {W : WX} {F F' H H' : Hp} {σ : L2.St} {δ : DEnv} {e ex : Expr} {es : List Expr} {Q : VK} {o : Opd} {os : List Opd} {ms : List (M D)} {name : Str} {apos cpos pos : Pos} {T id : String} {r : V → List V → Hp → VK → Prop}
theorem RepO.kind {k : KX} {v : V} {d : D} (ro : RepO k F H v d) (s : Sub F H) (h : kindD T d = true) : L2.tyV k.K T v H := by
  cases d with
  | lst xs => obtain ⟨a, vs, rfl, e, l⟩ := ro.lst s; exact .inl ⟨beq_iff_eq.mp h, vs, .of e⟩
  | scr xs => obtain ⟨a, vs, rfl, e, l⟩ := ro.scr s; exact .inl ⟨beq_iff_eq.mp h, vs, e⟩
  | str x => rw [ro.str]; exact beq_iff_eq.mp h
  | int x => rw [ro.int]; exact beq_iff_eq.mp h
  | dk xs => obtain ⟨a, vs, rfl, e, l⟩ := ro.dk s; exact .inr (.inr (.inl ⟨beq_iff_eq.mp h, .inl ⟨vs, e⟩⟩))
  | dt xs => obtain ⟨a, vs, rfl, e, l⟩ := ro.dt s; exact .inr (.inr (.inl ⟨beq_iff_eq.mp h, .inr ⟨vs, e⟩⟩))
  | _ => cases h
theorem tBM_V {f : D → List D → Option D} (hr : MeV φ.k r f) (hK : φ.k.K = X.K) (h : tM φ W (bmM T f o os) σ H Q) : tBM X.K T r (tO φ W o) (tAs φ W os) σ H Q := by
  obtain ⟨F, δ, g, q⟩ := h
  unfold bmM at q
  refine tO_run g q fun x v δ1 F1 H1 g1 s1 l1 q1 => ?_
  obtain ⟨d0, r0, q2⟩ := l1.now g1 q1
  rcases q2.ite with ⟨hk, q2⟩ | ⟨_, q2⟩
  · refine ⟨by rw [← hK]; exact r0.kind g1.fh hk, ?_⟩
    refine tAs_run g1 q2 fun xs vs δ2 F2 H2 g2 s2 l2 q3 => ?_
    obtain ⟨d, rd, q4⟩ := (l1.mono s2).now g2 q3
    obtain ⟨ds, rs, q5⟩ := l2.now g2 q4
    obtain ⟨e, he, q6⟩ := q5.lift
    exact hr F2 H2 v d vs ds e g2.fh rd rs he Q fun F' H' v' n rv => q6 F' H' (g2.new n) n.ff v' rv
  · exact q2.elim
theorem tBM_N {f : D → List D → Option D} (hr : MeN φ.k r f) (hK : φ.k.K = X.K) (h : tN φ W (bmM T f o os) σ H Q) : tBM X.K T r (tO φ W o) (tAs φ W os) σ H Q := by
  obtain ⟨F, δ, g, q⟩ := h
  unfold bmM at q
  refine tO_run g q fun x v δ1 F1 H1 g1 s1 l1 q1 => ?_
  obtain ⟨d0, r0, q2⟩ := l1.now g1 q1
  rcases q2.ite with ⟨hk, q2⟩ | ⟨_, q2⟩
  · refine ⟨by rw [← hK]; exact r0.kind g1.fh hk, ?_⟩
    refine tAs_run g1 q2 fun xs vs δ2 F2 H2 g2 s2 l2 q3 => ?_
    obtain ⟨d, rd, q4⟩ := (l1.mono s2).now g2 q3
    obtain ⟨ds, rs, q5⟩ := l2.now g2 q4
    obtain ⟨e, he, q6⟩ := q5.lift
    exact hr F2 H2 v d vs ds e g2.fh rd rs he Q fun F' H' p n h1 h2 w => q6 F' H' (g2.new n) n.ff p (g2.fresh h1 h2 w)
  · exact q2.elim
theorem d_bm0 {f : D → List D → Option D} (hr : MeV φ.k r f) (pa : PlainAttrs T) (slot : Slot T name id) (hty : typeOf (.builtin id) = pure (.type "method_descriptor")) (hm : MtR X id r) (ho : DO X φ W ex o) (hK : φ.k.K = X.K := by rfl)
    (hbase : attributeBase ex name X.env (eval ex X.env) = eval ex X.env := by rfl) (hline : (apos.endLine == cpos.line) = true := by rfl) : DE X φ W (.Call (.Attribute ex name apos) [] [] cpos) (bmM T f o []) :=
  PE.imp (pe_bm0 pa slot hty hm ho hbase hline) fun _ _ _ h => tBM_V (os := []) hr hK h
theorem d_bm {f : D → List D → Option D} (hr : MeV φ.k r f) (pa : PlainAttrs T) (slot : Slot T name id) (hty : typeOf (.builtin id) = pure (.type "method_descriptor")) (hm : MtR X id r) (ho : DO X φ W ex o) (ha : DA X φ W (e :: es) os) (hK : φ.k.K = X.K := by rfl)
    (hbase : attributeBase ex name X.env (eval ex X.env) = eval ex X.env := by rfl)
    (hfew : ((backTo cpos (starEach (e :: es) X.env)).all (fun x => !x.1) && (backToKw cpos (keywordEach [] X.env)).all (fun x => x.1.isSome)
      && decide ((e :: es).length + ([] : List Keyword).length + (if ([] : List Keyword).isEmpty then 0 else 1) < 30)) = true := by rfl)
    (hline : (apos.endLine == cpos.line) = true := by rfl) (hs : starEach (e :: es) X.env = (false, eval e X.env) :: starEach es X.env := by rfl) (hplain : (backTo cpos (starEach es X.env)).any (·.1) = false := by rfl) :
    DE X φ W (.Call (.Attribute ex name apos) (e :: es) [] cpos) (bmM T f o os) := PE.imp (pe_bm pa slot hty hm ho ha hbase hfew hline hs hplain) fun _ _ _ h => tBM_V hr hK h
theorem d_bm0N {f : D → List D → Option D} (hr : MeN φ.k r f) (pa : PlainAttrs T) (slot : Slot T name id) (hty : typeOf (.builtin id) = pure (.type "method_descriptor")) (hm : MtR X id r) (ho : DO X φ W ex o) (hK : φ.k.K = X.K := by rfl)
    (hbase : attributeBase ex name X.env (eval ex X.env) = eval ex X.env := by rfl) (hline : (apos.endLine == cpos.line) = true := by rfl) : DN X φ W (.Call (.Attribute ex name apos) [] [] cpos) (bmM T f o []) :=
  PE.imp (pe_bm0 pa slot hty hm ho hbase hline) fun _ _ _ h => tBM_N (os := []) hr hK h
/-- an owned slot's object is changed -/
theorem mutI_ok {α : Type} {i : Nat} {f : D → Option (D × D)} {g' : D → M α} {P : α → DEnv → Hp → Hp → Prop} (g : GI φ F H σ δ) (q : Out φ W σ F ((mutI f i).bind g' δ) P) :
    ∃ a d d' e, σ[i]? = some (some (.ref a)) ∧ F a = none ∧ OwnAt φ.k F H a d ∧ f d = some (d', e) ∧ ∀ o, OwnAt φ.k F (upd H a o) a d' → ∃ δ', GI φ F (upd H a o) σ δ' ∧ Out φ W σ F (g' e δ') P := by
  unfold M.bind mutI at q
  cases z : δ[i]? with
  | none => rw [z] at q; exact q.elim
  | some sd =>
    rw [z] at q
    cases sd with
    | own d =>
      obtain ⟨a, e1, f1, w, _⟩ := g.sl i _ z
      cases y : f d with
      | none => dsimp only at q; rw [y] at q; exact q.elim
      | some p =>
        obtain ⟨d', e⟩ := p
        dsimp only at q
        rw [y] at q
        exact ⟨a, d, d', e, e1, f1, w, y, fun o n => ⟨_, g.write z rfl e1 n, q⟩⟩
    | arg d =>
      obtain ⟨a, e1, f1, w, _⟩ := g.sl i _ z
      cases y : f d with
      | none => dsimp only at q; rw [y] at q; exact q.elim
      | some p =>
        obtain ⟨d', e⟩ := p
        dsimp only at q
        rw [y] at q
        exact ⟨a, d, d', e, e1, f1, w, y, fun o n => ⟨_, g.write z rfl e1 n, q⟩⟩
    | no => exact q.elim
    | val _ => exact q.elim
    | frz _ => exact q.elim
theorem mutI_fin {i : Nat} {f : D → Option (D × D)} {P : D → DEnv → Hp → Hp → Prop} (g : GI φ F H σ δ) (q : Out φ W σ F (mutI f i δ) P) :
    ∃ a d d' e, σ[i]? = some (some (.ref a)) ∧ F a = none ∧ OwnAt φ.k F H a d ∧ f d = some (d', e) ∧ ∀ o, OwnAt φ.k F (upd H a o) a d' → ∃ δ', GI φ F (upd H a o) σ δ' ∧ P e δ' F (upd H a o) := by
  have q' : Out φ W σ F ((mutI f i).bind M.pure δ) P := by
    unfold M.bind
    cases z : mutI f i δ with
    | ok a e => rw [z] at q; exact q
    | exc x e => rw [z] at q; exact q
    | bad => rw [z] at q; exact q
  obtain ⟨a, d, d', e, h1, h2, h3, h4, h5⟩ := mutI_ok g q'
  refine ⟨a, d, d', e, h1, h2, h3, h4, fun o w => ?_⟩
  obtain ⟨δ', g1, q1⟩ := h5 o w
  exact ⟨δ', g1, q1 F _ g1 (Sub.refl F)⟩
theorem pk_run {α : Type} {i : Nat} {f : D → M α} {P : α → DEnv → Hp → Hp → Prop} (g : GI φ F H σ δ) (q : Out φ W σ F ((pk i).bind f δ) P) : ∃ v d, σ[i]? = some (some v) ∧ RepO φ.k F H v d ∧ Out φ W σ F (f d δ) P := by
  rcases pk_bad (δ := δ) (i := i) with z | ⟨d, z⟩
  · unfold M.bind at q
    rw [z] at q
    exact q.elim
  · unfold M.bind at q
    rw [z] at q
    obtain ⟨_, sd, e1, e2⟩ := pk_ok z
    obtain ⟨v, e3, r⟩ := g.look e1 e2
    exact ⟨v, d, e3, r, q⟩
theorem tBM_mut {i : Nat} {f : D → List D → Option (D × D)} (hr : MuV φ.k r f) (hK : φ.k.K = X.K) (h : tM φ W (mutM T f i ms) σ H Q) : tBM X.K T r (tVar i) (tCs φ W ms) σ H Q := by
  obtain ⟨F, δ, g, q⟩ := h
  unfold mutM at q
  obtain ⟨v, d0, e0, r0, q1⟩ := pk_run g q
  rcases q1.ite with ⟨hk, q2⟩ | ⟨_, q2⟩
  · refine ⟨v, e0, by rw [← hK]; exact r0.kind g.fh hk, ?_⟩
    refine tCs_run g q2 fun ds vs δ1 F1 H1 g1 s1 l1 q3 => ?_
    obtain ⟨a, d, d', e, h1, h2, h3, h4, h5⟩ := mutI_fin g1 q3
    rw [e0] at h1
    cases h1
    refine hr F1 H1 a d vs ds d' e g1.fh h2 h3 l1 h4 Q fun o v w rv => ?_
    obtain ⟨δ', g2, q4⟩ := h5 o w
    exact q4 v rv
  · exact q2.elim
variable {x : Str} {pv : Pos}
theorem d_mut0 (i : Nat) {f : D → List D → Option (D × D)} (hr : MuV φ.k r f) (pa : PlainAttrs T) (slot : Slot T name id) (hty : typeOf (.builtin id) = pure (.type "method_descriptor")) (hm : MtR X id r) (hN : X.N[i]? = some x := by rfl) (hv : Vis X.env.scope x := by first | exact Or.inl rfl | exact Or.inr (Or.inl rfl) | exact Or.inr (Or.inr rfl))
    (hd : (x == ("__debug__" : Str)) = false := by decide) (hcd : (x == ("__classdict__" : Str)) = false := by decide) (hK : φ.k.K = X.K := by rfl)
    (hbase : attributeBase (.Name x pv) name X.env (eval (.Name x pv) X.env) = eval (.Name x pv) X.env := by rfl) (hline : (apos.endLine == cpos.line) = true := by rfl) : DE X φ W (.Call (.Attribute (.Name x pv) name apos) [] [] cpos) (mutM T f i []) :=
  PE.imp (pe_bm0 pa slot hty hm (pe_var hN hv hd hcd) hbase hline) fun _ _ _ h => tBM_mut (ms := []) hr hK h
theorem d_mut (i : Nat) {f : D → List D → Option (D × D)} (hr : MuV φ.k r f) (pa : PlainAttrs T) (slot : Slot T name id) (hty : typeOf (.builtin id) = pure (.type "method_descriptor")) (hm : MtR X id r) (ha : DC X φ W (e :: es) ms) (hN : X.N[i]? = some x := by rfl) (hv : Vis X.env.scope x := by first | exact Or.inl rfl | exact Or.inr (Or.inl rfl) | exact Or.inr (Or.inr rfl))
    (hd : (x == ("__debug__" : Str)) = false := by decide) (hcd : (x == ("__classdict__" : Str)) = false := by decide) (hK : φ.k.K = X.K := by rfl)
    (hbase : attributeBase (.Name x pv) name X.env (eval (.Name x pv) X.env) = eval (.Name x pv) X.env := by rfl)
    (hfew : ((backTo cpos (starEach (e :: es) X.env)).all (fun x => !x.1) && (backToKw cpos (keywordEach [] X.env)).all (fun x => x.1.isSome)
      && decide ((e :: es).length + ([] : List Keyword).length + (if ([] : List Keyword).isEmpty then 0 else 1) < 30)) = true := by rfl)
    (hline : (apos.endLine == cpos.line) = true := by rfl) (hs : starEach (e :: es) X.env = (false, eval e X.env) :: starEach es X.env := by rfl) (hplain : (backTo cpos (starEach es X.env)).any (·.1) = false := by rfl) :
    DE X φ W (.Call (.Attribute (.Name x pv) name apos) (e :: es) [] cpos) (mutM T f i ms) :=
  PE.imp (pe_bm pa slot hty hm (pe_var hN hv hd hcd) ha hbase hfew hline hs hplain) fun _ _ _ h => tBM_mut hr hK h

/-! ### lists -/
def appendD : D → List D → Option (D × D)
  | .lst xs, [d] => if shortS (xs.length + 1) then some (.lst (xs ++ [d]), .non) else none
  | _, _ => none
def extendD : D → List D → Option (D × D)
  | .lst xs, [.lst ys] => if shortS (xs.length + ys.length) then some (.lst (xs ++ ys), .non) else none
  | _, _ => none
def popD : D → List D → Option (D × D)
  | .lst xs, [] => (xs[xs.length - 1]?).map fun y => (.lst xs.dropLast, y)
  | _, _ => none
theorem mu_append {k : KX} : MuV k rAppend appendD := fun F H a d vs ds d' e s f w r h Q q => by
  unfold appendD at h
  split at h
  · rename_i xs d
    cases w with
    | @lst zs _ ha rl =>
      cases r with
      | @cons v _ vs _ r rs =>
        cases rs
        by_cases z : shortS (xs.length + 1) = true
        · rw [if_pos z] at h
          cases h
          have z' := of_decide_eq_true z
          exact ⟨a, zs, v, rfl, rfl, ha, by rw [rl.length]; exact z', q _ _ (.lst upd_same (rl.append (.cons r .nil))) .non⟩
        · rw [if_neg z] at h
          cases h
  · cases h
theorem mu_extend {k : KX} : MuV k rExtend extendD := fun F H a d vs ds d' e s f w r h Q q => by
  unfold extendD at h
  split at h
  · rename_i xs ys
    cases w with
    | @lst zs _ ha rl =>
      cases r with
      | @cons v _ vs _ r rs =>
        cases rs
        by_cases z : shortS (xs.length + ys.length) = true
        · rw [if_pos z] at h
          cases h
          have z' := of_decide_eq_true z
          cases r with
          | @lst b us _ hb rb =>
            exact ⟨a, b, zs, us, rfl, rfl, ha, s _ _ hb, by rw [rl.length, rb.length]; exact z', q _ _ (.lst upd_same (rl.append rb)) .non⟩
        · rw [if_neg z] at h
          cases h
  · cases h
theorem RepL.dropLast {k : KX} : ∀ {vs : List V} {ds : List D}, RepL k F vs ds → RepL k F vs.dropLast ds.dropLast
  | _, _, .nil => .nil
  | _, _, .cons h .nil => .nil
  | _, _, .cons h (.cons h2 r) => .cons h (RepL.dropLast (.cons h2 r))
theorem mu_pop {k : KX} : MuV k rPop popD := fun F H a d vs ds d' e s f w r h Q q => by
  unfold popD at h
  split at h
  · rename_i xs
    cases w with
    | @lst zs _ ha rl =>
      cases r
      cases z : xs[xs.length - 1]? with
      | none => rw [z] at h; cases h
      | some y =>
        rw [z] at h
        cases h
        obtain ⟨v, e1, rv⟩ := rl.get z
        exact ⟨a, zs, v, rfl, rfl, ha, by rw [rl.length]; exact e1, q _ _ (.lst upd_same rl.dropLast) rv⟩
  · cases h
theorem d_append (i : Nat) {m : M D} (he : DE X φ W e m) (hN : X.N[i]? = some x := by rfl) (hv : Vis X.env.scope x := by first | exact Or.inl rfl | exact Or.inr (Or.inl rfl) | exact Or.inr (Or.inr rfl))
    (hd : (x == ("__debug__" : Str)) = false := by decide) (hcd : (x == ("__classdict__" : Str)) = false := by decide) (hK : φ.k.K = X.K := by rfl)
    (hbase : attributeBase (.Name x pv) "append" X.env (eval (.Name x pv) X.env) = eval (.Name x pv) X.env := by rfl) (hs : starEach [e] X.env = (false, eval e X.env) :: starEach [] X.env := by rfl)
    (hfew : ((backTo cpos (starEach [e] X.env)).all (fun x => !x.1) && (backToKw cpos (keywordEach [] X.env)).all (fun x => x.1.isSome)
      && decide ([e].length + ([] : List Keyword).length + (if ([] : List Keyword).isEmpty then 0 else 1) < 30)) = true := by rfl) (hline : (apos.endLine == cpos.line) = true := by rfl) :
    DE X φ W (.Call (.Attribute (.Name x pv) "append" apos) [e] [] cpos) (mutM "list" appendD i [m]) :=
  d_mut i mu_append PySem.F.plainAttrs_list PySem.F.slot_list_append PySem.F.type_list_append mt_append (dc_cons he dc_nil hs) hN hv hd hcd hK hbase hfew hline hs rfl
theorem d_extend (i : Nat) {m : M D} (he : DE X φ W e m) (hN : X.N[i]? = some x := by rfl) (hv : Vis X.env.scope x := by first | exact Or.inl rfl | exact Or.inr (Or.inl rfl) | exact Or.inr (Or.inr rfl))
    (hd : (x == ("__debug__" : Str)) = false := by decide) (hcd : (x == ("__classdict__" : Str)) = false := by decide) (hK : φ.k.K = X.K := by rfl)
    (hbase : attributeBase (.Name x pv) "extend" X.env (eval (.Name x pv) X.env) = eval (.Name x pv) X.env := by rfl) (hs : starEach [e] X.env = (false, eval e X.env) :: starEach [] X.env := by rfl)
    (hfew : ((backTo cpos (starEach [e] X.env)).all (fun x => !x.1) && (backToKw cpos (keywordEach [] X.env)).all (fun x => x.1.isSome)
      && decide ([e].length + ([] : List Keyword).length + (if ([] : List Keyword).isEmpty then 0 else 1) < 30)) = true := by rfl) (hline : (apos.endLine == cpos.line) = true := by rfl) :
    DE X φ W (.Call (.Attribute (.Name x pv) "extend" apos) [e] [] cpos) (mutM "list" extendD i [m]) :=
  d_mut i mu_extend PySem.F.plainAttrs_list PySem.F.slot_list_extend PySem.F.type_list_extend mt_extend (dc_cons he dc_nil hs) hN hv hd hcd hK hbase hfew hline hs rfl
theorem d_pop (i : Nat) (hN : X.N[i]? = some x := by rfl) (hv : Vis X.env.scope x := by first | exact Or.inl rfl | exact Or.inr (Or.inl rfl) | exact Or.inr (Or.inr rfl))
    (hd : (x == ("__debug__" : Str)) = false := by decide) (hcd : (x == ("__classdict__" : Str)) = false := by decide) (hK : φ.k.K = X.K := by rfl)
    (hbase : attributeBase (.Name x pv) "pop" X.env (eval (.Name x pv) X.env) = eval (.Name x pv) X.env := by rfl) (hline : (apos.endLine == cpos.line) = true := by rfl) :
    DE X φ W (.Call (.Attribute (.Name x pv) "pop" apos) [] [] cpos) (mutM "list" popD i []) :=
  d_mut0 i mu_pop PySem.F.plainAttrs_list PySem.F.slot_list_pop PySem.F.type_list_pop mt_pop hN hv hd hcd hK hbase hline
end
end G
set_option maxRecDepth 100000
set_option maxHeartbeats 4000000
namespace G
open PySem PySem.Spec PyProof.Rows L2

/-! ### o[i] = .. -/
def SeV (k : KX) (t : TSet) (f : D → D → D → Option D) : Prop := ∀ F H a c y kd v d c', Sub F H → F a = none → OwnAt k F H a c → RepO k F H y kd → Rep k F v d → f c kd d = some c' → ∀ Q : Hp → Prop, (∀ o, OwnAt k F (upd H a o) a c' → Q (upd H a o)) → t (.ref a) y v H Q
def unitM (m : M D) : M Unit := m.bind fun _ => M.pure ()
def subT (f : D → D → D → Option D) (i : Nat) (oi : Opd) (d : D) : M Unit := (pk i).bind fun _ => oi.p1.bind fun x => (oi.p2 x).bind fun kd => unitM (mutI (fun c => (f c kd d).map fun c' => (c', .non)) i)
def setLD : D → D → D → Option D
  | .lst xs, .int j, d => (ixN xs.length j).map fun n => .lst (xs.set n d)
  | _, _, _ => none
def putD {κ : Type} [DecidableEq κ] (kds : List (κ × D)) (q : κ) (d : D) : List (κ × D) := if (kds.any fun kv => decide (kv.1 = q)) = true then kds.map (fun kv => if kv.1 = q then (kv.1, d) else kv) else kds ++ [(q, d)]
def setDD : D → D → D → Option D
  | .dk kds, y, d => (keyD y).bind fun q => if shortS (kds.length + 1) then some (.dk (putD kds q d)) else none
  | .dt kds, y, d => (tupKey y).bind fun q => if shortS (kds.length + 1) then some (.dt (putD kds q d)) else none
  | _, _, _ => none
def setLDD (c y d : D) : Option D := match setLD c y d with
  | some r => some r
  | none => setDD c y d
section
variable {X : Cx} {φ : Fx} {W : WX} {F F' H H' : Hp} {σ : L2.St} {δ : DEnv} {e ex : Expr} {es : List Expr} {Q : VK} {o : Opd} {os : List Opd} {ms : List (M D)} {name x : Str} {pv pos : Pos} {k : KX}
theorem GOut.at {r : R Unit} {Q : L2.St → Hp → Prop} (h : GOut φ W F r Q) (σ : L2.St) : Out φ W σ F r fun _ _ _ H' => Q σ H' := by
  cases r with
  | bad => exact h
  | exc x δ' => exact fun F1 H1 da g s1 x => h F1 H1 σ da g s1 x
  | ok f δ' => exact fun F1 H1 g s1 => h F1 H1 σ g s1
theorem dg_sub (i : Nat) {t : TSet} {f : D → D → D → Option D} (hr : SeV φ.k t f) (hs : PSet X t) (hi : DO X φ W e o) (hN : X.N[i]? = some x := by rfl) (hv : Vis X.env.scope x := by first | exact Or.inl rfl | exact Or.inr (Or.inl rfl) | exact Or.inr (Or.inr rfl))
    (hd : (x == ("__debug__" : Str)) = false := by decide) (hcd : (x == ("__classdict__" : Str)) = false := by decide)
    (ha : ∀ v, assign (.Subscript (.Name x pv) e pos) X.env v = (do
      let ov ← holding [v] (eval (.Name x pv) X.env)
      let iv ← holding [v, ov] (eval e X.env)
      standAt pos
      holding [v, ov, iv] (setItem ov iv v)
      release [v, ov, iv] []) := by intro _; rfl) : DG X φ W (.Subscript (.Name x pv) e pos) (subT f i o) := PG.imp (pg_sub (pe_var hN hv hd hcd) hi hs ha) fun v σ H Q q => by
  obtain ⟨F, δ, d, g, r, q⟩ := q
  have q := q.at σ
  unfold subT at q
  obtain ⟨v0, d0, e0, r0, q1⟩ := pk_run g q
  refine ⟨v0, e0, ?_⟩
  refine tO_run g q1 fun x v1 δ1 F1 H1 g1 s1 l1 q2 => ?_
  obtain ⟨kd, rk, q3⟩ := l1.now g1 q2
  unfold unitM at q3
  obtain ⟨a, c, c', e', h1, h2, h3, h4, h5⟩ := mutI_ok g1 q3
  rw [e0] at h1
  cases h1
  cases y : f c kd d with
  | none => rw [y] at h4; cases h4
  | some c2 =>
    rw [y] at h4
    cases h4
    refine hr F1 H1 a c v1 kd v d _ g1.fh h2 h3 rk (Rep.mono s1 r) y _ fun o w => ?_
    obtain ⟨δ', g2, q4⟩ := h5 o w
    exact q4 F1 _ g2 (Sub.refl F1)
theorem se_list : SeV k rSetL setLD := fun F H a c y kd v d c' s f w ry r h Q q => by
  cases w with
  | @lst zs xs ha rl =>
    cases kd with
    | int j =>
      change ((ixN xs.length j).map fun n => D.lst (xs.set n d)) = some c' at h
      cases z : ixN xs.length j with
      | none => rw [z] at h; cases h
      | some n =>
        rw [z] at h
        cases h
        exact ⟨a, zs, j, n, rfl, ry.int, ha, by rw [rl.length]; exact z, q _ (.lst upd_same (rl.set n r))⟩
    | _ => cases h
  | dk _ _ => cases h
  | dt _ _ => cases h
  | obj _ _ => cases h
theorem RepK.any : ∀ {vs : List (Key × V)} {ds : List (Key × D)} (p : Key → Bool), RepK k F vs ds → (vs.any fun kv => p kv.1) = ds.any fun kv => p kv.1
  | _, _, _, .nil => rfl
  | _, _, p, .cons _ r => by simp only [List.any_cons, RepK.any p r]
theorem RepT.any : ∀ {vs : List (List Key × V)} {ds : List (List Key × D)} (p : List Key → Bool), RepT k F vs ds → (vs.any fun kv => p kv.1) = ds.any fun kv => p kv.1
  | _, _, _, .nil => rfl
  | _, _, p, .cons _ r => by simp only [List.any_cons, RepT.any p r]
theorem RepK.map {q : Key} {v : V} {d : D} (rv : Rep k F v d) : ∀ {vs : List (Key × V)} {ds : List (Key × D)}, RepK k F vs ds → RepK k F (vs.map fun kv => if kv.1 = q then (kv.1, v) else kv) (ds.map fun kv => if kv.1 = q then (kv.1, d) else kv)
  | _, _, .nil => .nil
  | _, _, @RepK.cons _ _ p x y vs ds h r => by
    by_cases z : p = q
    · simp only [List.map_cons, if_pos z]
      exact .cons rv (RepK.map rv r)
    · simp only [List.map_cons, if_neg z]
      exact .cons h (RepK.map rv r)
theorem RepT.map {q : List Key} {v : V} {d : D} (rv : Rep k F v d) : ∀ {vs : List (List Key × V)} {ds : List (List Key × D)}, RepT k F vs ds → RepT k F (vs.map fun kv => if kv.1 = q then (kv.1, v) else kv) (ds.map fun kv => if kv.1 = q then (kv.1, d) else kv)
  | _, _, .nil => .nil
  | _, _, @RepT.cons _ _ p x y vs ds h r => by
    by_cases z : p = q
    · simp only [List.map_cons, if_pos z]
      exact .cons rv (RepT.map rv r)
    · simp only [List.map_cons, if_neg z]
      exact .cons h (RepT.map rv r)
theorem RepK.app : ∀ {vs us : List (Key × V)} {ds es : List (Key × D)}, RepK k F vs ds → RepK k F us es → RepK k F (vs ++ us) (ds ++ es)
  | _, _, _, _, .nil, s => s
  | _, _, _, _, .cons h r, s => .cons h (RepK.app r s)
theorem RepT.app : ∀ {vs us : List (List Key × V)} {ds es : List (List Key × D)}, RepT k F vs ds → RepT k F us es → RepT k F (vs ++ us) (ds ++ es)
  | _, _, _, _, .nil, s => s
  | _, _, _, _, .cons h r, s => .cons h (RepT.app r s)
theorem RepO.tkey {y : V} {d : D} {q : List Key} (ry : RepO k F H y d) (s : Sub F H) (hk : tupKey d = some q) : ∃ b, y = .ref b ∧ H b = some (.tup (q.map kV)) := by
  cases d with
  | tup ds =>
    obtain ⟨b, ws, rfl, e2, l2⟩ := ry.tup s
    rw [l2.keys hk] at e2
    exact ⟨b, rfl, e2⟩
  | _ => cases hk
theorem RepK.put {vs : List (Key × V)} {ds : List (Key × D)} {q : Key} {v : V} {d : D} (h : RepK k F vs ds) (r : Rep k F v d) : RepK k F (putK vs q v) (putD ds q d) := by
  unfold putK putD
  rw [h.any fun x => decide (x = q)]
  cases (ds.any fun kv => decide (kv.1 = q)) with
  | true => exact h.map r
  | false => exact h.app (.cons r .nil)
theorem RepT.put {vs : List (List Key × V)} {ds : List (List Key × D)} {q : List Key} {v : V} {d : D} (h : RepT k F vs ds) (r : Rep k F v d) : RepT k F (putK vs q v) (putD ds q d) := by
  unfold putK putD
  rw [h.any fun x => decide (x = q)]
  cases (ds.any fun kv => decide (kv.1 = q)) with
  | true => exact h.map r
  | false => exact h.app (.cons r .nil)
theorem se_dict : SeV k rSetD setDD := fun F H a c y kd v d c' s f w ry r h Q q => by
  cases w with
  | @dk vs ds ha rl =>
    change ((keyD kd).bind fun q => if shortS (ds.length + 1) = true then some (D.dk (putD ds q d)) else none) = some c' at h
    cases z : keyD kd with
    | none => rw [z] at h; cases h
    | some qk =>
      rw [z] at h
      change (if shortS (ds.length + 1) = true then some (D.dk (putD ds qk d)) else none) = _ at h
      by_cases z2 : shortS (ds.length + 1) = true
      · rw [if_pos z2] at h
        cases h
        refine ⟨a, _, rfl, .inl ⟨vs, qk, ha, ry.key z, ?_, rfl⟩, q _ (.dk upd_same (rl.put r))⟩
        have z3 := of_decide_eq_true z2
        rw [rl.length]
        exact z3
      · rw [if_neg z2] at h
        cases h
  | @dt vs ds ha rl =>
    change ((tupKey kd).bind fun q => if shortS (ds.length + 1) = true then some (D.dt (putD ds q d)) else none) = some c' at h
    cases z : tupKey kd with
    | none => rw [z] at h; cases h
    | some qk =>
      rw [z] at h
      change (if shortS (ds.length + 1) = true then some (D.dt (putD ds qk d)) else none) = _ at h
      by_cases z2 : shortS (ds.length + 1) = true
      · rw [if_pos z2] at h
        cases h
        obtain ⟨b, rfl, hb⟩ := ry.tkey s z
        refine ⟨a, _, rfl, .inr ⟨vs, qk, b, ha, rfl, hb, ?_, rfl⟩, q _ (.dt upd_same (rl.put r))⟩
        have z3 := of_decide_eq_true z2
        rw [rl.length]
        exact z3
      · rw [if_neg z2] at h
        cases h
  | lst _ _ => cases h
  | obj _ _ => cases h
theorem PSet.or {t u : TSet} (h : PSet X t) (h' : PSet X u) : PSet X fun o i v H Q => t o i v H Q ∨ u o i v H Q := by
  intro pins s σ H o i v ov iv w Q I r1 r2 r3 q
  rcases q with q | q
  · exact h pins s σ H o i v ov iv w Q I r1 r2 r3 q
  · exact h' pins s σ H o i v ov iv w Q I r1 r2 r3 q
theorem se_any : SeV k (fun o i v H Q => rSetL o i v H Q ∨ rSetD o i v H Q) setLDD := fun F H a c y kd v d c' s f w ry r h Q q => by
  unfold setLDD at h
  cases z : setLD c kd d with
  | some r' =>
    rw [z] at h
    cases h
    exact .inl (se_list F H a c y kd v d _ s f w ry r z Q q)
  | none =>
    rw [z] at h
    exact .inr (se_dict F H a c y kd v d c' s f w ry r h Q q)
theorem dg_ix (i : Nat) (hu : X.A.units + 1 < cLine) (hi : DO X φ W e o) (hN : X.N[i]? = some x := by rfl) (hv : Vis X.env.scope x := by first | exact Or.inl rfl | exact Or.inr (Or.inl rfl) | exact Or.inr (Or.inr rfl))
    (hd : (x == ("__debug__" : Str)) = false := by decide) (hcd : (x == ("__classdict__" : Str)) = false := by decide)
    (ha : ∀ v, assign (.Subscript (.Name x pv) e pos) X.env v = (do
      let ov ← holding [v] (eval (.Name x pv) X.env)
      let iv ← holding [v, ov] (eval e X.env)
      standAt pos
      holding [v, ov, iv] (setItem ov iv v)
      release [v, ov, iv] []) := by intro _; rfl) : DG X φ W (.Subscript (.Name x pv) e pos) (subT setLDD i o) := dg_sub i se_any (PSet.or set_list (set_dict hu)) hi hN hv hd hcd ha

/-! ### o.f = .. -/
def putFD (n : String) (d : D) : List (String × D) → List (String × D)
  | [] => [(n, d)]
  | (g, x) :: r => if g = n then (g, d) :: r else (g, x) :: putFD n d r
theorem RepF.put {n : String} {v : V} {d : D} (rv : Rep k F v d) : ∀ {vs : List (Str × V)} {ds : List (String × D)}, RepF k F vs ds → RepF k F (putF (Str.ofString n) v vs) (putFD n d ds)
  | _, _, .nil => .cons rv .nil
  | _, _, @RepF.cons _ _ g x y vs ds h r => by
    unfold putF putFD
    by_cases z : g = n
    · subst z
      rw [if_pos rfl, if_pos rfl]
      exact .cons rv r
    · rw [if_neg z, if_neg fun y => z (ofString_inj y)]
      exact .cons h (RepF.put rv r)
theorem RepF.length : ∀ {vs : List (Str × V)} {ds : List (String × D)}, RepF k F vs ds → vs.length = ds.length
  | _, _, .nil => rfl
  | _, _, .cons _ r => congrArg Nat.succ (RepF.length r)
def fldU (cs : List Nat) (n : String) (d : D) : D → Option (D × D)
  | .obj c fs => if cs.contains c && decide (fs.length < 1000) then some (.obj c (putFD n d fs), .non) else none
  | _ => none
def fldS (cs : List Nat) (n : String) (i : Nat) (m : M D) : M Fl := m.bind fun d => (mutI (fldU cs n d) i).bind fun _ => M.pure .nx
theorem ds_fld (n : String) (i : Nat) (cs : List Nat) {f : Str} {pos' : Pos} {value : Expr} {m : M D} (hn : f = Str.ofString n) (hc : ∀ c ∈ cs, Cls X.K (φ.k.cm c) ∧ NoAttr X.K (φ.k.cm c) f) (hv : DE X φ W value m) (hN : X.N[i]? = some x := by rfl) (hvv : Vis X.env.scope x := by first | exact Or.inl rfl | exact Or.inr (Or.inl rfl) | exact Or.inr (Or.inr rfl))
    (hd : (x == ("__debug__" : Str)) = false := by decide) (hcd : (x == ("__classdict__" : Str)) = false := by decide)
    (hs : swapsWith value (some (.Attribute (.Name x pv) f pos')) pos.line X.env = pure false := by rfl) : DS X φ W (.Assign [.Attribute (.Name x pv) f pos'] value pos) (fldS cs n i m) := PS.imp (ps_fld (pe_var hN hvv hd hcd) hv hs) fun D σ H q => by
  subst hn
  obtain ⟨F, δ, g, q⟩ := q
  refine tM_S g q fun d v δ1 F1 H1 g1 s1 r q1 => ?_
  obtain ⟨a, c, c', e', h1, h2, h3, h4, h5⟩ := mutI_fin g1 (SOut.bind (σ := σ) q1)
  refine ⟨_, h1, ?_⟩
  cases h3 with
  | @obj cc dx fvs fs hH rf =>
    change (if cs.contains cc && decide (fs.length < 1000) then some (G.D.obj cc (putFD n d fs), G.D.non) else none) = _ at h4
    cases z : (cs.contains cc && decide (fs.length < 1000)) with
    | false => rw [z] at h4; cases h4
    | true =>
      rw [z] at h4
      cases h4
      rw [Bool.and_eq_true] at z
      have hm := hc cc (by simpa using z.1)
      obtain ⟨δ', g2, q2⟩ := h5 (.ins (φ.k.cm cc) dx (putF (Str.ofString n) v fvs)) (.obj upd_same (rf.put r))
      exact ⟨a, _, dx, fvs, rfl, hH, hm.1, hm.2, by rw [rf.length]; exact of_decide_eq_true z.2, q2 F1 _ σ g2 (Sub.refl F1)⟩
  | lst _ _ => cases h4
  | dk _ _ => cases h4
  | dt _ _ => cases h4

/-! ### what is never reached -/
theorem ds_never {st : Stmt} : DS X φ W st badM := ⟨fun pins s σ H D I h => by obtain ⟨F, δ, g, q⟩ := h; exact q.elim⟩
theorem d_never : DE X φ W e badM := ⟨fun pins s σ H D I h => by obtain ⟨F, δ, g, q⟩ := h; exact q.elim⟩

/-! ### name op= e: ints, texts -/
def augS (f : D → D → Option D) (i : Nat) (m : M D) : M Fl := (pk i).bind fun x => m.bind fun y => (lift (f x y)).bind fun z => (storeM i z).bind fun _ => M.pure .nx
end
end G
set_option maxRecDepth 100000
set_option maxHeartbeats 4000000
namespace G
open PySem PySem.Spec PyProof.Rows L2

/-! ### what a loop walks -/
structure ItOk (k : KX) (F : Hp) (J : It) (ds : List D) : Prop where
  go : ∀ (i : Nat) (H : Hp), i < ds.length → Sub F H → J.go i H
  stop : ∀ (i : Nat) (H : Hp), ds.length ≤ i → Sub F H → J.stop i H
  yld : ∀ (i : Nat) (F1 H : Hp) (x : V) (H' : Hp) (d : D), ds[i]? = some d → Sub F F1 → Sub F1 H → J.yld i H x H' → ∃ F2, New F1 H F2 H' ∧ Rep k F2 x d
theorem ItOk.mono {k : KX} {F F' : Hp} {J : It} {ds : List D} (h : ItOk k F J ds) (s : Sub F F') : ItOk k F' J ds :=
  ⟨fun i H l e => h.go i H l (s.trans e), fun i H l e => h.stop i H l (s.trans e), fun i F1 H x H' d e s1 s2 => h.yld i F1 H x H' d e (s.trans s1) s2⟩
def tI (φ : Fx) (W : WX) (m : M (List D)) : TI := fun σ H R => ∃ F δ, GI φ F H σ δ ∧ Out φ W σ F (m δ) fun ds _ F' H' => ∀ J, ItOk φ.k F' J ds → R J H'
abbrev DI (X : Cx) (φ : Fx) (W : WX) (tg iter : Expr) (m : M (List D)) : Prop := PI X tg iter (tI φ W m)
theorem PI.imp {X : Cx} {tg iter : Expr} {w w' : TI} (h : PI X tg iter w) (i : ∀ σ H R, w' σ H R → w σ H R) : PI X tg iter w' := ⟨fun pins s σ H R I hw => h.run pins s σ H R I (i σ H R hw)⟩
def lstItM (m : M D) : M (List D) := m.bind fun d => match d with
  | .lst xs => M.pure xs
  | .scr xs => M.pure xs
  | _ => badM
def tupItM (m : M D) : M (List D) := m.bind fun d => match d with
  | .tup xs => M.pure xs
  | _ => badM
def strItM (m : M D) : M (List D) := m.bind fun d => match d with
  | .str x => M.pure (x.cps.toList.map fun c => .str ⟨#[c]⟩)
  | _ => badM
def rangeL (lo hi : Int) : List D := (List.range (hi - lo).toNat).map fun (i : Nat) => D.int (lo + (i : Int))
def okR (i : Int) : Bool := decide (-(2 ^ 62) ≤ i ∧ i < 2 ^ 62)
def rng1M (o : Opd) : M (List D) := o.p1.bind fun x => (o.p2 x).bind fun d => match d with
  | .int j => if okR j then M.pure (rangeL 0 j) else badM
  | _ => badM
def rng2D : D → D → Option (List D)
  | .int i, .int j => if okR i && okR j then some (rangeL i j) else none
  | _, _ => none
def rng2M (o u : Opd) : M (List D) := o.p1.bind fun x => u.p1.bind fun y => (o.p2 x).bind fun d => (u.p2 y).bind fun e => lift (rng2D d e)
def enumL : Nat → List D → List D
  | _, [] => []
  | n, d :: ds => .tup [.int (n : Int), d] :: enumL (n + 1) ds
def enumM (m : M D) : M (List D) := m.bind fun d => match d with
  | .lst xs => M.pure (enumL 0 xs)
  | .scr xs => M.pure (enumL 0 xs)
  | _ => badM
def zipL : List D → List D → List D
  | d :: ds, e :: es => .tup [d, e] :: zipL ds es
  | _, _ => []
def listsOf : D → Option (List D)
  | .lst xs => some xs
  | .scr xs => some xs
  | _ => none
def zipM (m u : M D) : M (List D) := m.bind fun d => u.bind fun e => match listsOf d, listsOf e with
  | some xs, some ys => M.pure (zipL xs ys)
  | _, _ => badM
section
variable {X : Cx} {φ : Fx} {W : WX} {F F' H H' : Hp} {σ : L2.St} {δ : DEnv} {tg e : Expr} {m : M D} {k : KX} {pos p : Pos} {o u : Opd}
theorem it_list {a : Addr} {vs : List V} {ds : List D} (e : ∀ H, Sub F H → SqL k.K H a vs) (l : RepL k F vs ds) : ItOk k F (Itl k.K a) ds := by
  refine ⟨fun i H hi s => ?_, fun i H hi s => ⟨vs, e H s, by rw [l.length]; exact hi⟩, fun i F1 H x H' d hd s1 s2 y => ?_⟩
  · have hi' : i < vs.length := by rw [l.length]; exact hi
    exact ⟨vs, vs[i], e H s, List.getElem?_eq_getElem hi'⟩
  · obtain ⟨rfl, y⟩ := y
    obtain ⟨v, hv, r⟩ := l.get hd
    have := y vs (e _ (s1.trans s2))
    rw [hv] at this
    cases this
    exact ⟨F1, New.refl s2, Rep.mono s1 r⟩
theorem it_tup {a : Addr} {vs : List V} {ds : List D} (e : ∀ H, Sub F H → SqT k.K H a vs) (l : RepL k F vs ds) : ItOk k F (Itt k.K a) ds := by
  refine ⟨fun i H hi s => ?_, fun i H hi s => ⟨vs, e H s, by rw [l.length]; exact hi⟩, fun i F1 H x H' d hd s1 s2 y => ?_⟩
  · have hi' : i < vs.length := by rw [l.length]; exact hi
    exact ⟨vs, vs[i], e H s, List.getElem?_eq_getElem hi'⟩
  · obtain ⟨rfl, y⟩ := y
    obtain ⟨v, hv, r⟩ := l.get hd
    have := y vs (e _ (s1.trans s2))
    rw [hv] at this
    cases this
    exact ⟨F1, New.refl s2, Rep.mono s1 r⟩
/-- a list that is kept: its address -/
theorem Rep.lstOf {v : V} {d : D} {xs : List D} (r : Rep k F v d) (h : listsOf d = some xs) : ∃ a vs, v = .ref a ∧ (∀ H, Sub F H → SqL k.K H a vs) ∧ RepL k F vs xs := by
  cases d with
  | lst ys =>
    cases h
    cases r with
    | @lst a vs _ e l => exact ⟨a, vs, rfl, fun H s => .of (s _ _ e), l⟩
  | scr ys =>
    cases h
    cases r with
    | @scr a vs _ e l => exact ⟨a, vs, rfl, fun H s => s.sq e, l⟩
  | _ => cases h
theorem lstItM_eq (m : M D) : lstItM m = m.bind fun d => lift (listsOf d) := by
  unfold lstItM
  congr 1
  funext d
  cases d <;> rfl
theorem di_list (he : DE X φ W e m) (hK : φ.k.K = X.K := by rfl) : DI X φ W tg e (lstItM m) := PI.imp (pi_list he) fun σ H R h => by
  obtain ⟨F, δ, g, q⟩ := h
  rw [lstItM_eq] at q
  refine tM_run g q fun d v δ1 F1 H1 g1 s1 r q1 => ?_
  obtain ⟨xs, hx, q2⟩ := q1.lift
  obtain ⟨a, vs, rfl, e1, l⟩ := r.lstOf hx
  rw [← hK]
  exact ⟨a, rfl, ⟨vs, e1 _ g1.fh⟩, q2 F1 H1 g1 (Sub.refl F1) _ (it_list e1 l)⟩
theorem di_tup (he : DE X φ W e m) (hK : φ.k.K = X.K := by rfl) : DI X φ W tg e (tupItM m) := PI.imp (pi_tup he) fun σ H R h => by
  obtain ⟨F, δ, g, q⟩ := h
  refine tM_run g q fun d v δ1 F1 H1 g1 s1 r q1 => ?_
  cases d with
  | tup xs =>
    cases r with
    | @tup a vs _ e l =>
      rw [← hK]
      exact ⟨a, rfl, ⟨vs, .of (g1.fh _ _ e)⟩, q1 F1 H1 g1 (Sub.refl F1) _ (it_tup (fun H s => .of (s _ _ e)) l)⟩
  | _ => exact q1.elim
theorem di_str (he : DE X φ W e m) : DI X φ W tg e (strItM m) := PI.imp (pi_str he) fun σ H R h => by
  obtain ⟨F, δ, g, q⟩ := h
  refine tM_run g q fun d v δ1 F1 H1 g1 s1 r q1 => ?_
  cases d with
  | str x =>
    cases r
    refine ⟨x, rfl, q1 F1 H1 g1 (Sub.refl F1) _ ⟨fun i H hi s => ?_, fun i H hi s => ?_, fun i F1 H x' H' d hd s1 s2 y => ?_⟩⟩
    · simpa [Its] using hi
    · simpa [Its] using hi
    · obtain ⟨rfl, c, hc, rfl⟩ := y
      refine ⟨F1, New.refl s2, ?_⟩
      rw [List.getElem?_map, Array.getElem?_toList, hc] at hd
      cases hd
      exact .str
  | _ => exact q1.elim
theorem it_range {lo hi : Int} : ItOk k F (Itr lo (hi - lo).toNat) (rangeL lo hi) := by
  refine ⟨fun i H hi s => ?_, fun i H hi s => ?_, fun i F1 H x' H' d hd s1 s2 y => ?_⟩
  · simpa [Itr, rangeL] using hi
  · simpa [Itr, rangeL] using hi
  · obtain ⟨rfl, rfl⟩ := y
    refine ⟨F1, New.refl s2, ?_⟩
    unfold rangeL at hd
    rw [List.getElem?_map] at hd
    cases z : (List.range (hi - lo).toNat)[i]? with
    | none => rw [z] at hd; cases hd
    | some j =>
      rw [z] at hd
      have := List.getElem?_range (n := (hi - lo).toNat) (i := i) (by
        have := (List.getElem?_eq_some_iff.mp z).1
        simpa using this)
      rw [z] at this
      cases this
      cases hd
      exact .int
theorem okR_ok {i : Int} (h : okR i = true) : -(2 ^ 62) ≤ i ∧ i < 2 ^ 62 := of_decide_eq_true h
theorem di_range1 (hg : Gl X "range") (hm : X.mg "range" = none) (he : DO X φ W e o) (hs : starEach [e] X.env = [(false, eval e X.env)] := by rfl) : DI X φ W tg (.Call (.Name "range" p) [e] [] pos) (rng1M o) := PI.imp (pi_range1 hg hm (pa_cons he pa_nil hs) hs) fun σ H R h => by
  obtain ⟨F, δ, g, q⟩ := h
  refine tO_run g q fun x v δ1 F1 H1 g1 s1 l1 q1 => ?_
  obtain ⟨d, r, q2⟩ := l1.now g1 q1
  cases d with
  | int j =>
    rcases q2.ite with ⟨hz, q3⟩ | ⟨_, q3⟩
    · have hb := okR_ok hz
      have ev := r.int
      subst ev
      refine ⟨j, rfl, hb.1, hb.2, ?_⟩
      have := it_range (k := φ.k) (F := F1) (lo := 0) (hi := j)
      rw [Int.sub_zero] at this
      exact q3 F1 H1 g1 (Sub.refl F1) _ this
    · exact q3.elim
  | _ => exact q2.elim
theorem di_range2 {e2 : Expr} (hg : Gl X "range") (hm : X.mg "range" = none) (he : DO X φ W e o) (he2 : DO X φ W e2 u) (hs : starEach [e, e2] X.env = [(false, eval e X.env), (false, eval e2 X.env)] := by rfl) (hs2 : starEach [e2] X.env = [(false, eval e2 X.env)] := by rfl) :
    DI X φ W tg (.Call (.Name "range" p) [e, e2] [] pos) (rng2M o u) := PI.imp (pi_range2 hg hm (pa_cons he (pa_cons he2 pa_nil hs2) (by rw [hs, hs2])) hs hs2) fun σ H R h => by
  obtain ⟨F, δ, g, q⟩ := h
  refine tO_run g q fun x v δ1 F1 H1 g1 s1 l1 q1 => ?_
  refine tO_run g1 q1 fun y w δ2 F2 H2 g2 s2 l2 q2 => ?_
  obtain ⟨d, r, q3⟩ := (l1.mono s2).now g2 q2
  obtain ⟨d2, r2, q4⟩ := l2.now g2 q3
  obtain ⟨xs, hx, q5⟩ := q4.lift
  unfold rng2D at hx
  split at hx
  · rename_i i j
    cases z : (okR i && okR j) with
    | false => rw [z] at hx; cases hx
    | true =>
      rw [z] at hx
      cases hx
      rw [Bool.and_eq_true] at z
      have hb := okR_ok z.1
      have hb2 := okR_ok z.2
      have ev := r.int
      subst ev
      have ev := r2.int
      subst ev
      exact ⟨i, j, rfl, ⟨hb.1, hb.2, hb2.1, hb2.2⟩, q5 F2 H2 g2 (Sub.refl F2) _ it_range⟩
  · cases hx
theorem enumL_get : ∀ {n : Nat} {ds : List D} {i : Nat}, (enumL n ds)[i]? = (ds[i]?).map fun d => D.tup [.int ((n + i : Nat) : Int), d]
  | n, [], i => by simp [enumL]
  | n, d :: ds, 0 => by simp [enumL]
  | n, d :: ds, i + 1 => by
    simp only [enumL, List.getElem?_cons_succ]
    rw [enumL_get]
    congr 1
    funext d
    have : n + 1 + i = n + (i + 1) := by omega
    rw [this]
theorem enumL_length : ∀ {n : Nat} {ds : List D}, (enumL n ds).length = ds.length
  | n, [] => rfl
  | n, d :: ds => congrArg Nat.succ (enumL_length (n := n + 1) (ds := ds))
theorem zipL_get : ∀ {xs ys : List D} {i : Nat} {d : D}, (zipL xs ys)[i]? = some d → ∃ x y, xs[i]? = some x ∧ ys[i]? = some y ∧ d = .tup [x, y]
  | [], ys, i, d, h => by simp [zipL] at h
  | x :: xs, [], i, d, h => by simp [zipL] at h
  | x :: xs, y :: ys, 0, d, h => by
    simp [zipL] at h
    exact ⟨x, y, rfl, rfl, h.symm⟩
  | x :: xs, y :: ys, i + 1, d, h => by
    simp only [zipL, List.getElem?_cons_succ] at h
    obtain ⟨a, b, h1, h2, h3⟩ := zipL_get h
    exact ⟨a, b, by simpa using h1, by simpa using h2, h3⟩
theorem zipL_length : ∀ {xs ys : List D}, (zipL xs ys).length = min xs.length ys.length
  | [], ys => by simp [zipL]
  | x :: xs, [] => by simp [zipL]
  | x :: xs, y :: ys => by
    simp only [zipL, List.length_cons, zipL_length]
    omega
theorem enumM_eq (m : M D) : enumM m = m.bind fun d => (lift (listsOf d)).bind fun xs => M.pure (enumL 0 xs) := by
  unfold enumM
  congr 1
  funext d
  cases d <;> rfl
theorem pa_DE (he : DE X φ W e m) (hs : starEach [e] X.env = [(false, eval e X.env)]) : PA X [e] (tCs φ W [m]) := dc_cons he dc_nil hs
theorem di_enum {elts : List Expr} {kk : Nat} {tpos : Pos} (hg : Gl X "enumerate") (hm : X.mg "enumerate" = none) (he : DE X φ W e m) (hK : φ.k.K = X.K := by rfl) (hs : starEach [e] X.env = [(false, eval e X.env)] := by rfl) :
    DI X φ W (.Tuple elts kk tpos) (.Call (.Name "enumerate" p) [e] [] pos) (enumM m) := PI.imp (pi_enum hg hm (pa_DE he hs) hs) fun σ H R h => by
  obtain ⟨F, δ, g, q⟩ := h
  rw [enumM_eq] at q
  refine tM_run g q fun d v δ1 F1 H1 g1 s1 r q1 => ?_
  have q1' : Out φ W σ F1 (((lift (listsOf d)).bind fun xs => M.pure (enumL 0 xs)) δ1) _ := q1
  have : ∃ xs, listsOf d = some xs ∧ Out φ W σ F1 (.ok (enumL 0 xs) δ1) fun ds _ F' H' => ∀ J, ItOk φ.k F' J ds → R J H' := by
    unfold M.bind lift at q1'
    cases z : listsOf d with
    | none => rw [z] at q1'; exact q1'.elim
    | some xs => rw [z] at q1'; exact ⟨xs, rfl, q1'⟩
  obtain ⟨xs, hx, q2⟩ := this
  obtain ⟨a, vs, rfl, e1, l⟩ := r.lstOf hx
  rw [← hK]
  refine ⟨a, vs, rfl, e1 _ g1.fh, q2 F1 H1 g1 (Sub.refl F1) _ ⟨fun i H hi s => ?_, fun i H hi s => ⟨vs, e1 H s, ?_⟩, fun i F2 H x H' d hd s2 s3 y => ?_⟩⟩
  · rw [enumL_length, ← l.length] at hi
    exact ⟨vs, vs[i], e1 H s, List.getElem?_eq_getElem hi⟩
  · rw [enumL_length, ← l.length] at hi
    exact hi
  · obtain ⟨T, x0, rfl, hT, rfl, y⟩ := y
    rw [enumL_get] at hd
    cases z : xs[i]? with
    | none => rw [z] at hd; cases hd
    | some d0 =>
      rw [z] at hd
      cases hd
      obtain ⟨v, hv, rv⟩ := l.get z
      have := y vs (e1 _ (s2.trans s3))
      rw [hv] at this
      cases this
      have n := New.froze (o := .tup [.int (i : Nat), x0]) s3 hT
      refine ⟨_, n, .tup upd_same (.cons ?_ (.cons (Rep.mono (s2.trans n.ff) rv) .nil))⟩
      rw [Nat.zero_add]
      exact .int
theorem zipM_eq (m u : M D) : zipM m u = m.bind fun d => u.bind fun e => (lift (listsOf d)).bind fun xs => (lift (listsOf e)).bind fun ys => M.pure (zipL xs ys) := by
  unfold zipM
  congr 1
  funext d
  congr 1
  funext e
  cases z : listsOf d with
  | none => rfl
  | some xs => cases y : listsOf e <;> rfl
theorem Out.liftB {α β : Type} {o : Option α} {f : α → M β} {P : β → DEnv → Hp → Hp → Prop} (h : Out φ W σ F (((G.lift o).bind f) δ) P) : ∃ x, o = some x ∧ Out φ W σ F (f x δ) P := by
  unfold M.bind G.lift at h
  cases o with
  | none => exact h.elim
  | some x => exact ⟨x, rfl, h⟩
theorem di_zip {e2 : Expr} {m2 : M D} {elts : List Expr} {kk : Nat} {tpos : Pos} (hg : Gl X "zip") (hm : X.mg "zip" = none) (he : DE X φ W e m) (he2 : DE X φ W e2 m2) (hK : φ.k.K = X.K := by rfl) (hs : starEach [e, e2] X.env = (false, eval e X.env) :: starEach [e2] X.env := by rfl)
    (hs2 : starEach [e2] X.env = [(false, eval e2 X.env)] := by rfl) (hpl : (backTo pos (starEach [e2] X.env)).any (·.1) = false := by rfl) :
    DI X φ W (.Tuple elts kk tpos) (.Call (.Name "zip" p) [e, e2] [] pos) (zipM m m2) := PI.imp (pi_zip hg hm (dc_cons he (dc_cons he2 dc_nil hs2) hs) hs hpl) fun σ H R h => by
  obtain ⟨F, δ, g, q⟩ := h
  rw [zipM_eq] at q
  refine tM_run g q fun d v δ1 F1 H1 g1 s1 r q1 => ?_
  refine tM_run g1 q1 fun d2 v2 δ2 F2 H2 g2 s2 r2 q2 => ?_
  obtain ⟨xs, hx, q3⟩ := q2.liftB
  obtain ⟨ys, hy, q4⟩ := q3.liftB
  obtain ⟨a, vs, rfl, e1, l⟩ := (Rep.mono s2 r).lstOf hx
  obtain ⟨b, us, rfl, e2, l2⟩ := r2.lstOf hy
  rw [← hK]
  refine ⟨a, b, vs, us, rfl, e1 _ g2.fh, e2 _ g2.fh, q4 F2 H2 g2 (Sub.refl F2) _ ⟨fun i H hi s => ?_, fun i H hi s => ⟨vs, us, e1 H s, e2 H s, ?_⟩, fun i F3 H x H' d hd s3 s4 y => ?_⟩⟩
  · rw [zipL_length, ← l.length, ← l2.length] at hi
    exact ⟨vs, us, vs[i]'(by omega), us[i]'(by omega), e1 H s, e2 H s, List.getElem?_eq_getElem _, List.getElem?_eq_getElem _⟩
  · rw [zipL_length, ← l.length, ← l2.length] at hi
    omega
  · obtain ⟨T, x0, y0, rfl, hT, rfl, y1, y2⟩ := y
    obtain ⟨d1, d2, h1, h2, rfl⟩ := zipL_get hd
    obtain ⟨v1, hv1, rv1⟩ := l.get h1
    obtain ⟨v2, hv2, rv2⟩ := l2.get h2
    have := y1 vs (e1 _ (s3.trans s4))
    rw [hv1] at this
    cases this
    have := y2 us (e2 _ (s3.trans s4))
    rw [hv2] at this
    cases this
    have n := New.froze (o := .tup [x0, y0]) s4 hT
    exact ⟨_, n, .tup upd_same (.cons (Rep.mono (s3.trans n.ff) rv1) (.cons (Rep.mono (s3.trans n.ff) rv2) .nil))⟩
end
end G
set_option maxRecDepth 100000
set_option maxHeartbeats 4000000
namespace G
open PySem PySem.Spec PyProof.Rows L2

/-! ### for -/
def forLoop (t : D → M Unit) (b u : M Fl) : List D → M Fl
  | [] => u
  | d :: ds => fun δ => match t d δ with
    | .ok _ δ1 => match b δ1 with
      | .ok .nx δ2 => forLoop t b u ds δ2
      | .ok .ct δ2 => forLoop t b u ds δ2
      | .ok .bk δ2 => .ok .nx δ2
      | .ok (.rt r) δ2 => .ok (.rt r) δ2
      | .exc x δ2 => .exc x δ2
      | .bad => .bad
    | .exc x δ1 => .exc x δ1
    | .bad => .bad
def forS (m : M (List D)) (t : D → M Unit) (b u : M Fl) : M Fl := m.bind fun ds => forLoop t b u ds
/-- at most n turns -/
def whileLoop (c : M Bool) (b u : M Fl) : Nat → M Fl
  | 0 => badM
  | n + 1 => fun δ => match c δ with
    | .ok true δ1 => match b δ1 with
      | .ok .nx δ2 => whileLoop c b u n δ2
      | .ok .ct δ2 => whileLoop c b u n δ2
      | .ok .bk δ2 => .ok .nx δ2
      | .ok (.rt r) δ2 => .ok (.rt r) δ2
      | .exc x δ2 => .exc x δ2
      | .bad => .bad
    | .ok false δ1 => u δ1
    | .exc x δ1 => .exc x δ1
    | .bad => .bad
def whileS (n : Nat) (c : M Bool) (b u : M Fl) : M Fl := whileLoop c b u n
section
variable {X : Cx} {φ : Fx} {W : WX} {F F' H H' : Hp} {σ : L2.St} {δ : DEnv} {D : Ends} {tg iter : Expr} {body orelse : List Stmt} {mi : M (List G.D)} {t : G.D → M Unit} {b u : M Fl} {pos : Pos}
theorem for_turn {ds : List G.D} {d : G.D} (g : GI φ F H σ δ) {x : V} (r : Rep φ.k F x d) (q : SOut φ W F (forLoop t b u (d :: ds) δ) D) {N : L2.St → Hp → Prop} (hN : ∀ F3 σ3 H3 δ3, GI φ F3 H3 σ3 δ3 → Sub F F3 → SOut φ W F3 (forLoop t b u ds δ3) D → N σ3 H3) :
    tG φ W t x σ H fun σ2 H2 => tS φ W b { D with nx := N, ct := N, bk := D.nx } σ2 H2 := by
  refine ⟨F, δ, d, g, r, ?_⟩
  unfold forLoop at q
  cases z : t d δ with
  | bad => rw [z] at q; exact q
  | exc y δ1 => rw [z] at q; exact fun F1 H1 σ1 da g1 s1 xa => q F1 H1 σ1 da g1 s1 xa
  | ok y δ1 =>
    rw [z] at q
    refine fun F1 H1 σ1 g1 s1 => ⟨F1, δ1, g1, ?_⟩
    dsimp only at q
    cases zb : b δ1 with
    | bad => rw [zb] at q; exact q
    | exc y δ2 => rw [zb] at q; exact SOut.mono q s1
    | ok fl δ2 =>
      rw [zb] at q
      cases fl with
      | nx => exact fun F2 H2 σ2 g2 s2 => hN F2 σ2 H2 δ2 g2 (s1.trans s2) (SOut.mono q (s1.trans s2))
      | ct => exact fun F2 H2 σ2 g2 s2 => hN F2 σ2 H2 δ2 g2 (s1.trans s2) (SOut.mono q (s1.trans s2))
      | bk => exact SOut.mono q s1
      | rt r => exact SOut.mono q s1
theorem ds_forE (hp : PassesOwn (model X.prog X.w) X.A X.env X.xe) (hc : X.calm = true) (hi : DI X φ W tg iter mi) (hg : DG X φ W tg t) (hb : DSs X φ W body b) (ho : DSs X φ W orelse u)
    (hs : ∀ x, foldedSetIterable iter X.env x = pure x := by intro _; rfl) : DS X φ W (.For tg iter body orelse pos) (forS mi t b u) := PS.imp (ps_forE hp hc hi hg hb ho hs) fun D σ H q => by
  obtain ⟨F, δ, g, q⟩ := q
  refine ⟨F, δ, g, (SOut.bind (σ := σ) q).mono (Sub.refl F) fun ds δ1 F1 H1 g1 s1 q1 J it => ?_⟩
  refine ⟨fun i n σ' H' => ∃ F2 δ2, GI φ F2 H' σ' δ2 ∧ Sub F1 F2 ∧ n = ds.length - i ∧ SOut φ W F2 (forLoop t b u (ds.drop i) δ2) D, ⟨_, F1, δ1, g1, Sub.refl F1, rfl, q1⟩, ?_⟩
  rintro i n σ' H' ⟨F2, δ2, g2, s2, hn, q2⟩
  by_cases hi : i < ds.length
  · refine .inr ⟨it.go i H' hi (s2.trans g2.fh), fun σ3 H3 => ∃ F3 δ3, GI φ F3 H3 σ3 δ3 ∧ Sub F1 F3 ∧ SOut φ W F3 (forLoop t b u (ds.drop (i + 1)) δ3) D, ?_, fun x H3 y => ?_⟩
    · rintro σ3 H3 ⟨F3, δ3, g3, s3, q3⟩
      exact ⟨ds.length - (i + 1), by omega, F3, δ3, g3, s3, rfl, q3⟩
    · obtain ⟨F3, n3, r3⟩ := it.yld i F2 H' x H3 ds[i] (List.getElem?_eq_getElem hi) s2 g2.fh y
      rw [List.drop_eq_getElem_cons hi] at q2
      refine for_turn (g2.new n3) r3 (SOut.mono q2 n3.ff) fun F4 σ4 H4 δ4 g4 s4 q4 => ⟨F4, δ4, g4, (s2.trans n3.ff).trans s4, q4⟩
  · refine .inl ⟨it.stop i H' (by omega) (s2.trans g2.fh), ?_⟩
    rw [List.drop_eq_nil_of_le (by omega)] at q2
    exact ⟨F2, δ2, g2, q2⟩
theorem ds_for (hp : PassesOwn (model X.prog X.w) X.A X.env X.xe) (hc : X.calm = true) (hi : DI X φ W tg iter mi) (hg : DG X φ W tg t) (hb : DSs X φ W body b)
    (hs : ∀ x, foldedSetIterable iter X.env x = pure x := by intro _; rfl) : DS X φ W (.For tg iter body [] pos) (forS mi t b passS) := ds_forE hp hc hi hg hb dss_nil hs
theorem ds_whileE (n : Nat) {c : Expr} {mc : M Bool} (hp : PassesOwn (model X.prog X.w) X.A X.env X.xe) (hc : DT X φ W c mc) (hb : DSs X φ W body b) (ho : DSs X φ W orelse u) : DS X φ W (.While c body orelse pos) (whileS n mc b u) := PS.imp (ps_whileE hp hc hb ho) fun D σ H q => by
  obtain ⟨F, δ, g, q⟩ := q
  refine ⟨fun m σ' H' => ∃ F2 δ2, GI φ F2 H' σ' δ2 ∧ SOut φ W F2 (whileLoop mc b u m δ2) D, ⟨n, F, δ, g, q⟩, ?_⟩
  rintro m σ' H' ⟨F2, δ2, g2, q2⟩
  cases m with
  | zero => exact q2.elim
  | succ m =>
    refine ⟨F2, δ2, g2, ?_⟩
    unfold whileLoop at q2
    cases z : mc δ2 with
    | bad => rw [z] at q2; exact q2
    | exc y δ3 => rw [z] at q2; exact fun F3 H3 da g3 s3 xa => q2 F3 H3 σ' da g3 s3 xa
    | ok c δ3 =>
      rw [z] at q2
      refine fun F3 H3 g3 s3 => ?_
      cases c with
      | false => exact ⟨F3, δ3, g3, SOut.mono q2 s3⟩
      | true =>
        refine ⟨fun σ4 H4 => ∃ F4 δ4, GI φ F4 H4 σ4 δ4 ∧ SOut φ W F4 (whileLoop mc b u m δ4) D, fun σ4 H4 h4 => ⟨m, Nat.lt_succ_self m, h4⟩, F3, δ3, g3, ?_⟩
        dsimp only at q2
        cases zb : b δ3 with
        | bad => rw [zb] at q2; exact q2
        | exc y δ4 => rw [zb] at q2; exact SOut.mono q2 s3
        | ok fl δ4 =>
          rw [zb] at q2
          cases fl with
          | nx => exact fun F5 H5 σ5 g5 s5 => ⟨F5, δ4, g5, SOut.mono q2 (s3.trans s5)⟩
          | ct => exact fun F5 H5 σ5 g5 s5 => ⟨F5, δ4, g5, SOut.mono q2 (s3.trans s5)⟩
          | bk => exact SOut.mono q2 s3
          | rt r => exact SOut.mono q2 s3
theorem ds_while (n : Nat) {c : Expr} {mc : M Bool} (hp : PassesOwn (model X.prog X.w) X.A X.env X.xe) (hc : DT X φ W c mc) (hb : DSs X φ W body b) : DS X φ W (.While c body [] pos) (whileS n mc b passS) := ds_whileE n hp hc hb dss_nil
end

/-! ### a comprehension's block -/
def SD.lendB : SD → SD
  | .own d => .arg d
  | .frz d => .val d
  | x => x
def SD.backB : SD → Option SD → SD
  | .own _, some (.arg d) => .own d
  | .own _, some (.frz d) => .val d
  | .arg _, some (.arg d) => .arg d
  | .arg _, some (.frz d) => .frz d
  | x, _ => x
def blkD (vs : List Nat) (δ : DEnv) : DEnv := δ.mapIdx fun i sd => if vs.contains i then .no else sd.lendB
def unB (vs : List Nat) (δ δ2 : DEnv) : DEnv := δ.mapIdx fun i sd => if vs.contains i then sd else sd.backB δ2[i]?
def prB (vs : List Nat) (σ : L2.St) (δ : DEnv) : List (Nat × Addr) := ((σ.zip δ).zipIdx).filterMap fun p => if vs.contains p.2 then none else match p.1.1, p.1.2 with
  | some (.ref a), .own _ => some (p.2, a)
  | some (.ref a), .arg _ => some (p.2, a)
  | _, _ => none
section
variable {φ : Fx} {F F' H H' : Hp} {σ σ2 : L2.St} {δ δ2 : DEnv} {vs : List Nat}
theorem prB_mem {i : Nat} {a : Addr} : (i, a) ∈ prB vs σ δ ↔ vs.contains i = false ∧ σ[i]? = some (some (.ref a)) ∧ ∃ sd : SD, δ[i]? = some sd ∧ sd.owns = true := by
  unfold prB
  rw [List.mem_filterMap]
  constructor
  · rintro ⟨⟨⟨v, sd⟩, j⟩, hm, e⟩
    rw [List.mem_zipIdx_iff_getElem?] at hm
    have hm' : (σ.zip δ)[j]? = some (v, sd) := hm
    rw [List.getElem?_zip_eq_some] at hm'
    cases z : vs.contains j with
    | true => simp only [z, if_true] at e; cases e
    | false =>
      simp only [z] at e
      cases v with
      | none => cases e
      | some v =>
        cases v with
        | ref b =>
          cases sd with
          | own d => cases e; exact ⟨z, hm'.1, _, hm'.2, rfl⟩
          | arg d => cases e; exact ⟨z, hm'.1, _, hm'.2, rfl⟩
          | no => cases e
          | val _ => cases e
          | frz _ => cases e
        | _ => cases e
  · rintro ⟨h0, h1, sd, h2, h3⟩
    refine ⟨⟨⟨some (.ref a), sd⟩, i⟩, ?_, ?_⟩
    · rw [List.mem_zipIdx_iff_getElem?]
      show (σ.zip δ)[i]? = _
      rw [List.getElem?_zip_eq_some]
      exact ⟨h1, h2⟩
    · simp only [h0]
      cases sd with
      | own d => rfl
      | arg d => rfl
      | no => cases h3
      | val _ => cases h3
      | frz _ => cases h3
theorem wipe_get {i : Nat} (h : vs.contains i = false) : (wipe σ vs)[i]? = σ[i]? := by
  induction vs with
  | nil => rfl
  | cons v vs ih =>
    rw [List.contains_cons, Bool.or_eq_false_iff] at h
    unfold wipe
    rw [List.getElem?_set_ne (fun e => by subst e; simp at h), ih h.2]
theorem wipe_eq {i : Nat} (h : vs.contains i = false) (e : wipe σ2 vs = wipe σ vs) : σ2[i]? = σ[i]? := by
  rw [← wipe_get h, e, wipe_get h]
theorem blkD_get {i : Nat} {sd : SD} (h : (blkD vs δ)[i]? = some sd) : ∃ se, δ[i]? = some se ∧ ((vs.contains i = true ∧ sd = .no) ∨ (vs.contains i = false ∧ sd = se.lendB)) := by
  unfold blkD at h
  rw [List.getElem?_mapIdx] at h
  cases z : δ[i]? with
  | none => rw [z] at h; cases h
  | some se =>
    rw [z] at h
    refine ⟨se, rfl, ?_⟩
    have h2 : (if vs.contains i = true then SD.no else se.lendB) = sd := Option.some.inj h
    cases y : vs.contains i with
    | true => rw [y, if_pos rfl] at h2; exact .inl ⟨rfl, h2.symm⟩
    | false => rw [y, if_neg Bool.false_ne_true] at h2; exact .inr ⟨rfl, h2.symm⟩
theorem blkD_at {i : Nat} {se : SD} (h : δ[i]? = some se) (y : vs.contains i = false) : (blkD vs δ)[i]? = some se.lendB := by
  unfold blkD
  rw [List.getElem?_mapIdx, h]
  show some (if vs.contains i = true then SD.no else se.lendB) = _
  rw [y, if_neg Bool.false_ne_true]
theorem lendB_owns {se : SD} : se.lendB.owns = se.owns := by cases se <;> rfl
/-- the block begins -/
theorem GI.block (g : GI φ F H σ δ) : GI ⟨φ.k, F, H, prB vs σ δ⟩ F H (wipe σ vs) (blkD vs δ) := by
  refine ⟨Grow.refl g.fh, ?_, fun i sd e => ?_, fun i j a sd se ne e1 e2 o1 o2 v1 v2 => ?_, fun i a m => ?_, fun i j a m1 m2 => ?_, fun i a m => ?_⟩
  · rw [wipe_length, g.len]
    unfold blkD
    rw [List.length_mapIdx]
  · obtain ⟨se, h1, h2⟩ := blkD_get e
    rcases h2 with ⟨_, rfl⟩ | ⟨hv, rfl⟩
    · trivial
    · have s := g.sl i se h1
      rw [wipe_get hv]
      cases se with
      | no => trivial
      | val d => exact s
      | own d =>
        obtain ⟨a, e1, f, w, _⟩ := s
        exact ⟨a, e1, f, w, by rw [prB_mem]; exact ⟨hv, e1, _, h1, rfl⟩⟩
      | arg d =>
        obtain ⟨a, e1, f, w, _⟩ := s
        exact ⟨a, e1, f, w, by rw [prB_mem]; exact ⟨hv, e1, _, h1, rfl⟩⟩
      | frz d =>
        obtain ⟨a, e1, r, _⟩ := s
        exact ⟨_, e1, r⟩
  · obtain ⟨s1, h1, h2⟩ := blkD_get e1
    obtain ⟨s2, h3, h4⟩ := blkD_get e2
    rcases h2 with ⟨_, rfl⟩ | ⟨hv, rfl⟩
    · cases o1
    rcases h4 with ⟨_, rfl⟩ | ⟨hv2, rfl⟩
    · cases o2
    rw [wipe_get hv] at v1
    rw [wipe_get hv2] at v2
    rw [lendB_owns] at o1 o2
    exact g.dis i j a s1 s2 ne h1 h3 o1 o2 v1 v2
  · rw [prB_mem] at m
    obtain ⟨hv, e1, sd, h1, o⟩ := m
    refine ⟨sd.lendB, blkD_at h1 hv, ?_, by rw [wipe_get hv]; exact e1⟩
    cases sd <;> first | rfl | cases o
  · rw [prB_mem] at m1 m2
    obtain ⟨hv, e1, sd, h1, o⟩ := m1
    obtain ⟨hv2, e2, se, h2, o2⟩ := m2
    by_cases z : i = j
    · exact z
    · exact (g.dis i j a sd se z h1 h2 o o2 e1 e2).elim
  · rw [prB_mem] at m
    obtain ⟨hv, e1, sd, h1, o⟩ := m
    obtain ⟨a', d, _, e2, _, w⟩ := g.owned h1 o
    rw [e1] at e2
    cases e2
    exact w.ne
theorem unB_get {i : Nat} {sd : SD} (h : δ[i]? = some sd) : (unB vs δ δ2)[i]? = some (if vs.contains i then sd else sd.backB δ2[i]?) := by
  unfold unB
  rw [List.getElem?_mapIdx, h]
  rfl
theorem backB_owns {sd : SD} {r : Option SD} (h : (sd.backB r).owns = true) : sd.owns = true := by
  cases sd <;> first | rfl | (cases r with
    | none => exact h
    | some r => cases r <;> exact h)
/-- .. and ends -/
theorem GI.unblock (g : GI φ F H σ δ) (g2 : GI ⟨φ.k, F, H, prB vs σ δ⟩ F' H' σ2 δ2) (e : wipe σ2 vs = wipe σ vs) : GI φ F' H' σ (unB vs δ δ2) := by
  have lent : ∀ {a : Addr}, Lent ⟨φ.k, F, H, prB vs σ δ⟩ a → ∃ (i : Nat) (sd : SD), δ[i]? = some sd ∧ sd.owns = true ∧ σ[i]? = some (some (.ref a)) := fun {a} ⟨i, m⟩ => by
    have m : (i, a) ∈ prB vs σ δ := m
    rw [prB_mem] at m
    obtain ⟨hv, e1, sd, h1, o⟩ := m
    exact ⟨i, sd, h1, o, e1⟩
  have notL : ∀ {a : Addr}, ¬ Lent φ a → φ.H0 a ≠ none → ¬ Lent ⟨φ.k, F, H, prB vs σ δ⟩ a := fun {a} nl h0 l => by
    obtain ⟨i, sd, h1, o, e1⟩ := lent l
    have s := g.sl i sd h1
    cases sd with
    | own d =>
      obtain ⟨a', e4, _, _, z⟩ := s
      rw [e1] at e4
      cases e4
      exact h0 z
    | arg d =>
      obtain ⟨a', e4, _, _, z⟩ := s
      rw [e1] at e4
      cases e4
      exact nl ⟨i, z⟩
    | no => cases o
    | val _ => cases o
    | frz _ => cases o
  have inv : ∀ {i : Nat} {se : SD}, (unB vs δ δ2)[i]? = some se → ∃ sd, δ[i]? = some sd ∧ se = (if vs.contains i then sd else sd.backB δ2[i]?) := fun {i se} h => by
    unfold unB at h
    rw [List.getElem?_mapIdx] at h
    cases z : δ[i]? with
    | none => rw [z] at h; cases h
    | some sd =>
      rw [z] at h
      cases h
      exact ⟨sd, rfl, rfl⟩
  refine ⟨⟨g.gr.ff.trans g2.gr.ff, g2.gr.fh, fun a o h0 nl => ?_, fun a o h0 f0 nl => ?_, fun a h => g.gr.th a (g2.gr.th a h)⟩, ?_, fun i se es => ?_, fun i j a sd se ne e1 e2 o1 o2 v1 v2 => ?_, fun i a m => ?_, g.uq, g.h0⟩
  · exact g2.gr.hh a o (g.gr.hh a o h0 nl) (notL nl (by rw [h0]; exact fun z => by cases z))
  · exact g2.gr.nf a o (g.gr.hh a o h0 nl) (g.gr.nf a o h0 f0 nl) (notL nl (by rw [h0]; exact fun z => by cases z))
  · unfold unB
    rw [List.length_mapIdx]
    exact g.len
  · obtain ⟨sd, es0, rfl⟩ := inv es
    have s := g.sl i sd es0
    -- what a slot outside of the block's sees of the other objects
    have keep : sd.owns = true → (∀ a, σ[i]? = some (some (.ref a)) → ¬ Lent ⟨φ.k, F, H, prB vs σ δ⟩ a) → Slot1 φ F' H' i σ[i]? sd := fun ow nl => by
      cases sd with
      | own d =>
        obtain ⟨a, e1, f, w, z⟩ := s
        have na := nl a e1
        obtain ⟨o, ho⟩ := w.there
        exact ⟨a, e1, g2.gr.nf a o ho f na, w.mono g2.gr.ff fun o' ho' => g2.gr.hh a o' ho' na, z⟩
      | arg d =>
        obtain ⟨a, e1, f, w, z⟩ := s
        have na := nl a e1
        obtain ⟨o, ho⟩ := w.there
        exact ⟨a, e1, g2.gr.nf a o ho f na, w.mono g2.gr.ff fun o' ho' => g2.gr.hh a o' ho' na, z⟩
      | no => cases ow
      | val _ => cases ow
      | frz _ => cases ow
    have still : sd.owns = false → Slot1 φ F' H' i σ[i]? sd := fun ow => by
      cases sd with
      | no => trivial
      | val d =>
        obtain ⟨x, e1, r⟩ := s
        exact ⟨x, e1, Rep.mono g2.gr.ff r⟩
      | frz d =>
        obtain ⟨a, e1, r, z⟩ := s
        exact ⟨a, e1, Rep.mono g2.gr.ff r, z⟩
      | own _ => cases ow
      | arg _ => cases ow
    cases hv : vs.contains i with
    | true =>
      simp only [if_true]
      cases ow : sd.owns with
      | false => exact still ow
      | true =>
        refine keep ow fun a ea l => ?_
        obtain ⟨j, m⟩ := l
        have m : (j, a) ∈ prB vs σ δ := m
        rw [prB_mem] at m
        obtain ⟨hj, ej, se, hj1, oj⟩ := m
        refine g.dis i j a sd se (fun z => ?_) es0 hj1 ow oj ea ej
        subst z
        rw [hv] at hj
        cases hj
    | false =>
      simp only [Bool.false_eq_true, if_false]
      cases ow : sd.owns with
      | false =>
        have : sd.backB δ2[i]? = sd := by cases sd <;> first | rfl | cases ow
        rw [this]
        exact still ow
      | true =>
        obtain ⟨a, d0, _, ea, _, _⟩ := g.owned es0 ow
        have hm : (i, a) ∈ prB vs σ δ := by rw [prB_mem]; exact ⟨hv, ea, sd, es0, ow⟩
        obtain ⟨s2, q1, q2, q3⟩ := g2.pr i a hm
        have sl2 := g2.sl i s2 q1
        rw [q1]
        cases sd with
        | no => cases ow
        | val _ => cases ow
        | frz _ => cases ow
        | own d =>
          obtain ⟨a', e1, f, w, z⟩ := s
          rw [ea] at e1
          cases e1
          cases s2 with
          | arg d' =>
            obtain ⟨b, e2, f2, w2, _⟩ := sl2
            rw [q3] at e2
            cases e2
            exact ⟨a, ea, f2, w2, z⟩
          | frz d' =>
            obtain ⟨b, e2, r2, _⟩ := sl2
            rw [q3] at e2
            cases e2
            exact ⟨_, ea, r2⟩
          | no => cases q2
          | val _ => cases q2
          | own _ => cases q2
        | arg d =>
          obtain ⟨a', e1, f, w, z⟩ := s
          rw [ea] at e1
          cases e1
          cases s2 with
          | arg d' =>
            obtain ⟨b, e2, f2, w2, _⟩ := sl2
            rw [q3] at e2
            cases e2
            exact ⟨a, ea, f2, w2, z⟩
          | frz d' =>
            obtain ⟨b, e2, r2, _⟩ := sl2
            rw [q3] at e2
            cases e2
            exact ⟨a, ea, r2, z⟩
          | no => cases q2
          | val _ => cases q2
          | own _ => cases q2
  · obtain ⟨s1, h1, rfl⟩ := inv e1
    obtain ⟨s2, h2, rfl⟩ := inv e2
    have ow : ∀ {i : Nat} {s1 : SD}, (if vs.contains i then s1 else s1.backB δ2[i]?).owns = true → s1.owns = true := fun {i s1} h => by
      cases hv : vs.contains i with
      | true => rw [hv] at h; exact h
      | false => rw [hv] at h; exact backB_owns h
    exact g.dis i j a s1 s2 ne h1 h2 (ow o1) (ow o2) v1 v2
  · obtain ⟨sd, es0, hl, ea⟩ := g.pr i a m
    refine ⟨_, unB_get es0, ?_, ea⟩
    cases hv : vs.contains i with
    | true => simpa using hl
    | false =>
      simp only [Bool.false_eq_true, if_false]
      cases sd with
      | no => cases hl
      | val _ => cases hl
      | own _ => cases hl
      | frz _ => exact hl
      | arg d =>
        cases δ2[i]? with
        | none => exact hl
        | some r => cases r <;> rfl
end
end G
set_option maxRecDepth 100000
set_option maxHeartbeats 4000000
namespace G
open PySem PySem.Spec PyProof.Rows L2

/-! ### targets of a block: only its own names are stored -/
def Same (vs : List Nat) (σ σ' : L2.St) : Prop := σ'.length = σ.length ∧ ∀ i, vs.contains i = false → σ'[i]? = σ[i]?
def tGw (φ : Fx) (W : WX) (vs : List Nat) (t : D → M Unit) : TG := fun v σ H Q => ∃ F δ d, GI φ F H σ δ ∧ Rep φ.k F v d ∧ GOut φ W F (t d δ) fun σ' H' => Same vs σ σ' → Q σ' H'
abbrev DGw (X : Cx) (φ : Fx) (W : WX) (vs : List Nat) (tg : Expr) (t : D → M Unit) : Prop := PG X tg (tGw φ W vs t)
def tGsw (φ : Fx) (W : WX) (vs : List Nat) (t : List D → M Unit) : TGs := fun us σ H Q => ∃ F δ ds, GI φ F H σ δ ∧ RepL φ.k F us ds ∧ GOut φ W F (t ds δ) fun σ' H' => Same vs σ σ' → Q σ' H'
abbrev DGsw (X : Cx) (φ : Fx) (W : WX) (vs : List Nat) (tg : List Expr) (t : List D → M Unit) : Prop := PGs X tg (tGsw φ W vs t)
def W0 : WX := fun _ _ _ _ => False
section
variable {X : Cx} {φ : Fx} {W : WX} {F F' H H' : Hp} {σ σ2 : L2.St} {δ : DEnv} {vs : List Nat} {pos : Pos}
theorem Same.refl : Same vs σ σ := ⟨rfl, fun _ _ => rfl⟩
theorem Same.trans {σ1 : L2.St} (a : Same vs σ σ1) (b : Same vs σ1 σ2) : Same vs σ σ2 := ⟨b.1.trans a.1, fun i h => (b.2 i h).trans (a.2 i h)⟩
theorem Same.set {i : Nat} {v : Option V} (h : vs.contains i = true) : Same vs σ (σ.set i v) := ⟨List.length_set, fun j hj => by
  rw [List.getElem?_set_ne]
  intro e
  subst e
  rw [h] at hj
  cases hj⟩
theorem wipe_in {i : Nat} (h : vs.contains i = true) (hi : i < σ.length) : (wipe σ vs)[i]? = some none := by
  induction vs with
  | nil => cases h
  | cons v vs ih =>
    unfold wipe
    by_cases e : v = i
    · subst e
      rw [List.getElem?_set_self (by rw [wipe_length]; exact hi)]
    · rw [List.getElem?_set_ne e]
      refine ih ?_
      rw [List.contains_cons, Bool.or_eq_true] at h
      rcases h with h | h
      · exact absurd (beq_iff_eq.mp h).symm e
      · exact h
theorem wipe_same (h : Same vs (wipe σ vs) σ2) : wipe σ2 vs = wipe σ vs := by
  have hl : σ2.length = σ.length := by rw [h.1, wipe_length]
  apply List.ext_getElem?
  intro i
  cases z : vs.contains i with
  | false => rw [wipe_get z, wipe_get z, h.2 i z, wipe_get z]
  | true =>
    by_cases hi : i < σ.length
    · rw [wipe_in z hi, wipe_in z (by rw [hl]; exact hi)]
    · rw [List.getElem?_eq_none (by rw [wipe_length]; omega), List.getElem?_eq_none (by rw [wipe_length]; omega)]
theorem dgw_name (i : Nat) {x : Str} (hN : X.N.Nodup) (hv : vs.contains i = true := by rfl) (hi : X.N[i]? = some x := by rfl) (hx : Loc X.env.scope x := by first | exact Or.inl rfl | exact Or.inr rfl)
    (hf : X.fn x = true ∨ X.env.scope.names.lookup x = some .local := by first | exact .inl rfl | exact .inr rfl | assumption) : DGw X φ W vs (.Name x pos) (storeM i) := PG.imp (pg_name hN hi hx hf) fun v σ H Q q => by
  obtain ⟨F, δ, d, g, r, q⟩ := q
  have key : ∀ {sd : SD}, δ[i]? = some sd → sd.lent = false → storeM i d δ = .ok () (δ.set i (.val d)) → Q (σ.set i (some v)) H := fun {sd} e l z => by
    rw [z] at q
    exact q F H _ (g.store e l r) (Sub.refl F) (Same.set hv)
  cases e : δ[i]? with
  | none => unfold storeM at q; rw [e] at q; exact q.elim
  | some sd =>
    cases sd with
    | no => exact key e rfl (by unfold storeM; rw [e])
    | val _ => exact key e rfl (by unfold storeM; rw [e])
    | own _ => exact key e rfl (by unfold storeM; rw [e])
    | arg _ => unfold storeM at q; rw [e] at q; exact q.elim
    | frz _ => unfold storeM at q; rw [e] at q; exact q.elim
theorem dgsw_nil : DGsw X φ W vs [] gsNil := PGs.imp pgs_nil fun us σ H Q q => by
  obtain ⟨F, δ, ds, g, r, q⟩ := q
  cases r with
  | nil => exact ⟨rfl, q F H σ g (Sub.refl F) Same.refl⟩
  | cons _ _ => exact (show False from q).elim
theorem GOut.imp {r : R Unit} {Q Q' : L2.St → Hp → Prop} (h : GOut φ W F r Q) (i : ∀ σ H, Q σ H → Q' σ H) : GOut φ W F r Q' := by
  cases r with
  | bad => exact h
  | exc x δ' => exact h
  | ok f δ' => exact fun F1 H1 σ1 g s1 => i _ _ (h F1 H1 σ1 g s1)
theorem dgsw_cons {e : Expr} {es : List Expr} {t : D → M Unit} {u : List D → M Unit} (h1 : DGw X φ W vs e t) (h2 : DGsw X φ W vs es u)
    (hs : (assignEach (e :: es) X.env).map (·.2) = assign e X.env :: (assignEach es X.env).map (·.2) := by rfl) : DGsw X φ W vs (e :: es) (gsCons t u) := PGs.imp (pgs_cons h1 h2 hs) fun us σ H Q q => by
  obtain ⟨F, δ, ds, g, r, q⟩ := q
  cases r with
  | nil => exact (show False from q).elim
  | @cons v d us ds r rs =>
    refine ⟨v, us, rfl, F, δ, d, g, r, ?_⟩
    change GOut φ W F (M.bind (t d) (fun _ => u ds) δ) _ at q
    unfold M.bind at q
    cases z : t d δ with
    | bad => rw [z] at q; exact q
    | exc x δ' => rw [z] at q; exact q
    | ok y δ' =>
      rw [z] at q
      exact fun F1 H1 σ1 g1 s1 sm => ⟨F1, δ', ds, g1, rs.mono s1, GOut.imp (GOut.mono q s1) fun σ' H' k sm2 => k (sm.trans sm2)⟩
theorem dgw_tup {es : List Expr} {k n : Nat} {t : List D → M Unit} (hc : X.calm = true) (h : DGsw X φ W vs es t) (hn : (assignEach es X.env).length = n := by rfl) (hst : (assignEach es X.env).findIdx? (·.1) = none := by rfl) (hK : φ.k.K = X.K := by rfl) :
    DGw X φ W vs (.Tuple es k pos) (gTupM n t) := PG.imp (pg_tup hc h hn hst) fun v σ H Q q => by
  obtain ⟨F, δ, d, g, r, q⟩ := q
  cases d with
  | tup ds =>
    change GOut φ W F ((if ds.length = n then t ds else badM) δ) _ at q
    by_cases z : ds.length = n
    · rw [if_pos z] at q
      obtain ⟨a, vs, rfl, e, l⟩ := (RepO.of (H := H) r).tup g.fh
      exact ⟨a, vs, rfl, .of e, by rw [l.length]; exact z, F, δ, ds, g, l, q⟩
    · rw [if_neg z] at q
      exact q.elim
  | _ => exact (show False from q).elim
/-- the tests of a clause -/
abbrev DTs (X : Cx) (φ : Fx) (W : WX) (cs : List Expr) (m : M Bool) : Prop := PTs X cs (tT φ W m)
theorem dts_nil : DTs X φ W [] (M.pure true) := ⟨fun pins s σ H Q I h => by
  obtain ⟨F, δ, g, q⟩ := h
  exact pts_nil.run pins s σ H Q I (q F H g (Sub.refl F))⟩
theorem dts_one {c : Expr} {m : M Bool} (h : DT X φ W c m) : DTs X φ W [c] m := pts_one h
/-- an object that no slot leads to is written -/
theorem GI.writeFree (g : GI φ F H σ δ) {L : Addr} {o : HO} (h0 : φ.H0 L = none) (f : F L = none) (hH : H L ≠ none) (un : ∀ (j : Nat) (sd : SD), δ[j]? = some sd → sd.owns = true → σ[j]? ≠ some (some (.ref L))) : GI φ F (upd H L o) σ δ := by
  have ne : ∀ a u, F a = some u → a ≠ L := fun a u e z => by subst z; rw [f] at e; cases e
  have own : ∀ {a : Addr} {d : D}, OwnAt φ.k F H a d → a ≠ L → OwnAt φ.k F (upd H L o) a d := fun {a d} w n => w.mono (Sub.refl F) fun o' h => by rw [upd_ne n]; exact h
  refine ⟨⟨g.gr.ff, fun a u e => by rw [upd_ne (ne a u e)]; exact g.gr.fh a u e, fun a u e nl => ?_, g.gr.nf, fun a h => g.gr.th a ?_⟩, g.len, fun i sd e => ?_, g.dis, g.pr, g.uq, g.h0⟩
  · have n : a ≠ L := fun z => by subst z; rw [h0] at e; cases e
    rw [upd_ne n]
    exact g.gr.hh a u e nl
  · by_cases z : a = L
    · subst z
      rw [upd_same] at h
      cases h
    · rw [upd_ne z] at h
      exact h
  · have s := g.sl i sd e
    cases sd with
    | no => trivial
    | val d => exact s
    | own d =>
      obtain ⟨a, e1, f1, w, z⟩ := s
      exact ⟨a, e1, f1, own w fun y => un i _ e rfl (by rw [e1, y]), z⟩
    | arg d =>
      obtain ⟨a, e1, f1, w, z⟩ := s
      exact ⟨a, e1, f1, own w fun y => un i _ e rfl (by rw [e1, y]), z⟩
    | frz d => exact s
end

/-! ### [e for t in it if c] -/
def lcTurn (vs : List Nat) (t : D → M Unit) (c : M Bool) (e : M D) (d : D) : M (Option D) := fun δ => match ((t d).bind fun _ => c.bind fun b => if b = true then e.bind fun y => M.pure (some y) else M.pure none) (blkD vs δ) with
  | .ok r δ2 => .ok r (unB vs δ δ2)
  | _ => .bad
def lcLoop (vs : List Nat) (t : D → M Unit) (c : M Bool) (e : M D) : List D → List D → M D
  | [], acc => M.pure (.lst acc)
  | d :: ds, acc => (lcTurn vs t c e d).bind fun r => match r with
    | some y => if shortS (acc.length + 1) then lcLoop vs t c e ds (acc ++ [y]) else badM
    | none => lcLoop vs t c e ds acc
def lcM (vs : List Nat) (mi : M (List D)) (t : D → M Unit) (c : M Bool) (e : M D) : M D := mi.bind fun ds => lcLoop vs t c e ds []
section
variable {X : Cx} {φ : Fx} {W : WX} {F F' H H' : Hp} {σ σ2 : L2.St} {δ : DEnv} {vs : List Nat} {pos : Pos} {t : D → M Unit} {c : M Bool} {e : M D} {mi : M (List D)} {Q : VK}
theorem lcTurn_ok {f : Option D → M D} {P : D → DEnv → Hp → Hp → Prop} {d : D} (q : Out φ W σ F (((lcTurn vs t c e d).bind f) δ) P) : ∃ r δ4, Out φ W σ F (f r (unB vs δ δ4)) P ∧
    ∃ u δa, t d (blkD vs δ) = .ok u δa ∧ ∃ b δb, c δa = .ok b δb ∧ ((b = false ∧ r = none ∧ δ4 = δb) ∨ (b = true ∧ ∃ y, e δb = .ok y δ4 ∧ r = some y)) := by
  unfold M.bind at q
  have key : ∀ {r : Option D} {δ4 : DEnv}, ((t d).bind fun _ => c.bind fun b => if b = true then e.bind fun y => M.pure (some y) else M.pure none) (blkD vs δ) = .ok r δ4 →
      ∃ u δa, t d (blkD vs δ) = .ok u δa ∧ ∃ b δb, c δa = .ok b δb ∧ ((b = false ∧ r = none ∧ δ4 = δb) ∨ (b = true ∧ ∃ y, e δb = .ok y δ4 ∧ r = some y)) := fun {r δ4} h => by
    unfold M.bind at h
    cases z1 : t d (blkD vs δ) with
    | bad => rw [z1] at h; cases h
    | exc x δa => rw [z1] at h; cases h
    | ok u δa =>
      rw [z1] at h
      dsimp only at h
      cases z2 : c δa with
      | bad => rw [z2] at h; cases h
      | exc x δb => rw [z2] at h; cases h
      | ok b δb =>
        rw [z2] at h
        dsimp only at h
        refine ⟨u, δa, rfl, b, δb, z2, ?_⟩
        cases b with
        | false => cases h; exact .inl ⟨rfl, rfl, rfl⟩
        | true =>
          change M.bind e (fun y => M.pure (some y)) δb = R.ok r δ4 at h
          unfold M.bind at h
          cases z3 : e δb with
          | bad => rw [z3] at h; cases h
          | exc x δc => rw [z3] at h; cases h
          | ok y δc =>
            rw [z3] at h
            cases h
            exact .inr ⟨rfl, y, rfl, rfl⟩
  unfold lcTurn at q
  cases z : ((t d).bind fun _ => c.bind fun b => if b = true then e.bind fun y => M.pure (some y) else M.pure none) (blkD vs δ) with
  | bad => rw [z] at q; exact q.elim
  | exc x δ4 => rw [z] at q; exact q.elim
  | ok r δ4 => rw [z] at q; exact ⟨r, δ4, q, key z⟩
theorem tLc_of {own : List (Str × Nat)} (hv : own.map (·.2) = vs) {g : TG} {tt : TT} {te : TE} (hg : ∀ F0 H0 pr v σ H Q, tGw ⟨φ.k, F0, H0, pr⟩ W0 vs t v σ H Q → g v σ H Q) (htt : ∀ F0 H0 pr σ H Q, tT ⟨φ.k, F0, H0, pr⟩ W0 c σ H Q → tt σ H Q)
    (hte : ∀ F0 H0 pr σ H Q, tM ⟨φ.k, F0, H0, pr⟩ W0 e σ H Q → te σ H Q) (h : tN φ W (lcM vs mi t c e) σ H Q) : tLc (tI φ W mi) g tt te (own.map (·.2)) σ H Q := by
  rw [hv]
  obtain ⟨F, δ, gi, q⟩ := h
  refine ⟨F, δ, gi, q.bind.mono (Sub.refl F) fun ds δ1 F1 H1 g1 s1 q1 J it => ?_⟩
  intro L hL
  have h0 : φ.H0 L = none := g1.free hL
  have n0 : New F1 H1 F1 (upd H1 L (.lst [])) := New.made g1.fh hL
  have un0 : ∀ (j : Nat) (sd : SD), δ1[j]? = some sd → sd.owns = true → σ[j]? ≠ some (some (.ref L)) := fun j sd e1 o1 z => by
    obtain ⟨a', d', _, e2, _, w2⟩ := g1.owned e1 o1
    rw [z] at e2
    cases e2
    exact w2.ne hL
  refine ⟨fun i n H' => ∃ F2 δ2 acc vacc, GI φ F2 H' σ δ2 ∧ Sub F1 F2 ∧ n = ds.length - i ∧ H' L = some (.lst vacc) ∧ F2 L = none ∧ RepL φ.k F2 vacc acc ∧ (∀ (j : Nat) (sd : SD), δ2[j]? = some sd → sd.owns = true → σ[j]? ≠ some (some (.ref L))) ∧
    Out φ W σ F2 (lcLoop vs t c e (ds.drop i) acc δ2) fun d δ' F' H' => ∀ p, Fresh φ σ δ' F' H' p d → Q (.ref p) H', ⟨_, F1, δ1, [], [], g1.new n0, Sub.refl F1, rfl, upd_same, g1.fh.none hL, .nil, un0, q1⟩, ?_⟩
  rintro i n H' ⟨F2, δ2, acc, vacc, g2, s2, hn, hH, fL, ra, un, q2⟩
  by_cases hi : i < ds.length
  · refine .inr ⟨it.go i H' hi (s2.trans g2.fh), fun H'' => ∃ F3 δ3 acc vacc, GI φ F3 H'' σ δ3 ∧ Sub F1 F3 ∧ H'' L = some (.lst vacc) ∧ F3 L = none ∧ RepL φ.k F3 vacc acc ∧ (∀ (j : Nat) (sd : SD), δ3[j]? = some sd → sd.owns = true → σ[j]? ≠ some (some (.ref L))) ∧
      Out φ W σ F3 (lcLoop vs t c e (ds.drop (i + 1)) acc δ3) fun d δ' F' H' => ∀ p, Fresh φ σ δ' F' H' p d → Q (.ref p) H', ?_, fun x H3 y => ?_⟩
    · rintro H'' ⟨F3, δ3, acc, vacc, g3, s3, r3⟩
      exact ⟨ds.length - (i + 1), by omega, F3, δ3, acc, vacc, g3, s3, rfl, r3⟩
    · obtain ⟨F3, n3, r3⟩ := it.yld i F2 H' x H3 ds[i] (List.getElem?_eq_getElem hi) s2 g2.fh y
      rw [List.drop_eq_getElem_cons hi] at q2
      have g3 := g2.new n3
      have gb := g3.block (vs := vs)
      have hL3 : H3 L = some (.lst vacc) := n3.hh _ _ hH
      have fL3 : F3 L = none := n3.nf _ _ hH fL
      have nl : ¬ Lent ⟨φ.k, F3, H3, prB vs σ δ2⟩ L := fun ⟨j, m⟩ => by
        have m : (j, L) ∈ prB vs σ δ2 := m
        rw [prB_mem] at m
        obtain ⟨_, e1, sd, e2, o⟩ := m
        exact un j sd e2 o e1
      -- the block's run
      obtain ⟨r, δ4, q3, u, δa, z1, b, δb, z2, hb⟩ := lcTurn_ok q2
      -- behind it
      have fin : ∀ {F4 H4 : Hp} {σ4 : L2.St} {δ4 : DEnv}, GI ⟨φ.k, F3, H3, prB vs σ δ2⟩ F4 H4 σ4 δ4 → wipe σ4 vs = wipe σ vs → GI φ F4 H4 σ (unB vs δ2 δ4) ∧ H4 L = some (.lst vacc) ∧ F4 L = none ∧ (∀ (j : Nat) (sd : SD), (unB vs δ2 δ4)[j]? = some sd → sd.owns = true → σ[j]? ≠ some (some (.ref L))) ∧ Sub F3 F4 := fun {F4 H4 σ4 δ4} g4 w4 => by
        refine ⟨g3.unblock g4 w4, g4.gr.hh L _ hL3 nl, g4.gr.nf L _ hL3 fL3 nl, fun j sd e1 o1 => ?_, g4.gr.ff⟩
        unfold unB at e1
        rw [List.getElem?_mapIdx] at e1
        cases z : δ2[j]? with
        | none => rw [z] at e1; cases e1
        | some se =>
          rw [z] at e1
          have e2 : (if vs.contains j = true then se else se.backB δ4[j]?) = sd := Option.some.inj e1
          refine un j se z ?_
          cases hv : vs.contains j with
          | true => rw [hv, if_pos rfl] at e2; subst e2; exact o1
          | false => rw [hv, if_neg Bool.false_ne_true] at e2; subst e2; exact backB_owns o1
      refine hg F3 H3 (prB vs σ δ2) _ _ _ _ ⟨F3, blkD vs δ2, ds[i], gb, r3, ?_⟩
      rw [z1]
      refine fun Fa Ha σa ga sa sm => ⟨wipe_same sm, ?_⟩
      have wa := wipe_same sm
      refine htt F3 H3 (prB vs σ δ2) _ _ _ ⟨Fa, δa, ga, ?_⟩
      rw [z2]
      refine fun Fb Hb gb' sb => ?_
      rcases hb with ⟨rfl, rfl, rfl⟩ | ⟨rfl, yd, z3, rfl⟩
      · show ∃ F3 δ3 acc vacc, _
        obtain ⟨k1, k2, k3, k4, k5⟩ := fin gb' wa
        exact ⟨Fb, _, acc, vacc, k1, (s2.trans n3.ff).trans k5, k2, k3, ra.mono (n3.ff.trans k5), k4, Out.mono q3 (n3.ff.trans k5) fun _ _ _ _ _ _ p => p⟩
      · show te σa Hb _
        refine hte F3 H3 (prB vs σ δ2) _ _ _ ⟨Fb, δb, gb', ?_⟩
        rw [z3]
        refine fun Fc Hc gc sc vy ry => ?_
        obtain ⟨k1, k2, k3, k4, k5⟩ := fin gc wa
        rcases q3.ite with ⟨hz, q4⟩ | ⟨_, q4⟩
        · have hz := of_decide_eq_true hz
          refine ⟨vacc, k2, by rw [ra.length]; exact hz, Fc, unB vs δ2 δ4, acc ++ [yd], vacc ++ [vy], k1.writeFree h0 k3 (by rw [k2]; exact fun z => by cases z) k4, (s2.trans n3.ff).trans k5, upd_same, k3,
            (ra.mono (n3.ff.trans k5)).append (.cons ry .nil), k4, Out.mono q4 (n3.ff.trans k5) fun _ _ _ _ _ _ p => p⟩
        · exact q4.elim
  · refine .inl ⟨it.stop i H' (by omega) (s2.trans g2.fh), ?_⟩
    rw [List.drop_eq_nil_of_le (by omega)] at q2
    exact q2 F2 H' g2 (Sub.refl F2) L ⟨h0, fL, .lst hH ra, un⟩
/-- a list comprehension -/
theorem d_lc {elt tg iter : Expr} {ifs : List Expr} {scope : Scope} {own : List (Str × Nat)} (hc : X.calm = true) (hN : X.N.Nodup) (ok : BlkOk X.N X.env.scope scope own) (hv : own.map (·.2) = vs) (hi : DI X φ W tg iter mi)
    (hg : ∀ (s : Shared) (H : Hp) (C : Addr) (cl : List (Str × Addr)) (fp : List Addr) (F0 H0 : Hp) (pr : List (Nat × Addr)), DGw (X.blk s H scope (compEnvC scope cl C X.env) fp) ⟨φ.k, F0, H0, pr⟩ W0 vs tg t)
    (ht : ∀ (s : Shared) (H : Hp) (C : Addr) (cl : List (Str × Addr)) (fp : List Addr) (F0 H0 : Hp) (pr : List (Nat × Addr)), DTs (X.blk s H scope (compEnvC scope cl C X.env) fp) ⟨φ.k, F0, H0, pr⟩ W0 ifs c)
    (he : ∀ (s : Shared) (H : Hp) (C : Addr) (cl : List (Str × Addr)) (fp : List Addr) (F0 H0 : Hp) (pr : List (Nat × Addr)), DE (X.blk s H scope (compEnvC scope cl C X.env) fp) ⟨φ.k, F0, H0, pr⟩ W0 elt e) (hs : ∀ x, foldedSetIterable iter X.env x = pure x := by intro _; rfl) :
    DN X φ W (.ListComp elt [⟨tg, iter, ifs, 0⟩] scope pos) (lcM vs mi t c e) := by
  refine PE.imp (pe_lc (g := fun v σ H Q => ∃ F0 H0 pr, tGw ⟨φ.k, F0, H0, pr⟩ W0 vs t v σ H Q) (tt := fun σ H Q => ∃ F0 H0 pr, tT ⟨φ.k, F0, H0, pr⟩ W0 c σ H Q) (te := fun σ H Q => ∃ F0 H0 pr, tM ⟨φ.k, F0, H0, pr⟩ W0 e σ H Q) (own := own) hc hN hi ok
    (fun s H C cl fp => ⟨fun pins s' σ H' v u Q I r ⟨F0, H0, pr, h⟩ => (hg s H C cl fp F0 H0 pr).run pins s' σ H' v u Q I r h⟩) (fun s H C cl fp => ⟨fun pins s' σ H' Q I ⟨F0, H0, pr, h⟩ => (ht s H C cl fp F0 H0 pr).run pins s' σ H' Q I h⟩)
    (fun s H C cl fp => ⟨fun pins s' σ H' Q I ⟨F0, H0, pr, h⟩ => (he s H C cl fp F0 H0 pr).run pins s' σ H' Q I h⟩) hs) fun σ H Q h => ?_
  exact tLc_of hv (fun F0 H0 pr v σ H Q h => ⟨F0, H0, pr, h⟩) (fun F0 H0 pr σ H Q h => ⟨F0, H0, pr, h⟩) (fun F0 H0 pr σ H Q h => ⟨F0, H0, pr, h⟩) h
end
end G
set_option maxRecDepth 100000
set_option maxHeartbeats 4000000
namespace G
open PySem PySem.Spec PyProof.Rows L2

/-! ### values that are held while others are computed -/
def evalB (m : M D) : M D := fun δ => match m (blkD [] δ) with
  | .ok r δ2 => .ok r (unB [] δ δ2)
  | .exc x δ2 => .exc x (unB [] δ δ2)
  | .bad => .bad
structure Held (φ : Fx) (σ : L2.St) (δ : DEnv) (F H : Hp) (vs : List V) (sds : List SD) : Prop where
  len : vs.length = sds.length
  val : ∀ (i : Nat) (d : D), sds[i]? = some (.val d) → ∃ v, vs[i]? = some v ∧ Rep φ.k F v d
  own : ∀ (i : Nat) (d : D), sds[i]? = some (.own d) → ∃ p, vs[i]? = some (.ref p) ∧ Fresh φ σ δ F H p d
  dis : ∀ (i j : Nat) (d e : D) (p : Addr), i ≠ j → sds[i]? = some (.own d) → sds[j]? = some (.own e) → vs[i]? = some (.ref p) → vs[j]? = some (.ref p) → False
section
variable {X : Cx} {φ : Fx} {W : WX} {F F' H H' : Hp} {σ σ2 : L2.St} {δ δ2 : DEnv} {vs : List V} {sds : List SD} {Q : VK} {m : M D}
theorem unB0_owns {j : Nat} {sd : SD} (e1 : (unB [] δ δ2)[j]? = some sd) (o1 : sd.owns = true) : ∃ se, δ[j]? = some se ∧ se.owns = true := by
  unfold unB at e1
  rw [List.getElem?_mapIdx] at e1
  cases z : δ[j]? with
  | none => rw [z] at e1; cases e1
  | some se =>
    rw [z] at e1
    have e2 : se.backB δ2[j]? = sd := Option.some.inj e1
    subst e2
    exact ⟨se, rfl, backB_owns o1⟩
theorem Held.nil : Held φ σ δ F H [] [] := ⟨rfl, (fun i d e => by simp at e), (fun i d e => by simp at e), (fun i j d e p ne e1 => by simp at e1)⟩
theorem Held.block (h : Held φ σ δ F H vs sds) (g : GI φ F H σ δ) (g4 : GI ⟨φ.k, F, H, prB [] σ δ⟩ F' H' σ δ2) : Held φ σ (unB [] δ δ2) F' H' vs sds := by
  refine ⟨h.len, fun i d e => ?_, fun i d e => ?_, h.dis⟩
  · obtain ⟨v, h1, h2⟩ := h.val i d e
    exact ⟨v, h1, Rep.mono g4.gr.ff h2⟩
  · obtain ⟨p, h1, fr⟩ := h.own i d e
    have nl : ¬ Lent ⟨φ.k, F, H, prB [] σ δ⟩ p := fun ⟨j, m⟩ => by
      have m : (j, p) ∈ prB [] σ δ := m
      rw [prB_mem] at m
      obtain ⟨_, e1, sd, e2, o⟩ := m
      exact fr.nd j sd e2 o e1
    obtain ⟨o, ho⟩ := fr.own.there
    refine ⟨p, h1, fr.h0, g4.gr.nf p o ho fr.f nl, fr.own.mono g4.gr.ff fun o' ho' => g4.gr.hh p o' ho' nl, fun j sd e1 o1 => ?_⟩
    obtain ⟨se, e2, o2⟩ := unB0_owns e1 o1
    exact fr.nd j se e2 o2
theorem evalB_run {α : Type} {f : D → M α} {P : α → DEnv → Hp → Hp → Prop} (g : GI φ F H σ δ) (q : Out φ W σ F ((evalB m).bind f δ) P) (h : ∀ d v F' H' δ2, GI ⟨φ.k, F, H, prB [] σ δ⟩ F' H' σ δ2 → GI φ F' H' σ (unB [] δ δ2) → Sub F F' → Rep φ.k F' v d → Out φ W σ F' (f d (unB [] δ δ2)) P → Q v H') :
    tM ⟨φ.k, F, H, prB [] σ δ⟩ W m σ H Q := by
  have gb := g.block (vs := [])
  refine ⟨F, blkD [] δ, gb, ?_⟩
  unfold M.bind evalB at q
  cases z : m (blkD [] δ) with
  | bad => rw [z] at q; exact q
  | exc x δ2 =>
    rw [z] at q
    exact fun F1 H1 da g1 s1 xa => q F1 H1 da (g.unblock g1 rfl) s1 xa
  | ok d δ2 =>
    rw [z] at q
    exact fun F1 H1 g1 s1 v r => h d v F1 H1 δ2 g1 (g.unblock g1 rfl) s1 r (Out.mono q s1 fun _ _ _ _ _ _ p => p)
theorem evalB_runN {α : Type} {f : D → M α} {P : α → DEnv → Hp → Hp → Prop} (g : GI φ F H σ δ) (q : Out φ W σ F ((evalB m).bind f δ) P) (h : ∀ d p F' H' δ2, GI ⟨φ.k, F, H, prB [] σ δ⟩ F' H' σ δ2 → GI φ F' H' σ (unB [] δ δ2) → Sub F F' → H p = none → Fresh φ σ (unB [] δ δ2) F' H' p d → Out φ W σ F' (f d (unB [] δ δ2)) P → Q (.ref p) H') :
    tN ⟨φ.k, F, H, prB [] σ δ⟩ W m σ H Q := by
  have gb := g.block (vs := [])
  refine ⟨F, blkD [] δ, gb, ?_⟩
  unfold M.bind evalB at q
  cases z : m (blkD [] δ) with
  | bad => rw [z] at q; exact q
  | exc x δ2 =>
    rw [z] at q
    exact fun F1 H1 da g1 s1 xa => q F1 H1 da (g.unblock g1 rfl) s1 xa
  | ok d δ2 =>
    rw [z] at q
    refine fun F1 H1 g1 s1 p fr => h d p F1 H1 δ2 g1 (g.unblock g1 rfl) s1 fr.h0 ⟨g.free fr.h0, fr.f, fr.own, fun j sd e1 o1 z => ?_⟩ (Out.mono q s1 fun _ _ _ _ _ _ p => p)
    obtain ⟨se, e2, o2⟩ := unB0_owns e1 o1
    obtain ⟨a', d', _, e3, _, w2⟩ := g.owned e2 o2
    rw [z] at e3
    cases e3
    exact w2.ne fr.h0
/-! ### a list of computations, some of new objects -/
def mkSD (b : Bool) (d : D) : SD := if b then .own d else .val d
def parE : List (Bool × M D) → M (List SD)
  | [] => M.pure []
  | (b, m) :: r => (evalB m).bind fun d => (parE r).bind fun ds => M.pure (mkSD b d :: ds)
def tB (k : KX) (W : WX) (b : Bool) (m : M D) : TE := fun σ H Q => ∃ F0 H0 pr, if b = true then tN ⟨k, F0, H0, pr⟩ W m σ H Q else tM ⟨k, F0, H0, pr⟩ W m σ H Q
def tPs (k : KX) (W : WX) : List (Bool × M D) → TA
  | [] => tNil
  | (b, m) :: r => tCons (tB k W b m) (tPs k W r)
abbrev DPs (X : Cx) (k : KX) (W : WX) (es : List Expr) (cs : List (Bool × M D)) : Prop := PA X es (tPs k W cs)
variable {k : KX} {e : Expr} {es : List Expr} {cs : List (Bool × M D)}
theorem dps_nil : DPs X k W [] [] := pa_nil
theorem dps_k (h : ∀ F0 H0 pr, DE X ⟨k, F0, H0, pr⟩ W e m) (hr : DPs X k W es cs) (hs : starEach (e :: es) X.env = (false, eval e X.env) :: starEach es X.env := by rfl) : DPs X k W (e :: es) ((false, m) :: cs) :=
  pa_cons ⟨fun pins s σ H Q I ⟨F0, H0, pr, q⟩ => (h F0 H0 pr).run pins s σ H Q I q⟩ hr hs
theorem dps_o (h : ∀ F0 H0 pr, DN X ⟨k, F0, H0, pr⟩ W e m) (hr : DPs X k W es cs) (hs : starEach (e :: es) X.env = (false, eval e X.env) :: starEach es X.env := by rfl) : DPs X k W (e :: es) ((true, m) :: cs) :=
  pa_cons ⟨fun pins s σ H Q I ⟨F0, H0, pr, q⟩ => (h F0 H0 pr).run pins s σ H Q I q⟩ hr hs
theorem snoc_get {α : Type} {xs : List α} {x y : α} {i : Nat} (h : (xs ++ [x])[i]? = some y) : (i < xs.length ∧ xs[i]? = some y) ∨ (i = xs.length ∧ x = y) := by
  by_cases z : i < xs.length
  · rw [List.getElem?_append_left z] at h
    exact .inl ⟨z, h⟩
  · rw [List.getElem?_append_right (by omega)] at h
    cases y2 : i - xs.length with
    | zero =>
      rw [y2] at h
      simp at h
      exact .inr ⟨by omega, h⟩
    | succ n => rw [y2] at h; simp at h
theorem get_snoc {α : Type} {xs : List α} {x y : α} {i : Nat} (h : xs[i]? = some y) : (xs ++ [x])[i]? = some y := by
  rw [List.getElem?_append_left (List.getElem?_eq_some_iff.mp h).1]
  exact h
theorem Held.snocV {v : V} {d : D} (h : Held φ σ δ F H vs sds) (r : Rep φ.k F v d) : Held φ σ δ F H (vs ++ [v]) (sds ++ [.val d]) := by
  refine ⟨by simp [h.len], fun i d' e => ?_, fun i d' e => ?_, fun i j d1 d2 p ne e1 e2 v1 v2 => ?_⟩
  · rcases snoc_get e with ⟨hi, e'⟩ | ⟨rfl, e'⟩
    · obtain ⟨v', h1, h2⟩ := h.val i d' e'
      exact ⟨v', get_snoc h1, h2⟩
    · cases e'
      exact ⟨v, by rw [← h.len]; simp, r⟩
  · rcases snoc_get e with ⟨hi, e'⟩ | ⟨rfl, e'⟩
    · obtain ⟨p, h1, h2⟩ := h.own i d' e'
      exact ⟨p, get_snoc h1, h2⟩
    · cases e'
  · rcases snoc_get e1 with ⟨hi, e1'⟩ | ⟨rfl, e1'⟩
    · rcases snoc_get e2 with ⟨hj, e2'⟩ | ⟨rfl, e2'⟩
      · rcases snoc_get v1 with ⟨_, v1⟩ | ⟨z, _⟩
        · rcases snoc_get v2 with ⟨_, v2⟩ | ⟨z, _⟩
          · exact h.dis i j d1 d2 p ne e1' e2' v1 v2
          · rw [h.len] at z; omega
        · rw [h.len] at z; omega
      · cases e2'
    · cases e1'
theorem Held.snocO {p : Addr} {d : D} (h : Held φ σ δ F H vs sds) (fr : Fresh φ σ δ F H p d) (nw : ∀ (i : Nat) (d' : D), sds[i]? = some (.own d') → vs[i]? ≠ some (.ref p)) : Held φ σ δ F H (vs ++ [.ref p]) (sds ++ [.own d]) := by
  refine ⟨by simp [h.len], fun i d' e => ?_, fun i d' e => ?_, fun i j d1 d2 p' ne e1 e2 v1 v2 => ?_⟩
  · rcases snoc_get e with ⟨hi, e'⟩ | ⟨rfl, e'⟩
    · obtain ⟨v', h1, h2⟩ := h.val i d' e'
      exact ⟨v', get_snoc h1, h2⟩
    · cases e'
  · rcases snoc_get e with ⟨hi, e'⟩ | ⟨rfl, e'⟩
    · obtain ⟨p', h1, h2⟩ := h.own i d' e'
      exact ⟨p', get_snoc h1, h2⟩
    · cases e'
      exact ⟨p, by rw [← h.len]; simp, fr⟩
  · have l := h.len
    rcases snoc_get e1 with ⟨hi, e1'⟩ | ⟨rfl, e1'⟩
    · rcases snoc_get e2 with ⟨hj, e2'⟩ | ⟨rfl, e2'⟩
      · rcases snoc_get v1 with ⟨_, v1⟩ | ⟨z, _⟩
        · rcases snoc_get v2 with ⟨_, v2⟩ | ⟨z, _⟩
          · exact h.dis i j d1 d2 p' ne e1' e2' v1 v2
          · omega
        · omega
      · rcases snoc_get v1 with ⟨_, v1⟩ | ⟨z, _⟩
        · rcases snoc_get v2 with ⟨z, _⟩ | ⟨_, z⟩
          · omega
          · cases z
            exact nw i d1 e1' v1
        · omega
    · rcases snoc_get e2 with ⟨hj, e2'⟩ | ⟨rfl, e2'⟩
      · rcases snoc_get v2 with ⟨_, v2⟩ | ⟨z, _⟩
        · rcases snoc_get v1 with ⟨z, _⟩ | ⟨_, z⟩
          · omega
          · cases z
            exact nw j d2 e2' v2
        · omega
      · exact ne rfl
theorem tPs_run {α : Type} {P : α → DEnv → Hp → Hp → Prop} : ∀ {cs : List (Bool × M D)} {F H : Hp} {δ : DEnv} {vs0 : List V} {sds0 : List SD} {f : List SD → M α} {Q : List V → Hp → Prop}, GI φ F H σ δ → Held φ σ δ F H vs0 sds0 → Out φ W σ F ((parE cs).bind f δ) P →
    (∀ sds vs δ' F' H', GI φ F' H' σ δ' → Sub F F' → Held φ σ δ' F' H' (vs0 ++ vs) (sds0 ++ sds) → vs.length = sds.length → Out φ W σ F' (f sds δ') P → Q vs H') → tPs φ.k W cs σ H Q
  | [], F, H, δ, vs0, sds0, f, Q, g, hd, q, h => h [] [] δ F H g (Sub.refl F) (by rw [List.append_nil, List.append_nil]; exact hd) rfl q.pure
  | (false, m) :: r, F, H, δ, vs0, sds0, f, Q, g, hd, q, h => by
    rw [parE, bind_assoc] at q
    refine ⟨F, H, prB [] σ δ, ?_⟩
    rw [if_neg Bool.false_ne_true]
    refine evalB_run g q fun d v F1 H1 δ2 g0 g1 s1 rv q1 => ?_
    rw [bind_assoc] at q1
    refine tPs_run g1 ((hd.block g g0).snocV rv) q1 fun sds vs δ3 F3 H3 g3 s3 hd3 l3 q3 => ?_
    rw [List.append_assoc, List.append_assoc] at hd3
    exact h (.val d :: sds) (v :: vs) δ3 F3 H3 g3 (s1.trans s3) hd3 (by simp [l3]) q3.pure
  | (true, m) :: r, F, H, δ, vs0, sds0, f, Q, g, hd, q, h => by
    rw [parE, bind_assoc] at q
    refine ⟨F, H, prB [] σ δ, ?_⟩
    rw [if_pos rfl]
    refine evalB_runN g q fun d p F1 H1 δ2 g0 g1 s1 hp rv q1 => ?_
    rw [bind_assoc] at q1
    refine tPs_run g1 ((hd.block g g0).snocO rv fun i d' e1 e2 => ?_) q1 fun sds vs δ3 F3 H3 g3 s3 hd3 l3 q3 => ?_
    · obtain ⟨p', e3, fr⟩ := hd.own i d' e1
      rw [e2] at e3
      cases e3
      exact fr.own.ne hp
    rw [List.append_assoc, List.append_assoc] at hd3
    exact h (.own d :: sds) (.ref p :: vs) δ3 F3 H3 g3 (s1.trans s3) hd3 (by simp [l3]) q3.pure

/-! ### names = values -/
def storeT (i : Nat) : SD → M Unit
  | .val d => storeM i d
  | .own d => storeN i d
  | _ => badM
def parT : List Nat → List SD → M Unit
  | [], [] => M.pure ()
  | i :: is, d :: ds => (storeT i d).bind fun _ => parT is ds
  | _, _ => badM
def parS (cs : List (Bool × M D)) (is : List Nat) : M Fl := (parE cs).bind fun sds => (parT is sds).bind fun _ => M.pure .nx
def setAll (σ : L2.St) : List Nat → List V → L2.St
  | i :: is, v :: vs => setAll (σ.set i (some v)) is vs
  | _, _ => σ
theorem Held.tail {v : V} {sd : SD} (h : Held φ σ δ F H (v :: vs) (sd :: sds)) : Held φ σ δ F H vs sds :=
  ⟨by simpa using h.len, fun i d e => by simpa using h.val (i + 1) d (by simpa using e), fun i d e => by simpa using h.own (i + 1) d (by simpa using e), fun i j d e p ne e1 e2 v1 v2 => h.dis (i + 1) (j + 1) d e p (by omega) (by simpa using e1) (by simpa using e2) (by simpa using v1) (by simpa using v2)⟩
theorem Held.stored {i : Nat} {w : V} {sd : SD} (h : Held φ σ δ F H vs sds) (hw : sd.owns = true → ∀ (j : Nat) (d : D), sds[j]? = some (.own d) → vs[j]? ≠ some w) : Held φ (σ.set i (some w)) (δ.set i sd) F H vs sds := by
  refine ⟨h.len, h.val, fun j d e => ?_, h.dis⟩
  obtain ⟨p, h1, fr⟩ := h.own j d e
  refine ⟨p, h1, fr.h0, fr.f, fr.own, fun l se e1 o1 z => ?_⟩
  by_cases y : i = l
  · subst y
    have hl : i < (δ.set i sd).length := (List.getElem?_eq_some_iff.mp e1).1
    rw [List.length_set] at hl
    rw [List.getElem?_set_self hl] at e1
    cases e1
    have hl2 : i < (σ.set i (some w)).length := (List.getElem?_eq_some_iff.mp z).1
    rw [List.length_set] at hl2
    rw [List.getElem?_set_self hl2] at z
    cases z
    exact hw o1 j d e h1
  · rw [List.getElem?_set_ne y] at e1 z
    exact fr.nd l se e1 o1 z
theorem storeN_key {α : Type} {i : Nat} {d : D} {f : Unit → M α} {p : Addr} (g : GI φ F H σ δ) (r : Fresh φ σ δ F H p d) : (storeN i d).bind f δ = .bad ∨ ((storeN i d).bind f δ = f () (δ.set i (.own d)) ∧ GI φ F H (σ.set i (some (.ref p))) (δ.set i (.own d))) := by
  have key : ∀ {sd : SD}, δ[i]? = some sd → sd.lent = false → storeN i d δ = .ok () (δ.set i (.own d)) → (storeN i d).bind f δ = .bad ∨ ((storeN i d).bind f δ = f () (δ.set i (.own d)) ∧ GI φ F H (σ.set i (some (.ref p))) (δ.set i (.own d))) := fun {sd} e l z => by
    unfold M.bind
    rw [z]
    exact .inr ⟨rfl, g.storeOwn e l r⟩
  cases e : δ[i]? with
  | none => unfold M.bind storeN; rw [e]; exact .inl rfl
  | some sd =>
    cases sd with
    | no => exact key e rfl (by unfold storeN; rw [e])
    | val _ => exact key e rfl (by unfold storeN; rw [e])
    | own _ => exact key e rfl (by unfold storeN; rw [e])
    | arg _ => unfold M.bind storeN; rw [e]; exact .inl rfl
    | frz _ => unfold M.bind storeN; rw [e]; exact .inl rfl
theorem storeM_key {α : Type} {i : Nat} {d : D} {f : Unit → M α} {v : V} (g : GI φ F H σ δ) (r : Rep φ.k F v d) : (storeM i d).bind f δ = .bad ∨ ((storeM i d).bind f δ = f () (δ.set i (.val d)) ∧ GI φ F H (σ.set i (some v)) (δ.set i (.val d))) := by
  have key : ∀ {sd : SD}, δ[i]? = some sd → sd.lent = false → storeM i d δ = .ok () (δ.set i (.val d)) → (storeM i d).bind f δ = .bad ∨ ((storeM i d).bind f δ = f () (δ.set i (.val d)) ∧ GI φ F H (σ.set i (some v)) (δ.set i (.val d))) := fun {sd} e l z => by
    unfold M.bind
    rw [z]
    exact .inr ⟨rfl, g.store e l r⟩
  cases e : δ[i]? with
  | none => unfold M.bind storeM; rw [e]; exact .inl rfl
  | some sd =>
    cases sd with
    | no => exact key e rfl (by unfold storeM; rw [e])
    | val _ => exact key e rfl (by unfold storeM; rw [e])
    | own _ => exact key e rfl (by unfold storeM; rw [e])
    | arg _ => unfold M.bind storeM; rw [e]; exact .inl rfl
    | frz _ => unfold M.bind storeM; rw [e]; exact .inl rfl
theorem parT_run {D : Ends} : ∀ {is : List Nat} {vs : List V} {sds : List SD} {σ : L2.St} {δ : DEnv}, GI φ F H σ δ → Held φ σ δ F H vs sds → SOut φ W F (((parT is sds).bind fun _ => M.pure .nx) δ) D → D.nx (setAll σ is vs) H
  | [], [], [], σ, δ, g, hd, q => q F H σ g (Sub.refl F)
  | [], v :: vs, [], σ, δ, g, hd, q => by have := hd.len; simp at this
  | [], vs, sd :: sds, σ, δ, g, hd, q => q.elim
  | i :: is, vs, [], σ, δ, g, hd, q => q.elim
  | i :: is, [], sd :: sds, σ, δ, g, hd, q => by have := hd.len; simp at this
  | i :: is, v :: vs, sd :: sds, σ, δ, g, hd, q => by
    rw [parT, bind_assoc] at q
    cases sd with
    | val d =>
      obtain ⟨v', h1, r⟩ := hd.val 0 d rfl
      cases h1
      change SOut φ W F ((storeM i d).bind _ δ) D at q
      rcases storeM_key (f := fun _ => (parT is sds).bind fun _ => M.pure Fl.nx) (i := i) g r with z | ⟨z, g2⟩
      · rw [z] at q; exact q.elim
      · rw [z] at q
        exact parT_run (is := is) (vs := vs) (sds := sds) g2 (hd.tail.stored fun o => (by cases o)) q
    | own d =>
      obtain ⟨p, h1, r⟩ := hd.own 0 d rfl
      cases h1
      change SOut φ W F ((storeN i d).bind _ δ) D at q
      rcases storeN_key (f := fun _ => (parT is sds).bind fun _ => M.pure Fl.nx) (i := i) g r with z | ⟨z, g2⟩
      · rw [z] at q; exact q.elim
      · rw [z] at q
        exact parT_run (is := is) (vs := vs) (sds := sds) g2 (hd.tail.stored fun _ j d' e1 e2 => hd.dis 0 (j + 1) d d' p (by omega) rfl (by simpa using e1) rfl (by simpa using e2)) q
    | no => exact q.elim
    | arg _ => exact q.elim
    | frz _ => exact q.elim
theorem parS_run {D : Ends} {is : List Nat} {Q : List V → Hp → Prop} (h : tS φ W (parS cs is) D σ H) (hq : ∀ sds vs δ' F' H', GI φ F' H' σ δ' → Held φ σ δ' F' H' vs sds → vs.length = sds.length → SOut φ W F' (((parT is sds).bind fun _ => M.pure .nx) δ') D → Q vs H') : tPs φ.k W cs σ H Q := by
  obtain ⟨F, δ, g, q⟩ := h
  have q' : Out φ W σ F (((parE cs).bind M.pure) δ) fun sds δ' F' _ => SOut φ W F' (((parT is sds).bind fun _ => M.pure .nx) δ') D := by
    have e : (parE cs).bind M.pure = parE cs := by
      funext δ
      unfold M.bind
      cases parE cs δ <;> rfl
    rw [e]
    exact SOut.bind (σ := σ) q
  exact tPs_run g Held.nil q' fun sds vs δ' F' H' g' s' hd l q2 => hq sds vs δ' F' H' g' (by simpa using hd) l (q2 F' H' g' (Sub.refl F'))
variable {pos : Pos}
theorem storeM_noexc {i : Nat} {d : D} {x : Ex} {δ' : DEnv} (z : storeM i d δ = .exc x δ') : False := by
  unfold storeM at z
  cases e : δ[i]? with
  | none => rw [e] at z; cases z
  | some sd => rw [e] at z; cases sd <;> cases z
theorem storeN_noexc {i : Nat} {d : D} {x : Ex} {δ' : DEnv} (z : storeN i d δ = .exc x δ') : False := by
  unfold storeN at z
  cases e : δ[i]? with
  | none => rw [e] at z; cases z
  | some sd => rw [e] at z; cases sd <;> cases z
theorem parT_len {D : Ends} : ∀ {is : List Nat} {sds : List SD} {δ : DEnv}, SOut φ W F (((parT is sds).bind fun _ => M.pure .nx) δ) D → is.length = sds.length
  | [], [], _, _ => rfl
  | [], _ :: _, _, q => q.elim
  | _ :: _, [], _, q => q.elim
  | i :: is, sd :: sds, δ, q => by
    rw [parT, bind_assoc] at q
    unfold M.bind at q
    cases z : storeT i sd δ with
    | bad => rw [z] at q; exact q.elim
    | exc x δ' =>
      exfalso
      cases sd with
      | val d => exact storeM_noexc z
      | own d => exact storeN_noexc z
      | no => cases z
      | arg _ => cases z
      | frz _ => cases z
    | ok u δ' =>
      rw [z] at q
      exact congrArg Nat.succ (parT_len (δ := δ') q)
/-- a, b = .., .. of two local names, no tuple made -/
theorem ds_par2 (i j : Nat) {x y : Str} {a b : Expr} {px py pt : Pos} {kt k2 pt2} (hc : X.calm = true) (hN : X.N.Nodup) (ha : DPs X φ.k W [a, b] cs) (hi : X.N[i]? = some x := by rfl) (hj : X.N[j]? = some y := by rfl) (hij : i ≠ j := by decide)
    (hx : X.env.scope.names.lookup x = some .local := by rfl) (hy : X.env.scope.names.lookup y = some .local := by rfl)
    (hw : swappedStores [.Tuple [.Name x px, .Name y py] kt pt] (.Tuple [a, b] k2 pt2) X.env = pure (some [x, y]) := by rfl)
    (hs : swapsWithSole [.Tuple [.Name x px, .Name y py] kt pt] (.Tuple [a, b] k2 pt2) pos.line X.env = pure false := by rfl) :
    DS X φ W (.Assign [.Tuple [.Name x px, .Name y py] kt pt] (.Tuple [a, b] k2 pt2) pos) (parS cs [i, j]) := PS.imp (ps_par hc hN hi hj hij hx hy ha hw hs) fun D σ H h => by
  refine parS_run h fun sds vs δ' F' H' g hd l q => ?_
  have hl := parT_len q
  rw [← l] at hl
  match vs, hl, hd with
  | [v, w], _, hd => exact ⟨v, w, rfl, parT_run g hd q⟩
/-- names = values by a tuple -/
theorem ds_parN (is : List Nat) {tgs es : List Expr} {kt k2 : Nat} {pt pt2 : Pos} {gs : TGs} (hc : X.calm = true) (ha : DPs X φ.k W es cs) (hg : PGs X tgs gs) (hgs : ∀ vs σ H Q, vs.length = is.length → Q (setAll σ is vs) H → gs vs σ H Q) (hn : (assignEach tgs X.env).length = is.length := by rfl)
    (hst : (assignEach tgs X.env).findIdx? (·.1) = none := by rfl) (hsz : shortS is.length = true := by rfl)
    (hs : swapsWithSole [.Tuple tgs kt pt] (.Tuple es k2 pt2) pos.line X.env = pure false := by rfl) (hw : swappedStores [.Tuple tgs kt pt] (.Tuple es k2 pt2) X.env = pure none := by rfl)
    (h1 : (assignEach [.Tuple tgs kt pt] X.env).map (·.2) = [assign (.Tuple tgs kt pt) X.env] := by rfl) :
    DS X φ W (.Assign [.Tuple tgs kt pt] (.Tuple es k2 pt2) pos) (parS cs is) := PS.imp (ps_asg (pe_tup ha) (pg_tup hc hg hn hst) hs hw h1) fun D σ H h => by
  refine parS_run h fun sds vs δ' F' H' g hd l q => ?_
  have hl := parT_len q
  rw [← l] at hl
  have hsz' : is.length ≤ sizeLine := of_decide_eq_true hsz
  refine ⟨by rw [← hl]; exact hsz', fun p hp => ⟨p, vs, rfl, .of upd_same, hl.symm, hgs vs σ _ _ hl.symm ?_⟩⟩
  have n := New.made (o := .tup vs) g.fh hp
  refine parT_run (g.new n) ⟨hd.len, hd.val, fun i d e => ?_, hd.dis⟩ q
  obtain ⟨a, h1, fr⟩ := hd.own i d e
  exact ⟨a, h1, fr.h0, fr.f, fr.own.mono (Sub.refl F') fun o ho => n.hh _ o ho, fr.nd⟩
theorem pgs_names0 : PGs X [] gNil := pgs_nil
theorem setAll_nil {vs : List V} : setAll σ [] vs = σ := by cases vs <;> rfl
theorem gs0 : ∀ (vs : List V) (σ : L2.St) (H : Hp) (Q : L2.St → Hp → Prop), vs.length = ([] : List Nat).length → Q (setAll σ [] vs) H → gNil vs σ H Q := fun vs σ H Q hl q => by
  cases vs with
  | nil => exact ⟨rfl, q⟩
  | cons _ _ => cases hl
theorem gs1 {i : Nat} {is : List Nat} {gs : TGs} (h : ∀ (vs : List V) (σ : L2.St) (H : Hp) (Q : L2.St → Hp → Prop), vs.length = is.length → Q (setAll σ is vs) H → gs vs σ H Q) :
    ∀ (vs : List V) (σ : L2.St) (H : Hp) (Q : L2.St → Hp → Prop), vs.length = (i :: is).length → Q (setAll σ (i :: is) vs) H → gCons (gName i) gs vs σ H Q := fun vs σ H Q hl q => by
  cases vs with
  | nil => cases hl
  | cons v vs => exact ⟨v, vs, rfl, h vs _ H Q (by simpa using hl) q⟩
end
end G
set_option maxRecDepth 100000
set_option maxHeartbeats 4000000
namespace GW
open PySem PySem.Spec PySem.Calls PyProof.Rows PySem.W
section
variable {prog : Program} {w : World} {A : Around} {E : Value → Shared → Prop} {s : Shared} {K : Frag} {x C f L : Addr} {h₀ : Heap} {m : Str → Option Value} {ox : Obj} {od : Option Obj}
/-- a builtin special method, asked for -/
theorem ifBoundB {M : Model} {name : Str} {id : String} {args : List Value} {Q : Option Value → Shared → Prop} (X : K.In s.heap) (I : InstAt s.heap x ox C od) (hs : findIn K (.ref C) name = some (some (.builtin id)))
    (hb : ∀ self, bindSpecial (.builtin id) self = pure (.builtin id, [self])) (h : wpAny M A (call (.builtin id) (.ref x :: args)) (fun v => Q (some v)) E s) : wpAny M A (callSpecialIfBound? (.ref x) name args) Q E s := by
  simp only [callSpecialIfBound?, bindSpecialIfBound?]
  refine wpAny_holding (wpAny_bind (wpAny_bind (wpAny_bind (I.type.here ((looks_findIn X hs).here ?_)))))
  refine wpAny_bind (wpAny_askSetting (wpAny_ite ?_))
  have fin : wpAny M A (call (.builtin id) ([.ref x] ++ args) >>= fun v => pure (some v)) Q E s := wpAny_bind (wpAny_mono h (fun v s' h' => wpAny_pure h') fun _ _ h' => h')
  split
  · exact wpAny_bind ((Looks.of_pure (hb _)).here (wpAny_pure (by exact fin)))
  · exact wpAny_tryCatch (wpAny_bind ((Looks.of_pure (hb _)).here (wpAny_pure (by exact fin))))
/-- x != b, the class has an own == alone -/
theorem ne_K {b tb : Value} {Q : Value → Shared → Prop} (hu : A.units + 1 < cLine) (F : Fr h₀ L s.heap m) (X₀ : K.In h₀) (I : InstAt s.heap x ox C od) (hb : Looks (model prog w) s.heap (typeOf b) tb) (hn : notFirst K C tb = true)
    (hs : findIn K (.ref C) "__ne__" = some (some (.builtin "object.__ne__"))) (hm : mroIn K C (.type "object") = some true) (he : findIn K (.ref C) "__eq__" = some (some (.ref f))) (hf : isFn K (.ref f) = true)
    (h : wpAny (model prog w) A.in1 (call (.ref f) [.ref x, b]) (fun v s' => ∃ c, v = .bool c ∧ Q (.bool (!c)) s') E s) : wpAny (model prog w) A (richCompare .NotEq (.ref x) b) Q E s := by
  have X := X₀.keeps F.keep
  have one : wpAny (model prog w) A (tryCompare (.ref x) (cmpInfo .NotEq).2.1 b) (fun r s' => ∃ v, r = some v ∧ Q v s') E s := by
    unfold tryCompare
    refine wpAny_bind (ifBoundB X I hs PySem.F.slot_object_ne.bind ?_)
    refine wpAny_call (codeAny_call_builtin PySem.F.slot_object_ne.plain PySem.F.cmpEntry_ne (check_slot (i := "object.__ne__") (owner := "object") (n := "__ne__") (by decide +kernel) (by decide +kernel) (I.type.andThen (looks_mroIn X hm)) (PySem.F.cmpArgs_ne _ _) ?_))
    unfold Builtin.«object.__ne__»
    refine wpAny_bind (m := slotArgs "__ne__" 1 _) (wpAny_pure ?_)
    refine wpAny_bind (m := cRoomFor _ _) (wpAny_cRoomFor (show A.in1.units < cLine from hu) ?_)
    refine wpAny_bind (m := callSpecialIfBound? (.ref x) (Str.ofString "__eq__") _) (ifBound_K X I he hf (wpAny_mono h (fun r s' hq => ?_) fun _ _ y => y))
    obtain ⟨c, rfl, hq⟩ := hq
    refine wpAny_bind (m := truthy (.bool c)) (wpAny_truthy_bool ?_)
    exact wpAny_pure (wpAny_pure ⟨_, rfl, hq⟩)
  unfold richCompare
  simp only [oneThing_ref]
  refine wpAny_holding (wpAny_bind (wpAny_cRoomFor (Nat.lt_of_succ_lt hu) ?_))
  refine wpAny_bind (I.type.here (wpAny_bind (hb.here ?_)))
  split
  · rename_i q
    have e : subIn K tb (.ref C) = some false := by
      rcases Bool.or_eq_true_iff.mp hn with e | e
      · rw [beq_iff_eq.mp e] at q; simp at q
      · exact beq_iff_eq.mp e
    refine wpAny_bind ((looks_subIn X e).here ?_)
    simp only [Bool.false_eq_true, if_false]
    refine wpAny_bind (wpAny_mono one (fun r s' z => ?_) fun _ _ e => e)
    obtain ⟨v, rfl, hq⟩ := z
    exact wpAny_pure hq
  · refine wpAny_bind (wpAny_pure ?_)
    simp only [Bool.false_eq_true, if_false]
    refine wpAny_bind (wpAny_mono one (fun r s' z => ?_) fun _ _ e => e)
    obtain ⟨v, rfl, hq⟩ := z
    exact wpAny_pure hq
end
end GW

namespace G
open PySem PySem.Spec PyProof.Rows L2

/-! ### operators on kept values -/
def OpK (k : KX) (r : R2) (f : D → D → Option D) : Prop := ∀ F H x y a b d, Sub F H → Rep k F x a → Rep k F y b → f a b = some d → ∀ Q : VK, (∀ F' H' v, New F H F' H' → Rep k F' v d → Q v H') → r x y H Q
def UnK (k : KX) (r : V → Hp → VK → Prop) (f : D → Option D) : Prop := ∀ F H x a d, Sub F H → Rep k F x a → f a = some d → ∀ Q : VK, (∀ F' H' v, New F H F' H' → Rep k F' v d → Q v H') → r x H Q
def CaK (k : KX) (r : List V → Hp → VK → Prop) (f : List D → Option D) : Prop := ∀ F H vs ds d, Sub F H → RepL k F vs ds → f ds = some d → ∀ Q : VK, (∀ F' H' v, New F H F' H' → Rep k F' v d → Q v H') → r vs H Q
theorem OpV.kept {k : KX} {r : R2} {f : D → D → Option D} (h : OpV k r f) : OpK k r f := fun F H x y a b d s ra rb e Q q => h F H x y a b d s (.inl ra) (.inl rb) e Q q
def binK (f : D → D → Option D) (ma mb : M D) : M D := ma.bind fun a => mb.bind fun b => lift (f a b)
def unK (f : D → Option D) (ma : M D) : M D := ma.bind fun a => lift (f a)
def callKM (f : List D → Option D) (ms : List (M D)) : M D := (evalC ms).bind fun ds => lift (f ds)
section
variable {X : Cx} {φ : Fx} {W : WX} {F F' H H' : Hp} {σ σ2 : L2.St} {δ δ2 : DEnv} {Q : VK} {ma mb : M D} {a b e : Expr} {es : List Expr} {pos : Pos} {ms : List (M D)}
theorem tOp_binK {r : R2} {f : D → D → Option D} (hr : OpK φ.k r f) (h : tM φ W (binK f ma mb) σ H Q) : tOp r (tM φ W ma) (tM φ W mb) σ H Q := by
  obtain ⟨F, δ, g, q⟩ := h
  refine tM_run g q fun x v1 δ1 F1 H1 g1 s1 r1 q1 => ?_
  refine tM_run g1 q1 fun y v2 δ2 F2 H2 g2 s2 r2 q2 => ?_
  obtain ⟨d, e, q3⟩ := q2.lift
  exact hr F2 H2 v1 v2 x y d g2.fh (Rep.mono s2 r1) r2 e Q fun F' H' v n rv => q3 F' H' (g2.new n) n.ff v rv
theorem d_cmpK {op : CmpOp} {r : R2} {f : D → D → Option D} (hr : OpK φ.k r f) (ho : OpR X (compareOp op) r) (ha : DE X φ W a ma) (hb : DE X φ W b mb) (hm : behindInMarks op b = false := by first | exact nobehind _ (by decide) (by decide) | rfl) : DE X φ W (.Compare a [op] [b] pos) (binK f ma mb) :=
  PE.imp (pe_cmpR ho ha hb hm) fun _ _ _ h => tOp_binK hr h
theorem dt_cmpK {op : CmpOp} {r : R2} {f : D → D → Option D} (hr : OpK φ.k r f) (ho : OpR X (compareOp op) r) (ha : DE X φ W a ma) (hb : DE X φ W b mb) (hm : behindInMarks op b = false := by first | exact nobehind _ (by decide) (by decide) | rfl) : DT X φ W (.Compare a [op] [b] pos) (testM (binK f ma mb)) :=
  PT.imp (pt_cmpR ho ha hb hm) fun σ H Q q => by
    obtain ⟨F, δ, g, q⟩ := q
    refine tOp_binK (W := W) hr ⟨F, δ, g, q.bind.mono (Sub.refl F) fun d δ' F' H' g' s' z v r => ?_⟩
    obtain ⟨k, e, q2⟩ := z.lift
    cases d with
    | bl k' =>
      cases e
      cases r
      exact ⟨_, rfl, q2 F' H' g' (Sub.refl F')⟩
    | _ => cases e
theorem d_opK {op : Operator} {r : R2} {f : D → D → Option D} (hr : OpK φ.k r f) (ho : OpR X (binaryOp op) r) (ha : DE X φ W a ma) (hb : DE X φ W b mb) : DE X φ W (.BinOp a op b pos) (binK f ma mb) :=
  PE.imp (pe_op ho ha hb) fun _ _ _ h => tOp_binK hr h
theorem d_unK {op : UnaryOp} {r : V → Hp → VK → Prop} {f : D → Option D} (hr : UnK φ.k r f) (ho : UnR X (unaryOp op) r) (ha : DE X φ W a ma) : DE X φ W (.UnaryOp op a pos) (unK f ma) :=
  PE.imp (pe_un ho ha) fun σ H Q h => by
    obtain ⟨F, δ, g, q⟩ := h
    refine tM_run g q fun x v1 δ1 F1 H1 g1 s1 r1 q1 => ?_
    obtain ⟨d, e, q3⟩ := q1.lift
    exact hr F1 H1 v1 x d g1.fh r1 e Q fun F' H' v n rv => q3 F' H' (g1.new n) n.ff v rv
theorem tCB_K {r : List V → Hp → VK → Prop} {f : List D → Option D} (hr : CaK φ.k r f) (h : tM φ W (callKM f ms) σ H Q) : tCB r (tCs φ W ms) σ H Q := by
  obtain ⟨F, δ, g, q⟩ := h
  refine tCs_run g q fun ds vs δ1 F1 H1 g1 s1 l1 q1 => ?_
  obtain ⟨d, e, q3⟩ := q1.lift
  exact hr F1 H1 vs ds d g1.fh l1 e Q fun F' H' v n rv => q3 F' H' (g1.new n) n.ff v rv
variable {x : Str} {p : Pos} {id T : String} {r : List V → Hp → VK → Prop} {f : List D → Option D}
theorem d_callBK (hr : CaK φ.k r f) (hc : CallR X (.builtin id) r) (hg : Gl X x) (hm : X.mg x = none) (hv : bootBuiltins x = some (.builtin id)) (ha : DC X φ W (e :: es) ms) (hn : x ≠ "__name__" := by decide) (hdb : (x == ("__debug__" : Str)) = false := by decide)
    (he : starEach (e :: es) X.env = (false, eval e X.env) :: starEach es X.env := by rfl) (hpl : (backTo pos (starEach es X.env)).any (·.1) = false := by rfl) : DE X φ W (.Call (.Name x p) (e :: es) [] pos) (callKM f ms) :=
  PE.imp (pe_callB hc hg hm hv ha hn hdb he hpl) fun _ _ _ h => tCB_K hr h
theorem d_callTK (hr : CaK φ.k r f) (hc : CallR X (.type T) r) (hg : Gl X x) (hm : X.mg x = none) (hv : bootBuiltins x = some (.type T)) (ha : DC X φ W (e :: es) ms) (hn : x ≠ "__name__" := by decide) (hdb : (x == ("__debug__" : Str)) = false := by decide)
    (he : starEach (e :: es) X.env = (false, eval e X.env) :: starEach es X.env := by rfl) (hpl : (backTo pos (starEach es X.env)).any (·.1) = false := by rfl) : DE X φ W (.Call (.Name x p) (e :: es) [] pos) (callKM f ms) :=
  PE.imp (pe_callTy hc hg hm hv ha hn hdb he hpl) fun _ _ _ h => tCB_K hr h

/-! ### own functions on kept values -/
def fnV (fn : List SD → R SD) (ds : List D) : Option D := match fn (ds.map SD.val) with
  | .ok (.val d) _ => some d
  | .ok (.own d) _ => some d
  | _ => none
theorem noOwn {vs : List V} {ds : List D} {a : Addr} (h : OwnArg vs (ds.map SD.val) a) : False := by
  obtain ⟨i, d, e, _⟩ := h
  rw [List.getElem?_map] at e
  cases z : ds[i]? with
  | none => rw [z] at e; cases e
  | some y => rw [z] at e; cases e
theorem args_val {k : KX} : ∀ {vs : List V} {ds : List D}, RepL k F vs ds → ArgsOk k F H vs (ds.map SD.val)
  | _, _, .nil => .nil
  | _, _, .cons r rs => .cons (.val r) (args_val rs)
theorem Grow.new {vs : List V} {ds : List D} (g : Grow (OwnArg vs (ds.map SD.val)) F H F' H') : New F H F' H' :=
  ⟨g.ff, g.fh, fun a o h => g.hh a o h noOwn, fun a o h f => g.nf a o h f noOwn⟩
theorem FD.ofV {k : KX} {fn : List SD → R SD} {vs : List V} {ds : List D} {d : D} {E : XK} (s : Sub F H) (r : RepL k F vs ds) (e : fnV fn ds = some d) (h : ∀ F' H' v, New F H F' H' → Rep k F' v d → Q v H') : FD k fn vs H Q E := by
  refine ⟨F, ds.map SD.val, s, args_val r, fun i j a d e ne e1 e2 v1 v2 => (noOwn ⟨i, d, e1, v1⟩).elim, ?_⟩
  unfold fnV at e
  cases z : fn (ds.map SD.val) with
  | bad => rw [z] at e; cases e
  | exc x rs => rw [z] at e; cases e
  | ok r0 rs =>
    rw [z] at e
    refine fun F' H' v fe ro => ?_
    have n := fe.gr.new
    cases r0 with
    | val d' => cases e; exact h F' H' v n ro
    | own d' =>
      cases e
      obtain ⟨p, rfl, h1, h2, w⟩ := ro
      obtain ⟨F'', n2, r2⟩ := n.froze1 h1 h2 w
      exact h F'' H' _ n2 r2
    | no => cases e
    | arg _ => cases e
    | frz _ => cases e
/-- the callee runs: nothing may be raised -/
theorem Gf.runV {k : KX} {lv : Nat} {g : Addr} {fn : List SD → R SD} {A : Around} {pins : List (Addr × Obj)} {s : Shared} {us : List Value} {vs : List V} {E' : Value → Shared → Prop} (Gx : Gf X k lv g fn) (hr : Room lv A) (hg : A.guards = some []) (hf : A.frames = X.A.frames) (I : Inv X pins σ H s) (r : Vals vs us)
    (h : FD k fn vs H Q fun _ _ _ => False) : wpAny (model X.prog X.w) A (call (.ref g) us) (EP X pins σ Q) E' s := by
  obtain ⟨fd, ps, Fn, hb, _⟩ := Gx.ex
  have hl : us.length = ps.length := by rw [← r.length]; exact Fn.len _ _ _ _ h
  have b := hb s us I.kIn (by rw [List.append_nil]; exact hl)
  rw [List.append_nil] at b
  have e0 : Env0 X.prog X.w X.K X.mg X.base A X.stack s H := by
    have e := I.env0
    exact ⟨by rw [hf]; exact e.frames, e.mod, e.bs, e.bsz, e.funs, e.frf, e.hok, e.bare⟩
  refine wpAny_call (codeAny_mono (Fn.run A X.stack s H ⟨us, []⟩ us vs Q (fun _ _ _ => False) hr hg e0 b r h) fun r s' hq => ?_)
  cases r with
  | error e =>
    obtain ⟨_, _, _, _, _, _, _, _, _, _, _, _, _, _, _, _, z⟩ := XE.of_call (W := fun _ _ _ _ => False) I (fun _ _ _ z => z) hq
    exact z.elim
  | ok fl =>
    cases fl with
    | ret u => exact I.after hq
    | next => exact False.elim hq
    | brk => exact False.elim hq
    | cont => exact False.elim hq
end
end G
set_option maxRecDepth 100000
set_option maxHeartbeats 4000000
namespace G
open PySem PySem.Spec PyProof.Rows L2

/-! ### a value's type -/
inductive TK where
  | t (T : String)
  | c (n : Nat)
def TK.same : TK → TK → Bool
  | .t a, .t b => a == b
  | .c a, .c b => a == b
  | _, _ => false
theorem TK.same_eq {a b : TK} (h : a.same b = true) : a = b := by
  cases a <;> cases b <;> first | (rw [beq_iff_eq.mp h]) | cases h
def tkD : D → Option TK
  | .non => some (.t "NoneType")
  | .bl _ => some (.t "bool")
  | .int _ => some (.t "int")
  | .str _ => some (.t "str")
  | .lst _ => some (.t "list")
  | .scr _ => some (.t "list")
  | .tup _ => some (.t "tuple")
  | .dk _ => some (.t "dict")
  | .dt _ => some (.t "dict")
  | .obj c _ => some (.c c)
  | _ => none
def tkV (k : KX) : TK → Value
  | .t T => .type T
  | .c n => .ref (k.cm n)
section
variable {X : Cx} {k : KX} {F H : Hp} {σ : L2.St} {pins : List (Addr × Obj)} {s : Shared}
theorem looks_ref {a : Addr} {o : Obj} {v : Value} (e : s.heap.get? a = some o) (c : o.cls = v) : PySem.W.Looks (model X.prog X.w) s.heap (typeOf (.ref a)) v := fun A Q E s' kk q => wpAny_typeOf_ref (kk _ _ e) (by rw [c]; exact q)
theorem Rep.looks {x : V} {d : D} {u : Value} {τ : TK} (I : L2.Inv X pins σ H s) (r : Rep k F x d) (sb : Sub F H) (hK : k.K = X.K) (e : tkD d = some τ) (rv : RelV x u) : PySem.W.Looks (model X.prog X.w) s.heap (typeOf u) (tkV k τ) := by
  cases d with
  | non => cases e; cases r; cases rv; exact .of_pure rfl
  | bl b => cases e; cases r; cases rv; exact .of_pure rfl
  | int b => cases e; cases r; obtain ⟨t, rfl⟩ := rv; exact .of_pure rfl
  | str b => cases e; cases r; obtain ⟨t, rfl⟩ := rv; exact .of_pure rfl
  | lst b =>
    cases e
    cases r with
    | @lst a vs _ h l =>
      obtain rfl : u = Value.ref a := rv
      obtain ⟨its, _, ⟨o, n, ho, hc, _⟩, _⟩ := I.list (.of (sb _ _ h))
      exact looks_ref ho hc
  | scr b =>
    cases e
    cases r with
    | @scr a vs _ h l =>
      obtain rfl : u = Value.ref a := rv
      have h2 := sb.sq h
      rw [hK] at h2
      obtain ⟨its, _, ⟨o, n, ho, hc, _⟩, _⟩ := I.list h2
      exact looks_ref ho hc
  | tup b =>
    cases e
    cases r with
    | @tup a vs _ h l =>
      obtain rfl : u = Value.ref a := rv
      obtain ⟨its, _, ⟨o, ho, hc, _⟩, _⟩ := I.tuple (.of (sb _ _ h))
      exact looks_ref ho hc
  | dk b =>
    cases e
    cases r with
    | @dk a vs _ h l =>
      obtain rfl : u = Value.ref a := rv
      obtain ⟨_, _, _, _, o, _, _, ho, ex, _⟩ := I.hok a _ (sb _ _ h)
      exact looks_ref ho ex.1
  | dt b =>
    cases e
    cases r with
    | @dt a vs _ h l =>
      obtain rfl : u = Value.ref a := rv
      obtain ⟨_, _, _, _, o, _, _, ho, ex, _⟩ := I.hok a _ (sb _ _ h)
      exact looks_ref ho ex.1
  | obj c fs =>
    cases e
    cases r with
    | @obj a _ dx fvs _ h l =>
      obtain rfl : u = Value.ref a := rv
      obtain ⟨mA, J, _⟩ := ins_get I.hok (sb _ _ h)
      obtain ⟨od, J, _⟩ := J.look
      exact J.type
  | ty _ => cases e
  | cl _ => cases e
end

/-! ### own operators -/
abbrev Tab := List (Nat × (List SD → R SD))
def ownF (tab : Tab) (kinds : List TK) (g : D → D → Option D) (a b : D) : Option D := match a with
  | .obj c fs => match tab.lookup c, tkD b with
    | some fn, some τ => if kinds.any τ.same then fnV fn [.obj c fs, b] else none
    | _, _ => none
  | _ => g a b
def notD : D → Option D
  | .bl b => some (.bl (!b))
  | _ => none
def ownNeF (tab : Tab) (kinds : List TK) (g : D → D → Option D) (a b : D) : Option D := match a with
  | .obj c fs => match tab.lookup c, tkD b with
    | some fn, some τ => if kinds.any τ.same then (fnV fn [.obj c fs, b]).bind notD else none
    | _, _ => none
  | _ => g a b
def ownU (tab : Tab) (g : D → Option D) (a : D) : Option D := match a with
  | .obj c fs => match tab.lookup c with
    | some fn => fnV fn [.obj c fs]
    | none => none
  | _ => g a
/-- what an own operator needs: the name's def at the class -/
structure OwnOp (X : Cx) (k : KX) (c : Nat) (nm : Str) (kinds : List TK) (fn : List SD → R SD) : Prop where
  ex : ∃ f lv, Gf X k lv f fn ∧ Room (lv + 2) X.A ∧ PySem.W.findIn X.K (.ref (k.cm c)) nm = some (some (.ref f)) ∧ PySem.W.isFn X.K (.ref f) = true
  kd : ∀ τ ∈ kinds, PySem.W.notFirst X.K (k.cm c) (tkV k τ) = true
def OwnOps (X : Cx) (k : KX) (nm : Str) (kinds : List TK) (tab : Tab) : Prop := ∀ c fn, tab.lookup c = some fn → OwnOp X k c nm kinds fn
structure NeOp (X : Cx) (k : KX) (c : Nat) : Prop where
  ne : PySem.W.findIn X.K (.ref (k.cm c)) "__ne__" = some (some (.builtin "object.__ne__"))
  ob : PySem.W.mroIn X.K (k.cm c) (.type "object") = some true
section
variable {X : Cx} {φ : Fx} {k : KX} {kinds : List TK} {tab : Tab} {nm : Str}
theorem OwnOps.nil : OwnOps X k nm kinds [] := fun _ _ h => by cases h
theorem OwnOps.cons {c : Nat} {fn : List SD → R SD} (h : OwnOp X k c nm kinds fn) (r : OwnOps X k nm kinds tab) : OwnOps X k nm kinds ((c, fn) :: tab) := fun c' a' e => by
  rw [List.lookup_cons] at e
  cases z : c' == c with
  | true =>
    rw [z] at e
    cases e
    rw [beq_iff_eq.mp z]
    exact h
  | false =>
    rw [z] at e
    exact r c' a' e
def rOwnC (X : Cx) (k : KX) (nm : Str) : R2 := fun x y H Q => ∃ F d a c dx fs f lv fn τ, Sub F H ∧ x = .ref a ∧ H a = some (.ins (k.cm c) dx fs) ∧ Rep k F y d ∧ tkD d = some τ ∧ PySem.W.notFirst X.K (k.cm c) (tkV k τ) = true ∧ Gf X k lv f fn ∧ Room (lv + 2) X.A ∧
  PySem.W.findIn X.K (.ref (k.cm c)) nm = some (some (.ref f)) ∧ PySem.W.isFn X.K (.ref f) = true ∧ FD k fn [x, y] H Q fun _ _ _ => False
def rOwnNe (X : Cx) (k : KX) : R2 := fun x y H Q => ∃ F d a c dx fs f lv fn τ, Sub F H ∧ x = .ref a ∧ H a = some (.ins (k.cm c) dx fs) ∧ Rep k F y d ∧ tkD d = some τ ∧ PySem.W.notFirst X.K (k.cm c) (tkV k τ) = true ∧ Gf X k lv f fn ∧ Room (lv + 2) X.A ∧
  PySem.W.findIn X.K (.ref (k.cm c)) "__eq__" = some (some (.ref f)) ∧ PySem.W.isFn X.K (.ref f) = true ∧ NeOp X k c ∧ FD k fn [x, y] H (fun v H' => ∃ b, v = .bl b ∧ Q (.bl (!b)) H') fun _ _ _ => False
theorem cmpback {Q : Value → Shared → Prop} {v : V} {w : Value} {s' : Shared} (r : RelV v w) (q : Q w s') : PySem.W.CmpBack Q w s' := by
  cases v with
  | str x => obtain ⟨t, rfl⟩ := r; exact q
  | int x => obtain ⟨t, rfl⟩ := r; exact q
  | bl x => cases r; exact q
  | non => cases r; exact q
  | ref a => cases r; exact q
  | ty n => cases r; exact q
  | byt x => obtain ⟨t, rfl⟩ := r; exact q
  | _ => first | (obtain ⟨t, rfl⟩ := r; exact q) | (cases r; exact q)
theorem op_ownC {op : CmpOp} (hg : X.A.guards = some []) (hK : k.K = X.K) (hop : ∀ a b, compareOp op a b = richCompare op a b) : OpR X (compareOp op) (rOwnC X k (cmpInfo op).2.1) := by
  intro pins s σ H x y v u Q I rx ry h
  obtain ⟨F, d, a, c, dx, fs, f, lv, fn, τ, sb, rfl, ha, rd, ht, hn, Gx, hr, hs, hf, q⟩ := h
  obtain rfl : v = Value.ref a := rx
  obtain ⟨mA, J, _⟩ := ins_get I.hok ha
  obtain ⟨od, J, _⟩ := J.look
  obtain ⟨m, hF⟩ := I.fr
  rw [hop]
  refine PySem.W.cmp_K (op := op) (tb := tkV k τ) hr.units0 hF I.ok.mod.kin J (rd.looks I sb hK ht ry) hn hs hf ?_
  refine wpAny_mono (Gx.runV (Room.mono hr (Nat.le_add_right _ 2)) hg rfl I (.cons (show RelV (V.ref a) (Value.ref a) from rfl) (.cons ry .nil)) q) (fun w s' z => ?_) fun _ _ x => x
  obtain ⟨z', H', I', rz, qz⟩ := z
  exact cmpback rz ⟨z', H', I', rz, qz⟩
theorem op_ownNe (hg : X.A.guards = some []) (hK : k.K = X.K) (hu : X.A.units + 1 < cLine) : OpR X (compareOp .NotEq) (rOwnNe X k) := by
  intro pins s σ H x y v u Q I rx ry h
  obtain ⟨F, d, a, c, dx, fs, f, lv, fn, τ, sb, rfl, ha, rd, ht, hn, Gx, hr, hs, hf, ne, q⟩ := h
  obtain rfl : v = Value.ref a := rx
  obtain ⟨mA, J, _⟩ := ins_get I.hok ha
  obtain ⟨od, J, _⟩ := J.look
  obtain ⟨m, hF⟩ := I.fr
  show wpAny _ _ (richCompare .NotEq _ _) _ _ _
  refine GW.ne_K (tb := tkV k τ) hu hF I.ok.mod.kin J (rd.looks I sb hK ht ry) hn ne.ne ne.ob hs hf ?_
  refine wpAny_mono (Gx.runV (A := X.A.in1) (Room.mono hr.in1 (Nat.le_succ _)) hg rfl I (.cons (show RelV (V.ref a) (Value.ref a) from rfl) (.cons ry .nil)) q) (fun w s' z => ?_) fun _ _ x => x
  obtain ⟨z', H', I', rz, b, rfl, qz⟩ := z
  cases rz
  exact ⟨b, rfl, .bl (!b), H', I', rfl, qz⟩
theorem ok_own {nm : Str} {r : R2} {g : D → D → Option D} (ht : OwnOps X k nm kinds tab) (hg : OpK k r g) : OpK k (fun x y H Q => rOwnC X k nm x y H Q ∨ r x y H Q) (ownF tab kinds g) := fun F H x y a b d s ra rb e Q q => by
  unfold ownF at e
  split at e
  · rename_i c fs
    refine .inl ?_
    cases z : tab.lookup c with
    | none => rw [z] at e; cases e
    | some fn =>
      cases z2 : tkD b with
      | none => rw [z, z2] at e; cases e
      | some τ =>
        rw [z, z2] at e
        dsimp only at e
        cases z3 : kinds.any τ.same with
        | false => rw [z3] at e; cases e
        | true =>
          rw [z3, if_pos rfl] at e
          obtain ⟨⟨f, lv, Gx, hr, hs, hf⟩, kd⟩ := ht c fn z
          obtain ⟨τ', hm, hsm⟩ := List.any_eq_true.mp z3
          have := TK.same_eq hsm
          subst this
          cases ra with
          | @obj aa _ dx fvs _ hH rf =>
            exact ⟨F, b, aa, c, dx, fvs, f, lv, fn, τ, s, rfl, s _ _ hH, rb, z2, kd τ hm, Gx, hr, hs, hf, FD.ofV s (.cons (.obj hH rf) (.cons rb .nil)) e q⟩
  · exact .inr (hg F H x y a b d s ra rb e Q q)
theorem ok_ownNe {r : R2} {g : D → D → Option D} (ht : OwnOps X k "__eq__" kinds tab) (hne : ∀ c fn, tab.lookup c = some fn → NeOp X k c) (hg : OpK k r g) : OpK k (fun x y H Q => rOwnNe X k x y H Q ∨ r x y H Q) (ownNeF tab kinds g) := fun F H x y a b d s ra rb e Q q => by
  unfold ownNeF at e
  split at e
  · rename_i c fs
    refine .inl ?_
    cases z : tab.lookup c with
    | none => rw [z] at e; cases e
    | some fn =>
      cases z2 : tkD b with
      | none => rw [z, z2] at e; cases e
      | some τ =>
        rw [z, z2] at e
        dsimp only at e
        cases z3 : kinds.any τ.same with
        | false => rw [z3] at e; cases e
        | true =>
          rw [z3, if_pos rfl] at e
          obtain ⟨⟨f, lv, Gx, hr, hs, hf⟩, kd⟩ := ht c fn z
          obtain ⟨τ', hm, hsm⟩ := List.any_eq_true.mp z3
          have := TK.same_eq hsm
          subst this
          cases z4 : fnV fn [.obj c fs, b] with
          | none => rw [z4] at e; cases e
          | some d0 =>
            rw [z4] at e
            change notD d0 = some d at e
            cases d0 with
            | bl bb =>
              cases e
              cases ra with
              | @obj aa _ dx fvs _ hH rf =>
                refine ⟨F, b, aa, c, dx, fvs, f, lv, fn, τ, s, rfl, s _ _ hH, rb, z2, kd τ hm, Gx, hr, hs, hf, hne c fn z, FD.ofV s (.cons (.obj hH rf) (.cons rb .nil)) z4 fun F' H' v n rv => ?_⟩
                cases rv
                exact ⟨bb, rfl, q F' H' _ n .bl⟩
            | _ => cases e
  · exact .inr (hg F H x y a b d s ra rb e Q q)
/-- -x -/
def rOwnU (X : Cx) (k : KX) (nm : Str) : V → Hp → VK → Prop := fun x H Q => ∃ a c dx fs f lv fn, x = .ref a ∧ H a = some (.ins (k.cm c) dx fs) ∧ Gf X k lv f fn ∧ Room (lv + 2) X.A ∧
  PySem.W.findIn X.K (.ref (k.cm c)) nm = some (some (.ref f)) ∧ PySem.W.isFn X.K (.ref f) = true ∧ FD k fn [x] H Q fun _ _ _ => False
theorem un_ownNeg (hg : X.A.guards = some []) : UnR X (unaryOp .USub) (rOwnU X k "__neg__") := by
  intro pins s σ H x v Q I rx h
  obtain ⟨a, c, dx, fs, f, lv, fn, rfl, ha, Gx, hr, hs, hf, q⟩ := h
  obtain rfl : v = Value.ref a := rx
  obtain ⟨mA, J, _⟩ := ins_get I.hok ha
  obtain ⟨od, J, _⟩ := J.look
  obtain ⟨m, hF⟩ := I.fr
  exact PySem.W.ksp_neg hF I.ok.mod.kin J hs hf (Gx.runV (Room.mono hr (Nat.le_add_right _ 2)) hg rfl I (.cons (show RelV (V.ref a) (Value.ref a) from rfl) .nil) q)
theorem UnR.or {f : Value → Sem Value} {r r' : V → Hp → VK → Prop} (h : UnR X f r) (h' : UnR X f r') : UnR X f fun x H Q => r x H Q ∨ r' x H Q := by
  intro pins s σ H x v Q I rx q
  rcases q with q | q
  · exact h pins s σ H x v Q I rx q
  · exact h' pins s σ H x v Q I rx q
theorem uk_own {nm : Str} {r : V → Hp → VK → Prop} {g : D → Option D} (ht : OwnOps X k nm kinds tab) (hg : UnV k r g) : UnK k (fun x H Q => rOwnU X k nm x H Q ∨ r x H Q) (ownU tab g) := fun F H x a d s ra e Q q => by
  unfold ownU at e
  split at e
  · rename_i c fs
    refine .inl ?_
    cases z : tab.lookup c with
    | none => rw [z] at e; cases e
    | some fn =>
      rw [z] at e
      obtain ⟨⟨f, lv, Gx, hr, hs, hf⟩, kd⟩ := ht c fn z
      cases ra with
      | @obj aa _ dx fvs _ hH rf =>
        exact ⟨aa, c, dx, fvs, f, lv, fn, rfl, s _ _ hH, Gx, hr, hs, hf, FD.ofV s (.cons (.obj hH rf) .nil) e q⟩
  · exact .inr (hg F H x a d s (.inl ra) e Q q)
end
end G
set_option maxRecDepth 100000
set_option maxHeartbeats 4000000
namespace GW
open PySem PySem.Spec PySem.Calls PyProof.Rows PySem.W
open Builtin Builtin.Str in
/-- str(x), the class has an own __str__ -/
theorem str_K {prog : Program} {w : World} {A : Around} {E : Value → Shared → Prop} {s : Shared} {K : Frag} {x C f : Addr} {ox : Obj} {od : Option Obj} {Q : Value → Shared → Prop} (hu : A.in1.in1.units < cLine) (X : K.In s.heap) (I : InstAt s.heap x ox C od) (hs : findIn K (.ref C) "__str__" = some (some (.ref f)))
    (hf : isFn K (.ref f) = true) (h : wpAny (model prog w) A.in1.in1 (call (.ref f) [.ref x]) (StrBack Q) E s) : wpAny (model prog w) A (call (.type "str") [.ref x]) Q E s := by
  refine callType_codes (T := "str") (Bi := Builtin.«object.__init__») (Q₁ := fun r s₁ => ∃ y u, r = .str y u ∧ Q r s₁) PySem.F.called_str (PySem.F.typeCall_str_1 _) PySem.F.entry_object_init ?_ ?_
  · refine codeAny_of_tree ?_
    show wpAny _ A.in1.in1 (do checkBuiltinCall "str.__new__" ⟨[.type "str", .ref x], []⟩; again (.builtin "str.__new__" ⟨[.type "str", .ref x], []⟩)) _ _ s
    refine wpAny_bind (wpAny_of_eq (PySem.F.newCall_str_1 _) (wpAny_pure ⟨plainId_quiet (by decide +kernel) _, codeAny_builtin PySem.F.entry_str_new ?_⟩))
    rw [Around.under_plainId (by decide +kernel) _]
    rw [str_new_tree]
    refine wpAny_bind (wpAny_pure ?_)
    refine wpAny_bind (wpAny_of_eq isSubtype_str_str ?_)
    have key : wpAny (model prog w) A.in1.in1 (PySem.Builtin.Str.strOf (.ref x)) (fun r s₁ => ∃ y u, r = .str y u ∧ Q r s₁) E s := by
      unfold PySem.Builtin.Str.strOf
      rw [show isExactStr (.ref x) = false from rfl]
      refine wpAny_bind (m := cRoomFor _ _) (wpAny_cRoomFor hu ?_)
      refine wpAny_bind (m := callSpecial? (.ref x) (Str.ofString "__str__")) (special_fn X I hs (beq_iff_eq.mp hf) (wpAny_mono h (fun r s' z => ?_) fun _ _ y => y))
      cases r <;> first | exact z.elim | exact wpAny_pure ⟨_, _, rfl, z⟩
    exact wpAny_bind (wpAny_mono key (fun r s₁ hr => wpAny_pure hr) fun _ _ y => y)
  · rintro obj s₁ ⟨y, u, rfl, hq⟩
    exact ⟨typeIs_str _ _ _, PySem.F.args_object_init_2 _ _, object_init_meets PySem.F.called_str.init.lookup PySem.F.called_str.made (by decide) prog w A.in1 _ s₁ ⟨typeIs_str _ _ _, rfl, hq⟩⟩
end GW
namespace G
open PySem PySem.Spec PyProof.Rows L2

/-! ### texts of data -/
def shownD (d : D) : Option Str := (toP d).bind fun p => if p.showable && !p.hasDict && decide (p.depth ≤ 60) && shortS p.shown.length then some p.shown else none
def strOfD : D → Option Str
  | .str x => some x
  | d => shownD d
def isStrD : D → Option D
  | .str x => some (.str x)
  | _ => none
def reprD (tab : Tab) : List D → Option D
  | [.obj c fs] => match tab.lookup c with
    | some fn => (fnV fn [.obj c fs]).bind isStrD
    | none => none
  | [d] => (shownD d).map .str
  | _ => none
def strD (tab : Tab) : List D → Option D
  | [.obj c fs] => match tab.lookup c with
    | some fn => (fnV fn [.obj c fs]).bind isStrD
    | none => none
  | [d] => (strOfD d).map .str
  | _ => none
section
variable {X : Cx} {φ : Fx} {W : WX} {k : KX} {F F' H H' : Hp} {σ : L2.St} {δ : DEnv} {Q : VK} {tab : Tab} {kinds : List TK} {pos : Pos}
def rRepr (K : PySem.W.Frag) : List V → Hp → VK → Prop := fun vs H Q => ∃ v p, vs = [v] ∧ Dp K H v p ∧ p.showable = true ∧ p.hasDict = false ∧ p.depth ≤ 60 ∧ p.shown.length ≤ sizeLine ∧ Q (.str p.shown) H
def rStrD (K : PySem.W.Frag) : List V → Hp → VK → Prop := fun vs H Q => (∃ x, vs = [.str x] ∧ Q (.str x) H) ∨ ((∀ x, vs ≠ [.str x]) ∧ rRepr K vs H Q)
theorem Dp.inst {v : V} {p : PyData} {u : Value} (h : Dp X.K H v p) (rv : RelV v u) : (∃ x t, p = .str x ∧ u = .str x t) ∨ (∃ i t, p = .int i ∧ u = .int i t) ∨ (∃ b, p = .bool b ∧ u = .bool b) ∨ (p = .none ∧ u = .none) ∨ ∃ a, u = .ref a := by
  cases h with
  | non => cases rv; exact .inr (.inr (.inr (.inl ⟨rfl, rfl⟩)))
  | bl b => cases rv; exact .inr (.inr (.inl ⟨_, rfl, rfl⟩))
  | int i => obtain ⟨t, rfl⟩ := rv; exact .inr (.inl ⟨_, _, rfl, rfl⟩)
  | str x => obtain ⟨t, rfl⟩ := rv; exact .inl ⟨_, _, rfl, rfl⟩
  | lst _ _ => cases rv; exact .inr (.inr (.inr (.inr ⟨_, rfl⟩)))
  | tup _ _ => cases rv; exact .inr (.inr (.inr (.inr ⟨_, rfl⟩)))
theorem call_repr (hg : X.A.guards = some []) (hu : X.A.units + 64 < cLine) : CallR X (.builtin "repr") (rRepr X.K) := by
  intro pins s σ H xs us Q I r h
  obtain ⟨v, p, rfl, hd, h1, h2, h3, h4, q⟩ := h
  cases r with
  | cons rv rr =>
    cases rr
    obtain ⟨as, hr⟩ := Dp.reads I p v _ hd rv
    rcases Dp.inst hd rv with ⟨x, t, rfl, rfl⟩ | ⟨i, t, rfl, rfl⟩ | ⟨b, rfl, rfl⟩ | ⟨rfl, rfl⟩ | ⟨a, rfl⟩
    · exact PySem.P.repr_of_str ⟨.str _, H, I.tok _, ⟨_, rfl⟩, q⟩ h4
    · exact PySem.P.repr_of_int (by simpa [PyData.showable] using h1) ⟨.str _, H, I.tok _, ⟨_, rfl⟩, q⟩
    · exact PySem.P.repr_of_bool ⟨.str _, H, I.tok _, ⟨_, rfl⟩, q⟩
    · exact PySem.P.repr_of_none ⟨.str _, H, I.tok _, ⟨_, rfl⟩, q⟩
    · exact repr_of_reads' hr h1 (fun z => by rw [h2] at z; cases z) hg (by omega) (fun _ _ e => e) (fun h' u tk hk => ⟨.str _, H, I.kept hk, ⟨_, rfl⟩, q⟩) h4
theorem call_str (hg : X.A.guards = some []) (hu : X.A.units + 64 < cLine) : CallR X (.type "str") (rStrD X.K) := by
  intro pins s σ H xs us Q I r h
  rcases h with ⟨x, rfl, q⟩ | ⟨hn, v, p, rfl, hd, h1, h2, h3, h4, q⟩
  · exact SkE.call_str_str pins s σ H _ us Q I r ⟨x, rfl, q⟩
  cases r with
  | cons rv rr =>
    cases rr
    obtain ⟨as, hr⟩ := Dp.reads I p v _ hd rv
    rcases Dp.inst hd rv with ⟨x, t, rfl, rfl⟩ | ⟨i, t, rfl, rfl⟩ | ⟨b, rfl, rfl⟩ | ⟨rfl, rfl⟩ | ⟨a, rfl⟩
    · cases hd; exact (hn x rfl).elim
    · exact PySem.P.str_of_int (by simpa [PyData.showable] using h1) ⟨.str _, H, I.tok _, ⟨_, rfl⟩, q⟩
    · exact PySem.P.str_of_bool ⟨.str _, H, I.tok _, ⟨_, rfl⟩, q⟩
    · exact PySem.P.str_of_none ⟨.str _, H, I.tok _, ⟨_, rfl⟩, q⟩
    · exact str_of_reads hr h1 (fun z => by rw [h2] at z; cases z) hg (by omega) (fun _ _ e => e) (fun h' u tk hk => ⟨.str _, H, I.kept hk, ⟨_, rfl⟩, q⟩) h4
def rOwn1 (X : Cx) (k : KX) (nm : Str) : List V → Hp → VK → Prop := fun vs H Q => ∃ a c dx fs f lv fn, vs = [.ref a] ∧ H a = some (.ins (k.cm c) dx fs) ∧ Gf X k lv f fn ∧ Room (lv + 2) X.A ∧
  PySem.W.findIn X.K (.ref (k.cm c)) nm = some (some (.ref f)) ∧ PySem.W.isFn X.K (.ref f) = true ∧ FD k fn [.ref a] H (fun v H' => ∃ x, v = .str x ∧ Q v H') fun _ _ _ => False
theorem strback {Q : Value → Shared → Prop} {x : Str} {w : Value} {s' : Shared} (r : RelV (.str x) w) (q : Q w s') : PySem.W.StrBack Q w s' := by
  obtain ⟨t, rfl⟩ := r
  exact q
theorem call_reprOwn (hg : X.A.guards = some []) : CallR X (.builtin "repr") (rOwn1 X k "__repr__") := by
  intro pins s σ H xs us Q I r h
  obtain ⟨a, c, dx, fs, f, lv, fn, rfl, ha, Gx, hr, hs, hf, q⟩ := h
  obtain rfl := Vals.ref1 r
  obtain ⟨mA, J, _⟩ := ins_get I.hok ha
  obtain ⟨od, J, _⟩ := J.look
  obtain ⟨m, hF⟩ := I.fr
  refine PySem.W.repr_K (Room.in1 (Room.mono hr (Nat.le_succ _))).units0 hF I.ok.mod.kin J hs hf ?_
  refine wpAny_mono (Gx.runV (A := X.A.in1) (Room.in1 (Room.mono hr (Nat.le_succ _))) hg rfl I (.cons (show RelV (V.ref a) (Value.ref a) from rfl) .nil) q) (fun w s' z => ?_) fun _ _ x => x
  obtain ⟨z', H', I', rz, x, rfl, qz⟩ := z
  exact strback rz ⟨.str x, H', I', rz, qz⟩
theorem call_strOwn (hg : X.A.guards = some []) : CallR X (.type "str") (rOwn1 X k "__str__") := by
  intro pins s σ H xs us Q I r h
  obtain ⟨a, c, dx, fs, f, lv, fn, rfl, ha, Gx, hr, hs, hf, q⟩ := h
  obtain rfl := Vals.ref1 r
  obtain ⟨mA, J, _⟩ := ins_get I.hok ha
  obtain ⟨od, J, _⟩ := J.look
  refine GW.str_K (Room.in1 (Room.in1 hr)).units0 I.kIn J hs hf ?_
  refine wpAny_mono (Gx.runV (A := X.A.in1.in1) (Room.in1 (Room.in1 hr)) hg rfl I (.cons (show RelV (V.ref a) (Value.ref a) from rfl) .nil) q) (fun w s' z => ?_) fun _ _ x => x
  obtain ⟨z', H', I', rz, x, rfl, qz⟩ := z
  exact strback rz ⟨.str x, H', I', rz, qz⟩
theorem CallR.or {f : Value} {r r' : List V → Hp → VK → Prop} (h : CallR X f r) (h' : CallR X f r') : CallR X f fun xs H Q => r xs H Q ∨ r' xs H Q := by
  intro pins s σ H xs us Q I rx q
  rcases q with q | q
  · exact h pins s σ H xs us Q I rx q
  · exact h' pins s σ H xs us Q I rx q
theorem own1_of {nm : Str} {c : Nat} {fs : List (String × D)} {v : V} {d : D} {fn : List SD → R SD} (ht : OwnOps X k nm kinds tab) (s : Sub F H) (r : Rep k F v (.obj c fs)) (z : tab.lookup c = some fn) (e : (fnV fn [.obj c fs]).bind isStrD = some d) (q : ∀ F' H' v, New F H F' H' → Rep k F' v d → Q v H') : rOwn1 X k nm [v] H Q := by
  obtain ⟨⟨f, lv, Gx, hr, hs, hf⟩, kd⟩ := ht c fn z
  cases z4 : fnV fn [.obj c fs] with
  | none => rw [z4] at e; cases e
  | some d0 =>
    rw [z4] at e
    change isStrD d0 = some d at e
    cases d0 with
    | str x =>
      cases e
      cases r with
      | @obj aa _ dx fvs _ hH rf =>
        refine ⟨aa, c, dx, fvs, f, lv, fn, rfl, s _ _ hH, Gx, hr, hs, hf, FD.ofV s (.cons (.obj hH rf) .nil) z4 fun F' H' v n rv => ?_⟩
        cases rv
        exact ⟨x, rfl, q F' H' _ n .str⟩
    | _ => cases e
theorem shown_of {d : D} {x : Str} (h : shownD d = some x) : ∃ p, toP d = some p ∧ p.showable = true ∧ p.hasDict = false ∧ p.depth ≤ 60 ∧ p.shown.length ≤ sizeLine ∧ x = p.shown := by
  unfold shownD at h
  cases z : toP d with
  | none => rw [z] at h; cases h
  | some p =>
    rw [z] at h
    change (if p.showable && !p.hasDict && decide (p.depth ≤ 60) && shortS p.shown.length then some p.shown else none) = some x at h
    cases y : (p.showable && !p.hasDict && decide (p.depth ≤ 60) && shortS p.shown.length) with
    | false => rw [y] at h; cases h
    | true =>
      rw [y] at h
      cases h
      simp only [Bool.and_eq_true, Bool.not_eq_true', decide_eq_true_eq] at y
      exact ⟨p, rfl, y.1.1.1, y.1.1.2, y.1.2, of_decide_eq_true y.2, rfl⟩
theorem reprD_eq {ds : List D} {d : D} (h : reprD tab ds = some d) : (∃ c fs fn, ds = [.obj c fs] ∧ tab.lookup c = some fn ∧ (fnV fn [.obj c fs]).bind isStrD = some d) ∨ ∃ d0 x, ds = [d0] ∧ shownD d0 = some x ∧ d = .str x := by
  unfold reprD at h
  split at h
  · rename_i c fs
    cases z : tab.lookup c with
    | none => rw [z] at h; cases h
    | some fn => rw [z] at h; exact .inl ⟨c, fs, fn, rfl, z, h⟩
  · rename_i d0 _
    cases z : shownD d0 with
    | none => rw [z] at h; cases h
    | some x => rw [z] at h; cases h; exact .inr ⟨d0, x, rfl, z, rfl⟩
  · cases h
theorem ck_repr (hK : k.K = X.K) (ht : OwnOps X k "__repr__" kinds tab) : CaK k (fun xs H Q => rOwn1 X k "__repr__" xs H Q ∨ rRepr X.K xs H Q) (reprD tab) := fun F H vs ds d s r e Q q => by
  rcases reprD_eq e with ⟨c, fs, fn, rfl, z, e⟩ | ⟨d0, x, rfl, z, rfl⟩
  · cases r with
    | cons r rr =>
      cases rr
      exact .inl (own1_of ht s r z e q)
  · cases r with
    | cons r rr =>
      cases rr
      obtain ⟨p, h1, h2, h3, h4, h5, rfl⟩ := shown_of z
      exact .inr ⟨_, p, rfl, by rw [← hK]; exact toP_dp s r h1, h2, h3, h4, h5, q F H _ (New.refl s) .str⟩
theorem strD_eq {ds : List D} {d : D} (h : strD tab ds = some d) : (∃ c fs fn, ds = [.obj c fs] ∧ tab.lookup c = some fn ∧ (fnV fn [.obj c fs]).bind isStrD = some d) ∨ (∃ x, ds = [.str x] ∧ d = .str x) ∨ ∃ d0 x, ds = [d0] ∧ (∀ y, d0 ≠ .str y) ∧ shownD d0 = some x ∧ d = .str x := by
  unfold strD at h
  split at h
  · rename_i c fs
    cases z : tab.lookup c with
    | none => rw [z] at h; cases h
    | some fn => rw [z] at h; exact .inl ⟨c, fs, fn, rfl, z, h⟩
  · rename_i d0 _
    by_cases y : ∃ x, d0 = .str x
    · obtain ⟨x, rfl⟩ := y
      cases h
      exact .inr (.inl ⟨x, rfl, rfl⟩)
    · have y' : ∀ x, d0 ≠ .str x := fun x e => y ⟨x, e⟩
      have e : strOfD d0 = shownD d0 := by cases d0 <;> first | rfl | exact (y' _ rfl).elim
      rw [e] at h
      cases z : shownD d0 with
      | none => rw [z] at h; cases h
      | some x => rw [z] at h; cases h; exact .inr (.inr ⟨d0, x, rfl, y', z, rfl⟩)
  · cases h
theorem ck_str (hK : k.K = X.K) (ht : OwnOps X k "__str__" kinds tab) : CaK k (fun xs H Q => rOwn1 X k "__str__" xs H Q ∨ rStrD X.K xs H Q) (strD tab) := fun F H vs ds d s r e Q q => by
  rcases strD_eq e with ⟨c, fs, fn, rfl, z, e⟩ | ⟨x, rfl, rfl⟩ | ⟨d0, x, rfl, y, z, rfl⟩
  · cases r with
    | cons r rr =>
      cases rr
      exact .inl (own1_of ht s r z e q)
  · cases r with
    | cons r rr =>
      cases rr
      cases r
      exact .inr (.inl ⟨x, rfl, q F H _ (New.refl s) .str⟩)
  · cases r with
    | cons r rr =>
      cases rr
      obtain ⟨p, h1, h2, h3, h4, h5, rfl⟩ := shown_of z
      refine .inr (.inr ⟨fun x e => ?_, _, p, rfl, by rw [← hK]; exact toP_dp s r h1, h2, h3, h4, h5, q F H _ (New.refl s) .str⟩)
      cases e
      cases r
      exact y x rfl
variable {e : Expr} {m : M D} {p : Pos}
theorem d_repr (ht : OwnOps X φ.k "__repr__" kinds tab) (hg : X.A.guards = some []) (hu : X.A.units + 64 < cLine) (gl : Gl X "repr") (hm : X.mg "repr" = none) (he : DE X φ W e m) (hK : φ.k.K = X.K := by rfl) (hs : starEach [e] X.env = (false, eval e X.env) :: starEach [] X.env := by rfl) :
    DE X φ W (.Call (.Name "repr" p) [e] [] pos) (callKM (reprD tab) [m]) := d_callBK (ck_repr hK ht) (CallR.or (call_reprOwn hg) (call_repr hg hu)) gl hm rfl (dc_cons he dc_nil hs) (by decide) (by decide) hs rfl
theorem d_str1 (ht : OwnOps X φ.k "__str__" kinds tab) (hg : X.A.guards = some []) (hu : X.A.units + 64 < cLine) (gl : Gl X "str") (hm : X.mg "str" = none) (he : DE X φ W e m) (hK : φ.k.K = X.K := by rfl) (hs : starEach [e] X.env = (false, eval e X.env) :: starEach [] X.env := by rfl) :
    DE X φ W (.Call (.Name "str" p) [e] [] pos) (callKM (strD tab) [m]) := d_callTK (ck_str hK ht) (CallR.or (call_strOwn hg) (call_str hg hu)) gl hm rfl (dc_cons he dc_nil hs) (by decide) (by decide) hs rfl

/-! ### f'..' -/
def fmtD : D → Option D
  | .str y => if shortS y.length then some (.str y) else none
  | .int i => if decide (i.natAbs.log2 < 1920) then some (.str (toString i)) else none
  | _ => none
def fmtRD : D → Option D
  | .str y => if shortS (reprText y).length then some (.str (reprText y)) else none
  | .int i => if decide (i.natAbs.log2 < 1920) then some (.str (toString i)) else none
  | _ => none
theorem d_fmt (he : DE X φ W e m) : DE X φ W (.FormattedValue e (-1) none pos) (unK fmtD m) := PE.imp (pe_fmt he) fun σ H Q h => by
  obtain ⟨F, δ, g, q⟩ := h
  refine tM_run g q fun d v δ1 F1 H1 g1 s1 r q1 => ?_
  obtain ⟨d', e1, q2⟩ := q1.lift
  cases d with
  | str y =>
    cases r
    change (if shortS y.length = true then some (D.str y) else none) = some d' at e1
    by_cases z : shortS y.length = true
    · rw [if_pos z] at e1
      cases e1
      exact .inl ⟨y, rfl, of_decide_eq_true z, q2 F1 H1 g1 (Sub.refl F1) _ .str⟩
    · rw [if_neg z] at e1; cases e1
  | int i =>
    cases r
    change (if decide (i.natAbs.log2 < 1920) = true then some (D.str (toString i)) else none) = some d' at e1
    by_cases z : decide (i.natAbs.log2 < 1920) = true
    · rw [if_pos z] at e1
      cases e1
      exact .inr ⟨i, rfl, of_decide_eq_true z, q2 F1 H1 g1 (Sub.refl F1) _ .str⟩
    · rw [if_neg z] at e1; cases e1
  | _ => cases e1
theorem d_fmtR (he : DE X φ W e m) : DE X φ W (.FormattedValue e 114 none pos) (unK fmtRD m) := PE.imp (pe_fmtR he) fun σ H Q h => by
  obtain ⟨F, δ, g, q⟩ := h
  refine tM_run g q fun d v δ1 F1 H1 g1 s1 r q1 => ?_
  obtain ⟨d', e1, q2⟩ := q1.lift
  cases d with
  | str y =>
    cases r
    change (if shortS (reprText y).length = true then some (D.str (reprText y)) else none) = some d' at e1
    by_cases z : shortS (reprText y).length = true
    · rw [if_pos z] at e1
      cases e1
      exact .inl ⟨y, rfl, of_decide_eq_true z, q2 F1 H1 g1 (Sub.refl F1) _ .str⟩
    · rw [if_neg z] at e1; cases e1
  | int i =>
    cases r
    change (if decide (i.natAbs.log2 < 1920) = true then some (D.str (toString i)) else none) = some d' at e1
    by_cases z : decide (i.natAbs.log2 < 1920) = true
    · rw [if_pos z] at e1
      cases e1
      exact .inr ⟨i, rfl, of_decide_eq_true z, q2 F1 H1 g1 (Sub.refl F1) _ .str⟩
    · rw [if_neg z] at e1; cases e1
  | _ => cases e1
def joinM : List (M D) → Str → M D
  | [], acc => M.pure (.str acc)
  | m :: ms, acc => m.bind fun d => match d with
    | .str y => if shortS (acc ++ y).length then joinM ms (acc ++ y) else badM
    | _ => badM
inductive DJ (X : Cx) (φ : Fx) (W : WX) : List Expr → List (M D) → Prop
  | nil : DJ X φ W [] []
  | cons {e : Expr} {m : M D} {es : List Expr} {ms : List (M D)} : DE X φ W e m → DJ X φ W es ms → DJ X φ W (e :: es) (m :: ms)
theorem DJ.pj {es : List Expr} {ms : List (M D)} (h : DJ X φ W es ms) : PJ X es (ms.map (tM φ W)) := by
  induction h with
  | nil => exact .nil
  | cons h _ ih => exact .cons h ih
theorem joinM_run {Q : Str → Hp → Prop} : ∀ {ms : List (M D)} {acc : Str} {F H : Hp} {δ : DEnv}, GI φ F H σ δ → Out φ W σ F (joinM ms acc δ) (fun d _ F' H' => ∀ y, d = .str y → Q y H') → tJs (ms.map (tM φ W)) acc σ H Q
  | [], acc, F, H, δ, g, q => q F H g (Sub.refl F) acc rfl
  | m :: ms, acc, F, H, δ, g, q => by
    refine tM_run g q fun d v δ1 F1 H1 g1 s1 r q1 => ?_
    cases d with
    | str y =>
      cases r
      rcases q1.ite with ⟨z, q2⟩ | ⟨_, q2⟩
      · exact ⟨y, rfl, of_decide_eq_true z, joinM_run g1 q2⟩
      · exact q2.elim
    | _ => exact q1.elim
theorem d_joined {v1 v2 : Expr} {rest : List Expr} {ms : List (M D)} (h : DJ X φ W (v1 :: v2 :: rest) ms) : DE X φ W (.JoinedStr (v1 :: v2 :: rest) pos) (joinM ms Str.empty) := PE.imp (pe_joined h.pj) fun σ H Q h => by
  obtain ⟨F, δ, g, q⟩ := h
  exact joinM_run g (Out.mono q (Sub.refl F) fun d δ' F' H' _ _ z y e => by
    subst e
    exact z _ .str)

/-! ### sep.join(list) -/
def strsOfD : List D → Option (List Str)
  | [] => some []
  | .str x :: ds => (strsOfD ds).map (x :: ·)
  | _ :: _ => none
def joinD (a b : D) : Option D := match a, b with
  | .str s, .lst ds => (strsOfD ds).bind fun ys => if decide ((ys.map (·.length)).sum + ys.length * s.length ≤ 16777216) then some (.str (Txt.join s ys)) else none
  | .str s, .tup ds => (strsOfD ds).bind fun ys => if decide ((ys.map (·.length)).sum + ys.length * s.length ≤ 16777216) then some (.str (Txt.join s ys)) else none
  | _, _ => none
def joinSM (mo m : M D) : M D := mo.bind fun a => match a with
  | .str s => m.bind fun b => lift (joinD (.str s) b)
  | _ => badM
theorem strsOfD_rep : ∀ {ds : List D} {vs : List V} {ys : List Str}, RepL k F vs ds → strsOfD ds = some ys → vs = ys.map V.str
  | _, _, _, .nil, h => by cases h; rfl
  | .str x :: ds, _, ys, .cons r rs, h => by
    change (strsOfD ds).map (x :: ·) = some ys at h
    cases z : strsOfD ds with
    | none => rw [z] at h; cases h
    | some t =>
      rw [z] at h
      cases h
      cases r
      rw [List.map_cons, strsOfD_rep rs z]
theorem d_join {o e : Expr} {mo m : M D} {apos : Pos} (ho : DE X φ W o mo) (he : DE X φ W e m) (hK : φ.k.K = X.K := by rfl) (hs : starEach [e] X.env = [(false, eval e X.env)] := by rfl) (hbase : attributeBase o "join" X.env (eval o X.env) = eval o X.env := by rfl) (hline : (apos.endLine == pos.line) = true := by rfl) :
    DE X φ W (.Call (.Attribute o "join" apos) [e] [] pos) (joinSM mo m) := PE.imp (pe_join ho he hs hbase hline) fun σ H Q h => by
  obtain ⟨F, δ, g, q⟩ := h
  refine tM_run g q fun a va δ1 F1 H1 g1 s1 r1 q1 => ?_
  cases a with
  | str s =>
    cases r1
    refine ⟨⟨s, rfl⟩, ?_⟩
    refine tM_run g1 q1 fun b vb δ2 F2 H2 g2 s2 r2 q2 => ?_
    obtain ⟨d, e1, q3⟩ := q2.lift
    have fin : ∀ {ds : List D} {us : List V}, RepL φ.k F2 us ds → ((strsOfD ds).bind fun ys => if decide ((ys.map (·.length)).sum + ys.length * s.length ≤ 16777216) then some (D.str (Txt.join s ys)) else none) = some d → ∃ ys : List Str, us = ys.map V.str ∧ (ys.map (·.length)).sum + ys.length * s.length ≤ 16777216 ∧ Q (.str (Txt.join s ys)) H2 := fun {ds us} l h => by
      cases z : strsOfD ds with
      | none => rw [z] at h; cases h
      | some ys =>
        rw [z] at h
        change (if decide ((ys.map (·.length)).sum + ys.length * s.length ≤ 16777216) = true then some (D.str (Txt.join s ys)) else none) = some d at h
        by_cases y : decide ((ys.map (·.length)).sum + ys.length * s.length ≤ 16777216) = true
        · rw [if_pos y] at h
          cases h
          exact ⟨ys, strsOfD_rep l z, of_decide_eq_true y, q3 F2 H2 g2 (Sub.refl F2) _ .str⟩
        · rw [if_neg y] at h
          cases h
    cases b with
    | lst ds =>
      cases r2 with
      | @lst p us _ hp l =>
        obtain ⟨ys, rfl, hz, q4⟩ := fin l e1
        exact ⟨s, p, ys, rfl, rfl, .inl (.of (g2.fh _ _ hp)), hz, q4⟩
    | tup ds =>
      cases r2 with
      | @tup p us _ hp l =>
        obtain ⟨ys, rfl, hz, q4⟩ := fin l e1
        exact ⟨s, p, ys, rfl, rfl, .inr (.of (g2.fh _ _ hp)), hz, q4⟩
    | _ => cases e1
  | _ => exact q1.elim

/-! ### sorted(list) of data -/
def encD (d : D) : PyData := (toP d).getD .none
def sortOk (ps : List PyData) : Bool := (ps.all fun d => ps.all fun e => PySem.W.alike d e) && ((ps.all fun d => match d with | .tuple (_ :: _) => true | _ => false) || (ps.all fun d => match d with | .none => false | .tuple _ => false | _ => true)) && ps.all fun d => decide (d.depth ≤ 60)
def sortedD : List D → Option D
  | [d] => (listsOf d).bind fun xs => (toPs xs).bind fun ps => if sortOk ps then some (.lst (xs.mergeSort (PySem.W.dataLe false encD))) else none
  | _ => none
def CaKN (k : KX) (r : List V → Hp → VK → Prop) (f : List D → Option D) : Prop := ∀ F H vs ds d, Sub F H → RepL k F vs ds → f ds = some d → ∀ Q : VK, (∀ F' H' p, New F H F' H' → H p = none → F' p = none → OwnAt k F' H' p d → Q (.ref p) H') → r vs H Q
theorem tCB_KN {ms : List (M D)} {r : List V → Hp → VK → Prop} {f : List D → Option D} (hr : CaKN φ.k r f) (h : tN φ W (callKM f ms) σ H Q) : tCB r (tCs φ W ms) σ H Q := by
  obtain ⟨F, δ, g, q⟩ := h
  refine tCs_run g q fun ds vs δ1 F1 H1 g1 s1 l1 q1 => ?_
  obtain ⟨d, e, q3⟩ := q1.lift
  exact hr F1 H1 vs ds d g1.fh l1 e Q fun F' H' p n h1 h2 w => q3 F' H' (g1.new n) n.ff p (g1.fresh h1 h2 w)
theorem d_callBKN {es : List Expr} {ms : List (M D)} {x : Str} {id : String} {r : List V → Hp → VK → Prop} {f : List D → Option D} (hr : CaKN φ.k r f) (hc : CallR X (.builtin id) r) (hg : Gl X x) (hm : X.mg x = none) (hv : bootBuiltins x = some (.builtin id)) (ha : DC X φ W (e :: es) ms) (hn : x ≠ "__name__" := by decide) (hdb : (x == ("__debug__" : Str)) = false := by decide)
    (he : starEach (e :: es) X.env = (false, eval e X.env) :: starEach es X.env := by rfl) (hpl : (backTo pos (starEach es X.env)).any (·.1) = false := by rfl) : DN X φ W (.Call (.Name x p) (e :: es) [] pos) (callKM f ms) :=
  PE.imp (pe_callB hc hg hm hv ha hn hdb he hpl) fun _ _ _ h => tCB_KN hr h
abbrev VD := V × D
def encV (b : VD) : PyData := encD b.2
def rSortG (K : PySem.W.Frag) : List V → Hp → VK → Prop := fun vs H Q => ∃ (a : Addr) (bs : List VD), vs = [.ref a] ∧ SqL K H a (bs.map (·.1)) ∧ (∀ b ∈ bs, Dp K H b.1 (encV b)) ∧ sortOk (bs.map encV) = true ∧
  ∀ p, H p = none → Q (.ref p) (upd H p (.lst ((bs.mergeSort (PySem.W.dataLe false encV)).map (·.1))))
theorem sortOk_of {ps : List PyData} (h : sortOk ps = true) : PySem.W.AllAlike ps ∧ PySem.W.Sortable ps ∧ ∀ d ∈ ps, d.depth ≤ 60 := by
  unfold sortOk at h
  simp only [Bool.and_eq_true, Bool.or_eq_true] at h
  obtain ⟨⟨h1, h2⟩, h3⟩ := h
  refine ⟨fun d hd e he => ?_, ?_, fun d hd => of_decide_eq_true (List.all_eq_true.mp h3 d hd)⟩
  · exact List.all_eq_true.mp (List.all_eq_true.mp h1 d hd) e he
  · rcases h2 with h2 | h2
    · refine .inl fun d hd => ?_
      have := List.all_eq_true.mp h2 d hd
      split at this
      · exact ⟨_, _, rfl⟩
      · cases this
    · refine .inr fun d hd => ⟨fun e => ?_, fun xs e => ?_⟩
      · have := List.all_eq_true.mp h2 d hd
        rw [e] at this
        cases this
      · have := List.all_eq_true.mp h2 d hd
        rw [e] at this
        cases this
theorem each_of {s : Shared} {pins : List (Addr × Obj)} (I : L2.Inv X pins σ H s) : ∀ {bs : List VD} {its : List Value}, Vals (bs.map (·.1)) its → (∀ b ∈ bs, Dp X.K H b.1 (encV b)) →
    PySem.W.EachIs (fun v b => RelV b.1 v) its bs ∧ PySem.W.EachIs (fun v b => ∃ as, Reads s.heap v (encV b) as) its bs
  | [], [], _, _ => ⟨.nil, .nil⟩
  | b :: bs, u :: its, .cons r rs, h => by
    obtain ⟨e1, e2⟩ := each_of I rs fun b hb => h b (List.mem_cons_of_mem _ hb)
    exact ⟨.cons r e1, .cons (Dp.reads I _ _ _ (h b List.mem_cons_self) r) e2⟩
theorem each_vals : ∀ {bs : List VD} {out : List Value}, PySem.W.EachIs (fun v (b : VD) => RelV b.1 v) out bs → Vals (bs.map (·.1)) out
  | _, _, .nil => .nil
  | _, _, .cons r rs => .cons r (each_vals rs)
theorem cr_sortG (hu : X.A.units + 64 < cLine) : CallR X (.builtin "sorted") (rSortG X.K) := by
  intro pins s σ H vs us Q I r h
  obtain ⟨a, bs, rfl, hs, hd, ok, q⟩ := h
  obtain ⟨its, rv, hl, hz⟩ := I.list hs
  rw [Vals.ref1 r]
  obtain ⟨e1, e2⟩ := each_of I rv hd
  obtain ⟨k1, k2, k3⟩ := sortOk_of ok
  rw [List.length_map] at hz
  refine PySem.W.sorted_data hl.isList e1 e2 k1 k2 hz (fun b hb => ?_) fun out ho eo => ?_
  · have := k3 _ (List.mem_map.mpr ⟨b, hb, rfl⟩)
    show X.A.units + 2 + (encV b).depth < cLine
    omega
  · obtain ⟨ep, he'⟩ := PyProof.Rows.sortedAll_at s.heap its (List.toArray out)
    have hv := each_vals eo
    have hlen : ((bs.mergeSort (PySem.W.dataLe false encV)).map (·.1)).length ≤ sizeLine := by
      rw [List.length_map, List.length_mergeSort]
      exact hz
    exact ⟨.ref _, upd H (s.heap.objs.size + 1) (.lst ((bs.mergeSort (PySem.W.dataLe false encV)).map (·.1))), I.laid (t' := s.toks) (fun _ _ => PyProof.Rows.sortedAll_old) (Nat.le_succ _) ⟨hlen, out, ep, hv, he'⟩, rfl, q _ (I.hok.fresh (Nat.le_succ _))⟩
theorem toPs_enc : ∀ {ds : List D} {ps : List PyData}, toPs ds = some ps → ps = ds.map encD ∧ ∀ d ∈ ds, ∃ p, toP d = some p
  | [], ps, h => by cases h; exact ⟨rfl, fun d hd => by cases hd⟩
  | d :: ds, ps, h => by
    cases q1 : toP d with
    | none => rw [toPs, q1] at h; cases h
    | some a =>
      cases q2 : toPs ds with
      | none => rw [toPs, q1, q2] at h; cases h
      | some b =>
        rw [toPs, q1, q2] at h
        cases h
        obtain ⟨h1, h2⟩ := toPs_enc q2
        refine ⟨by rw [List.map_cons, ← h1]; unfold encD; rw [q1]; rfl, fun d' hd' => ?_⟩
        rcases List.mem_cons.mp hd' with rfl | hd'
        · exact ⟨a, q1⟩
        · exact h2 d' hd'
theorem RepL.zipP : ∀ {vs : List V} {ds : List D}, RepL k F vs ds → ∃ bs : List VD, bs.map (·.1) = vs ∧ bs.map (·.2) = ds ∧ ∀ b ∈ bs, Rep k F b.1 b.2
  | _, _, .nil => ⟨[], rfl, rfl, fun b h => by cases h⟩
  | _, _, @RepL.cons _ _ v d _ _ r rs => by
    obtain ⟨bs, h1, h2, h3⟩ := RepL.zipP rs
    refine ⟨(v, d) :: bs, by rw [List.map_cons, h1], by rw [List.map_cons, h2], fun b hb => ?_⟩
    rcases List.mem_cons.mp hb with rfl | hb
    · exact r
    · exact h3 b hb
theorem RepL.unzip : ∀ {bs : List VD}, (∀ b ∈ bs, Rep k F b.1 b.2) → RepL k F (bs.map (·.1)) (bs.map (·.2))
  | [], _ => .nil
  | b :: bs, h => .cons (h b List.mem_cons_self) (RepL.unzip fun c hc => h c (List.mem_cons_of_mem _ hc))
theorem ck_sorted (hK : k.K = X.K) : CaKN k (rSortG X.K) sortedD := fun F H vs ds d s r e Q q => by
  unfold sortedD at e
  split at e
  · rename_i d0
    cases r with
    | cons r rr =>
      cases rr
      cases z : listsOf d0 with
      | none => rw [z] at e; cases e
      | some xs =>
        rw [z] at e
        change ((toPs xs).bind fun ps => if sortOk ps then some (D.lst (xs.mergeSort (PySem.W.dataLe false encD))) else none) = some d at e
        cases z2 : toPs xs with
        | none => rw [z2] at e; cases e
        | some ps =>
          rw [z2] at e
          change (if sortOk ps = true then some (D.lst (xs.mergeSort (PySem.W.dataLe false encD))) else none) = some d at e
          by_cases ok : sortOk ps = true
          · rw [if_pos ok] at e
            cases e
            obtain ⟨a, us, rfl, e1, l⟩ := r.lstOf z
            obtain ⟨bs, rfl, rfl, hb⟩ := l.zipP
            obtain ⟨rfl, hp⟩ := toPs_enc z2
            refine ⟨a, bs, rfl, by rw [← hK]; exact e1 H s, fun b hm => ?_, by rw [← ok, List.map_map]; rfl, fun p hpn => ?_⟩
            · obtain ⟨pp, hpp⟩ := hp b.2 (List.mem_map.mpr ⟨b, hm, rfl⟩)
              have : encV b = pp := by unfold encV encD; rw [hpp]; rfl
              rw [this, ← hK]
              exact toP_dp s (hb b hm) hpp
            · have n := New.made (o := .lst ((bs.mergeSort (PySem.W.dataLe false encV)).map (·.1))) s hpn
              refine q F _ p n hpn (s.none hpn) (.lst upd_same ?_)
              have em : (bs.map (·.2)).mergeSort (PySem.W.dataLe false encD) = (bs.mergeSort (PySem.W.dataLe false encV)).map (·.2) := by
                rw [List.map_mergeSort]
                intro a _ b _
                rfl
              rw [em]
              exact RepL.unzip fun b hb' => hb b ((List.mergeSort_perm bs _).mem_iff.mp hb')
          · rw [if_neg ok] at e
            cases e
  · cases e
theorem d_sorted (hu : X.A.units + 64 < cLine) (gl : Gl X "sorted") (hm : X.mg "sorted" = none) (he : DE X φ W e m) (hK : φ.k.K = X.K := by rfl) (hs : starEach [e] X.env = (false, eval e X.env) :: starEach [] X.env := by rfl) :
    DN X φ W (.Call (.Name "sorted" p) [e] [] pos) (callKM sortedD [m]) := d_callBKN (ck_sorted hK) (cr_sortG hu) gl hm rfl (dc_cons he dc_nil hs) (by decide) (by decide) hs rfl
end
end G
set_option maxRecDepth 100000
set_option maxHeartbeats 4000000
namespace G
open PySem PySem.Spec PyProof.Rows L2

/-! ### operators, whatever comes -/
def orD {α β : Type} (f g : α → β → Option D) (a : α) (b : β) : Option D := match f a b with
  | some d => some d
  | none => g a b
theorem OpV.or {k : KX} {r r' : R2} {f g : D → D → Option D} (h : OpV k r f) (h' : OpV k r' g) : OpV k (fun x y H Q => r x y H Q ∨ r' x y H Q) (orD f g) := fun F H v1 v2 d1 d2 d s r1 r2 e Q q => by
  unfold orD at e
  cases z : f d1 d2 with
  | some d' => rw [z] at e; cases e; exact .inl (h F H v1 v2 d1 d2 _ s r1 r2 z Q q)
  | none => rw [z] at e; exact .inr (h' F H v1 v2 d1 d2 d s r1 r2 e Q q)
def addA : D → D → Option D := orD addD catD
def mulA : D → D → Option D := orD mulD repD
theorem OpR.self {X : Cx} {f : Value → Value → Sem Value} {r : R2} (h : OpR X f r) : OpR X f fun x y H Q => r x y H Q ∨ r x y H Q := fun pins s σ H x y v u Q I r1 r2 q => h pins s σ H x y v u Q I r1 r2 (q.elim id id)
section
variable {X : Cx} {φ : Fx} {W : WX} {k : KX} {a b e tg : Expr} {oa ob : Opd} {m : M D} {pos p : Pos} {F F' H H' : Hp} {σ : L2.St} {δ : DEnv}
theorem op_addX : OpR X (binaryOp .Add) fun x y H Q => rAddG X.K x y H Q ∨ rCat x y H Q := op_addG.or op_cat
theorem op_mulX : OpR X (binaryOp .Mult) fun x y H Q => rMulG x y H Q ∨ rRep x y H Q := op_mulG.or op_rep
theorem d_add (ha : DO X φ W a oa) (hb : DO X φ W b ob) (hK : φ.k.K = X.K := by rfl) : DE X φ W (.BinOp a .Add b pos) (binM addA oa ob) := by
  have h : OpV φ.k (fun x y H Q => rAddG X.K x y H Q ∨ rCat x y H Q) addA := by
    rw [← hK]
    exact ov_add.or ov_cat.v
  exact d_bin h op_addX ha hb
theorem d_mul (ha : DO X φ W a oa) (hb : DO X φ W b ob) : DE X φ W (.BinOp a .Mult b pos) (binM mulA oa ob) := d_bin (ov_mul.or ov_rep.v) op_mulX ha hb
theorem d_sub (ha : DO X φ W a oa) (hb : DO X φ W b ob) : DE X φ W (.BinOp a .Sub b pos) (binM subD oa ob) := d_bin ov_sub op_sub ha hb
theorem d_fdiv (ha : DO X φ W a oa) (hb : DO X φ W b ob) : DE X φ W (.BinOp a .FloorDiv b pos) (binM fdivD oa ob) := d_bin ov_fdiv op_fdivG ha hb
theorem d_mod (ha : DO X φ W a oa) (hb : DO X φ W b ob) : DE X φ W (.BinOp a .Mod b pos) (binM modD oa ob) := d_bin ov_mod op_modN ha hb
theorem d_pow (ha : DO X φ W a oa) (hb : DO X φ W b ob) : DE X φ W (.BinOp a .Pow b pos) (binM powD oa ob) := d_bin ov_pow op_pow ha hb

/-! ### what is walked, whatever comes -/
def itsD : D → Option (List D)
  | .lst xs => some xs
  | .scr xs => some xs
  | .tup xs => some xs
  | .str x => some (x.cps.toList.map fun c => .str ⟨#[c]⟩)
  | _ => none
def itM (m : M D) : M (List D) := m.bind fun d => lift (itsD d)
theorem di_any (he : DE X φ W e m) (hK : φ.k.K = X.K := by rfl) : DI X φ W tg e (itM m) := by
  have h1 : DI X φ W tg e (lstItM m) := di_list he hK
  have h2 : DI X φ W tg e (tupItM m) := di_tup he hK
  have h3 : DI X φ W tg e (strItM m) := di_str he
  refine ⟨fun pins s σ H R I hw => ?_⟩
  obtain ⟨F, δ, g, q⟩ := hw
  have same : ∀ {f : D → M (List D)} {d : D} {δ' : DEnv}, m δ = .ok d δ' → f d = lift (itsD d) → (m.bind f) δ = itM m δ := fun {f d δ'} z e => by
    unfold itM M.bind
    rw [z]
    show f d δ' = lift (itsD d) δ'
    rw [e]
  have bad : ∀ {f : D → M (List D)}, (∀ d δ', m δ ≠ .ok d δ') → (m.bind f) δ = itM m δ := fun {f} z => by
    unfold itM M.bind
    cases y : m δ with
    | ok d δ' => exact (z d δ' y).elim
    | exc x δ' => rfl
    | bad => rfl
  cases z : m δ with
  | ok d δ' =>
    cases d with
    | tup xs => exact h2.run pins s σ H R I ⟨F, δ, g, by unfold tupItM; rw [same z rfl]; exact q⟩
    | str x => exact h3.run pins s σ H R I ⟨F, δ, g, by unfold strItM; rw [same z rfl]; exact q⟩
    | _ => exact h1.run pins s σ H R I ⟨F, δ, g, by unfold lstItM; rw [same z rfl]; exact q⟩
  | exc x δ' => exact h1.run pins s σ H R I ⟨F, δ, g, by unfold lstItM; rw [bad fun d δ'' y => by rw [z] at y; cases y]; exact q⟩
  | bad => exact h1.run pins s σ H R I ⟨F, δ, g, by unfold lstItM; rw [bad fun d δ'' y => by rw [z] at y; cases y]; exact q⟩

/-! ### wishes -/
theorem takes0 : Takes X W0 := fun u s' x => by
  obtain ⟨_, _, _, _, _, _, _, _, _, _, _, _, _, _, _, _, z⟩ := x
  exact z.elim

/-! ### comparisons with own operators -/
theorem d_eqO {tab : Tab} {kinds : List TK} {ma mb : M D} (ht : OwnOps X φ.k "__eq__" kinds tab) (hg : X.A.guards = some []) (hr : OpR X (compareOp .Eq) (rEqD X.K)) (ha : DE X φ W a ma) (hb : DE X φ W b mb) (hm : behindInMarks .Eq b = false) (hK : φ.k.K = X.K := by rfl) : DE X φ W (.Compare a [.Eq] [b] pos) (binK (ownF tab kinds eqD) ma mb) := by
  have h : OpK φ.k (fun x y H Q => rOwnC X φ.k "__eq__" x y H Q ∨ rEqD X.K x y H Q) (ownF tab kinds eqD) := ok_own ht (by rw [← hK]; exact ov_eq.kept)
  exact d_cmpK h ((op_ownC (op := .Eq) hg hK fun _ _ => rfl).or hr) ha hb hm
end

/-! ### a def as it stands behind the top -/
structure Gd (P : Program) (w : World) (K : PySem.W.Frag) (mg : Str → Option Value) (base : Heap) (k : KX) (lv : Nat) (f : Addr) (fn : List SD → R SD) : Prop where
  ex : ∃ fd ps, FnG P w K mg base lv f fd ps (FD k fn) ∧ Binds K fd ps [] ∧ PySem.W.keepIn K (.ref f) = true
structure DefAt (K : PySem.W.Frag) (x qual : Str) (st : Stmt) (f : Addr) : Prop where
  ex : ∃ fd, Fun K x qual st f fd
section
variable {P : Program} {w : World} {K : PySem.W.Frag} {mg : Str → Option Value} {base : Heap} {lv : Nat} {f : Addr} {k : KX} {fn : List SD → R SD} {ps : List Str}
theorem Gd.gf {X : Cx} (h : Gd X.prog X.w X.K X.mg X.base k lv f fn) : Gf X k lv f fn := ⟨h.ex⟩
theorem Gd.up {lv' : Nat} (h : Gd P w K mg base k lv f fn) (l : lv ≤ lv') : Gd P w K mg base k lv' f fn := by
  obtain ⟨fd, ps, a, b, c⟩ := h.ex
  exact ⟨fd, ps, a.up l, b, c⟩
theorem DefAt.ok {x qual : Str} {st : Stmt} {N : List Str} {cm : Nat → Addr} {np n : Nat} {m : M Fl} (Fd : DefAt K x qual st f) (S : FnScope N ps (defScope st)) (hn : N.length = n) (hp : ps.length = np) (hnp : np ≤ n)
    (hb : ∀ (kV doc pm : Value) (an : Option Addr) (cdv ct : Value) (us : List Value), us.length = ps.length → bindArgs (PySem.W.fnOf x qual (defArgs st) (defBody st) (defScope st) .none kV doc pm an cdv ct) ⟨us, []⟩ = pure (ps.zip us))
    (body : ∀ (cdv : Value) (A : Around) (outer : List PySem.Env) (s : Shared) (H : Hp) (E : XK) (F0 H0 : Hp) (pr : List (Nat × Addr)), Room lv (A.deeper (envOfC qual (defScope st) s.heap.objs.size f cdv)) → A.guards = some [] →
      DSs (bodyX P w K mg base N qual st f cdv A outer s H E) ⟨⟨K, cm⟩, F0, H0, pr⟩ (fun c d _ H => E c d H) (defBody st) m) : Gd P w K mg base ⟨K, cm⟩ (lv + 1) f (runF np n m) := by
  obtain ⟨fd, Fd⟩ := Fd.ex
  exact ⟨fd, ps, Fun.okG Fd S hn hp hnp body, Fd.binds hb, Fd.kp⟩
theorem takesB {N : List Str} {qual : Str} {st : Stmt} {cdv : Value} {A : Around} {outer : List PySem.Env} {s : Shared} {H : Hp} {E : XK} : Takes (bodyX P w K mg base N qual st f cdv A outer s H E) fun c d _ H => E c d H := takes_of rfl rfl rfl rfl
theorem passB {N : List Str} {qual : Str} {st : Stmt} {cdv : Value} {A : Around} {outer : List PySem.Env} {s : Shared} {H : Hp} {E : XK} : PassesOwn (model (bodyX P w K mg base N qual st f cdv A outer s H E).prog (bodyX P w K mg base N qual st f cdv A outer s H E).w) (bodyX P w K mg base N qual st f cdv A outer s H E).A (bodyX P w K mg base N qual st f cdv A outer s H E).env (bodyX P w K mg base N qual st f cdv A outer s H E).xe := passes_of rfl
theorem guardsB {env : PySem.Env} {A : Around} (h : A.guards = some []) : (A.deeper env).guards = some [] := h
end
end G
set_option maxRecDepth 100000
set_option maxHeartbeats 4000000
namespace G
open PySem PySem.Spec PyProof.Rows L2

/-! ### the law's own call, by its function on data -/
/-- the script's data -/
def scrD (ns : List Int) : D := .scr (ns.map D.int)
theorem rep_ints {k : KX} {F : Hp} : ∀ ns : List Int, RepL k F (ns.map V.int) (ns.map D.int)
  | [] => .nil
  | _ :: r => .cons .int (rep_ints r)
/-- the heap of a law: the script alone, and not where it is the module's -/
def scrH (K : PySem.W.Frag) (a : Addr) (ob : Obj) (ns : List Int) : Hp := fun b => if b = a ∧ K.lookup a = none then some (.frz ob (.lst (ns.map V.int))) else none
section
variable {P : Program} {w : World} {K : PySem.W.Frag} {mg mb : Str → Option Value} {lv : Nat} {fa a : Addr} {cm : Nat → Addr} {fn : List SD → R SD} {s₁ : Shared} {vs : List Value} {ns : List Int}
theorem scrH_at {ob : Obj} {b : Addr} {u : HO} (h : scrH K a ob ns b = some u) : b = a ∧ K.lookup a = none ∧ u = .frz ob (.lst (ns.map V.int)) := by
  unfold scrH at h
  by_cases z : b = a ∧ K.lookup a = none
  · rw [if_pos z] at h
    exact ⟨z.1, z.2, (Option.some.inj h).symm⟩
  · rw [if_neg z] at h
    cases h
theorem scrH_not {ob : Obj} {b : Addr} (h : b ≠ a ∨ K.lookup a ≠ none) : scrH K a ob ns b = none := by
  unfold scrH
  rw [if_neg]
  rintro ⟨e1, e2⟩
  rcases h with h | h
  · exact h e1
  · exact h e2
theorem scrH_list {ob : Obj} (hi : IntsAre vs ns) (hl : ns.length ≤ sizeLine) (ho : K.lookup a = some ob ∨ K.lookup a = none) (hc : ob = { cls := .type "list", data := .seq vs.toArray }) : SqL K (scrH K a ob ns) a (ns.map V.int) := by
  subst hc
  rcases ho with ho | ho
  · refine .inr ⟨_, vs.toArray, _, ho, rfl, rfl, rfl, ?_, ?_⟩
    · have := hi.length
      simp only [List.size_toArray]
      omega
    · simpa using vals_ints hi
  · exact .inl (.inr ⟨{ cls := .type "list", data := .seq vs.toArray }, if_pos ⟨rfl, ho⟩⟩)
theorem top_call (kin : K.In s₁.heap) (hns : s₁.heap.Ns mainGlobals mg) (hbn : s₁.heap.Ns builtinsNs mb) (hbi : ∀ y : Str, y ≠ "__name__" → mb y = bootBuiltins y) (lim : s₁.heap.NoLimit) (noGens : s₁.gens = #[])
    (at_ : s₁.heap.get? a = some { cls := .type "list", data := .seq vs.toArray }) (hin : IntsAre vs ns) (short : ns.length ≤ sizeLine) (room : Room lv callerA)
    (D0 : ∀ base : Heap, K.In base → base.Ns mainGlobals mg → Gd P w K mg base ⟨K, cm⟩ lv fa fn) (law : ∃ sds, fn [.val (scrD ns)] = .ok (.val (.bl true)) sds) :
    codeAny (model P w) callerA (.call (.ref fa) ⟨[.ref a], []⟩) (fun r s' => r = .ok (.ret (.bool true)) ∧ OldK s₁.heap s'.heap ∧ s'.os = s₁.os ∧ AllBare s'.gens) s₁ := by
  let ob : Obj := { cls := .type "list", data := .seq vs.toArray }
  have look : K.lookup a = some ob ∨ K.lookup a = none := by
    cases z : K.lookup a with
    | none => exact .inr rfl
    | some o =>
      have e := kin a o z
      rw [at_] at e
      exact .inl (by rw [← Option.some.inj e])
  generalize hH : scrH K a ob ns = H
  have sq : SqL K H a (ns.map V.int) := hH ▸ scrH_list hin short look rfl
  have only : ∀ {b : Addr} {u : HO}, H b = some u → b = a ∧ K.lookup a = none ∧ u = .frz ob (.lst (ns.map V.int)) := fun {b u} h => scrH_at (hH ▸ h)
  have see : ∀ {b : Addr} {o : Obj}, s₁.heap.get? b = some o → (∀ u, H b = some u → False) → (hidT s₁.heap H).get? b = some o := fun {b o} e n => hidT_get e (by
    cases z : H b with
    | none => rfl
    | some u => exact (n u z).elim)
  have seeNs : ∀ {b : Addr} {m : Str → Option Value}, s₁.heap.Ns b m → (hidT s₁.heap H).Ns b m := fun {b m} n => by
    obtain ⟨o, es, ep, h1, h2, h3⟩ := n
    refine ⟨o, es, ep, see h1 fun u hu => ?_, h2, h3⟩
    obtain ⟨rfl, _, _⟩ := only hu
    rw [at_] at h1
    rw [← Option.some.inj h1] at h2
    cases h2
  have seeK : K.In (hidT s₁.heap H) := fun b o e => see (kin b o e) fun u hu => by
    obtain ⟨rfl, n, _⟩ := only hu
    rw [e] at n
    cases n
  have heapOk : HOk P w H s₁.heap := fun b u hu => by
    obtain ⟨rfl, _, rfl⟩ := only hu
    refine ⟨at_, ?_, vs, _, vals_ints hin, at_⟩
    rw [List.length_map]
    exact short
  obtain ⟨lc, l1, l2⟩ := lim
  have entry : Env0 P w K mg (hidT s₁.heap H) callerA [] s₁ H :=
    { frames := rfl, mod := ⟨seeK, seeNs hns, ⟨mb, seeNs hbn, hbi⟩, ⟨lc, seeNs l1, l2⟩⟩, bs := fun b o e => of_hidT e, bsz := Nat.le_of_eq (hidT_size _ _), funs := trivial, frf := (fun b hb => by cases hb), hok := heapOk, bare := .of_eq noGens }
  obtain ⟨fd, ps, Fn, hb, _⟩ := (D0 _ seeK (seeNs hns)).ex
  obtain ⟨sds, hlaw⟩ := law
  have prom : FD ⟨K, cm⟩ fn [.ref a] H (fun v _ => v = .bl true) fun _ _ _ => False := by
    refine ⟨H, [.val (scrD ns)], Sub.refl H, .cons (.val (.scr sq (rep_ints ns))) .nil, fun i j b d e ne e1 => ?_, ?_⟩
    · cases i with
      | zero => cases e1
      | succ i => simp at e1
    · rw [hlaw]
      intro F' H' v _ ro
      cases ro
      rfl
  have hps := Fn.len _ _ _ _ prom
  have b := hb s₁ [.ref a] kin (by rw [List.append_nil]; exact hps)
  refine codeAny_mono (Fn.run callerA [] s₁ H ⟨[.ref a], []⟩ [.ref a] [.ref a] _ _ room rfl entry (by simpa using b) (.cons (show RelV (V.ref a) (Value.ref a) from rfl) .nil) prom) fun r s' out => ?_
  cases r with
  | error e =>
    obtain ⟨_, _, _, _, _, _, _, _, _, _, _, _, z⟩ := out
    exact z.elim
  | ok fl =>
    cases fl with
    | ret u =>
      obtain ⟨v, H', o1, o2, o3, o4, o5, o6⟩ := out
      have o7 : v = .bl true := o6
      subst o7
      cases o5
      refine ⟨rfl, OldK.of_keep fun c o e => ?_, o1, o2⟩
      cases z : H c with
      | none => exact o3.keep c o e z (fun y => by cases y) (by simp)
      | some u =>
        obtain ⟨rfl, _, rfl⟩ := only z
        obtain ⟨f1, _⟩ := o4 c _ (o3.frzs c ob _ z)
        rw [at_] at e
        rw [← Option.some.inj e]
        exact f1
    | next => exact out.elim
    | brk => exact out.elim
    | cont => exact out.elim
theorem walkG {l : PySem.W.OpenLaw} {n : Nat} {q : Program} {loose : List Str} {XP : (Str → Option Value) → Heap → Prop} {YP : World → Heap → Prop} {d : DefRec} {K : Params → PySem.W.Frag}
    (most : l.most = some n) (small : n ≤ sizeLine) (plain : d.params.defaults = []) (room : Room lv callerA) (given : ∀ (w : World) (h : Heap), YP w h → (K w.params).In h)
    (defs : ∀ (w : World) (mg : Str → Option Value) (fa : Addr) (h : Heap), (K w.params).In h → h.Ns mainGlobals mg → mg d.name = some (.ref fa) → ∃ cm : Nat → Addr, ∀ base : Heap, (K w.params).In base → base.Ns mainGlobals mg → Gd l.prog w (K w.params) mg base ⟨K w.params, cm⟩ lv fa fn)
    (law : ∀ ns : List Int, ns.length ≤ n → ∃ sds, fn [.val (scrD ns)] = .ok (.val (.bl true)) sds) : PySem.W.WalkO q loose XP YP l.row.toRowW d [] (fun f vs => PySem.call f vs) := by
  refine Att.attach_call most plain fun w s₀ s₁ mg mb fa o pm cd doc a vs ns Gr Y ho hd hcd hmg hobj hints hlen hg => ?_
  obtain ⟨cm, hD⟩ := defs w mg fa _ (given w _ Y) Gr.T.g hmg
  exact top_call (given w _ Y) Gr.T.g Gr.T.b Gr.T.builtins Gr.T.nolimit hg hobj hints (Nat.le_trans hlen small) room hD (law ns hlen)
end
end G
set_option maxRecDepth 100000
set_option maxHeartbeats 4000000
namespace G
open PySem PySem.Spec PyProof.Rows L2
theorem roomU {lv : Nat} {A : Around} (h : Room lv A) : A.units + 65 < cLine := by
  have := h.un
  omega
section
variable {X : Cx} {φ : Fx} {W : WX} {e e2 : Expr} {o o2 : Opd} {m : M D} {pos p : Pos}
/-! ### built-ins by name -/
theorem d_len (mg : X.mg "len" = none) (ha : DO X φ W e o) (hK : φ.k.K = X.K := by rfl) (gl : Gl X "len" := by rfl) (he : starEach [e] X.env = (false, eval e X.env) :: starEach [] X.env := by rfl) : DE X φ W (.Call (.Name "len" p) [e] [] pos) (callM lenD [o]) :=
  d_callB (by rw [← hK]; exact cv_len) call_lenG gl mg PySem.boot_len (da_cons ha da_nil he) (by decide) (by decide) he rfl
theorem d_abs (mg : X.mg "abs" = none) (ha : DO X φ W e o) (gl : Gl X "abs" := by rfl) (he : starEach [e] X.env = (false, eval e X.env) :: starEach [] X.env := by rfl) : DE X φ W (.Call (.Name "abs" p) [e] [] pos) (callM absD [o]) :=
  d_callB cv_abs call_abs gl mg rfl (da_cons ha da_nil he) (by decide) (by decide) he rfl
theorem d_int1 (mg : X.mg "int" = none) (ha : DO X φ W e o) (gl : Gl X "int" := by rfl) (he : starEach [e] X.env = (false, eval e X.env) :: starEach [] X.env := by rfl) : DE X φ W (.Call (.Name "int" p) [e] [] pos) (callM intD [o]) :=
  d_callT cv_int call_int1 gl mg rfl (da_cons ha da_nil he) (by decide) (by decide) he rfl
theorem d_max2 (mg : X.mg "max" = none) (hc : X.calm = true) (ha : DO X φ W e o) (hb : DO X φ W e2 o2) (gl : Gl X "max" := by rfl) (he : starEach [e, e2] X.env = (false, eval e X.env) :: starEach [e2] X.env := by rfl) (he2 : starEach [e2] X.env = (false, eval e2 X.env) :: starEach [] X.env := by rfl)
    (hpl : (backTo pos (starEach [e2] X.env)).any (·.1) = false := by rfl) : DE X φ W (.Call (.Name "max" p) [e, e2] [] pos) (callM maxD [o, o2]) := d_callB cv_max (call_max2 hc) gl mg rfl (da_cons ha (da_cons hb da_nil he2) he) (by decide) (by decide) he hpl
theorem d_min2 (mg : X.mg "min" = none) (hc : X.calm = true) (ha : DO X φ W e o) (hb : DO X φ W e2 o2) (gl : Gl X "min" := by rfl) (he : starEach [e, e2] X.env = (false, eval e X.env) :: starEach [e2] X.env := by rfl) (he2 : starEach [e2] X.env = (false, eval e2 X.env) :: starEach [] X.env := by rfl)
    (hpl : (backTo pos (starEach [e2] X.env)).any (·.1) = false := by rfl) : DE X φ W (.Call (.Name "min" p) [e, e2] [] pos) (callM minD [o, o2]) := d_callB cv_min (call_min2 hc) gl mg rfl (da_cons ha (da_cons hb da_nil he2) he) (by decide) (by decide) he hpl
theorem d_divmod (mg : X.mg "divmod" = none) (ha : DO X φ W e o) (hb : DO X φ W e2 o2) (gl : Gl X "divmod" := by rfl) (he : starEach [e, e2] X.env = (false, eval e X.env) :: starEach [e2] X.env := by rfl) (he2 : starEach [e2] X.env = (false, eval e2 X.env) :: starEach [] X.env := by rfl)
    (hpl : (backTo pos (starEach [e2] X.env)).any (·.1) = false := by rfl) : DE X φ W (.Call (.Name "divmod" p) [e, e2] [] pos) (callM divmodD [o, o2]) := d_callB cv_divmod call_divmodW gl mg rfl (da_cons ha (da_cons hb da_nil he2) he) (by decide) (by decide) he hpl
theorem d_all (mg : X.mg "all" = none) (hc : X.calm = true) (ha : DO X φ W e o) (hK : φ.k.K = X.K := by rfl) (gl : Gl X "all" := by rfl) (he : starEach [e] X.env = (false, eval e X.env) :: starEach [] X.env := by rfl) : DE X φ W (.Call (.Name "all" p) [e] [] pos) (callM allD [o]) :=
  d_callB (by rw [← hK]; exact cv_all) (cr_all hc) gl mg rfl (da_cons ha da_nil he) (by decide) (by decide) he rfl
theorem d_any (mg : X.mg "any" = none) (hc : X.calm = true) (ha : DO X φ W e o) (hK : φ.k.K = X.K := by rfl) (gl : Gl X "any" := by rfl) (he : starEach [e] X.env = (false, eval e X.env) :: starEach [] X.env := by rfl) : DE X φ W (.Call (.Name "any" p) [e] [] pos) (callM anyD [o]) :=
  d_callB (by rw [← hK]; exact cv_any) (cr_any hc) gl mg rfl (da_cons ha da_nil he) (by decide) (by decide) he rfl
theorem d_sum (mg : X.mg "sum" = none) (hc : X.calm = true) (ha : DO X φ W e o) (hK : φ.k.K = X.K := by rfl) (gl : Gl X "sum" := by rfl) (he : starEach [e] X.env = (false, eval e X.env) :: starEach [] X.env := by rfl) : DE X φ W (.Call (.Name "sum" p) [e] [] pos) (callM sumD [o]) :=
  d_callB (by rw [← hK]; exact cv_sum) (cr_sum hc) gl mg rfl (da_cons ha da_nil he) (by decide) (by decide) he rfl
theorem d_listN (mg : X.mg "list" = none) (ha : DO X φ W e o) (hK : φ.k.K = X.K := by rfl) (gl : Gl X "list" := by rfl) (he : starEach [e] X.env = (false, eval e X.env) :: starEach [] X.env := by rfl) : DN X φ W (.Call (.Name "list" p) [e] [] pos) (callM listD [o]) :=
  d_callTN (by rw [← hK]; exact cn_list) call_list_of gl mg rfl (da_cons ha da_nil he) (by decide) (by decide) he rfl
theorem d_tuple1 (mg : X.mg "tuple" = none) (ha : DO X φ W e o) (hK : φ.k.K = X.K := by rfl) (gl : Gl X "tuple" := by rfl) (he : starEach [e] X.env = (false, eval e X.env) :: starEach [] X.env := by rfl) : DE X φ W (.Call (.Name "tuple" p) [e] [] pos) (callM tupleD [o]) :=
  d_callT (by rw [← hK]; exact cv_tuple) call_tuple_of gl mg rfl (da_cons ha da_nil he) (by decide) (by decide) he rfl
theorem d_isin {g : Cfg} (Gc : CfgOk φ.k g) (mg : X.mg "isinstance" = none) (ha : DO X φ W e o) (hb : DO X φ W e2 o2) (hK : φ.k.K = X.K := by rfl) (gl : Gl X "isinstance" := by rfl) (he : starEach [e, e2] X.env = (false, eval e X.env) :: starEach [e2] X.env := by rfl) (he2 : starEach [e2] X.env = (false, eval e2 X.env) :: starEach [] X.env := by rfl)
    (hpl : (backTo pos (starEach [e2] X.env)).any (·.1) = false := by rfl) : DE X φ W (.Call (.Name "isinstance" p) [e, e2] [] pos) (callM (isinD g) [o, o2]) := d_callB (by rw [← hK]; exact cv_isin Gc) call_isiG gl mg rfl (da_cons ha (da_cons hb da_nil he2) he) (by decide) (by decide) he hpl
/-- a built-in class as a value -/
theorem d_ty {x : Str} {n : String} (mg : X.mg x = none) (hv : bootBuiltins x = some (.type n) := by decide +kernel) (gl : Gl X x := by rfl) (hn : x ≠ "__name__" := by decide) (hd : (x == ("__debug__" : Str)) = false := by decide) : DE X φ W (.Name x pos) (M.pure (.ty n)) := d_bty gl mg hv hn hd
/-- an own class as a value -/
theorem d_cls {x : Str} {c : Nat} (mg : X.mg x = some (.ref (φ.k.cm c))) (gl : Gl X x := by rfl) (hd : (x == ("__debug__" : Str)) = false := by decide) : DE X φ W (.Name x pos) (M.pure (.cl c)) := d_glob (v := .ref (φ.k.cm c)) gl mg rfl (fun _ => .cl) hd
/-- a constant of the module -/
theorem d_gstr {x y : Str} {t : Tok} (mg : X.mg x = some (.str y t)) (gl : Gl X x := by rfl) (hd : (x == ("__debug__" : Str)) = false := by decide) : DE X φ W (.Name x pos) (M.pure (.str y)) := d_glob (v := .str y) gl mg ⟨t, rfl⟩ (fun _ => .str) hd
theorem d_gint {x : Str} {y : Int} {t : Tok} (mg : X.mg x = some (.int y t)) (gl : Gl X x := by rfl) (hd : (x == ("__debug__" : Str)) = false := by decide) : DE X φ W (.Name x pos) (M.pure (.int y)) := d_glob (v := .int y) gl mg ⟨t, rfl⟩ (fun _ => .int) hd

/-! ### name = [.. for ..] on one line -/
theorem tN_of_tM {σ : L2.St} {H : Hp} {Q : VK} (q : tM φ W m σ H Q) : tN φ W m σ H Q := by
  obtain ⟨F, δ, g, q⟩ := q
  refine ⟨F, δ, g, ?_⟩
  cases z : m δ with
  | bad =>
    rw [z] at q
    exact q
  | exc x δ' =>
    rw [z] at q
    exact q
  | ok d δ' =>
    rw [z] at q
    intro F' H' g' s' p x
    obtain ⟨F'', g2, s2, r⟩ := g'.frozeNew x
    exact q F'' H' g2 (s'.trans s2) _ r
variable {pos : Pos}
theorem ds_setLc (i : Nat) {y : Str} {py : Pos} {elt tg iter : Expr} {ifs : List Expr} {scope : Scope} {own : List (Str × Nat)} {vs : List Nat} {mi : M (List D)} {t : D → M Unit} {c : M Bool} {me : M D} {spos : Pos} (hc : X.calm = true) (hN : X.N.Nodup) (hsw : swapsWith (.ListComp elt [⟨tg, iter, ifs, 0⟩] scope pos) (some (.Name y py)) spos.line X.env = pure true)
    (ok : BlkOk X.N X.env.scope scope own) (hv : own.map (·.2) = vs) (hi : DI X φ W tg iter mi)
    (hg : ∀ (s : Shared) (H : Hp) (C : Addr) (cl : List (Str × Addr)) (fp : List Addr) (F0 H0 : Hp) (pr : List (Nat × Addr)), DGw (X.blk s H scope (compEnvC scope cl C X.env) fp) ⟨φ.k, F0, H0, pr⟩ W0 vs tg t)
    (ht : ∀ (s : Shared) (H : Hp) (C : Addr) (cl : List (Str × Addr)) (fp : List Addr) (F0 H0 : Hp) (pr : List (Nat × Addr)), DTs (X.blk s H scope (compEnvC scope cl C X.env) fp) ⟨φ.k, F0, H0, pr⟩ W0 ifs c)
    (he : ∀ (s : Shared) (H : Hp) (C : Addr) (cl : List (Str × Addr)) (fp : List Addr) (F0 H0 : Hp) (pr : List (Nat × Addr)), DE (X.blk s H scope (compEnvC scope cl C X.env) fp) ⟨φ.k, F0, H0, pr⟩ W0 elt me)
    (hy : X.N[i]? = some y := by rfl) (hyl : X.env.scope.names.lookup y = some .local := by rfl) (hs : ∀ x, foldedSetIterable iter X.env x = pure x := by intro _; rfl) :
    DS X φ W (.Assign [.Name y py] (.ListComp elt [⟨tg, iter, ifs, 0⟩] scope pos) spos) (setS i (lcM vs mi t c me)) ∧ DS X φ W (.Assign [.Name y py] (.ListComp elt [⟨tg, iter, ifs, 0⟩] scope pos) spos) (setN i (lcM vs mi t c me)) := by
  have base := ps_setLc (py := py) (pos := pos) (spos := spos) (g := fun v σ H Q => ∃ F0 H0 pr, tGw ⟨φ.k, F0, H0, pr⟩ W0 vs t v σ H Q) (tt := fun σ H Q => ∃ F0 H0 pr, tT ⟨φ.k, F0, H0, pr⟩ W0 c σ H Q) (te := fun σ H Q => ∃ F0 H0 pr, tM ⟨φ.k, F0, H0, pr⟩ W0 me σ H Q) (own := own) hc hN hy hyl hsw hi ok
    (fun s H C cl fp => ⟨fun pins s' σ H' v u Q I r ⟨F0, H0, pr, h⟩ => (hg s H C cl fp F0 H0 pr).run pins s' σ H' v u Q I r h⟩) (fun s H C cl fp => ⟨fun pins s' σ H' Q I ⟨F0, H0, pr, h⟩ => (ht s H C cl fp F0 H0 pr).run pins s' σ H' Q I h⟩)
    (fun s H C cl fp => ⟨fun pins s' σ H' Q I ⟨F0, H0, pr, h⟩ => (he s H C cl fp F0 H0 pr).run pins s' σ H' Q I h⟩) hs
  have lc : ∀ {σ : L2.St} {H : Hp} {Q : VK}, tN φ W (lcM vs mi t c me) σ H Q → tLc (tI φ W mi) (fun v σ H Q => ∃ F0 H0 pr, tGw ⟨φ.k, F0, H0, pr⟩ W0 vs t v σ H Q) (fun σ H Q => ∃ F0 H0 pr, tT ⟨φ.k, F0, H0, pr⟩ W0 c σ H Q) (fun σ H Q => ∃ F0 H0 pr, tM ⟨φ.k, F0, H0, pr⟩ W0 me σ H Q) (own.map (·.2)) σ H Q := fun {σ H Q} h =>
    tLc_of hv (fun F0 H0 pr v σ H Q h => ⟨F0, H0, pr, h⟩) (fun F0 H0 pr σ H Q h => ⟨F0, H0, pr, h⟩) (fun F0 H0 pr σ H Q h => ⟨F0, H0, pr, h⟩) h
  refine ⟨PS.imp base fun D σ H q => ?_, PS.imp base fun D σ H q => ?_⟩
  · obtain ⟨F, δ, g, q⟩ := q
    refine lc (tN_of_tM (tM_S g q fun d v δ' F' H' g' s r z => ?_))
    obtain ⟨δ2, g2, z2⟩ := storeM_ok g' r z
    exact z2 F' H' _ g2 (Sub.refl F')
  · obtain ⟨F, δ, g, q⟩ := q
    refine lc (tN_S g q fun d v δ' F' H' g' s r z => ?_)
    obtain ⟨δ2, g2, z2⟩ := storeN_ok g' r z
    exact z2 F' H' _ g2 (Sub.refl F')

theorem ds_setLcK (i : Nat) {y : Str} {py : Pos} {elt tg iter : Expr} {ifs : List Expr} {scope : Scope} {own : List (Str × Nat)} {vs : List Nat} {mi : M (List D)} {t : D → M Unit} {c : M Bool} {me : M D} {spos : Pos} (hc : X.calm = true) (hN : X.N.Nodup) (hsw : swapsWith (.ListComp elt [⟨tg, iter, ifs, 0⟩] scope pos) (some (.Name y py)) spos.line X.env = pure true)
    (ok : BlkOk X.N X.env.scope scope own) (hv : own.map (·.2) = vs) (hi : DI X φ W tg iter mi)
    (hg : ∀ (s : Shared) (H : Hp) (C : Addr) (cl : List (Str × Addr)) (fp : List Addr) (F0 H0 : Hp) (pr : List (Nat × Addr)), DGw (X.blk s H scope (compEnvC scope cl C X.env) fp) ⟨φ.k, F0, H0, pr⟩ W0 vs tg t)
    (ht : ∀ (s : Shared) (H : Hp) (C : Addr) (cl : List (Str × Addr)) (fp : List Addr) (F0 H0 : Hp) (pr : List (Nat × Addr)), DTs (X.blk s H scope (compEnvC scope cl C X.env) fp) ⟨φ.k, F0, H0, pr⟩ W0 ifs c)
    (he : ∀ (s : Shared) (H : Hp) (C : Addr) (cl : List (Str × Addr)) (fp : List Addr) (F0 H0 : Hp) (pr : List (Nat × Addr)), DE (X.blk s H scope (compEnvC scope cl C X.env) fp) ⟨φ.k, F0, H0, pr⟩ W0 elt me)
    (hy : X.N[i]? = some y := by rfl) (hyl : X.env.scope.names.lookup y = some .local := by rfl) (hs : ∀ x, foldedSetIterable iter X.env x = pure x := by intro _; rfl) :
    DS X φ W (.Assign [.Name y py] (.ListComp elt [⟨tg, iter, ifs, 0⟩] scope pos) spos) (setS i (lcM vs mi t c me)) := (ds_setLc i hc hN hsw ok hv hi hg ht he hy hyl hs).1
theorem ds_setLcN (i : Nat) {y : Str} {py : Pos} {elt tg iter : Expr} {ifs : List Expr} {scope : Scope} {own : List (Str × Nat)} {vs : List Nat} {mi : M (List D)} {t : D → M Unit} {c : M Bool} {me : M D} {spos : Pos} (hc : X.calm = true) (hN : X.N.Nodup) (hsw : swapsWith (.ListComp elt [⟨tg, iter, ifs, 0⟩] scope pos) (some (.Name y py)) spos.line X.env = pure true)
    (ok : BlkOk X.N X.env.scope scope own) (hv : own.map (·.2) = vs) (hi : DI X φ W tg iter mi)
    (hg : ∀ (s : Shared) (H : Hp) (C : Addr) (cl : List (Str × Addr)) (fp : List Addr) (F0 H0 : Hp) (pr : List (Nat × Addr)), DGw (X.blk s H scope (compEnvC scope cl C X.env) fp) ⟨φ.k, F0, H0, pr⟩ W0 vs tg t)
    (ht : ∀ (s : Shared) (H : Hp) (C : Addr) (cl : List (Str × Addr)) (fp : List Addr) (F0 H0 : Hp) (pr : List (Nat × Addr)), DTs (X.blk s H scope (compEnvC scope cl C X.env) fp) ⟨φ.k, F0, H0, pr⟩ W0 ifs c)
    (he : ∀ (s : Shared) (H : Hp) (C : Addr) (cl : List (Str × Addr)) (fp : List Addr) (F0 H0 : Hp) (pr : List (Nat × Addr)), DE (X.blk s H scope (compEnvC scope cl C X.env) fp) ⟨φ.k, F0, H0, pr⟩ W0 elt me)
    (hy : X.N[i]? = some y := by rfl) (hyl : X.env.scope.names.lookup y = some .local := by rfl) (hs : ∀ x, foldedSetIterable iter X.env x = pure x := by intro _; rfl) :
    DS X φ W (.Assign [.Name y py] (.ListComp elt [⟨tg, iter, ifs, 0⟩] scope pos) spos) (setN i (lcM vs mi t c me)) := (ds_setLc i hc hN hsw ok hv hi hg ht he hy hyl hs).2

/-! ### f(a new object) -/
def runN1 (fn : List SD → R SD) (d : D) : M SD := fun δ => match fn [.own d] with
  | .ok r _ => .ok r δ
  | .exc x _ => .exc x δ
  | .bad => .bad
def callN1 (fn : List SD → R SD) (m : M D) : M SD := m.bind (runN1 fn)
theorem GI.callNew {σ : L2.St} {F H F' H' : Hp} {δ : DEnv} {p : Addr} {d : D} {sds' : List SD} (g : GI φ F H σ δ) (x : Fresh φ σ δ F H p d) (fe : FEnd φ.k F H [.ref p] [.own d] F' H' sds') : GI φ F' H' σ δ := by
  have own : ∀ a, OwnArg [V.ref p] [SD.own d] a → a = p := fun a ⟨i, e, e1, e2⟩ => by
    cases i with
    | zero => simp at e2; exact e2.symm
    | succ i => simp at e1
  refine g.called fe rfl (fun a oa => .inr (by rw [own a oa]; exact x.h0)) fun i sd es => .inl ⟨es, fun ow a ea oa => ?_⟩
  rw [own a oa] at ea
  exact x.nd i sd es ow ea
theorem callN1_run {σ : L2.St} {F H : Hp} {δ : DEnv} {fn : List SD → R SD} {f : SD → M D} {P : D → DEnv → Hp → Hp → Prop} {Q : VK} (g : GI φ F H σ δ) (q : Out φ W σ F ((callN1 fn m).bind f δ) P) (h : ∀ v r δ' F' H', GI φ F' H' σ δ' → Sub F F' → ResFor φ σ δ' F' H' v r → Out φ W σ F' (f r δ') P → Q v H') :
    tN φ W m σ H fun v H1 => FD φ.k fn [v] H1 Q (WE W σ) := by
  unfold callN1 at q
  rw [bind_assoc] at q
  refine ⟨F, δ, g, q.bind.mono (Sub.refl F) fun d δ1 F1 H1 g1 s1 q1 p fr => ?_⟩
  refine ⟨F1, [.own d], g1.fh, .cons (.own fr.f fr.own) .nil, fun i j a d1 d2 ne e1 e2 v1 v2 => ?_, ?_⟩
  · cases i with
    | zero =>
      cases j with
      | zero => exact ne rfl
      | succ j => simp at e2
    | succ i => simp at e1
  · unfold M.bind runN1 at q1
    cases z : fn [.own d] with
    | bad => simp only [z] at q1; exact q1
    | exc x rs => simp only [z] at q1; exact fun F' H' da fe xa => q1 F' H' da (g1.callNew fr fe) fe.gr.ff xa
    | ok r rs =>
      simp only [z] at q1
      refine fun F' H' v fe ro => ?_
      have g2 := g1.callNew fr fe
      refine h v r δ1 F' H' g2 (s1.trans fe.gr.ff) ⟨fun d' er => ?_, fun d' er => ?_, fun er => ?_⟩ (Out.mono q1 fe.gr.ff fun _ _ _ _ _ _ p => p)
      · subst er; exact ro
      · subst er
        obtain ⟨p', e1, e2, e3, e4⟩ := ro
        exact ⟨p', e1, g1.freshRes (δ' := δ1) g2 e2 e3 e4 fun i sd e o => ⟨sd, e, o⟩⟩
      · rcases er with rfl | ⟨d', rfl⟩ | ⟨d', rfl⟩ <;> exact ro
theorem d_callN1 {x : Str} {lv : Nat} {f : Addr} {fn : List SD → R SD} (Gx : Gf X φ.k lv f fn) (hr : Room lv X.A) (hg : X.A.guards = some []) (tk : Takes X W) (mg : X.mg x = some (.ref f)) (ha : DN X φ W e m) (gl : Gl X x := by rfl) (hdb : (x == ("__debug__" : Str)) = false := by decide)
    (he : starEach [e] X.env = (false, eval e X.env) :: starEach [] X.env := by rfl) : DE X φ W (.Call (.Name x p) [e] [] pos) (keptR (callN1 fn m)) :=
  PE.imp (pe_callG (φ := φ) (W := W) Gx hr hg tk gl mg (t := tCons (tN φ W m) tNil) (pa_cons ha pa_nil he) hdb he rfl) fun σ H Q h => by
    obtain ⟨F, δ, g, q⟩ := h
    exact callN1_run g q fun v r δ' F' H' g' s' rf z => rf.fin g' z
end
end G
set_option maxRecDepth 100000
set_option maxHeartbeats 4000000
namespace G
open PySem PySem.Spec PyProof.Rows L2

/-! ### isinstance by a table -/
def TyN.same : TyN → TyN → Bool
  | .inl a, .inl b => a == b
  | .inr a, .inr b => a == b
  | _, _ => false
theorem TyN.same_eq {a b : TyN} (h : TyN.same a b = true) : a = b := by
  cases a <;> cases b <;> first | (rw [beq_iff_eq.mp h]) | cases h
def cfgOf (l : List ((TyN × TyN) × Bool)) (cs : List Nat) : Cfg := ⟨fun t u => (l.find? fun p => TyN.same p.1.1 t && TyN.same p.1.2 u).map (·.2), fun c => cs.contains c⟩
theorem cfgOf_ok {k : KX} {l : List ((TyN × TyN) × Bool)} {cs : List Nat} (h : ∀ p ∈ l, PySem.W.kitOne k.K (tyV k p.1.1) (tyV k p.1.2) = some p.2) (hc : ∀ c ∈ cs, ClsOk k c) : CfgOk k (cfgOf l cs) := by
  refine ⟨fun t u b e => ?_, fun c e => hc c (by simpa [cfgOf] using e)⟩
  change (l.find? fun p => TyN.same p.1.1 t && TyN.same p.1.2 u).map (·.2) = some b at e
  cases z : l.find? fun p => TyN.same p.1.1 t && TyN.same p.1.2 u with
  | none => rw [z] at e; cases e
  | some p =>
    rw [z] at e
    cases e
    have hs := List.find?_some z
    rw [Bool.and_eq_true] at hs
    rw [← TyN.same_eq hs.1, ← TyN.same_eq hs.2]
    exact h p (List.mem_of_find?_eq_some z)
section
variable {X : Cx} {φ : Fx} {k : KX} {tab : Tab}
def NeOps (X : Cx) (k : KX) (tab : Tab) : Prop := ∀ c fn, tab.lookup c = some fn → NeOp X k c
theorem NeOps.nil : NeOps X k [] := fun _ _ h => by cases h
theorem NeOps.cons {c : Nat} {fn : List SD → R SD} (h : NeOp X k c) (r : NeOps X k tab) : NeOps X k ((c, fn) :: tab) := fun c' a' e => by
  rw [List.lookup_cons] at e
  cases z : c' == c with
  | true =>
    rw [beq_iff_eq.mp z]
    exact h
  | false =>
    rw [z] at e
    exact r c' a' e
theorem accProp {c lv : Nat} {f : Str} {g : Addr} {fn : List SD → R SD} (h1 : Cls X.K (k.cm c)) (h2 : ∃ p, PropOf X.K (k.cm c) f p g) (h3 : Gf X k lv g fn) (h4 : Room (lv + 1) X.A) : AccOk X k c f (.prop fn) := by
  obtain ⟨p, h2⟩ := h2
  exact .prop h1 h2 h3 h4
end

/-! ### a def behind the top, in full -/
structure Gs (P : Program) (w : World) (K : PySem.W.Frag) (mg : Str → Option Value) (base : Heap) (k : KX) (lv : Nat) (x qual : Str) (st : Stmt) (f : Addr) (ps : List Str) (fn : List SD → R SD) : Prop where
  ex : ∃ fd, Fun K x qual st f fd ∧ FnG P w K mg base lv f fd ps (FD k fn)
section
variable {P : Program} {w : World} {K : PySem.W.Frag} {mg : Str → Option Value} {base : Heap} {lv : Nat} {f : Addr} {k : KX} {fn : List SD → R SD} {ps : List Str} {x qual : Str} {st : Stmt}
theorem DefAt.okS {N : List Str} {cm : Nat → Addr} {np n : Nat} {m : M Fl} (Fd : DefAt K x qual st f) (S : FnScope N ps (defScope st)) (hn : N.length = n) (hp : ps.length = np) (hnp : np ≤ n)
    (body : ∀ (cdv : Value) (A : Around) (outer : List PySem.Env) (s : Shared) (H : Hp) (E : XK) (F0 H0 : Hp) (pr : List (Nat × Addr)), Room lv (A.deeper (envOfC qual (defScope st) s.heap.objs.size f cdv)) → A.guards = some [] →
      DSs (bodyX P w K mg base N qual st f cdv A outer s H E) ⟨⟨K, cm⟩, F0, H0, pr⟩ (fun c d _ H => E c d H) (defBody st) m) : Gs P w K mg base ⟨K, cm⟩ (lv + 1) x qual st f ps (runF np n m) := by
  obtain ⟨fd, Fd⟩ := Fd.ex
  exact ⟨fd, Fd, Fun.okG Fd S hn hp hnp body⟩
theorem Gs.gd (h : Gs P w K mg base k lv x qual st f ps fn) (hb : ∀ (kV doc pm : Value) (an : Option Addr) (cdv ct : Value) (us : List Value), us.length = ps.length → bindArgs (PySem.W.fnOf x qual (defArgs st) (defBody st) (defScope st) .none kV doc pm an cdv ct) ⟨us, []⟩ = pure (ps.zip us)) :
    Gd P w K mg base k lv f fn := by
  obtain ⟨fd, Fd, Fn⟩ := h.ex
  exact ⟨fd, ps, Fn, Fd.binds hb, Fd.kp⟩
theorem Gd.gm {X : Cx} {c : Nat} (mk : Mk X.K (k.cm c) f) (h : Gd X.prog X.w X.K X.mg X.base k lv f fn) : Gm X k lv c fn := by
  obtain ⟨fd, ps, Fn, b, _⟩ := h.ex
  exact ⟨f, fd, ps, mk, Fn, b⟩
theorem Fun.kbi {fd : FuncData} {pn n : Nat} {ks : List Str} {ix : List Nat} (Fd : Fun K x qual st f fd) (hix : ∀ i ∈ ix, i < n + ks.length + ([] : List D).length)
    (hb : ∀ (kV doc pm : Value) (an : Option Addr) (cdv ct : Value) (pre us ws : List Value), pre.length = pn → us.length = n → ws.length = ks.length → bindArgs (PySem.W.fnOf x qual (defArgs st) (defBody st) (defScope st) .none kV doc pm an cdv ct) ⟨pre ++ us, ks.zip ws⟩ = pure (ps.zip (pre ++ permL ix ((us ++ ws) ++ [])))) :
    KBi K k fd ps pn n ks ix [] := by
  obtain ⟨oc, od, kV, doc, pm, an, cdv, ct, osl, rfl, lk, hcd⟩ := Fd.ex
  exact ⟨[], [], .nil, fun _ => .nil, hix, fun s pre us ws _ h1 h2 h3 => .of_eq (hb kV doc pm an cdv ct pre us ws h1 h2 h3)⟩
theorem Gs.gmk {X : Cx} {c n : Nat} {ks : List Str} {ix : List Nat} (h : Gs X.prog X.w X.K X.mg X.base k lv x qual st f ps fn) (mk : Mk X.K (k.cm c) f) (hix : ∀ i ∈ ix, i < n + ks.length + ([] : List D).length)
    (hb : ∀ (kV doc pm : Value) (an : Option Addr) (cdv ct : Value) (pre us ws : List Value), pre.length = 1 → us.length = n → ws.length = ks.length → bindArgs (PySem.W.fnOf x qual (defArgs st) (defBody st) (defScope st) .none kV doc pm an cdv ct) ⟨pre ++ us, ks.zip ws⟩ = pure (ps.zip (pre ++ permL ix ((us ++ ws) ++ [])))) :
    Gmk X k lv c fn n ks ix [] := by
  obtain ⟨fd, Fd, Fn⟩ := h.ex
  exact ⟨f, fd, ps, mk, Fn, Fun.kbi Fd hix hb⟩
theorem Gs.gk {X : Cx} {n : Nat} {ks : List Str} {ix : List Nat} (h : Gs X.prog X.w X.K X.mg X.base k lv x qual st f ps fn) (hix : ∀ i ∈ ix, i < n + ks.length + ([] : List D).length)
    (hb : ∀ (kV doc pm : Value) (an : Option Addr) (cdv ct : Value) (pre us ws : List Value), pre.length = 0 → us.length = n → ws.length = ks.length → bindArgs (PySem.W.fnOf x qual (defArgs st) (defBody st) (defScope st) .none kV doc pm an cdv ct) ⟨pre ++ us, ks.zip ws⟩ = pure (ps.zip (pre ++ permL ix ((us ++ ws) ++ [])))) :
    Gk X k lv f fn n ks ix [] := by
  obtain ⟨fd, Fd, Fn⟩ := h.ex
  exact ⟨fd, ps, Fn, Fun.kbi Fd hix hb, Fd.kp⟩
end
end G
set_option maxRecDepth 100000
set_option maxHeartbeats 4000000
namespace G
open PySem PySem.Spec PyProof.Rows L2
/-! ### list.pop(i), i from the front -/
def popAtD : D → List D → Option (D × D)
  | .lst xs, [.int i] => if 0 ≤ i ∧ i < 2 ^ 63 ∧ i < xs.length then (xs[i.toNat]?).map fun y => (.lst (xs.eraseIdx i.toNat), y) else none
  | _, _ => none
section
variable {k : KX} {F : Hp}
theorem RepL.eraseIdx : ∀ {vs : List V} {ds : List D} (i : Nat), RepL k F vs ds → RepL k F (vs.eraseIdx i) (ds.eraseIdx i)
  | _, _, _, .nil => .nil
  | _, _, 0, .cons h r => r
  | _, _, i + 1, .cons h r => .cons h (RepL.eraseIdx i r)
theorem seqIndex_front {i : Int} {n : Nat} (h : 0 ≤ i) (h2 : i < n) : seqIndex? i n = some i.toNat := by
  unfold seqIndex?
  have h3 : ¬ i < 0 := by omega
  simp only [h3, if_false]
  first
    | rfl
    | (split <;> first | rfl | omega)
    | simp
      omega
theorem mu_popAt : MuV k rPopAt popAtD := fun F H a d vs ds d' e s f w r h Q q => by
  unfold popAtD at h
  split at h
  · rename_i xs i
    by_cases z : 0 ≤ i ∧ i < 2 ^ 63 ∧ i < xs.length
    · rw [if_pos z] at h
      cases w with
      | @lst zs _ ha rl =>
        cases r with
        | cons r0 rn =>
          cases rn
          cases r0
          cases y0 : xs[i.toNat]? with
          | none => rw [y0] at h; cases h
          | some y =>
            rw [y0] at h
            cases h
            obtain ⟨v, e1, rv⟩ := rl.get y0
            exact ⟨a, zs, i, i.toNat, v, rfl, rfl, ha, by omega, z.2.1, by rw [rl.length]; exact seqIndex_front z.1 z.2.2, e1, q _ _ (.lst upd_same (RepL.eraseIdx _ rl)) rv⟩
    · rw [if_neg z] at h
      cases h
  · cases h
end
section
variable {X : Cx} {φ : Fx} {W : WX} {e : Expr} {m : M D} {pv apos cpos : Pos} {x : Str}
theorem d_popAt (i : Nat) (he : DE X φ W e m) (hN : X.N[i]? = some x := by rfl) (hv : Vis X.env.scope x := by first | exact Or.inl rfl | exact Or.inr (Or.inl rfl) | exact Or.inr (Or.inr rfl))
    (hd : (x == ("__debug__" : Str)) = false := by decide) (hcd : (x == ("__classdict__" : Str)) = false := by decide) (hK : φ.k.K = X.K := by rfl)
    (hbase : attributeBase (.Name x pv) "pop" X.env (eval (.Name x pv) X.env) = eval (.Name x pv) X.env := by rfl) (hs : starEach [e] X.env = (false, eval e X.env) :: starEach [] X.env := by rfl)
    (hfew : ((backTo cpos (starEach [e] X.env)).all (fun x => !x.1) && (backToKw cpos (keywordEach [] X.env)).all (fun x => x.1.isSome)
      && decide ([e].length + ([] : List Keyword).length + (if ([] : List Keyword).isEmpty then 0 else 1) < 30)) = true := by rfl) (hline : (apos.endLine == cpos.line) = true := by rfl) :
    DE X φ W (.Call (.Attribute (.Name x pv) "pop" apos) [e] [] cpos) (mutM "list" popAtD i [m]) :=
  d_mut i mu_popAt PySem.F.plainAttrs_list PySem.F.slot_list_pop PySem.F.type_list_pop mt_popAt (dc_cons he dc_nil hs) hN hv hd hcd hK hbase hfew hline hs rfl
end
end G
set_option maxRecDepth 100000
set_option maxHeartbeats 4000000
namespace G
open PySem PySem.Spec PyProof.Rows L2
/-! ### new dicts -/
def dnewM : M D := M.pure (.dk [])
def mergeD (kds more : List (Key × D)) : List (Key × D) := more.foldl (fun acc kv => putD acc kv.1 kv.2) kds
def pairsD : List D → Option (List (Key × D))
  | [] => some []
  | .tup [kd, d] :: r => match keyD kd, pairsD r with
    | some q, some ps => some ((q, d) :: ps)
    | _, _ => none
  | _ => none
def dictPD : List D → Option D
  | [.lst ds] => (pairsD ds).map fun ps => .dk (mergeD [] ps)
  | _ => none
section
variable {X : Cx} {φ : Fx} {W : WX} {pos : Pos}
theorem d_dnew : DN X φ W (.Dict [] [] pos) dnewM := PE.imp pe_dnewK fun σ H Q q => by
  obtain ⟨F, δ, g, q⟩ := q
  intro p hp
  have n := New.made (o := .dK []) g.fh hp
  exact q _ _ (g.new n) n.ff _ (g.fresh hp (g.fh.none hp) (.dk upd_same .nil))
end
section
variable {k : KX} {F H : Hp}
theorem RepK.merge : ∀ {ms : List (Key × V)} {md : List (Key × D)} {vs : List (Key × V)} {ds : List (Key × D)}, RepK k F ms md → RepK k F vs ds → RepK k F (mergeK vs ms) (mergeD ds md)
  | _, _, _, _, .nil, h => h
  | _, _, vs, ds, @RepK.cons _ _ q v d ms md r rs, h => by
    show RepK k F (mergeK (putK vs q v) ms) (mergeD (putD ds q d) md)
    exact RepK.merge rs (h.put r)
theorem pairs_rep (s : Sub F H) : ∀ {ds : List D} {vs : List V} {kds : List (Key × D)}, RepL k F vs ds → pairsD ds = some kds → ∃ (ps : List Addr) (kvs : List (Key × V)), vs = ps.map V.ref ∧ Paired (fun p kv => SqT k.K H p [kV kv.1, kv.2]) ps kvs ∧ RepK k F kvs kds
  | [], _, _, .nil, e => by cases e; exact ⟨[], [], rfl, .nil, .nil⟩
  | x :: r, _, kds, .cons rx rl, e => by
    unfold pairsD at e
    split at e
    · rename_i heq
      cases heq
    · rename_i kd d r' heq
      cases heq
      cases h1 : keyD kd with
      | none => rw [h1] at e; cases e
      | some q =>
        cases h2 : pairsD r with
        | none => rw [h1, h2] at e; cases e
        | some kd2 =>
          rw [h1, h2] at e
          cases e
          obtain ⟨ps, kvs, e1, e2, e3⟩ := pairs_rep s rl h2
          cases rx with
          | tup ha l =>
            cases l with
            | cons r1 l1 =>
              cases l1 with
              | cons r2 l2 =>
                cases l2
                have ek := RepO.key (H := H) (.inl r1) h1
                subst ek
                exact ⟨_ :: ps, (q, _) :: kvs, by rw [e1]; rfl, .cons (.of (s _ _ ha)) e2, .cons r2 e3⟩
    · cases e
theorem cn_dictP : CaN k (fun xs H Q => ∃ (a : Addr) (ps : List Addr) (kvs : List (Key × V)), xs = [.ref a] ∧ SqL k.K H a (ps.map V.ref) ∧ Paired (fun p kv => SqT k.K H p [kV kv.1, kv.2]) ps kvs ∧
    ∀ p, H p = none → Q (.ref p) (upd H p (.dK (mergeK [] kvs)))) dictPD := by
  intro F H vs ds d s rs e Q q
  unfold dictPD at e
  split at e
  · rename_i xs
    cases z : pairsD xs with
    | none => rw [z] at e; cases e
    | some kds =>
      rw [z] at e
      cases e
      obtain ⟨x, rfl, r⟩ := rs.one
      obtain ⟨a, ws, rfl, ha, l⟩ := r.lst s
      obtain ⟨ps, kvs, rfl, e2, e3⟩ := pairs_rep s l z
      exact ⟨a, ps, kvs, rfl, .of ha, e2, fun p hp => q F _ p (New.made s hp) hp (s.none hp) (.dk upd_same (RepK.merge e3 .nil))⟩
  · cases e
end
section
variable {X : Cx} {φ : Fx} {W : WX} {e : Expr} {o : Opd} {p pos : Pos}
theorem d_dictP (mg : X.mg "dict" = none) (hc : X.calm = true) (ha : DO X φ W e o) (hK : φ.k.K = X.K := by rfl) (gl : Gl X "dict" := by rfl) (he : starEach [e] X.env = (false, eval e X.env) :: starEach [] X.env := by rfl) : DN X φ W (.Call (.Name "dict" p) [e] [] pos) (callM dictPD [o]) :=
  d_callTN (by rw [← hK]; exact cn_dictP) (call_dictP hc) gl mg rfl (da_cons ha da_nil he) (by decide) (by decide) he rfl
end
end G
set_option maxRecDepth 100000
set_option maxHeartbeats 4000000
namespace G
open PySem PySem.Spec PyProof.Rows L2
/-! ### {"a": x, ..}: keys are texts -/
def sdsV : List SD → Option (List D)
  | [] => some []
  | .val d :: r => (sdsV r).map (d :: ·)
  | _ => none
def zipK (xs : List Str) (ds : List D) : List (Key × D) := (xs.map Sum.inr).zip ds
def dispM (xs : List Str) (ms : List (M D)) : M D := (parE (ms.map fun m => (false, m))).bind fun sds => match sdsV sds with
  | some ds => if decide (ds.length = xs.length ∧ xs.length ≤ 15) = true then M.pure (.dk (mergeD [] (zipK xs ds))) else badM
  | none => badM
section
variable {k : KX} {F : Hp}
theorem held_rep : ∀ {sds : List SD} {vs : List V} {ds : List D}, sdsV sds = some ds → vs.length = sds.length → (∀ (i : Nat) (d : D), sds[i]? = some (.val d) → ∃ v, vs[i]? = some v ∧ Rep k F v d) → RepL k F vs ds
  | [], [], _, e, _, _ => by cases e; exact .nil
  | [], _ :: _, _, _, l, _ => by simp at l
  | .val d :: r, [], _, _, l, _ => by simp at l
  | .val d :: r, v :: vs, ds, e, l, h => by
    change (sdsV r).map (d :: ·) = some ds at e
    cases z : sdsV r with
    | none => rw [z] at e; cases e
    | some ds' =>
      rw [z] at e
      cases e
      obtain ⟨v', e1, e2⟩ := h 0 d rfl
      cases e1
      exact .cons e2 (held_rep z (by simpa using l) fun i d' e3 => h (i + 1) d' e3)
  | .no :: r, _, _, e, _, _ => by cases e
  | .own d :: r, _, _, e, _, _ => by cases e
  | .arg d :: r, _, _, e, _, _ => by cases e
  | .frz d :: r, _, _, e, _, _ => by cases e
theorem zip_rep : ∀ {xs : List Str} {vs : List V} {ds : List D}, RepL k F vs ds → RepK k F ((xs.map (Sum.inr (α := Int))).zip vs) (zipK xs ds)
  | [], _, _, _ => .nil
  | _ :: _, _, _, .nil => .nil
  | x :: xs, _, _, .cons r rs => .cons r (zip_rep rs)
end
section
variable {X : Cx} {φ : Fx} {W : WX} {pos : Pos}
inductive DPr (X : Cx) (k : KX) (W : WX) (pos : Pos) : List (Option Expr) → List Expr → List Str → List (M D) → Prop
  | nil : DPr X k W pos [] [] [] []
  | cons {x : Str} {j} {p : Pos} {v : Expr} {m : M D} {ks : List (Option Expr)} {vs : List Expr} {xs : List Str} {ms : List (M D)} : (∀ F0 H0 pr, DE X ⟨k, F0, H0, pr⟩ W v m) → DPr X k W pos ks vs xs ms → DPr X k W pos (some (.Constant (.str x) j p) :: ks) (v :: vs) (x :: xs) (m :: ms)
def prT (k : KX) (W : WX) : List Str → List (M D) → List (TE × TE)
  | x :: xs, m :: ms => (tC (.str x), tB k W false m) :: prT k W xs ms
  | _, _ => []
theorem DPr.pps {k : KX} {ks : List (Option Expr)} {vs : List Expr} {xs : List Str} {ms : List (M D)} (h : DPr X k W pos ks vs xs ms) : PPs X pos ks vs (prT k W xs ms) := by
  induction h with
  | nil => exact pps_nil
  | cons h _ ih => exact pps_cons pe_str ⟨fun pins s σ H Q I ⟨F0, H0, pr, q⟩ => (h F0 H0 pr).run pins s σ H Q I q⟩ ih
theorem prT_of {k : KX} : ∀ {xs : List Str} {ms : List (M D)} {σ : L2.St} {H : Hp} {Q : List (V × V) → Hp → Prop}, xs.length = ms.length → tPs k W (ms.map fun m => (false, m)) σ H (fun vs H2 => Q ((xs.map V.str).zip vs) H2) → tPairs (prT k W xs ms) σ H Q
  | [], [], σ, H, Q, _, h => h
  | [], _ :: _, _, _, _, l, _ => by simp at l
  | _ :: _, [], _, _, _, l, _ => by simp at l
  | x :: xs, m :: ms, σ, H, Q, l, h => by
    show tC (.str x) σ H fun a H1 => tB k W false m σ H1 fun y H2 => tPairs (prT k W xs ms) σ H2 fun ps H3 => Q ((a, y) :: ps) H3
    obtain ⟨F0, H0, pr, q⟩ := h
    refine ⟨F0, H0, pr, ?_⟩
    rw [if_neg Bool.false_ne_true] at q ⊢
    obtain ⟨F, δ, g, q⟩ := q
    exact ⟨F, δ, g, q.mono (Sub.refl F) fun d δ' F' H' g' s' z v r => prT_of (by simpa using l) (z v r)⟩
theorem zip_map {xs : List Str} : ∀ {vs : List V}, (xs.map V.str).zip vs = ((xs.map (Sum.inr (α := Int))).zip vs).map fun kv => (kV kv.1, kv.2) := by
  induction xs with
  | nil => intro vs; rfl
  | cons x xs ih =>
    intro vs
    cases vs with
    | nil => rfl
    | cons v vs =>
      show (V.str x, v) :: (xs.map V.str).zip vs = _ :: _
      rw [ih]
      rfl
theorem DPr.len {k : KX} {ks : List (Option Expr)} {vs : List Expr} {xs : List Str} {ms : List (M D)} (h : DPr X k W pos ks vs xs ms) : xs.length = ms.length := by
  induction h with
  | nil => rfl
  | cons _ _ ih => simp [ih]
theorem d_disp {ks : List (Option Expr)} {vs : List Expr} {xs : List Str} {ms : List (M D)} (h : DPr X φ.k W pos ks vs xs ms) (hall : ks.all (·.isSome) = true := by rfl) (hl : ks.length = vs.length := by rfl) (h0 : ks ≠ [] := by decide) (h15 : ks.length ≤ 15 := by decide) :
    DN X φ W (.Dict ks vs pos) (dispM xs ms) := PE.imp (pe_disp h.pps hall hl h0 h15) fun σ H Q q => by
  obtain ⟨F, δ, g, q⟩ := q
  intro p hp
  have n := New.made (o := .dK []) g.fh hp
  have g1 := g.new n
  have fr : Fresh φ σ δ F (upd H p (.dK [])) p (.dk []) := g.fresh hp (g.fh.none hp) (.dk upd_same .nil)
  have hd := (Held.nil (φ := φ) (σ := σ) (δ := δ) (F := F) (H := upd H p (.dK []))).snocO fr fun i d' e => by simp at e
  refine prT_of h.len (tPs_run g1 hd q fun sds ws δ' F' H' g' s' hd' l q' => ?_)
  obtain ⟨p', e1, fr'⟩ := hd'.own 0 (.dk []) rfl
  cases e1
  have e2 : H' p = some (.dK []) := by
    cases fr'.own with
    | dk e r => cases r; exact e
  refine ⟨e2, (xs.map (Sum.inr (α := Int))).zip ws, zip_map, ?_⟩
  cases z : sdsV sds with
  | none => rw [z] at q'; exact q'.elim
  | some ds =>
    rw [z] at q'
    rcases q'.ite with ⟨c, q2⟩ | ⟨_, q2⟩
    · have c' := of_decide_eq_true c
      have rl : RepL φ.k F' ws ds := held_rep z l fun i d e => by
        obtain ⟨v, e3, e4⟩ := hd'.val (i + 1) d e
        exact ⟨v, e3, e4⟩
      have g2 := g'.writeFree (L := p) (o := .dK (mergeK [] ((xs.map (Sum.inr (α := Int))).zip ws))) fr'.h0 fr'.f (by rw [e2]; simp) fr'.nd
      refine ⟨by rw [List.length_zip, List.length_map]; exact Nat.le_trans (Nat.min_le_left _ _) c'.2, ?_⟩
      exact q2 F' _ g2 (Sub.refl F') p ⟨fr'.h0, fr'.f, .dk upd_same (RepK.merge (zip_rep rl) .nil), fr'.nd⟩
    · exact q2.elim
end
end G
set_option maxRecDepth 100000
set_option maxHeartbeats 4000000
namespace GW
open PySem PySem.Spec PySem.Calls PyProof.Rows PySem.W
section
variable {prog : Program} {w : World} {A : Around} {E : Value → Shared → Prop} {s : Shared} {K : Frag} {x C f g : Addr} {ox : Obj} {od : Option Obj} {T : String}
/-- x op b, b of a built-in type -/
theorem bin_T {op : Operator} {b : Value} {fo ro rc : Option Value} {Q : Value → Shared → Prop} (X : K.In s.heap) (I : InstAt s.heap x ox C od) (hb : Looks (model prog w) s.heap (typeOf b) (.type T)) (hc : selfFirst K C = true)
    (hs : findIn K (.ref C) (PySem.dunder op.info.2) = some (some (.ref f))) (hf : isFn K (.ref f) = true) (hr : findIn K (.ref C) (dunderR op.info.2) = some rc) (hp : rc = none ∨ ∃ g : Addr, rc = some (.ref g))
    (h1 : findIn K (.type T) (PySem.dunder op.info.2) = some fo) (h2 : findIn K (.type T) (dunderR op.info.2) = some ro) (hsub : subIn K (.type T) (.ref C) = some false)
    (h : wpAny (model prog w) A (call (.ref f) [.ref x, b]) (PySem.W.CmpBack Q) E s) : wpAny (model prog w) A (binaryOp op (.ref x) b) Q E s := by
  obtain ⟨cd, rest, hcd, hm⟩ := ksp_first hc
  rcases hi : op.info with ⟨sym, nm'⟩
  rw [hi] at hs hr h1 h2
  dsimp only at hs hr h1 h2
  have one := ksp_try X I hs hf h
  obtain ⟨hh, g, d, tt, os⟩ := s
  have L1 : Looks (model prog w) hh (typeOf (.ref x)) (.ref C) := I.type
  have L2 : Looks (model prog w) hh (typeOf b) (.type T) := hb
  have L3 : Looks (model prog w) hh (fillsNumberSlot (.ref C) nm') true := fills_K X hcd hm hs
  have L4 : Looks (model prog w) hh (fillsNumberSlot (.type T) nm') ((fo.isSome && !isSeqSlot fo) || (ro.isSome && !isSeqSlot ro)) := ksp_fillsT X h1 h2
  have L5 : Looks (model prog w) hh (isSubtype (.type T) (.ref C)) false := looks_subIn X hsub
  have L6 : Looks (model prog w) hh (numberSlotInPython (.ref C) nm') true := ksp_inPy X hs hr hp
  have L7 : Looks (model prog w) hh (numberSlotInPython (.type T) nm') false := Looks.of_pure rfl
  have L8 : Looks (model prog w) hh (typeLookup (.type T) (dunderR nm')) ro := looks_findIn X h2
  generalize ((fo.isSome && !isSeqSlot fo) || (ro.isSome && !isSeqSlot ro)) = right at L4
  have hne : (Value.ref C == Value.type T) = false := Bool.eq_false_iff.mpr fun q => by cases beq_iff_eq.mp q
  simp only [binaryOp, hi]
  refine wpAny_holding (wpAny_bind ?_)
  unfold binaryOp1
  refine wpAny_bind (L1.at (wpAny_bind (L2.at (wpAny_bind (L3.at ?_)))))
  simp only [hne, Bool.false_eq_true, if_false]
  cases right with
  | false =>
    ksp_lk
    refine wpAny_mono one (fun r s' hr' => ?_) fun _ _ e => e
    obtain ⟨v, rfl, hq⟩ := hr'
    ksp_lk
    exact hq
  | true =>
    ksp_lk
    refine wpAny_mono one (fun r s' hr' => ?_) fun _ _ e => e
    obtain ⟨v, rfl, hq⟩ := hr'
    ksp_lk
    exact hq
/-- a op x, a of a built-in type that does not know x -/
theorem bin_R {op : Operator} {a : Value} {fo ro : Option Value} {Q : Value → Shared → Prop} (X : K.In s.heap) (I : InstAt s.heap x ox C od) (ha : Looks (model prog w) s.heap (typeOf a) (.type T)) (hc : selfFirst K C = true)
    (hs : findIn K (.ref C) (PySem.dunder op.info.2) = some (some (.ref g))) (hr : findIn K (.ref C) (dunderR op.info.2) = some (some (.ref f))) (hf : isFn K (.ref f) = true)
    (h1 : findIn K (.type T) (PySem.dunder op.info.2) = some fo) (h2 : findIn K (.type T) (dunderR op.info.2) = some ro) (hsub : subIn K (.ref C) (.type T) = some false)
    (dec : ((fo.isSome && !isSeqSlot fo) || (ro.isSome && !isSeqSlot ro)) = true → ∀ Q' : Option Value → Shared → Prop, Q' none s → wpAny (model prog w) A (tryMethod a (PySem.dunder op.info.2) (.ref x)) Q' E s)
    (h : wpAny (model prog w) A (call (.ref f) [.ref x, a]) (PySem.W.CmpBack Q) E s) : wpAny (model prog w) A (binaryOp op a (.ref x)) Q E s := by
  obtain ⟨cd, rest, hcd, hm⟩ := ksp_first hc
  rcases hi : op.info with ⟨sym, nm'⟩
  rw [hi] at hs hr h1 h2 dec
  dsimp only at hs hr h1 h2 dec
  have one := ksp_try X I hr hf h
  obtain ⟨hh, gg, d, tt, os⟩ := s
  have L1 : Looks (model prog w) hh (typeOf (.ref x)) (.ref C) := I.type
  have L2 : Looks (model prog w) hh (typeOf a) (.type T) := ha
  have L3 : Looks (model prog w) hh (fillsNumberSlot (.ref C) nm') true := fills_K X hcd hm hs
  have L4 : Looks (model prog w) hh (fillsNumberSlot (.type T) nm') ((fo.isSome && !isSeqSlot fo) || (ro.isSome && !isSeqSlot ro)) := ksp_fillsT X h1 h2
  have L5 : Looks (model prog w) hh (isSubtype (.ref C) (.type T)) false := looks_subIn X hsub
  have L7 : Looks (model prog w) hh (numberSlotInPython (.type T) nm') false := Looks.of_pure rfl
  generalize ((fo.isSome && !isSeqSlot fo) || (ro.isSome && !isSeqSlot ro)) = left at L4 dec
  have hne : (Value.type T == Value.ref C) = false := Bool.eq_false_iff.mpr fun q => by cases beq_iff_eq.mp q
  simp only [binaryOp, hi]
  refine wpAny_holding (wpAny_bind ?_)
  unfold binaryOp1
  refine wpAny_bind (L2.at (wpAny_bind (L1.at (wpAny_bind (L4.at ?_)))))
  simp only [hne, Bool.false_eq_true, if_false]
  cases left with
  | false =>
    ksp_lk
    refine wpAny_mono one (fun r s' hr' => ?_) fun _ _ e => e
    obtain ⟨v, rfl, hq⟩ := hr'
    ksp_lk
    exact hq
  | true =>
    ksp_lk
    refine dec rfl _ ?_
    ksp_lk
    refine wpAny_mono one (fun r s' hr' => ?_) fun _ _ e => e
    obtain ⟨v, rfl, hq⟩ := hr'
    ksp_lk
    exact hq
end
end GW
set_option maxRecDepth 100000
set_option maxHeartbeats 4000000
namespace G
open PySem PySem.Spec PyProof.Rows L2

section
variable {X : Cx} {φ : Fx} {W : WX} {lv c n : Nat} {σ : L2.St} {H F F' H' : Hp} {δ δ' : DEnv} {Q : VK} {o : Opd} {os os2 : List Opd} {e ex : Expr} {es : List Expr} {kws : List Keyword} {m x : Str} {p pos apos : Pos} {fn : List SD → R SD} {a dx f C : Addr} {ps ks : List Str} {ix : List Nat} {ds : List D}
/-- f(e, .., k = v, ..) with values ahead -/
theorem kwArgsF_run {s : Shared} {pins : List (Addr × Obj)} {fv : Value} {first : List Value} (hall : (backToKw pos (keywordEach kws X.env)).all (·.1.isSome) = true) (hks : (backToKw pos (keywordEach kws X.env)).filterMap (·.1) = ks)
    (hk : PySem.W.keepIn X.K fv = true) (ha : PA X es (tAs φ W os)) (hkw : PK X kws (tAs φ W os2)) (I : Inv X pins σ H s) {R : List V → List V → Hp → Prop}
    (hpl : ((backTo pos (starEach es X.env)).any (·.1) || (backToKw pos (keywordEach kws X.env)).any (·.1.isNone)) = false)
    (ho : es = [] → os = []) (he : ∀ e es', es = e :: es' → starEach (e :: es') X.env = (false, eval e X.env) :: starEach es' X.env)
    (h : tAs φ W os σ H fun vs H1 => tAs φ W os2 σ H1 fun zs H2 => R vs zs H2)
    (fin : ∀ us ws s2 vs zs H2, Inv X pins σ H2 s2 → Vals vs us → Vals zs ws → R vs zs H2 → wpAny (model X.prog X.w) X.A (call fv (first ++ us) (ks.zip ws)) (EP X pins σ Q) X.xe s2) :
    wpAny (model X.prog X.w) X.A (callWith pos fv first (backTo pos (starEach es X.env)) (backToKw pos (keywordEach kws X.env))) (EP X pins σ Q) X.xe s := by
  cases es with
  | nil =>
    refine PySem.W.callWith_KW0 (h₀ := X.base) I.ok.mod.kin hk hall ?_ hpl
    have ho' := ho rfl
    subst ho'
    refine thn (hkw.run pos pins s σ H _ I h) fun ws s2 ⟨zs, H2, I2, rz, q2⟩ => ⟨I2.kIn, ?_⟩
    rw [hks]
    exact fin [] ws s2 [] zs H2 I2 .nil rz q2
  | cons e es =>
    have he' := he e es rfl
    refine PySem.W.callWith_KW (h₀ := X.base) I.ok.mod.kin hk hall (thn (ha.run pos pins s σ H _ I h) fun us s1 ⟨vs, H1, I1, r, q⟩ => ?_) hpl he'
    refine thn (hkw.run pos pins s1 σ H1 _ I1 q) fun ws s2 ⟨zs, H2, I2, rz, q2⟩ => ⟨I2.kIn, ?_⟩
    rw [hks]
    exact fin us ws s2 vs zs H2 I2 r rz q2
/-- the def is run, its values bound by position, by name, by defaults -/
theorem Gk.run {s : Shared} {pins : List (Addr × Obj)} {us ws : List Value} {vs zs : List V} (Gx : Gk X φ.k lv f fn n ks ix ds) (hr : Room lv X.A) (hg : X.A.guards = some []) (tk : Takes X W) (I : Inv X pins σ H s) (r : Vals vs us) (rz : Vals zs ws) (l1 : vs.length = n) (l2 : zs.length = ks.length)
    (h : ∀ dvs : List V, (∀ F, RepL φ.k F dvs ds) → FD φ.k fn (permL ix ((vs ++ zs) ++ dvs)) H Q (WE W σ)) : wpAny (model X.prog X.w) X.A (call (.ref f) us (ks.zip ws)) (EP X pins σ Q) X.xe s := by
  obtain ⟨fd, ps, Fn, ⟨dvs, dv, hdv, hds, hix, b⟩, hk⟩ := Gx.ex
  have ldv : dvs.length = ds.length := (hds fun _ => none).length
  have rv : Vals ((vs ++ zs) ++ dvs) ((us ++ ws) ++ dv) := (r.append rz).append hdv
  have rp := vals_perm rv (ix := ix) fun i hi => by
    have := hix i hi
    rw [List.length_append, List.length_append, ldv, l1, l2]
    exact this
  have b2 := b s [] us ws I.kIn rfl (by rw [← r.length]; exact l1) (by rw [← rz.length]; exact l2)
  refine wpAny_call (codeAny_mono (Fn.run X.A X.stack s H ⟨us, ks.zip ws⟩ (permL ix ((us ++ ws) ++ dv)) _ Q (WE W σ) hr hg I.env0 b2 rp (h dvs hds)) fun r s' hq => ?_)
  cases r with
  | error e => exact passAt tk σ pins H s e s' I hq
  | ok fl =>
    cases fl with
    | ret u => exact I.after hq
    | next => exact False.elim hq
    | brk => exact False.elim hq
    | cont => exact False.elim hq

/-! ### C.m(..), m a static method -/
structure SMet (K : PySem.W.Frag) (C : Addr) (m : Str) (f : Addr) : Prop where
  ex : ∃ (mc : Value) (p : Addr) (rest : List Value), PySem.W.readsIn K C mc = true ∧ PySem.W.findCls K (.ref C) mc m = some (.get (.builtin "staticmethod.__get__") (.ref p) .none (.ref C)) ∧ PySem.W.recIn K p "staticmethod" = some (.ref f :: rest)
  ga : PySem.W.specialIn K (.ref C) "__getattribute__" = some (some (.builtin "type.__getattribute__"))
theorem getmethsm_ok {pins : List (Addr × Obj)} {s : Shared} {A : Around} {E : Value → Shared → Prop} {pl : Sem Bool} {R : Value × List Value → Shared → Prop} (I : Inv X pins σ H s) (k : SMet X.K C m f) (h : ∀ s', Inv X pins σ H s' → R (.ref f, []) s') : wpAny (model X.prog X.w) A (getMethod (.ref C) m pl) R E s := by
  obtain ⟨mc, p, rest, h1, h2, h3⟩ := k.ex
  refine PySem.W.method_cls I.kIn k.ga ?_
  refine PySem.W.cls_bind I.kIn h1 h2 ?_
  refine wpAny_call (PySem.W.sm_get (s := { s with toks := s.toks + 1 }) I.kIn h3 (PySem.W.handed_on rfl ?_))
  exact h _ (I.tok _)
theorem d_static0 {R : SD → M D} {Q : VK} {P : D → DEnv → Hp → Hp → Prop} {s : Shared} {pins : List (Addr × Obj)} {pl : Sem Bool} (sm : SMet X.K (φ.k.cm c) m f) (Gx : Gk X φ.k lv f fn n ks ix ds) (hr : Room lv X.A) (hg : X.A.guards = some []) (tk : Takes X W) (gl : Gl X x) (hm : X.mg x = some (.ref (φ.k.cm c))) (ha : DA X φ W es os) (hkw : DK X φ W kws os2)
    (l1 : os.length = n) (l2 : os2.length = ks.length) (nd : (slots (permL ix ((os ++ os2) ++ dOps ds))).Nodup)
    (hall : (backToKw pos (keywordEach kws X.env)).all (·.1.isSome) = true) (hks : (backToKw pos (keywordEach kws X.env)).filterMap (·.1) = ks) (hdb : (x == ("__debug__" : Str)) = false)
    (hpl : ((backTo pos (starEach es X.env)).any (·.1) || (backToKw pos (keywordEach kws X.env)).any (·.1.isNone)) = false) (ho : es = [] → os = [])
    (he : ∀ e es', es = e :: es' → starEach (e :: es') X.env = (false, eval e X.env) :: starEach es' X.env)
    (ht : eval (.Call (.Attribute (.Name x p) m apos) es kws pos) X.env = (do
      let ov ← eval (.Name x p) X.env
      standAt apos.atName
      let (f, first) ← holding [ov] (getMethod ov m pl)
      callWith pos f first (backTo pos (starEach es X.env)) (backToKw pos (keywordEach kws X.env))))
    (I : Inv X pins σ H s) (g : GI φ F H σ δ) (q : Out φ W σ F ((callKS fn ix ds (os ++ os2)).bind R δ) P)
    (h : ∀ v r δ' F' H', GI φ F' H' σ δ' → Sub F F' → ResFor φ σ δ' F' H' v r → Out φ W σ F' (R r δ') P → Q v H') :
    wpAny (model X.prog X.w) X.A (eval (.Call (.Attribute (.Name x p) m apos) es kws pos) X.env) (EP X pins σ Q) X.xe s := by
  refine PySem.W.methodCall_KW (pl := pl) (ld_glob I gl hm ?_ hdb) ht
  refine getmethsm_ok I sm fun s1 I1 => ?_
  obtain ⟨fd, ps, Fn, ⟨dvs, dv, hdv, hds, hix, b⟩, hk⟩ := Gx.ex
  have ldv : dvs.length = ds.length := (hds fun _ => none).length
  have hrun := callKS_run hds (fun i hi => by rw [List.length_append, l1, l2]; exact hix i hi) nd g q h
  refine kwArgs_run hall hks hk ha hkw I1 hpl ho he (tAs_app hrun) fun us ws s2 vs zs H2 I2 r rz ⟨e1, e2, _, q2⟩ => ?_
  have rv : Vals ((vs ++ zs) ++ dvs) ((us ++ ws) ++ dv) := (r.append rz).append hdv
  have rp := vals_perm rv (ix := ix) fun i hi => by
    have := hix i hi
    rw [List.length_append, List.length_append, e1, e2, ldv, l1, l2]
    exact this
  have b2 := b s2 [] us ws I2.kIn rfl (by rw [← r.length, e1]; exact l1) (by rw [← rz.length, e2]; exact l2)
  refine wpAny_call (codeAny_mono (Fn.run X.A X.stack s2 H2 ⟨us, ks.zip ws⟩ (permL ix ((us ++ ws) ++ dv)) _ Q (WE W σ) hr hg I2.env0 b2 rp q2) fun r s' hq => ?_)
  cases r with
  | error e => exact passAt tk σ pins H2 s2 e s' I2 hq
  | ok fl =>
    cases fl with
    | ret u => exact I2.after hq
    | next => exact False.elim hq
    | brk => exact False.elim hq
    | cont => exact False.elim hq
theorem d_static (n : Nat) (ix : List Nat) (ds : List D) {pl : Sem Bool} (sm : SMet X.K (φ.k.cm c) m f) (Gx : Gk X φ.k lv f fn n ks ix ds) (hr : Room lv X.A) (hg : X.A.guards = some []) (tk : Takes X W) (gl : Gl X x) (hm : X.mg x = some (.ref (φ.k.cm c))) (ha : DA X φ W es os) (hkw : DK X φ W kws os2)
    (l1 : os.length = n := by rfl) (l2 : os2.length = ks.length := by rfl) (nd : (slots (permL ix ((os ++ os2) ++ dOps ds))).Nodup := by decide)
    (hall : (backToKw pos (keywordEach kws X.env)).all (·.1.isSome) = true := by rfl) (hks : (backToKw pos (keywordEach kws X.env)).filterMap (·.1) = ks := by rfl) (hdb : (x == ("__debug__" : Str)) = false := by decide)
    (hpl : ((backTo pos (starEach es X.env)).any (·.1) || (backToKw pos (keywordEach kws X.env)).any (·.1.isNone)) = false := by rfl) (ho : es = [] → os = [] := by first | exact fun _ => rfl | (intro h; cases h))
    (he : ∀ e es', es = e :: es' → starEach (e :: es') X.env = (false, eval e X.env) :: starEach es' X.env := by (intro e es' h; cases h; try rfl))
    (ht : eval (.Call (.Attribute (.Name x p) m apos) es kws pos) X.env = (do
      let ov ← eval (.Name x p) X.env
      standAt apos.atName
      let (f, first) ← holding [ov] (getMethod ov m pl)
      callWith pos f first (backTo pos (starEach es X.env)) (backToKw pos (keywordEach kws X.env))) := by rfl) :
    DE X φ W (.Call (.Attribute (.Name x p) m apos) es kws pos) (keptR (callKS fn ix ds (os ++ os2))) := by
  refine ⟨fun pins s σ H Q I h => ?_⟩
  obtain ⟨F, δ, g, q⟩ := h
  exact d_static0 sm Gx hr hg tk gl hm ha hkw l1 l2 nd hall hks hdb hpl ho he ht I g q fun v r δ' F' H' g' s' rf q' => rf.fin g' q'
theorem d_staticN (n : Nat) (ix : List Nat) (ds : List D) {pl : Sem Bool} (sm : SMet X.K (φ.k.cm c) m f) (Gx : Gk X φ.k lv f fn n ks ix ds) (hr : Room lv X.A) (hg : X.A.guards = some []) (tk : Takes X W) (gl : Gl X x) (hm : X.mg x = some (.ref (φ.k.cm c))) (ha : DA X φ W es os) (hkw : DK X φ W kws os2)
    (l1 : os.length = n := by rfl) (l2 : os2.length = ks.length := by rfl) (nd : (slots (permL ix ((os ++ os2) ++ dOps ds))).Nodup := by decide)
    (hall : (backToKw pos (keywordEach kws X.env)).all (·.1.isSome) = true := by rfl) (hks : (backToKw pos (keywordEach kws X.env)).filterMap (·.1) = ks := by rfl) (hdb : (x == ("__debug__" : Str)) = false := by decide)
    (hpl : ((backTo pos (starEach es X.env)).any (·.1) || (backToKw pos (keywordEach kws X.env)).any (·.1.isNone)) = false := by rfl) (ho : es = [] → os = [] := by first | exact fun _ => rfl | (intro h; cases h))
    (he : ∀ e es', es = e :: es' → starEach (e :: es') X.env = (false, eval e X.env) :: starEach es' X.env := by (intro e es' h; cases h; try rfl))
    (ht : eval (.Call (.Attribute (.Name x p) m apos) es kws pos) X.env = (do
      let ov ← eval (.Name x p) X.env
      standAt apos.atName
      let (f, first) ← holding [ov] (getMethod ov m pl)
      callWith pos f first (backTo pos (starEach es X.env)) (backToKw pos (keywordEach kws X.env))) := by rfl) :
    DN X φ W (.Call (.Attribute (.Name x p) m apos) es kws pos) (ownR (callKS fn ix ds (os ++ os2))) := by
  refine ⟨fun pins s σ H Q I h => ?_⟩
  obtain ⟨F, δ, g, q⟩ := h
  exact d_static0 sm Gx hr hg tk gl hm ha hkw l1 l2 nd hall hks hdb hpl ho he ht I g q fun v r δ' F' H' g' s' rf q' => rf.finN g' q'

/-! ### o.m(e, .., k = v, ..): the self is the first place -/
def methKM (nm : String) (tab : List (Nat × (List SD → R SD))) (ix : List Nat) (ds : List D) (o : Opd) (os : List Opd) : M SD := o.p1.bind fun x => (o.p2 x).bind fun d => match d with
  | .obj c fs => match tab.lookup c with
    | some fn => if (fs.lookup nm).isNone then (args1 os).bind fun xs => (passAll (o :: os) (x :: xs)).bind fun sds => runC fn (permL ix ((o :: os) ++ dOps ds)) (permL ix (sds ++ ds.map SD.val)) else badM
    | none => badM
  | _ => badM
structure MethKOk (X : Cx) (k : KX) (c : Nat) (m : Str) (n : Nat) (ks : List Str) (ix : List Nat) (ds : List D) (fn : List SD → R SD) : Prop where
  cls : Cls X.K (k.cm c)
  ex : ∃ f lv, Meth X.K (k.cm c) m f ∧ Gk X k lv f fn (n + 1) ks ix ds ∧ Room lv X.A
def MethKsOk (X : Cx) (k : KX) (m : Str) (n : Nat) (ks : List Str) (ix : List Nat) (ds : List D) (tab : List (Nat × (List SD → R SD))) : Prop := ∀ c a, tab.lookup c = some a → MethKOk X k c m n ks ix ds a
theorem MethKsOk.nil {k : KX} {m : Str} : MethKsOk X k m n ks ix ds [] := fun _ _ h => by cases h
theorem MethKsOk.cons {k : KX} {m : Str} {c : Nat} {a : List SD → R SD} {tab : List (Nat × (List SD → R SD))} (h : MethKOk X k c m n ks ix ds a) (r : MethKsOk X k m n ks ix ds tab) : MethKsOk X k m n ks ix ds ((c, a) :: tab) := fun c' a' e => by
  rw [List.lookup_cons] at e
  cases z : c' == c with
  | true =>
    rw [z] at e
    cases e
    rw [beq_iff_eq.mp z]
    exact h
  | false =>
    rw [z] at e
    exact r c' a' e
theorem d_methK0 {nm : String} {tab : List (Nat × (List SD → R SD))} {R : SD → M D} {P : D → DEnv → Hp → Hp → Prop} {pins : List (Addr × Obj)} {s : Shared} {pl : Sem Bool} (hn : m = Str.ofString nm) (ht : MethKsOk X φ.k m n ks ix ds tab) (hg : X.A.guards = some []) (tk : Takes X W) (he : DO X φ W ex o) (ha : DA X φ W es os) (hkw : DK X φ W kws os2)
    (l1 : os.length = n) (l2 : os2.length = ks.length) (nd : (slots (permL ix ((o :: (os ++ os2)) ++ dOps ds))).Nodup) (hix : ∀ i ∈ ix, i < n + 1 + ks.length + ds.length)
    (hall : (backToKw pos (keywordEach kws X.env)).all (·.1.isSome) = true) (hks : (backToKw pos (keywordEach kws X.env)).filterMap (·.1) = ks)
    (hpl : ((backTo pos (starEach es X.env)).any (·.1) || (backToKw pos (keywordEach kws X.env)).any (·.1.isNone)) = false) (ho : es = [] → os = [])
    (hee : ∀ e es', es = e :: es' → starEach (e :: es') X.env = (false, eval e X.env) :: starEach es' X.env)
    (hv : eval (.Call (.Attribute ex m apos) es kws pos) X.env = (do
      let ov ← eval ex X.env
      standAt apos.atName
      let (f, first) ← holding [ov] (getMethod ov m pl)
      callWith pos f first (backTo pos (starEach es X.env)) (backToKw pos (keywordEach kws X.env))))
    (I : Inv X pins σ H s) (g : GI φ F H σ δ) (q : Out φ W σ F ((methKM nm tab ix ds o (os ++ os2)).bind R δ) P)
    (h : ∀ v r δ' F' H', GI φ F' H' σ δ' → Sub F F' → ResFor φ σ δ' F' H' v r → Out φ W σ F' (R r δ') P → Q v H') :
    wpAny (model X.prog X.w) X.A (eval (.Call (.Attribute ex m apos) es kws pos) X.env) (EP X pins σ Q) X.xe s := by
  subst hn
  unfold methKM at q
  rw [bind_assoc] at q
  refine PySem.W.methodCall_KW (pl := pl) (thn (he.run pins s σ H (fun v H1 => ∃ a c dx fvs ff lv fn, v = .ref a ∧ H1 a = some (.ins (φ.k.cm c) dx fvs) ∧ fvs.lookup (Str.ofString nm) = none ∧ Cls X.K (φ.k.cm c) ∧ Meth X.K (φ.k.cm c) (Str.ofString nm) ff ∧ Gk X φ.k lv ff fn (n + 1) ks ix ds ∧ Room lv X.A ∧
      tAs φ W (os ++ os2) σ H1 fun ws H2 => ws.length = os.length + os2.length ∧ ∀ dvs : List V, (∀ F, RepL φ.k F dvs ds) → FD φ.k fn (permL ix ((.ref a :: ws) ++ dvs)) H2 Q (WE W σ)) I ?_) fun u s1 ⟨v, H1, I1, rx, a, c, dx, fvs, ff, lv, fn, ev, ea, l, cc, hm, Gx, hr, q⟩ => ?_) hv
  · refine tO_run g q fun x v δ1 F1 H1 g1 s1 l1' q1 => ?_
    rw [bind_assoc] at q1
    obtain ⟨d, r, q2⟩ := l1'.now g1 q1
    cases d with
    | obj c fs =>
      obtain ⟨a, dx, fvs, rfl, ea, rf⟩ := r.obj g1.fh
      cases z : tab.lookup c with
      | none =>
        change Out φ W σ F1 ((M.bind (match tab.lookup c with
      | some fn => if (fs.lookup nm).isNone then (args1 (os ++ os2)).bind fun xs => (passAll (o :: (os ++ os2)) (x :: xs)).bind fun sds => runC fn (permL ix ((o :: (os ++ os2)) ++ dOps ds)) (permL ix (sds ++ ds.map SD.val)) else badM
      | none => badM) R) δ1) _ at q2
        rw [z] at q2
        exact q2.elim
      | some fn =>
        change Out φ W σ F1 ((M.bind (match tab.lookup c with
      | some fn => if (fs.lookup nm).isNone then (args1 (os ++ os2)).bind fun xs => (passAll (o :: (os ++ os2)) (x :: xs)).bind fun sds => runC fn (permL ix ((o :: (os ++ os2)) ++ dOps ds)) (permL ix (sds ++ ds.map SD.val)) else badM
      | none => badM) R) δ1) _ at q2
        rw [z] at q2
        obtain ⟨cc, ff, lv, hm, Gx, hr⟩ := ht c fn z
        cases zn : (fs.lookup nm).isNone with
        | false =>
          dsimp only at q2
          rw [zn] at q2
          exact q2.elim
        | true =>
          dsimp only at q2
          rw [zn, if_pos rfl, bind_assoc] at q2
          refine ⟨a, c, dx, fvs, ff, lv, fn, rfl, ea, rf.none (Option.isNone_iff_eq_none.mp zn), cc, hm, Gx, hr, ?_⟩
          refine tAs_run g1 q2 fun xs vs δ2 F2 H2 g2 s2 l2' q3 => ?_
          rw [bind_assoc] at q3
          obtain ⟨sds, hd, q4⟩ := Lates.hand g2 (.cons (l1'.mono s2) l2') q3
          have el := l2'.length
          refine ⟨by rw [← el, List.length_append], fun dvs hds => ?_⟩
          have hd2 := (hd.more (by simp [el]) (hds F2)).perm (by rw [List.length_append, List.length_append, List.length_cons, List.length_cons, el, (hds F2).length]; unfold dOps; rw [List.length_map]) (ix := ix) fun i hi => by
            have := hix i hi
            rw [List.length_append, List.length_cons, List.length_append, l1, l2]
            unfold dOps
            rw [List.length_map]
            omega
          exact FD.use g2 nd hd2 (q4.bind.mono (Sub.refl F2) fun r δ' F' H' g' s' z v h1 h2 h3 => h v r δ' F' H' g' ((s1.trans s2).trans s') ⟨h1, h2, h3⟩ z)
    | _ => exact q2.elim
  · subst ev
    obtain rfl : u = Value.ref a := rx
    refine getmeth_ok I1 ea cc hm l ?_
    refine kwArgsF_run (first := [.ref a]) hall hks hm.kp ha hkw I1 hpl ho hee (tAs_app q) fun us ws s2 vs zs H2 I2 r rz ⟨e1, e2, _, q2⟩ => ?_
    refine Gk.run (us := .ref a :: us) (vs := .ref a :: vs) Gx hr hg tk I2 (.cons rfl r) rz (by rw [List.length_cons, e1, l1]) (by rw [e2, l2]) fun dvs hds => ?_
    exact q2 dvs hds
theorem d_methK (nm : String) (tab : List (Nat × (List SD → R SD))) (n : Nat) (ix : List Nat) (ds : List D) {pl : Sem Bool} (hn : m = Str.ofString nm) (ht : MethKsOk X φ.k m n ks ix ds tab) (hg : X.A.guards = some []) (tk : Takes X W) (he : DO X φ W ex o) (ha : DA X φ W es os) (hkw : DK X φ W kws os2)
    (l1 : os.length = n := by rfl) (l2 : os2.length = ks.length := by rfl) (nd : (slots (permL ix ((o :: (os ++ os2)) ++ dOps ds))).Nodup := by decide) (hix : ∀ i ∈ ix, i < n + 1 + ks.length + ds.length := by decide)
    (hall : (backToKw pos (keywordEach kws X.env)).all (·.1.isSome) = true := by rfl) (hks : (backToKw pos (keywordEach kws X.env)).filterMap (·.1) = ks := by rfl)
    (hpl : ((backTo pos (starEach es X.env)).any (·.1) || (backToKw pos (keywordEach kws X.env)).any (·.1.isNone)) = false := by rfl) (ho : es = [] → os = [] := by first | exact fun _ => rfl | (intro h; cases h))
    (hee : ∀ e es', es = e :: es' → starEach (e :: es') X.env = (false, eval e X.env) :: starEach es' X.env := by (intro e es' h; cases h; try rfl))
    (hv : eval (.Call (.Attribute ex m apos) es kws pos) X.env = (do
      let ov ← eval ex X.env
      standAt apos.atName
      let (f, first) ← holding [ov] (getMethod ov m pl)
      callWith pos f first (backTo pos (starEach es X.env)) (backToKw pos (keywordEach kws X.env))) := by rfl) :
    DE X φ W (.Call (.Attribute ex m apos) es kws pos) (keptR (methKM nm tab ix ds o (os ++ os2))) := by
  refine ⟨fun pins s σ H Q I h => ?_⟩
  obtain ⟨F, δ, g, q⟩ := h
  exact d_methK0 hn ht hg tk he ha hkw l1 l2 nd hix hall hks hpl ho hee hv I g q fun v r δ' F' H' g' s' rf q' => rf.fin g' q'
theorem d_methKN (nm : String) (tab : List (Nat × (List SD → R SD))) (n : Nat) (ix : List Nat) (ds : List D) {pl : Sem Bool} (hn : m = Str.ofString nm) (ht : MethKsOk X φ.k m n ks ix ds tab) (hg : X.A.guards = some []) (tk : Takes X W) (he : DO X φ W ex o) (ha : DA X φ W es os) (hkw : DK X φ W kws os2)
    (l1 : os.length = n := by rfl) (l2 : os2.length = ks.length := by rfl) (nd : (slots (permL ix ((o :: (os ++ os2)) ++ dOps ds))).Nodup := by decide) (hix : ∀ i ∈ ix, i < n + 1 + ks.length + ds.length := by decide)
    (hall : (backToKw pos (keywordEach kws X.env)).all (·.1.isSome) = true := by rfl) (hks : (backToKw pos (keywordEach kws X.env)).filterMap (·.1) = ks := by rfl)
    (hpl : ((backTo pos (starEach es X.env)).any (·.1) || (backToKw pos (keywordEach kws X.env)).any (·.1.isNone)) = false := by rfl) (ho : es = [] → os = [] := by first | exact fun _ => rfl | (intro h; cases h))
    (hee : ∀ e es', es = e :: es' → starEach (e :: es') X.env = (false, eval e X.env) :: starEach es' X.env := by (intro e es' h; cases h; try rfl))
    (hv : eval (.Call (.Attribute ex m apos) es kws pos) X.env = (do
      let ov ← eval ex X.env
      standAt apos.atName
      let (f, first) ← holding [ov] (getMethod ov m pl)
      callWith pos f first (backTo pos (starEach es X.env)) (backToKw pos (keywordEach kws X.env))) := by rfl) :
    DN X φ W (.Call (.Attribute ex m apos) es kws pos) (ownR (methKM nm tab ix ds o (os ++ os2))) := by
  refine ⟨fun pins s σ H Q I h => ?_⟩
  obtain ⟨F, δ, g, q⟩ := h
  exact d_methK0 hn ht hg tk he ha hkw l1 l2 nd hix hall hks hpl ho hee hv I g q fun v r δ' F' H' g' s' rf q' => rf.finN g' q'
end

/-! ### defs with defaults -/
structure DefD (K : PySem.W.Frag) (x qual : Str) (st : Stmt) (f : Addr) (dvs : List V) : Prop where
  ex : ∃ fd, FunD K x qual (defArgs st) (defBody st) (defScope st) dvs [] f fd
structure GsD (P : Program) (w : World) (K : PySem.W.Frag) (mg : Str → Option Value) (base : Heap) (k : KX) (lv : Nat) (x qual : Str) (st : Stmt) (f : Addr) (ps : List Str) (fn : List SD → R SD) (dvs : List V) : Prop where
  ex : ∃ fd, FunD K x qual (defArgs st) (defBody st) (defScope st) dvs [] f fd ∧ FnG P w K mg base lv f fd ps (FD k fn)
section
variable {P : Program} {w : World} {K : PySem.W.Frag} {mg : Str → Option Value} {base : Heap} {lv : Nat} {f : Addr} {fd : FuncData} {ps : List Str} {sp : Sp} {x qual : Str} {st : Stmt} {dvs : List V} {k : KX} {fn : List SD → R SD}
theorem FunD.okR {N : List Str} (Fd : FunD K x qual (defArgs st) (defBody st) (defScope st) dvs [] f fd) (S : FnScope N ps (defScope st)) (len : ∀ vs H Q E, sp vs H Q E → vs.length = ps.length)
    (body : ∀ (cdv : Value) (A : Around) (outer : List PySem.Env) (s : Shared) (H : Hp) (vs : List V) (Q : VK) (E : XK), Room lv (A.deeper (envOfC qual (defScope st) s.heap.objs.size f cdv)) → A.guards = some [] → sp vs H Q E →
      ∃ t, PSs (bodyX P w K mg base N qual st f cdv A outer s H E) (defBody st) t ∧ t { nx := fun _ H' => Q .non H', rt := Q } (start N vs) H) : FnG P w K mg base (lv + 1) f fd ps sp := by
  obtain ⟨oc, od, dV, kV, doc, pm, an, cdv, ct, osl, rfl, lk, hcd, _, _⟩ := Fd.ex
  refine ⟨len, fun A outer s H args us vs Q E hr gd e0 hb r hsp => ?_⟩
  have kx : K.In s.heap := e0.mod.kin.keeps fun b o e => (e0.bs b o e).1
  have nl : s.heap.NoLimit := e0.mod.nolimit.keeps fun b o e => (e0.bs b o e).1
  have kinds : ∀ z ∈ ps.zip us, (defScope st).names.lookup z.1 = some .local ∨ ((defScope st).names.lookup z.1 = some .cell ∧ ((cellsFrom (s.heap.objs.size + 1) (defScope st).names []).lookup z.1).isSome = true) := by
    rintro ⟨n, v⟩ hz
    cases S.par n (List.of_mem_zip hz).1 with
    | inl q => exact .inl q
    | inr q => exact .inr ⟨q, PySem.W.cellsFrom_some _ _ _ (.inl q)⟩
  refine codeAny_call_function hr.depth (kx _ _ lk) rfl S.co S.gen rfl (PySem.W.codeRec_of kx hcd) (hb _ _ _ _ (wpAny_newFunctionEnv_cells S.kind kinds fun env he s1 i1 => ?_))
  subst he
  refine ⟨nl.keeps i1.toInCall.keep, codeAny_func ?_⟩
  obtain ⟨t, ht, hq⟩ := body cdv A outer s H vs Q E (hr.deeper _) gd hsp
  have I : Inv (bodyX P w K mg base N qual st f cdv A outer s H E) [] (start N vs) H s1 := inv_start S hr.hd e0 (len _ _ _ _ hsp) r i1
  refine wpAny_mono (ht.run [] s1 (start N vs) H _ I hq) (fun fl s' z => ?_) fun e s' z => z
  cases fl with
  | ret u => obtain ⟨v, σ', H', J, rv, q⟩ := z; exact ⟨v, H', J.os, J.bare, J.base, J.hok, rv, q⟩
  | next => obtain ⟨σ', H', J, q⟩ := z; exact ⟨.non, H', J.os, J.bare, J.base, J.hok, rfl, q⟩
  | brk => obtain ⟨_, _, _, q⟩ := z; exact q.elim
  | cont => obtain ⟨_, _, _, q⟩ := z; exact q.elim
theorem DefD.okS {N : List Str} {cm : Nat → Addr} {np n : Nat} {m : M Fl} (Fd : DefD K x qual st f dvs) (S : FnScope N ps (defScope st)) (hn : N.length = n) (hp : ps.length = np) (hnp : np ≤ n)
    (body : ∀ (cdv : Value) (A : Around) (outer : List PySem.Env) (s : Shared) (H : Hp) (E : XK) (F0 H0 : Hp) (pr : List (Nat × Addr)), Room lv (A.deeper (envOfC qual (defScope st) s.heap.objs.size f cdv)) → A.guards = some [] →
      DSs (bodyX P w K mg base N qual st f cdv A outer s H E) ⟨⟨K, cm⟩, F0, H0, pr⟩ (fun c d _ H => E c d H) (defBody st) m) : GsD P w K mg base ⟨K, cm⟩ (lv + 1) x qual st f ps (runF np n m) dvs := by
  obtain ⟨fd, Fd⟩ := Fd.ex
  refine ⟨fd, Fd, ?_⟩
  have lenOk : ∀ vs H Q E, FD ⟨K, cm⟩ (runF np n m) vs H Q E → vs.length = np := fun vs H Q E h => by
    obtain ⟨F, sds, s, ao, ap, q⟩ := h
    rw [Paired.length ao]
    unfold runF at q
    by_cases z : sds.length = np
    · exact z
    · rw [if_neg z] at q
      exact q.elim
  refine FunD.okR Fd S (fun vs H Q E h => by rw [hp]; exact lenOk vs H Q E h) fun cdv A outer s H vs Q E hr hg h => ?_
  have hl := lenOk _ _ _ _ h
  obtain ⟨F, sds, sub, ao, ap, q⟩ := h
  have hl2 : sds.length = np := by rw [← Paired.length ao]; exact hl
  refine ⟨_, body cdv A outer s H E F H (lentOf vs sds) hr hg, F, _, GI.start hn hl hnp sub ao ap, ?_⟩
  unfold runF at q
  rw [if_pos hl2] at q
  cases z : m (sds.map SD.lend ++ List.replicate (n - np) .no) with
  | bad => rw [z] at q; exact q
  | exc y δ' =>
    rw [z] at q
    exact fun F1 H1 σ1 da g s1 xa => q F1 H1 da (g.fend hl2) xa
  | ok fl δ' =>
    rw [z] at q
    cases fl with
    | nx => exact fun F1 H1 σ1 g s1 => q F1 H1 .non (g.fend hl2) .non
    | bk => exact q.elim
    | ct => exact q.elim
    | rt r =>
      refine fun F1 H1 σ1 v g s1 ro => q F1 H1 v (g.fend hl2) ?_
      cases r <;> exact ro
theorem FunD.kbi {pn n : Nat} {ks : List Str} {ix : List Nat} {ds : List D} (Fd : FunD K x qual (defArgs st) (defBody st) (defScope st) dvs [] f fd) (hne : dvs ≠ []) (hds : ∀ F, RepL k F dvs ds) (hix : ∀ i ∈ ix, i < n + ks.length + ds.length)
    (hb : ∀ (T : Addr) (kV doc pm : Value) (an : Option Addr) (cdv ct : Value) (pre us ws its : List Value), pre.length = pn → us.length = n → ws.length = ks.length → its.length = dvs.length →
      ∃ k, bindArgs (PySem.W.fnOf x qual (defArgs st) (defBody st) (defScope st) (.ref T) kV doc pm an cdv ct) ⟨pre ++ us, ks.zip ws⟩ = seqItems? (.ref T) >>= k ∧ k (some its.toArray) = pure (ps.zip (pre ++ permL ix ((us ++ ws) ++ its)))) :
    KBi K k fd ps pn n ks ix ds := by
  obtain ⟨oc, od, dV, kV, doc, pm, an, cdv, ct, osl, rfl, lk, hcd, hD, _⟩ := Fd.ex
  rcases hD with ⟨e, _⟩ | ⟨_, T, o, its, m, rfl, lT, oT, rT⟩
  · exact absurd e hne
  · refine ⟨dvs, its, rT, hds, hix, fun s pre us ws Xk h1 h2 h3 => ?_⟩
    obtain ⟨k, e1, e2⟩ := hb T kV doc pm an cdv ct pre us ws its h1 h2 h3 rT.length.symm
    refine BindsTo.of_looks fun M => ?_
    rw [e1]
    exact looks_items Xk lT oT (.of_pure e2)
theorem GsD.gmk {X : Cx} {c n : Nat} {ks : List Str} {ix : List Nat} {ds : List D} (h : GsD X.prog X.w X.K X.mg X.base k lv x qual st f ps fn dvs) (mk : Mk X.K (k.cm c) f) (hne : dvs ≠ []) (hds : ∀ F, RepL k F dvs ds) (hix : ∀ i ∈ ix, i < n + ks.length + ds.length)
    (hb : ∀ (T : Addr) (kV doc pm : Value) (an : Option Addr) (cdv ct : Value) (pre us ws its : List Value), pre.length = 1 → us.length = n → ws.length = ks.length → its.length = dvs.length →
      ∃ k, bindArgs (PySem.W.fnOf x qual (defArgs st) (defBody st) (defScope st) (.ref T) kV doc pm an cdv ct) ⟨pre ++ us, ks.zip ws⟩ = seqItems? (.ref T) >>= k ∧ k (some its.toArray) = pure (ps.zip (pre ++ permL ix ((us ++ ws) ++ its)))) :
    Gmk X k lv c fn n ks ix ds := by
  obtain ⟨fd, Fd, Fn⟩ := h.ex
  exact ⟨f, fd, ps, mk, Fn, FunD.kbi Fd hne hds hix hb⟩
theorem GsD.gk {X : Cx} {n : Nat} {ks : List Str} {ix : List Nat} {ds : List D} (h : GsD X.prog X.w X.K X.mg X.base k lv x qual st f ps fn dvs) (hne : dvs ≠ []) (hds : ∀ F, RepL k F dvs ds) (hix : ∀ i ∈ ix, i < n + ks.length + ds.length)
    (hb : ∀ (T : Addr) (kV doc pm : Value) (an : Option Addr) (cdv ct : Value) (pre us ws its : List Value), pre.length = 0 → us.length = n → ws.length = ks.length → its.length = dvs.length →
      ∃ k, bindArgs (PySem.W.fnOf x qual (defArgs st) (defBody st) (defScope st) (.ref T) kV doc pm an cdv ct) ⟨pre ++ us, ks.zip ws⟩ = seqItems? (.ref T) >>= k ∧ k (some its.toArray) = pure (ps.zip (pre ++ permL ix ((us ++ ws) ++ its)))) :
    Gk X k lv f fn n ks ix ds := by
  obtain ⟨fd, Fd, Fn⟩ := h.ex
  exact ⟨fd, ps, Fn, FunD.kbi Fd hne hds hix hb, Fd.kp⟩
end
end G
set_option maxRecDepth 100000
set_option maxHeartbeats 4000000
namespace GW
open PySem PySem.Spec PySem.Calls PyProof.Rows PySem.W
section
variable {prog : Program} {w : World} {A : Around} {E : Value → Shared → Prop} {s : Shared} {x C f g : Addr} {ob : Obj} {i : Int} {t : Tok} {b : Bool} {K : Frag} {ox : Obj} {od : Option Obj}
theorem noInt_ref {M : Model} {Q : Option Int → Shared → Prop} (ho : s.heap.get? x = some ob) (hp : ∀ v, ob.data ≠ .prim v) (h : Q none s) : wpAny M A (asInt? (.ref x)) Q E s := by
  unfold asInt?
  refine wpAny_bind (wpAny_load ho ?_)
  cases e : ob.data with
  | prim v => exact absurd e (hp v)
  | _ => exact wpAny_pure h
theorem intBin_ref {M : Model} {nm : String} {f : Int → Int → Sem Fin} {self : Value} {Q : Fin → Shared → Prop} (hs : ∃ n, asInt? self = pure (some n)) (ho : s.heap.get? x = some ob) (hp : ∀ v, ob.data ≠ .prim v) (h : Q (.done (.ret .notImplemented)) s) :
    wpAny M A (Builtin.Int.intBinary nm f false ⟨[self, .ref x], []⟩) Q E s := by
  obtain ⟨n, e⟩ := hs
  unfold Builtin.Int.intBinary slotArgs
  refine wpAny_bind (wpAny_pure ?_)
  dsimp only
  refine wpAny_bind ?_
  unfold Builtin.Int.intOfSelf
  rw [e]
  refine wpAny_bind (wpAny_pure (wpAny_pure ?_))
  refine wpAny_bind (noInt_ref ho hp ?_)
  exact wpAny_bind (wpAny_rule (wpAny_pure h))
/-- the operators of ints that decline an instance -/
def decOp : Operator → Bool
  | .Add => true
  | .Sub => true
  | .Mult => true
  | .FloorDiv => true
  | .Mod => true
  | _ => false
theorem dec_num {op : Operator} {self : Value} {T : String} {Q : Option Value → Shared → Prop} (hs : ∃ n, asInt? self = pure (some n)) (hT : s.TypeIs self T) (hTT : T = "int" ∨ T = "bool") (ho : s.heap.get? x = some ob) (hp : ∀ v, ob.data ≠ .prim v) (hd : decOp op = true) (h : Q none s) :
    wpAny (model prog w) A (tryMethod self (PySem.dunder op.info.2) (.ref x)) Q E s := by
  have pyl : ∀ {B : Builtin} {Q' : Fin → Shared → Prop}, wpAny (model prog w) A.in1 (B ⟨[self, .ref x], []⟩) Q' E s → wpAny (model prog w) A.in1 (do Builtin.exactOperandsForPylong false ⟨[self, .ref x], []⟩; B ⟨[self, .ref x], []⟩) Q' E s := fun {B Q'} hB => by
    obtain ⟨n, e⟩ := hs
    refine wpAny_bind ?_
    unfold Builtin.exactOperandsForPylong
    by_cases z : ([self, Value.ref x].any Value.onHeap) = true
    · simp only [z, if_true]
      refine wpAny_bind ?_
      rw [e]
      refine wpAny_pure (wpAny_bind (noInt_ref ho hp ?_))
      exact wpAny_pure hB
    · simp only [z, if_false]
      exact wpAny_pure hB
  rcases hTT with rfl | rfl
  · cases op <;> first | (cases hd; done) | skip
    · exact wpAny_tryMethod_declines hT F.slot_int_add (wpAny_call_entry F.slot_int_add hT F.entry_int_add (intBin_ref hs ho hp ⟨_, rfl, rfl, h⟩) (F.args_int_add_2 _ _))
    · exact wpAny_tryMethod_declines hT F.slot_int_sub (wpAny_call_entry F.slot_int_sub hT F.entry_int_sub (intBin_ref hs ho hp ⟨_, rfl, rfl, h⟩) (F.args_int_sub_2 _ _))
    · exact wpAny_tryMethod_declines hT F.slot_int_mul (wpAny_call_entry F.slot_int_mul hT F.entry_int_mul (intBin_ref hs ho hp ⟨_, rfl, rfl, h⟩) (F.args_int_mul_2 _ _))
    · exact wpAny_tryMethod_declines hT F.slot_int_mod (wpAny_call_entry F.slot_int_mod hT F.entry_int_mod (intBin_ref hs ho hp ⟨_, rfl, rfl, h⟩) (F.args_int_mod_2 _ _))
    · exact wpAny_tryMethod_declines hT F.slot_int_floordiv (wpAny_call_entry F.slot_int_floordiv hT F.entry_int_floordiv (pyl (intBin_ref hs ho hp ⟨_, rfl, rfl, h⟩)) (F.args_int_floordiv_2 _ _))
  · cases op <;> first | (cases hd; done) | skip
    · exact wpAny_tryMethod_declines hT F.slot_bool_add (wpAny_call_entry F.slot_bool_add hT F.entry_int_add (intBin_ref hs ho hp ⟨_, rfl, rfl, h⟩) (F.args_int_add_2 _ _))
    · exact wpAny_tryMethod_declines hT F.slot_bool_sub (wpAny_call_entry F.slot_bool_sub hT F.entry_int_sub (intBin_ref hs ho hp ⟨_, rfl, rfl, h⟩) (F.args_int_sub_2 _ _))
    · exact wpAny_tryMethod_declines hT F.slot_bool_mul (wpAny_call_entry F.slot_bool_mul hT F.entry_int_mul (intBin_ref hs ho hp ⟨_, rfl, rfl, h⟩) (F.args_int_mul_2 _ _))
    · exact wpAny_tryMethod_declines hT F.slot_bool_mod (wpAny_call_entry F.slot_bool_mod hT F.entry_int_mod (intBin_ref hs ho hp ⟨_, rfl, rfl, h⟩) (F.args_int_mod_2 _ _))
    · exact wpAny_tryMethod_declines hT F.slot_bool_floordiv (wpAny_call_entry F.slot_bool_floordiv hT F.entry_int_floordiv (pyl (intBin_ref hs ho hp ⟨_, rfl, rfl, h⟩)) (F.args_int_floordiv_2 _ _))
/-- a class none of whose ancestors has the operator -/
def noNum (K : Frag) (D : Addr) (f r : Str) : Bool := (clsIn K D).any fun cd => !cd.mro.isEmpty && cd.mro.all fun c => (match c with | .ref _ => true | .type _ => true | _ => false) && (findIn K c f == some none && findIn K c r == some none)
theorem anyM_false {M : Model} {h : Heap} {α : Type} {p : α → Sem Bool} : ∀ {l : List α}, (∀ c ∈ l, Looks M h (p c) false) → Looks M h (l.anyM p) false
  | [], _ => .now
  | c :: r, e => (e c (List.mem_cons_self ..)).andThen (anyM_false fun d hd => e d (List.mem_cons_of_mem _ hd))
theorem noNum_fills {M : Model} {h : Heap} {D : Addr} {nm : String} (X : K.In h) (e : noNum K D (PySem.dunder nm) (dunderR nm) = true) : Looks M h (fillsNumberSlot (.ref D) nm) false := by
  obtain ⟨cd, hcd, hm⟩ := any_some e
  rw [Bool.and_eq_true, List.all_eq_true] at hm
  have Lm : Looks M h (mroOf (.ref D)) cd.mro := (looks_clsIn X hcd).andThen (f := fun cd => pure cd.mro) .now
  unfold fillsNumberSlot
  refine Lm.andThen (anyM_false fun c hc => ?_)
  have hz := hm.2 c hc
  rw [Bool.and_eq_true, Bool.and_eq_true, beq_iff_eq, beq_iff_eq] at hz
  obtain ⟨h0, h1, h2⟩ := hz
  have L1 : Looks M h (typeLookup c (PySem.dunder nm)) none := looks_findIn X h1
  have L2 : Looks M h (typeLookup c (dunderR nm)) none := looks_findIn X h2
  cases c with
  | type n => exact L1.andThen (L2.andThen .now)
  | ref a =>
    refine anyM_false (l := [PySem.dunder nm, dunderR nm]) fun name hn => ?_
    rcases List.mem_cons.mp hn with rfl | hn
    · exact L1.andThen .now
    · rcases List.mem_cons.mp hn with rfl | hn
      · exact L2.andThen .now
      · cases hn
  | _ => cases h0
/-- an operator by its first part -/
theorem bin_of1 {op : Operator} {a b : Value} {Q : Value → Shared → Prop} (h : wpAny (model prog w) A (binaryOp1 op.info.2 a b) (fun r s' => ∃ v, r = some v ∧ Q v s') E s) : wpAny (model prog w) A (binaryOp op a b) Q E s := by
  rcases hi : op.info with ⟨sym, nm⟩
  rw [hi] at h
  simp only [binaryOp, hi]
  refine wpAny_holding (wpAny_bind (wpAny_mono h (fun r s' hr => ?_) fun _ _ e => e))
  obtain ⟨v, rfl, hq⟩ := hr
  exact wpAny_pure hq
theorem inp_of1 {op : Operator} {a b ta : Value} {Q : Value → Shared → Prop} (ha : Looks (model prog w) s.heap (typeOf a) ta) (hf : Looks (model prog w) s.heap (fillsInplaceSlot ta op.info.2 (op == .Add)) false)
    (h : wpAny (model prog w) A (binaryOp1 op.info.2 a b) (fun r s' => ∃ v, r = some v ∧ Q v s') E s) : wpAny (model prog w) A (inplaceOp op a b) Q E s := by
  obtain ⟨hh, g, d, tt, os⟩ := s
  unfold inplaceOp
  refine wpAny_holding (wpAny_bind (ha.at (wpAny_bind (hf.at ?_))))
  simp only [Bool.false_eq_true, if_false]
  refine wpAny_bind (wpAny_mono h (fun r s' hr => ?_) fun _ _ e => e)
  obtain ⟨v, rfl, hq⟩ := hr
  exact wpAny_pure hq
/-- a class none of whose ancestors has the name -/
def noOne (K : Frag) (D : Addr) (f : Str) : Bool := (clsIn K D).any fun cd => cd.mro.all fun c => findIn K c f == some none
theorem noOne_inp {M : Model} {h : Heap} {D : Addr} {nm : String} {add : Bool} (X : K.In h) (e : noOne K D (dunderI nm) = true) : Looks M h (fillsInplaceSlot (.ref D) nm add) false := by
  obtain ⟨cd, hcd, hm⟩ := any_some e
  rw [List.all_eq_true] at hm
  have Lm : Looks M h (mroOf (.ref D)) cd.mro := (looks_clsIn X hcd).andThen (f := fun cd => pure cd.mro) .now
  unfold fillsInplaceSlot
  refine Lm.andThen (anyM_false fun c hc => ?_)
  have h1 := beq_iff_eq.mp (hm c hc)
  have L1 : Looks M h (typeLookup c (dunderI nm)) none := looks_findIn X h1
  exact L1.andThen .now
/-- x op b, one class -/
theorem bin1_S {nm' : String} {b : Value} {Q : Value → Shared → Prop} (X : K.In s.heap) (I : InstAt s.heap x ox C od) (hb : Looks (model prog w) s.heap (typeOf b) (.ref C)) (hc : selfFirst K C = true)
    (hs : findIn K (.ref C) (PySem.dunder nm') = some (some (.ref f))) (hf : isFn K (.ref f) = true)
    (h : wpAny (model prog w) A (call (.ref f) [.ref x, b]) (PySem.W.CmpBack Q) E s) : wpAny (model prog w) A (binaryOp1 nm' (.ref x) b) (fun r s' => ∃ v, r = some v ∧ Q v s') E s := by
  obtain ⟨cd, rest, hcd, hm⟩ := ksp_first hc
  have one := ksp_try X I hs hf h
  obtain ⟨hh, g, d, tt, os⟩ := s
  have L1 : Looks (model prog w) hh (typeOf (.ref x)) (.ref C) := I.type
  have L2 : Looks (model prog w) hh (typeOf b) (.ref C) := hb
  have L3 : Looks (model prog w) hh (fillsNumberSlot (.ref C) nm') true := fills_K X hcd hm hs
  have hne : (Value.ref C == Value.ref C) = true := beq_self_eq_true _
  unfold binaryOp1
  refine wpAny_bind (L1.at (wpAny_bind (L2.at (wpAny_bind (L3.at ?_)))))
  simp only [hne, if_true]
  ksp_lk
  refine wpAny_mono one (fun r s' hr' => ?_) fun _ _ e => e
  obtain ⟨v, rfl, hq⟩ := hr'
  ksp_lk
  exact ⟨_, rfl, hq⟩
/-- x op b, the type of b has no such operator -/
theorem bin1_F {nm' : String} {b tb : Value} {Q : Value → Shared → Prop} (X : K.In s.heap) (I : InstAt s.heap x ox C od) (hb : Looks (model prog w) s.heap (typeOf b) tb) (hne : (Value.ref C == tb) = false) (hc : selfFirst K C = true)
    (hs : findIn K (.ref C) (PySem.dunder nm') = some (some (.ref f))) (hf : isFn K (.ref f) = true) (h4 : Looks (model prog w) s.heap (fillsNumberSlot tb nm') false)
    (h : wpAny (model prog w) A (call (.ref f) [.ref x, b]) (PySem.W.CmpBack Q) E s) : wpAny (model prog w) A (binaryOp1 nm' (.ref x) b) (fun r s' => ∃ v, r = some v ∧ Q v s') E s := by
  obtain ⟨cd, rest, hcd, hm⟩ := ksp_first hc
  have one := ksp_try X I hs hf h
  obtain ⟨hh, g, d, tt, os⟩ := s
  have L1 : Looks (model prog w) hh (typeOf (.ref x)) (.ref C) := I.type
  have L2 : Looks (model prog w) hh (typeOf b) tb := hb
  have L3 : Looks (model prog w) hh (fillsNumberSlot (.ref C) nm') true := fills_K X hcd hm hs
  unfold binaryOp1
  refine wpAny_bind (L1.at (wpAny_bind (L2.at (wpAny_bind (L3.at ?_)))))
  simp only [hne, Bool.false_eq_true, if_false]
  ksp_lk
  refine wpAny_mono one (fun r s' hr' => ?_) fun _ _ e => e
  obtain ⟨v, rfl, hq⟩ := hr'
  ksp_lk
  exact ⟨_, rfl, hq⟩
/-- a op x, the type of a has no such operator -/
theorem bin1_RF {nm' : String} {a ta : Value} {Q : Value → Shared → Prop} (X : K.In s.heap) (I : InstAt s.heap x ox C od) (ha : Looks (model prog w) s.heap (typeOf a) ta) (hne : (ta == Value.ref C) = false) (hc : selfFirst K C = true)
    (hs : findIn K (.ref C) (PySem.dunder nm') = some (some (.ref g))) (hr : findIn K (.ref C) (dunderR nm') = some (some (.ref f))) (hf : isFn K (.ref f) = true) (h4 : Looks (model prog w) s.heap (fillsNumberSlot ta nm') false)
    (h : wpAny (model prog w) A (call (.ref f) [.ref x, a]) (PySem.W.CmpBack Q) E s) : wpAny (model prog w) A (binaryOp1 nm' a (.ref x)) (fun r s' => ∃ v, r = some v ∧ Q v s') E s := by
  obtain ⟨cd, rest, hcd, hm⟩ := ksp_first hc
  have one := ksp_try X I hr hf h
  obtain ⟨hh, gg, d, tt, os⟩ := s
  have L1 : Looks (model prog w) hh (typeOf (.ref x)) (.ref C) := I.type
  have L2 : Looks (model prog w) hh (typeOf a) ta := ha
  have L3 : Looks (model prog w) hh (fillsNumberSlot (.ref C) nm') true := fills_K X hcd hm hs
  unfold binaryOp1
  refine wpAny_bind (L2.at (wpAny_bind (L1.at (wpAny_bind (h4.at ?_)))))
  simp only [hne, Bool.false_eq_true, if_false]
  ksp_lk
  refine wpAny_mono one (fun r s' hr' => ?_) fun _ _ e => e
  obtain ⟨v, rfl, hq⟩ := hr'
  ksp_lk
  exact ⟨_, rfl, hq⟩
/-- x op b, b of a built-in type -/
theorem bin1_T {nm' T : String} {b : Value} {fo ro rc : Option Value} {Q : Value → Shared → Prop} (X : K.In s.heap) (I : InstAt s.heap x ox C od) (hb : Looks (model prog w) s.heap (typeOf b) (.type T)) (hc : selfFirst K C = true)
    (hs : findIn K (.ref C) (PySem.dunder nm') = some (some (.ref f))) (hf : isFn K (.ref f) = true) (hr : findIn K (.ref C) (dunderR nm') = some rc) (hp : rc = none ∨ ∃ g : Addr, rc = some (.ref g))
    (h1 : findIn K (.type T) (PySem.dunder nm') = some fo) (h2 : findIn K (.type T) (dunderR nm') = some ro) (hsub : subIn K (.type T) (.ref C) = some false)
    (h : wpAny (model prog w) A (call (.ref f) [.ref x, b]) (PySem.W.CmpBack Q) E s) : wpAny (model prog w) A (binaryOp1 nm' (.ref x) b) (fun r s' => ∃ v, r = some v ∧ Q v s') E s := by
  obtain ⟨cd, rest, hcd, hm⟩ := ksp_first hc
  have one := ksp_try X I hs hf h
  obtain ⟨hh, g, d, tt, os⟩ := s
  have L1 : Looks (model prog w) hh (typeOf (.ref x)) (.ref C) := I.type
  have L2 : Looks (model prog w) hh (typeOf b) (.type T) := hb
  have L3 : Looks (model prog w) hh (fillsNumberSlot (.ref C) nm') true := fills_K X hcd hm hs
  have L4 : Looks (model prog w) hh (fillsNumberSlot (.type T) nm') ((fo.isSome && !isSeqSlot fo) || (ro.isSome && !isSeqSlot ro)) := ksp_fillsT X h1 h2
  have L5 : Looks (model prog w) hh (isSubtype (.type T) (.ref C)) false := looks_subIn X hsub
  have L6 : Looks (model prog w) hh (numberSlotInPython (.ref C) nm') true := ksp_inPy X hs hr hp
  have L7 : Looks (model prog w) hh (numberSlotInPython (.type T) nm') false := Looks.of_pure rfl
  have L8 : Looks (model prog w) hh (typeLookup (.type T) (dunderR nm')) ro := looks_findIn X h2
  generalize ((fo.isSome && !isSeqSlot fo) || (ro.isSome && !isSeqSlot ro)) = right at L4
  have hne : (Value.ref C == Value.type T) = false := Bool.eq_false_iff.mpr fun q => by cases beq_iff_eq.mp q
  unfold binaryOp1
  refine wpAny_bind (L1.at (wpAny_bind (L2.at (wpAny_bind (L3.at ?_)))))
  simp only [hne, Bool.false_eq_true, if_false]
  cases right with
  | false =>
    ksp_lk
    refine wpAny_mono one (fun r s' hr' => ?_) fun _ _ e => e
    obtain ⟨v, rfl, hq⟩ := hr'
    ksp_lk
    exact ⟨_, rfl, hq⟩
  | true =>
    ksp_lk
    refine wpAny_mono one (fun r s' hr' => ?_) fun _ _ e => e
    obtain ⟨v, rfl, hq⟩ := hr'
    ksp_lk
    exact ⟨_, rfl, hq⟩
end
end GW
set_option maxRecDepth 100000
set_option maxHeartbeats 4000000
namespace G
open PySem PySem.Spec PyProof.Rows L2

/-! ### own operators of two sides; what is raised goes on -/
def fnM (fn : List SD → R SD) (sds : List SD) : M D := fun δ => match fn sds with
  | .ok (.val d) _ => .ok d δ
  | .ok (.own d) _ => .ok d δ
  | .exc x _ => .exc x δ
  | _ => .bad
def opX (tl tr : Tab) (kl kr : List TK) (g : D → D → Option D) (a b : D) : M D := match a with
  | .obj c fs => match tl.lookup c, tkD b with
    | some fn, some τ => if kl.any τ.same || τ.same (.c c) then fnM fn [.val a, .val b] else badM
    | none, _ => match b with
      | .obj c' fs' => match tr.lookup c' with
        | some fn => if kr.any (TK.c c).same then fnM fn [.val b, .val a] else badM
        | none => badM
      | _ => badM
    | _, _ => badM
  | _ => match b with
    | .obj c fs => match tr.lookup c, tkD a with
      | some fn, some τ => if kr.any τ.same then fnM fn [.val b, .val a] else badM
      | _, _ => badM
    | _ => lift (g a b)
def binX (tl tr : Tab) (kl kr : List TK) (g : D → D → Option D) (ma mb : M D) : M D := ma.bind fun a => mb.bind fun b => opX tl tr kl kr g a b
/-- what the text must say of the other side's type -/
inductive OpKd (K : PySem.W.Frag) (C : Addr) (f r : Str) : Value → Prop
  | self : OpKd K C f r (.ref C)
  | ty {T : String} {fo ro : Option Value} : PySem.W.findIn K (.type T) f = some fo → PySem.W.findIn K (.type T) r = some ro → PySem.W.subIn K (.type T) (.ref C) = some false → OpKd K C f r (.type T)
  | cls {D : Addr} : GW.noNum K D f r = true → OpKd K C f r (.ref D)
inductive OpKr (K : PySem.W.Frag) (C : Addr) (op : Operator) : TK → Value → Prop
  | ty {T : String} {fo ro : Option Value} : PySem.W.findIn K (.type T) (PySem.dunder op.info.2) = some fo → PySem.W.findIn K (.type T) (dunderR op.info.2) = some ro → PySem.W.subIn K (.ref C) (.type T) = some false →
      ((((fo.isSome && !isSeqSlot fo) || (ro.isSome && !isSeqSlot ro)) = false) ∨ ((T = "int" ∨ T = "bool") ∧ GW.decOp op = true)) → OpKr K C op (.t T) (.type T)
  | cls {D : Addr} {n : Nat} : GW.noNum K D (PySem.dunder op.info.2) (dunderR op.info.2) = true → OpKr K C op (.c n) (.ref D)
structure OwnL (X : Cx) (k : KX) (c : Nat) (op : Operator) (kinds : List TK) (fn : List SD → R SD) : Prop where
  ex : ∃ (f : Addr) (lv : Nat) (rc : Option Value), Gf X k lv f fn ∧ Room lv X.A ∧ PySem.W.findIn X.K (.ref (k.cm c)) (PySem.dunder op.info.2) = some (some (.ref f)) ∧ PySem.W.isFn X.K (.ref f) = true ∧ PySem.W.selfFirst X.K (k.cm c) = true ∧
    PySem.W.findIn X.K (.ref (k.cm c)) (dunderR op.info.2) = some rc ∧ (rc = none ∨ ∃ g : Addr, rc = some (.ref g))
  kd : ∀ τ ∈ kinds, OpKd X.K (k.cm c) (PySem.dunder op.info.2) (dunderR op.info.2) (tkV k τ)
def OwnLs (X : Cx) (k : KX) (op : Operator) (kinds : List TK) (tab : Tab) : Prop := ∀ c fn, tab.lookup c = some fn → OwnL X k c op kinds fn
structure OwnR (X : Cx) (k : KX) (c : Nat) (op : Operator) (kinds : List TK) (fn : List SD → R SD) : Prop where
  ex : ∃ (f g : Addr) (lv : Nat), Gf X k lv f fn ∧ Room lv X.A ∧ PySem.W.findIn X.K (.ref (k.cm c)) (PySem.dunder op.info.2) = some (some (.ref g)) ∧ PySem.W.findIn X.K (.ref (k.cm c)) (dunderR op.info.2) = some (some (.ref f)) ∧ PySem.W.isFn X.K (.ref f) = true ∧ PySem.W.selfFirst X.K (k.cm c) = true
  kd : ∀ τ ∈ kinds, OpKr X.K (k.cm c) op τ (tkV k τ)
def OwnRs (X : Cx) (k : KX) (op : Operator) (kinds : List TK) (tab : Tab) : Prop := ∀ c fn, tab.lookup c = some fn → OwnR X k c op kinds fn
section
variable {X : Cx} {φ : Fx} {W : WX} {k : KX} {kinds kl kr : List TK} {tab tl tr : Tab} {op : Operator} {F F' H H' : Hp} {σ : L2.St} {δ : DEnv} {Q : VK} {ma mb : M D} {a b e : Expr} {pos : Pos}
theorem OwnLs.nil : OwnLs X k op kinds [] := fun _ _ h => by cases h
theorem OwnLs.cons {c : Nat} {fn : List SD → R SD} (h : OwnL X k c op kinds fn) (r : OwnLs X k op kinds tab) : OwnLs X k op kinds ((c, fn) :: tab) := fun c' a' e => by
  rw [List.lookup_cons] at e
  cases z : c' == c with
  | true =>
    rw [z] at e
    cases e
    rw [beq_iff_eq.mp z]
    exact h
  | false =>
    rw [z] at e
    exact r c' a' e
theorem OwnRs.nil : OwnRs X k op kinds [] := fun _ _ h => by cases h
theorem OwnRs.cons {c : Nat} {fn : List SD → R SD} (h : OwnR X k c op kinds fn) (r : OwnRs X k op kinds tab) : OwnRs X k op kinds ((c, fn) :: tab) := fun c' a' e => by
  rw [List.lookup_cons] at e
  cases z : c' == c with
  | true =>
    rw [z] at e
    cases e
    rw [beq_iff_eq.mp z]
    exact h
  | false =>
    rw [z] at e
    exact r c' a' e
theorem FD.ofM {fn : List SD → R SD} {vs : List V} {ds : List D} (g : GI φ F H σ δ) (r : RepL φ.k F vs ds) (q : Out φ W σ F (fnM fn (ds.map SD.val) δ) fun d _ F' H' => ∀ v, Rep φ.k F' v d → Q v H') : FD φ.k fn vs H Q (WE W σ) := by
  refine ⟨F, ds.map SD.val, g.fh, args_val r, fun i j a d e ne e1 e2 v1 v2 => (noOwn ⟨i, d, e1, v1⟩).elim, ?_⟩
  unfold fnM at q
  cases z : fn (ds.map SD.val) with
  | bad => rw [z] at q; exact q.elim
  | exc x rs =>
    rw [z] at q
    exact fun F' H' da fe xa => q F' H' da (g.new fe.gr.new) fe.gr.new.ff xa
  | ok r0 rs =>
    rw [z] at q
    refine fun F' H' v fe ro => ?_
    have n := fe.gr.new
    cases r0 with
    | val d' => exact q F' H' (g.new n) n.ff v ro
    | own d' =>
      obtain ⟨p, rfl, hp, f, w⟩ := ro
      obtain ⟨F2, n2, r2⟩ := New.froze1 n hp f w
      exact q F2 H' (g.new n2) n2.ff _ r2
    | no => exact q.elim
    | arg d => exact q.elim
    | frz d => exact q.elim
theorem tk_any {τ : TK} {l : List TK} (h : l.any τ.same = true) : τ ∈ l := by
  obtain ⟨y, hy, e⟩ := List.any_eq_true.mp h
  rw [TK.same_eq e]
  exact hy
theorem ky_of {K : PySem.W.Frag} {c : Nat} {f r : Str} {τ : TK} {l : List TK} (h : (l.any τ.same || τ.same (.c c)) = true) (kd : ∀ τ ∈ l, OpKd K (k.cm c) f r (tkV k τ)) : OpKd K (k.cm c) f r (tkV k τ) := by
  rcases Bool.or_eq_true_iff.mp h with h | h
  · exact kd τ (tk_any h)
  · rw [TK.same_eq h]
    exact .self
theorem beq_no {u v : Value} (h : u ≠ v) : (u == v) = false := Bool.eq_false_iff.mpr fun q => h (beq_iff_eq.mp q)
theorem noNum_ne {K : PySem.W.Frag} {C D : Addr} {f r : Str} {v : Value} (hc : PySem.W.selfFirst K C = true) (hs : PySem.W.findIn K (.ref C) f = some (some v)) (hn : GW.noNum K D f r = true) : D ≠ C := fun e => by
  subst e
  obtain ⟨cd, hcd, hm⟩ := PySem.W.any_some hn
  obtain ⟨cd', rest, hcd', hm'⟩ := PySem.W.ksp_first hc
  rw [hcd] at hcd'
  cases hcd'
  rw [Bool.and_eq_true, List.all_eq_true] at hm
  have z := hm.2 (.ref D) (by rw [hm']; exact List.mem_cons_self ..)
  rw [Bool.and_eq_true, Bool.and_eq_true, beq_iff_eq, hs] at z
  exact absurd z.2.1 (by simp)
/-- the operator at two kept values -/
theorem run_opX {r : R2} {g : D → D → Option D} {pins : List (Addr × Obj)} {s : Shared} {x y : V} {v u : Value} {da db : D} (htl : OwnLs X φ.k op kl tl) (htr : OwnRs X φ.k op kr tr) (hr : OpK φ.k r g) (ho : OpR X (binaryOp op) r) (hg : X.A.guards = some []) (tk : Takes X W) (hK : φ.k.K = X.K)
    (I : L2.Inv X pins σ H s) (rx : RelV x v) (ry : RelV y u) (gi : GI φ F H σ δ) (ra : Rep φ.k F x da) (rb : Rep φ.k F y db) (q : Out φ W σ F (opX tl tr kl kr g da db δ) fun d _ F' H' => ∀ v, Rep φ.k F' v d → Q v H') :
    wpAny (model X.prog X.w) X.A (binaryOp op v u) (EP X pins σ Q) X.xe s := by
  have rest : Out φ W σ F (lift (g da db) δ) (fun d _ F' H' => ∀ v, Rep φ.k F' v d → Q v H') → wpAny (model X.prog X.w) X.A (binaryOp op v u) (EP X pins σ Q) X.xe s := fun q => by
    obtain ⟨d, e, q2⟩ := Out.lift q
    exact ho pins s σ H x y v u Q I rx ry (hr F H x y da db d gi.fh ra rb e Q fun F' H' v n rv => q2 F' H' (gi.new n) n.ff v rv)
  have right : ∀ c fs, db = .obj c fs → Out φ W σ F ((match tr.lookup c, tkD da with | some fn, some τ => if kr.any τ.same then fnM fn [.val db, .val da] else badM | _, _ => badM : M D) δ) (fun d _ F' H' => ∀ v, Rep φ.k F' v d → Q v H') → wpAny (model X.prog X.w) X.A (binaryOp op v u) (EP X pins σ Q) X.xe s := fun c fs e q => by
    subst e
    cases z1 : tr.lookup c with
    | none => rw [z1] at q; exact q.elim
    | some fn =>
      cases z2 : tkD da with
      | none => rw [z1, z2] at q; exact q.elim
      | some τ =>
        rw [z1, z2] at q
        rcases q.ite with ⟨hin, q⟩ | ⟨_, q⟩
        · obtain ⟨⟨f, gg, lv, Gx, hrm, h1, h2, h3, h4⟩, kd⟩ := htr c fn z1
          have ky := kd τ (tk_any hin)
          have hd := FD.ofM (fn := fn) (vs := [y, x]) (ds := [.obj c fs, da]) gi (.cons rb (.cons ra .nil)) q
          have rb' := rb
          cases rb' with
          | @obj ad _ dx fvs _ hF rf =>
            obtain rfl : u = Value.ref ad := ry
            obtain ⟨mA, J, _⟩ := ins_get I.hok (gi.fh _ _ hF)
            have hob : s.heap.get? ad = some (PySem.W.instObj (φ.k.cm c) dx) := J.1
            obtain ⟨od, J, _⟩ := J.look
            have lk := ra.looks I gi.fh hK z2 rx
            have hrun := wpAny_mono (Gx.run hrm hg tk I (.cons (show RelV (V.ref ad) (Value.ref ad) from rfl) (.cons rx .nil)) hd) (fun w s' z => (by
              obtain ⟨z', H', I', rz, qz⟩ := z
              exact cmpback rz ⟨z', H', I', rz, qz⟩ : PySem.W.CmpBack (EP X pins σ Q) w s')) fun _ _ x => x
            generalize hv : tkV φ.k τ = tv at ky lk
            cases ky with
            | @ty T fo ro k1 k2 k3 k4 =>
              refine GW.bin_R (T := T) I.kIn J lk h4 h1 h2 h3 k1 k2 k3 (fun hf Q' hq => ?_) hrun
              rcases k4 with k4 | ⟨k4, k5⟩
              · rw [k4] at hf; cases hf
              · have hdat : ∀ v, (PySem.W.instObj (φ.k.cm c) dx).data ≠ .prim v := fun v e => by cases e
                rcases k4 with rfl | rfl
                · cases da with
                  | int i =>
                    cases ra
                    obtain ⟨t, rfl⟩ := rx
                    exact GW.dec_num ⟨_, rfl⟩ rfl (.inl rfl) hob hdat k5 hq
                  | _ => simp [tkD] at z2
                · cases da with
                  | bl b =>
                    cases ra
                    obtain rfl := rx
                    exact GW.dec_num ⟨_, rfl⟩ rfl (.inr rfl) hob hdat k5 hq
                  | _ => simp [tkD] at z2
            | cls k2 => exact GW.bin_of1 (GW.bin1_RF I.kIn J lk (beq_no fun e => by cases e; exact noNum_ne h4 h1 k2 rfl) h4 h1 h2 h3 (GW.noNum_fills I.kIn k2) hrun)
        · exact q.elim
  cases da with
  | obj c fs =>
    cases z1 : tl.lookup c with
    | none =>
      unfold opX at q
      simp only [z1] at q
      cases db with
      | obj c' fs' =>
        refine right c' fs' rfl ?_
        cases z2 : tr.lookup c' with
        | none => simp only [z2] at q; exact q.elim
        | some fn => simp only [z2] at q; exact q
      | _ => exact q.elim
    | some fn =>
      unfold opX at q
      simp only [z1] at q
      cases z2 : tkD db with
      | none => simp only [z2] at q; exact q.elim
      | some τ =>
        simp only [z2] at q
        rcases q.ite with ⟨hin, q⟩ | ⟨_, q⟩
        · obtain ⟨⟨f, lv, rc, Gx, hrm, h1, h2, h3, h4, h5⟩, kd⟩ := htl c fn z1
          have ky := ky_of hin kd
          have hd := FD.ofM (fn := fn) (vs := [x, y]) (ds := [.obj c fs, db]) gi (.cons ra (.cons rb .nil)) q
          have ra' := ra
          cases ra' with
          | @obj ad _ dx fvs _ hF rf =>
            obtain rfl : v = Value.ref ad := rx
            obtain ⟨mA, J, _⟩ := ins_get I.hok (gi.fh _ _ hF)
            obtain ⟨od, J, _⟩ := J.look
            obtain ⟨m, hFr⟩ := I.fr
            have lk := rb.looks I gi.fh hK z2 ry
            have hrun := wpAny_mono (Gx.run hrm hg tk I (.cons (show RelV (V.ref ad) (Value.ref ad) from rfl) (.cons ry .nil)) hd) (fun w s' z => (by
              obtain ⟨z', H', I', rz, qz⟩ := z
              exact cmpback rz ⟨z', H', I', rz, qz⟩ : PySem.W.CmpBack (EP X pins σ Q) w s')) fun _ _ x => x
            generalize tkV φ.k τ = tv at ky lk
            cases ky with
            | self => exact GW.bin_of1 (GW.bin1_S I.kIn J lk h3 h1 h2 hrun)
            | ty k1 k2 k3 => exact GW.bin_of1 (GW.bin1_T I.kIn J lk h3 h1 h2 h4 h5 k1 k2 k3 hrun)
            | cls k2 => exact GW.bin_of1 (GW.bin1_F I.kIn J lk (beq_no fun e => by cases e; exact noNum_ne h3 h1 k2 rfl) h3 h1 h2 (GW.noNum_fills I.kIn k2) hrun)
        · exact q.elim
  | _ =>
    cases db with
    | obj c fs => exact right c fs rfl q
    | _ => exact rest q
theorem d_binX {r : R2} {g : D → D → Option D} (htl : OwnLs X φ.k op kl tl) (htr : OwnRs X φ.k op kr tr) (hr : OpK φ.k r g) (ho : OpR X (binaryOp op) r) (hg : X.A.guards = some []) (tk : Takes X W) (ha : DE X φ W a ma) (hb : DE X φ W b mb) (hK : φ.k.K = X.K := by rfl) :
    DE X φ W (.BinOp a op b pos) (binX tl tr kl kr g ma mb) := by
  refine ⟨fun pins s σ H Q I h => ?_⟩
  obtain ⟨F, δ, gi, q⟩ := h
  have h' : tM φ W ma σ H fun x H1 => tM φ W mb σ H1 fun y H2 => ∃ F δ da db, GI φ F H2 σ δ ∧ Rep φ.k F x da ∧ Rep φ.k F y db ∧ Out φ W σ F (opX tl tr kl kr g da db δ) fun d _ F' H' => ∀ v, Rep φ.k F' v d → Q v H' := by
    refine tM_run gi q fun da x δ1 F1 H1 g1 s1 r1 q1 => ?_
    refine tM_run g1 q1 fun db y δ2 F2 H2 g2 s2 r2 q2 => ?_
    exact ⟨F2, δ2, da, db, g2, r1.mono s2, r2, q2⟩
  refine wpAny_BinOp (binT ha hb I h' fun v u s2 x y H2 I2 rx ry ⟨F2, δ2, da, db, g2, r1, r2, q2⟩ => ?_)
  exact run_opX htl htr hr ho hg tk hK I2 rx ry g2 r1 r2 q2
end
end G
set_option maxRecDepth 100000
set_option maxHeartbeats 4000000
namespace GW
open PySem PySem.Spec PySem.Calls PyProof.Rows PySem.W
/-- abs(x), the class has an own __abs__ -/
theorem abs_K {prog : Program} {w : World} {A : Around} {E : Value → Shared → Prop} {s : Shared} {K : Frag} {x C f : Addr} {ox : Obj} {od : Option Obj} {Q : Value → Shared → Prop} (X : K.In s.heap) (I : InstAt s.heap x ox C od) (hs : findIn K (.ref C) "__abs__" = some (some (.ref f)))
    (hf : isFn K (.ref f) = true) (h : wpAny (model prog w) A.in1 (call (.ref f) [.ref x]) Q E s) : wpAny (model prog w) A (call (.builtin "abs") [.ref x]) Q E s := by
  refine Calls.call_function_entry kind_abs plain_abs entry_abs (args_abs _) ?_
  unfold Builtin.«abs»
  refine wpAny_bind (m := oneArg "abs" _) (wpAny_pure ?_)
  refine wpAny_bind (m := callSpecial? (.ref x) (Str.ofString "__abs__")) (special_fn X I hs (beq_iff_eq.mp hf) (wpAny_mono h (fun r s' hr => ?_) fun _ _ y => y))
  exact wpAny_pure ⟨_, rfl, hr⟩
end GW
namespace G
open PySem PySem.Spec PyProof.Rows L2

/-! ### abs -/
def absT (tab : Tab) : List D → Option D
  | [.obj c fs] => match tab.lookup c with
    | some fn => fnV fn [.obj c fs]
    | none => none
  | ds => absD ds
section
variable {X : Cx} {φ : Fx} {W : WX} {k : KX} {kinds : List TK} {tab : Tab} {F F' H H' : Hp} {σ : L2.St} {δ : DEnv} {Q : VK} {m mb : M D} {e b : Expr} {pos p : Pos}
def rOwnA (X : Cx) (k : KX) (nm : Str) : List V → Hp → VK → Prop := fun vs H Q => ∃ a c dx fs f lv fn, vs = [.ref a] ∧ H a = some (.ins (k.cm c) dx fs) ∧ Gf X k lv f fn ∧ Room (lv + 2) X.A ∧
  PySem.W.findIn X.K (.ref (k.cm c)) nm = some (some (.ref f)) ∧ PySem.W.isFn X.K (.ref f) = true ∧ FD k fn [.ref a] H Q fun _ _ _ => False
theorem call_absOwn (hg : X.A.guards = some []) : CallR X (.builtin "abs") (rOwnA X k "__abs__") := by
  intro pins s σ H xs us Q I r h
  obtain ⟨a, c, dx, fs, f, lv, fn, rfl, ha, Gx, hr, hs, hf, q⟩ := h
  obtain rfl := Vals.ref1 r
  obtain ⟨mA, J, _⟩ := ins_get I.hok ha
  obtain ⟨od, J, _⟩ := J.look
  refine GW.abs_K I.kIn J hs hf ?_
  exact Gx.runV (A := X.A.in1) (Room.mono (Room.in1 hr) (Nat.le_succ _)) hg rfl I (.cons (show RelV (V.ref a) (Value.ref a) from rfl) .nil) q
theorem ck_abs (ht : OwnOps X k "__abs__" kinds tab) : CaK k (fun xs H Q => rOwnA X k "__abs__" xs H Q ∨ ∃ i, xs = [.int i] ∧ Q (.int (if i < 0 then -i else i)) H) (absT tab) := fun F H vs ds d s r e Q q => by
  unfold absT at e
  split at e
  · rename_i c fs
    cases z : tab.lookup c with
    | none => rw [z] at e; cases e
    | some fn =>
      rw [z] at e
      obtain ⟨⟨f, lv, Gx, hr, hs, hf⟩, kd⟩ := ht c fn z
      have r0 := r
      cases r with
      | cons r1 rn =>
        cases rn
        cases r1 with
        | @obj aa _ dx fvs _ hH rf =>
          exact .inl ⟨aa, c, dx, fvs, f, lv, fn, rfl, s _ _ hH, Gx, hr, hs, hf, FD.ofV s r0 e fun F' H' v n rv => q F' H' v n rv⟩
  · refine .inr ?_
    unfold absD at e
    split at e
    · cases r with
      | cons r1 rn =>
        cases rn
        cases r1
        cases e
        exact ⟨_, rfl, q F H _ (New.refl s) .int⟩
    · cases e
theorem d_abs1 (ht : OwnOps X φ.k "__abs__" kinds tab) (hg : X.A.guards = some []) (hm : X.mg "abs" = none) (he : DE X φ W e m) (gl : Gl X "abs" := by rfl) (hs : starEach [e] X.env = (false, eval e X.env) :: starEach [] X.env := by rfl) :
    DE X φ W (.Call (.Name "abs" p) [e] [] pos) (callKM (absT tab) [m]) := d_callBK (ck_abs ht) (CallR.or (call_absOwn hg) call_abs) gl hm rfl (dc_cons he dc_nil hs) (by decide) (by decide) hs rfl

/-! ### op= -/
def opI (tl : Tab) (kl : List TK) (g : D → D → Option D) (a b : D) : M D := match a with
  | .obj c fs => match tl.lookup c, tkD b with
    | some fn, some τ => if kl.any τ.same || τ.same (.c c) then fnM fn [.val a, .val b] else badM
    | _, _ => badM
  | _ => lift (g a b)
/-- the classes have no in-place form of their own -/
def NoInp (X : Cx) (k : KX) (op : Operator) (tab : Tab) : Prop := ∀ c fn, tab.lookup c = some fn → GW.noOne X.K (k.cm c) (dunderI op.info.2) = true
theorem NoInp.nil {op : Operator} : NoInp X k op [] := fun _ _ h => by cases h
theorem NoInp.cons {op : Operator} {c : Nat} {fn : List SD → R SD} (h : GW.noOne X.K (k.cm c) (dunderI op.info.2) = true) (r : NoInp X k op tab) : NoInp X k op ((c, fn) :: tab) := fun c' a' e => by
  rw [List.lookup_cons] at e
  cases z : c' == c with
  | true =>
    rw [beq_iff_eq.mp z]
    exact h
  | false =>
    rw [z] at e
    exact r c' a' e
def rNone : R2 := fun _ _ _ _ => False
theorem pip_none {op : Operator} : PIp X op rNone := fun _ _ _ _ _ _ _ _ _ _ _ _ h => h.elim
theorem ok_none : OpK k rNone (fun _ _ => none) := fun _ _ _ _ _ _ _ _ _ _ e => by cases e
def add2D : D → D → Option D
  | .int i, .int j => some (.int (i + j))
  | _, _ => none
def sub2D : D → D → Option D
  | .int i, .int j => some (.int (i - j))
  | _, _ => none
theorem ok_ipAdd : OpK k (ipI fun i j => i + j) add2D := fun F H x y a b d s ra rb e Q q => by
  unfold add2D at e
  split at e
  · cases ra; cases rb; cases e; exact ⟨_, _, rfl, rfl, q F H _ (New.refl s) .int⟩
  · cases e
theorem ok_ipSub : OpK k (ipI fun i j => i - j) sub2D := fun F H x y a b d s ra rb e Q q => by
  unfold sub2D at e
  split at e
  · cases ra; cases rb; cases e; exact ⟨_, _, rfl, rfl, q F H _ (New.refl s) .int⟩
  · cases e
variable {op : Operator} {tl : Tab} {kl : List TK}
theorem run_opI {r : R2} {g : D → D → Option D} {pins : List (Addr × Obj)} {s : Shared} {x y : V} {v u : Value} {da db : D} (htl : OwnLs X φ.k op kl tl) (hin : NoInp X φ.k op tl) (hr : OpK φ.k r g) (ho : PIp X op r) (hg : X.A.guards = some []) (tk : Takes X W) (hK : φ.k.K = X.K)
    (I : L2.Inv X pins σ H s) (rx : RelV x v) (ry : RelV y u) (gi : GI φ F H σ δ) (ra : Rep φ.k F x da) (rb : Rep φ.k F y db) (q : Out φ W σ F (opI tl kl g da db δ) fun d _ F' H' => ∀ v, Rep φ.k F' v d → Q v H') :
    wpAny (model X.prog X.w) X.A (inplaceOp op v u) (EP X pins σ Q) X.xe s := by
  have rest : Out φ W σ F (lift (g da db) δ) (fun d _ F' H' => ∀ v, Rep φ.k F' v d → Q v H') → wpAny (model X.prog X.w) X.A (inplaceOp op v u) (EP X pins σ Q) X.xe s := fun q => by
    obtain ⟨d, e, q2⟩ := Out.lift q
    exact ho pins s σ H x y v u Q I rx ry (hr F H x y da db d gi.fh ra rb e Q fun F' H' v n rv => q2 F' H' (gi.new n) n.ff v rv)
  cases da with
  | obj c fs =>
    cases z1 : tl.lookup c with
    | none =>
      unfold opI at q
      simp only [z1] at q
      exact q.elim
    | some fn =>
      unfold opI at q
      simp only [z1] at q
      cases z2 : tkD db with
      | none => simp only [z2] at q; exact q.elim
      | some τ =>
        simp only [z2] at q
        rcases q.ite with ⟨hin', q⟩ | ⟨_, q⟩
        · obtain ⟨⟨f, lv, rc, Gx, hrm, h1, h2, h3, h4, h5⟩, kd⟩ := htl c fn z1
          have ky := ky_of hin' kd
          have hd := FD.ofM (fn := fn) (vs := [x, y]) (ds := [.obj c fs, db]) gi (.cons ra (.cons rb .nil)) q
          have ra' := ra
          cases ra' with
          | @obj ad _ dx fvs _ hF rf =>
            obtain rfl : v = Value.ref ad := rx
            obtain ⟨mA, J, _⟩ := ins_get I.hok (gi.fh _ _ hF)
            obtain ⟨od, J, _⟩ := J.look
            have lk := rb.looks I gi.fh hK z2 ry
            have hrun := wpAny_mono (Gx.run hrm hg tk I (.cons (show RelV (V.ref ad) (Value.ref ad) from rfl) (.cons ry .nil)) hd) (fun w s' z => (by
              obtain ⟨z', H', I', rz, qz⟩ := z
              exact cmpback rz ⟨z', H', I', rz, qz⟩ : PySem.W.CmpBack (EP X pins σ Q) w s')) fun _ _ x => x
            have li : PySem.W.Looks (model X.prog X.w) s.heap (fillsInplaceSlot (.ref (φ.k.cm c)) op.info.2 (op == .Add)) false := GW.noOne_inp I.kIn (hin c fn z1)
            generalize tkV φ.k τ = tv at ky lk
            cases ky with
            | self => exact GW.inp_of1 J.type li (GW.bin1_S I.kIn J lk h3 h1 h2 hrun)
            | ty k1 k2 k3 => exact GW.inp_of1 J.type li (GW.bin1_T I.kIn J lk h3 h1 h2 h4 h5 k1 k2 k3 hrun)
            | cls k2 => exact GW.inp_of1 J.type li (GW.bin1_F I.kIn J lk (beq_no fun e => by cases e; exact noNum_ne h3 h1 k2 rfl) h3 h1 h2 (GW.noNum_fills I.kIn k2) hrun)
        · exact q.elim
  | _ => exact rest q
/-- name op= e -/
def augX (tl : Tab) (kl : List TK) (g : D → D → Option D) (i : Nat) (m : M D) : M Fl := (getV i).bind fun a => m.bind fun b => (opI tl kl g a b).bind fun z => (storeM i z).bind fun _ => M.pure .nx
theorem getV_S {i : Nat} {f : D → M Fl} {E : Ends} (g : GI φ F H σ δ) (q : SOut φ W F ((getV i).bind f δ) E) : ∃ v d δ' F', σ[i]? = some (some v) ∧ GI φ F' H σ δ' ∧ Sub F F' ∧ Rep φ.k F' v d ∧ SOut φ W F' (f d δ') E := by
  cases e : δ[i]? with
  | none =>
    have z : (getV i).bind f δ = .bad := by unfold M.bind getV; rw [e]
    rw [z] at q
    exact q.elim
  | some sd =>
    cases hg : sd.get? with
    | none =>
      cases sd with
      | no =>
        have z : (getV i).bind f δ = .bad := by unfold M.bind getV; rw [e]
        rw [z] at q
        exact q.elim
      | _ => cases hg
    | some d =>
      obtain ⟨F1, v, g1, s1, e1, r1⟩ := g.froze e hg
      have z : (getV i).bind f δ = f d (δ.set i sd.frozen) := by
        have set_id : ∀ sd' : SD, sd' = sd → δ.set i sd' = δ := fun sd' h => by
          rw [h]
          obtain ⟨hl, hh⟩ := List.getElem?_eq_some_iff.mp e
          rw [← hh]
          exact List.set_getElem_self hl
        unfold M.bind getV
        rw [e]
        cases sd with
        | no => cases hg
        | val d' => cases hg; simp only [SD.frozen]; rw [set_id _ rfl]
        | own d' => cases hg; rfl
        | arg d' => cases hg; rfl
        | frz d' => cases hg; simp only [SD.frozen]; rw [set_id _ rfl]
      rw [z] at q
      exact ⟨v, d, _, F1, e1, g1, s1, r1, q.mono s1⟩
theorem ds_aug (i : Nat) {x : Str} {px : Pos} {r : R2} {g : D → D → Option D} (htl : OwnLs X φ.k op kl tl) (hin : NoInp X φ.k op tl) (hr : OpK φ.k r g) (ho : PIp X op r) (hg : X.A.guards = some []) (tk : Takes X W) (he : DE X φ W e m) (hN : X.N.Nodup) (hi : X.N[i]? = some x := by rfl)
    (hx : Loc X.env.scope x := by first | exact Or.inl rfl | exact Or.inr rfl) (hf : X.fn x = true ∨ X.env.scope.names.lookup x = some .local := by first | exact .inl rfl | exact .inr rfl | assumption) (hK : φ.k.K = X.K := by rfl) :
    DS X φ W (.AugAssign (.Name x px) op e pos) (augX tl kl g i m) := by
  refine ⟨fun pins s σ H D I h => ?_⟩
  obtain ⟨F0, δ0, g0, q⟩ := h
  unfold augX at q
  obtain ⟨v, d, δ, F, e1, g, s0, r0, q⟩ := getV_S g0 q
  obtain ⟨mm, hn, hl⟩ := I.loc
  have vis : Vis X.env.scope x := by rcases hx with k | k; exact .inl k; exact .inr (.inl k)
  obtain ⟨u, rv, l⟩ := hl i x v hi e1 vis
  have hm' : tM φ W m σ H fun y H1 => ∃ F1 δ1 db, GI φ F1 H1 σ δ1 ∧ Rep φ.k F1 v d ∧ Rep φ.k F1 y db ∧ SOut φ W F1 (((opI tl kl _ d db).bind fun z => (storeM i z).bind fun _ => M.pure .nx) δ1) D :=
    tM_S g q fun db y δ1 F1 H1 g1 s1 r1 q1 => ⟨F1, δ1, db, g1, r0.mono s1, r1, q1⟩
  refine wpAny_AugAssign_Name ?_
  have go : wpAny (model X.prog X.w) X.A (eval e X.env) (fun w s₂ => wpAny (model X.prog X.w) X.A (inplaceOp op u w) (fun r s₃ => wpAny (model X.prog X.w) X.A (storeName X.env x r) (fun _ => SP X pins D .next) X.xe s₃) X.xe s₂) X.xe s := by
    refine thn (he.run pins s σ H _ I hm') fun w s1 ⟨y, H1, I1, r1, F1, δ1, db, g1, ra, rb, q1⟩ => ?_
    refine thn (run_opI (Q := fun z H2 => D.nx (σ.set i (some z)) H2) htl hin hr ho hg tk hK I1 rv r1 g1 ra rb (q1.bind.mono (Sub.refl F1) fun z δ2 F2 H2 g2 s2 q2 zv rz => ?_)) fun z s2 ⟨zv, H2, I2, r2, q2⟩ => ?_
    · obtain ⟨δ3, g3, q3⟩ := storeM_ok g2 rz q2
      exact q3 F2 H2 _ g3 (Sub.refl F2)
    · exact store_ok I2 hN hi hx r2 (fun s3 I3 => ⟨_, H2, I3, q2⟩) hf
  rcases l with ⟨hk, hm⟩ | ⟨hk, c, hc, hcell⟩
  · exact wpAny_loadName_local I.ok.kind hk hn hm go
  · rcases hk with hk | hk
    · exact wpAny_loadName_cell I.ok.kind hk hc hcell go
    · rcases hx with k | k
      · have : X.env.scope.names.lookup x = some .free := hk
        rw [k] at this; cases this
      · have : X.env.scope.names.lookup x = some .free := hk
        rw [k] at this; cases this
/-- name[i] op= e -/
def getI (c kd : D) : Option D := match c, kd with
  | .lst xs, .int j => if 0 ≤ j ∧ j < 2 ^ 63 then xs[j.toNat]? else none
  | c, kd => (dgetD c kd).bind id
def augSubX (tl : Tab) (kl : List TK) (g : D → D → Option D) (i : Nat) (mi m : M D) : M Fl := (pk i).bind fun _ => mi.bind fun kd => (pk i).bind fun c => (lift (getI c kd)).bind fun a => m.bind fun b => (opI tl kl g a b).bind fun z =>
  (mutI (fun c => (setLDD c kd z).map fun c' => (c', .non)) i).bind fun _ => M.pure .nx
theorem SOut.lift {o : Option D} {f : D → M Fl} {E : Ends} (h : SOut φ W F (((G.lift o).bind f) δ) E) : ∃ x, o = some x ∧ SOut φ W F (f x δ) E := by
  cases o with
  | none => exact h.elim
  | some x => exact ⟨x, rfl, h⟩
theorem pk_S {i : Nat} {f : D → M Fl} {E : Ends} (g : GI φ F H σ δ) (q : SOut φ W F ((pk i).bind f δ) E) : ∃ v d, σ[i]? = some (some v) ∧ RepO φ.k F H v d ∧ SOut φ W F (f d δ) E := by
  unfold M.bind at q
  rcases pk_bad (i := i) (δ := δ) with e | ⟨d, e⟩
  · rw [e] at q; exact q.elim
  · rw [e] at q
    obtain ⟨_, sd, e1, e2⟩ := pk_ok e
    obtain ⟨v, h1, h2⟩ := g.look e1 e2
    exact ⟨v, d, h1, h2, q⟩
theorem getI_run {pins : List (Addr × Obj)} {s : Shared} {v y : V} {ov iv : Value} {c kd d : D} (hu : X.A.units + 1 < cLine) (I : L2.Inv X pins σ H s) (rv : RelV v ov) (ry : RelV y iv) (sb : Sub F H) (rc : RepO k F H v c) (rk : RepO k F H y kd) (e : getI c kd = some d) (hq : ∀ x, Rep k F x d → Q x H) :
    wpAny (model X.prog X.w) X.A (getItem ov iv) (EP X pins σ Q) X.xe s := by
  unfold getI at e
  split at e
  · rename_i xs j
    by_cases hj : 0 ≤ j ∧ j < 2 ^ 63
    · rw [if_pos hj] at e
      obtain ⟨a, ws, rfl, ha, l⟩ := rc.lst sb
      obtain rfl := rk.int
      obtain ⟨x, ex, rx⟩ := l.get e
      cases rv
      obtain ⟨t, rfl⟩ := ry
      obtain ⟨its, n, rr, ho, _⟩ := I.lst ha
      obtain ⟨u, eu, ru⟩ := rr.get ex
      exact wpAny_getItem_list (items := its.toArray) ⟨_, ho, rfl, n, rfl⟩ hj.1 hj.2 (by simpa using eu) ⟨x, H, I, ru, hq x rx⟩
    · rw [if_neg hj] at e; cases e
  · cases z : dgetD c kd with
    | none => rw [z] at e; cases e
    | some r =>
      rw [z] at e
      change id r = some d at e
      obtain ⟨a, w, rfl, hd, h1, _⟩ := rc.dget sb rk z
      obtain ⟨x, rfl, rx⟩ := h1 d e
      cases rv
      exact d_getItem hu I hd ry fun w' s' I' rw' => ⟨x, H, I', rw', hq x rx⟩
theorem ds_augSub (i : Nat) {x : Str} {px pt : Pos} {ie : Expr} {mi : M D} {r : R2} {g : D → D → Option D} (hu : X.A.units + 1 < cLine) (htl : OwnLs X φ.k op kl tl) (hin : NoInp X φ.k op tl) (hr : OpK φ.k r g) (ho : PIp X op r) (hg : X.A.guards = some []) (tk : Takes X W) (hie : DE X φ W ie mi) (he : DE X φ W e m)
    (hN : X.N[i]? = some x := by rfl) (hv : Vis X.env.scope x := by first | exact Or.inl rfl | exact Or.inr (Or.inl rfl) | exact Or.inr (Or.inr rfl)) (hd : (x == ("__debug__" : Str)) = false := by decide) (hcd : (x == ("__classdict__" : Str)) = false := by decide)
    (ha : ∀ ov iv new, augStore ie ov iv new = (do holding [new, ov, iv] (setItem ov iv new); release [new, ov, iv] []; pure .next) := by intros; rfl) (hK : φ.k.K = X.K := by rfl) :
    DS X φ W (.AugAssign (.Subscript (.Name x px) ie pt) op e pos) (augSubX tl kl g i mi m) := by
  refine ⟨fun pins s σ H D I h => ?_⟩
  obtain ⟨F0, δ0, g0, q⟩ := h
  unfold augSubX at q
  obtain ⟨v, c0, ev, _, q⟩ := pk_S g0 q
  have hidx : tM φ W mi σ H fun y H1 => ∃ F1 δ1 kd c a, GI φ F1 H1 σ δ1 ∧ Rep φ.k F1 y kd ∧ RepO φ.k F1 H1 v c ∧ getI c kd = some a ∧ SOut φ W F1 ((m.bind fun b => (opI tl kl g a b).bind fun z => (mutI (fun c => (setLDD c kd z).map fun c' => (c', .non)) i).bind fun _ => M.pure .nx) δ1) D := by
    refine tM_S g0 q fun kd y δ1 F1 H1 g1 s1 r1 q1 => ?_
    obtain ⟨v', c, ev', rc, q2⟩ := pk_S g1 q1
    rw [ev] at ev'
    cases ev'
    obtain ⟨a, ea, q3⟩ := SOut.lift q2
    exact ⟨F1, δ1, kd, c, a, g1, r1, rc, ea, q3⟩
  refine wpAny_AugAssign_SubscriptAny (thn ((pe_var hN hv hd hcd).run pins s σ H (fun z H1 => z = v ∧ H1 = H) I ⟨v, ev, rfl, rfl⟩) fun ov s1 ⟨x1, H1, I1, r1, e1, e2⟩ => ?_) ha
  subst e1 e2
  refine thn (hie.run pins s1 σ H1 _ I1 hidx) fun iv s2 ⟨y, H2, I2, ry, F1, δ1, kd, c, a, g1, rk, rc, ea, q1⟩ => ?_
  refine thn (getI_run (Q := fun z H3 => H3 = H2 ∧ Rep φ.k F1 z a) hu I2 r1 ry g1.fh rc (.inl rk) ea fun z rz => ⟨rfl, rz⟩) fun old s3 ⟨z, H3, I3, rz, e3, rza⟩ => ?_
  subst e3
  have hm' : tM φ W m σ H3 fun yb H4 => ∃ F4 δ4 db, GI φ F4 H4 σ δ4 ∧ Sub F1 F4 ∧ Rep φ.k F4 yb db ∧ SOut φ W F4 (((opI tl kl g a db).bind fun z => (mutI (fun c => (setLDD c kd z).map fun c' => (c', .non)) i).bind fun _ => M.pure .nx) δ4) D :=
    tM_S g1 q1 fun db yb δ4 F4 H4 g4 s4 r4 q4 => ⟨F4, δ4, db, g4, s4, r4, q4⟩
  refine thn (he.run pins s3 σ H3 _ I3 hm') fun bv s4 ⟨yb, H4, I4, rb, F4, δ4, db, g4, s4', rbd, q4⟩ => ?_
  refine thn (run_opI (Q := fun z H5 => ∃ F5 δ5 zd, GI φ F5 H5 σ δ5 ∧ Sub F4 F5 ∧ Rep φ.k F5 z zd ∧ SOut φ W F5 (((mutI (fun c => (setLDD c kd zd).map fun c' => (c', .non)) i).bind fun _ => M.pure .nx) δ5) D) htl hin hr ho hg tk hK I4 rz rb g4 (rza.mono s4') rbd (q4.bind.mono (Sub.refl F4) fun zd δ5 F5 H5 g5 s5 q5 zv rzv => ⟨F5, δ5, zd, g5, s5, rzv, q5⟩)) fun nv s5 ⟨zv, H5, I5, rnv, F5, δ5, zd, g5, s5', rzd, q5⟩ => ?_
  have q6 := q5.bind (σ := σ)
  obtain ⟨ad, cc, c', e', h1, h2, h3, h4, h5⟩ := mutI_fin g5 q6
  rw [ev] at h1
  cases h1
  cases y' : setLDD cc kd zd with
  | none => rw [y'] at h4; cases h4
  | some c2 =>
    rw [y'] at h4
    cases h4
    have hset : (fun o i v H Q => rSetL o i v H Q ∨ rSetD o i v H Q) (.ref ad) y zv H5 fun H6 => D.nx σ H6 := se_any F5 H5 ad cc y kd zv zd _ g5.fh h2 h3 (.inl (rk.mono (s4'.trans s5'))) rzd y' _ fun o w => by
      obtain ⟨δ6, g6, q7⟩ := h5 o w
      exact q7 F5 _ _ g6 (Sub.refl F5)
    exact thn ((PSet.or set_list (set_dict hu)) pins s5 σ H5 (.ref ad) y zv ov iv nv _ I5 r1 ry rnv hset) fun _ s6 ⟨H6, I6, q6⟩ => ⟨σ, H6, I6, q6⟩
end
end G
set_option maxRecDepth 100000
set_option maxHeartbeats 4000000
namespace G
open PySem PySem.Spec PyProof.Rows L2
/-! ### texts: split, startswith, int -/
def splitD : D → List D → Option D
  | .str a, [.str b] => if (b.length == 0) = false ∧ a.length + 2 ≤ sizeLine then some (.lst ((Txt.split a b).map .str)) else none
  | _, _ => none
def startD : D → List D → Option D
  | .str a, [.str b] => some (.bl (Txt.startswith a b))
  | _, _ => none
def intTD : List D → Option D
  | [.int i] => some (.int i)
  | [.bl b] => some (.int (if b then 1 else 0))
  | [.str a] => if a.length ≤ 640 then (PySem.intText? a).map .int else none
  | _ => none
theorem RepL.ofStrs {k : KX} {F : Hp} : ∀ ys : List Str, RepL k F (ys.map V.str) (ys.map D.str)
  | [] => .nil
  | _ :: r => .cons .str (RepL.ofStrs r)
section
variable {k : KX}
theorem me_split : MeN k (fun x xs H Q => ∃ a b, x = .str a ∧ xs = [.str b] ∧ (b.length == 0) = false ∧ a.length + 2 ≤ sizeLine ∧ rNewStrs (Txt.split a b) H Q) splitD := fun F H v d vs ds e s r rs h Q q => by
  unfold splitD at h
  split at h
  · rename_i a b
    split at h
    · rename_i hz
      cases h
      obtain rfl := r.str
      obtain ⟨y, rfl, ry⟩ := rs.one
      obtain rfl := ry.str
      refine ⟨a, b, rfl, rfl, hz.1, hz.2, fun p hp => ?_⟩
      exact q F _ p (New.made s hp) hp (s.none hp) (.lst upd_same (RepL.ofStrs _))
    · cases h
  · cases h
theorem me_start : MeV k (fun x xs H Q => ∃ a b, x = .str a ∧ xs = [.str b] ∧ Q (.bl (Txt.startswith a b)) H) startD := fun F H v d vs ds e s r rs h Q q => by
  unfold startD at h
  split at h
  · rename_i a b
    cases h
    obtain rfl := r.str
    obtain ⟨y, rfl, ry⟩ := rs.one
    obtain rfl := ry.str
    exact ⟨a, b, rfl, rfl, q F H _ (New.refl s) .bl⟩
  · cases h
theorem cv_intT : CaV k (fun xs H Q => ((∃ i, xs = [.int i] ∧ Q (.int i) H) ∨ ∃ k, xs = [.bl k] ∧ Q (.int (if k then 1 else 0)) H) ∨ ∃ a n, xs = [.str a] ∧ PySem.intText? a = some n ∧ a.length ≤ 640 ∧ Q (.int n) H) intTD := fun F H vs ds d s rs e Q q => by
  unfold intTD at e
  split at e
  · obtain ⟨x, rfl, r⟩ := rs.one
    obtain rfl := r.int
    cases e
    exact .inl (.inl ⟨_, rfl, q F H _ (New.refl s) .int⟩)
  · obtain ⟨x, rfl, r⟩ := rs.one
    obtain rfl := r.bl
    cases e
    exact .inl (.inr ⟨_, rfl, q F H _ (New.refl s) .int⟩)
  · rename_i a
    obtain ⟨x, rfl, r⟩ := rs.one
    obtain rfl := r.str
    split at e
    · rename_i hl
      cases z : PySem.intText? a with
      | none => rw [z] at e; cases e
      | some n =>
        rw [z] at e
        cases e
        exact .inr ⟨a, n, rfl, z, hl, q F H _ (New.refl s) .int⟩
    · cases e
  · cases e
end
section
variable {X : Cx} {φ : Fx} {W : WX} {e ex : Expr} {o u : Opd} {apos cpos p pos : Pos}
theorem d_split (ho : DO X φ W ex o) (ha : DO X φ W e u) (hK : φ.k.K = X.K := by rfl) (hbase : attributeBase ex "split" X.env (eval ex X.env) = eval ex X.env := by rfl)
    (hfew : ((backTo cpos (starEach [e] X.env)).all (fun x => !x.1) && (backToKw cpos (keywordEach [] X.env)).all (fun x => x.1.isSome)
      && decide ([e].length + ([] : List Keyword).length + (if ([] : List Keyword).isEmpty then 0 else 1) < 30)) = true := by rfl)
    (hline : (apos.endLine == cpos.line) = true := by rfl) (hs : starEach [e] X.env = (false, eval e X.env) :: starEach [] X.env := by rfl) :
    DN X φ W (.Call (.Attribute ex "split" apos) [e] [] cpos) (bmM "str" splitD o [u]) :=
  PE.imp (pe_bm PySem.F.plainAttrs_str PySem.F.slot_str_split PySem.F.type_str_split mt_split ho (da_cons ha da_nil hs) hbase hfew hline hs rfl) fun _ _ _ h => tBM_N me_split hK h
theorem d_start (ho : DO X φ W ex o) (ha : DO X φ W e u) (hK : φ.k.K = X.K := by rfl) (hbase : attributeBase ex "startswith" X.env (eval ex X.env) = eval ex X.env := by rfl)
    (hfew : ((backTo cpos (starEach [e] X.env)).all (fun x => !x.1) && (backToKw cpos (keywordEach [] X.env)).all (fun x => x.1.isSome)
      && decide ([e].length + ([] : List Keyword).length + (if ([] : List Keyword).isEmpty then 0 else 1) < 30)) = true := by rfl)
    (hline : (apos.endLine == cpos.line) = true := by rfl) (hs : starEach [e] X.env = (false, eval e X.env) :: starEach [] X.env := by rfl) :
    DE X φ W (.Call (.Attribute ex "startswith" apos) [e] [] cpos) (bmM "str" startD o [u]) :=
  d_bm me_start PySem.F.plainAttrs_str PySem.F.slot_str_startswith PySem.F.type_str_startswith mt_startswith ho (da_cons ha da_nil hs) hK hbase hfew hline hs rfl
theorem d_intT (mg : X.mg "int" = none) (ha : DO X φ W e o) (gl : Gl X "int" := by rfl) (hs : starEach [e] X.env = (false, eval e X.env) :: starEach [] X.env := by rfl) :
    DE X φ W (.Call (.Name "int" p) [e] [] pos) (callM intTD [o]) := d_callT cv_intT (CallR.or call_int1 call_int_str) gl mg rfl (da_cons ha da_nil hs) (by decide) (by decide) hs rfl
end
end G
set_option maxRecDepth 100000
set_option maxHeartbeats 4000000
namespace G
open PySem PySem.Spec PyProof.Rows L2
/-! ### the facts of own operators, for a whole list of kinds -/
def tyOkL (op : Operator) (T : String) : Bool := (fastLookup T (PySem.dunder op.info.2)).isSome && (fastLookup T (dunderR op.info.2)).isSome
def tyOkR (op : Operator) (T : String) : Bool := match fastLookup T (PySem.dunder op.info.2), fastLookup T (dunderR op.info.2) with
  | some fo, some ro => !((fo.isSome && !isSeqSlot fo) || (ro.isSome && !isSeqSlot ro)) || ((T == "int" || T == "bool") && GW.decOp op)
  | _, _ => false
def kindsOf (Ts : List String) (Cs : List Nat) : List TK := Ts.map TK.t ++ Cs.map TK.c
theorem opkd_all {K : PySem.W.Frag} {k : KX} {C : Addr} {op : Operator} {Ts : List String} {Cs : List Nat} {kds : List TK} (hT : Ts.all (tyOkL op) = true) (hn : ∀ τ ∈ kds, PySem.W.notFirst K C (tkV k τ) = true) (sub : ∀ T ∈ Ts, TK.t T ∈ kds)
    (hc : ∀ n ∈ Cs, GW.noNum K (k.cm n) (PySem.dunder op.info.2) (dunderR op.info.2) = true) : ∀ τ ∈ kindsOf Ts Cs, OpKd K C (PySem.dunder op.info.2) (dunderR op.info.2) (tkV k τ) := fun τ hτ => by
  rcases List.mem_append.mp hτ with h | h
  · obtain ⟨T, hT', rfl⟩ := List.mem_map.mp h
    have z := List.all_eq_true.mp hT T hT'
    unfold tyOkL at z
    rw [Bool.and_eq_true] at z
    obtain ⟨fo, h1⟩ := Option.isSome_iff_exists.mp z.1
    obtain ⟨ro, h2⟩ := Option.isSome_iff_exists.mp z.2
    have n := hn _ (sub T hT')
    change PySem.W.notFirst K C (.type T) = true at n
    unfold PySem.W.notFirst at n
    have hne : (Value.type T == Value.ref C) = false := beq_no fun e => by cases e
    rw [hne, Bool.false_or, beq_iff_eq] at n
    exact .ty h1 h2 n
  · obtain ⟨n, hn', rfl⟩ := List.mem_map.mp h
    exact .cls (hc n hn')
theorem opkr_all {K : PySem.W.Frag} {k : KX} {C : Addr} {op : Operator} {Ts : List String} {Cs : List Nat} (hT : Ts.all (tyOkR op) = true) (hs : ∀ T ∈ Ts, PySem.W.subIn K (.ref C) (.type T) = some false)
    (hc : ∀ n ∈ Cs, GW.noNum K (k.cm n) (PySem.dunder op.info.2) (dunderR op.info.2) = true) : ∀ τ ∈ kindsOf Ts Cs, OpKr K C op τ (tkV k τ) := fun τ hτ => by
  rcases List.mem_append.mp hτ with h | h
  · obtain ⟨T, hT', rfl⟩ := List.mem_map.mp h
    have z := List.all_eq_true.mp hT T hT'
    unfold tyOkR at z
    split at z
    · rename_i fo ro h1 h2
      refine .ty h1 h2 (hs T hT') ?_
      rcases Bool.or_eq_true_iff.mp z with z | z
      · exact .inl (by
          generalize ((fo.isSome && !isSeqSlot fo) || (ro.isSome && !isSeqSlot ro)) = bb at z ⊢
          cases bb
          · rfl
          · cases z)
      · rw [Bool.and_eq_true] at z
        refine .inr ⟨?_, z.2⟩
        rcases Bool.or_eq_true_iff.mp z.1 with y | y
        · exact .inl (by simpa using y)
        · exact .inr (by simpa using y)
    · cases z
  · obtain ⟨n, hn', rfl⟩ := List.mem_map.mp h
    exact .cls (hc n hn')
/-- the fields of a def's facts -/
theorem SMet.mk' {K : PySem.W.Frag} {C f p : Addr} {m : Str} {mc : Value} {rest : List Value} (h1 : PySem.W.readsIn K C mc = true) (h2 : PySem.W.findCls K (.ref C) mc m = some (.get (.builtin "staticmethod.__get__") (.ref p) .none (.ref C))) (h3 : PySem.W.recIn K p "staticmethod" = some (.ref f :: rest))
    (h4 : PySem.W.specialIn K (.ref C) "__getattribute__" = some (some (.builtin "type.__getattribute__"))) : SMet K C m f := ⟨⟨mc, p, rest, h1, h2, h3⟩, h4⟩
theorem funD_mk {K : PySem.W.Frag} {x qual : Str} {st : Stmt} {f T : Addr} {oc kV doc pm cdv ct : Value} {od an : Option Addr} {osl : Array (Option Value)} {its : List Value} {n : Nat} {o1 : Value} {o2 : Option Addr} {o3 : Array (Option Value)} {dvs : List V}
    (lk : K.lookup f = some ⟨oc, od, .func (PySem.W.fnOf x qual (defArgs st) (defBody st) (defScope st) (.ref T) kV doc pm an cdv ct), osl⟩) (hcd : PySem.W.codeIn K cdv qual = true) (kp : PySem.W.keepIn K (.ref f) = true)
    (lT : K.lookup T = some ⟨o1, o2, .seq its.toArray n, o3⟩) (hne : dvs ≠ []) (hv : Vals dvs its) : DefD K x qual st f dvs :=
  ⟨_, ⟨oc, od, .ref T, kV, doc, pm, an, cdv, ct, osl, rfl, lk, hcd, .inr ⟨hne, T, _, its, n, rfl, lT, rfl, hv⟩, .inl rfl⟩, kp⟩
end G
namespace G
open PySem PySem.Spec PyProof.Rows L2
theorem ownL_mk {X : Cx} {k : KX} {c lv : Nat} {op : Operator} {kinds : List TK} {fn : List SD → R SD} {f : Addr} {rc : Option Value} {nm nmR : Str} (e1 : PySem.dunder op.info.2 = nm) (e2 : dunderR op.info.2 = nmR) (Gx : Gf X k lv f fn) (hr : Room lv X.A) (h1 : PySem.W.findIn X.K (.ref (k.cm c)) nm = some (some (.ref f)))
    (h2 : PySem.W.isFn X.K (.ref f) = true) (h3 : PySem.W.selfFirst X.K (k.cm c) = true) (h4 : PySem.W.findIn X.K (.ref (k.cm c)) nmR = some rc) (h5 : rc = none ∨ ∃ g : Addr, rc = some (.ref g)) (kd : ∀ τ ∈ kinds, OpKd X.K (k.cm c) (PySem.dunder op.info.2) (dunderR op.info.2) (tkV k τ)) : OwnL X k c op kinds fn := by
  subst e1 e2
  exact ⟨⟨f, lv, rc, Gx, hr, h1, h2, h3, h4, h5⟩, kd⟩
theorem ownR_mk {X : Cx} {k : KX} {c lv : Nat} {op : Operator} {kinds : List TK} {fn : List SD → R SD} {f g : Addr} {nm nmR : Str} (e1 : PySem.dunder op.info.2 = nm) (e2 : dunderR op.info.2 = nmR) (Gx : Gf X k lv f fn) (hr : Room lv X.A) (h1 : PySem.W.findIn X.K (.ref (k.cm c)) nm = some (some (.ref g)))
    (h1' : PySem.W.findIn X.K (.ref (k.cm c)) nmR = some (some (.ref f))) (h2 : PySem.W.isFn X.K (.ref f) = true) (h3 : PySem.W.selfFirst X.K (k.cm c) = true) (kd : ∀ τ ∈ kinds, OpKr X.K (k.cm c) op τ (tkV k τ)) : OwnR X k c op kinds fn := by
  subst e1 e2
  exact ⟨⟨f, g, lv, Gx, hr, h1, h1', h2, h3⟩, kd⟩
theorem noNum_cast {K : PySem.W.Frag} {D : Addr} {op : Operator} {nm nmR : Str} (e1 : PySem.dunder op.info.2 = nm) (e2 : dunderR op.info.2 = nmR) (h : GW.noNum K D nm nmR = true) : GW.noNum K D (PySem.dunder op.info.2) (dunderR op.info.2) = true := by
  rw [e1, e2]
  exact h
theorem noOne_cast {K : PySem.W.Frag} {D : Addr} {op : Operator} {nm : Str} (e1 : dunderI op.info.2 = nm) (h : GW.noOne K D nm = true) : GW.noOne K D (dunderI op.info.2) = true := by
  rw [e1]
  exact h
theorem dn_add : PySem.dunder Operator.Add.info.2 = "__add__" := by rfl
theorem dn_sub : PySem.dunder Operator.Sub.info.2 = "__sub__" := by rfl
theorem dn_mul : PySem.dunder Operator.Mult.info.2 = "__mul__" := by rfl
theorem dn_floordiv : PySem.dunder Operator.FloorDiv.info.2 = "__floordiv__" := by rfl
theorem dn_mod : PySem.dunder Operator.Mod.info.2 = "__mod__" := by rfl
theorem dn_or : PySem.dunder Operator.BitOr.info.2 = "__or__" := by rfl
theorem dn_rshift : PySem.dunder Operator.RShift.info.2 = "__rshift__" := by rfl
theorem dr_add : dunderR Operator.Add.info.2 = "__radd__" := by rfl
theorem dr_sub : dunderR Operator.Sub.info.2 = "__rsub__" := by rfl
theorem dr_mul : dunderR Operator.Mult.info.2 = "__rmul__" := by rfl
theorem dr_floordiv : dunderR Operator.FloorDiv.info.2 = "__rfloordiv__" := by rfl
theorem dr_mod : dunderR Operator.Mod.info.2 = "__rmod__" := by rfl
theorem dr_or : dunderR Operator.BitOr.info.2 = "__ror__" := by rfl
theorem dr_rshift : dunderR Operator.RShift.info.2 = "__rrshift__" := by rfl
theorem di_add : dunderI Operator.Add.info.2 = "__iadd__" := by rfl
theorem di_sub : dunderI Operator.Sub.info.2 = "__isub__" := by rfl
theorem di_mul : dunderI Operator.Mult.info.2 = "__imul__" := by rfl
theorem di_floordiv : dunderI Operator.FloorDiv.info.2 = "__ifloordiv__" := by rfl
theorem di_mod : dunderI Operator.Mod.info.2 = "__imod__" := by rfl
theorem di_or : dunderI Operator.BitOr.info.2 = "__ior__" := by rfl
theorem di_rshift : dunderI Operator.RShift.info.2 = "__irshift__" := by rfl
def ks7 : List String := ["NoneType", "bool", "int", "str", "list", "tuple", "dict"]
def ks6 : List String := ["NoneType", "bool", "int", "list", "tuple", "dict"]
theorem ksub {cs : List Nat} : ∀ T ∈ ks7, TK.t T ∈ kindsOf ks7 cs := fun T h => List.mem_append_left _ (List.mem_map_of_mem h)
theorem tL_add : ks7.all (tyOkL .Add) = true := by decide +kernel
theorem tL_sub : ks7.all (tyOkL .Sub) = true := by decide +kernel
theorem tL_mul : ks7.all (tyOkL .Mult) = true := by decide +kernel
theorem tL_floordiv : ks7.all (tyOkL .FloorDiv) = true := by decide +kernel
theorem tL_mod : ks7.all (tyOkL .Mod) = true := by decide +kernel
theorem tL_or : ks7.all (tyOkL .BitOr) = true := by decide +kernel
theorem tL_rshift : ks7.all (tyOkL .RShift) = true := by decide +kernel
theorem tR_add : ks7.all (tyOkR .Add) = true := by decide +kernel
theorem tR_sub : ks7.all (tyOkR .Sub) = true := by decide +kernel
theorem tR_mul : ks7.all (tyOkR .Mult) = true := by decide +kernel
theorem tR_floordiv : ks7.all (tyOkR .FloorDiv) = true := by decide +kernel
theorem tR_mod : ks6.all (tyOkR .Mod) = true := by decide +kernel
theorem sub6 {P : String → Prop} (h : ∀ T ∈ ks7, P T) : ∀ T ∈ ks6, P T := fun T hT => h T (by simp only [ks6, ks7, List.mem_cons] at *; rcases hT with h | h | h | h | h | h | h <;> simp [h])
end G
namespace G
open PySem PySem.Spec PyProof.Rows L2
section
variable {X : Cx} {k : KX}
theorem okK_add (hK : k.K = X.K) : OpK k (fun x y H Q => rAddG X.K x y H Q ∨ rCat x y H Q) addA := by
  rw [← hK]
  exact (ov_add.or ov_cat.v).kept
theorem okK_mul : OpK k (fun x y H Q => rMulG x y H Q ∨ rRep x y H Q) mulA := (ov_mul.or ov_rep.v).kept
def noD (_ _ : D) : Option D := none
theorem okK_none : OpK k rNone noD := fun _ _ _ _ _ _ _ _ _ _ e => by cases e
theorem opr_none {op : Operator} : OpR X (binaryOp op) rNone := fun _ _ _ _ _ _ _ _ _ _ _ _ h => h.elim
end
end G
namespace G
open PySem PySem.Spec PyProof.Rows L2
theorem noOne_of {K : PySem.W.Frag} {C : Addr} {cd : ClassData} {i : Str} (h1 : PySem.W.clsIn K C = some cd) (h2 : cd.mro = [.ref C, .type "object"]) (h3 : PySem.W.findIn K (.ref C) i = some none) (h4 : fastLookup "object" i = some none) : GW.noOne K C i = true := by
  unfold GW.noOne
  rw [h1]
  show (cd.mro.all fun c => PySem.W.findIn K c i == some none) = true
  rw [h2]
  have h5 : PySem.W.findIn K (.type "object") i = some none := h4
  rw [List.all_cons, List.all_cons, List.all_nil, h3, h5]
  rfl
theorem noNum_of {K : PySem.W.Frag} {C : Addr} {cd : ClassData} {i j : Str} (h1 : PySem.W.clsIn K C = some cd) (h2 : cd.mro = [.ref C, .type "object"]) (h3 : PySem.W.findIn K (.ref C) i = some none) (h3' : PySem.W.findIn K (.ref C) j = some none) (h4 : fastLookup "object" i = some none) (h4' : fastLookup "object" j = some none) : GW.noNum K C i j = true := by
  unfold GW.noNum
  rw [h1]
  show (!cd.mro.isEmpty && cd.mro.all fun c => (match c with | .ref _ => true | .type _ => true | _ => false) && (PySem.W.findIn K c i == some none && PySem.W.findIn K c j == some none)) = true
  rw [h2]
  have h5 : PySem.W.findIn K (.type "object") i = some none := h4
  have h6 : PySem.W.findIn K (.type "object") j = some none := h4'
  rw [List.all_cons, List.all_cons, List.all_nil, h3, h5, h3', h6]
  rfl
/-- turns enough for any while of these programs -/
@[irreducible] def fuelN : Nat := 2 ^ 100000
theorem lt_fuel {n : Nat} (h : n < 2 ^ 20000) : n < fuelN := by
  unfold fuelN
  exact Nat.lt_of_lt_of_le h (Nat.pow_le_pow_right (by decide) (by decide))
end G
set_option maxRecDepth 100000
set_option maxHeartbeats 4000000
namespace GW
open PySem PySem.Spec PySem.Calls PyProof.Rows PySem.W
section
variable {prog : Program} {w : World} {A : Around} {E : Value → Shared → Prop} {s : Shared} {x C f g : Addr} {ob : Obj} {i : Int} {t : Tok} {b : Bool} {K : Frag} {ox : Obj} {od : Option Obj}
theorem decl_eq {Q : Option Value → Shared → Prop} (ho : s.heap.get? x = some ob) (hp : ∀ v, ob.data ≠ .prim v) (h : Q none s) :
    wpAny (model prog w) A (tryCompare (.int i t) "__eq__" (.ref x)) Q E s :=
  wpAny_tryCompare_declines (typeIs_int _ _ _) F.slot_int_eq (wpAny_call_entry F.slot_int_eq (typeIs_int _ _ _) F.entry_int_eq (intBin_ref ⟨_, rfl⟩ ho hp ⟨_, rfl, rfl, h⟩) (F.args_int_eq_2 _ _))
theorem decl_ne {Q : Option Value → Shared → Prop} (ho : s.heap.get? x = some ob) (hp : ∀ v, ob.data ≠ .prim v) (h : Q none s) :
    wpAny (model prog w) A (tryCompare (.int i t) "__ne__" (.ref x)) Q E s :=
  wpAny_tryCompare_declines (typeIs_int _ _ _) F.slot_int_ne (wpAny_call_entry F.slot_int_ne (typeIs_int _ _ _) F.entry_int_ne (intBin_ref ⟨_, rfl⟩ ho hp ⟨_, rfl, rfl, h⟩) (F.args_int_ne_2 _ _))
/-- i == x, the class has an own == -/
theorem eq_R {Q : Value → Shared → Prop} (hu : A.units < cLine) (X : K.In s.heap) (I : InstAt s.heap x ox C od) (ho : s.heap.get? x = some ob) (hp : ∀ v, ob.data ≠ .prim v) (hsub : subIn K (.ref C) (.type "int") = some false)
    (hs : findIn K (.ref C) "__eq__" = some (some (.ref f))) (hf : isFn K (.ref f) = true)
    (h : wpAny (model prog w) A (call (.ref f) [.ref x, .int i t]) (PySem.W.CmpBack Q) E s) : wpAny (model prog w) A (richCompare .Eq (.int i t) (.ref x)) Q E s := by
  have one : wpAny (model prog w) A (tryCompare (.ref x) "__eq__" (.int i t)) (fun r s' => ∃ v, r = some v ∧ Q v s') E s := by
    unfold tryCompare
    refine wpAny_bind (ifBound_K X I hs hf (wpAny_mono h (fun v s' hv => ?_) fun _ _ e => e))
    cases v <;> first | exact hv.elim | exact wpAny_pure ⟨_, rfl, hv⟩
  unfold richCompare
  refine wpAny_holding (wpAny_bind (wpAny_cRoomFor hu ?_))
  have ot : oneThing? .Eq (.int i t) (.ref x) = none := rfl
  simp only [ot]
  have L2 : Looks (model prog w) s.heap (typeOf (.int i t)) (.type "int") := .of_pure rfl
  refine wpAny_bind (L2.here (wpAny_bind (I.type.here ?_)))
  have hne : (Value.type "int" != Value.ref C) = true := by rw [bne_iff_ne]; intro q; cases q
  simp only [hne, if_true]
  refine wpAny_bind ((looks_subIn X hsub).here ?_)
  simp only [Bool.false_eq_true, if_false]
  refine wpAny_bind (decl_eq ho hp ?_)
  simp only [Bool.not_false, if_true]
  refine wpAny_bind (wpAny_mono one (fun r s' z => ?_) fun _ _ e => e)
  obtain ⟨v, rfl, hq⟩ := z
  exact wpAny_pure hq
/-- i != x, the class has an own == alone -/
theorem ne_R {Q : Value → Shared → Prop} (hu : A.units + 1 < cLine) (X : K.In s.heap) (I : InstAt s.heap x ox C od) (ho : s.heap.get? x = some ob) (hp : ∀ v, ob.data ≠ .prim v) (hsub : subIn K (.ref C) (.type "int") = some false)
    (hs : findIn K (.ref C) "__ne__" = some (some (.builtin "object.__ne__"))) (hm : mroIn K C (.type "object") = some true) (he : findIn K (.ref C) "__eq__" = some (some (.ref f))) (hf : isFn K (.ref f) = true)
    (h : wpAny (model prog w) A.in1 (call (.ref f) [.ref x, .int i t]) (fun v s' => ∃ c, v = .bool c ∧ Q (.bool (!c)) s') E s) : wpAny (model prog w) A (richCompare .NotEq (.int i t) (.ref x)) Q E s := by
  have one : wpAny (model prog w) A (tryCompare (.ref x) "__ne__" (.int i t)) (fun r s' => ∃ v, r = some v ∧ Q v s') E s := by
    unfold tryCompare
    refine wpAny_bind (ifBoundB X I hs PySem.F.slot_object_ne.bind ?_)
    refine wpAny_call (codeAny_call_builtin PySem.F.slot_object_ne.plain PySem.F.cmpEntry_ne (check_slot (i := "object.__ne__") (owner := "object") (n := "__ne__") (by decide +kernel) (by decide +kernel) (I.type.andThen (looks_mroIn X hm)) (PySem.F.cmpArgs_ne _ _) ?_))
    unfold Builtin.«object.__ne__»
    refine wpAny_bind (m := slotArgs "__ne__" 1 _) (wpAny_pure ?_)
    refine wpAny_bind (m := cRoomFor _ _) (wpAny_cRoomFor (show A.in1.units < cLine from hu) ?_)
    refine wpAny_bind (m := callSpecialIfBound? (.ref x) (Str.ofString "__eq__") _) (ifBound_K X I he hf (wpAny_mono h (fun r s' hq => ?_) fun _ _ y => y))
    obtain ⟨c, rfl, hq⟩ := hq
    refine wpAny_bind (m := truthy (.bool c)) (wpAny_truthy_bool ?_)
    exact wpAny_pure (wpAny_pure ⟨_, rfl, hq⟩)
  unfold richCompare
  refine wpAny_holding (wpAny_bind (wpAny_cRoomFor (Nat.lt_of_succ_lt hu) ?_))
  have ot : oneThing? .NotEq (.int i t) (.ref x) = none := rfl
  simp only [ot]
  have L2 : Looks (model prog w) s.heap (typeOf (.int i t)) (.type "int") := .of_pure rfl
  refine wpAny_bind (L2.here (wpAny_bind (I.type.here ?_)))
  have hne : (Value.type "int" != Value.ref C) = true := by rw [bne_iff_ne]; intro q; cases q
  simp only [hne, if_true]
  refine wpAny_bind ((looks_subIn X hsub).here ?_)
  simp only [Bool.false_eq_true, if_false]
  refine wpAny_bind (decl_ne ho hp ?_)
  simp only [Bool.not_false, if_true]
  refine wpAny_bind (wpAny_mono one (fun r s' z => ?_) fun _ _ e => e)
  obtain ⟨v, rfl, hq⟩ := z
  exact wpAny_pure hq
end
end GW
namespace G
open PySem PySem.Spec PyProof.Rows L2
/-! ### int == instance -/
def eqR (tab : Tab) (g : D → D → Option D) (a b : D) : Option D := match a, b with
  | .int i, .obj c fs => match tab.lookup c with
    | some fn => fnV fn [.obj c fs, .int i]
    | none => none
  | a, b => g a b
def neR (tab : Tab) (g : D → D → Option D) (a b : D) : Option D := match a, b with
  | .int i, .obj c fs => match tab.lookup c with
    | some fn => (fnV fn [.obj c fs, .int i]).bind notD
    | none => none
  | a, b => g a b
section
variable {X : Cx} {k : KX} {kinds : List TK} {tab : Tab}
def SubI (X : Cx) (k : KX) (tab : Tab) : Prop := ∀ c fn, tab.lookup c = some fn → PySem.W.subIn X.K (.ref (k.cm c)) (.type "int") = some false
theorem SubI.nil : SubI X k [] := fun _ _ h => by cases h
theorem SubI.cons {c : Nat} {fn : List SD → R SD} (h : PySem.W.subIn X.K (.ref (k.cm c)) (.type "int") = some false) (r : SubI X k tab) : SubI X k ((c, fn) :: tab) := fun c' a' e => by
  rw [List.lookup_cons] at e
  cases z : c' == c with
  | true =>
    rw [z] at e
    rw [beq_iff_eq.mp z]
    exact h
  | false =>
    rw [z] at e
    exact r c' a' e
def rEqR (X : Cx) (k : KX) : R2 := fun x y H Q => ∃ i a c dx fs f lv fn, x = .int i ∧ y = .ref a ∧ H a = some (.ins (k.cm c) dx fs) ∧ PySem.W.subIn X.K (.ref (k.cm c)) (.type "int") = some false ∧ Gf X k lv f fn ∧ Room (lv + 2) X.A ∧
  PySem.W.findIn X.K (.ref (k.cm c)) "__eq__" = some (some (.ref f)) ∧ PySem.W.isFn X.K (.ref f) = true ∧ FD k fn [y, x] H Q fun _ _ _ => False
def rNeR (X : Cx) (k : KX) : R2 := fun x y H Q => ∃ i a c dx fs f lv fn, x = .int i ∧ y = .ref a ∧ H a = some (.ins (k.cm c) dx fs) ∧ PySem.W.subIn X.K (.ref (k.cm c)) (.type "int") = some false ∧ Gf X k lv f fn ∧ Room (lv + 2) X.A ∧
  PySem.W.findIn X.K (.ref (k.cm c)) "__eq__" = some (some (.ref f)) ∧ PySem.W.isFn X.K (.ref f) = true ∧ NeOp X k c ∧ FD k fn [y, x] H (fun v H' => ∃ b, v = .bl b ∧ Q (.bl (!b)) H') fun _ _ _ => False
theorem op_eqR (hg : X.A.guards = some []) : OpR X (compareOp .Eq) (rEqR X k) := by
  intro pins s σ H x y v u Q I rx ry h
  obtain ⟨i, a, c, dx, fs, f, lv, fn, rfl, rfl, ha, hsub, Gx, hr, hs, hf, q⟩ := h
  obtain ⟨t, rfl⟩ := rx
  obtain rfl : u = Value.ref a := ry
  obtain ⟨mA, J, hdat⟩ := ins_get I.hok ha
  have hob : s.heap.get? a = some (PySem.W.instObj (k.cm c) dx) := J.1
  obtain ⟨od, J, _⟩ := J.look
  show wpAny _ _ (richCompare .Eq _ _) _ _ _
  refine GW.eq_R hr.units0 I.kIn J hob (fun v e => by cases e) hsub hs hf ?_
  refine wpAny_mono (Gx.runV (Room.mono hr (Nat.le_add_right _ 2)) hg rfl I (.cons (show RelV (V.ref a) (Value.ref a) from rfl) (.cons (show RelV (V.int i) (Value.int i t) from ⟨t, rfl⟩) .nil)) q) (fun w s' z => ?_) fun _ _ x => x
  obtain ⟨z', H', I', rz, qz⟩ := z
  exact cmpback rz ⟨z', H', I', rz, qz⟩
theorem op_neR (hg : X.A.guards = some []) (hu : X.A.units + 1 < cLine) : OpR X (compareOp .NotEq) (rNeR X k) := by
  intro pins s σ H x y v u Q I rx ry h
  obtain ⟨i, a, c, dx, fs, f, lv, fn, rfl, rfl, ha, hsub, Gx, hr, hs, hf, ne, q⟩ := h
  obtain ⟨t, rfl⟩ := rx
  obtain rfl : u = Value.ref a := ry
  obtain ⟨mA, J, hdat⟩ := ins_get I.hok ha
  have hob : s.heap.get? a = some (PySem.W.instObj (k.cm c) dx) := J.1
  obtain ⟨od, J, _⟩ := J.look
  show wpAny _ _ (richCompare .NotEq _ _) _ _ _
  refine GW.ne_R hu I.kIn J hob (fun v e => by cases e) hsub ne.ne ne.ob hs hf ?_
  refine wpAny_mono (Gx.runV (A := X.A.in1) (Room.mono hr.in1 (Nat.le_succ _)) hg rfl I (.cons (show RelV (V.ref a) (Value.ref a) from rfl) (.cons (show RelV (V.int i) (Value.int i t) from ⟨t, rfl⟩) .nil)) q) (fun w s' z => ?_) fun _ _ x => x
  obtain ⟨z', H', I', rz, b, rfl, qz⟩ := z
  cases rz
  exact ⟨b, rfl, .bl (!b), H', I', rfl, qz⟩
theorem ok_eqR {r : R2} {g : D → D → Option D} (ht : OwnOps X k "__eq__" kinds tab) (hb : SubI X k tab) (hg : OpK k r g) : OpK k (fun x y H Q => rEqR X k x y H Q ∨ r x y H Q) (eqR tab g) := fun F H x y a b d s ra rb e Q q => by
  unfold eqR at e
  split at e
  · rename_i i c fs
    refine .inl ?_
    cases z : tab.lookup c with
    | none => rw [z] at e; cases e
    | some fn =>
      rw [z] at e
      obtain ⟨⟨f, lv, Gx, hr, hs, hf⟩, kd⟩ := ht c fn z
      cases ra
      cases rb with
      | @obj aa _ dx fvs _ hH rf =>
        exact ⟨i, aa, c, dx, fvs, f, lv, fn, rfl, rfl, s _ _ hH, hb c fn z, Gx, hr, hs, hf, FD.ofV s (.cons (.obj hH rf) (.cons .int .nil)) e q⟩
  · exact .inr (hg F H x y a b d s ra rb e Q q)
theorem ok_neR {r : R2} {g : D → D → Option D} (ht : OwnOps X k "__eq__" kinds tab) (hb : SubI X k tab) (hne : ∀ c fn, tab.lookup c = some fn → NeOp X k c) (hg : OpK k r g) : OpK k (fun x y H Q => rNeR X k x y H Q ∨ r x y H Q) (neR tab g) := fun F H x y a b d s ra rb e Q q => by
  unfold neR at e
  split at e
  · rename_i i c fs
    refine .inl ?_
    cases z : tab.lookup c with
    | none => rw [z] at e; cases e
    | some fn =>
      rw [z] at e
      dsimp only at e
      obtain ⟨⟨f, lv, Gx, hr, hs, hf⟩, kd⟩ := ht c fn z
      cases ra
      cases rb with
      | @obj aa _ dx fvs _ hH rf =>
        cases z4 : fnV fn [.obj c fs, .int i] with
        | none => rw [z4] at e; cases e
        | some d0 =>
          rw [z4] at e
          change notD d0 = some d at e
          cases d0 with
          | bl bb =>
            cases e
            exact ⟨i, aa, c, dx, fvs, f, lv, fn, rfl, rfl, s _ _ hH, hb c fn z, Gx, hr, hs, hf, hne c fn z, FD.ofV s (.cons (.obj hH rf) (.cons .int .nil)) z4 fun F' H' v n rv => by
              cases rv
              exact ⟨bb, rfl, q F' H' _ n .bl⟩⟩
          | _ => cases e
  · exact .inr (hg F H x y a b d s ra rb e Q q)
end
end G
set_option maxRecDepth 100000
set_option maxHeartbeats 4000000
namespace K11
open PySem PySem.Spec PyProof.Rows L2 G
def topS (i : Nat) : Stmt := PySem.Challenge.pw_evenloads_k11_whole_ratios_by_own_fracti.main.body.getD i (.Pass ⟨0, 0, 0, 0⟩)
def clsS (i j : Nat) : Stmt := match topS i with
  | .ClassDef _ _ _ body _ _ _ _ _ _ _ => body.getD j (.Pass ⟨0, 0, 0, 0⟩)
  | s => s
def kds : List TK := kindsOf ks7 [1]
def isaL : List ((TyN × TyN) × Bool) := [(((.inr "NoneType"), (.inl 1)), false), (((.inr "bool"), (.inl 1)), false), (((.inr "int"), (.inl 1)), false), (((.inr "str"), (.inl 1)), false), (((.inr "list"), (.inl 1)), false), (((.inr "tuple"), (.inl 1)), false), (((.inr "dict"), (.inl 1)), false), (((.inl 1), (.inl 1)), true), (((.inr "NoneType"), (.inr "bool")), false), (((.inr "bool"), (.inr "bool")), true), (((.inr "int"), (.inr "bool")), false), (((.inr "str"), (.inr "bool")), false), (((.inr "list"), (.inr "bool")), false), (((.inr "tuple"), (.inr "bool")), false), (((.inr "dict"), (.inr "bool")), false), (((.inl 1), (.inr "bool")), false), (((.inr "NoneType"), (.inr "int")), false), (((.inr "bool"), (.inr "int")), true), (((.inr "int"), (.inr "int")), true), (((.inr "str"), (.inr "int")), false), (((.inr "list"), (.inr "int")), false), (((.inr "tuple"), (.inr "int")), false), (((.inr "dict"), (.inr "int")), false), (((.inl 1), (.inr "int")), false), (((.inr "NoneType"), (.inr "str")), false), (((.inr "bool"), (.inr "str")), false), (((.inr "int"), (.inr "str")), false), (((.inr "str"), (.inr "str")), true), (((.inr "list"), (.inr "str")), false), (((.inr "tuple"), (.inr "str")), false), (((.inr "dict"), (.inr "str")), false), (((.inl 1), (.inr "str")), false)]
def cfg : Cfg := cfgOf isaL [1]
/-! _law_frac -/
abbrev s_frac : Stmt := topS 17
theorem sc_frac : FnScope ["_law_up", "_law_down", "_law_this", "_law_mate"] ["_law_up", "_law_down"] (defScope s_frac) := ⟨rfl, rfl, rfl, by decide +kernel, rfl, by decide +kernel, by decide +kernel⟩
def m_frac : M Fl :=
  (seqS (parS [(false, (callM absD [(.s 0)])), (false, (callM absD [(.s 1)]))] [2, 3])
    (seqS (whileS fuelN (testM (binM gtD (.s 3) (.m (M.pure (.int 0)))))
    (parS [(false, (getV 3)), (false, (binM subD (.s 2) (.m (binM mulA (.m (binM fdivD (.s 2) (.s 3))) (.s 3)))))] [2, 3]) passS)
    (seqS (iffS (testM (binM ltD (.s 1) (.m (M.pure (.int 0)))))
    (parS [(false, (binM subD (.m (M.pure (.int 0))) (.s 0))), (false, (binM subD (.m (M.pure (.int 0))) (.s 1)))] [0, 1])
    passS)
    (retS (tupM [(binM fdivD (.s 0) (.m (callM maxD [(.m (M.pure (.int 1))), (.s 2)]))), (binM fdivD (.s 1) (.m (callM maxD [(.m (M.pure (.int 1))), (.s 2)])))])))))
def f_frac : List SD → R SD := runF 2 4 m_frac
/-! _law_draw -/
abbrev s_draw : Stmt := topS 15
theorem sc_draw : FnScope ["_law_pot_here", "_law_size", "_law_digit"] ["_law_pot_here", "_law_size"] (defScope s_draw) := ⟨rfl, rfl, rfl, by decide +kernel, rfl, by decide +kernel, by decide +kernel⟩
def m_draw : M Fl :=
  (seqS (iffS (testM (binM gtD (.m (binM ixD (.s 0) (.m (M.pure (.int 0))))) (.m (M.pure (.int 0)))))
    (seqS (asgS (callM divmodD [(.m (binM ixD (.s 0) (.m (M.pure (.int 0))))), (.s 1)]) (gTupM 2 (gsCons (subT setLDD 0 (.m (M.pure (.int 0)))) (gsCons (storeM 2) gsNil))))
    (retV 2))
    passS)
    (seqS (asgS (binM modD (.m (callM intD [(.m (binM addA (.m (binM mulA (.m (binM ixD (.s 0) (.m (M.pure (.int 1))))) (.m (M.pure (.int 48271))))) (.m (M.pure (.int 12161)))))])) (.m (M.pure (.int 2147483587)))) (subT setLDD 0 (.m (M.pure (.int 1)))))
    (retS (binM modD (.m (callM intD [(.m (binM fdivD (.m (binM modD (.m (callM intD [(.m (binM mulA (.m (binM ixD (.s 0) (.m (M.pure (.int 1))))) (.m (binM ixD (.s 0) (.m (M.pure (.int 1)))))))])) (.m (M.pure (.int 2147483549))))) (.m (M.pure (.int 13)))))])) (.s 1)))))
def f_draw : List SD → R SD := runF 2 3 m_draw
/-! _law_pick -/
abbrev s_pick : Stmt := topS 16
theorem sc_pick : FnScope ["_law_pot_here", "_law_some"] ["_law_pot_here", "_law_some"] (defScope s_pick) := ⟨rfl, rfl, rfl, by decide +kernel, rfl, by decide +kernel, by decide +kernel⟩
def m_pick : M Fl :=
  (retS (binM ixD (.s 1) (.m (keptR (callS f_draw [(.s 0), (.m (callM lenD [(.s 1)]))])))))
def f_pick : List SD → R SD := runF 2 2 m_pick
/-! _law_drawn -/
abbrev s_drawn : Stmt := topS 18
theorem sc_drawn : FnScope ["_law_pot_here", "_law_far", "_law_deep"] ["_law_pot_here"] (defScope s_drawn) := ⟨rfl, rfl, rfl, by decide +kernel, rfl, by decide +kernel, by decide +kernel⟩
def m_drawn : M Fl :=
  (seqS (setN 1 (lstM [(M.pure (.int 0)), (binM subD (.m (keptR (callS f_draw [(.s 0), (.m (M.pure (.int 13)))]))) (.m (M.pure (.int 6)))), (binM subD (.m (keptR (callS f_draw [(.s 0), (.m (M.pure (.int 2001)))]))) (.m (M.pure (.int 1000)))), (binM subD (.m (keptR (callS f_draw [(.s 0), (.m (binM powD (.m (M.pure (.int 10))) (.m (M.pure (.int 12)))))]))) (.m (binM mulA (.m (M.pure (.int 5))) (.m (binM powD (.m (M.pure (.int 10))) (.m (M.pure (.int 11))))))))]))
    (seqS (asgS (ifM (testM (binM gtD (.m (binM modD (.m (callM intD [(.m (binM ixD (.s 1) (.m (M.pure (.int 3)))))])) (.m (M.pure (.int 3))))) (.m (M.pure (.int 0))))) (binM ixD (.s 1) (.m (M.pure (.int 3)))) (binM addA (.m (binM mulA (.m (binM ixD (.s 1) (.m (M.pure (.int 3))))) (.m (binM powD (.m (M.pure (.int 10))) (.m (M.pure (.int 17))))))) (.m (M.pure (.int 7))))) (subT setLDD 1 (.m (M.pure (.int 3)))))
    (seqS (setS 2 (lstM [(M.pure (.int 1)), (M.pure (.int 1)), (binM addA (.m (M.pure (.int 1))) (.m (keptR (callS f_draw [(.s 0), (.m (M.pure (.int 12)))])))), (binM addA (.m (M.pure (.int 1))) (.m (keptR (callS f_draw [(.s 0), (.m (M.pure (.int 60)))])))), (binM addA (.m (M.pure (.int 1))) (.m (keptR (callS f_draw [(.s 0), (.m (binM powD (.m (M.pure (.int 10))) (.m (M.pure (.int 9)))))]))))]))
    (retS (keptR (callS f_frac [(.m (keptR (callS f_pick [(.s 0), (.s 1)]))), (.m (keptR (callS f_pick [(.s 0), (.m (getV 2))])))]))))))
def f_drawn : List SD → R SD := runF 1 3 m_drawn
/-! common_divisor -/
abbrev s_common_divisor : Stmt := topS 9
theorem sc_common_divisor : FnScope ["one", "other"] ["one", "other"] (defScope s_common_divisor) := ⟨rfl, rfl, rfl, by decide +kernel, rfl, by decide +kernel, by decide +kernel⟩
def m_common_divisor : M Fl :=
  (seqS (whileS fuelN (testM (binM gtD (.s 1) (.m (M.pure (.int 0)))))
    (parS [(false, (getV 1)), (false, (binM modD (.m (callM intD [(.s 0)])) (.s 1)))] [0, 1]) passS)
    (retV 0))
def f_common_divisor : List SD → R SD := runF 2 2 m_common_divisor
/-! is_integer -/
abbrev s_is_integer : Stmt := topS 1
theorem sc_is_integer : FnScope ["value"] ["value"] (defScope s_is_integer) := ⟨rfl, rfl, rfl, by decide +kernel, rfl, by decide +kernel, by decide +kernel⟩
def m_is_integer : M Fl :=
  (retS (andV (callM (isinD cfg) [(.s 0), (.m (M.pure (.ty "int")))]) (notV (.m (callM (isinD cfg) [(.s 0), (.m (M.pure (.ty "bool")))])))))
def f_is_integer : List SD → R SD := runF 1 1 m_is_integer
/-! Ratio.__init__ -/
abbrev s_Ratio_init : Stmt := clsS 12 0
theorem sc_Ratio_init : FnScope ["self", "top", "bottom", "divisor"] ["self", "top", "bottom"] (defScope s_Ratio_init) := ⟨rfl, rfl, rfl, by decide +kernel, rfl, by decide +kernel, by decide +kernel⟩
def m_Ratio_init : M Fl :=
  (seqS (iffS (G.notM (truthM (.m (keptR (callS f_is_integer [(.m (getV 1))])))))
    badM
    passS)
    (seqS (iffS (G.orM (G.notM (truthM (.m (keptR (callS f_is_integer [(.m (getV 2))]))))) (testM (binM eqD (.s 2) (.m (M.pure (.int 0))))))
    badM
    passS)
    (seqS (setS 3 (keptR (callS f_common_divisor [(.m (callM absD [(.s 1)])), (.m (callM absD [(.s 2)]))])))
    (seqS (iffS (testM (binM ltD (.s 2) (.m (M.pure (.int 0)))))
    (setS 3 (binM subD (.m (M.pure (.int 0))) (.s 3)))
    passS)
    (seqS (fldS [1] "own_top" 0 (binM fdivD (.s 1) (.s 3)))
    (fldS [1] "own_bottom" 0 (binM fdivD (.s 2) (.s 3))))))))
def f_Ratio_init : List SD → R SD := runF 3 4 m_Ratio_init
/-! Ratio.__neg__ -/
abbrev s_Ratio_neg : Stmt := clsS 12 15
theorem sc_Ratio_neg : FnScope ["self"] ["self"] (defScope s_Ratio_neg) := ⟨rfl, rfl, rfl, by decide +kernel, rfl, by decide +kernel, by decide +kernel⟩
def m_Ratio_neg : M Fl :=
  (retS (ownR (makeKS 1 f_Ratio_init [0, 1] [.int 1] ([(.m (binM subD (.m (M.pure (.int 0))) (.m (attrM "own_top" [(1, .fld)] (.s 0))))), (.m (attrM "own_bottom" [(1, .fld)] (.s 0)))] ++ []))))
def f_Ratio_neg : List SD → R SD := runF 1 1 m_Ratio_neg
/-! Ratio.__str__ -/
abbrev s_Ratio_str : Stmt := clsS 12 22
theorem sc_Ratio_str : FnScope ["self"] ["self"] (defScope s_Ratio_str) := ⟨rfl, rfl, rfl, by decide +kernel, rfl, by decide +kernel, by decide +kernel⟩
def m_Ratio_str : M Fl :=
  (seqS (iffS (testM (binM eqD (.m (attrM "own_bottom" [(1, .fld)] (.s 0))) (.m (M.pure (.int 1)))))
    (retS (callKM (strD []) [(attrM "own_top" [(1, .fld)] (.s 0))]))
    passS)
    (retS (joinM [(unK fmtD (attrM "own_top" [(1, .fld)] (.s 0))), (M.pure (.str "/")), (unK fmtD (attrM "own_bottom" [(1, .fld)] (.s 0)))] Str.empty)))
def f_Ratio_str : List SD → R SD := runF 1 1 m_Ratio_str
/-! are_figures -/
abbrev s_are_figures : Stmt := topS 10
theorem sc_are_figures : FnScope ["text", "sign"] ["text"] (defScope s_are_figures) := ⟨rfl, rfl, rfl, by decide +kernel, rfl, by decide +kernel, by decide +kernel⟩
def m_are_figures : M Fl :=
  (retS (andV (binM neD (.s 0) (.m (M.pure (.str "")))) (callM allD [(.m (lcM [1] (itM (getV 0)) (storeM 1) (M.pure true) (binM inD (.s 1) (.m (M.pure (.str "0123456789"))))))])))
def f_are_figures : List SD → R SD := runF 1 2 m_are_figures
/-! Ratio.read -/
abbrev s_Ratio_read : Stmt := clsS 12 2
theorem sc_Ratio_read : FnScope ["text", "figures", "parts", "found", "part"] ["text"] (defScope s_Ratio_read) := ⟨rfl, rfl, rfl, by decide +kernel, rfl, by decide +kernel, by decide +kernel⟩
def m_Ratio_read : M Fl :=
  (seqS (iffS (G.notM (truthM (.m (callM (isinD cfg) [(.s 0), (.m (M.pure (.ty "str")))]))))
    badM
    passS)
    (seqS (setS 1 (ifM (truthM (.m (bmM "str" startD (.s 0) [(.m (M.pure (.str "-")))]))) (slM slD (.s 0) (some (.m (M.pure (.int 1)))) none) (getV 0)))
    (seqS (setS 2 (bmM "str" splitD (.s 1) [(.m (M.pure (.str "/")))]))
    (seqS (iffS (G.orM (testM (binM gtD (.m (callM lenD [(.s 2)])) (.m (M.pure (.int 2))))) (G.orM (G.notM (truthM (.m (callM allD [(.m (lcM [4] (itM (getV 2)) (storeM 4) (M.pure true) (keptR (callS f_are_figures [(.m (getV 4))]))))])))) (G.andM (testM (binM eqD (.m (callM intTD [(.m (binM ixD (.s 2) (.m (unM negD (.m (M.pure (.int 1)))))))])) (.m (M.pure (.int 0))))) (testM (binM eqD (.m (callM lenD [(.s 2)])) (.m (M.pure (.int 2))))))))
    badM
    passS)
    (seqS (setS 3 (ownR (makeKS 1 f_Ratio_init [0, 1] [.int 1] ([(.m (callM intTD [(.m (binM ixD (.s 2) (.m (M.pure (.int 0)))))])), (.m (ifM (testM (binM eqD (.m (callM lenD [(.s 2)])) (.m (M.pure (.int 2))))) (callM intTD [(.m (binM ixD (.s 2) (.m (M.pure (.int 1)))))]) (M.pure (.int 1))))] ++ []))))
    (seqS (setS 3 (ifM (truthM (.m (bmM "str" startD (.s 0) [(.m (M.pure (.str "-")))]))) (unK (ownU [(1, f_Ratio_neg)] negD) (getV 3)) (getV 3)))
    (seqS (iffS (testM (binM neD (.m (callKM (strD [(1, f_Ratio_str)]) [(getV 3)])) (.s 0)))
    badM
    passS)
    (retV 3))))))))
def f_Ratio_read : List SD → R SD := runF 1 5 m_Ratio_read
/-! parts_of -/
abbrev s_parts_of : Stmt := topS 11
theorem sc_parts_of : FnScope ["value"] ["value"] (defScope s_parts_of) := ⟨rfl, rfl, rfl, by decide +kernel, rfl, by decide +kernel, by decide +kernel⟩
def m_parts_of : M Fl :=
  (seqS (iffS (truthM (.m (callM (isinD cfg) [(.s 0), (.m (M.pure (.cl 1)))])))
    (retS (tupM [(attrM "own_top" [(1, .fld)] (.s 0)), (attrM "own_bottom" [(1, .fld)] (.s 0))]))
    passS)
    (seqS (iffS (G.notM (truthM (.m (keptR (callS f_is_integer [(.m (getV 0))])))))
    badM
    passS)
    (retS (tupM [(getV 0), (M.pure (.int 1))]))))
def f_parts_of : List SD → R SD := runF 1 1 m_parts_of
/-! Ratio.of -/
abbrev s_Ratio_of : Stmt := clsS 12 1
theorem sc_Ratio_of : FnScope ["value", "top", "bottom"] ["value"] (defScope s_Ratio_of) := ⟨rfl, rfl, rfl, by decide +kernel, rfl, by decide +kernel, by decide +kernel⟩
def m_Ratio_of : M Fl :=
  (seqS (asgS (keptR (callS f_parts_of [(.m (getV 0))])) (gTupM 2 (gsCons (storeM 1) (gsCons (storeM 2) gsNil))))
    (retS (ownR (makeKS 1 f_Ratio_init [0, 1] [.int 1] ([(.m (getV 1)), (.m (getV 2))] ++ [])))))
def f_Ratio_of : List SD → R SD := runF 1 3 m_Ratio_of
/-! _law_text -/
abbrev s_text : Stmt := topS 19
theorem sc_text : FnScope ["_law_some"] ["_law_some"] (defScope s_text) := ⟨rfl, rfl, rfl, by decide +kernel, rfl, by decide +kernel, by decide +kernel⟩
def m_text : M Fl :=
  (retS (ifM (testM (binM eqD (.m (binM ixD (.s 0) (.m (M.pure (.int 1))))) (.m (M.pure (.int 1))))) (callKM (strD []) [(binM ixD (.s 0) (.m (M.pure (.int 0))))]) (binM addA (.m (binM addA (.m (callKM (strD []) [(binM ixD (.s 0) (.m (M.pure (.int 0))))])) (.m (M.pure (.str "/"))))) (.m (callKM (strD []) [(binM ixD (.s 0) (.m (M.pure (.int 1))))])))))
def f_text : List SD → R SD := runF 1 1 m_text
/-! _law_made -/
abbrev s_made : Stmt := topS 20
theorem sc_made : FnScope ["_law_pot_here", "_law_some", "_law_scale", "_law_way"] ["_law_pot_here", "_law_some"] (defScope s_made) := ⟨rfl, rfl, rfl, by decide +kernel, rfl, by decide +kernel, by decide +kernel⟩
def m_made : M Fl :=
  (seqS (parS [(false, (keptR (callS f_pick [(.s 0), (.m (lstM [(M.pure (.int 1)), (M.pure (.int 2)), (M.pure (.int 7)), (binM subD (.m (M.pure (.int 0))) (.m (M.pure (.int 1)))), (binM subD (.m (M.pure (.int 0))) (.m (M.pure (.int 6))))]))]))), (false, (keptR (callS f_draw [(.s 0), (.m (M.pure (.int 6)))])))] [2, 3])
    (seqS (iffS (testM (binM eqD (.s 3) (.m (M.pure (.int 0)))))
    (retS (keptR (callKS f_Ratio_read [0] [] ([(.m (keptR (callS f_text [(.m (getV 1))])))] ++ []))))
    passS)
    (seqS (iffS (testM (binM eqD (.s 3) (.m (M.pure (.int 1)))))
    (retS (keptR (callKS f_Ratio_of [0] [] ([] ++ [(.m (ownR (makeKS 1 f_Ratio_init [0, 1] [.int 1] ([(.m (binM mulA (.m (binM ixD (.s 1) (.m (M.pure (.int 0))))) (.s 2))), (.m (binM mulA (.m (binM ixD (.s 1) (.m (M.pure (.int 1))))) (.s 2)))] ++ []))))]))))
    passS)
    (seqS (iffS (testM (binM eqD (.s 3) (.m (M.pure (.int 2)))))
    (retS (ownR (makeKS 1 f_Ratio_init [1, 0] [.int 1] ([] ++ [(.m (binM mulA (.m (binM ixD (.s 1) (.m (M.pure (.int 1))))) (.s 2))), (.m (binM mulA (.m (binM ixD (.s 1) (.m (M.pure (.int 0))))) (.s 2)))]))))
    passS)
    (seqS (iffS (G.andM (testM (binM eqD (.s 3) (.m (M.pure (.int 3))))) (testM (binM eqD (.m (binM ixD (.s 1) (.m (M.pure (.int 1))))) (.m (M.pure (.int 1))))))
    (retS (ownR (makeKS 1 f_Ratio_init [0, 1] [.int 1] ([(.m (binM ixD (.s 1) (.m (M.pure (.int 0)))))] ++ []))))
    passS)
    (retS (ifM (G.andM (testM (binM eqD (.s 3) (.m (M.pure (.int 4))))) (testM (binM eqD (.m (binM ixD (.s 1) (.m (M.pure (.int 1))))) (.m (M.pure (.int 1)))))) (keptR (callKS f_Ratio_of [0] [] ([] ++ [(.m (binM ixD (.s 1) (.m (M.pure (.int 0)))))]))) (ownR (makeKS 1 f_Ratio_init [0, 1] [.int 1] ([(.m (binM mulA (.m (binM ixD (.s 1) (.m (M.pure (.int 0))))) (.s 2))), (.m (binM mulA (.m (binM ixD (.s 1) (.m (M.pure (.int 1))))) (.s 2)))] ++ []))))))))))
def f_made : List SD → R SD := runF 2 4 m_made
/-! _law_side -/
abbrev s_side : Stmt := topS 21
theorem sc_side : FnScope ["_law_pot_here", "_law_some"] ["_law_pot_here", "_law_some"] (defScope s_side) := ⟨rfl, rfl, rfl, by decide +kernel, rfl, by decide +kernel, by decide +kernel⟩
def m_side : M Fl :=
  (retS (ifM (G.andM (testM (binM eqD (.m (binM ixD (.s 1) (.m (M.pure (.int 1))))) (.m (M.pure (.int 1))))) (testM (binM gtD (.m (keptR (callS f_draw [(.s 0), (.m (M.pure (.int 3)))]))) (.m (M.pure (.int 0)))))) (binM ixD (.s 1) (.m (M.pure (.int 0)))) (keptR (callS f_made [(.s 0), (.m (getV 1))]))))
def f_side : List SD → R SD := runF 2 2 m_side
/-! Ratio.__add__ -/
abbrev s_Ratio_add : Stmt := clsS 12 5
theorem sc_Ratio_add : FnScope ["self", "other", "top", "bottom"] ["self", "other"] (defScope s_Ratio_add) := ⟨rfl, rfl, rfl, by decide +kernel, rfl, by decide +kernel, by decide +kernel⟩
def m_Ratio_add : M Fl :=
  (seqS (asgS (keptR (callS f_parts_of [(.m (getV 1))])) (gTupM 2 (gsCons (storeM 2) (gsCons (storeM 3) gsNil))))
    (retS (ownR (makeKS 1 f_Ratio_init [0, 1] [.int 1] ([(.m (binM addA (.m (binM mulA (.m (attrM "own_top" [(1, .fld)] (.s 0))) (.s 3))) (.m (binM mulA (.s 2) (.m (attrM "own_bottom" [(1, .fld)] (.s 0))))))), (.m (binM mulA (.m (attrM "own_bottom" [(1, .fld)] (.s 0))) (.s 3)))] ++ [])))))
def f_Ratio_add : List SD → R SD := runF 2 4 m_Ratio_add
/-! Ratio.__radd__ -/
abbrev s_Ratio_radd : Stmt := clsS 12 6
theorem sc_Ratio_radd : FnScope ["self", "other"] ["self", "other"] (defScope s_Ratio_radd) := ⟨rfl, rfl, rfl, by decide +kernel, rfl, by decide +kernel, by decide +kernel⟩
def m_Ratio_radd : M Fl :=
  (retS (binX [(1, f_Ratio_add)] [] (kindsOf ks7 []) (kindsOf ks7 []) addA (getV 0) (getV 1)))
def f_Ratio_radd : List SD → R SD := runF 2 2 m_Ratio_radd
/-! _law_plus -/
abbrev s_plus : Stmt := topS 22
theorem sc_plus : FnScope ["_law_this", "_law_mate"] ["_law_this", "_law_mate"] (defScope s_plus) := ⟨rfl, rfl, rfl, by decide +kernel, rfl, by decide +kernel, by decide +kernel⟩
def m_plus : M Fl :=
  (retS (keptR (callS f_frac [(.m (binM addA (.m (binM mulA (.m (binM ixD (.s 0) (.m (M.pure (.int 0))))) (.m (binM ixD (.s 1) (.m (M.pure (.int 1))))))) (.m (binM mulA (.m (binM ixD (.s 1) (.m (M.pure (.int 0))))) (.m (binM ixD (.s 0) (.m (M.pure (.int 1))))))))), (.m (binM mulA (.m (binM ixD (.s 0) (.m (M.pure (.int 1))))) (.m (binM ixD (.s 1) (.m (M.pure (.int 1)))))))])))
def f_plus : List SD → R SD := runF 2 2 m_plus
/-! Ratio.top -/
abbrev s_Ratio_top : Stmt := clsS 12 3
theorem sc_Ratio_top : FnScope ["self"] ["self"] (defScope s_Ratio_top) := ⟨rfl, rfl, rfl, by decide +kernel, rfl, by decide +kernel, by decide +kernel⟩
def m_Ratio_top : M Fl :=
  (retS (attrM "own_top" [(1, .fld)] (.s 0)))
def f_Ratio_top : List SD → R SD := runF 1 1 m_Ratio_top
/-! Ratio.bottom -/
abbrev s_Ratio_bottom : Stmt := clsS 12 4
theorem sc_Ratio_bottom : FnScope ["self"] ["self"] (defScope s_Ratio_bottom) := ⟨rfl, rfl, rfl, by decide +kernel, rfl, by decide +kernel, by decide +kernel⟩
def m_Ratio_bottom : M Fl :=
  (retS (attrM "own_bottom" [(1, .fld)] (.s 0)))
def f_Ratio_bottom : List SD → R SD := runF 1 1 m_Ratio_bottom
/-! _law_told -/
abbrev s_told : Stmt := topS 27
theorem sc_told : FnScope ["_law_some", "_law_made_here"] ["_law_some"] (defScope s_told) := ⟨rfl, rfl, rfl, by decide +kernel, rfl, by decide +kernel, by decide +kernel⟩
def m_told : M Fl :=
  (retS (lcM [1] (itM (getV 0)) (storeM 1) (M.pure true) (ifM (truthM (.m (callM (isinD cfg) [(.s 1), (.m (M.pure (.cl 1)))]))) (tupM [(attrM "top" [(1, .prop f_Ratio_top)] (.s 1)), (attrM "bottom" [(1, .prop f_Ratio_bottom)] (.s 1))]) (M.pure .non))))
def f_told : List SD → R SD := runF 1 2 m_told
/-! Ratio.__sub__ -/
abbrev s_Ratio_sub : Stmt := clsS 12 7
theorem sc_Ratio_sub : FnScope ["self", "other", "top", "bottom"] ["self", "other"] (defScope s_Ratio_sub) := ⟨rfl, rfl, rfl, by decide +kernel, rfl, by decide +kernel, by decide +kernel⟩
def m_Ratio_sub : M Fl :=
  (seqS (asgS (keptR (callS f_parts_of [(.m (getV 1))])) (gTupM 2 (gsCons (storeM 2) (gsCons (storeM 3) gsNil))))
    (retS (ownR (makeKS 1 f_Ratio_init [0, 1] [.int 1] ([(.m (binM subD (.m (binM mulA (.m (attrM "own_top" [(1, .fld)] (.s 0))) (.s 3))) (.m (binM mulA (.s 2) (.m (attrM "own_bottom" [(1, .fld)] (.s 0))))))), (.m (binM mulA (.m (attrM "own_bottom" [(1, .fld)] (.s 0))) (.s 3)))] ++ [])))))
def f_Ratio_sub : List SD → R SD := runF 2 4 m_Ratio_sub
/-! Ratio.__rsub__ -/
abbrev s_Ratio_rsub : Stmt := clsS 12 8
theorem sc_Ratio_rsub : FnScope ["self", "other"] ["self", "other"] (defScope s_Ratio_rsub) := ⟨rfl, rfl, rfl, by decide +kernel, rfl, by decide +kernel, by decide +kernel⟩
def m_Ratio_rsub : M Fl :=
  (retS (binX [(1, f_Ratio_add)] [(1, f_Ratio_radd)] (kindsOf ks7 []) (kindsOf ks7 []) addA (unK (ownU [(1, f_Ratio_neg)] negD) (getV 0)) (getV 1)))
def f_Ratio_rsub : List SD → R SD := runF 2 2 m_Ratio_rsub
/-! _law_less -/
abbrev s_less : Stmt := topS 23
theorem sc_less : FnScope ["_law_this", "_law_mate"] ["_law_this", "_law_mate"] (defScope s_less) := ⟨rfl, rfl, rfl, by decide +kernel, rfl, by decide +kernel, by decide +kernel⟩
def m_less : M Fl :=
  (retS (keptR (callS f_plus [(.m (getV 0)), (.m (tupM [(binM subD (.m (M.pure (.int 0))) (.m (binM ixD (.s 1) (.m (M.pure (.int 0)))))), (binM ixD (.s 1) (.m (M.pure (.int 1))))]))])))
def f_less : List SD → R SD := runF 2 2 m_less
/-! Ratio.__mul__ -/
abbrev s_Ratio_mul : Stmt := clsS 12 9
theorem sc_Ratio_mul : FnScope ["self", "other", "top", "bottom"] ["self", "other"] (defScope s_Ratio_mul) := ⟨rfl, rfl, rfl, by decide +kernel, rfl, by decide +kernel, by decide +kernel⟩
def m_Ratio_mul : M Fl :=
  (seqS (asgS (keptR (callS f_parts_of [(.m (getV 1))])) (gTupM 2 (gsCons (storeM 2) (gsCons (storeM 3) gsNil))))
    (retS (ownR (makeKS 1 f_Ratio_init [0, 1] [.int 1] ([(.m (binM mulA (.m (attrM "own_top" [(1, .fld)] (.s 0))) (.s 2))), (.m (binM mulA (.m (attrM "own_bottom" [(1, .fld)] (.s 0))) (.s 3)))] ++ [])))))
def f_Ratio_mul : List SD → R SD := runF 2 4 m_Ratio_mul
/-! Ratio.__rmul__ -/
abbrev s_Ratio_rmul : Stmt := clsS 12 10
theorem sc_Ratio_rmul : FnScope ["self", "other"] ["self", "other"] (defScope s_Ratio_rmul) := ⟨rfl, rfl, rfl, by decide +kernel, rfl, by decide +kernel, by decide +kernel⟩
def m_Ratio_rmul : M Fl :=
  (retS (binX [(1, f_Ratio_mul)] [] (kindsOf ks7 []) (kindsOf ks7 []) mulA (getV 0) (getV 1)))
def f_Ratio_rmul : List SD → R SD := runF 2 2 m_Ratio_rmul
/-! _law_times -/
abbrev s_times : Stmt := topS 24
theorem sc_times : FnScope ["_law_this", "_law_mate"] ["_law_this", "_law_mate"] (defScope s_times) := ⟨rfl, rfl, rfl, by decide +kernel, rfl, by decide +kernel, by decide +kernel⟩
def m_times : M Fl :=
  (retS (keptR (callS f_frac [(.m (binM mulA (.m (binM ixD (.s 0) (.m (M.pure (.int 0))))) (.m (binM ixD (.s 1) (.m (M.pure (.int 0))))))), (.m (binM mulA (.m (binM ixD (.s 0) (.m (M.pure (.int 1))))) (.m (binM ixD (.s 1) (.m (M.pure (.int 1)))))))])))
def f_times : List SD → R SD := runF 2 2 m_times
/-! Ratio.over -/
abbrev s_Ratio_over : Stmt := clsS 12 17
theorem sc_Ratio_over : FnScope ["self", "other", "top", "bottom"] ["self", "other"] (defScope s_Ratio_over) := ⟨rfl, rfl, rfl, by decide +kernel, rfl, by decide +kernel, by decide +kernel⟩
def m_Ratio_over : M Fl :=
  (seqS (asgS (keptR (callS f_parts_of [(.m (getV 1))])) (gTupM 2 (gsCons (storeM 2) (gsCons (storeM 3) gsNil))))
    (seqS (iffS (testM (binM eqD (.s 2) (.m (M.pure (.int 0)))))
    badM
    passS)
    (retS (ownR (makeKS 1 f_Ratio_init [0, 1] [.int 1] ([(.m (binM mulA (.m (attrM "own_top" [(1, .fld)] (.s 0))) (.s 3))), (.m (binM mulA (.m (attrM "own_bottom" [(1, .fld)] (.s 0))) (.s 2)))] ++ []))))))
def f_Ratio_over : List SD → R SD := runF 2 4 m_Ratio_over
/-! Ratio.__floordiv__ -/
abbrev s_Ratio_floordiv : Stmt := clsS 12 11
theorem sc_Ratio_floordiv : FnScope ["self", "other", "top", "bottom"] ["self", "other"] (defScope s_Ratio_floordiv) := ⟨rfl, rfl, rfl, by decide +kernel, rfl, by decide +kernel, by decide +kernel⟩
def m_Ratio_floordiv : M Fl :=
  (seqS (asgS (keptR (callS f_parts_of [(.m (getV 1))])) (gTupM 2 (gsCons (storeM 2) (gsCons (storeM 3) gsNil))))
    (seqS (iffS (testM (binM eqD (.s 2) (.m (M.pure (.int 0)))))
    badM
    passS)
    (retS (binM fdivD (.m (binM mulA (.m (attrM "own_top" [(1, .fld)] (.s 0))) (.s 3))) (.m (binM mulA (.m (attrM "own_bottom" [(1, .fld)] (.s 0))) (.s 2)))))))
def f_Ratio_floordiv : List SD → R SD := runF 2 4 m_Ratio_floordiv
/-! Ratio.__rfloordiv__ -/
abbrev s_Ratio_rfloordiv : Stmt := clsS 12 12
theorem sc_Ratio_rfloordiv : FnScope ["self", "other"] ["self", "other"] (defScope s_Ratio_rfloordiv) := ⟨rfl, rfl, rfl, by decide +kernel, rfl, by decide +kernel, by decide +kernel⟩
def m_Ratio_rfloordiv : M Fl :=
  (retS (binX [(1, f_Ratio_floordiv)] [] (kindsOf ks7 []) (kindsOf ks7 []) fdivD (keptR (callKS f_Ratio_of [0] [] ([(.m (getV 1))] ++ []))) (getV 0)))
def f_Ratio_rfloordiv : List SD → R SD := runF 2 2 m_Ratio_rfloordiv
/-! Ratio.__mod__ -/
abbrev s_Ratio_mod : Stmt := clsS 12 13
theorem sc_Ratio_mod : FnScope ["self", "other"] ["self", "other"] (defScope s_Ratio_mod) := ⟨rfl, rfl, rfl, by decide +kernel, rfl, by decide +kernel, by decide +kernel⟩
def m_Ratio_mod : M Fl :=
  (retS (binX [(1, f_Ratio_sub)] [(1, f_Ratio_rsub)] (kindsOf ks7 []) (kindsOf ks7 []) subD (getV 0) (binX [(1, f_Ratio_mul)] [] (kindsOf ks7 []) (kindsOf ks7 []) mulA (keptR (callKS f_Ratio_of [0] [] ([(.m (getV 1))] ++ []))) (binX [(1, f_Ratio_floordiv)] [(1, f_Ratio_rfloordiv)] (kindsOf ks7 []) (kindsOf ks7 []) fdivD (getV 0) (getV 1)))))
def f_Ratio_mod : List SD → R SD := runF 2 2 m_Ratio_mod
/-! Ratio.__rmod__ -/
abbrev s_Ratio_rmod : Stmt := clsS 12 14
theorem sc_Ratio_rmod : FnScope ["self", "other", "whole"] ["self", "other"] (defScope s_Ratio_rmod) := ⟨rfl, rfl, rfl, by decide +kernel, rfl, by decide +kernel, by decide +kernel⟩
def m_Ratio_rmod : M Fl :=
  (seqS (setS 2 (keptR (callKS f_Ratio_of [0] [] ([(.m (getV 1))] ++ []))))
    (retS (binX [(1, f_Ratio_sub)] [(1, f_Ratio_rsub)] (kindsOf ks7 []) (kindsOf ks7 []) subD (getV 2) (binX [(1, f_Ratio_mul)] [] (kindsOf ks7 []) (kindsOf ks7 []) mulA (getV 0) (binX [(1, f_Ratio_floordiv)] [(1, f_Ratio_rfloordiv)] (kindsOf ks7 []) (kindsOf ks7 []) fdivD (getV 2) (getV 0))))))
def f_Ratio_rmod : List SD → R SD := runF 2 3 m_Ratio_rmod
/-! _law_floor -/
abbrev s_floor : Stmt := topS 25
theorem sc_floor : FnScope ["_law_this", "_law_mate"] ["_law_this", "_law_mate"] (defScope s_floor) := ⟨rfl, rfl, rfl, by decide +kernel, rfl, by decide +kernel, by decide +kernel⟩
def m_floor : M Fl :=
  (retS (binM fdivD (.m (binM mulA (.m (binM ixD (.s 0) (.m (M.pure (.int 0))))) (.m (binM ixD (.s 1) (.m (M.pure (.int 1))))))) (.m (binM mulA (.m (binM ixD (.s 0) (.m (M.pure (.int 1))))) (.m (binM ixD (.s 1) (.m (M.pure (.int 0)))))))))
def f_floor : List SD → R SD := runF 2 2 m_floor
/-! _law_rest -/
abbrev s_rest : Stmt := topS 26
theorem sc_rest : FnScope ["_law_this", "_law_mate"] ["_law_this", "_law_mate"] (defScope s_rest) := ⟨rfl, rfl, rfl, by decide +kernel, rfl, by decide +kernel, by decide +kernel⟩
def m_rest : M Fl :=
  (retS (keptR (callS f_less [(.m (getV 0)), (.m (keptR (callS f_times [(.m (tupM [(keptR (callS f_floor [(.m (getV 0)), (.m (getV 1))])), (M.pure (.int 1))])), (.m (getV 1))])))])))
def f_rest : List SD → R SD := runF 2 2 m_rest
/-! Ratio.__abs__ -/
abbrev s_Ratio_abs : Stmt := clsS 12 16
theorem sc_Ratio_abs : FnScope ["self"] ["self"] (defScope s_Ratio_abs) := ⟨rfl, rfl, rfl, by decide +kernel, rfl, by decide +kernel, by decide +kernel⟩
def m_Ratio_abs : M Fl :=
  (retS (ownR (makeKS 1 f_Ratio_init [0, 1] [.int 1] ([(.m (callM absD [(.m (attrM "own_top" [(1, .fld)] (.s 0)))])), (.m (attrM "own_bottom" [(1, .fld)] (.s 0)))] ++ []))))
def f_Ratio_abs : List SD → R SD := runF 1 1 m_Ratio_abs
/-! _law_register_right -/
abbrev s_register_right : Stmt := topS 34
theorem sc_register_right : FnScope ["_law_pot_here", "_law_this", "_law_held", "_law_turn", "_law_near", "_law_way", "_law_mate"] ["_law_pot_here"] (defScope s_register_right) := ⟨rfl, rfl, rfl, by decide +kernel, rfl, by decide +kernel, by decide +kernel⟩
def m_register_right : M Fl :=
  (seqS (setS 1 (keptR (callS f_drawn [(.s 0)])))
    (seqS (setS 2 (keptR (callS f_made [(.s 0), (.m (getV 1))])))
    (seqS (forS (rng1M (.m (keptR (callS f_draw [(.s 0), (.m (M.pure (.int 13)))])))) (storeM 3)
    (seqS (parS [(false, (keptR (callS f_drawn [(.s 0)]))), (false, (keptR (callS f_draw [(.s 0), (.m (M.pure (.int 7)))])))] [4, 5])
    (seqS (setS 6 (keptR (callS f_side [(.s 0), (.m (getV 4))])))
    (seqS (iffS (testM (binM eqD (.s 5) (.m (M.pure (.int 0)))))
    (parS [(false, (binX [(1, f_Ratio_add)] [(1, f_Ratio_radd)] (kindsOf ks7 []) (kindsOf ks7 []) addA (getV 2) (getV 6))), (false, (keptR (callS f_plus [(.m (getV 1)), (.m (getV 4))])))] [2, 1])
    (iffS (testM (binM eqD (.s 5) (.m (M.pure (.int 1)))))
    (parS [(false, (binX [(1, f_Ratio_sub)] [(1, f_Ratio_rsub)] (kindsOf ks7 []) (kindsOf ks7 []) subD (getV 6) (getV 2))), (false, (keptR (callS f_less [(.m (getV 4)), (.m (getV 1))])))] [2, 1])
    (iffS (testM (binM eqD (.s 5) (.m (M.pure (.int 2)))))
    (parS [(false, (binX [(1, f_Ratio_mul)] [(1, f_Ratio_rmul)] (kindsOf ks7 []) (kindsOf ks7 []) mulA (getV 2) (getV 6))), (false, (keptR (callS f_times [(.m (getV 1)), (.m (getV 4))])))] [2, 1])
    (iffS (G.andM (testM (binM eqD (.s 5) (.m (M.pure (.int 3))))) (testM (binM neD (.m (binM ixD (.s 4) (.m (M.pure (.int 0))))) (.m (M.pure (.int 0))))))
    (parS [(false, (keptR (methM "over" [(1, f_Ratio_over)] (.m (getV 2)) [(.m (getV 6))]))), (false, (keptR (callS f_frac [(.m (binM mulA (.m (binM ixD (.s 1) (.m (M.pure (.int 0))))) (.m (binM ixD (.s 4) (.m (M.pure (.int 1))))))), (.m (binM mulA (.m (binM ixD (.s 1) (.m (M.pure (.int 1))))) (.m (binM ixD (.s 4) (.m (M.pure (.int 0)))))))])))] [2, 1])
    (iffS (G.andM (testM (binM eqD (.s 5) (.m (M.pure (.int 4))))) (testM (binM neD (.m (binM ixD (.s 4) (.m (M.pure (.int 0))))) (.m (M.pure (.int 0))))))
    (parS [(false, (binX [(1, f_Ratio_mod)] [(1, f_Ratio_rmod)] (kindsOf ks7 []) (kindsOf ks6 []) modD (getV 2) (getV 6))), (false, (keptR (callS f_rest [(.m (getV 1)), (.m (getV 4))])))] [2, 1])
    (iffS (G.andM (testM (binM eqD (.s 5) (.m (M.pure (.int 5))))) (testM (binM neD (.m (binM ixD (.s 1) (.m (M.pure (.int 0))))) (.m (M.pure (.int 0))))))
    (parS [(false, (binX [(1, f_Ratio_mod)] [(1, f_Ratio_rmod)] (kindsOf ks7 []) (kindsOf ks6 []) modD (getV 6) (getV 2))), (false, (keptR (callS f_rest [(.m (getV 4)), (.m (getV 1))])))] [2, 1])
    (parS [(false, (binX [(1, f_Ratio_sub)] [(1, f_Ratio_rsub)] (kindsOf ks7 []) (kindsOf ks7 []) subD (callKM (absT [(1, f_Ratio_abs)]) [(unK (ownU [(1, f_Ratio_neg)] negD) (getV 2))]) (getV 2))), (false, (keptR (callS f_less [(.m (tupM [(callM absD [(.m (binM ixD (.s 1) (.m (M.pure (.int 0)))))]), (binM ixD (.s 1) (.m (M.pure (.int 1))))])), (.m (getV 1))])))] [2, 1])))))))
    (iffS (G.orM (testM (binM neD (.m (keptR (callS f_told [(.m (lstM [(getV 2)]))]))) (.m (lstM [(getV 1)])))) (testM (binM neD (.m (callKM (strD [(1, f_Ratio_str)]) [(getV 2)])) (.m (keptR (callS f_text [(.m (getV 1))]))))))
    (retS (M.pure (.bl false)))
    passS)))) passS)
    (retS (M.pure (.bl true))))))
def f_register_right : List SD → R SD := runF 1 7 m_register_right
/-! _law_sums_right -/
abbrev s_sums_right : Stmt := topS 29
theorem sc_sums_right : FnScope ["_law_one", "_law_mate", "_law_this", "_law_near", "_law_told_here", "_law_due"] ["_law_one", "_law_mate", "_law_this", "_law_near"] (defScope s_sums_right) := ⟨rfl, rfl, rfl, by decide +kernel, rfl, by decide +kernel, by decide +kernel⟩
def m_sums_right : M Fl :=
  (seqS (setS 4 (lstM [(binX [(1, f_Ratio_add)] [(1, f_Ratio_radd)] (kindsOf ks7 []) (kindsOf ks7 []) addA (getV 0) (getV 1)), (binX [(1, f_Ratio_add)] [(1, f_Ratio_radd)] (kindsOf ks7 []) (kindsOf ks7 []) addA (getV 1) (getV 0)), (binX [(1, f_Ratio_sub)] [(1, f_Ratio_rsub)] (kindsOf ks7 []) (kindsOf ks7 []) subD (getV 0) (getV 1)), (binX [(1, f_Ratio_sub)] [(1, f_Ratio_rsub)] (kindsOf ks7 []) (kindsOf ks7 []) subD (getV 1) (getV 0)), (binX [(1, f_Ratio_mul)] [(1, f_Ratio_rmul)] (kindsOf ks7 []) (kindsOf ks7 []) mulA (getV 0) (getV 1)), (binX [(1, f_Ratio_mul)] [(1, f_Ratio_rmul)] (kindsOf ks7 []) (kindsOf ks7 []) mulA (getV 1) (getV 0))]))
    (seqS (setS 5 (binM addA (.m (binM mulA (.m (lstM [(keptR (callS f_plus [(.m (getV 2)), (.m (getV 3))]))])) (.m (M.pure (.int 2))))) (.m (lstM [(keptR (callS f_less [(.m (getV 2)), (.m (getV 3))])), (keptR (callS f_less [(.m (getV 3)), (.m (getV 2))]))]))))
    (retS (binM eqD (.m (keptR (callS f_told [(.m (getV 4))]))) (.m (binM addA (.s 5) (.m (binM mulA (.m (lstM [(keptR (callS f_times [(.m (getV 2)), (.m (getV 3))]))])) (.m (M.pure (.int 2)))))))))))
def f_sums_right : List SD → R SD := runF 4 6 m_sums_right
/-! Ratio.floor -/
abbrev s_Ratio_floor : Stmt := clsS 12 19
theorem sc_Ratio_floor : FnScope ["self"] ["self"] (defScope s_Ratio_floor) := ⟨rfl, rfl, rfl, by decide +kernel, rfl, by decide +kernel, by decide +kernel⟩
def m_Ratio_floor : M Fl :=
  (retS (binM fdivD (.m (attrM "own_top" [(1, .fld)] (.s 0))) (.m (attrM "own_bottom" [(1, .fld)] (.s 0)))))
def f_Ratio_floor : List SD → R SD := runF 1 1 m_Ratio_floor
/-! _law_are_integers -/
abbrev s_are_integers : Stmt := topS 28
theorem sc_are_integers : FnScope ["_law_some", "_law_made_here"] ["_law_some"] (defScope s_are_integers) := ⟨rfl, rfl, rfl, by decide +kernel, rfl, by decide +kernel, by decide +kernel⟩
def m_are_integers : M Fl :=
  (retS (callM allD [(.m (lcM [1] (itM (getV 0)) (storeM 1) (M.pure true) (andV (callM (isinD cfg) [(.s 1), (.m (M.pure (.ty "int")))]) (notV (.m (callM (isinD cfg) [(.s 1), (.m (M.pure (.ty "bool")))]))))))]))
def f_are_integers : List SD → R SD := runF 1 2 m_are_integers
/-! _law_quotients_right -/
abbrev s_quotients_right : Stmt := topS 30
theorem sc_quotients_right : FnScope ["_law_one", "_law_mate", "_law_this", "_law_near", "_law_floors", "_law_share"] ["_law_one", "_law_mate", "_law_this", "_law_near"] (defScope s_quotients_right) := ⟨rfl, rfl, rfl, by decide +kernel, rfl, by decide +kernel, by decide +kernel⟩
def m_quotients_right : M Fl :=
  (seqS (iffS (testM (binM neD (.m (binM ixD (.s 3) (.m (M.pure (.int 0))))) (.m (M.pure (.int 0)))))
    (seqS (setS 4 (lstM [(binX [(1, f_Ratio_floordiv)] [(1, f_Ratio_rfloordiv)] (kindsOf ks7 []) (kindsOf ks7 []) fdivD (getV 0) (getV 1)), (keptR (methM "floor" [(1, f_Ratio_floor)] (.m (keptR (methKM "over" [(1, f_Ratio_over)] [0, 1] [] (.m (getV 0)) ([] ++ [(.m (getV 1))])))) []))]))
    (seqS (iffS (G.orM (testM (binM neD (.s 4) (.m (binM mulA (.m (lstM [(keptR (callS f_floor [(.m (getV 2)), (.m (getV 3))]))])) (.m (M.pure (.int 2))))))) (G.notM (truthM (.m (keptR (callS f_are_integers [(.m (getV 4))]))))))
    (retS (M.pure (.bl false)))
    passS)
    (seqS (setS 5 (keptR (callS f_frac [(.m (binM mulA (.m (binM ixD (.s 2) (.m (M.pure (.int 0))))) (.m (binM ixD (.s 3) (.m (M.pure (.int 1))))))), (.m (binM mulA (.m (binM ixD (.s 2) (.m (M.pure (.int 1))))) (.m (binM ixD (.s 3) (.m (M.pure (.int 0)))))))])))
    (iffS (testM (binM neD (.m (keptR (callS f_told [(.m (lstM [(binX [(1, f_Ratio_mod)] [(1, f_Ratio_rmod)] (kindsOf ks7 []) (kindsOf ks6 []) modD (getV 0) (getV 1)), (keptR (methM "over" [(1, f_Ratio_over)] (.m (getV 0)) [(.m (getV 1))]))]))]))) (.m (lstM [(keptR (callS f_rest [(.m (getV 2)), (.m (getV 3))])), (getV 5)]))))
    (retS (M.pure (.bl false)))
    passS))))
    passS)
    (seqS (iffS (testM (binM eqD (.m (binM ixD (.s 2) (.m (M.pure (.int 0))))) (.m (M.pure (.int 0)))))
    (retS (M.pure (.bl true)))
    passS)
    (retS (andV (binM eqD (.m (binX [(1, f_Ratio_floordiv)] [(1, f_Ratio_rfloordiv)] (kindsOf ks7 []) (kindsOf ks7 []) fdivD (getV 1) (getV 0))) (.m (keptR (callS f_floor [(.m (getV 3)), (.m (getV 2))])))) (binM eqD (.m (keptR (callS f_told [(.m (lstM [(binX [(1, f_Ratio_mod)] [(1, f_Ratio_rmod)] (kindsOf ks7 []) (kindsOf ks6 []) modD (getV 1) (getV 0))]))]))) (.m (lstM [(keptR (callS f_rest [(.m (getV 3)), (.m (getV 2))]))])))))))
def f_quotients_right : List SD → R SD := runF 4 6 m_quotients_right
/-! Ratio.compare -/
abbrev s_Ratio_compare : Stmt := clsS 12 18
theorem sc_Ratio_compare : FnScope ["self", "other", "top", "bottom", "difference"] ["self", "other"] (defScope s_Ratio_compare) := ⟨rfl, rfl, rfl, by decide +kernel, rfl, by decide +kernel, by decide +kernel⟩
def m_Ratio_compare : M Fl :=
  (seqS (asgS (keptR (callS f_parts_of [(.m (getV 1))])) (gTupM 2 (gsCons (storeM 2) (gsCons (storeM 3) gsNil))))
    (seqS (setS 4 (binM subD (.m (binM mulA (.m (attrM "own_top" [(1, .fld)] (.s 0))) (.s 3))) (.m (binM mulA (.s 2) (.m (attrM "own_bottom" [(1, .fld)] (.s 0)))))))
    (seqS (iffS (testM (binM eqD (.s 4) (.m (M.pure (.int 0)))))
    (retS (M.pure (.int 0)))
    passS)
    (retS (ifM (testM (binM gtD (.s 4) (.m (M.pure (.int 0))))) (M.pure (.int 1)) (unM negD (.m (M.pure (.int 1)))))))))
def f_Ratio_compare : List SD → R SD := runF 2 5 m_Ratio_compare
/-! Ratio.__eq__ -/
abbrev s_Ratio_eq : Stmt := clsS 12 21
theorem sc_Ratio_eq : FnScope ["self", "other"] ["self", "other"] (defScope s_Ratio_eq) := ⟨rfl, rfl, rfl, by decide +kernel, rfl, by decide +kernel, by decide +kernel⟩
def m_Ratio_eq : M Fl :=
  (retS (andV (callM (isinD cfg) [(.s 1), (.m (M.pure (.cl 1)))]) (andV (binM eqD (.m (attrM "own_top" [(1, .fld)] (.s 0))) (.m (attrM "own_top" [(1, .fld)] (.s 1)))) (binM eqD (.m (attrM "own_bottom" [(1, .fld)] (.s 0))) (.m (attrM "own_bottom" [(1, .fld)] (.s 1)))))))
def f_Ratio_eq : List SD → R SD := runF 2 2 m_Ratio_eq
/-! _law_order_right -/
abbrev s_order_right : Stmt := topS 32
theorem sc_order_right : FnScope ["_law_one", "_law_mate", "_law_this", "_law_near", "_law_less_here", "_law_more", "_law_due", "_law_told_here", "_law_same"] ["_law_one", "_law_mate", "_law_this", "_law_near"] (defScope s_order_right) := ⟨rfl, rfl, rfl, by decide +kernel, rfl, by decide +kernel, by decide +kernel⟩
def m_order_right : M Fl :=
  (seqS (parS [(false, (binM mulA (.m (binM ixD (.s 2) (.m (M.pure (.int 0))))) (.m (binM ixD (.s 3) (.m (M.pure (.int 1))))))), (false, (binM mulA (.m (binM ixD (.s 3) (.m (M.pure (.int 0))))) (.m (binM ixD (.s 2) (.m (M.pure (.int 1)))))))] [4, 5])
    (seqS (setS 6 (ifM (testM (binM eqD (.s 4) (.s 5))) (M.pure (.int 0)) (ifM (testM (binM gtD (.s 4) (.s 5))) (M.pure (.int 1)) (binM subD (.m (M.pure (.int 0))) (.m (M.pure (.int 1)))))))
    (seqS (setS 7 (lstM [(keptR (methM "compare" [(1, f_Ratio_compare)] (.m (getV 0)) [(.m (getV 1))])), (keptR (methKM "compare" [(1, f_Ratio_compare)] [0, 1] [] (.m (getV 0)) ([] ++ [(.m (getV 1))])))]))
    (seqS (iffS (G.orM (testM (binM neD (.s 7) (.m (lstM [(getV 6), (getV 6)])))) (G.notM (truthM (.m (keptR (callS f_are_integers [(.m (getV 7))]))))))
    (retS (M.pure (.bl false)))
    passS)
    (seqS (setS 8 (andV (callM (isinD cfg) [(.s 1), (.m (M.pure (.cl 1)))]) (binM eqD (.s 2) (.s 3))))
    (retS (binM eqD (.m (lstM [(binK (ownF [(1, f_Ratio_eq)] kds (eqR [(1, f_Ratio_eq)] eqD)) (getV 0) (getV 1)), (binK (ownF [(1, f_Ratio_eq)] kds (eqR [(1, f_Ratio_eq)] eqD)) (getV 1) (getV 0)), (binK (ownNeF [(1, f_Ratio_eq)] kds (neR [(1, f_Ratio_eq)] neD)) (getV 0) (getV 1)), (binK (ownNeF [(1, f_Ratio_eq)] kds (neR [(1, f_Ratio_eq)] neD)) (getV 1) (getV 0))])) (.m (lstM [(getV 8), (getV 8), (notV (.s 8)), (notV (.s 8))])))))))))
def f_order_right : List SD → R SD := runF 4 9 m_order_right
/-! _law_in_place_right -/
abbrev s_in_place_right : Stmt := topS 33
theorem sc_in_place_right : FnScope ["_law_one", "_law_mate", "_law_this", "_law_near", "_law_kept", "_law_floor_here", "_law_rest_here"] ["_law_one", "_law_mate", "_law_this", "_law_near"] (defScope s_in_place_right) := ⟨rfl, rfl, rfl, by decide +kernel, rfl, by decide +kernel, by decide +kernel⟩
def m_in_place_right : M Fl :=
  (seqS (setN 4 (lstM [(getV 0), (getV 0), (getV 0)]))
    (seqS (augSubX [(1, f_Ratio_add)] (kindsOf ks7 []) add2D 4 (M.pure (.int 0)) (getV 1))
    (seqS (augSubX [(1, f_Ratio_sub)] (kindsOf ks7 []) sub2D 4 (M.pure (.int 1)) (getV 1))
    (seqS (augSubX [(1, f_Ratio_mul)] (kindsOf ks7 []) noD 4 (M.pure (.int 2)) (getV 1))
    (seqS (iffS (testM (binM neD (.m (keptR (callS f_told [(.s 4)]))) (.m (lstM [(keptR (callS f_plus [(.m (getV 2)), (.m (getV 3))])), (keptR (callS f_less [(.m (getV 2)), (.m (getV 3))])), (keptR (callS f_times [(.m (getV 2)), (.m (getV 3))]))]))))
    (retS (M.pure (.bl false)))
    passS)
    (seqS (iffS (testM (binM neD (.m (binM ixD (.s 3) (.m (M.pure (.int 0))))) (.m (M.pure (.int 0)))))
    (seqS (parS [(false, (getV 0)), (false, (getV 0))] [5, 6])
    (seqS (augX [(1, f_Ratio_floordiv)] (kindsOf ks7 []) noD 5 (getV 1))
    (seqS (augX [(1, f_Ratio_mod)] (kindsOf ks7 []) noD 6 (getV 1))
    (iffS (G.orM (testM (binK (ownNeF [(1, f_Ratio_eq)] kds neD) (getV 5) (keptR (callS f_floor [(.m (getV 2)), (.m (getV 3))])))) (testM (binM neD (.m (keptR (callS f_told [(.m (lstM [(getV 6)]))]))) (.m (lstM [(keptR (callS f_rest [(.m (getV 2)), (.m (getV 3))]))])))))
    (retS (M.pure (.bl false)))
    passS))))
    passS)
    (retS (binM eqD (.m (keptR (callS f_told [(.m (lstM [(getV 0)]))]))) (.m (lstM [(getV 2)]))))))))))
def f_in_place_right : List SD → R SD := runF 4 7 m_in_place_right
/-! Ratio.ceiling -/
abbrev s_Ratio_ceiling : Stmt := clsS 12 20
theorem sc_Ratio_ceiling : FnScope ["self"] ["self"] (defScope s_Ratio_ceiling) := ⟨rfl, rfl, rfl, by decide +kernel, rfl, by decide +kernel, by decide +kernel⟩
def m_Ratio_ceiling : M Fl :=
  (retS (binM subD (.m (M.pure (.int 0))) (.m (binM fdivD (.m (binM subD (.m (M.pure (.int 0))) (.m (attrM "own_top" [(1, .fld)] (.s 0))))) (.m (attrM "own_bottom" [(1, .fld)] (.s 0)))))))
def f_Ratio_ceiling : List SD → R SD := runF 1 1 m_Ratio_ceiling
/-! Ratio.__repr__ -/
abbrev s_Ratio_repr : Stmt := clsS 12 23
theorem sc_Ratio_repr : FnScope ["self"] ["self"] (defScope s_Ratio_repr) := ⟨rfl, rfl, rfl, by decide +kernel, rfl, by decide +kernel, by decide +kernel⟩
def m_Ratio_repr : M Fl :=
  (retS (joinM [(M.pure (.str "Ratio(")), (unK fmtD (attrM "own_top" [(1, .fld)] (.s 0))), (M.pure (.str ", ")), (unK fmtD (attrM "own_bottom" [(1, .fld)] (.s 0))), (M.pure (.str ")"))] Str.empty))
def f_Ratio_repr : List SD → R SD := runF 1 1 m_Ratio_repr
/-! _law_alone_right -/
abbrev s_alone_right : Stmt := topS 31
theorem sc_alone_right : FnScope ["_law_one", "_law_this", "_law_up", "_law_told_here"] ["_law_one", "_law_this"] (defScope s_alone_right) := ⟨rfl, rfl, rfl, by decide +kernel, rfl, by decide +kernel, by decide +kernel⟩
def m_alone_right : M Fl :=
  (seqS (iffS (testM (binM neD (.m (keptR (callS f_told [(.m (lstM [(unK (ownU [(1, f_Ratio_neg)] negD) (getV 0)), (callKM (absT [(1, f_Ratio_abs)]) [(getV 0)]), (keptR (callKS f_Ratio_of [0] [] ([(.m (getV 0))] ++ [])))]))]))) (.m (lstM [(tupM [(binM subD (.m (M.pure (.int 0))) (.m (binM ixD (.s 1) (.m (M.pure (.int 0)))))), (binM ixD (.s 1) (.m (M.pure (.int 1))))]), (tupM [(callM absD [(.m (binM ixD (.s 1) (.m (M.pure (.int 0)))))]), (binM ixD (.s 1) (.m (M.pure (.int 1))))]), (getV 1)]))))
    (retS (M.pure (.bl false)))
    passS)
    (seqS (iffS (testM (binM neD (.m (lstM [(callKM (strD [(1, f_Ratio_str)]) [(getV 0)]), (callKM (reprD [(1, f_Ratio_repr)]) [(getV 0)])])) (.m (lstM [(keptR (callS f_text [(.m (getV 1))])), (binM addA (.m (binM addA (.m (binM addA (.m (binM addA (.m (M.pure (.str "Ratio("))) (.m (callKM (strD []) [(binM ixD (.s 1) (.m (M.pure (.int 0))))])))) (.m (M.pure (.str ", "))))) (.m (callKM (strD []) [(binM ixD (.s 1) (.m (M.pure (.int 1))))])))) (.m (M.pure (.str ")"))))]))))
    (retS (M.pure (.bl false)))
    passS)
    (seqS (setS 2 (binM subD (.m (M.pure (.int 0))) (.m (binM fdivD (.m (binM subD (.m (M.pure (.int 0))) (.m (binM ixD (.s 1) (.m (M.pure (.int 0))))))) (.m (binM ixD (.s 1) (.m (M.pure (.int 1)))))))))
    (seqS (setS 3 (lstM [(attrM "top" [(1, .prop f_Ratio_top)] (.s 0)), (attrM "bottom" [(1, .prop f_Ratio_bottom)] (.s 0)), (keptR (methM "floor" [(1, f_Ratio_floor)] (.m (getV 0)) [])), (keptR (methM "ceiling" [(1, f_Ratio_ceiling)] (.m (getV 0)) []))]))
    (retS (andV (binM eqD (.s 3) (.m (lstM [(binM ixD (.s 1) (.m (M.pure (.int 0)))), (binM ixD (.s 1) (.m (M.pure (.int 1)))), (binM fdivD (.m (binM ixD (.s 1) (.m (M.pure (.int 0))))) (.m (binM ixD (.s 1) (.m (M.pure (.int 1)))))), (getV 2)]))) (keptR (callS f_are_integers [(.m (getV 3))]))))))))
def f_alone_right : List SD → R SD := runF 2 4 m_alone_right
/-! _law_right -/
abbrev s_right : Stmt := topS 35
theorem sc_right : FnScope ["_law_pot_here", "_law_turn", "_law_this", "_law_near", "_law_one", "_law_mate", "_law_again"] ["_law_pot_here"] (defScope s_right) := ⟨rfl, rfl, rfl, by decide +kernel, rfl, by decide +kernel, by decide +kernel⟩
def m_right : M Fl :=
  (seqS (forS (rng1M (.m (M.pure (.int 3)))) (storeM 1)
    (seqS (parS [(false, (keptR (callS f_drawn [(.s 0)]))), (false, (keptR (callS f_drawn [(.s 0)])))] [2, 3])
    (seqS (iffS (testM (binM eqD (.m (keptR (callS f_draw [(.s 0), (.m (M.pure (.int 6)))]))) (.m (M.pure (.int 0)))))
    (setS 3 (getV 2))
    passS)
    (seqS (parS [(false, (keptR (callS f_made [(.s 0), (.m (getV 2))]))), (false, (keptR (callS f_side [(.s 0), (.m (getV 3))])))] [4, 5])
    (forS (rng1M (.m (M.pure (.int 2)))) (storeM 6)
    (seqS (iffS (G.orM (G.notM (truthM (.m (keptR (callS f_sums_right [(.m (getV 4)), (.m (getV 5)), (.m (getV 2)), (.m (getV 3))]))))) (G.notM (truthM (.m (keptR (callS f_quotients_right [(.m (getV 4)), (.m (getV 5)), (.m (getV 2)), (.m (getV 3))]))))))
    (retS (M.pure (.bl false)))
    passS)
    (seqS (iffS (G.orM (G.notM (truthM (.m (keptR (callS f_order_right [(.m (getV 4)), (.m (getV 5)), (.m (getV 2)), (.m (getV 3))]))))) (G.notM (truthM (.m (keptR (callS f_in_place_right [(.m (getV 4)), (.m (getV 5)), (.m (getV 2)), (.m (getV 3))]))))))
    (retS (M.pure (.bl false)))
    passS)
    (iffS (G.orM (G.notM (truthM (.m (keptR (callS f_alone_right [(.m (getV 4)), (.m (getV 2))]))))) (G.notM (truthM (.m (keptR (callS f_alone_right [(.m (keptR (callKS f_Ratio_of [0] [] ([(.m (getV 5))] ++ [])))), (.m (getV 3))]))))))
    (retS (M.pure (.bl false)))
    passS))) passS)))) passS)
    (retS (keptR (callS f_register_right [(.s 0)]))))
def f_right : List SD → R SD := runF 1 7 m_right
/-! _law_pot -/
abbrev s_pot : Stmt := topS 14
theorem sc_pot : FnScope ["_law_script", "_law_k", "_law_cell"] ["_law_script", "_law_k"] (defScope s_pot) := ⟨rfl, rfl, rfl, by decide +kernel, rfl, by decide +kernel, by decide +kernel⟩
def m_pot : M Fl :=
  (seqS (setS 2 (binM addA (.m (binM mulA (.m (M.pure (.int 29))) (.s 1))) (.m (M.pure (.int 8)))))
    (seqS (iffS (testM (binM ltD (.s 1) (.m (callM lenD [(.s 0)]))))
    (setS 2 (callM absD [(.m (binM ixD (.s 0) (.s 1)))]))
    passS)
    (retO (lstM [(callM maxD [(.m (M.pure (.int 0))), (.m (binM subD (.s 2) (.m (binM powD (.m (M.pure (.int 10))) (.m (M.pure (.int 18)))))))]), (binM addA (.m (binM modD (.m (binM mulA (.m (callM intD [(.m (binM addA (.m (binM modD (.m (callM intD [(.s 2)])) (.m (M.pure (.int 2147483549))))) (.m (M.pure (.int 7)))))])) (.m (binM powD (.m (binM addA (.m (binM mulA (.m (M.pure (.int 2))) (.s 1))) (.m (M.pure (.int 3))))) (.m (M.pure (.int 3))))))) (.m (M.pure (.int 2147483477))))) (.m (M.pure (.int 1))))]))))
def f_pot : List SD → R SD := runF 2 3 m_pot
/-! law -/
abbrev s_law : Stmt := topS 36
theorem sc_law : FnScope ["_law_script", "_law_k"] ["_law_script"] (defScope s_law) := ⟨rfl, rfl, rfl, by decide +kernel, rfl, by decide +kernel, by decide +kernel⟩
def m_law : M Fl :=
  (retS (callM allD [(.m (lcM [1] (rng1M (.m (callM maxD [(.m (M.pure (.int 1))), (.m (callM minD [(.m (M.pure (.int 4))), (.m (callM lenD [(.s 0)]))]))]))) (storeM 1) (M.pure true) (keptR (callN1 f_right (ownR (callS f_pot [(.m (getV 0)), (.m (getV 1))]))))))]))
def f_law : List SD → R SD := runF 1 2 m_law
/-! what the top has written -/
structure Tk (K : PySem.W.Frag) (ad cm : Nat → Addr) : Prop where
  d_frac : DefAt K "_law_frac" "_law_frac" s_frac (ad 0)
  d_draw : DefAt K "_law_draw" "_law_draw" s_draw (ad 1)
  d_pick : DefAt K "_law_pick" "_law_pick" s_pick (ad 2)
  d_drawn : DefAt K "_law_drawn" "_law_drawn" s_drawn (ad 3)
  d_common_divisor : DefAt K "common_divisor" "common_divisor" s_common_divisor (ad 4)
  d_is_integer : DefAt K "is_integer" "is_integer" s_is_integer (ad 5)
  d_Ratio_init : DefD K "__init__" "Ratio.__init__" s_Ratio_init (ad 6) [.int 1]
  d_Ratio_neg : DefAt K "__neg__" "Ratio.__neg__" s_Ratio_neg (ad 7)
  d_Ratio_str : DefAt K "__str__" "Ratio.__str__" s_Ratio_str (ad 8)
  d_are_figures : DefAt K "are_figures" "are_figures" s_are_figures (ad 9)
  d_Ratio_read : DefAt K "read" "Ratio.read" s_Ratio_read (ad 10)
  d_parts_of : DefAt K "parts_of" "parts_of" s_parts_of (ad 11)
  d_Ratio_of : DefAt K "of" "Ratio.of" s_Ratio_of (ad 12)
  d_text : DefAt K "_law_text" "_law_text" s_text (ad 13)
  d_made : DefAt K "_law_made" "_law_made" s_made (ad 14)
  d_side : DefAt K "_law_side" "_law_side" s_side (ad 15)
  d_Ratio_add : DefAt K "__add__" "Ratio.__add__" s_Ratio_add (ad 16)
  d_Ratio_radd : DefAt K "__radd__" "Ratio.__radd__" s_Ratio_radd (ad 17)
  d_plus : DefAt K "_law_plus" "_law_plus" s_plus (ad 18)
  d_Ratio_top : DefAt K "top" "Ratio.top" s_Ratio_top (ad 19)
  d_Ratio_bottom : DefAt K "bottom" "Ratio.bottom" s_Ratio_bottom (ad 20)
  d_told : DefAt K "_law_told" "_law_told" s_told (ad 21)
  d_Ratio_sub : DefAt K "__sub__" "Ratio.__sub__" s_Ratio_sub (ad 22)
  d_Ratio_rsub : DefAt K "__rsub__" "Ratio.__rsub__" s_Ratio_rsub (ad 23)
  d_less : DefAt K "_law_less" "_law_less" s_less (ad 24)
  d_Ratio_mul : DefAt K "__mul__" "Ratio.__mul__" s_Ratio_mul (ad 25)
  d_Ratio_rmul : DefAt K "__rmul__" "Ratio.__rmul__" s_Ratio_rmul (ad 26)
  d_times : DefAt K "_law_times" "_law_times" s_times (ad 27)
  d_Ratio_over : DefAt K "over" "Ratio.over" s_Ratio_over (ad 28)
  d_Ratio_floordiv : DefAt K "__floordiv__" "Ratio.__floordiv__" s_Ratio_floordiv (ad 29)
  d_Ratio_rfloordiv : DefAt K "__rfloordiv__" "Ratio.__rfloordiv__" s_Ratio_rfloordiv (ad 30)
  d_Ratio_mod : DefAt K "__mod__" "Ratio.__mod__" s_Ratio_mod (ad 31)
  d_Ratio_rmod : DefAt K "__rmod__" "Ratio.__rmod__" s_Ratio_rmod (ad 32)
  d_floor : DefAt K "_law_floor" "_law_floor" s_floor (ad 33)
  d_rest : DefAt K "_law_rest" "_law_rest" s_rest (ad 34)
  d_Ratio_abs : DefAt K "__abs__" "Ratio.__abs__" s_Ratio_abs (ad 35)
  d_register_right : DefAt K "_law_register_right" "_law_register_right" s_register_right (ad 36)
  d_sums_right : DefAt K "_law_sums_right" "_law_sums_right" s_sums_right (ad 37)
  d_Ratio_floor : DefAt K "floor" "Ratio.floor" s_Ratio_floor (ad 38)
  d_are_integers : DefAt K "_law_are_integers" "_law_are_integers" s_are_integers (ad 39)
  d_quotients_right : DefAt K "_law_quotients_right" "_law_quotients_right" s_quotients_right (ad 40)
  d_Ratio_compare : DefAt K "compare" "Ratio.compare" s_Ratio_compare (ad 41)
  d_Ratio_eq : DefAt K "__eq__" "Ratio.__eq__" s_Ratio_eq (ad 42)
  d_order_right : DefAt K "_law_order_right" "_law_order_right" s_order_right (ad 43)
  d_in_place_right : DefAt K "_law_in_place_right" "_law_in_place_right" s_in_place_right (ad 44)
  d_Ratio_ceiling : DefAt K "ceiling" "Ratio.ceiling" s_Ratio_ceiling (ad 45)
  d_Ratio_repr : DefAt K "__repr__" "Ratio.__repr__" s_Ratio_repr (ad 46)
  d_alone_right : DefAt K "_law_alone_right" "_law_alone_right" s_alone_right (ad 47)
  d_right : DefAt K "_law_right" "_law_right" s_right (ad 48)
  d_pot : DefAt K "_law_pot" "_law_pot" s_pot (ad 49)
  d_law : DefAt K "law" "law" s_law (ad 50)
  g_FIGURES : ∃ t : Tok, PySem.W.nsIn K mainGlobals "FIGURES" = some (some (.str "0123456789" t))
  g_Ratio : PySem.W.nsIn K mainGlobals "Ratio" = some (some (.ref (cm 1)))
  g__law_alone_right : PySem.W.nsIn K mainGlobals "_law_alone_right" = some (some (.ref (ad 47)))
  g__law_are_integers : PySem.W.nsIn K mainGlobals "_law_are_integers" = some (some (.ref (ad 39)))
  g__law_draw : PySem.W.nsIn K mainGlobals "_law_draw" = some (some (.ref (ad 1)))
  g__law_drawn : PySem.W.nsIn K mainGlobals "_law_drawn" = some (some (.ref (ad 3)))
  g__law_floor : PySem.W.nsIn K mainGlobals "_law_floor" = some (some (.ref (ad 33)))
  g__law_frac : PySem.W.nsIn K mainGlobals "_law_frac" = some (some (.ref (ad 0)))
  g__law_in_place_right : PySem.W.nsIn K mainGlobals "_law_in_place_right" = some (some (.ref (ad 44)))
  g__law_less : PySem.W.nsIn K mainGlobals "_law_less" = some (some (.ref (ad 24)))
  g__law_made : PySem.W.nsIn K mainGlobals "_law_made" = some (some (.ref (ad 14)))
  g__law_order_right : PySem.W.nsIn K mainGlobals "_law_order_right" = some (some (.ref (ad 43)))
  g__law_pick : PySem.W.nsIn K mainGlobals "_law_pick" = some (some (.ref (ad 2)))
  g__law_plus : PySem.W.nsIn K mainGlobals "_law_plus" = some (some (.ref (ad 18)))
  g__law_pot : PySem.W.nsIn K mainGlobals "_law_pot" = some (some (.ref (ad 49)))
  g__law_quotients_right : PySem.W.nsIn K mainGlobals "_law_quotients_right" = some (some (.ref (ad 40)))
  g__law_register_right : PySem.W.nsIn K mainGlobals "_law_register_right" = some (some (.ref (ad 36)))
  g__law_rest : PySem.W.nsIn K mainGlobals "_law_rest" = some (some (.ref (ad 34)))
  g__law_right : PySem.W.nsIn K mainGlobals "_law_right" = some (some (.ref (ad 48)))
  g__law_side : PySem.W.nsIn K mainGlobals "_law_side" = some (some (.ref (ad 15)))
  g__law_sums_right : PySem.W.nsIn K mainGlobals "_law_sums_right" = some (some (.ref (ad 37)))
  g__law_text : PySem.W.nsIn K mainGlobals "_law_text" = some (some (.ref (ad 13)))
  g__law_times : PySem.W.nsIn K mainGlobals "_law_times" = some (some (.ref (ad 27)))
  g__law_told : PySem.W.nsIn K mainGlobals "_law_told" = some (some (.ref (ad 21)))
  g_abs : PySem.W.nsIn K mainGlobals "abs" = some none
  g_all : PySem.W.nsIn K mainGlobals "all" = some none
  g_are_figures : PySem.W.nsIn K mainGlobals "are_figures" = some (some (.ref (ad 9)))
  g_bool : PySem.W.nsIn K mainGlobals "bool" = some none
  g_common_divisor : PySem.W.nsIn K mainGlobals "common_divisor" = some (some (.ref (ad 4)))
  g_divmod : PySem.W.nsIn K mainGlobals "divmod" = some none
  g_int : PySem.W.nsIn K mainGlobals "int" = some none
  g_is_integer : PySem.W.nsIn K mainGlobals "is_integer" = some (some (.ref (ad 5)))
  g_isinstance : PySem.W.nsIn K mainGlobals "isinstance" = some none
  g_len : PySem.W.nsIn K mainGlobals "len" = some none
  g_max : PySem.W.nsIn K mainGlobals "max" = some none
  g_min : PySem.W.nsIn K mainGlobals "min" = some none
  g_parts_of : PySem.W.nsIn K mainGlobals "parts_of" = some (some (.ref (ad 11)))
  g_range : PySem.W.nsIn K mainGlobals "range" = some none
  g_repr : PySem.W.nsIn K mainGlobals "repr" = some none
  g_str : PySem.W.nsIn K mainGlobals "str" = some none
  g_law : PySem.W.nsIn K mainGlobals "law" = some (some (.ref (ad 50)))
  c_1 : Cls K (cm 1)
  mk_1 : Mk K (cm 1) (ad 6)
  m_1_init : Meth K (cm 1) "__init__" (ad 6)
  m_1_add : Meth K (cm 1) "__add__" (ad 16)
  m_1_radd : Meth K (cm 1) "__radd__" (ad 17)
  m_1_sub : Meth K (cm 1) "__sub__" (ad 22)
  m_1_rsub : Meth K (cm 1) "__rsub__" (ad 23)
  m_1_mul : Meth K (cm 1) "__mul__" (ad 25)
  m_1_rmul : Meth K (cm 1) "__rmul__" (ad 26)
  m_1_floordiv : Meth K (cm 1) "__floordiv__" (ad 29)
  m_1_rfloordiv : Meth K (cm 1) "__rfloordiv__" (ad 30)
  m_1_mod : Meth K (cm 1) "__mod__" (ad 31)
  m_1_rmod : Meth K (cm 1) "__rmod__" (ad 32)
  m_1_neg : Meth K (cm 1) "__neg__" (ad 7)
  m_1_abs : Meth K (cm 1) "__abs__" (ad 35)
  m_1_over : Meth K (cm 1) "over" (ad 28)
  m_1_compare : Meth K (cm 1) "compare" (ad 41)
  m_1_floor : Meth K (cm 1) "floor" (ad 38)
  m_1_ceiling : Meth K (cm 1) "ceiling" (ad 45)
  m_1_eq : Meth K (cm 1) "__eq__" (ad 42)
  m_1_str : Meth K (cm 1) "__str__" (ad 8)
  m_1_repr : Meth K (cm 1) "__repr__" (ad 46)
  p_1_top : ∃ p, PropOf K (cm 1) "top" p (ad 19)
  p_1_bottom : ∃ p, PropOf K (cm 1) "bottom" p (ad 20)
  k_1 : ∀ τ ∈ kds, PySem.W.notFirst K (cm 1) (tkV ⟨K, cm⟩ τ) = true
  ne_1 : PySem.W.findIn K (.ref (cm 1)) "__ne__" = some (some (.builtin "object.__ne__"))
  ob_1 : PySem.W.mroIn K (cm 1) (.type "object") = some true
  sf_1 : PySem.W.selfFirst K (cm 1) = true
  sb_1 : ∀ T ∈ ks7, PySem.W.subIn K (.ref (cm 1)) (.type T) = some false
  ni_1_add : GW.noOne K (cm 1) "__iadd__" = true
  ni_1_floordiv : GW.noOne K (cm 1) "__ifloordiv__" = true
  ni_1_mod : GW.noOne K (cm 1) "__imod__" = true
  ni_1_mul : GW.noOne K (cm 1) "__imul__" = true
  ni_1_sub : GW.noOne K (cm 1) "__isub__" = true
  sm_1_of : SMet K (cm 1) "of" (ad 12)
  sm_1_read : SMet K (cm 1) "read" (ad 10)
  n_1_own_bottom : NoAttr K (cm 1) "own_bottom"
  n_1_own_top : NoAttr K (cm 1) "own_top"
  isa : CfgOk ⟨K, cm⟩ cfg
section
variable {P : Program} {w : World} {K : PySem.W.Frag} {mg : Str → Option Value} {base : Heap} {ad cm : Nat → Addr}
theorem okS_frac (T : Tk K ad cm) (X0 : K.In base) (G0 : base.Ns mainGlobals mg) : Gs P w K mg base ⟨K, cm⟩ 1 "_law_frac" "_law_frac" s_frac (ad 0) ["_law_up", "_law_down"] f_frac := by
  refine DefAt.okS T.d_frac sc_frac rfl rfl (by decide) fun cdv A outer s H E F0 H0 pr hr hg => ?_
  have mg_abs : mg "abs" = none := PySem.W.mg_none_of X0 G0 T.g_abs
  have mg_max : mg "max" = none := PySem.W.mg_none_of X0 G0 T.g_max
  exact (dss_cons (ds_par2 2 3 rfl sc_frac.nd (dps_k (fun _ _ _ => (d_abs mg_abs (do_s 0))) (dps_k (fun _ _ _ => (d_abs mg_abs (do_s 1))) dps_nil)))
    (dss_cons (ds_while fuelN passB (dt_cmp ov_gt (op_gtD hr.units) (do_s 3) (do_m d_int) (nomark _))
    (dss_one (ds_par2 2 3 rfl sc_frac.nd (dps_k (fun _ _ _ => (d_var 3)) (dps_k (fun _ _ _ => (d_sub (do_s 2) (do_m (d_mul (do_m (d_fdiv (do_s 2) (do_s 3))) (do_s 3))))) dps_nil)))))
    (dss_cons (ds_if (dt_cmp ov_lt (op_ltD hr.units) (do_s 1) (do_m d_int) (nomark _))
    (dss_one (ds_par2 0 1 rfl sc_frac.nd (dps_k (fun _ _ _ => (d_sub (do_m d_int) (do_s 0))) (dps_k (fun _ _ _ => (d_sub (do_m d_int) (do_s 1))) dps_nil))))
    dss_nil)
    (dss_one (ds_ret (d_tup (dc_cons (d_fdiv (do_s 0) (do_m (d_max2 mg_max rfl (do_m d_int) (do_s 2)))) (dc_cons (d_fdiv (do_s 1) (do_m (d_max2 mg_max rfl (do_m d_int) (do_s 2)))) dc_nil))))))))
theorem ok_frac (T : Tk K ad cm) (X0 : K.In base) (G0 : base.Ns mainGlobals mg) : Gd P w K mg base ⟨K, cm⟩ 1 (ad 0) f_frac :=
  (okS_frac T X0 G0).gd fun _ _ _ _ _ _ us hl => match us, hl with | [_, _], _ => rfl
theorem okS_draw (T : Tk K ad cm) (X0 : K.In base) (G0 : base.Ns mainGlobals mg) : Gs P w K mg base ⟨K, cm⟩ 1 "_law_draw" "_law_draw" s_draw (ad 1) ["_law_pot_here", "_law_size"] f_draw := by
  refine DefAt.okS T.d_draw sc_draw rfl rfl (by decide) fun cdv A outer s H E F0 H0 pr hr hg => ?_
  have mg_divmod : mg "divmod" = none := PySem.W.mg_none_of X0 G0 T.g_divmod
  have mg_int : mg "int" = none := PySem.W.mg_none_of X0 G0 T.g_int
  exact (dss_cons (ds_if (dt_cmp ov_gt (op_gtD hr.units) (do_m (d_ix (ix_all (hu_of hr)) (do_s 0) (do_m d_int))) (do_m d_int) (nomark _))
    (dss_cons (ds_asg (d_divmod mg_divmod (do_m (d_ix (ix_all (hu_of hr)) (do_s 0) (do_m d_int))) (do_s 1)) (dg_tup rfl (dgs_cons (dg_ix 0 (hu_of hr) (do_m d_int)) (dgs_cons (dg_name 2 sc_draw.nd) dgs_nil))))
    (dss_one (ds_retV 2)))
    dss_nil)
    (dss_cons (ds_asg (d_mod (do_m (d_int1 mg_int (do_m (d_add (do_m (d_mul (do_m (d_ix (ix_all (hu_of hr)) (do_s 0) (do_m d_int))) (do_m d_int))) (do_m d_int))))) (do_m d_int)) (dg_ix 0 (hu_of hr) (do_m d_int)))
    (dss_one (ds_ret (d_mod (do_m (d_int1 mg_int (do_m (d_fdiv (do_m (d_mod (do_m (d_int1 mg_int (do_m (d_mul (do_m (d_ix (ix_all (hu_of hr)) (do_s 0) (do_m d_int))) (do_m (d_ix (ix_all (hu_of hr)) (do_s 0) (do_m d_int))))))) (do_m d_int))) (do_m d_int))))) (do_s 1))))))
theorem ok_draw (T : Tk K ad cm) (X0 : K.In base) (G0 : base.Ns mainGlobals mg) : Gd P w K mg base ⟨K, cm⟩ 1 (ad 1) f_draw :=
  (okS_draw T X0 G0).gd fun _ _ _ _ _ _ us hl => match us, hl with | [_, _], _ => rfl
theorem okS_pick (T : Tk K ad cm) (X0 : K.In base) (G0 : base.Ns mainGlobals mg) : Gs P w K mg base ⟨K, cm⟩ 2 "_law_pick" "_law_pick" s_pick (ad 2) ["_law_pot_here", "_law_some"] f_pick := by
  refine DefAt.okS T.d_pick sc_pick rfl rfl (by decide) fun cdv A outer s H E F0 H0 pr hr hg => ?_
  have mg__law_draw := PySem.W.mg_of X0 G0 T.g__law_draw
  have mg_len : mg "len" = none := PySem.W.mg_none_of X0 G0 T.g_len
  have G_draw : Gd P w K mg base ⟨K, cm⟩ 1 (ad 1) f_draw := ok_draw T X0 G0
  exact (dss_one (ds_ret (d_ix (ix_all (hu_of hr)) (do_s 1) (do_m (d_callG (Gd.gf G_draw) (hr.mono (by decide)) hg takesB rfl mg__law_draw (da_cons (do_s 0) (da_cons (do_m (d_len mg_len (do_s 1))) da_nil)))))))
theorem ok_pick (T : Tk K ad cm) (X0 : K.In base) (G0 : base.Ns mainGlobals mg) : Gd P w K mg base ⟨K, cm⟩ 2 (ad 2) f_pick :=
  (okS_pick T X0 G0).gd fun _ _ _ _ _ _ us hl => match us, hl with | [_, _], _ => rfl
theorem okS_drawn (T : Tk K ad cm) (X0 : K.In base) (G0 : base.Ns mainGlobals mg) : Gs P w K mg base ⟨K, cm⟩ 3 "_law_drawn" "_law_drawn" s_drawn (ad 3) ["_law_pot_here"] f_drawn := by
  refine DefAt.okS T.d_drawn sc_drawn rfl rfl (by decide) fun cdv A outer s H E F0 H0 pr hr hg => ?_
  have mg__law_draw := PySem.W.mg_of X0 G0 T.g__law_draw
  have mg__law_frac := PySem.W.mg_of X0 G0 T.g__law_frac
  have mg__law_pick := PySem.W.mg_of X0 G0 T.g__law_pick
  have mg_int : mg "int" = none := PySem.W.mg_none_of X0 G0 T.g_int
  have G_draw : Gd P w K mg base ⟨K, cm⟩ 1 (ad 1) f_draw := ok_draw T X0 G0
  have G_pick : Gd P w K mg base ⟨K, cm⟩ 2 (ad 2) f_pick := ok_pick T X0 G0
  have G_frac : Gd P w K mg base ⟨K, cm⟩ 1 (ad 0) f_frac := ok_frac T X0 G0
  exact (dss_cons (ds_setN 1 (d_lst (dc_cons d_int (dc_cons (d_sub (do_m (d_callG (Gd.gf G_draw) (hr.mono (by decide)) hg takesB rfl mg__law_draw (da_cons (do_s 0) (da_cons (do_m d_int) da_nil)))) (do_m d_int)) (dc_cons (d_sub (do_m (d_callG (Gd.gf G_draw) (hr.mono (by decide)) hg takesB rfl mg__law_draw (da_cons (do_s 0) (da_cons (do_m d_int) da_nil)))) (do_m d_int)) (dc_cons (d_sub (do_m (d_callG (Gd.gf G_draw) (hr.mono (by decide)) hg takesB rfl mg__law_draw (da_cons (do_s 0) (da_cons (do_m (d_pow (do_m d_int) (do_m d_int))) da_nil)))) (do_m (d_mul (do_m d_int) (do_m (d_pow (do_m d_int) (do_m d_int)))))) dc_nil))))) sc_drawn.nd)
    (dss_cons (ds_asg (d_if (dt_cmp ov_gt (op_gtD hr.units) (do_m (d_mod (do_m (d_int1 mg_int (do_m (d_ix (ix_all (hu_of hr)) (do_s 1) (do_m d_int))))) (do_m d_int))) (do_m d_int) (nomark _)) (d_ix (ix_all (hu_of hr)) (do_s 1) (do_m d_int)) (d_add (do_m (d_mul (do_m (d_ix (ix_all (hu_of hr)) (do_s 1) (do_m d_int))) (do_m (d_pow (do_m d_int) (do_m d_int))))) (do_m d_int))) (dg_ix 1 (hu_of hr) (do_m d_int)))
    (dss_cons (ds_set 2 (DN.kept (d_lst (dc_cons d_int (dc_cons d_int (dc_cons (d_add (do_m d_int) (do_m (d_callG (Gd.gf G_draw) (hr.mono (by decide)) hg takesB rfl mg__law_draw (da_cons (do_s 0) (da_cons (do_m d_int) da_nil))))) (dc_cons (d_add (do_m d_int) (do_m (d_callG (Gd.gf G_draw) (hr.mono (by decide)) hg takesB rfl mg__law_draw (da_cons (do_s 0) (da_cons (do_m d_int) da_nil))))) (dc_cons (d_add (do_m d_int) (do_m (d_callG (Gd.gf G_draw) (hr.mono (by decide)) hg takesB rfl mg__law_draw (da_cons (do_s 0) (da_cons (do_m (d_pow (do_m d_int) (do_m d_int))) da_nil))))) dc_nil))))))) sc_drawn.nd)
    (dss_one (ds_ret (d_callG (Gd.gf G_frac) (hr.mono (by decide)) hg takesB rfl mg__law_frac (da_cons (do_m (d_callG (Gd.gf G_pick) (hr.mono (by decide)) hg takesB rfl mg__law_pick (da_cons (do_s 0) (da_cons (do_s 1) da_nil)))) (da_cons (do_m (d_callG (Gd.gf G_pick) (hr.mono (by decide)) hg takesB rfl mg__law_pick (da_cons (do_s 0) (da_cons (do_m (d_var 2)) da_nil)))) da_nil))))))))
theorem ok_drawn (T : Tk K ad cm) (X0 : K.In base) (G0 : base.Ns mainGlobals mg) : Gd P w K mg base ⟨K, cm⟩ 3 (ad 3) f_drawn :=
  (okS_drawn T X0 G0).gd fun _ _ _ _ _ _ us hl => match us, hl with | [_], _ => rfl
theorem okS_common_divisor (T : Tk K ad cm) (X0 : K.In base) (G0 : base.Ns mainGlobals mg) : Gs P w K mg base ⟨K, cm⟩ 1 "common_divisor" "common_divisor" s_common_divisor (ad 4) ["one", "other"] f_common_divisor := by
  refine DefAt.okS T.d_common_divisor sc_common_divisor rfl rfl (by decide) fun cdv A outer s H E F0 H0 pr hr hg => ?_
  have mg_int : mg "int" = none := PySem.W.mg_none_of X0 G0 T.g_int
  exact (dss_cons (ds_while fuelN passB (dt_cmp ov_gt (op_gtD hr.units) (do_s 1) (do_m d_int) (nomark _))
    (dss_one (ds_par2 0 1 rfl sc_common_divisor.nd (dps_k (fun _ _ _ => (d_var 1)) (dps_k (fun _ _ _ => (d_mod (do_m (d_int1 mg_int (do_s 0))) (do_s 1))) dps_nil)))))
    (dss_one (ds_retV 0)))
theorem ok_common_divisor (T : Tk K ad cm) (X0 : K.In base) (G0 : base.Ns mainGlobals mg) : Gd P w K mg base ⟨K, cm⟩ 1 (ad 4) f_common_divisor :=
  (okS_common_divisor T X0 G0).gd fun _ _ _ _ _ _ us hl => match us, hl with | [_, _], _ => rfl
theorem okS_is_integer (T : Tk K ad cm) (X0 : K.In base) (G0 : base.Ns mainGlobals mg) : Gs P w K mg base ⟨K, cm⟩ 1 "is_integer" "is_integer" s_is_integer (ad 5) ["value"] f_is_integer := by
  refine DefAt.okS T.d_is_integer sc_is_integer rfl rfl (by decide) fun cdv A outer s H E F0 H0 pr hr hg => ?_
  have mg_bool : mg "bool" = none := PySem.W.mg_none_of X0 G0 T.g_bool
  have mg_int : mg "int" = none := PySem.W.mg_none_of X0 G0 T.g_int
  have mg_isinstance : mg "isinstance" = none := PySem.W.mg_none_of X0 G0 T.g_isinstance
  exact (dss_one (ds_ret (d_and (d_isin T.isa mg_isinstance (do_s 0) (do_m (d_ty mg_int))) (d_one (d_not (do_m (d_isin T.isa mg_isinstance (do_s 0) (do_m (d_ty mg_bool)))))))))
theorem ok_is_integer (T : Tk K ad cm) (X0 : K.In base) (G0 : base.Ns mainGlobals mg) : Gd P w K mg base ⟨K, cm⟩ 1 (ad 5) f_is_integer :=
  (okS_is_integer T X0 G0).gd fun _ _ _ _ _ _ us hl => match us, hl with | [_], _ => rfl
theorem okS_Ratio_init (T : Tk K ad cm) (X0 : K.In base) (G0 : base.Ns mainGlobals mg) : GsD P w K mg base ⟨K, cm⟩ 2 "__init__" "Ratio.__init__" s_Ratio_init (ad 6) ["self", "top", "bottom"] f_Ratio_init [.int 1] := by
  refine DefD.okS T.d_Ratio_init sc_Ratio_init rfl rfl (by decide) fun cdv A outer s H E F0 H0 pr hr hg => ?_
  have mg_abs : mg "abs" = none := PySem.W.mg_none_of X0 G0 T.g_abs
  have mg_common_divisor := PySem.W.mg_of X0 G0 T.g_common_divisor
  have mg_is_integer := PySem.W.mg_of X0 G0 T.g_is_integer
  have G_is_integer : Gd P w K mg base ⟨K, cm⟩ 1 (ad 5) f_is_integer := ok_is_integer T X0 G0
  have G_common_divisor : Gd P w K mg base ⟨K, cm⟩ 1 (ad 4) f_common_divisor := ok_common_divisor T X0 G0
  exact (dss_cons (ds_if (dt_not (dt_tru (do_m (d_callG (Gd.gf G_is_integer) (hr.mono (by decide)) hg takesB rfl mg_is_integer (da_cons (do_m (d_var 1)) da_nil)))))
    (dss_one ds_never)
    dss_nil)
    (dss_cons (ds_if (dt_bool (dw_or (dt_not (dt_tru (do_m (d_callG (Gd.gf G_is_integer) (hr.mono (by decide)) hg takesB rfl mg_is_integer (da_cons (do_m (d_var 2)) da_nil))))) (dw_or1 (dt_cmp ov_eq (op_eqD hr.units) (do_s 2) (do_m d_int) (nomark _)))))
    (dss_one ds_never)
    dss_nil)
    (dss_cons (ds_set 3 (d_callG (Gd.gf G_common_divisor) (hr.mono (by decide)) hg takesB rfl mg_common_divisor (da_cons (do_m (d_abs mg_abs (do_s 1))) (da_cons (do_m (d_abs mg_abs (do_s 2))) da_nil))) sc_Ratio_init.nd)
    (dss_cons (ds_if (dt_cmp ov_lt (op_ltD hr.units) (do_s 2) (do_m d_int) (nomark _))
    (dss_one (ds_set 3 (d_sub (do_m d_int) (do_s 3)) sc_Ratio_init.nd))
    dss_nil)
    (dss_cons (ds_fld "own_top" 0 [1] rfl (by intro c hc; (rcases List.mem_cons.mp hc with rfl | hc; exact ⟨T.c_1, T.n_1_own_top⟩); cases hc) (d_fdiv (do_s 1) (do_s 3)))
    (dss_one (ds_fld "own_bottom" 0 [1] rfl (by intro c hc; (rcases List.mem_cons.mp hc with rfl | hc; exact ⟨T.c_1, T.n_1_own_bottom⟩); cases hc) (d_fdiv (do_s 2) (do_s 3)))))))))
theorem okS_Ratio_neg (T : Tk K ad cm) (X0 : K.In base) (G0 : base.Ns mainGlobals mg) : Gs P w K mg base ⟨K, cm⟩ 4 "__neg__" "Ratio.__neg__" s_Ratio_neg (ad 7) ["self"] f_Ratio_neg := by
  refine DefAt.okS T.d_Ratio_neg sc_Ratio_neg rfl rfl (by decide) fun cdv A outer s H E F0 H0 pr hr hg => ?_
  have mg_Ratio := PySem.W.mg_of X0 G0 T.g_Ratio
  exact (dss_one (ds_ret (DN.kept (d_makeK (c := 1) 2 [0, 1] [.int 1] (GsD.gmk (ks := []) (ds := [.int 1]) (okS_Ratio_init T X0 G0) T.mk_1 (by simp) (fun _ => (.cons .int .nil)) (by decide) fun _ _ _ _ _ _ _ pre us ws its h1 h2 h3 h4 => match pre, us, ws, its, h1, h2, h3, h4 with | [_], [_, _], [], [_], _, _, _, _ => ⟨_, rfl, rfl⟩) (hr.mono (by decide)) hg takesB rfl mg_Ratio (da_cons (do_m (d_sub (do_m d_int) (do_m (d_attr "own_top" [(1, .fld)] hg rfl (AccsOk.cons (.fld T.c_1 T.n_1_own_top) AccsOk.nil) (do_s 0))))) (da_cons (do_m (d_attr "own_bottom" [(1, .fld)] hg rfl (AccsOk.cons (.fld T.c_1 T.n_1_own_bottom) AccsOk.nil) (do_s 0))) da_nil)) dk_nil))))
theorem ok_Ratio_neg (T : Tk K ad cm) (X0 : K.In base) (G0 : base.Ns mainGlobals mg) : Gd P w K mg base ⟨K, cm⟩ 4 (ad 7) f_Ratio_neg :=
  (okS_Ratio_neg T X0 G0).gd fun _ _ _ _ _ _ us hl => match us, hl with | [_], _ => rfl
theorem okS_Ratio_str (T : Tk K ad cm) (X0 : K.In base) (G0 : base.Ns mainGlobals mg) : Gs P w K mg base ⟨K, cm⟩ 1 "__str__" "Ratio.__str__" s_Ratio_str (ad 8) ["self"] f_Ratio_str := by
  refine DefAt.okS T.d_Ratio_str sc_Ratio_str rfl rfl (by decide) fun cdv A outer s H E F0 H0 pr hr hg => ?_
  have mg_str : mg "str" = none := PySem.W.mg_none_of X0 G0 T.g_str
  exact (dss_cons (ds_if (dt_cmp ov_eq (op_eqD hr.units) (do_m (d_attr "own_bottom" [(1, .fld)] hg rfl (AccsOk.cons (.fld T.c_1 T.n_1_own_bottom) AccsOk.nil) (do_s 0))) (do_m d_int) (nomark _))
    (dss_one (ds_ret (d_str1 (OwnOps.nil (kinds := [])) hg hr.units rfl mg_str (d_attr "own_top" [(1, .fld)] hg rfl (AccsOk.cons (.fld T.c_1 T.n_1_own_top) AccsOk.nil) (do_s 0)))))
    dss_nil)
    (dss_one (ds_ret (d_joined (.cons (d_fmt (d_attr "own_top" [(1, .fld)] hg rfl (AccsOk.cons (.fld T.c_1 T.n_1_own_top) AccsOk.nil) (do_s 0))) (.cons d_str (.cons (d_fmt (d_attr "own_bottom" [(1, .fld)] hg rfl (AccsOk.cons (.fld T.c_1 T.n_1_own_bottom) AccsOk.nil) (do_s 0))) .nil)))))))
theorem ok_Ratio_str (T : Tk K ad cm) (X0 : K.In base) (G0 : base.Ns mainGlobals mg) : Gd P w K mg base ⟨K, cm⟩ 1 (ad 8) f_Ratio_str :=
  (okS_Ratio_str T X0 G0).gd fun _ _ _ _ _ _ us hl => match us, hl with | [_], _ => rfl
theorem okS_are_figures (T : Tk K ad cm) (X0 : K.In base) (G0 : base.Ns mainGlobals mg) : Gs P w K mg base ⟨K, cm⟩ 1 "are_figures" "are_figures" s_are_figures (ad 9) ["text"] f_are_figures := by
  refine DefAt.okS T.d_are_figures sc_are_figures rfl rfl (by decide) fun cdv A outer s H E F0 H0 pr hr hg => ?_
  obtain ⟨t_FIGURES, ht_FIGURES⟩ := T.g_FIGURES
  have mg_FIGURES := PySem.W.mg_of X0 G0 ht_FIGURES
  have mg_all : mg "all" = none := PySem.W.mg_none_of X0 G0 T.g_all
  exact (dss_one (ds_ret (d_and (d_cmp ov_ne (op_neD hr.units) (do_s 0) (do_m d_str) (nomark _)) (d_one (d_all mg_all rfl (do_m (DN.kept (d_lc rfl sc_are_figures.nd (blkOk_by (own := [("sign", 1)]) rfl) rfl (di_any (d_var 0)) (fun _ _ _ _ _ _ _ _ => (dgw_name 1 sc_are_figures.nd)) (fun _ _ _ _ _ _ _ _ => dts_nil) (fun _ _ _ _ _ _ _ _ => (d_cmp ov_in (op_inG (roomU hr)) (do_s 1) (do_m (d_gstr mg_FIGURES)) rfl))))))))))
theorem ok_are_figures (T : Tk K ad cm) (X0 : K.In base) (G0 : base.Ns mainGlobals mg) : Gd P w K mg base ⟨K, cm⟩ 1 (ad 9) f_are_figures :=
  (okS_are_figures T X0 G0).gd fun _ _ _ _ _ _ us hl => match us, hl with | [_], _ => rfl
theorem okS_Ratio_read (T : Tk K ad cm) (X0 : K.In base) (G0 : base.Ns mainGlobals mg) : Gs P w K mg base ⟨K, cm⟩ 7 "read" "Ratio.read" s_Ratio_read (ad 10) ["text"] f_Ratio_read := by
  refine DefAt.okS T.d_Ratio_read sc_Ratio_read rfl rfl (by decide) fun cdv A outer s H E F0 H0 pr hr hg => ?_
  have mg_Ratio := PySem.W.mg_of X0 G0 T.g_Ratio
  have mg_all : mg "all" = none := PySem.W.mg_none_of X0 G0 T.g_all
  have mg_are_figures := PySem.W.mg_of X0 G0 T.g_are_figures
  have mg_int : mg "int" = none := PySem.W.mg_none_of X0 G0 T.g_int
  have mg_isinstance : mg "isinstance" = none := PySem.W.mg_none_of X0 G0 T.g_isinstance
  have mg_len : mg "len" = none := PySem.W.mg_none_of X0 G0 T.g_len
  have mg_str : mg "str" = none := PySem.W.mg_none_of X0 G0 T.g_str
  have G_are_figures : Gd P w K mg base ⟨K, cm⟩ 1 (ad 9) f_are_figures := ok_are_figures T X0 G0
  have G_Ratio_neg : Gd P w K mg base ⟨K, cm⟩ 4 (ad 7) f_Ratio_neg := ok_Ratio_neg T X0 G0
  have G_Ratio_str : Gd P w K mg base ⟨K, cm⟩ 1 (ad 8) f_Ratio_str := ok_Ratio_str T X0 G0
  exact (dss_cons (ds_if (dt_not (dt_tru (do_m (d_isin T.isa mg_isinstance (do_s 0) (do_m (d_ty mg_str))))))
    (dss_one ds_never)
    dss_nil)
    (dss_cons (ds_set 1 (d_if (dt_tru (do_m (d_start (do_s 0) (do_m d_str)))) (d_sl (do_s 0) (dp_some (do_m d_int)) dp_none) (d_var 0)) sc_Ratio_read.nd)
    (dss_cons (ds_set 2 (DN.kept (d_split (do_s 1) (do_m d_str))) sc_Ratio_read.nd)
    (dss_cons (ds_if (dt_bool (dw_or (dt_cmp ov_gt (op_gtD hr.units) (do_m (d_len mg_len (do_s 2))) (do_m d_int) (nomark _)) (dw_or (dt_not (dt_tru (do_m (d_all mg_all rfl (do_m (DN.kept (d_lc rfl sc_Ratio_read.nd (blkOk_by (own := [("part", 4)]) rfl) rfl (di_any (d_var 2)) (fun _ _ _ _ _ _ _ _ => (dgw_name 4 sc_Ratio_read.nd)) (fun _ _ _ _ _ _ _ _ => dts_nil) (fun _ _ _ _ _ _ _ _ => (d_callG (Gd.gf G_are_figures) (hr.mono (by decide)) hg G.takes0 rfl mg_are_figures (da_cons (do_m (d_var 4)) da_nil)))))))))) (dw_or1 (dt_bool (dw_and (dt_cmp ov_eq (op_eqD hr.units) (do_m (d_intT mg_int (do_m (d_ix (ix_all (hu_of hr)) (do_s 2) (do_m (d_un uv_neg un_neg (do_m d_int))))))) (do_m d_int) (nomark _)) (dw_and1 (dt_cmp ov_eq (op_eqD hr.units) (do_m (d_len mg_len (do_s 2))) (do_m d_int) (nomark _)))))))))
    (dss_one ds_never)
    dss_nil)
    (dss_cons (ds_set 3 (DN.kept (d_makeK (c := 1) 2 [0, 1] [.int 1] (GsD.gmk (ks := []) (ds := [.int 1]) (okS_Ratio_init T X0 G0) T.mk_1 (by simp) (fun _ => (.cons .int .nil)) (by decide) fun _ _ _ _ _ _ _ pre us ws its h1 h2 h3 h4 => match pre, us, ws, its, h1, h2, h3, h4 with | [_], [_, _], [], [_], _, _, _, _ => ⟨_, rfl, rfl⟩) (hr.mono (by decide)) hg takesB rfl mg_Ratio (da_cons (do_m (d_intT mg_int (do_m (d_ix (ix_all (hu_of hr)) (do_s 2) (do_m d_int))))) (da_cons (do_m (d_if (dt_cmp ov_eq (op_eqD hr.units) (do_m (d_len mg_len (do_s 2))) (do_m d_int) (nomark _)) (d_intT mg_int (do_m (d_ix (ix_all (hu_of hr)) (do_s 2) (do_m d_int)))) d_int)) da_nil)) dk_nil)) sc_Ratio_read.nd)
    (dss_cons (ds_set 3 (d_if (dt_tru (do_m (d_start (do_s 0) (do_m d_str)))) (d_unK (uk_own (OwnOps.cons ⟨⟨_, _, (Gd.gf G_Ratio_neg), hr.mono (by decide), T.m_1_neg.at_, T.m_1_neg.fn⟩, T.k_1⟩ OwnOps.nil) uv_neg) (UnR.or (un_ownNeg hg) un_neg) (d_var 3)) (d_var 3)) sc_Ratio_read.nd)
    (dss_cons (ds_if (dt_cmp ov_ne (op_neD hr.units) (do_m (d_str1 (OwnOps.cons ⟨⟨_, _, (Gd.gf G_Ratio_str), hr.mono (by decide), T.m_1_str.at_, T.m_1_str.fn⟩, T.k_1⟩ OwnOps.nil) hg hr.units rfl mg_str (d_var 3))) (do_s 0) (nomark _))
    (dss_one ds_never)
    dss_nil)
    (dss_one (ds_retV 3)))))))))
theorem ok_Ratio_read (T : Tk K ad cm) (X0 : K.In base) (G0 : base.Ns mainGlobals mg) : Gd P w K mg base ⟨K, cm⟩ 7 (ad 10) f_Ratio_read :=
  (okS_Ratio_read T X0 G0).gd fun _ _ _ _ _ _ us hl => match us, hl with | [_], _ => rfl
theorem okS_parts_of (T : Tk K ad cm) (X0 : K.In base) (G0 : base.Ns mainGlobals mg) : Gs P w K mg base ⟨K, cm⟩ 2 "parts_of" "parts_of" s_parts_of (ad 11) ["value"] f_parts_of := by
  refine DefAt.okS T.d_parts_of sc_parts_of rfl rfl (by decide) fun cdv A outer s H E F0 H0 pr hr hg => ?_
  have mg_Ratio := PySem.W.mg_of X0 G0 T.g_Ratio
  have mg_is_integer := PySem.W.mg_of X0 G0 T.g_is_integer
  have mg_isinstance : mg "isinstance" = none := PySem.W.mg_none_of X0 G0 T.g_isinstance
  have G_is_integer : Gd P w K mg base ⟨K, cm⟩ 1 (ad 5) f_is_integer := ok_is_integer T X0 G0
  exact (dss_cons (ds_if (dt_tru (do_m (d_isin T.isa mg_isinstance (do_s 0) (do_m (d_cls (c := 1) mg_Ratio)))))
    (dss_one (ds_ret (d_tup (dc_cons (d_attr "own_top" [(1, .fld)] hg rfl (AccsOk.cons (.fld T.c_1 T.n_1_own_top) AccsOk.nil) (do_s 0)) (dc_cons (d_attr "own_bottom" [(1, .fld)] hg rfl (AccsOk.cons (.fld T.c_1 T.n_1_own_bottom) AccsOk.nil) (do_s 0)) dc_nil)))))
    dss_nil)
    (dss_cons (ds_if (dt_not (dt_tru (do_m (d_callG (Gd.gf G_is_integer) (hr.mono (by decide)) hg takesB rfl mg_is_integer (da_cons (do_m (d_var 0)) da_nil)))))
    (dss_one ds_never)
    dss_nil)
    (dss_one (ds_ret (d_tup (dc_cons (d_var 0) (dc_cons d_int dc_nil)))))))
theorem ok_parts_of (T : Tk K ad cm) (X0 : K.In base) (G0 : base.Ns mainGlobals mg) : Gd P w K mg base ⟨K, cm⟩ 2 (ad 11) f_parts_of :=
  (okS_parts_of T X0 G0).gd fun _ _ _ _ _ _ us hl => match us, hl with | [_], _ => rfl
theorem okS_Ratio_of (T : Tk K ad cm) (X0 : K.In base) (G0 : base.Ns mainGlobals mg) : Gs P w K mg base ⟨K, cm⟩ 4 "of" "Ratio.of" s_Ratio_of (ad 12) ["value"] f_Ratio_of := by
  refine DefAt.okS T.d_Ratio_of sc_Ratio_of rfl rfl (by decide) fun cdv A outer s H E F0 H0 pr hr hg => ?_
  have mg_Ratio := PySem.W.mg_of X0 G0 T.g_Ratio
  have mg_parts_of := PySem.W.mg_of X0 G0 T.g_parts_of
  have G_parts_of : Gd P w K mg base ⟨K, cm⟩ 2 (ad 11) f_parts_of := ok_parts_of T X0 G0
  exact (dss_cons (ds_asg (d_callG (Gd.gf G_parts_of) (hr.mono (by decide)) hg takesB rfl mg_parts_of (da_cons (do_m (d_var 0)) da_nil)) (dg_tup rfl (dgs_cons (dg_name 1 sc_Ratio_of.nd) (dgs_cons (dg_name 2 sc_Ratio_of.nd) dgs_nil))))
    (dss_one (ds_ret (DN.kept (d_makeK (c := 1) 2 [0, 1] [.int 1] (GsD.gmk (ks := []) (ds := [.int 1]) (okS_Ratio_init T X0 G0) T.mk_1 (by simp) (fun _ => (.cons .int .nil)) (by decide) fun _ _ _ _ _ _ _ pre us ws its h1 h2 h3 h4 => match pre, us, ws, its, h1, h2, h3, h4 with | [_], [_, _], [], [_], _, _, _, _ => ⟨_, rfl, rfl⟩) (hr.mono (by decide)) hg takesB rfl mg_Ratio (da_cons (do_m (d_var 1)) (da_cons (do_m (d_var 2)) da_nil)) dk_nil)))))
theorem ok_Ratio_of (T : Tk K ad cm) (X0 : K.In base) (G0 : base.Ns mainGlobals mg) : Gd P w K mg base ⟨K, cm⟩ 4 (ad 12) f_Ratio_of :=
  (okS_Ratio_of T X0 G0).gd fun _ _ _ _ _ _ us hl => match us, hl with | [_], _ => rfl
theorem okS_text (T : Tk K ad cm) (X0 : K.In base) (G0 : base.Ns mainGlobals mg) : Gs P w K mg base ⟨K, cm⟩ 1 "_law_text" "_law_text" s_text (ad 13) ["_law_some"] f_text := by
  refine DefAt.okS T.d_text sc_text rfl rfl (by decide) fun cdv A outer s H E F0 H0 pr hr hg => ?_
  have mg_str : mg "str" = none := PySem.W.mg_none_of X0 G0 T.g_str
  exact (dss_one (ds_ret (d_if (dt_cmp ov_eq (op_eqD hr.units) (do_m (d_ix (ix_all (hu_of hr)) (do_s 0) (do_m d_int))) (do_m d_int) (nomark _)) (d_str1 (OwnOps.nil (kinds := [])) hg hr.units rfl mg_str (d_ix (ix_all (hu_of hr)) (do_s 0) (do_m d_int))) (d_add (do_m (d_add (do_m (d_str1 (OwnOps.nil (kinds := [])) hg hr.units rfl mg_str (d_ix (ix_all (hu_of hr)) (do_s 0) (do_m d_int)))) (do_m d_str))) (do_m (d_str1 (OwnOps.nil (kinds := [])) hg hr.units rfl mg_str (d_ix (ix_all (hu_of hr)) (do_s 0) (do_m d_int))))))))
theorem ok_text (T : Tk K ad cm) (X0 : K.In base) (G0 : base.Ns mainGlobals mg) : Gd P w K mg base ⟨K, cm⟩ 1 (ad 13) f_text :=
  (okS_text T X0 G0).gd fun _ _ _ _ _ _ us hl => match us, hl with | [_], _ => rfl
theorem okS_made (T : Tk K ad cm) (X0 : K.In base) (G0 : base.Ns mainGlobals mg) : Gs P w K mg base ⟨K, cm⟩ 8 "_law_made" "_law_made" s_made (ad 14) ["_law_pot_here", "_law_some"] f_made := by
  refine DefAt.okS T.d_made sc_made rfl rfl (by decide) fun cdv A outer s H E F0 H0 pr hr hg => ?_
  have mg_Ratio := PySem.W.mg_of X0 G0 T.g_Ratio
  have mg__law_draw := PySem.W.mg_of X0 G0 T.g__law_draw
  have mg__law_pick := PySem.W.mg_of X0 G0 T.g__law_pick
  have mg__law_text := PySem.W.mg_of X0 G0 T.g__law_text
  have G_Ratio_of : Gd P w K mg base ⟨K, cm⟩ 4 (ad 12) f_Ratio_of := ok_Ratio_of T X0 G0
  have G_Ratio_read : Gd P w K mg base ⟨K, cm⟩ 7 (ad 10) f_Ratio_read := ok_Ratio_read T X0 G0
  have G_draw : Gd P w K mg base ⟨K, cm⟩ 1 (ad 1) f_draw := ok_draw T X0 G0
  have G_pick : Gd P w K mg base ⟨K, cm⟩ 2 (ad 2) f_pick := ok_pick T X0 G0
  have G_text : Gd P w K mg base ⟨K, cm⟩ 1 (ad 13) f_text := ok_text T X0 G0
  exact (dss_cons (ds_par2 2 3 rfl sc_made.nd (dps_k (fun _ _ _ => (d_callG (Gd.gf G_pick) (hr.mono (by decide)) hg takesB rfl mg__law_pick (da_cons (do_s 0) (da_cons (do_m (DN.kept (d_lst (dc_cons d_int (dc_cons d_int (dc_cons d_int (dc_cons (d_sub (do_m d_int) (do_m d_int)) (dc_cons (d_sub (do_m d_int) (do_m d_int)) dc_nil)))))))) da_nil)))) (dps_k (fun _ _ _ => (d_callG (Gd.gf G_draw) (hr.mono (by decide)) hg takesB rfl mg__law_draw (da_cons (do_s 0) (da_cons (do_m d_int) da_nil)))) dps_nil)))
    (dss_cons (ds_if (dt_cmp ov_eq (op_eqD hr.units) (do_s 3) (do_m d_int) (nomark _))
    (dss_one (ds_ret (d_static (c := 1) 1 [0] [] T.sm_1_read (Gs.gk (ks := []) (okS_Ratio_read T X0 G0) (by decide) fun _ _ _ _ _ _ pre us ws h1 h2 h3 => match pre, us, ws, h1, h2, h3 with | [], [_], [], _, _, _ => rfl) (hr.mono (by decide)) hg takesB rfl mg_Ratio (da_cons (do_m (d_callG (Gd.gf G_text) (hr.mono (by decide)) hg takesB rfl mg__law_text (da_cons (do_m (d_var 1)) da_nil))) da_nil) dk_nil)))
    dss_nil)
    (dss_cons (ds_if (dt_cmp ov_eq (op_eqD hr.units) (do_s 3) (do_m d_int) (nomark _))
    (dss_one (ds_ret (d_static (c := 1) 0 [0] [] T.sm_1_of (Gs.gk (ks := ["value"]) (okS_Ratio_of T X0 G0) (by decide) fun _ _ _ _ _ _ pre us ws h1 h2 h3 => match pre, us, ws, h1, h2, h3 with | [], [], [_], _, _, _ => rfl) (hr.mono (by decide)) hg takesB rfl mg_Ratio da_nil (dk_cons (do_m (DN.kept (d_makeK (c := 1) 2 [0, 1] [.int 1] (GsD.gmk (ks := []) (ds := [.int 1]) (okS_Ratio_init T X0 G0) T.mk_1 (by simp) (fun _ => (.cons .int .nil)) (by decide) fun _ _ _ _ _ _ _ pre us ws its h1 h2 h3 h4 => match pre, us, ws, its, h1, h2, h3, h4 with | [_], [_, _], [], [_], _, _, _, _ => ⟨_, rfl, rfl⟩) (hr.mono (by decide)) hg takesB rfl mg_Ratio (da_cons (do_m (d_mul (do_m (d_ix (ix_all (hu_of hr)) (do_s 1) (do_m d_int))) (do_s 2))) (da_cons (do_m (d_mul (do_m (d_ix (ix_all (hu_of hr)) (do_s 1) (do_m d_int))) (do_s 2))) da_nil)) dk_nil))) dk_nil))))
    dss_nil)
    (dss_cons (ds_if (dt_cmp ov_eq (op_eqD hr.units) (do_s 3) (do_m d_int) (nomark _))
    (dss_one (ds_ret (DN.kept (d_makeK (c := 1) 0 [1, 0] [.int 1] (GsD.gmk (ks := ["bottom", "top"]) (ds := [.int 1]) (okS_Ratio_init T X0 G0) T.mk_1 (by simp) (fun _ => (.cons .int .nil)) (by decide) fun _ _ _ _ _ _ _ pre us ws its h1 h2 h3 h4 => match pre, us, ws, its, h1, h2, h3, h4 with | [_], [], [_, _], [_], _, _, _, _ => ⟨_, rfl, rfl⟩) (hr.mono (by decide)) hg takesB rfl mg_Ratio da_nil (dk_cons (do_m (d_mul (do_m (d_ix (ix_all (hu_of hr)) (do_s 1) (do_m d_int))) (do_s 2))) (dk_cons (do_m (d_mul (do_m (d_ix (ix_all (hu_of hr)) (do_s 1) (do_m d_int))) (do_s 2))) dk_nil))))))
    dss_nil)
    (dss_cons (ds_if (dt_bool (dw_and (dt_cmp ov_eq (op_eqD hr.units) (do_s 3) (do_m d_int) (nomark _)) (dw_and1 (dt_cmp ov_eq (op_eqD hr.units) (do_m (d_ix (ix_all (hu_of hr)) (do_s 1) (do_m d_int))) (do_m d_int) (nomark _)))))
    (dss_one (ds_ret (DN.kept (d_makeK (c := 1) 1 [0, 1] [.int 1] (GsD.gmk (ks := []) (ds := [.int 1]) (okS_Ratio_init T X0 G0) T.mk_1 (by simp) (fun _ => (.cons .int .nil)) (by decide) fun _ _ _ _ _ _ _ pre us ws its h1 h2 h3 h4 => match pre, us, ws, its, h1, h2, h3, h4 with | [_], [_], [], [_], _, _, _, _ => ⟨_, rfl, rfl⟩) (hr.mono (by decide)) hg takesB rfl mg_Ratio (da_cons (do_m (d_ix (ix_all (hu_of hr)) (do_s 1) (do_m d_int))) da_nil) dk_nil))))
    dss_nil)
    (dss_one (ds_ret (d_if (dt_bool (dw_and (dt_cmp ov_eq (op_eqD hr.units) (do_s 3) (do_m d_int) (nomark _)) (dw_and1 (dt_cmp ov_eq (op_eqD hr.units) (do_m (d_ix (ix_all (hu_of hr)) (do_s 1) (do_m d_int))) (do_m d_int) (nomark _))))) (d_static (c := 1) 0 [0] [] T.sm_1_of (Gs.gk (ks := ["value"]) (okS_Ratio_of T X0 G0) (by decide) fun _ _ _ _ _ _ pre us ws h1 h2 h3 => match pre, us, ws, h1, h2, h3 with | [], [], [_], _, _, _ => rfl) (hr.mono (by decide)) hg takesB rfl mg_Ratio da_nil (dk_cons (do_m (d_ix (ix_all (hu_of hr)) (do_s 1) (do_m d_int))) dk_nil)) (DN.kept (d_makeK (c := 1) 2 [0, 1] [.int 1] (GsD.gmk (ks := []) (ds := [.int 1]) (okS_Ratio_init T X0 G0) T.mk_1 (by simp) (fun _ => (.cons .int .nil)) (by decide) fun _ _ _ _ _ _ _ pre us ws its h1 h2 h3 h4 => match pre, us, ws, its, h1, h2, h3, h4 with | [_], [_, _], [], [_], _, _, _, _ => ⟨_, rfl, rfl⟩) (hr.mono (by decide)) hg takesB rfl mg_Ratio (da_cons (do_m (d_mul (do_m (d_ix (ix_all (hu_of hr)) (do_s 1) (do_m d_int))) (do_s 2))) (da_cons (do_m (d_mul (do_m (d_ix (ix_all (hu_of hr)) (do_s 1) (do_m d_int))) (do_s 2))) da_nil)) dk_nil))))))))))
theorem ok_made (T : Tk K ad cm) (X0 : K.In base) (G0 : base.Ns mainGlobals mg) : Gd P w K mg base ⟨K, cm⟩ 8 (ad 14) f_made :=
  (okS_made T X0 G0).gd fun _ _ _ _ _ _ us hl => match us, hl with | [_, _], _ => rfl
theorem okS_side (T : Tk K ad cm) (X0 : K.In base) (G0 : base.Ns mainGlobals mg) : Gs P w K mg base ⟨K, cm⟩ 9 "_law_side" "_law_side" s_side (ad 15) ["_law_pot_here", "_law_some"] f_side := by
  refine DefAt.okS T.d_side sc_side rfl rfl (by decide) fun cdv A outer s H E F0 H0 pr hr hg => ?_
  have mg__law_draw := PySem.W.mg_of X0 G0 T.g__law_draw
  have mg__law_made := PySem.W.mg_of X0 G0 T.g__law_made
  have G_draw : Gd P w K mg base ⟨K, cm⟩ 1 (ad 1) f_draw := ok_draw T X0 G0
  have G_made : Gd P w K mg base ⟨K, cm⟩ 8 (ad 14) f_made := ok_made T X0 G0
  exact (dss_one (ds_ret (d_if (dt_bool (dw_and (dt_cmp ov_eq (op_eqD hr.units) (do_m (d_ix (ix_all (hu_of hr)) (do_s 1) (do_m d_int))) (do_m d_int) (nomark _)) (dw_and1 (dt_cmp ov_gt (op_gtD hr.units) (do_m (d_callG (Gd.gf G_draw) (hr.mono (by decide)) hg takesB rfl mg__law_draw (da_cons (do_s 0) (da_cons (do_m d_int) da_nil)))) (do_m d_int) (nomark _))))) (d_ix (ix_all (hu_of hr)) (do_s 1) (do_m d_int)) (d_callG (Gd.gf G_made) (hr.mono (by decide)) hg takesB rfl mg__law_made (da_cons (do_s 0) (da_cons (do_m (d_var 1)) da_nil))))))
theorem ok_side (T : Tk K ad cm) (X0 : K.In base) (G0 : base.Ns mainGlobals mg) : Gd P w K mg base ⟨K, cm⟩ 9 (ad 15) f_side :=
  (okS_side T X0 G0).gd fun _ _ _ _ _ _ us hl => match us, hl with | [_, _], _ => rfl
theorem okS_Ratio_add (T : Tk K ad cm) (X0 : K.In base) (G0 : base.Ns mainGlobals mg) : Gs P w K mg base ⟨K, cm⟩ 4 "__add__" "Ratio.__add__" s_Ratio_add (ad 16) ["self", "other"] f_Ratio_add := by
  refine DefAt.okS T.d_Ratio_add sc_Ratio_add rfl rfl (by decide) fun cdv A outer s H E F0 H0 pr hr hg => ?_
  have mg_Ratio := PySem.W.mg_of X0 G0 T.g_Ratio
  have mg_parts_of := PySem.W.mg_of X0 G0 T.g_parts_of
  have G_parts_of : Gd P w K mg base ⟨K, cm⟩ 2 (ad 11) f_parts_of := ok_parts_of T X0 G0
  exact (dss_cons (ds_asg (d_callG (Gd.gf G_parts_of) (hr.mono (by decide)) hg takesB rfl mg_parts_of (da_cons (do_m (d_var 1)) da_nil)) (dg_tup rfl (dgs_cons (dg_name 2 sc_Ratio_add.nd) (dgs_cons (dg_name 3 sc_Ratio_add.nd) dgs_nil))))
    (dss_one (ds_ret (DN.kept (d_makeK (c := 1) 2 [0, 1] [.int 1] (GsD.gmk (ks := []) (ds := [.int 1]) (okS_Ratio_init T X0 G0) T.mk_1 (by simp) (fun _ => (.cons .int .nil)) (by decide) fun _ _ _ _ _ _ _ pre us ws its h1 h2 h3 h4 => match pre, us, ws, its, h1, h2, h3, h4 with | [_], [_, _], [], [_], _, _, _, _ => ⟨_, rfl, rfl⟩) (hr.mono (by decide)) hg takesB rfl mg_Ratio (da_cons (do_m (d_add (do_m (d_mul (do_m (d_attr "own_top" [(1, .fld)] hg rfl (AccsOk.cons (.fld T.c_1 T.n_1_own_top) AccsOk.nil) (do_s 0))) (do_s 3))) (do_m (d_mul (do_s 2) (do_m (d_attr "own_bottom" [(1, .fld)] hg rfl (AccsOk.cons (.fld T.c_1 T.n_1_own_bottom) AccsOk.nil) (do_s 0))))))) (da_cons (do_m (d_mul (do_m (d_attr "own_bottom" [(1, .fld)] hg rfl (AccsOk.cons (.fld T.c_1 T.n_1_own_bottom) AccsOk.nil) (do_s 0))) (do_s 3))) da_nil)) dk_nil)))))
theorem ok_Ratio_add (T : Tk K ad cm) (X0 : K.In base) (G0 : base.Ns mainGlobals mg) : Gd P w K mg base ⟨K, cm⟩ 4 (ad 16) f_Ratio_add :=
  (okS_Ratio_add T X0 G0).gd fun _ _ _ _ _ _ us hl => match us, hl with | [_, _], _ => rfl
theorem okS_Ratio_radd (T : Tk K ad cm) (X0 : K.In base) (G0 : base.Ns mainGlobals mg) : Gs P w K mg base ⟨K, cm⟩ 5 "__radd__" "Ratio.__radd__" s_Ratio_radd (ad 17) ["self", "other"] f_Ratio_radd := by
  refine DefAt.okS T.d_Ratio_radd sc_Ratio_radd rfl rfl (by decide) fun cdv A outer s H E F0 H0 pr hr hg => ?_
  have G_Ratio_add : Gd P w K mg base ⟨K, cm⟩ 4 (ad 16) f_Ratio_add := ok_Ratio_add T X0 G0
  exact (dss_one (ds_ret (d_binX (OwnLs.cons (ownL_mk dn_add dr_add (Gd.gf G_Ratio_add) (hr.mono (by decide)) T.m_1_add.at_ T.m_1_add.fn T.sf_1 T.m_1_radd.at_ (.inr ⟨_, rfl⟩) (opkd_all (k := ⟨K, cm⟩) tL_add T.k_1 ksub (fun _ h => by cases h))) OwnLs.nil) OwnRs.nil (okK_add rfl) op_addX hg takesB (d_var 0) (d_var 1))))
theorem ok_Ratio_radd (T : Tk K ad cm) (X0 : K.In base) (G0 : base.Ns mainGlobals mg) : Gd P w K mg base ⟨K, cm⟩ 5 (ad 17) f_Ratio_radd :=
  (okS_Ratio_radd T X0 G0).gd fun _ _ _ _ _ _ us hl => match us, hl with | [_, _], _ => rfl
theorem okS_plus (T : Tk K ad cm) (X0 : K.In base) (G0 : base.Ns mainGlobals mg) : Gs P w K mg base ⟨K, cm⟩ 2 "_law_plus" "_law_plus" s_plus (ad 18) ["_law_this", "_law_mate"] f_plus := by
  refine DefAt.okS T.d_plus sc_plus rfl rfl (by decide) fun cdv A outer s H E F0 H0 pr hr hg => ?_
  have mg__law_frac := PySem.W.mg_of X0 G0 T.g__law_frac
  have G_frac : Gd P w K mg base ⟨K, cm⟩ 1 (ad 0) f_frac := ok_frac T X0 G0
  exact (dss_one (ds_ret (d_callG (Gd.gf G_frac) (hr.mono (by decide)) hg takesB rfl mg__law_frac (da_cons (do_m (d_add (do_m (d_mul (do_m (d_ix (ix_all (hu_of hr)) (do_s 0) (do_m d_int))) (do_m (d_ix (ix_all (hu_of hr)) (do_s 1) (do_m d_int))))) (do_m (d_mul (do_m (d_ix (ix_all (hu_of hr)) (do_s 1) (do_m d_int))) (do_m (d_ix (ix_all (hu_of hr)) (do_s 0) (do_m d_int))))))) (da_cons (do_m (d_mul (do_m (d_ix (ix_all (hu_of hr)) (do_s 0) (do_m d_int))) (do_m (d_ix (ix_all (hu_of hr)) (do_s 1) (do_m d_int))))) da_nil)))))
theorem ok_plus (T : Tk K ad cm) (X0 : K.In base) (G0 : base.Ns mainGlobals mg) : Gd P w K mg base ⟨K, cm⟩ 2 (ad 18) f_plus :=
  (okS_plus T X0 G0).gd fun _ _ _ _ _ _ us hl => match us, hl with | [_, _], _ => rfl
theorem okS_Ratio_top (T : Tk K ad cm) (X0 : K.In base) (G0 : base.Ns mainGlobals mg) : Gs P w K mg base ⟨K, cm⟩ 1 "top" "Ratio.top" s_Ratio_top (ad 19) ["self"] f_Ratio_top := by
  refine DefAt.okS T.d_Ratio_top sc_Ratio_top rfl rfl (by decide) fun cdv A outer s H E F0 H0 pr hr hg => ?_
  exact (dss_one (ds_ret (d_attr "own_top" [(1, .fld)] hg rfl (AccsOk.cons (.fld T.c_1 T.n_1_own_top) AccsOk.nil) (do_s 0))))
theorem ok_Ratio_top (T : Tk K ad cm) (X0 : K.In base) (G0 : base.Ns mainGlobals mg) : Gd P w K mg base ⟨K, cm⟩ 1 (ad 19) f_Ratio_top :=
  (okS_Ratio_top T X0 G0).gd fun _ _ _ _ _ _ us hl => match us, hl with | [_], _ => rfl
theorem okS_Ratio_bottom (T : Tk K ad cm) (X0 : K.In base) (G0 : base.Ns mainGlobals mg) : Gs P w K mg base ⟨K, cm⟩ 1 "bottom" "Ratio.bottom" s_Ratio_bottom (ad 20) ["self"] f_Ratio_bottom := by
  refine DefAt.okS T.d_Ratio_bottom sc_Ratio_bottom rfl rfl (by decide) fun cdv A outer s H E F0 H0 pr hr hg => ?_
  exact (dss_one (ds_ret (d_attr "own_bottom" [(1, .fld)] hg rfl (AccsOk.cons (.fld T.c_1 T.n_1_own_bottom) AccsOk.nil) (do_s 0))))
theorem ok_Ratio_bottom (T : Tk K ad cm) (X0 : K.In base) (G0 : base.Ns mainGlobals mg) : Gd P w K mg base ⟨K, cm⟩ 1 (ad 20) f_Ratio_bottom :=
  (okS_Ratio_bottom T X0 G0).gd fun _ _ _ _ _ _ us hl => match us, hl with | [_], _ => rfl
theorem okS_told (T : Tk K ad cm) (X0 : K.In base) (G0 : base.Ns mainGlobals mg) : Gs P w K mg base ⟨K, cm⟩ 3 "_law_told" "_law_told" s_told (ad 21) ["_law_some"] f_told := by
  refine DefAt.okS T.d_told sc_told rfl rfl (by decide) fun cdv A outer s H E F0 H0 pr hr hg => ?_
  have mg_Ratio := PySem.W.mg_of X0 G0 T.g_Ratio
  have mg_isinstance : mg "isinstance" = none := PySem.W.mg_none_of X0 G0 T.g_isinstance
  have G_Ratio_top : Gd P w K mg base ⟨K, cm⟩ 1 (ad 19) f_Ratio_top := ok_Ratio_top T X0 G0
  have G_Ratio_bottom : Gd P w K mg base ⟨K, cm⟩ 1 (ad 20) f_Ratio_bottom := ok_Ratio_bottom T X0 G0
  exact (dss_one (ds_ret (DN.kept (d_lc rfl sc_told.nd (blkOk_by (own := [("_law_made_here", 1)]) rfl) rfl (di_any (d_var 0)) (fun _ _ _ _ _ _ _ _ => (dgw_name 1 sc_told.nd)) (fun _ _ _ _ _ _ _ _ => dts_nil) (fun _ _ _ _ _ _ _ _ => (d_if (dt_tru (do_m (d_isin T.isa mg_isinstance (do_s 1) (do_m (d_cls (c := 1) mg_Ratio))))) (d_tup (dc_cons (d_attr "top" [(1, .prop f_Ratio_top)] hg rfl (AccsOk.cons (accProp T.c_1 T.p_1_top (Gd.gf G_Ratio_top) (hr.mono (by decide))) AccsOk.nil) (do_s 1)) (dc_cons (d_attr "bottom" [(1, .prop f_Ratio_bottom)] hg rfl (AccsOk.cons (accProp T.c_1 T.p_1_bottom (Gd.gf G_Ratio_bottom) (hr.mono (by decide))) AccsOk.nil) (do_s 1)) dc_nil))) d_non))))))
theorem ok_told (T : Tk K ad cm) (X0 : K.In base) (G0 : base.Ns mainGlobals mg) : Gd P w K mg base ⟨K, cm⟩ 3 (ad 21) f_told :=
  (okS_told T X0 G0).gd fun _ _ _ _ _ _ us hl => match us, hl with | [_], _ => rfl
theorem okS_Ratio_sub (T : Tk K ad cm) (X0 : K.In base) (G0 : base.Ns mainGlobals mg) : Gs P w K mg base ⟨K, cm⟩ 4 "__sub__" "Ratio.__sub__" s_Ratio_sub (ad 22) ["self", "other"] f_Ratio_sub := by
  refine DefAt.okS T.d_Ratio_sub sc_Ratio_sub rfl rfl (by decide) fun cdv A outer s H E F0 H0 pr hr hg => ?_
  have mg_Ratio := PySem.W.mg_of X0 G0 T.g_Ratio
  have mg_parts_of := PySem.W.mg_of X0 G0 T.g_parts_of
  have G_parts_of : Gd P w K mg base ⟨K, cm⟩ 2 (ad 11) f_parts_of := ok_parts_of T X0 G0
  exact (dss_cons (ds_asg (d_callG (Gd.gf G_parts_of) (hr.mono (by decide)) hg takesB rfl mg_parts_of (da_cons (do_m (d_var 1)) da_nil)) (dg_tup rfl (dgs_cons (dg_name 2 sc_Ratio_sub.nd) (dgs_cons (dg_name 3 sc_Ratio_sub.nd) dgs_nil))))
    (dss_one (ds_ret (DN.kept (d_makeK (c := 1) 2 [0, 1] [.int 1] (GsD.gmk (ks := []) (ds := [.int 1]) (okS_Ratio_init T X0 G0) T.mk_1 (by simp) (fun _ => (.cons .int .nil)) (by decide) fun _ _ _ _ _ _ _ pre us ws its h1 h2 h3 h4 => match pre, us, ws, its, h1, h2, h3, h4 with | [_], [_, _], [], [_], _, _, _, _ => ⟨_, rfl, rfl⟩) (hr.mono (by decide)) hg takesB rfl mg_Ratio (da_cons (do_m (d_sub (do_m (d_mul (do_m (d_attr "own_top" [(1, .fld)] hg rfl (AccsOk.cons (.fld T.c_1 T.n_1_own_top) AccsOk.nil) (do_s 0))) (do_s 3))) (do_m (d_mul (do_s 2) (do_m (d_attr "own_bottom" [(1, .fld)] hg rfl (AccsOk.cons (.fld T.c_1 T.n_1_own_bottom) AccsOk.nil) (do_s 0))))))) (da_cons (do_m (d_mul (do_m (d_attr "own_bottom" [(1, .fld)] hg rfl (AccsOk.cons (.fld T.c_1 T.n_1_own_bottom) AccsOk.nil) (do_s 0))) (do_s 3))) da_nil)) dk_nil)))))
theorem ok_Ratio_sub (T : Tk K ad cm) (X0 : K.In base) (G0 : base.Ns mainGlobals mg) : Gd P w K mg base ⟨K, cm⟩ 4 (ad 22) f_Ratio_sub :=
  (okS_Ratio_sub T X0 G0).gd fun _ _ _ _ _ _ us hl => match us, hl with | [_, _], _ => rfl
theorem okS_Ratio_rsub (T : Tk K ad cm) (X0 : K.In base) (G0 : base.Ns mainGlobals mg) : Gs P w K mg base ⟨K, cm⟩ 7 "__rsub__" "Ratio.__rsub__" s_Ratio_rsub (ad 23) ["self", "other"] f_Ratio_rsub := by
  refine DefAt.okS T.d_Ratio_rsub sc_Ratio_rsub rfl rfl (by decide) fun cdv A outer s H E F0 H0 pr hr hg => ?_
  have G_Ratio_add : Gd P w K mg base ⟨K, cm⟩ 4 (ad 16) f_Ratio_add := ok_Ratio_add T X0 G0
  have G_Ratio_radd : Gd P w K mg base ⟨K, cm⟩ 5 (ad 17) f_Ratio_radd := ok_Ratio_radd T X0 G0
  have G_Ratio_neg : Gd P w K mg base ⟨K, cm⟩ 4 (ad 7) f_Ratio_neg := ok_Ratio_neg T X0 G0
  exact (dss_one (ds_ret (d_binX (OwnLs.cons (ownL_mk dn_add dr_add (Gd.gf G_Ratio_add) (hr.mono (by decide)) T.m_1_add.at_ T.m_1_add.fn T.sf_1 T.m_1_radd.at_ (.inr ⟨_, rfl⟩) (opkd_all (k := ⟨K, cm⟩) tL_add T.k_1 ksub (fun _ h => by cases h))) OwnLs.nil) (OwnRs.cons (ownR_mk dn_add dr_add (Gd.gf G_Ratio_radd) (hr.mono (by decide)) T.m_1_add.at_ T.m_1_radd.at_ T.m_1_radd.fn T.sf_1 (opkr_all (k := ⟨K, cm⟩) tR_add T.sb_1 (fun _ h => by cases h))) OwnRs.nil) (okK_add rfl) op_addX hg takesB (d_unK (uk_own (OwnOps.cons ⟨⟨_, _, (Gd.gf G_Ratio_neg), hr.mono (by decide), T.m_1_neg.at_, T.m_1_neg.fn⟩, T.k_1⟩ OwnOps.nil) uv_neg) (UnR.or (un_ownNeg hg) un_neg) (d_var 0)) (d_var 1))))
theorem ok_Ratio_rsub (T : Tk K ad cm) (X0 : K.In base) (G0 : base.Ns mainGlobals mg) : Gd P w K mg base ⟨K, cm⟩ 7 (ad 23) f_Ratio_rsub :=
  (okS_Ratio_rsub T X0 G0).gd fun _ _ _ _ _ _ us hl => match us, hl with | [_, _], _ => rfl
theorem okS_less (T : Tk K ad cm) (X0 : K.In base) (G0 : base.Ns mainGlobals mg) : Gs P w K mg base ⟨K, cm⟩ 3 "_law_less" "_law_less" s_less (ad 24) ["_law_this", "_law_mate"] f_less := by
  refine DefAt.okS T.d_less sc_less rfl rfl (by decide) fun cdv A outer s H E F0 H0 pr hr hg => ?_
  have mg__law_plus := PySem.W.mg_of X0 G0 T.g__law_plus
  have G_plus : Gd P w K mg base ⟨K, cm⟩ 2 (ad 18) f_plus := ok_plus T X0 G0
  exact (dss_one (ds_ret (d_callG (Gd.gf G_plus) (hr.mono (by decide)) hg takesB rfl mg__law_plus (da_cons (do_m (d_var 0)) (da_cons (do_m (d_tup (dc_cons (d_sub (do_m d_int) (do_m (d_ix (ix_all (hu_of hr)) (do_s 1) (do_m d_int)))) (dc_cons (d_ix (ix_all (hu_of hr)) (do_s 1) (do_m d_int)) dc_nil)))) da_nil)))))
theorem ok_less (T : Tk K ad cm) (X0 : K.In base) (G0 : base.Ns mainGlobals mg) : Gd P w K mg base ⟨K, cm⟩ 3 (ad 24) f_less :=
  (okS_less T X0 G0).gd fun _ _ _ _ _ _ us hl => match us, hl with | [_, _], _ => rfl
theorem okS_Ratio_mul (T : Tk K ad cm) (X0 : K.In base) (G0 : base.Ns mainGlobals mg) : Gs P w K mg base ⟨K, cm⟩ 4 "__mul__" "Ratio.__mul__" s_Ratio_mul (ad 25) ["self", "other"] f_Ratio_mul := by
  refine DefAt.okS T.d_Ratio_mul sc_Ratio_mul rfl rfl (by decide) fun cdv A outer s H E F0 H0 pr hr hg => ?_
  have mg_Ratio := PySem.W.mg_of X0 G0 T.g_Ratio
  have mg_parts_of := PySem.W.mg_of X0 G0 T.g_parts_of
  have G_parts_of : Gd P w K mg base ⟨K, cm⟩ 2 (ad 11) f_parts_of := ok_parts_of T X0 G0
  exact (dss_cons (ds_asg (d_callG (Gd.gf G_parts_of) (hr.mono (by decide)) hg takesB rfl mg_parts_of (da_cons (do_m (d_var 1)) da_nil)) (dg_tup rfl (dgs_cons (dg_name 2 sc_Ratio_mul.nd) (dgs_cons (dg_name 3 sc_Ratio_mul.nd) dgs_nil))))
    (dss_one (ds_ret (DN.kept (d_makeK (c := 1) 2 [0, 1] [.int 1] (GsD.gmk (ks := []) (ds := [.int 1]) (okS_Ratio_init T X0 G0) T.mk_1 (by simp) (fun _ => (.cons .int .nil)) (by decide) fun _ _ _ _ _ _ _ pre us ws its h1 h2 h3 h4 => match pre, us, ws, its, h1, h2, h3, h4 with | [_], [_, _], [], [_], _, _, _, _ => ⟨_, rfl, rfl⟩) (hr.mono (by decide)) hg takesB rfl mg_Ratio (da_cons (do_m (d_mul (do_m (d_attr "own_top" [(1, .fld)] hg rfl (AccsOk.cons (.fld T.c_1 T.n_1_own_top) AccsOk.nil) (do_s 0))) (do_s 2))) (da_cons (do_m (d_mul (do_m (d_attr "own_bottom" [(1, .fld)] hg rfl (AccsOk.cons (.fld T.c_1 T.n_1_own_bottom) AccsOk.nil) (do_s 0))) (do_s 3))) da_nil)) dk_nil)))))
theorem ok_Ratio_mul (T : Tk K ad cm) (X0 : K.In base) (G0 : base.Ns mainGlobals mg) : Gd P w K mg base ⟨K, cm⟩ 4 (ad 25) f_Ratio_mul :=
  (okS_Ratio_mul T X0 G0).gd fun _ _ _ _ _ _ us hl => match us, hl with | [_, _], _ => rfl
theorem okS_Ratio_rmul (T : Tk K ad cm) (X0 : K.In base) (G0 : base.Ns mainGlobals mg) : Gs P w K mg base ⟨K, cm⟩ 5 "__rmul__" "Ratio.__rmul__" s_Ratio_rmul (ad 26) ["self", "other"] f_Ratio_rmul := by
  refine DefAt.okS T.d_Ratio_rmul sc_Ratio_rmul rfl rfl (by decide) fun cdv A outer s H E F0 H0 pr hr hg => ?_
  have G_Ratio_mul : Gd P w K mg base ⟨K, cm⟩ 4 (ad 25) f_Ratio_mul := ok_Ratio_mul T X0 G0
  exact (dss_one (ds_ret (d_binX (OwnLs.cons (ownL_mk dn_mul dr_mul (Gd.gf G_Ratio_mul) (hr.mono (by decide)) T.m_1_mul.at_ T.m_1_mul.fn T.sf_1 T.m_1_rmul.at_ (.inr ⟨_, rfl⟩) (opkd_all (k := ⟨K, cm⟩) tL_mul T.k_1 ksub (fun _ h => by cases h))) OwnLs.nil) OwnRs.nil okK_mul op_mulX hg takesB (d_var 0) (d_var 1))))
theorem ok_Ratio_rmul (T : Tk K ad cm) (X0 : K.In base) (G0 : base.Ns mainGlobals mg) : Gd P w K mg base ⟨K, cm⟩ 5 (ad 26) f_Ratio_rmul :=
  (okS_Ratio_rmul T X0 G0).gd fun _ _ _ _ _ _ us hl => match us, hl with | [_, _], _ => rfl
theorem okS_times (T : Tk K ad cm) (X0 : K.In base) (G0 : base.Ns mainGlobals mg) : Gs P w K mg base ⟨K, cm⟩ 2 "_law_times" "_law_times" s_times (ad 27) ["_law_this", "_law_mate"] f_times := by
  refine DefAt.okS T.d_times sc_times rfl rfl (by decide) fun cdv A outer s H E F0 H0 pr hr hg => ?_
  have mg__law_frac := PySem.W.mg_of X0 G0 T.g__law_frac
  have G_frac : Gd P w K mg base ⟨K, cm⟩ 1 (ad 0) f_frac := ok_frac T X0 G0
  exact (dss_one (ds_ret (d_callG (Gd.gf G_frac) (hr.mono (by decide)) hg takesB rfl mg__law_frac (da_cons (do_m (d_mul (do_m (d_ix (ix_all (hu_of hr)) (do_s 0) (do_m d_int))) (do_m (d_ix (ix_all (hu_of hr)) (do_s 1) (do_m d_int))))) (da_cons (do_m (d_mul (do_m (d_ix (ix_all (hu_of hr)) (do_s 0) (do_m d_int))) (do_m (d_ix (ix_all (hu_of hr)) (do_s 1) (do_m d_int))))) da_nil)))))
theorem ok_times (T : Tk K ad cm) (X0 : K.In base) (G0 : base.Ns mainGlobals mg) : Gd P w K mg base ⟨K, cm⟩ 2 (ad 27) f_times :=
  (okS_times T X0 G0).gd fun _ _ _ _ _ _ us hl => match us, hl with | [_, _], _ => rfl
theorem okS_Ratio_over (T : Tk K ad cm) (X0 : K.In base) (G0 : base.Ns mainGlobals mg) : Gs P w K mg base ⟨K, cm⟩ 4 "over" "Ratio.over" s_Ratio_over (ad 28) ["self", "other"] f_Ratio_over := by
  refine DefAt.okS T.d_Ratio_over sc_Ratio_over rfl rfl (by decide) fun cdv A outer s H E F0 H0 pr hr hg => ?_
  have mg_Ratio := PySem.W.mg_of X0 G0 T.g_Ratio
  have mg_parts_of := PySem.W.mg_of X0 G0 T.g_parts_of
  have G_parts_of : Gd P w K mg base ⟨K, cm⟩ 2 (ad 11) f_parts_of := ok_parts_of T X0 G0
  exact (dss_cons (ds_asg (d_callG (Gd.gf G_parts_of) (hr.mono (by decide)) hg takesB rfl mg_parts_of (da_cons (do_m (d_var 1)) da_nil)) (dg_tup rfl (dgs_cons (dg_name 2 sc_Ratio_over.nd) (dgs_cons (dg_name 3 sc_Ratio_over.nd) dgs_nil))))
    (dss_cons (ds_if (dt_cmp ov_eq (op_eqD hr.units) (do_s 2) (do_m d_int) (nomark _))
    (dss_one ds_never)
    dss_nil)
    (dss_one (ds_ret (DN.kept (d_makeK (c := 1) 2 [0, 1] [.int 1] (GsD.gmk (ks := []) (ds := [.int 1]) (okS_Ratio_init T X0 G0) T.mk_1 (by simp) (fun _ => (.cons .int .nil)) (by decide) fun _ _ _ _ _ _ _ pre us ws its h1 h2 h3 h4 => match pre, us, ws, its, h1, h2, h3, h4 with | [_], [_, _], [], [_], _, _, _, _ => ⟨_, rfl, rfl⟩) (hr.mono (by decide)) hg takesB rfl mg_Ratio (da_cons (do_m (d_mul (do_m (d_attr "own_top" [(1, .fld)] hg rfl (AccsOk.cons (.fld T.c_1 T.n_1_own_top) AccsOk.nil) (do_s 0))) (do_s 3))) (da_cons (do_m (d_mul (do_m (d_attr "own_bottom" [(1, .fld)] hg rfl (AccsOk.cons (.fld T.c_1 T.n_1_own_bottom) AccsOk.nil) (do_s 0))) (do_s 2))) da_nil)) dk_nil))))))
theorem ok_Ratio_over (T : Tk K ad cm) (X0 : K.In base) (G0 : base.Ns mainGlobals mg) : Gd P w K mg base ⟨K, cm⟩ 4 (ad 28) f_Ratio_over :=
  (okS_Ratio_over T X0 G0).gd fun _ _ _ _ _ _ us hl => match us, hl with | [_, _], _ => rfl
theorem okS_Ratio_floordiv (T : Tk K ad cm) (X0 : K.In base) (G0 : base.Ns mainGlobals mg) : Gs P w K mg base ⟨K, cm⟩ 3 "__floordiv__" "Ratio.__floordiv__" s_Ratio_floordiv (ad 29) ["self", "other"] f_Ratio_floordiv := by
  refine DefAt.okS T.d_Ratio_floordiv sc_Ratio_floordiv rfl rfl (by decide) fun cdv A outer s H E F0 H0 pr hr hg => ?_
  have mg_parts_of := PySem.W.mg_of X0 G0 T.g_parts_of
  have G_parts_of : Gd P w K mg base ⟨K, cm⟩ 2 (ad 11) f_parts_of := ok_parts_of T X0 G0
  exact (dss_cons (ds_asg (d_callG (Gd.gf G_parts_of) (hr.mono (by decide)) hg takesB rfl mg_parts_of (da_cons (do_m (d_var 1)) da_nil)) (dg_tup rfl (dgs_cons (dg_name 2 sc_Ratio_floordiv.nd) (dgs_cons (dg_name 3 sc_Ratio_floordiv.nd) dgs_nil))))
    (dss_cons (ds_if (dt_cmp ov_eq (op_eqD hr.units) (do_s 2) (do_m d_int) (nomark _))
    (dss_one ds_never)
    dss_nil)
    (dss_one (ds_ret (d_fdiv (do_m (d_mul (do_m (d_attr "own_top" [(1, .fld)] hg rfl (AccsOk.cons (.fld T.c_1 T.n_1_own_top) AccsOk.nil) (do_s 0))) (do_s 3))) (do_m (d_mul (do_m (d_attr "own_bottom" [(1, .fld)] hg rfl (AccsOk.cons (.fld T.c_1 T.n_1_own_bottom) AccsOk.nil) (do_s 0))) (do_s 2))))))))
theorem ok_Ratio_floordiv (T : Tk K ad cm) (X0 : K.In base) (G0 : base.Ns mainGlobals mg) : Gd P w K mg base ⟨K, cm⟩ 3 (ad 29) f_Ratio_floordiv :=
  (okS_Ratio_floordiv T X0 G0).gd fun _ _ _ _ _ _ us hl => match us, hl with | [_, _], _ => rfl
theorem okS_Ratio_rfloordiv (T : Tk K ad cm) (X0 : K.In base) (G0 : base.Ns mainGlobals mg) : Gs P w K mg base ⟨K, cm⟩ 5 "__rfloordiv__" "Ratio.__rfloordiv__" s_Ratio_rfloordiv (ad 30) ["self", "other"] f_Ratio_rfloordiv := by
  refine DefAt.okS T.d_Ratio_rfloordiv sc_Ratio_rfloordiv rfl rfl (by decide) fun cdv A outer s H E F0 H0 pr hr hg => ?_
  have mg_Ratio := PySem.W.mg_of X0 G0 T.g_Ratio
  have G_Ratio_of : Gd P w K mg base ⟨K, cm⟩ 4 (ad 12) f_Ratio_of := ok_Ratio_of T X0 G0
  have G_Ratio_floordiv : Gd P w K mg base ⟨K, cm⟩ 3 (ad 29) f_Ratio_floordiv := ok_Ratio_floordiv T X0 G0
  exact (dss_one (ds_ret (d_binX (OwnLs.cons (ownL_mk dn_floordiv dr_floordiv (Gd.gf G_Ratio_floordiv) (hr.mono (by decide)) T.m_1_floordiv.at_ T.m_1_floordiv.fn T.sf_1 T.m_1_rfloordiv.at_ (.inr ⟨_, rfl⟩) (opkd_all (k := ⟨K, cm⟩) tL_floordiv T.k_1 ksub (fun _ h => by cases h))) OwnLs.nil) OwnRs.nil ov_fdiv.kept op_fdivG hg takesB (d_static (c := 1) 1 [0] [] T.sm_1_of (Gs.gk (ks := []) (okS_Ratio_of T X0 G0) (by decide) fun _ _ _ _ _ _ pre us ws h1 h2 h3 => match pre, us, ws, h1, h2, h3 with | [], [_], [], _, _, _ => rfl) (hr.mono (by decide)) hg takesB rfl mg_Ratio (da_cons (do_m (d_var 1)) da_nil) dk_nil) (d_var 0))))
theorem ok_Ratio_rfloordiv (T : Tk K ad cm) (X0 : K.In base) (G0 : base.Ns mainGlobals mg) : Gd P w K mg base ⟨K, cm⟩ 5 (ad 30) f_Ratio_rfloordiv :=
  (okS_Ratio_rfloordiv T X0 G0).gd fun _ _ _ _ _ _ us hl => match us, hl with | [_, _], _ => rfl
theorem okS_Ratio_mod (T : Tk K ad cm) (X0 : K.In base) (G0 : base.Ns mainGlobals mg) : Gs P w K mg base ⟨K, cm⟩ 8 "__mod__" "Ratio.__mod__" s_Ratio_mod (ad 31) ["self", "other"] f_Ratio_mod := by
  refine DefAt.okS T.d_Ratio_mod sc_Ratio_mod rfl rfl (by decide) fun cdv A outer s H E F0 H0 pr hr hg => ?_
  have mg_Ratio := PySem.W.mg_of X0 G0 T.g_Ratio
  have G_Ratio_of : Gd P w K mg base ⟨K, cm⟩ 4 (ad 12) f_Ratio_of := ok_Ratio_of T X0 G0
  have G_Ratio_sub : Gd P w K mg base ⟨K, cm⟩ 4 (ad 22) f_Ratio_sub := ok_Ratio_sub T X0 G0
  have G_Ratio_rsub : Gd P w K mg base ⟨K, cm⟩ 7 (ad 23) f_Ratio_rsub := ok_Ratio_rsub T X0 G0
  have G_Ratio_mul : Gd P w K mg base ⟨K, cm⟩ 4 (ad 25) f_Ratio_mul := ok_Ratio_mul T X0 G0
  have G_Ratio_floordiv : Gd P w K mg base ⟨K, cm⟩ 3 (ad 29) f_Ratio_floordiv := ok_Ratio_floordiv T X0 G0
  have G_Ratio_rfloordiv : Gd P w K mg base ⟨K, cm⟩ 5 (ad 30) f_Ratio_rfloordiv := ok_Ratio_rfloordiv T X0 G0
  exact (dss_one (ds_ret (d_binX (OwnLs.cons (ownL_mk dn_sub dr_sub (Gd.gf G_Ratio_sub) (hr.mono (by decide)) T.m_1_sub.at_ T.m_1_sub.fn T.sf_1 T.m_1_rsub.at_ (.inr ⟨_, rfl⟩) (opkd_all (k := ⟨K, cm⟩) tL_sub T.k_1 ksub (fun _ h => by cases h))) OwnLs.nil) (OwnRs.cons (ownR_mk dn_sub dr_sub (Gd.gf G_Ratio_rsub) (hr.mono (by decide)) T.m_1_sub.at_ T.m_1_rsub.at_ T.m_1_rsub.fn T.sf_1 (opkr_all (k := ⟨K, cm⟩) tR_sub T.sb_1 (fun _ h => by cases h))) OwnRs.nil) ov_sub.kept op_sub hg takesB (d_var 0) (d_binX (OwnLs.cons (ownL_mk dn_mul dr_mul (Gd.gf G_Ratio_mul) (hr.mono (by decide)) T.m_1_mul.at_ T.m_1_mul.fn T.sf_1 T.m_1_rmul.at_ (.inr ⟨_, rfl⟩) (opkd_all (k := ⟨K, cm⟩) tL_mul T.k_1 ksub (fun _ h => by cases h))) OwnLs.nil) OwnRs.nil okK_mul op_mulX hg takesB (d_static (c := 1) 1 [0] [] T.sm_1_of (Gs.gk (ks := []) (okS_Ratio_of T X0 G0) (by decide) fun _ _ _ _ _ _ pre us ws h1 h2 h3 => match pre, us, ws, h1, h2, h3 with | [], [_], [], _, _, _ => rfl) (hr.mono (by decide)) hg takesB rfl mg_Ratio (da_cons (do_m (d_var 1)) da_nil) dk_nil) (d_binX (OwnLs.cons (ownL_mk dn_floordiv dr_floordiv (Gd.gf G_Ratio_floordiv) (hr.mono (by decide)) T.m_1_floordiv.at_ T.m_1_floordiv.fn T.sf_1 T.m_1_rfloordiv.at_ (.inr ⟨_, rfl⟩) (opkd_all (k := ⟨K, cm⟩) tL_floordiv T.k_1 ksub (fun _ h => by cases h))) OwnLs.nil) (OwnRs.cons (ownR_mk dn_floordiv dr_floordiv (Gd.gf G_Ratio_rfloordiv) (hr.mono (by decide)) T.m_1_floordiv.at_ T.m_1_rfloordiv.at_ T.m_1_rfloordiv.fn T.sf_1 (opkr_all (k := ⟨K, cm⟩) tR_floordiv T.sb_1 (fun _ h => by cases h))) OwnRs.nil) ov_fdiv.kept op_fdivG hg takesB (d_var 0) (d_var 1))))))
theorem ok_Ratio_mod (T : Tk K ad cm) (X0 : K.In base) (G0 : base.Ns mainGlobals mg) : Gd P w K mg base ⟨K, cm⟩ 8 (ad 31) f_Ratio_mod :=
  (okS_Ratio_mod T X0 G0).gd fun _ _ _ _ _ _ us hl => match us, hl with | [_, _], _ => rfl
theorem okS_Ratio_rmod (T : Tk K ad cm) (X0 : K.In base) (G0 : base.Ns mainGlobals mg) : Gs P w K mg base ⟨K, cm⟩ 8 "__rmod__" "Ratio.__rmod__" s_Ratio_rmod (ad 32) ["self", "other"] f_Ratio_rmod := by
  refine DefAt.okS T.d_Ratio_rmod sc_Ratio_rmod rfl rfl (by decide) fun cdv A outer s H E F0 H0 pr hr hg => ?_
  have mg_Ratio := PySem.W.mg_of X0 G0 T.g_Ratio
  have G_Ratio_of : Gd P w K mg base ⟨K, cm⟩ 4 (ad 12) f_Ratio_of := ok_Ratio_of T X0 G0
  have G_Ratio_sub : Gd P w K mg base ⟨K, cm⟩ 4 (ad 22) f_Ratio_sub := ok_Ratio_sub T X0 G0
  have G_Ratio_rsub : Gd P w K mg base ⟨K, cm⟩ 7 (ad 23) f_Ratio_rsub := ok_Ratio_rsub T X0 G0
  have G_Ratio_mul : Gd P w K mg base ⟨K, cm⟩ 4 (ad 25) f_Ratio_mul := ok_Ratio_mul T X0 G0
  have G_Ratio_floordiv : Gd P w K mg base ⟨K, cm⟩ 3 (ad 29) f_Ratio_floordiv := ok_Ratio_floordiv T X0 G0
  have G_Ratio_rfloordiv : Gd P w K mg base ⟨K, cm⟩ 5 (ad 30) f_Ratio_rfloordiv := ok_Ratio_rfloordiv T X0 G0
  exact (dss_cons (ds_set 2 (d_static (c := 1) 1 [0] [] T.sm_1_of (Gs.gk (ks := []) (okS_Ratio_of T X0 G0) (by decide) fun _ _ _ _ _ _ pre us ws h1 h2 h3 => match pre, us, ws, h1, h2, h3 with | [], [_], [], _, _, _ => rfl) (hr.mono (by decide)) hg takesB rfl mg_Ratio (da_cons (do_m (d_var 1)) da_nil) dk_nil) sc_Ratio_rmod.nd)
    (dss_one (ds_ret (d_binX (OwnLs.cons (ownL_mk dn_sub dr_sub (Gd.gf G_Ratio_sub) (hr.mono (by decide)) T.m_1_sub.at_ T.m_1_sub.fn T.sf_1 T.m_1_rsub.at_ (.inr ⟨_, rfl⟩) (opkd_all (k := ⟨K, cm⟩) tL_sub T.k_1 ksub (fun _ h => by cases h))) OwnLs.nil) (OwnRs.cons (ownR_mk dn_sub dr_sub (Gd.gf G_Ratio_rsub) (hr.mono (by decide)) T.m_1_sub.at_ T.m_1_rsub.at_ T.m_1_rsub.fn T.sf_1 (opkr_all (k := ⟨K, cm⟩) tR_sub T.sb_1 (fun _ h => by cases h))) OwnRs.nil) ov_sub.kept op_sub hg takesB (d_var 2) (d_binX (OwnLs.cons (ownL_mk dn_mul dr_mul (Gd.gf G_Ratio_mul) (hr.mono (by decide)) T.m_1_mul.at_ T.m_1_mul.fn T.sf_1 T.m_1_rmul.at_ (.inr ⟨_, rfl⟩) (opkd_all (k := ⟨K, cm⟩) tL_mul T.k_1 ksub (fun _ h => by cases h))) OwnLs.nil) OwnRs.nil okK_mul op_mulX hg takesB (d_var 0) (d_binX (OwnLs.cons (ownL_mk dn_floordiv dr_floordiv (Gd.gf G_Ratio_floordiv) (hr.mono (by decide)) T.m_1_floordiv.at_ T.m_1_floordiv.fn T.sf_1 T.m_1_rfloordiv.at_ (.inr ⟨_, rfl⟩) (opkd_all (k := ⟨K, cm⟩) tL_floordiv T.k_1 ksub (fun _ h => by cases h))) OwnLs.nil) (OwnRs.cons (ownR_mk dn_floordiv dr_floordiv (Gd.gf G_Ratio_rfloordiv) (hr.mono (by decide)) T.m_1_floordiv.at_ T.m_1_rfloordiv.at_ T.m_1_rfloordiv.fn T.sf_1 (opkr_all (k := ⟨K, cm⟩) tR_floordiv T.sb_1 (fun _ h => by cases h))) OwnRs.nil) ov_fdiv.kept op_fdivG hg takesB (d_var 2) (d_var 0)))))))
theorem ok_Ratio_rmod (T : Tk K ad cm) (X0 : K.In base) (G0 : base.Ns mainGlobals mg) : Gd P w K mg base ⟨K, cm⟩ 8 (ad 32) f_Ratio_rmod :=
  (okS_Ratio_rmod T X0 G0).gd fun _ _ _ _ _ _ us hl => match us, hl with | [_, _], _ => rfl
theorem okS_floor (T : Tk K ad cm) (X0 : K.In base) (G0 : base.Ns mainGlobals mg) : Gs P w K mg base ⟨K, cm⟩ 1 "_law_floor" "_law_floor" s_floor (ad 33) ["_law_this", "_law_mate"] f_floor := by
  refine DefAt.okS T.d_floor sc_floor rfl rfl (by decide) fun cdv A outer s H E F0 H0 pr hr hg => ?_
  exact (dss_one (ds_ret (d_fdiv (do_m (d_mul (do_m (d_ix (ix_all (hu_of hr)) (do_s 0) (do_m d_int))) (do_m (d_ix (ix_all (hu_of hr)) (do_s 1) (do_m d_int))))) (do_m (d_mul (do_m (d_ix (ix_all (hu_of hr)) (do_s 0) (do_m d_int))) (do_m (d_ix (ix_all (hu_of hr)) (do_s 1) (do_m d_int))))))))
theorem ok_floor (T : Tk K ad cm) (X0 : K.In base) (G0 : base.Ns mainGlobals mg) : Gd P w K mg base ⟨K, cm⟩ 1 (ad 33) f_floor :=
  (okS_floor T X0 G0).gd fun _ _ _ _ _ _ us hl => match us, hl with | [_, _], _ => rfl
theorem okS_rest (T : Tk K ad cm) (X0 : K.In base) (G0 : base.Ns mainGlobals mg) : Gs P w K mg base ⟨K, cm⟩ 4 "_law_rest" "_law_rest" s_rest (ad 34) ["_law_this", "_law_mate"] f_rest := by
  refine DefAt.okS T.d_rest sc_rest rfl rfl (by decide) fun cdv A outer s H E F0 H0 pr hr hg => ?_
  have mg__law_floor := PySem.W.mg_of X0 G0 T.g__law_floor
  have mg__law_less := PySem.W.mg_of X0 G0 T.g__law_less
  have mg__law_times := PySem.W.mg_of X0 G0 T.g__law_times
  have G_less : Gd P w K mg base ⟨K, cm⟩ 3 (ad 24) f_less := ok_less T X0 G0
  have G_times : Gd P w K mg base ⟨K, cm⟩ 2 (ad 27) f_times := ok_times T X0 G0
  have G_floor : Gd P w K mg base ⟨K, cm⟩ 1 (ad 33) f_floor := ok_floor T X0 G0
  exact (dss_one (ds_ret (d_callG (Gd.gf G_less) (hr.mono (by decide)) hg takesB rfl mg__law_less (da_cons (do_m (d_var 0)) (da_cons (do_m (d_callG (Gd.gf G_times) (hr.mono (by decide)) hg takesB rfl mg__law_times (da_cons (do_m (d_tup (dc_cons (d_callG (Gd.gf G_floor) (hr.mono (by decide)) hg takesB rfl mg__law_floor (da_cons (do_m (d_var 0)) (da_cons (do_m (d_var 1)) da_nil))) (dc_cons d_int dc_nil)))) (da_cons (do_m (d_var 1)) da_nil)))) da_nil)))))
theorem ok_rest (T : Tk K ad cm) (X0 : K.In base) (G0 : base.Ns mainGlobals mg) : Gd P w K mg base ⟨K, cm⟩ 4 (ad 34) f_rest :=
  (okS_rest T X0 G0).gd fun _ _ _ _ _ _ us hl => match us, hl with | [_, _], _ => rfl
theorem okS_Ratio_abs (T : Tk K ad cm) (X0 : K.In base) (G0 : base.Ns mainGlobals mg) : Gs P w K mg base ⟨K, cm⟩ 4 "__abs__" "Ratio.__abs__" s_Ratio_abs (ad 35) ["self"] f_Ratio_abs := by
  refine DefAt.okS T.d_Ratio_abs sc_Ratio_abs rfl rfl (by decide) fun cdv A outer s H E F0 H0 pr hr hg => ?_
  have mg_Ratio := PySem.W.mg_of X0 G0 T.g_Ratio
  have mg_abs : mg "abs" = none := PySem.W.mg_none_of X0 G0 T.g_abs
  exact (dss_one (ds_ret (DN.kept (d_makeK (c := 1) 2 [0, 1] [.int 1] (GsD.gmk (ks := []) (ds := [.int 1]) (okS_Ratio_init T X0 G0) T.mk_1 (by simp) (fun _ => (.cons .int .nil)) (by decide) fun _ _ _ _ _ _ _ pre us ws its h1 h2 h3 h4 => match pre, us, ws, its, h1, h2, h3, h4 with | [_], [_, _], [], [_], _, _, _, _ => ⟨_, rfl, rfl⟩) (hr.mono (by decide)) hg takesB rfl mg_Ratio (da_cons (do_m (d_abs mg_abs (do_m (d_attr "own_top" [(1, .fld)] hg rfl (AccsOk.cons (.fld T.c_1 T.n_1_own_top) AccsOk.nil) (do_s 0))))) (da_cons (do_m (d_attr "own_bottom" [(1, .fld)] hg rfl (AccsOk.cons (.fld T.c_1 T.n_1_own_bottom) AccsOk.nil) (do_s 0))) da_nil)) dk_nil))))
theorem ok_Ratio_abs (T : Tk K ad cm) (X0 : K.In base) (G0 : base.Ns mainGlobals mg) : Gd P w K mg base ⟨K, cm⟩ 4 (ad 35) f_Ratio_abs :=
  (okS_Ratio_abs T X0 G0).gd fun _ _ _ _ _ _ us hl => match us, hl with | [_], _ => rfl
theorem okS_register_right (T : Tk K ad cm) (X0 : K.In base) (G0 : base.Ns mainGlobals mg) : Gs P w K mg base ⟨K, cm⟩ 10 "_law_register_right" "_law_register_right" s_register_right (ad 36) ["_law_pot_here"] f_register_right := by
  refine DefAt.okS T.d_register_right sc_register_right rfl rfl (by decide) fun cdv A outer s H E F0 H0 pr hr hg => ?_
  have mg__law_draw := PySem.W.mg_of X0 G0 T.g__law_draw
  have mg__law_drawn := PySem.W.mg_of X0 G0 T.g__law_drawn
  have mg__law_frac := PySem.W.mg_of X0 G0 T.g__law_frac
  have mg__law_less := PySem.W.mg_of X0 G0 T.g__law_less
  have mg__law_made := PySem.W.mg_of X0 G0 T.g__law_made
  have mg__law_plus := PySem.W.mg_of X0 G0 T.g__law_plus
  have mg__law_rest := PySem.W.mg_of X0 G0 T.g__law_rest
  have mg__law_side := PySem.W.mg_of X0 G0 T.g__law_side
  have mg__law_text := PySem.W.mg_of X0 G0 T.g__law_text
  have mg__law_times := PySem.W.mg_of X0 G0 T.g__law_times
  have mg__law_told := PySem.W.mg_of X0 G0 T.g__law_told
  have mg_abs : mg "abs" = none := PySem.W.mg_none_of X0 G0 T.g_abs
  have mg_range : mg "range" = none := PySem.W.mg_none_of X0 G0 T.g_range
  have mg_str : mg "str" = none := PySem.W.mg_none_of X0 G0 T.g_str
  have G_Ratio_add : Gd P w K mg base ⟨K, cm⟩ 4 (ad 16) f_Ratio_add := ok_Ratio_add T X0 G0
  have G_Ratio_radd : Gd P w K mg base ⟨K, cm⟩ 5 (ad 17) f_Ratio_radd := ok_Ratio_radd T X0 G0
  have G_Ratio_sub : Gd P w K mg base ⟨K, cm⟩ 4 (ad 22) f_Ratio_sub := ok_Ratio_sub T X0 G0
  have G_Ratio_rsub : Gd P w K mg base ⟨K, cm⟩ 7 (ad 23) f_Ratio_rsub := ok_Ratio_rsub T X0 G0
  have G_Ratio_mul : Gd P w K mg base ⟨K, cm⟩ 4 (ad 25) f_Ratio_mul := ok_Ratio_mul T X0 G0
  have G_Ratio_rmul : Gd P w K mg base ⟨K, cm⟩ 5 (ad 26) f_Ratio_rmul := ok_Ratio_rmul T X0 G0
  have G_Ratio_mod : Gd P w K mg base ⟨K, cm⟩ 8 (ad 31) f_Ratio_mod := ok_Ratio_mod T X0 G0
  have G_Ratio_rmod : Gd P w K mg base ⟨K, cm⟩ 8 (ad 32) f_Ratio_rmod := ok_Ratio_rmod T X0 G0
  have G_Ratio_neg : Gd P w K mg base ⟨K, cm⟩ 4 (ad 7) f_Ratio_neg := ok_Ratio_neg T X0 G0
  have G_Ratio_abs : Gd P w K mg base ⟨K, cm⟩ 4 (ad 35) f_Ratio_abs := ok_Ratio_abs T X0 G0
  have G_Ratio_over : Gd P w K mg base ⟨K, cm⟩ 4 (ad 28) f_Ratio_over := ok_Ratio_over T X0 G0
  have G_Ratio_str : Gd P w K mg base ⟨K, cm⟩ 1 (ad 8) f_Ratio_str := ok_Ratio_str T X0 G0
  have G_draw : Gd P w K mg base ⟨K, cm⟩ 1 (ad 1) f_draw := ok_draw T X0 G0
  have G_frac : Gd P w K mg base ⟨K, cm⟩ 1 (ad 0) f_frac := ok_frac T X0 G0
  have G_drawn : Gd P w K mg base ⟨K, cm⟩ 3 (ad 3) f_drawn := ok_drawn T X0 G0
  have G_text : Gd P w K mg base ⟨K, cm⟩ 1 (ad 13) f_text := ok_text T X0 G0
  have G_made : Gd P w K mg base ⟨K, cm⟩ 8 (ad 14) f_made := ok_made T X0 G0
  have G_side : Gd P w K mg base ⟨K, cm⟩ 9 (ad 15) f_side := ok_side T X0 G0
  have G_plus : Gd P w K mg base ⟨K, cm⟩ 2 (ad 18) f_plus := ok_plus T X0 G0
  have G_less : Gd P w K mg base ⟨K, cm⟩ 3 (ad 24) f_less := ok_less T X0 G0
  have G_times : Gd P w K mg base ⟨K, cm⟩ 2 (ad 27) f_times := ok_times T X0 G0
  have G_rest : Gd P w K mg base ⟨K, cm⟩ 4 (ad 34) f_rest := ok_rest T X0 G0
  have G_told : Gd P w K mg base ⟨K, cm⟩ 3 (ad 21) f_told := ok_told T X0 G0
  exact (dss_cons (ds_set 1 (d_callG (Gd.gf G_drawn) (hr.mono (by decide)) hg takesB rfl mg__law_drawn (da_cons (do_s 0) da_nil)) sc_register_right.nd)
    (dss_cons (ds_set 2 (d_callG (Gd.gf G_made) (hr.mono (by decide)) hg takesB rfl mg__law_made (da_cons (do_s 0) (da_cons (do_m (d_var 1)) da_nil))) sc_register_right.nd)
    (dss_cons (ds_for passB rfl (di_range1 rfl mg_range (do_m (d_callG (Gd.gf G_draw) (hr.mono (by decide)) hg takesB rfl mg__law_draw (da_cons (do_s 0) (da_cons (do_m d_int) da_nil))))) (dg_name 3 sc_register_right.nd)
    (dss_cons (ds_par2 4 5 rfl sc_register_right.nd (dps_k (fun _ _ _ => (d_callG (Gd.gf G_drawn) (hr.mono (by decide)) hg takesB rfl mg__law_drawn (da_cons (do_s 0) da_nil))) (dps_k (fun _ _ _ => (d_callG (Gd.gf G_draw) (hr.mono (by decide)) hg takesB rfl mg__law_draw (da_cons (do_s 0) (da_cons (do_m d_int) da_nil)))) dps_nil)))
    (dss_cons (ds_set 6 (d_callG (Gd.gf G_side) (hr.mono (by decide)) hg takesB rfl mg__law_side (da_cons (do_s 0) (da_cons (do_m (d_var 4)) da_nil))) sc_register_right.nd)
    (dss_cons (ds_if (dt_cmp ov_eq (op_eqD hr.units) (do_s 5) (do_m d_int) (nomark _))
    (dss_one (ds_par2 2 1 rfl sc_register_right.nd (dps_k (fun _ _ _ => (d_binX (OwnLs.cons (ownL_mk dn_add dr_add (Gd.gf G_Ratio_add) (hr.mono (by decide)) T.m_1_add.at_ T.m_1_add.fn T.sf_1 T.m_1_radd.at_ (.inr ⟨_, rfl⟩) (opkd_all (k := ⟨K, cm⟩) tL_add T.k_1 ksub (fun _ h => by cases h))) OwnLs.nil) (OwnRs.cons (ownR_mk dn_add dr_add (Gd.gf G_Ratio_radd) (hr.mono (by decide)) T.m_1_add.at_ T.m_1_radd.at_ T.m_1_radd.fn T.sf_1 (opkr_all (k := ⟨K, cm⟩) tR_add T.sb_1 (fun _ h => by cases h))) OwnRs.nil) (okK_add rfl) op_addX hg takesB (d_var 2) (d_var 6))) (dps_k (fun _ _ _ => (d_callG (Gd.gf G_plus) (hr.mono (by decide)) hg takesB rfl mg__law_plus (da_cons (do_m (d_var 1)) (da_cons (do_m (d_var 4)) da_nil)))) dps_nil))))
    (dss_one (ds_if (dt_cmp ov_eq (op_eqD hr.units) (do_s 5) (do_m d_int) (nomark _))
    (dss_one (ds_par2 2 1 rfl sc_register_right.nd (dps_k (fun _ _ _ => (d_binX (OwnLs.cons (ownL_mk dn_sub dr_sub (Gd.gf G_Ratio_sub) (hr.mono (by decide)) T.m_1_sub.at_ T.m_1_sub.fn T.sf_1 T.m_1_rsub.at_ (.inr ⟨_, rfl⟩) (opkd_all (k := ⟨K, cm⟩) tL_sub T.k_1 ksub (fun _ h => by cases h))) OwnLs.nil) (OwnRs.cons (ownR_mk dn_sub dr_sub (Gd.gf G_Ratio_rsub) (hr.mono (by decide)) T.m_1_sub.at_ T.m_1_rsub.at_ T.m_1_rsub.fn T.sf_1 (opkr_all (k := ⟨K, cm⟩) tR_sub T.sb_1 (fun _ h => by cases h))) OwnRs.nil) ov_sub.kept op_sub hg takesB (d_var 6) (d_var 2))) (dps_k (fun _ _ _ => (d_callG (Gd.gf G_less) (hr.mono (by decide)) hg takesB rfl mg__law_less (da_cons (do_m (d_var 4)) (da_cons (do_m (d_var 1)) da_nil)))) dps_nil))))
    (dss_one (ds_if (dt_cmp ov_eq (op_eqD hr.units) (do_s 5) (do_m d_int) (nomark _))
    (dss_one (ds_par2 2 1 rfl sc_register_right.nd (dps_k (fun _ _ _ => (d_binX (OwnLs.cons (ownL_mk dn_mul dr_mul (Gd.gf G_Ratio_mul) (hr.mono (by decide)) T.m_1_mul.at_ T.m_1_mul.fn T.sf_1 T.m_1_rmul.at_ (.inr ⟨_, rfl⟩) (opkd_all (k := ⟨K, cm⟩) tL_mul T.k_1 ksub (fun _ h => by cases h))) OwnLs.nil) (OwnRs.cons (ownR_mk dn_mul dr_mul (Gd.gf G_Ratio_rmul) (hr.mono (by decide)) T.m_1_mul.at_ T.m_1_rmul.at_ T.m_1_rmul.fn T.sf_1 (opkr_all (k := ⟨K, cm⟩) tR_mul T.sb_1 (fun _ h => by cases h))) OwnRs.nil) okK_mul op_mulX hg takesB (d_var 2) (d_var 6))) (dps_k (fun _ _ _ => (d_callG (Gd.gf G_times) (hr.mono (by decide)) hg takesB rfl mg__law_times (da_cons (do_m (d_var 1)) (da_cons (do_m (d_var 4)) da_nil)))) dps_nil))))
    (dss_one (ds_if (dt_bool (dw_and (dt_cmp ov_eq (op_eqD hr.units) (do_s 5) (do_m d_int) (nomark _)) (dw_and1 (dt_cmp ov_ne (op_neD hr.units) (do_m (d_ix (ix_all (hu_of hr)) (do_s 4) (do_m d_int))) (do_m d_int) (nomark _)))))
    (dss_one (ds_par2 2 1 rfl sc_register_right.nd (dps_k (fun _ _ _ => (d_meth "over" [(1, f_Ratio_over)] hg takesB rfl (MethsOk.cons ⟨T.c_1, _, _, T.m_1_over, (Gd.gf G_Ratio_over), hr.mono (by decide)⟩ MethsOk.nil) (do_m (d_var 2)) (da_cons (do_m (d_var 6)) da_nil))) (dps_k (fun _ _ _ => (d_callG (Gd.gf G_frac) (hr.mono (by decide)) hg takesB rfl mg__law_frac (da_cons (do_m (d_mul (do_m (d_ix (ix_all (hu_of hr)) (do_s 1) (do_m d_int))) (do_m (d_ix (ix_all (hu_of hr)) (do_s 4) (do_m d_int))))) (da_cons (do_m (d_mul (do_m (d_ix (ix_all (hu_of hr)) (do_s 1) (do_m d_int))) (do_m (d_ix (ix_all (hu_of hr)) (do_s 4) (do_m d_int))))) da_nil)))) dps_nil))))
    (dss_one (ds_if (dt_bool (dw_and (dt_cmp ov_eq (op_eqD hr.units) (do_s 5) (do_m d_int) (nomark _)) (dw_and1 (dt_cmp ov_ne (op_neD hr.units) (do_m (d_ix (ix_all (hu_of hr)) (do_s 4) (do_m d_int))) (do_m d_int) (nomark _)))))
    (dss_one (ds_par2 2 1 rfl sc_register_right.nd (dps_k (fun _ _ _ => (d_binX (OwnLs.cons (ownL_mk dn_mod dr_mod (Gd.gf G_Ratio_mod) (hr.mono (by decide)) T.m_1_mod.at_ T.m_1_mod.fn T.sf_1 T.m_1_rmod.at_ (.inr ⟨_, rfl⟩) (opkd_all (k := ⟨K, cm⟩) tL_mod T.k_1 ksub (fun _ h => by cases h))) OwnLs.nil) (OwnRs.cons (ownR_mk dn_mod dr_mod (Gd.gf G_Ratio_rmod) (hr.mono (by decide)) T.m_1_mod.at_ T.m_1_rmod.at_ T.m_1_rmod.fn T.sf_1 (opkr_all (k := ⟨K, cm⟩) tR_mod (sub6 T.sb_1) (fun _ h => by cases h))) OwnRs.nil) ov_mod.kept op_modN hg takesB (d_var 2) (d_var 6))) (dps_k (fun _ _ _ => (d_callG (Gd.gf G_rest) (hr.mono (by decide)) hg takesB rfl mg__law_rest (da_cons (do_m (d_var 1)) (da_cons (do_m (d_var 4)) da_nil)))) dps_nil))))
    (dss_one (ds_if (dt_bool (dw_and (dt_cmp ov_eq (op_eqD hr.units) (do_s 5) (do_m d_int) (nomark _)) (dw_and1 (dt_cmp ov_ne (op_neD hr.units) (do_m (d_ix (ix_all (hu_of hr)) (do_s 1) (do_m d_int))) (do_m d_int) (nomark _)))))
    (dss_one (ds_par2 2 1 rfl sc_register_right.nd (dps_k (fun _ _ _ => (d_binX (OwnLs.cons (ownL_mk dn_mod dr_mod (Gd.gf G_Ratio_mod) (hr.mono (by decide)) T.m_1_mod.at_ T.m_1_mod.fn T.sf_1 T.m_1_rmod.at_ (.inr ⟨_, rfl⟩) (opkd_all (k := ⟨K, cm⟩) tL_mod T.k_1 ksub (fun _ h => by cases h))) OwnLs.nil) (OwnRs.cons (ownR_mk dn_mod dr_mod (Gd.gf G_Ratio_rmod) (hr.mono (by decide)) T.m_1_mod.at_ T.m_1_rmod.at_ T.m_1_rmod.fn T.sf_1 (opkr_all (k := ⟨K, cm⟩) tR_mod (sub6 T.sb_1) (fun _ h => by cases h))) OwnRs.nil) ov_mod.kept op_modN hg takesB (d_var 6) (d_var 2))) (dps_k (fun _ _ _ => (d_callG (Gd.gf G_rest) (hr.mono (by decide)) hg takesB rfl mg__law_rest (da_cons (do_m (d_var 4)) (da_cons (do_m (d_var 1)) da_nil)))) dps_nil))))
    (dss_one (ds_par2 2 1 rfl sc_register_right.nd (dps_k (fun _ _ _ => (d_binX (OwnLs.cons (ownL_mk dn_sub dr_sub (Gd.gf G_Ratio_sub) (hr.mono (by decide)) T.m_1_sub.at_ T.m_1_sub.fn T.sf_1 T.m_1_rsub.at_ (.inr ⟨_, rfl⟩) (opkd_all (k := ⟨K, cm⟩) tL_sub T.k_1 ksub (fun _ h => by cases h))) OwnLs.nil) (OwnRs.cons (ownR_mk dn_sub dr_sub (Gd.gf G_Ratio_rsub) (hr.mono (by decide)) T.m_1_sub.at_ T.m_1_rsub.at_ T.m_1_rsub.fn T.sf_1 (opkr_all (k := ⟨K, cm⟩) tR_sub T.sb_1 (fun _ h => by cases h))) OwnRs.nil) ov_sub.kept op_sub hg takesB (d_abs1 (OwnOps.cons ⟨⟨_, _, (Gd.gf G_Ratio_abs), hr.mono (by decide), T.m_1_abs.at_, T.m_1_abs.fn⟩, T.k_1⟩ OwnOps.nil) hg mg_abs (d_unK (uk_own (OwnOps.cons ⟨⟨_, _, (Gd.gf G_Ratio_neg), hr.mono (by decide), T.m_1_neg.at_, T.m_1_neg.fn⟩, T.k_1⟩ OwnOps.nil) uv_neg) (UnR.or (un_ownNeg hg) un_neg) (d_var 2))) (d_var 2))) (dps_k (fun _ _ _ => (d_callG (Gd.gf G_less) (hr.mono (by decide)) hg takesB rfl mg__law_less (da_cons (do_m (d_tup (dc_cons (d_abs mg_abs (do_m (d_ix (ix_all (hu_of hr)) (do_s 1) (do_m d_int)))) (dc_cons (d_ix (ix_all (hu_of hr)) (do_s 1) (do_m d_int)) dc_nil)))) (da_cons (do_m (d_var 1)) da_nil)))) dps_nil)))))))))))))))
    (dss_one (ds_if (dt_bool (dw_or (dt_cmp ov_ne (op_neD hr.units) (do_m (d_callG (Gd.gf G_told) (hr.mono (by decide)) hg takesB rfl mg__law_told (da_cons (do_m (DN.kept (d_lst (dc_cons (d_var 2) dc_nil)))) da_nil))) (do_m (DN.kept (d_lst (dc_cons (d_var 1) dc_nil)))) (nomark _)) (dw_or1 (dt_cmp ov_ne (op_neD hr.units) (do_m (d_str1 (OwnOps.cons ⟨⟨_, _, (Gd.gf G_Ratio_str), hr.mono (by decide), T.m_1_str.at_, T.m_1_str.fn⟩, T.k_1⟩ OwnOps.nil) hg hr.units rfl mg_str (d_var 2))) (do_m (d_callG (Gd.gf G_text) (hr.mono (by decide)) hg takesB rfl mg__law_text (da_cons (do_m (d_var 1)) da_nil))) (nomark _)))))
    (dss_one (ds_ret d_bl))
    dss_nil))))))
    (dss_one (ds_ret d_bl)))))
theorem ok_register_right (T : Tk K ad cm) (X0 : K.In base) (G0 : base.Ns mainGlobals mg) : Gd P w K mg base ⟨K, cm⟩ 10 (ad 36) f_register_right :=
  (okS_register_right T X0 G0).gd fun _ _ _ _ _ _ us hl => match us, hl with | [_], _ => rfl
theorem okS_sums_right (T : Tk K ad cm) (X0 : K.In base) (G0 : base.Ns mainGlobals mg) : Gs P w K mg base ⟨K, cm⟩ 8 "_law_sums_right" "_law_sums_right" s_sums_right (ad 37) ["_law_one", "_law_mate", "_law_this", "_law_near"] f_sums_right := by
  refine DefAt.okS T.d_sums_right sc_sums_right rfl rfl (by decide) fun cdv A outer s H E F0 H0 pr hr hg => ?_
  have mg__law_less := PySem.W.mg_of X0 G0 T.g__law_less
  have mg__law_plus := PySem.W.mg_of X0 G0 T.g__law_plus
  have mg__law_times := PySem.W.mg_of X0 G0 T.g__law_times
  have mg__law_told := PySem.W.mg_of X0 G0 T.g__law_told
  have G_Ratio_add : Gd P w K mg base ⟨K, cm⟩ 4 (ad 16) f_Ratio_add := ok_Ratio_add T X0 G0
  have G_Ratio_radd : Gd P w K mg base ⟨K, cm⟩ 5 (ad 17) f_Ratio_radd := ok_Ratio_radd T X0 G0
  have G_Ratio_sub : Gd P w K mg base ⟨K, cm⟩ 4 (ad 22) f_Ratio_sub := ok_Ratio_sub T X0 G0
  have G_Ratio_rsub : Gd P w K mg base ⟨K, cm⟩ 7 (ad 23) f_Ratio_rsub := ok_Ratio_rsub T X0 G0
  have G_Ratio_mul : Gd P w K mg base ⟨K, cm⟩ 4 (ad 25) f_Ratio_mul := ok_Ratio_mul T X0 G0
  have G_Ratio_rmul : Gd P w K mg base ⟨K, cm⟩ 5 (ad 26) f_Ratio_rmul := ok_Ratio_rmul T X0 G0
  have G_plus : Gd P w K mg base ⟨K, cm⟩ 2 (ad 18) f_plus := ok_plus T X0 G0
  have G_less : Gd P w K mg base ⟨K, cm⟩ 3 (ad 24) f_less := ok_less T X0 G0
  have G_times : Gd P w K mg base ⟨K, cm⟩ 2 (ad 27) f_times := ok_times T X0 G0
  have G_told : Gd P w K mg base ⟨K, cm⟩ 3 (ad 21) f_told := ok_told T X0 G0
  exact (dss_cons (ds_set 4 (DN.kept (d_lst (dc_cons (d_binX (OwnLs.cons (ownL_mk dn_add dr_add (Gd.gf G_Ratio_add) (hr.mono (by decide)) T.m_1_add.at_ T.m_1_add.fn T.sf_1 T.m_1_radd.at_ (.inr ⟨_, rfl⟩) (opkd_all (k := ⟨K, cm⟩) tL_add T.k_1 ksub (fun _ h => by cases h))) OwnLs.nil) (OwnRs.cons (ownR_mk dn_add dr_add (Gd.gf G_Ratio_radd) (hr.mono (by decide)) T.m_1_add.at_ T.m_1_radd.at_ T.m_1_radd.fn T.sf_1 (opkr_all (k := ⟨K, cm⟩) tR_add T.sb_1 (fun _ h => by cases h))) OwnRs.nil) (okK_add rfl) op_addX hg takesB (d_var 0) (d_var 1)) (dc_cons (d_binX (OwnLs.cons (ownL_mk dn_add dr_add (Gd.gf G_Ratio_add) (hr.mono (by decide)) T.m_1_add.at_ T.m_1_add.fn T.sf_1 T.m_1_radd.at_ (.inr ⟨_, rfl⟩) (opkd_all (k := ⟨K, cm⟩) tL_add T.k_1 ksub (fun _ h => by cases h))) OwnLs.nil) (OwnRs.cons (ownR_mk dn_add dr_add (Gd.gf G_Ratio_radd) (hr.mono (by decide)) T.m_1_add.at_ T.m_1_radd.at_ T.m_1_radd.fn T.sf_1 (opkr_all (k := ⟨K, cm⟩) tR_add T.sb_1 (fun _ h => by cases h))) OwnRs.nil) (okK_add rfl) op_addX hg takesB (d_var 1) (d_var 0)) (dc_cons (d_binX (OwnLs.cons (ownL_mk dn_sub dr_sub (Gd.gf G_Ratio_sub) (hr.mono (by decide)) T.m_1_sub.at_ T.m_1_sub.fn T.sf_1 T.m_1_rsub.at_ (.inr ⟨_, rfl⟩) (opkd_all (k := ⟨K, cm⟩) tL_sub T.k_1 ksub (fun _ h => by cases h))) OwnLs.nil) (OwnRs.cons (ownR_mk dn_sub dr_sub (Gd.gf G_Ratio_rsub) (hr.mono (by decide)) T.m_1_sub.at_ T.m_1_rsub.at_ T.m_1_rsub.fn T.sf_1 (opkr_all (k := ⟨K, cm⟩) tR_sub T.sb_1 (fun _ h => by cases h))) OwnRs.nil) ov_sub.kept op_sub hg takesB (d_var 0) (d_var 1)) (dc_cons (d_binX (OwnLs.cons (ownL_mk dn_sub dr_sub (Gd.gf G_Ratio_sub) (hr.mono (by decide)) T.m_1_sub.at_ T.m_1_sub.fn T.sf_1 T.m_1_rsub.at_ (.inr ⟨_, rfl⟩) (opkd_all (k := ⟨K, cm⟩) tL_sub T.k_1 ksub (fun _ h => by cases h))) OwnLs.nil) (OwnRs.cons (ownR_mk dn_sub dr_sub (Gd.gf G_Ratio_rsub) (hr.mono (by decide)) T.m_1_sub.at_ T.m_1_rsub.at_ T.m_1_rsub.fn T.sf_1 (opkr_all (k := ⟨K, cm⟩) tR_sub T.sb_1 (fun _ h => by cases h))) OwnRs.nil) ov_sub.kept op_sub hg takesB (d_var 1) (d_var 0)) (dc_cons (d_binX (OwnLs.cons (ownL_mk dn_mul dr_mul (Gd.gf G_Ratio_mul) (hr.mono (by decide)) T.m_1_mul.at_ T.m_1_mul.fn T.sf_1 T.m_1_rmul.at_ (.inr ⟨_, rfl⟩) (opkd_all (k := ⟨K, cm⟩) tL_mul T.k_1 ksub (fun _ h => by cases h))) OwnLs.nil) (OwnRs.cons (ownR_mk dn_mul dr_mul (Gd.gf G_Ratio_rmul) (hr.mono (by decide)) T.m_1_mul.at_ T.m_1_rmul.at_ T.m_1_rmul.fn T.sf_1 (opkr_all (k := ⟨K, cm⟩) tR_mul T.sb_1 (fun _ h => by cases h))) OwnRs.nil) okK_mul op_mulX hg takesB (d_var 0) (d_var 1)) (dc_cons (d_binX (OwnLs.cons (ownL_mk dn_mul dr_mul (Gd.gf G_Ratio_mul) (hr.mono (by decide)) T.m_1_mul.at_ T.m_1_mul.fn T.sf_1 T.m_1_rmul.at_ (.inr ⟨_, rfl⟩) (opkd_all (k := ⟨K, cm⟩) tL_mul T.k_1 ksub (fun _ h => by cases h))) OwnLs.nil) (OwnRs.cons (ownR_mk dn_mul dr_mul (Gd.gf G_Ratio_rmul) (hr.mono (by decide)) T.m_1_mul.at_ T.m_1_rmul.at_ T.m_1_rmul.fn T.sf_1 (opkr_all (k := ⟨K, cm⟩) tR_mul T.sb_1 (fun _ h => by cases h))) OwnRs.nil) okK_mul op_mulX hg takesB (d_var 1) (d_var 0)) dc_nil)))))))) sc_sums_right.nd)
    (dss_cons (ds_set 5 (d_add (do_m (d_mul (do_m (DN.kept (d_lst (dc_cons (d_callG (Gd.gf G_plus) (hr.mono (by decide)) hg takesB rfl mg__law_plus (da_cons (do_m (d_var 2)) (da_cons (do_m (d_var 3)) da_nil))) dc_nil)))) (do_m d_int))) (do_m (DN.kept (d_lst (dc_cons (d_callG (Gd.gf G_less) (hr.mono (by decide)) hg takesB rfl mg__law_less (da_cons (do_m (d_var 2)) (da_cons (do_m (d_var 3)) da_nil))) (dc_cons (d_callG (Gd.gf G_less) (hr.mono (by decide)) hg takesB rfl mg__law_less (da_cons (do_m (d_var 3)) (da_cons (do_m (d_var 2)) da_nil))) dc_nil)))))) sc_sums_right.nd)
    (dss_one (ds_ret (d_cmp ov_eq (op_eqD hr.units) (do_m (d_callG (Gd.gf G_told) (hr.mono (by decide)) hg takesB rfl mg__law_told (da_cons (do_m (d_var 4)) da_nil))) (do_m (d_add (do_s 5) (do_m (d_mul (do_m (DN.kept (d_lst (dc_cons (d_callG (Gd.gf G_times) (hr.mono (by decide)) hg takesB rfl mg__law_times (da_cons (do_m (d_var 2)) (da_cons (do_m (d_var 3)) da_nil))) dc_nil)))) (do_m d_int))))) (nomark _))))))
theorem ok_sums_right (T : Tk K ad cm) (X0 : K.In base) (G0 : base.Ns mainGlobals mg) : Gd P w K mg base ⟨K, cm⟩ 8 (ad 37) f_sums_right :=
  (okS_sums_right T X0 G0).gd fun _ _ _ _ _ _ us hl => match us, hl with | [_, _, _, _], _ => rfl
theorem okS_Ratio_floor (T : Tk K ad cm) (X0 : K.In base) (G0 : base.Ns mainGlobals mg) : Gs P w K mg base ⟨K, cm⟩ 1 "floor" "Ratio.floor" s_Ratio_floor (ad 38) ["self"] f_Ratio_floor := by
  refine DefAt.okS T.d_Ratio_floor sc_Ratio_floor rfl rfl (by decide) fun cdv A outer s H E F0 H0 pr hr hg => ?_
  exact (dss_one (ds_ret (d_fdiv (do_m (d_attr "own_top" [(1, .fld)] hg rfl (AccsOk.cons (.fld T.c_1 T.n_1_own_top) AccsOk.nil) (do_s 0))) (do_m (d_attr "own_bottom" [(1, .fld)] hg rfl (AccsOk.cons (.fld T.c_1 T.n_1_own_bottom) AccsOk.nil) (do_s 0))))))
theorem ok_Ratio_floor (T : Tk K ad cm) (X0 : K.In base) (G0 : base.Ns mainGlobals mg) : Gd P w K mg base ⟨K, cm⟩ 1 (ad 38) f_Ratio_floor :=
  (okS_Ratio_floor T X0 G0).gd fun _ _ _ _ _ _ us hl => match us, hl with | [_], _ => rfl
theorem okS_are_integers (T : Tk K ad cm) (X0 : K.In base) (G0 : base.Ns mainGlobals mg) : Gs P w K mg base ⟨K, cm⟩ 1 "_law_are_integers" "_law_are_integers" s_are_integers (ad 39) ["_law_some"] f_are_integers := by
  refine DefAt.okS T.d_are_integers sc_are_integers rfl rfl (by decide) fun cdv A outer s H E F0 H0 pr hr hg => ?_
  have mg_all : mg "all" = none := PySem.W.mg_none_of X0 G0 T.g_all
  have mg_bool : mg "bool" = none := PySem.W.mg_none_of X0 G0 T.g_bool
  have mg_int : mg "int" = none := PySem.W.mg_none_of X0 G0 T.g_int
  have mg_isinstance : mg "isinstance" = none := PySem.W.mg_none_of X0 G0 T.g_isinstance
  exact (dss_one (ds_ret (d_all mg_all rfl (do_m (DN.kept (d_lc rfl sc_are_integers.nd (blkOk_by (own := [("_law_made_here", 1)]) rfl) rfl (di_any (d_var 0)) (fun _ _ _ _ _ _ _ _ => (dgw_name 1 sc_are_integers.nd)) (fun _ _ _ _ _ _ _ _ => dts_nil) (fun _ _ _ _ _ _ _ _ => (d_and (d_isin T.isa mg_isinstance (do_s 1) (do_m (d_ty mg_int))) (d_one (d_not (do_m (d_isin T.isa mg_isinstance (do_s 1) (do_m (d_ty mg_bool))))))))))))))
theorem ok_are_integers (T : Tk K ad cm) (X0 : K.In base) (G0 : base.Ns mainGlobals mg) : Gd P w K mg base ⟨K, cm⟩ 1 (ad 39) f_are_integers :=
  (okS_are_integers T X0 G0).gd fun _ _ _ _ _ _ us hl => match us, hl with | [_], _ => rfl
theorem okS_quotients_right (T : Tk K ad cm) (X0 : K.In base) (G0 : base.Ns mainGlobals mg) : Gs P w K mg base ⟨K, cm⟩ 9 "_law_quotients_right" "_law_quotients_right" s_quotients_right (ad 40) ["_law_one", "_law_mate", "_law_this", "_law_near"] f_quotients_right := by
  refine DefAt.okS T.d_quotients_right sc_quotients_right rfl rfl (by decide) fun cdv A outer s H E F0 H0 pr hr hg => ?_
  have mg__law_are_integers := PySem.W.mg_of X0 G0 T.g__law_are_integers
  have mg__law_floor := PySem.W.mg_of X0 G0 T.g__law_floor
  have mg__law_frac := PySem.W.mg_of X0 G0 T.g__law_frac
  have mg__law_rest := PySem.W.mg_of X0 G0 T.g__law_rest
  have mg__law_told := PySem.W.mg_of X0 G0 T.g__law_told
  have G_Ratio_floordiv : Gd P w K mg base ⟨K, cm⟩ 3 (ad 29) f_Ratio_floordiv := ok_Ratio_floordiv T X0 G0
  have G_Ratio_rfloordiv : Gd P w K mg base ⟨K, cm⟩ 5 (ad 30) f_Ratio_rfloordiv := ok_Ratio_rfloordiv T X0 G0
  have G_Ratio_mod : Gd P w K mg base ⟨K, cm⟩ 8 (ad 31) f_Ratio_mod := ok_Ratio_mod T X0 G0
  have G_Ratio_rmod : Gd P w K mg base ⟨K, cm⟩ 8 (ad 32) f_Ratio_rmod := ok_Ratio_rmod T X0 G0
  have G_Ratio_over : Gd P w K mg base ⟨K, cm⟩ 4 (ad 28) f_Ratio_over := ok_Ratio_over T X0 G0
  have G_Ratio_floor : Gd P w K mg base ⟨K, cm⟩ 1 (ad 38) f_Ratio_floor := ok_Ratio_floor T X0 G0
  have G_frac : Gd P w K mg base ⟨K, cm⟩ 1 (ad 0) f_frac := ok_frac T X0 G0
  have G_floor : Gd P w K mg base ⟨K, cm⟩ 1 (ad 33) f_floor := ok_floor T X0 G0
  have G_rest : Gd P w K mg base ⟨K, cm⟩ 4 (ad 34) f_rest := ok_rest T X0 G0
  have G_told : Gd P w K mg base ⟨K, cm⟩ 3 (ad 21) f_told := ok_told T X0 G0
  have G_are_integers : Gd P w K mg base ⟨K, cm⟩ 1 (ad 39) f_are_integers := ok_are_integers T X0 G0
  exact (dss_cons (ds_if (dt_cmp ov_ne (op_neD hr.units) (do_m (d_ix (ix_all (hu_of hr)) (do_s 3) (do_m d_int))) (do_m d_int) (nomark _))
    (dss_cons (ds_set 4 (DN.kept (d_lst (dc_cons (d_binX (OwnLs.cons (ownL_mk dn_floordiv dr_floordiv (Gd.gf G_Ratio_floordiv) (hr.mono (by decide)) T.m_1_floordiv.at_ T.m_1_floordiv.fn T.sf_1 T.m_1_rfloordiv.at_ (.inr ⟨_, rfl⟩) (opkd_all (k := ⟨K, cm⟩) tL_floordiv T.k_1 ksub (fun _ h => by cases h))) OwnLs.nil) (OwnRs.cons (ownR_mk dn_floordiv dr_floordiv (Gd.gf G_Ratio_rfloordiv) (hr.mono (by decide)) T.m_1_floordiv.at_ T.m_1_rfloordiv.at_ T.m_1_rfloordiv.fn T.sf_1 (opkr_all (k := ⟨K, cm⟩) tR_floordiv T.sb_1 (fun _ h => by cases h))) OwnRs.nil) ov_fdiv.kept op_fdivG hg takesB (d_var 0) (d_var 1)) (dc_cons (d_meth0 "floor" [(1, f_Ratio_floor)] hg takesB rfl (MethsOk.cons ⟨T.c_1, _, _, T.m_1_floor, (Gd.gf G_Ratio_floor), hr.mono (by decide)⟩ MethsOk.nil) (do_m (d_methK "over" [(1, f_Ratio_over)] 0 [0, 1] [] rfl (MethKsOk.cons ⟨T.c_1, _, _, T.m_1_over, (Gs.gk (ks := ["other"]) (okS_Ratio_over T X0 G0) (by decide) fun _ _ _ _ _ _ pre us ws h1 h2 h3 => match pre, us, ws, h1, h2, h3 with | [], [_], [_], _, _, _ => rfl), hr.mono (by decide)⟩ MethKsOk.nil) hg takesB (do_m (d_var 0)) da_nil (dk_cons (do_m (d_var 1)) dk_nil)))) dc_nil)))) sc_quotients_right.nd)
    (dss_cons (ds_if (dt_bool (dw_or (dt_cmp ov_ne (op_neD hr.units) (do_s 4) (do_m (d_mul (do_m (DN.kept (d_lst (dc_cons (d_callG (Gd.gf G_floor) (hr.mono (by decide)) hg takesB rfl mg__law_floor (da_cons (do_m (d_var 2)) (da_cons (do_m (d_var 3)) da_nil))) dc_nil)))) (do_m d_int))) (nomark _)) (dw_or1 (dt_not (dt_tru (do_m (d_callG (Gd.gf G_are_integers) (hr.mono (by decide)) hg takesB rfl mg__law_are_integers (da_cons (do_m (d_var 4)) da_nil))))))))
    (dss_one (ds_ret d_bl))
    dss_nil)
    (dss_cons (ds_set 5 (d_callG (Gd.gf G_frac) (hr.mono (by decide)) hg takesB rfl mg__law_frac (da_cons (do_m (d_mul (do_m (d_ix (ix_all (hu_of hr)) (do_s 2) (do_m d_int))) (do_m (d_ix (ix_all (hu_of hr)) (do_s 3) (do_m d_int))))) (da_cons (do_m (d_mul (do_m (d_ix (ix_all (hu_of hr)) (do_s 2) (do_m d_int))) (do_m (d_ix (ix_all (hu_of hr)) (do_s 3) (do_m d_int))))) da_nil))) sc_quotients_right.nd)
    (dss_one (ds_if (dt_cmp ov_ne (op_neD hr.units) (do_m (d_callG (Gd.gf G_told) (hr.mono (by decide)) hg takesB rfl mg__law_told (da_cons (do_m (DN.kept (d_lst (dc_cons (d_binX (OwnLs.cons (ownL_mk dn_mod dr_mod (Gd.gf G_Ratio_mod) (hr.mono (by decide)) T.m_1_mod.at_ T.m_1_mod.fn T.sf_1 T.m_1_rmod.at_ (.inr ⟨_, rfl⟩) (opkd_all (k := ⟨K, cm⟩) tL_mod T.k_1 ksub (fun _ h => by cases h))) OwnLs.nil) (OwnRs.cons (ownR_mk dn_mod dr_mod (Gd.gf G_Ratio_rmod) (hr.mono (by decide)) T.m_1_mod.at_ T.m_1_rmod.at_ T.m_1_rmod.fn T.sf_1 (opkr_all (k := ⟨K, cm⟩) tR_mod (sub6 T.sb_1) (fun _ h => by cases h))) OwnRs.nil) ov_mod.kept op_modN hg takesB (d_var 0) (d_var 1)) (dc_cons (d_meth "over" [(1, f_Ratio_over)] hg takesB rfl (MethsOk.cons ⟨T.c_1, _, _, T.m_1_over, (Gd.gf G_Ratio_over), hr.mono (by decide)⟩ MethsOk.nil) (do_m (d_var 0)) (da_cons (do_m (d_var 1)) da_nil)) dc_nil))))) da_nil))) (do_m (DN.kept (d_lst (dc_cons (d_callG (Gd.gf G_rest) (hr.mono (by decide)) hg takesB rfl mg__law_rest (da_cons (do_m (d_var 2)) (da_cons (do_m (d_var 3)) da_nil))) (dc_cons (d_var 5) dc_nil))))) (nomark _))
    (dss_one (ds_ret d_bl))
    dss_nil)))))
    dss_nil)
    (dss_cons (ds_if (dt_cmp ov_eq (op_eqD hr.units) (do_m (d_ix (ix_all (hu_of hr)) (do_s 2) (do_m d_int))) (do_m d_int) (nomark _))
    (dss_one (ds_ret d_bl))
    dss_nil)
    (dss_one (ds_ret (d_and (d_cmp ov_eq (op_eqD hr.units) (do_m (d_binX (OwnLs.cons (ownL_mk dn_floordiv dr_floordiv (Gd.gf G_Ratio_floordiv) (hr.mono (by decide)) T.m_1_floordiv.at_ T.m_1_floordiv.fn T.sf_1 T.m_1_rfloordiv.at_ (.inr ⟨_, rfl⟩) (opkd_all (k := ⟨K, cm⟩) tL_floordiv T.k_1 ksub (fun _ h => by cases h))) OwnLs.nil) (OwnRs.cons (ownR_mk dn_floordiv dr_floordiv (Gd.gf G_Ratio_rfloordiv) (hr.mono (by decide)) T.m_1_floordiv.at_ T.m_1_rfloordiv.at_ T.m_1_rfloordiv.fn T.sf_1 (opkr_all (k := ⟨K, cm⟩) tR_floordiv T.sb_1 (fun _ h => by cases h))) OwnRs.nil) ov_fdiv.kept op_fdivG hg takesB (d_var 1) (d_var 0))) (do_m (d_callG (Gd.gf G_floor) (hr.mono (by decide)) hg takesB rfl mg__law_floor (da_cons (do_m (d_var 3)) (da_cons (do_m (d_var 2)) da_nil)))) (nomark _)) (d_one (d_cmp ov_eq (op_eqD hr.units) (do_m (d_callG (Gd.gf G_told) (hr.mono (by decide)) hg takesB rfl mg__law_told (da_cons (do_m (DN.kept (d_lst (dc_cons (d_binX (OwnLs.cons (ownL_mk dn_mod dr_mod (Gd.gf G_Ratio_mod) (hr.mono (by decide)) T.m_1_mod.at_ T.m_1_mod.fn T.sf_1 T.m_1_rmod.at_ (.inr ⟨_, rfl⟩) (opkd_all (k := ⟨K, cm⟩) tL_mod T.k_1 ksub (fun _ h => by cases h))) OwnLs.nil) (OwnRs.cons (ownR_mk dn_mod dr_mod (Gd.gf G_Ratio_rmod) (hr.mono (by decide)) T.m_1_mod.at_ T.m_1_rmod.at_ T.m_1_rmod.fn T.sf_1 (opkr_all (k := ⟨K, cm⟩) tR_mod (sub6 T.sb_1) (fun _ h => by cases h))) OwnRs.nil) ov_mod.kept op_modN hg takesB (d_var 1) (d_var 0)) dc_nil)))) da_nil))) (do_m (DN.kept (d_lst (dc_cons (d_callG (Gd.gf G_rest) (hr.mono (by decide)) hg takesB rfl mg__law_rest (da_cons (do_m (d_var 3)) (da_cons (do_m (d_var 2)) da_nil))) dc_nil)))) (nomark _))))))))
theorem ok_quotients_right (T : Tk K ad cm) (X0 : K.In base) (G0 : base.Ns mainGlobals mg) : Gd P w K mg base ⟨K, cm⟩ 9 (ad 40) f_quotients_right :=
  (okS_quotients_right T X0 G0).gd fun _ _ _ _ _ _ us hl => match us, hl with | [_, _, _, _], _ => rfl
theorem okS_Ratio_compare (T : Tk K ad cm) (X0 : K.In base) (G0 : base.Ns mainGlobals mg) : Gs P w K mg base ⟨K, cm⟩ 3 "compare" "Ratio.compare" s_Ratio_compare (ad 41) ["self", "other"] f_Ratio_compare := by
  refine DefAt.okS T.d_Ratio_compare sc_Ratio_compare rfl rfl (by decide) fun cdv A outer s H E F0 H0 pr hr hg => ?_
  have mg_parts_of := PySem.W.mg_of X0 G0 T.g_parts_of
  have G_parts_of : Gd P w K mg base ⟨K, cm⟩ 2 (ad 11) f_parts_of := ok_parts_of T X0 G0
  exact (dss_cons (ds_asg (d_callG (Gd.gf G_parts_of) (hr.mono (by decide)) hg takesB rfl mg_parts_of (da_cons (do_m (d_var 1)) da_nil)) (dg_tup rfl (dgs_cons (dg_name 2 sc_Ratio_compare.nd) (dgs_cons (dg_name 3 sc_Ratio_compare.nd) dgs_nil))))
    (dss_cons (ds_set 4 (d_sub (do_m (d_mul (do_m (d_attr "own_top" [(1, .fld)] hg rfl (AccsOk.cons (.fld T.c_1 T.n_1_own_top) AccsOk.nil) (do_s 0))) (do_s 3))) (do_m (d_mul (do_s 2) (do_m (d_attr "own_bottom" [(1, .fld)] hg rfl (AccsOk.cons (.fld T.c_1 T.n_1_own_bottom) AccsOk.nil) (do_s 0)))))) sc_Ratio_compare.nd)
    (dss_cons (ds_if (dt_cmp ov_eq (op_eqD hr.units) (do_s 4) (do_m d_int) (nomark _))
    (dss_one (ds_ret d_int))
    dss_nil)
    (dss_one (ds_ret (d_if (dt_cmp ov_gt (op_gtD hr.units) (do_s 4) (do_m d_int) (nomark _)) d_int (d_un uv_neg un_neg (do_m d_int))))))))
theorem ok_Ratio_compare (T : Tk K ad cm) (X0 : K.In base) (G0 : base.Ns mainGlobals mg) : Gd P w K mg base ⟨K, cm⟩ 3 (ad 41) f_Ratio_compare :=
  (okS_Ratio_compare T X0 G0).gd fun _ _ _ _ _ _ us hl => match us, hl with | [_, _], _ => rfl
theorem okS_Ratio_eq (T : Tk K ad cm) (X0 : K.In base) (G0 : base.Ns mainGlobals mg) : Gs P w K mg base ⟨K, cm⟩ 1 "__eq__" "Ratio.__eq__" s_Ratio_eq (ad 42) ["self", "other"] f_Ratio_eq := by
  refine DefAt.okS T.d_Ratio_eq sc_Ratio_eq rfl rfl (by decide) fun cdv A outer s H E F0 H0 pr hr hg => ?_
  have mg_Ratio := PySem.W.mg_of X0 G0 T.g_Ratio
  have mg_isinstance : mg "isinstance" = none := PySem.W.mg_none_of X0 G0 T.g_isinstance
  exact (dss_one (ds_ret (d_and (d_isin T.isa mg_isinstance (do_s 1) (do_m (d_cls (c := 1) mg_Ratio))) (d_and (d_cmp ov_eq (op_eqD hr.units) (do_m (d_attr "own_top" [(1, .fld)] hg rfl (AccsOk.cons (.fld T.c_1 T.n_1_own_top) AccsOk.nil) (do_s 0))) (do_m (d_attr "own_top" [(1, .fld)] hg rfl (AccsOk.cons (.fld T.c_1 T.n_1_own_top) AccsOk.nil) (do_s 1))) (nomark _)) (d_one (d_cmp ov_eq (op_eqD hr.units) (do_m (d_attr "own_bottom" [(1, .fld)] hg rfl (AccsOk.cons (.fld T.c_1 T.n_1_own_bottom) AccsOk.nil) (do_s 0))) (do_m (d_attr "own_bottom" [(1, .fld)] hg rfl (AccsOk.cons (.fld T.c_1 T.n_1_own_bottom) AccsOk.nil) (do_s 1))) (nomark _)))))))
theorem ok_Ratio_eq (T : Tk K ad cm) (X0 : K.In base) (G0 : base.Ns mainGlobals mg) : Gd P w K mg base ⟨K, cm⟩ 1 (ad 42) f_Ratio_eq :=
  (okS_Ratio_eq T X0 G0).gd fun _ _ _ _ _ _ us hl => match us, hl with | [_, _], _ => rfl
theorem okS_order_right (T : Tk K ad cm) (X0 : K.In base) (G0 : base.Ns mainGlobals mg) : Gs P w K mg base ⟨K, cm⟩ 4 "_law_order_right" "_law_order_right" s_order_right (ad 43) ["_law_one", "_law_mate", "_law_this", "_law_near"] f_order_right := by
  refine DefAt.okS T.d_order_right sc_order_right rfl rfl (by decide) fun cdv A outer s H E F0 H0 pr hr hg => ?_
  have mg_Ratio := PySem.W.mg_of X0 G0 T.g_Ratio
  have mg__law_are_integers := PySem.W.mg_of X0 G0 T.g__law_are_integers
  have mg_isinstance : mg "isinstance" = none := PySem.W.mg_none_of X0 G0 T.g_isinstance
  have G_Ratio_compare : Gd P w K mg base ⟨K, cm⟩ 3 (ad 41) f_Ratio_compare := ok_Ratio_compare T X0 G0
  have G_Ratio_eq : Gd P w K mg base ⟨K, cm⟩ 1 (ad 42) f_Ratio_eq := ok_Ratio_eq T X0 G0
  have G_are_integers : Gd P w K mg base ⟨K, cm⟩ 1 (ad 39) f_are_integers := ok_are_integers T X0 G0
  exact (dss_cons (ds_par2 4 5 rfl sc_order_right.nd (dps_k (fun _ _ _ => (d_mul (do_m (d_ix (ix_all (hu_of hr)) (do_s 2) (do_m d_int))) (do_m (d_ix (ix_all (hu_of hr)) (do_s 3) (do_m d_int))))) (dps_k (fun _ _ _ => (d_mul (do_m (d_ix (ix_all (hu_of hr)) (do_s 3) (do_m d_int))) (do_m (d_ix (ix_all (hu_of hr)) (do_s 2) (do_m d_int))))) dps_nil)))
    (dss_cons (ds_set 6 (d_if (dt_cmp ov_eq (op_eqD hr.units) (do_s 4) (do_s 5) (nomark _)) d_int (d_if (dt_cmp ov_gt (op_gtD hr.units) (do_s 4) (do_s 5) (nomark _)) d_int (d_sub (do_m d_int) (do_m d_int)))) sc_order_right.nd)
    (dss_cons (ds_set 7 (DN.kept (d_lst (dc_cons (d_meth "compare" [(1, f_Ratio_compare)] hg takesB rfl (MethsOk.cons ⟨T.c_1, _, _, T.m_1_compare, (Gd.gf G_Ratio_compare), hr.mono (by decide)⟩ MethsOk.nil) (do_m (d_var 0)) (da_cons (do_m (d_var 1)) da_nil)) (dc_cons (d_methK "compare" [(1, f_Ratio_compare)] 0 [0, 1] [] rfl (MethKsOk.cons ⟨T.c_1, _, _, T.m_1_compare, (Gs.gk (ks := ["other"]) (okS_Ratio_compare T X0 G0) (by decide) fun _ _ _ _ _ _ pre us ws h1 h2 h3 => match pre, us, ws, h1, h2, h3 with | [], [_], [_], _, _, _ => rfl), hr.mono (by decide)⟩ MethKsOk.nil) hg takesB (do_m (d_var 0)) da_nil (dk_cons (do_m (d_var 1)) dk_nil)) dc_nil)))) sc_order_right.nd)
    (dss_cons (ds_if (dt_bool (dw_or (dt_cmp ov_ne (op_neD hr.units) (do_s 7) (do_m (DN.kept (d_lst (dc_cons (d_var 6) (dc_cons (d_var 6) dc_nil))))) (nomark _)) (dw_or1 (dt_not (dt_tru (do_m (d_callG (Gd.gf G_are_integers) (hr.mono (by decide)) hg takesB rfl mg__law_are_integers (da_cons (do_m (d_var 7)) da_nil))))))))
    (dss_one (ds_ret d_bl))
    dss_nil)
    (dss_cons (ds_set 8 (d_and (d_isin T.isa mg_isinstance (do_s 1) (do_m (d_cls (c := 1) mg_Ratio))) (d_one (d_cmp ov_eq (op_eqD hr.units) (do_s 2) (do_s 3) (nomark _)))) sc_order_right.nd)
    (dss_one (ds_ret (d_cmp ov_eq (op_eqD hr.units) (do_m (DN.kept (d_lst (dc_cons (d_cmpK (ok_own (OwnOps.cons ⟨⟨_, _, (Gd.gf G_Ratio_eq), hr.mono (by decide), T.m_1_eq.at_, T.m_1_eq.fn⟩, T.k_1⟩ OwnOps.nil) (ok_eqR (kinds := kds) (OwnOps.cons ⟨⟨_, _, (Gd.gf G_Ratio_eq), hr.mono (by decide), T.m_1_eq.at_, T.m_1_eq.fn⟩, T.k_1⟩ OwnOps.nil) (SubI.cons (T.sb_1 "int" (by decide)) SubI.nil) ov_eq.kept)) ((op_ownC (op := .Eq) hg rfl (fun _ _ => rfl)).or ((op_eqR hg).or (op_eqD hr.units))) (d_var 0) (d_var 1) (nomark _)) (dc_cons (d_cmpK (ok_own (OwnOps.cons ⟨⟨_, _, (Gd.gf G_Ratio_eq), hr.mono (by decide), T.m_1_eq.at_, T.m_1_eq.fn⟩, T.k_1⟩ OwnOps.nil) (ok_eqR (kinds := kds) (OwnOps.cons ⟨⟨_, _, (Gd.gf G_Ratio_eq), hr.mono (by decide), T.m_1_eq.at_, T.m_1_eq.fn⟩, T.k_1⟩ OwnOps.nil) (SubI.cons (T.sb_1 "int" (by decide)) SubI.nil) ov_eq.kept)) ((op_ownC (op := .Eq) hg rfl (fun _ _ => rfl)).or ((op_eqR hg).or (op_eqD hr.units))) (d_var 1) (d_var 0) (nomark _)) (dc_cons (d_cmpK (ok_ownNe (OwnOps.cons ⟨⟨_, _, (Gd.gf G_Ratio_eq), hr.mono (by decide), T.m_1_eq.at_, T.m_1_eq.fn⟩, T.k_1⟩ OwnOps.nil) (NeOps.cons ⟨T.ne_1, T.ob_1⟩ NeOps.nil) (ok_neR (kinds := kds) (OwnOps.cons ⟨⟨_, _, (Gd.gf G_Ratio_eq), hr.mono (by decide), T.m_1_eq.at_, T.m_1_eq.fn⟩, T.k_1⟩ OwnOps.nil) (SubI.cons (T.sb_1 "int" (by decide)) SubI.nil) (NeOps.cons ⟨T.ne_1, T.ob_1⟩ NeOps.nil) ov_ne.kept)) ((op_ownNe hg rfl (hu_of hr)).or ((op_neR hg (hu_of hr)).or (op_neD hr.units))) (d_var 0) (d_var 1) (nomark _)) (dc_cons (d_cmpK (ok_ownNe (OwnOps.cons ⟨⟨_, _, (Gd.gf G_Ratio_eq), hr.mono (by decide), T.m_1_eq.at_, T.m_1_eq.fn⟩, T.k_1⟩ OwnOps.nil) (NeOps.cons ⟨T.ne_1, T.ob_1⟩ NeOps.nil) (ok_neR (kinds := kds) (OwnOps.cons ⟨⟨_, _, (Gd.gf G_Ratio_eq), hr.mono (by decide), T.m_1_eq.at_, T.m_1_eq.fn⟩, T.k_1⟩ OwnOps.nil) (SubI.cons (T.sb_1 "int" (by decide)) SubI.nil) (NeOps.cons ⟨T.ne_1, T.ob_1⟩ NeOps.nil) ov_ne.kept)) ((op_ownNe hg rfl (hu_of hr)).or ((op_neR hg (hu_of hr)).or (op_neD hr.units))) (d_var 1) (d_var 0) (nomark _)) dc_nil))))))) (do_m (DN.kept (d_lst (dc_cons (d_var 8) (dc_cons (d_var 8) (dc_cons (d_not (do_s 8)) (dc_cons (d_not (do_s 8)) dc_nil))))))) (nomark _)))))))))
theorem ok_order_right (T : Tk K ad cm) (X0 : K.In base) (G0 : base.Ns mainGlobals mg) : Gd P w K mg base ⟨K, cm⟩ 4 (ad 43) f_order_right :=
  (okS_order_right T X0 G0).gd fun _ _ _ _ _ _ us hl => match us, hl with | [_, _, _, _], _ => rfl
theorem okS_in_place_right (T : Tk K ad cm) (X0 : K.In base) (G0 : base.Ns mainGlobals mg) : Gs P w K mg base ⟨K, cm⟩ 9 "_law_in_place_right" "_law_in_place_right" s_in_place_right (ad 44) ["_law_one", "_law_mate", "_law_this", "_law_near"] f_in_place_right := by
  refine DefAt.okS T.d_in_place_right sc_in_place_right rfl rfl (by decide) fun cdv A outer s H E F0 H0 pr hr hg => ?_
  have mg__law_floor := PySem.W.mg_of X0 G0 T.g__law_floor
  have mg__law_less := PySem.W.mg_of X0 G0 T.g__law_less
  have mg__law_plus := PySem.W.mg_of X0 G0 T.g__law_plus
  have mg__law_rest := PySem.W.mg_of X0 G0 T.g__law_rest
  have mg__law_times := PySem.W.mg_of X0 G0 T.g__law_times
  have mg__law_told := PySem.W.mg_of X0 G0 T.g__law_told
  have G_Ratio_add : Gd P w K mg base ⟨K, cm⟩ 4 (ad 16) f_Ratio_add := ok_Ratio_add T X0 G0
  have G_Ratio_sub : Gd P w K mg base ⟨K, cm⟩ 4 (ad 22) f_Ratio_sub := ok_Ratio_sub T X0 G0
  have G_Ratio_mul : Gd P w K mg base ⟨K, cm⟩ 4 (ad 25) f_Ratio_mul := ok_Ratio_mul T X0 G0
  have G_Ratio_floordiv : Gd P w K mg base ⟨K, cm⟩ 3 (ad 29) f_Ratio_floordiv := ok_Ratio_floordiv T X0 G0
  have G_Ratio_mod : Gd P w K mg base ⟨K, cm⟩ 8 (ad 31) f_Ratio_mod := ok_Ratio_mod T X0 G0
  have G_Ratio_eq : Gd P w K mg base ⟨K, cm⟩ 1 (ad 42) f_Ratio_eq := ok_Ratio_eq T X0 G0
  have G_plus : Gd P w K mg base ⟨K, cm⟩ 2 (ad 18) f_plus := ok_plus T X0 G0
  have G_less : Gd P w K mg base ⟨K, cm⟩ 3 (ad 24) f_less := ok_less T X0 G0
  have G_times : Gd P w K mg base ⟨K, cm⟩ 2 (ad 27) f_times := ok_times T X0 G0
  have G_floor : Gd P w K mg base ⟨K, cm⟩ 1 (ad 33) f_floor := ok_floor T X0 G0
  have G_rest : Gd P w K mg base ⟨K, cm⟩ 4 (ad 34) f_rest := ok_rest T X0 G0
  have G_told : Gd P w K mg base ⟨K, cm⟩ 3 (ad 21) f_told := ok_told T X0 G0
  exact (dss_cons (ds_setN 4 (d_lst (dc_cons (d_var 0) (dc_cons (d_var 0) (dc_cons (d_var 0) dc_nil)))) sc_in_place_right.nd)
    (dss_cons (ds_augSub (kl := kindsOf ks7 []) 4 (hu_of hr) (OwnLs.cons (ownL_mk dn_add dr_add (Gd.gf G_Ratio_add) (hr.mono (by decide)) T.m_1_add.at_ T.m_1_add.fn T.sf_1 T.m_1_radd.at_ (.inr ⟨_, rfl⟩) (opkd_all (k := ⟨K, cm⟩) tL_add T.k_1 ksub (fun _ h => by cases h))) OwnLs.nil) (NoInp.cons (noOne_cast di_add T.ni_1_add) NoInp.nil) ok_ipAdd ip_add hg takesB d_int (d_var 1))
    (dss_cons (ds_augSub (kl := kindsOf ks7 []) 4 (hu_of hr) (OwnLs.cons (ownL_mk dn_sub dr_sub (Gd.gf G_Ratio_sub) (hr.mono (by decide)) T.m_1_sub.at_ T.m_1_sub.fn T.sf_1 T.m_1_rsub.at_ (.inr ⟨_, rfl⟩) (opkd_all (k := ⟨K, cm⟩) tL_sub T.k_1 ksub (fun _ h => by cases h))) OwnLs.nil) (NoInp.cons (noOne_cast di_sub T.ni_1_sub) NoInp.nil) ok_ipSub ip_sub hg takesB d_int (d_var 1))
    (dss_cons (ds_augSub (kl := kindsOf ks7 []) 4 (hu_of hr) (OwnLs.cons (ownL_mk dn_mul dr_mul (Gd.gf G_Ratio_mul) (hr.mono (by decide)) T.m_1_mul.at_ T.m_1_mul.fn T.sf_1 T.m_1_rmul.at_ (.inr ⟨_, rfl⟩) (opkd_all (k := ⟨K, cm⟩) tL_mul T.k_1 ksub (fun _ h => by cases h))) OwnLs.nil) (NoInp.cons (noOne_cast di_mul T.ni_1_mul) NoInp.nil) okK_none pip_none hg takesB d_int (d_var 1))
    (dss_cons (ds_if (dt_cmp ov_ne (op_neD hr.units) (do_m (d_callG (Gd.gf G_told) (hr.mono (by decide)) hg takesB rfl mg__law_told (da_cons (do_s 4) da_nil))) (do_m (DN.kept (d_lst (dc_cons (d_callG (Gd.gf G_plus) (hr.mono (by decide)) hg takesB rfl mg__law_plus (da_cons (do_m (d_var 2)) (da_cons (do_m (d_var 3)) da_nil))) (dc_cons (d_callG (Gd.gf G_less) (hr.mono (by decide)) hg takesB rfl mg__law_less (da_cons (do_m (d_var 2)) (da_cons (do_m (d_var 3)) da_nil))) (dc_cons (d_callG (Gd.gf G_times) (hr.mono (by decide)) hg takesB rfl mg__law_times (da_cons (do_m (d_var 2)) (da_cons (do_m (d_var 3)) da_nil))) dc_nil)))))) (nomark _))
    (dss_one (ds_ret d_bl))
    dss_nil)
    (dss_cons (ds_if (dt_cmp ov_ne (op_neD hr.units) (do_m (d_ix (ix_all (hu_of hr)) (do_s 3) (do_m d_int))) (do_m d_int) (nomark _))
    (dss_cons (ds_par2 5 6 rfl sc_in_place_right.nd (dps_k (fun _ _ _ => (d_var 0)) (dps_k (fun _ _ _ => (d_var 0)) dps_nil)))
    (dss_cons (ds_aug (kl := kindsOf ks7 []) 5 (OwnLs.cons (ownL_mk dn_floordiv dr_floordiv (Gd.gf G_Ratio_floordiv) (hr.mono (by decide)) T.m_1_floordiv.at_ T.m_1_floordiv.fn T.sf_1 T.m_1_rfloordiv.at_ (.inr ⟨_, rfl⟩) (opkd_all (k := ⟨K, cm⟩) tL_floordiv T.k_1 ksub (fun _ h => by cases h))) OwnLs.nil) (NoInp.cons (noOne_cast di_floordiv T.ni_1_floordiv) NoInp.nil) okK_none pip_none hg takesB (d_var 1) sc_in_place_right.nd)
    (dss_cons (ds_aug (kl := kindsOf ks7 []) 6 (OwnLs.cons (ownL_mk dn_mod dr_mod (Gd.gf G_Ratio_mod) (hr.mono (by decide)) T.m_1_mod.at_ T.m_1_mod.fn T.sf_1 T.m_1_rmod.at_ (.inr ⟨_, rfl⟩) (opkd_all (k := ⟨K, cm⟩) tL_mod T.k_1 ksub (fun _ h => by cases h))) OwnLs.nil) (NoInp.cons (noOne_cast di_mod T.ni_1_mod) NoInp.nil) okK_none pip_none hg takesB (d_var 1) sc_in_place_right.nd)
    (dss_one (ds_if (dt_bool (dw_or (dt_cmpK (ok_ownNe (OwnOps.cons ⟨⟨_, _, (Gd.gf G_Ratio_eq), hr.mono (by decide), T.m_1_eq.at_, T.m_1_eq.fn⟩, T.k_1⟩ OwnOps.nil) (NeOps.cons ⟨T.ne_1, T.ob_1⟩ NeOps.nil) ov_ne.kept) ((op_ownNe hg rfl (hu_of hr)).or (op_neD hr.units)) (d_var 5) (d_callG (Gd.gf G_floor) (hr.mono (by decide)) hg takesB rfl mg__law_floor (da_cons (do_m (d_var 2)) (da_cons (do_m (d_var 3)) da_nil))) (nomark _)) (dw_or1 (dt_cmp ov_ne (op_neD hr.units) (do_m (d_callG (Gd.gf G_told) (hr.mono (by decide)) hg takesB rfl mg__law_told (da_cons (do_m (DN.kept (d_lst (dc_cons (d_var 6) dc_nil)))) da_nil))) (do_m (DN.kept (d_lst (dc_cons (d_callG (Gd.gf G_rest) (hr.mono (by decide)) hg takesB rfl mg__law_rest (da_cons (do_m (d_var 2)) (da_cons (do_m (d_var 3)) da_nil))) dc_nil)))) (nomark _)))))
    (dss_one (ds_ret d_bl))
    dss_nil)))))
    dss_nil)
    (dss_one (ds_ret (d_cmp ov_eq (op_eqD hr.units) (do_m (d_callG (Gd.gf G_told) (hr.mono (by decide)) hg takesB rfl mg__law_told (da_cons (do_m (DN.kept (d_lst (dc_cons (d_var 0) dc_nil)))) da_nil))) (do_m (DN.kept (d_lst (dc_cons (d_var 2) dc_nil)))) (nomark _))))))))))
theorem ok_in_place_right (T : Tk K ad cm) (X0 : K.In base) (G0 : base.Ns mainGlobals mg) : Gd P w K mg base ⟨K, cm⟩ 9 (ad 44) f_in_place_right :=
  (okS_in_place_right T X0 G0).gd fun _ _ _ _ _ _ us hl => match us, hl with | [_, _, _, _], _ => rfl
theorem okS_Ratio_ceiling (T : Tk K ad cm) (X0 : K.In base) (G0 : base.Ns mainGlobals mg) : Gs P w K mg base ⟨K, cm⟩ 1 "ceiling" "Ratio.ceiling" s_Ratio_ceiling (ad 45) ["self"] f_Ratio_ceiling := by
  refine DefAt.okS T.d_Ratio_ceiling sc_Ratio_ceiling rfl rfl (by decide) fun cdv A outer s H E F0 H0 pr hr hg => ?_
  exact (dss_one (ds_ret (d_sub (do_m d_int) (do_m (d_fdiv (do_m (d_sub (do_m d_int) (do_m (d_attr "own_top" [(1, .fld)] hg rfl (AccsOk.cons (.fld T.c_1 T.n_1_own_top) AccsOk.nil) (do_s 0))))) (do_m (d_attr "own_bottom" [(1, .fld)] hg rfl (AccsOk.cons (.fld T.c_1 T.n_1_own_bottom) AccsOk.nil) (do_s 0))))))))
theorem ok_Ratio_ceiling (T : Tk K ad cm) (X0 : K.In base) (G0 : base.Ns mainGlobals mg) : Gd P w K mg base ⟨K, cm⟩ 1 (ad 45) f_Ratio_ceiling :=
  (okS_Ratio_ceiling T X0 G0).gd fun _ _ _ _ _ _ us hl => match us, hl with | [_], _ => rfl
theorem okS_Ratio_repr (T : Tk K ad cm) (X0 : K.In base) (G0 : base.Ns mainGlobals mg) : Gs P w K mg base ⟨K, cm⟩ 1 "__repr__" "Ratio.__repr__" s_Ratio_repr (ad 46) ["self"] f_Ratio_repr := by
  refine DefAt.okS T.d_Ratio_repr sc_Ratio_repr rfl rfl (by decide) fun cdv A outer s H E F0 H0 pr hr hg => ?_
  exact (dss_one (ds_ret (d_joined (.cons d_str (.cons (d_fmt (d_attr "own_top" [(1, .fld)] hg rfl (AccsOk.cons (.fld T.c_1 T.n_1_own_top) AccsOk.nil) (do_s 0))) (.cons d_str (.cons (d_fmt (d_attr "own_bottom" [(1, .fld)] hg rfl (AccsOk.cons (.fld T.c_1 T.n_1_own_bottom) AccsOk.nil) (do_s 0))) (.cons d_str .nil))))))))
theorem ok_Ratio_repr (T : Tk K ad cm) (X0 : K.In base) (G0 : base.Ns mainGlobals mg) : Gd P w K mg base ⟨K, cm⟩ 1 (ad 46) f_Ratio_repr :=
  (okS_Ratio_repr T X0 G0).gd fun _ _ _ _ _ _ us hl => match us, hl with | [_], _ => rfl
theorem okS_alone_right (T : Tk K ad cm) (X0 : K.In base) (G0 : base.Ns mainGlobals mg) : Gs P w K mg base ⟨K, cm⟩ 7 "_law_alone_right" "_law_alone_right" s_alone_right (ad 47) ["_law_one", "_law_this"] f_alone_right := by
  refine DefAt.okS T.d_alone_right sc_alone_right rfl rfl (by decide) fun cdv A outer s H E F0 H0 pr hr hg => ?_
  have mg_Ratio := PySem.W.mg_of X0 G0 T.g_Ratio
  have mg__law_are_integers := PySem.W.mg_of X0 G0 T.g__law_are_integers
  have mg__law_text := PySem.W.mg_of X0 G0 T.g__law_text
  have mg__law_told := PySem.W.mg_of X0 G0 T.g__law_told
  have mg_abs : mg "abs" = none := PySem.W.mg_none_of X0 G0 T.g_abs
  have mg_repr : mg "repr" = none := PySem.W.mg_none_of X0 G0 T.g_repr
  have mg_str : mg "str" = none := PySem.W.mg_none_of X0 G0 T.g_str
  have G_Ratio_of : Gd P w K mg base ⟨K, cm⟩ 4 (ad 12) f_Ratio_of := ok_Ratio_of T X0 G0
  have G_Ratio_top : Gd P w K mg base ⟨K, cm⟩ 1 (ad 19) f_Ratio_top := ok_Ratio_top T X0 G0
  have G_Ratio_bottom : Gd P w K mg base ⟨K, cm⟩ 1 (ad 20) f_Ratio_bottom := ok_Ratio_bottom T X0 G0
  have G_Ratio_neg : Gd P w K mg base ⟨K, cm⟩ 4 (ad 7) f_Ratio_neg := ok_Ratio_neg T X0 G0
  have G_Ratio_abs : Gd P w K mg base ⟨K, cm⟩ 4 (ad 35) f_Ratio_abs := ok_Ratio_abs T X0 G0
  have G_Ratio_floor : Gd P w K mg base ⟨K, cm⟩ 1 (ad 38) f_Ratio_floor := ok_Ratio_floor T X0 G0
  have G_Ratio_ceiling : Gd P w K mg base ⟨K, cm⟩ 1 (ad 45) f_Ratio_ceiling := ok_Ratio_ceiling T X0 G0
  have G_Ratio_str : Gd P w K mg base ⟨K, cm⟩ 1 (ad 8) f_Ratio_str := ok_Ratio_str T X0 G0
  have G_Ratio_repr : Gd P w K mg base ⟨K, cm⟩ 1 (ad 46) f_Ratio_repr := ok_Ratio_repr T X0 G0
  have G_text : Gd P w K mg base ⟨K, cm⟩ 1 (ad 13) f_text := ok_text T X0 G0
  have G_told : Gd P w K mg base ⟨K, cm⟩ 3 (ad 21) f_told := ok_told T X0 G0
  have G_are_integers : Gd P w K mg base ⟨K, cm⟩ 1 (ad 39) f_are_integers := ok_are_integers T X0 G0
  exact (dss_cons (ds_if (dt_cmp ov_ne (op_neD hr.units) (do_m (d_callG (Gd.gf G_told) (hr.mono (by decide)) hg takesB rfl mg__law_told (da_cons (do_m (DN.kept (d_lst (dc_cons (d_unK (uk_own (OwnOps.cons ⟨⟨_, _, (Gd.gf G_Ratio_neg), hr.mono (by decide), T.m_1_neg.at_, T.m_1_neg.fn⟩, T.k_1⟩ OwnOps.nil) uv_neg) (UnR.or (un_ownNeg hg) un_neg) (d_var 0)) (dc_cons (d_abs1 (OwnOps.cons ⟨⟨_, _, (Gd.gf G_Ratio_abs), hr.mono (by decide), T.m_1_abs.at_, T.m_1_abs.fn⟩, T.k_1⟩ OwnOps.nil) hg mg_abs (d_var 0)) (dc_cons (d_static (c := 1) 1 [0] [] T.sm_1_of (Gs.gk (ks := []) (okS_Ratio_of T X0 G0) (by decide) fun _ _ _ _ _ _ pre us ws h1 h2 h3 => match pre, us, ws, h1, h2, h3 with | [], [_], [], _, _, _ => rfl) (hr.mono (by decide)) hg takesB rfl mg_Ratio (da_cons (do_m (d_var 0)) da_nil) dk_nil) dc_nil)))))) da_nil))) (do_m (DN.kept (d_lst (dc_cons (d_tup (dc_cons (d_sub (do_m d_int) (do_m (d_ix (ix_all (hu_of hr)) (do_s 1) (do_m d_int)))) (dc_cons (d_ix (ix_all (hu_of hr)) (do_s 1) (do_m d_int)) dc_nil))) (dc_cons (d_tup (dc_cons (d_abs mg_abs (do_m (d_ix (ix_all (hu_of hr)) (do_s 1) (do_m d_int)))) (dc_cons (d_ix (ix_all (hu_of hr)) (do_s 1) (do_m d_int)) dc_nil))) (dc_cons (d_var 1) dc_nil)))))) (nomark _))
    (dss_one (ds_ret d_bl))
    dss_nil)
    (dss_cons (ds_if (dt_cmp ov_ne (op_neD hr.units) (do_m (DN.kept (d_lst (dc_cons (d_str1 (OwnOps.cons ⟨⟨_, _, (Gd.gf G_Ratio_str), hr.mono (by decide), T.m_1_str.at_, T.m_1_str.fn⟩, T.k_1⟩ OwnOps.nil) hg hr.units rfl mg_str (d_var 0)) (dc_cons (d_repr (OwnOps.cons ⟨⟨_, _, (Gd.gf G_Ratio_repr), hr.mono (by decide), T.m_1_repr.at_, T.m_1_repr.fn⟩, T.k_1⟩ OwnOps.nil) hg hr.units rfl mg_repr (d_var 0)) dc_nil))))) (do_m (DN.kept (d_lst (dc_cons (d_callG (Gd.gf G_text) (hr.mono (by decide)) hg takesB rfl mg__law_text (da_cons (do_m (d_var 1)) da_nil)) (dc_cons (d_add (do_m (d_add (do_m (d_add (do_m (d_add (do_m d_str) (do_m (d_str1 (OwnOps.nil (kinds := [])) hg hr.units rfl mg_str (d_ix (ix_all (hu_of hr)) (do_s 1) (do_m d_int)))))) (do_m d_str))) (do_m (d_str1 (OwnOps.nil (kinds := [])) hg hr.units rfl mg_str (d_ix (ix_all (hu_of hr)) (do_s 1) (do_m d_int)))))) (do_m d_str)) dc_nil))))) (nomark _))
    (dss_one (ds_ret d_bl))
    dss_nil)
    (dss_cons (ds_set 2 (d_sub (do_m d_int) (do_m (d_fdiv (do_m (d_sub (do_m d_int) (do_m (d_ix (ix_all (hu_of hr)) (do_s 1) (do_m d_int))))) (do_m (d_ix (ix_all (hu_of hr)) (do_s 1) (do_m d_int)))))) sc_alone_right.nd)
    (dss_cons (ds_set 3 (DN.kept (d_lst (dc_cons (d_attr "top" [(1, .prop f_Ratio_top)] hg rfl (AccsOk.cons (accProp T.c_1 T.p_1_top (Gd.gf G_Ratio_top) (hr.mono (by decide))) AccsOk.nil) (do_s 0)) (dc_cons (d_attr "bottom" [(1, .prop f_Ratio_bottom)] hg rfl (AccsOk.cons (accProp T.c_1 T.p_1_bottom (Gd.gf G_Ratio_bottom) (hr.mono (by decide))) AccsOk.nil) (do_s 0)) (dc_cons (d_meth0 "floor" [(1, f_Ratio_floor)] hg takesB rfl (MethsOk.cons ⟨T.c_1, _, _, T.m_1_floor, (Gd.gf G_Ratio_floor), hr.mono (by decide)⟩ MethsOk.nil) (do_m (d_var 0))) (dc_cons (d_meth0 "ceiling" [(1, f_Ratio_ceiling)] hg takesB rfl (MethsOk.cons ⟨T.c_1, _, _, T.m_1_ceiling, (Gd.gf G_Ratio_ceiling), hr.mono (by decide)⟩ MethsOk.nil) (do_m (d_var 0))) dc_nil)))))) sc_alone_right.nd)
    (dss_one (ds_ret (d_and (d_cmp ov_eq (op_eqD hr.units) (do_s 3) (do_m (DN.kept (d_lst (dc_cons (d_ix (ix_all (hu_of hr)) (do_s 1) (do_m d_int)) (dc_cons (d_ix (ix_all (hu_of hr)) (do_s 1) (do_m d_int)) (dc_cons (d_fdiv (do_m (d_ix (ix_all (hu_of hr)) (do_s 1) (do_m d_int))) (do_m (d_ix (ix_all (hu_of hr)) (do_s 1) (do_m d_int)))) (dc_cons (d_var 2) dc_nil))))))) (nomark _)) (d_one (d_callG (Gd.gf G_are_integers) (hr.mono (by decide)) hg takesB rfl mg__law_are_integers (da_cons (do_m (d_var 3)) da_nil))))))))))
theorem ok_alone_right (T : Tk K ad cm) (X0 : K.In base) (G0 : base.Ns mainGlobals mg) : Gd P w K mg base ⟨K, cm⟩ 7 (ad 47) f_alone_right :=
  (okS_alone_right T X0 G0).gd fun _ _ _ _ _ _ us hl => match us, hl with | [_, _], _ => rfl
theorem okS_right (T : Tk K ad cm) (X0 : K.In base) (G0 : base.Ns mainGlobals mg) : Gs P w K mg base ⟨K, cm⟩ 11 "_law_right" "_law_right" s_right (ad 48) ["_law_pot_here"] f_right := by
  refine DefAt.okS T.d_right sc_right rfl rfl (by decide) fun cdv A outer s H E F0 H0 pr hr hg => ?_
  have mg_Ratio := PySem.W.mg_of X0 G0 T.g_Ratio
  have mg__law_alone_right := PySem.W.mg_of X0 G0 T.g__law_alone_right
  have mg__law_draw := PySem.W.mg_of X0 G0 T.g__law_draw
  have mg__law_drawn := PySem.W.mg_of X0 G0 T.g__law_drawn
  have mg__law_in_place_right := PySem.W.mg_of X0 G0 T.g__law_in_place_right
  have mg__law_made := PySem.W.mg_of X0 G0 T.g__law_made
  have mg__law_order_right := PySem.W.mg_of X0 G0 T.g__law_order_right
  have mg__law_quotients_right := PySem.W.mg_of X0 G0 T.g__law_quotients_right
  have mg__law_register_right := PySem.W.mg_of X0 G0 T.g__law_register_right
  have mg__law_side := PySem.W.mg_of X0 G0 T.g__law_side
  have mg__law_sums_right := PySem.W.mg_of X0 G0 T.g__law_sums_right
  have mg_range : mg "range" = none := PySem.W.mg_none_of X0 G0 T.g_range
  have G_Ratio_of : Gd P w K mg base ⟨K, cm⟩ 4 (ad 12) f_Ratio_of := ok_Ratio_of T X0 G0
  have G_draw : Gd P w K mg base ⟨K, cm⟩ 1 (ad 1) f_draw := ok_draw T X0 G0
  have G_drawn : Gd P w K mg base ⟨K, cm⟩ 3 (ad 3) f_drawn := ok_drawn T X0 G0
  have G_made : Gd P w K mg base ⟨K, cm⟩ 8 (ad 14) f_made := ok_made T X0 G0
  have G_side : Gd P w K mg base ⟨K, cm⟩ 9 (ad 15) f_side := ok_side T X0 G0
  have G_sums_right : Gd P w K mg base ⟨K, cm⟩ 8 (ad 37) f_sums_right := ok_sums_right T X0 G0
  have G_quotients_right : Gd P w K mg base ⟨K, cm⟩ 9 (ad 40) f_quotients_right := ok_quotients_right T X0 G0
  have G_alone_right : Gd P w K mg base ⟨K, cm⟩ 7 (ad 47) f_alone_right := ok_alone_right T X0 G0
  have G_order_right : Gd P w K mg base ⟨K, cm⟩ 4 (ad 43) f_order_right := ok_order_right T X0 G0
  have G_in_place_right : Gd P w K mg base ⟨K, cm⟩ 9 (ad 44) f_in_place_right := ok_in_place_right T X0 G0
  have G_register_right : Gd P w K mg base ⟨K, cm⟩ 10 (ad 36) f_register_right := ok_register_right T X0 G0
  exact (dss_cons (ds_for passB rfl (di_range1 rfl mg_range (do_m d_int)) (dg_name 1 sc_right.nd)
    (dss_cons (ds_par2 2 3 rfl sc_right.nd (dps_k (fun _ _ _ => (d_callG (Gd.gf G_drawn) (hr.mono (by decide)) hg takesB rfl mg__law_drawn (da_cons (do_s 0) da_nil))) (dps_k (fun _ _ _ => (d_callG (Gd.gf G_drawn) (hr.mono (by decide)) hg takesB rfl mg__law_drawn (da_cons (do_s 0) da_nil))) dps_nil)))
    (dss_cons (ds_if (dt_cmp ov_eq (op_eqD hr.units) (do_m (d_callG (Gd.gf G_draw) (hr.mono (by decide)) hg takesB rfl mg__law_draw (da_cons (do_s 0) (da_cons (do_m d_int) da_nil)))) (do_m d_int) (nomark _))
    (dss_one (ds_set 3 (d_var 2) sc_right.nd))
    dss_nil)
    (dss_cons (ds_par2 4 5 rfl sc_right.nd (dps_k (fun _ _ _ => (d_callG (Gd.gf G_made) (hr.mono (by decide)) hg takesB rfl mg__law_made (da_cons (do_s 0) (da_cons (do_m (d_var 2)) da_nil)))) (dps_k (fun _ _ _ => (d_callG (Gd.gf G_side) (hr.mono (by decide)) hg takesB rfl mg__law_side (da_cons (do_s 0) (da_cons (do_m (d_var 3)) da_nil)))) dps_nil)))
    (dss_one (ds_for passB rfl (di_range1 rfl mg_range (do_m d_int)) (dg_name 6 sc_right.nd)
    (dss_cons (ds_if (dt_bool (dw_or (dt_not (dt_tru (do_m (d_callG (Gd.gf G_sums_right) (hr.mono (by decide)) hg takesB rfl mg__law_sums_right (da_cons (do_m (d_var 4)) (da_cons (do_m (d_var 5)) (da_cons (do_m (d_var 2)) (da_cons (do_m (d_var 3)) da_nil)))))))) (dw_or1 (dt_not (dt_tru (do_m (d_callG (Gd.gf G_quotients_right) (hr.mono (by decide)) hg takesB rfl mg__law_quotients_right (da_cons (do_m (d_var 4)) (da_cons (do_m (d_var 5)) (da_cons (do_m (d_var 2)) (da_cons (do_m (d_var 3)) da_nil)))))))))))
    (dss_one (ds_ret d_bl))
    dss_nil)
    (dss_cons (ds_if (dt_bool (dw_or (dt_not (dt_tru (do_m (d_callG (Gd.gf G_order_right) (hr.mono (by decide)) hg takesB rfl mg__law_order_right (da_cons (do_m (d_var 4)) (da_cons (do_m (d_var 5)) (da_cons (do_m (d_var 2)) (da_cons (do_m (d_var 3)) da_nil)))))))) (dw_or1 (dt_not (dt_tru (do_m (d_callG (Gd.gf G_in_place_right) (hr.mono (by decide)) hg takesB rfl mg__law_in_place_right (da_cons (do_m (d_var 4)) (da_cons (do_m (d_var 5)) (da_cons (do_m (d_var 2)) (da_cons (do_m (d_var 3)) da_nil)))))))))))
    (dss_one (ds_ret d_bl))
    dss_nil)
    (dss_one (ds_if (dt_bool (dw_or (dt_not (dt_tru (do_m (d_callG (Gd.gf G_alone_right) (hr.mono (by decide)) hg takesB rfl mg__law_alone_right (da_cons (do_m (d_var 4)) (da_cons (do_m (d_var 2)) da_nil)))))) (dw_or1 (dt_not (dt_tru (do_m (d_callG (Gd.gf G_alone_right) (hr.mono (by decide)) hg takesB rfl mg__law_alone_right (da_cons (do_m (d_static (c := 1) 1 [0] [] T.sm_1_of (Gs.gk (ks := []) (okS_Ratio_of T X0 G0) (by decide) fun _ _ _ _ _ _ pre us ws h1 h2 h3 => match pre, us, ws, h1, h2, h3 with | [], [_], [], _, _, _ => rfl) (hr.mono (by decide)) hg takesB rfl mg_Ratio (da_cons (do_m (d_var 5)) da_nil) dk_nil)) (da_cons (do_m (d_var 3)) da_nil)))))))))
    (dss_one (ds_ret d_bl))
    dss_nil))))))))))
    (dss_one (ds_ret (d_callG (Gd.gf G_register_right) (hr.mono (by decide)) hg takesB rfl mg__law_register_right (da_cons (do_s 0) da_nil)))))
theorem ok_right (T : Tk K ad cm) (X0 : K.In base) (G0 : base.Ns mainGlobals mg) : Gd P w K mg base ⟨K, cm⟩ 11 (ad 48) f_right :=
  (okS_right T X0 G0).gd fun _ _ _ _ _ _ us hl => match us, hl with | [_], _ => rfl
theorem okS_pot (T : Tk K ad cm) (X0 : K.In base) (G0 : base.Ns mainGlobals mg) : Gs P w K mg base ⟨K, cm⟩ 1 "_law_pot" "_law_pot" s_pot (ad 49) ["_law_script", "_law_k"] f_pot := by
  refine DefAt.okS T.d_pot sc_pot rfl rfl (by decide) fun cdv A outer s H E F0 H0 pr hr hg => ?_
  have mg_abs : mg "abs" = none := PySem.W.mg_none_of X0 G0 T.g_abs
  have mg_int : mg "int" = none := PySem.W.mg_none_of X0 G0 T.g_int
  have mg_len : mg "len" = none := PySem.W.mg_none_of X0 G0 T.g_len
  have mg_max : mg "max" = none := PySem.W.mg_none_of X0 G0 T.g_max
  exact (dss_cons (ds_set 2 (d_add (do_m (d_mul (do_m d_int) (do_s 1))) (do_m d_int)) sc_pot.nd)
    (dss_cons (ds_if (dt_cmp ov_lt (op_ltD hr.units) (do_s 1) (do_m (d_len mg_len (do_s 0))) (nomark _))
    (dss_one (ds_set 2 (d_abs mg_abs (do_m (d_ix (ix_all (hu_of hr)) (do_s 0) (do_s 1)))) sc_pot.nd))
    dss_nil)
    (dss_one (ds_retO (d_lst (dc_cons (d_max2 mg_max rfl (do_m d_int) (do_m (d_sub (do_s 2) (do_m (d_pow (do_m d_int) (do_m d_int)))))) (dc_cons (d_add (do_m (d_mod (do_m (d_mul (do_m (d_int1 mg_int (do_m (d_add (do_m (d_mod (do_m (d_int1 mg_int (do_s 2))) (do_m d_int))) (do_m d_int))))) (do_m (d_pow (do_m (d_add (do_m (d_mul (do_m d_int) (do_s 1))) (do_m d_int))) (do_m d_int))))) (do_m d_int))) (do_m d_int)) dc_nil)))))))
theorem ok_pot (T : Tk K ad cm) (X0 : K.In base) (G0 : base.Ns mainGlobals mg) : Gd P w K mg base ⟨K, cm⟩ 1 (ad 49) f_pot :=
  (okS_pot T X0 G0).gd fun _ _ _ _ _ _ us hl => match us, hl with | [_, _], _ => rfl
theorem okS_law (T : Tk K ad cm) (X0 : K.In base) (G0 : base.Ns mainGlobals mg) : Gs P w K mg base ⟨K, cm⟩ 12 "law" "law" s_law (ad 50) ["_law_script"] f_law := by
  refine DefAt.okS T.d_law sc_law rfl rfl (by decide) fun cdv A outer s H E F0 H0 pr hr hg => ?_
  have mg__law_pot := PySem.W.mg_of X0 G0 T.g__law_pot
  have mg__law_right := PySem.W.mg_of X0 G0 T.g__law_right
  have mg_all : mg "all" = none := PySem.W.mg_none_of X0 G0 T.g_all
  have mg_len : mg "len" = none := PySem.W.mg_none_of X0 G0 T.g_len
  have mg_max : mg "max" = none := PySem.W.mg_none_of X0 G0 T.g_max
  have mg_min : mg "min" = none := PySem.W.mg_none_of X0 G0 T.g_min
  have mg_range : mg "range" = none := PySem.W.mg_none_of X0 G0 T.g_range
  have G_pot : Gd P w K mg base ⟨K, cm⟩ 1 (ad 49) f_pot := ok_pot T X0 G0
  have G_right : Gd P w K mg base ⟨K, cm⟩ 11 (ad 48) f_right := ok_right T X0 G0
  exact (dss_one (ds_ret (d_all mg_all rfl (do_m (DN.kept (d_lc rfl sc_law.nd (blkOk_by (own := [("_law_k", 1)]) rfl) rfl (di_range1 rfl mg_range (do_m (d_max2 mg_max rfl (do_m d_int) (do_m (d_min2 mg_min rfl (do_m d_int) (do_m (d_len mg_len (do_s 0)))))))) (fun _ _ _ _ _ _ _ _ => (dgw_name 1 sc_law.nd)) (fun _ _ _ _ _ _ _ _ => dts_nil) (fun _ _ _ _ _ _ _ _ => (d_callN1 (Gd.gf G_right) (hr.mono (by decide)) hg G.takes0 mg__law_right (d_callGN (Gd.gf G_pot) (hr.mono (by decide)) hg G.takes0 rfl mg__law_pot (da_cons (do_m (d_var 0)) (da_cons (do_m (d_var 1)) da_nil)))))))))))
theorem ok_law (T : Tk K ad cm) (X0 : K.In base) (G0 : base.Ns mainGlobals mg) : Gd P w K mg base ⟨K, cm⟩ 12 (ad 50) f_law :=
  (okS_law T X0 G0).gd fun _ _ _ _ _ _ us hl => match us, hl with | [_], _ => rfl
end
theorem all_mk {l : PySem.W.OpenLaw} {w : World} {K : PySem.W.Frag} {h : Heap} {mg : Str → Option Value} {fa c1 a0 a1 a2 a3 a4 a5 a6 a7 a8 a9 a10 a11 a12 a13 a14 a15 a16 a17 a18 a19 a20 a21 a22 a23 a24 a25 a26 a27 a28 a29 a30 a31 a32 a33 a34 a35 a36 a37 a38 a39 a40 a41 a42 a43 a44 a45 a46 a47 a48 a49 a50 q_p_1_top q_p_1_bottom smp_sm_1_of smp_sm_1_read T6 : Addr} {t_FIGURES : Tok} {r_p_1_top : List Value} {r_p_1_bottom : List Value} {smr_sm_1_of : List Value} {smr_sm_1_read : List Value} {dn6 : Nat} {dt6_0 : Tok} {do6 : Value} {dp6 : Option Addr} {dq6 : Array (Option Value)} {cd_1 : ClassData}
    {od0 an0 od1 an1 od2 an2 od3 an3 od4 an4 od5 an5 od6 an6 od7 an7 od8 an8 od9 an9 od10 an10 od11 an11 od12 an12 od13 an13 od14 an14 od15 an15 od16 an16 od17 an17 od18 an18 od19 an19 od20 an20 od21 an21 od22 an22 od23 an23 od24 an24 od25 an25 od26 an26 od27 an27 od28 an28 od29 an29 od30 an30 od31 an31 od32 an32 od33 an33 od34 an34 od35 an35 od36 an36 od37 an37 od38 an38 od39 an39 od40 an40 od41 an41 od42 an42 od43 an43 od44 an44 od45 an45 od46 an46 od47 an47 od48 an48 od49 an49 od50 an50 : Option Addr} {sl0 sl1 sl2 sl3 sl4 sl5 sl6 sl7 sl8 sl9 sl10 sl11 sl12 sl13 sl14 sl15 sl16 sl17 sl18 sl19 sl20 sl21 sl22 sl23 sl24 sl25 sl26 sl27 sl28 sl29 sl30 sl31 sl32 sl33 sl34 sl35 sl36 sl37 sl38 sl39 sl40 sl41 sl42 sl43 sl44 sl45 sl46 sl47 sl48 sl49 sl50 : Array (Option Value)} {oc0 kV0 dc0 pm0 cd0 ct0 oc1 kV1 dc1 pm1 cd1 ct1 oc2 kV2 dc2 pm2 cd2 ct2 oc3 kV3 dc3 pm3 cd3 ct3 oc4 kV4 dc4 pm4 cd4 ct4 oc5 kV5 dc5 pm5 cd5 ct5 oc6 kV6 dc6 pm6 cd6 ct6 oc7 kV7 dc7 pm7 cd7 ct7 oc8 kV8 dc8 pm8 cd8 ct8 oc9 kV9 dc9 pm9 cd9 ct9 oc10 kV10 dc10 pm10 cd10 ct10 oc11 kV11 dc11 pm11 cd11 ct11 oc12 kV12 dc12 pm12 cd12 ct12 oc13 kV13 dc13 pm13 cd13 ct13 oc14 kV14 dc14 pm14 cd14 ct14 oc15 kV15 dc15 pm15 cd15 ct15 oc16 kV16 dc16 pm16 cd16 ct16 oc17 kV17 dc17 pm17 cd17 ct17 oc18 kV18 dc18 pm18 cd18 ct18 oc19 kV19 dc19 pm19 cd19 ct19 oc20 kV20 dc20 pm20 cd20 ct20 oc21 kV21 dc21 pm21 cd21 ct21 oc22 kV22 dc22 pm22 cd22 ct22 oc23 kV23 dc23 pm23 cd23 ct23 oc24 kV24 dc24 pm24 cd24 ct24 oc25 kV25 dc25 pm25 cd25 ct25 oc26 kV26 dc26 pm26 cd26 ct26 oc27 kV27 dc27 pm27 cd27 ct27 oc28 kV28 dc28 pm28 cd28 ct28 oc29 kV29 dc29 pm29 cd29 ct29 oc30 kV30 dc30 pm30 cd30 ct30 oc31 kV31 dc31 pm31 cd31 ct31 oc32 kV32 dc32 pm32 cd32 ct32 oc33 kV33 dc33 pm33 cd33 ct33 oc34 kV34 dc34 pm34 cd34 ct34 oc35 kV35 dc35 pm35 cd35 ct35 oc36 kV36 dc36 pm36 cd36 ct36 oc37 kV37 dc37 pm37 cd37 ct37 oc38 kV38 dc38 pm38 cd38 ct38 oc39 kV39 dc39 pm39 cd39 ct39 oc40 kV40 dc40 pm40 cd40 ct40 oc41 kV41 dc41 pm41 cd41 ct41 oc42 kV42 dc42 pm42 cd42 ct42 oc43 kV43 dc43 pm43 cd43 ct43 oc44 kV44 dc44 pm44 cd44 ct44 oc45 kV45 dc45 pm45 cd45 ct45 oc46 kV46 dc46 pm46 cd46 ct46 oc47 kV47 dc47 pm47 cd47 ct47 oc48 kV48 dc48 pm48 cd48 ct48 oc49 kV49 dc49 pm49 cd49 ct49 oc50 kV50 dc50 pm50 cd50 ct50 : Value}
    (X : K.In h) (G0 : h.Ns mainGlobals mg) (hfa : mg "law" = some (.ref fa))
    (gc_1 : PySem.W.nsIn K mainGlobals "Ratio" = some (some (.ref c1)))
    (g__law_alone_right : PySem.W.nsIn K mainGlobals "_law_alone_right" = some (some (.ref a47)))
    (g__law_are_integers : PySem.W.nsIn K mainGlobals "_law_are_integers" = some (some (.ref a39)))
    (g__law_draw : PySem.W.nsIn K mainGlobals "_law_draw" = some (some (.ref a1)))
    (g__law_drawn : PySem.W.nsIn K mainGlobals "_law_drawn" = some (some (.ref a3)))
    (g__law_floor : PySem.W.nsIn K mainGlobals "_law_floor" = some (some (.ref a33)))
    (g__law_frac : PySem.W.nsIn K mainGlobals "_law_frac" = some (some (.ref a0)))
    (g__law_in_place_right : PySem.W.nsIn K mainGlobals "_law_in_place_right" = some (some (.ref a44)))
    (g__law_less : PySem.W.nsIn K mainGlobals "_law_less" = some (some (.ref a24)))
    (g__law_made : PySem.W.nsIn K mainGlobals "_law_made" = some (some (.ref a14)))
    (g__law_order_right : PySem.W.nsIn K mainGlobals "_law_order_right" = some (some (.ref a43)))
    (g__law_pick : PySem.W.nsIn K mainGlobals "_law_pick" = some (some (.ref a2)))
    (g__law_plus : PySem.W.nsIn K mainGlobals "_law_plus" = some (some (.ref a18)))
    (g__law_pot : PySem.W.nsIn K mainGlobals "_law_pot" = some (some (.ref a49)))
    (g__law_quotients_right : PySem.W.nsIn K mainGlobals "_law_quotients_right" = some (some (.ref a40)))
    (g__law_register_right : PySem.W.nsIn K mainGlobals "_law_register_right" = some (some (.ref a36)))
    (g__law_rest : PySem.W.nsIn K mainGlobals "_law_rest" = some (some (.ref a34)))
    (g__law_right : PySem.W.nsIn K mainGlobals "_law_right" = some (some (.ref a48)))
    (g__law_side : PySem.W.nsIn K mainGlobals "_law_side" = some (some (.ref a15)))
    (g__law_sums_right : PySem.W.nsIn K mainGlobals "_law_sums_right" = some (some (.ref a37)))
    (g__law_text : PySem.W.nsIn K mainGlobals "_law_text" = some (some (.ref a13)))
    (g__law_times : PySem.W.nsIn K mainGlobals "_law_times" = some (some (.ref a27)))
    (g__law_told : PySem.W.nsIn K mainGlobals "_law_told" = some (some (.ref a21)))
    (g_abs : PySem.W.nsIn K mainGlobals "abs" = some none)
    (g_all : PySem.W.nsIn K mainGlobals "all" = some none)
    (g_are_figures : PySem.W.nsIn K mainGlobals "are_figures" = some (some (.ref a9)))
    (g_bool : PySem.W.nsIn K mainGlobals "bool" = some none)
    (g_common_divisor : PySem.W.nsIn K mainGlobals "common_divisor" = some (some (.ref a4)))
    (g_divmod : PySem.W.nsIn K mainGlobals "divmod" = some none)
    (g_int : PySem.W.nsIn K mainGlobals "int" = some none)
    (g_is_integer : PySem.W.nsIn K mainGlobals "is_integer" = some (some (.ref a5)))
    (g_isinstance : PySem.W.nsIn K mainGlobals "isinstance" = some none)
    (g_len : PySem.W.nsIn K mainGlobals "len" = some none)
    (g_max : PySem.W.nsIn K mainGlobals "max" = some none)
    (g_min : PySem.W.nsIn K mainGlobals "min" = some none)
    (g_parts_of : PySem.W.nsIn K mainGlobals "parts_of" = some (some (.ref a11)))
    (g_range : PySem.W.nsIn K mainGlobals "range" = some none)
    (g_repr : PySem.W.nsIn K mainGlobals "repr" = some none)
    (g_str : PySem.W.nsIn K mainGlobals "str" = some none)
    (g_law : PySem.W.nsIn K mainGlobals "law" = some (some (.ref a50)))
    (mk_1_i : PySem.W.findIn K (.ref c1) "__init__" = some (some (.ref a6)))
    (m_1_init_a : PySem.W.findIn K (.ref c1) "__init__" = some (some (.ref a6)))
    (m_1_add_a : PySem.W.findIn K (.ref c1) "__add__" = some (some (.ref a16)))
    (m_1_radd_a : PySem.W.findIn K (.ref c1) "__radd__" = some (some (.ref a17)))
    (m_1_sub_a : PySem.W.findIn K (.ref c1) "__sub__" = some (some (.ref a22)))
    (m_1_rsub_a : PySem.W.findIn K (.ref c1) "__rsub__" = some (some (.ref a23)))
    (m_1_mul_a : PySem.W.findIn K (.ref c1) "__mul__" = some (some (.ref a25)))
    (m_1_rmul_a : PySem.W.findIn K (.ref c1) "__rmul__" = some (some (.ref a26)))
    (m_1_floordiv_a : PySem.W.findIn K (.ref c1) "__floordiv__" = some (some (.ref a29)))
    (m_1_rfloordiv_a : PySem.W.findIn K (.ref c1) "__rfloordiv__" = some (some (.ref a30)))
    (m_1_mod_a : PySem.W.findIn K (.ref c1) "__mod__" = some (some (.ref a31)))
    (m_1_rmod_a : PySem.W.findIn K (.ref c1) "__rmod__" = some (some (.ref a32)))
    (m_1_neg_a : PySem.W.findIn K (.ref c1) "__neg__" = some (some (.ref a7)))
    (m_1_abs_a : PySem.W.findIn K (.ref c1) "__abs__" = some (some (.ref a35)))
    (m_1_over_a : PySem.W.findIn K (.ref c1) "over" = some (some (.ref a28)))
    (m_1_compare_a : PySem.W.findIn K (.ref c1) "compare" = some (some (.ref a41)))
    (m_1_floor_a : PySem.W.findIn K (.ref c1) "floor" = some (some (.ref a38)))
    (m_1_ceiling_a : PySem.W.findIn K (.ref c1) "ceiling" = some (some (.ref a45)))
    (m_1_eq_a : PySem.W.findIn K (.ref c1) "__eq__" = some (some (.ref a42)))
    (m_1_str_a : PySem.W.findIn K (.ref c1) "__str__" = some (some (.ref a8)))
    (m_1_repr_a : PySem.W.findIn K (.ref c1) "__repr__" = some (some (.ref a46)))
    (p_1_top_a : PySem.W.findIn K (.ref c1) "top" = some (some (.ref q_p_1_top)))
    (p_1_top_r : PySem.W.recIn K q_p_1_top "property" = some (.ref a19 :: r_p_1_top))
    (p_1_bottom_a : PySem.W.findIn K (.ref c1) "bottom" = some (some (.ref q_p_1_bottom)))
    (p_1_bottom_r : PySem.W.recIn K q_p_1_bottom "property" = some (.ref a20 :: r_p_1_bottom))
    (sm_1_of_f : PySem.W.findCls K (.ref c1) (.type "type") "of" = some (.get (.builtin "staticmethod.__get__") (.ref smp_sm_1_of) .none (.ref c1)))
    (sm_1_of_p : PySem.W.recIn K smp_sm_1_of "staticmethod" = some (.ref a12 :: smr_sm_1_of))
    (sm_1_read_f : PySem.W.findCls K (.ref c1) (.type "type") "read" = some (.get (.builtin "staticmethod.__get__") (.ref smp_sm_1_read) .none (.ref c1)))
    (sm_1_read_p : PySem.W.recIn K smp_sm_1_read "staticmethod" = some (.ref a10 :: smr_sm_1_read))
    (kc_1 : PySem.W.clsIn K c1 = some cd_1)
    (g_FIGURES : PySem.W.nsIn K mainGlobals "FIGURES" = some (some (.str "0123456789" t_FIGURES)))
    (c_1_pg : PySem.W.plainGet K c1 Str.empty = true)
    (c_1_hd : PySem.W.hasDictIn K c1 = true)
    (c_1_po : PySem.W.plainOver K c1 = true)
    (c_1_sa : PySem.W.findIn K (.ref c1) "__setattr__" = some (some (.builtin "object.__setattr__")))
    (mk_1_m : PySem.W.makesIn K c1 = true)
    (mk_1_f : PySem.W.isFn K (.ref a6) = true)
    (mk_1_k : PySem.W.keepIn K (.ref c1) = true)
    (m_1_init_f : PySem.W.isFn K (.ref a6) = true)
    (m_1_init_k : PySem.W.keepIn K (.ref a6) = true)
    (m_1_add_f : PySem.W.isFn K (.ref a16) = true)
    (m_1_add_k : PySem.W.keepIn K (.ref a16) = true)
    (m_1_radd_f : PySem.W.isFn K (.ref a17) = true)
    (m_1_radd_k : PySem.W.keepIn K (.ref a17) = true)
    (m_1_sub_f : PySem.W.isFn K (.ref a22) = true)
    (m_1_sub_k : PySem.W.keepIn K (.ref a22) = true)
    (m_1_rsub_f : PySem.W.isFn K (.ref a23) = true)
    (m_1_rsub_k : PySem.W.keepIn K (.ref a23) = true)
    (m_1_mul_f : PySem.W.isFn K (.ref a25) = true)
    (m_1_mul_k : PySem.W.keepIn K (.ref a25) = true)
    (m_1_rmul_f : PySem.W.isFn K (.ref a26) = true)
    (m_1_rmul_k : PySem.W.keepIn K (.ref a26) = true)
    (m_1_floordiv_f : PySem.W.isFn K (.ref a29) = true)
    (m_1_floordiv_k : PySem.W.keepIn K (.ref a29) = true)
    (m_1_rfloordiv_f : PySem.W.isFn K (.ref a30) = true)
    (m_1_rfloordiv_k : PySem.W.keepIn K (.ref a30) = true)
    (m_1_mod_f : PySem.W.isFn K (.ref a31) = true)
    (m_1_mod_k : PySem.W.keepIn K (.ref a31) = true)
    (m_1_rmod_f : PySem.W.isFn K (.ref a32) = true)
    (m_1_rmod_k : PySem.W.keepIn K (.ref a32) = true)
    (m_1_neg_f : PySem.W.isFn K (.ref a7) = true)
    (m_1_neg_k : PySem.W.keepIn K (.ref a7) = true)
    (m_1_abs_f : PySem.W.isFn K (.ref a35) = true)
    (m_1_abs_k : PySem.W.keepIn K (.ref a35) = true)
    (m_1_over_f : PySem.W.isFn K (.ref a28) = true)
    (m_1_over_k : PySem.W.keepIn K (.ref a28) = true)
    (m_1_compare_f : PySem.W.isFn K (.ref a41) = true)
    (m_1_compare_k : PySem.W.keepIn K (.ref a41) = true)
    (m_1_floor_f : PySem.W.isFn K (.ref a38) = true)
    (m_1_floor_k : PySem.W.keepIn K (.ref a38) = true)
    (m_1_ceiling_f : PySem.W.isFn K (.ref a45) = true)
    (m_1_ceiling_k : PySem.W.keepIn K (.ref a45) = true)
    (m_1_eq_f : PySem.W.isFn K (.ref a42) = true)
    (m_1_eq_k : PySem.W.keepIn K (.ref a42) = true)
    (m_1_str_f : PySem.W.isFn K (.ref a8) = true)
    (m_1_str_k : PySem.W.keepIn K (.ref a8) = true)
    (m_1_repr_f : PySem.W.isFn K (.ref a46) = true)
    (m_1_repr_k : PySem.W.keepIn K (.ref a46) = true)
    (p_1_top_g : PySem.W.specialIn K (.ref q_p_1_top) "__get__" = some (some (.builtin "property.__get__")))
    (p_1_top_t : PySem.W.takesIn K (.ref q_p_1_top) = some true)
    (p_1_bottom_g : PySem.W.specialIn K (.ref q_p_1_bottom) "__get__" = some (some (.builtin "property.__get__")))
    (p_1_bottom_t : PySem.W.takesIn K (.ref q_p_1_bottom) = some true)
    (k_1_7 : PySem.W.notFirst K c1 (.ref c1) = true)
    (k_1_6 : PySem.W.notFirst K c1 (.type "dict") = true)
    (k_1_5 : PySem.W.notFirst K c1 (.type "tuple") = true)
    (k_1_4 : PySem.W.notFirst K c1 (.type "list") = true)
    (k_1_3 : PySem.W.notFirst K c1 (.type "str") = true)
    (k_1_2 : PySem.W.notFirst K c1 (.type "int") = true)
    (k_1_1 : PySem.W.notFirst K c1 (.type "bool") = true)
    (k_1_0 : PySem.W.notFirst K c1 (.type "NoneType") = true)
    (ne_1 : PySem.W.findIn K (.ref c1) "__ne__" = some (some (.builtin "object.__ne__")))
    (ob_1 : PySem.W.mroIn K c1 (.type "object") = some true)
    (sf_1 : PySem.W.selfFirst K c1 = true)
    (sb_1_dict : PySem.W.subIn K (.ref c1) (.type "dict") = some false)
    (sb_1_tuple : PySem.W.subIn K (.ref c1) (.type "tuple") = some false)
    (sb_1_list : PySem.W.subIn K (.ref c1) (.type "list") = some false)
    (sb_1_str : PySem.W.subIn K (.ref c1) (.type "str") = some false)
    (sb_1_int : PySem.W.subIn K (.ref c1) (.type "int") = some false)
    (sb_1_bool : PySem.W.subIn K (.ref c1) (.type "bool") = some false)
    (sb_1_NoneType : PySem.W.subIn K (.ref c1) (.type "NoneType") = some false)
    (ni_1_add_0 : PySem.W.findIn K (.ref c1) "__iadd__" = some none)
    (ni_1_floordiv_0 : PySem.W.findIn K (.ref c1) "__ifloordiv__" = some none)
    (ni_1_mod_0 : PySem.W.findIn K (.ref c1) "__imod__" = some none)
    (ni_1_mul_0 : PySem.W.findIn K (.ref c1) "__imul__" = some none)
    (ni_1_sub_0 : PySem.W.findIn K (.ref c1) "__isub__" = some none)
    (sm_1_of_r : PySem.W.readsIn K c1 (.type "type") = true)
    (sm_1_of_g : PySem.W.specialIn K (.ref c1) "__getattribute__" = some (some (.builtin "type.__getattribute__")))
    (sm_1_read_r : PySem.W.readsIn K c1 (.type "type") = true)
    (sm_1_read_g : PySem.W.specialIn K (.ref c1) "__getattribute__" = some (some (.builtin "type.__getattribute__")))
    (n_1_own_bottom : PySem.W.findIn K (.ref c1) "own_bottom" = some none)
    (n_1_own_top : PySem.W.findIn K (.ref c1) "own_top" = some none)
    (isa_31 : PySem.W.kitOne K (.ref c1) (.type "str") = some false)
    (isa_30 : PySem.W.kitOne K (.type "dict") (.type "str") = some false)
    (isa_29 : PySem.W.kitOne K (.type "tuple") (.type "str") = some false)
    (isa_28 : PySem.W.kitOne K (.type "list") (.type "str") = some false)
    (isa_27 : PySem.W.kitOne K (.type "str") (.type "str") = some true)
    (isa_26 : PySem.W.kitOne K (.type "int") (.type "str") = some false)
    (isa_25 : PySem.W.kitOne K (.type "bool") (.type "str") = some false)
    (isa_24 : PySem.W.kitOne K (.type "NoneType") (.type "str") = some false)
    (isa_23 : PySem.W.kitOne K (.ref c1) (.type "int") = some false)
    (isa_22 : PySem.W.kitOne K (.type "dict") (.type "int") = some false)
    (isa_21 : PySem.W.kitOne K (.type "tuple") (.type "int") = some false)
    (isa_20 : PySem.W.kitOne K (.type "list") (.type "int") = some false)
    (isa_19 : PySem.W.kitOne K (.type "str") (.type "int") = some false)
    (isa_18 : PySem.W.kitOne K (.type "int") (.type "int") = some true)
    (isa_17 : PySem.W.kitOne K (.type "bool") (.type "int") = some true)
    (isa_16 : PySem.W.kitOne K (.type "NoneType") (.type "int") = some false)
    (isa_15 : PySem.W.kitOne K (.ref c1) (.type "bool") = some false)
    (isa_14 : PySem.W.kitOne K (.type "dict") (.type "bool") = some false)
    (isa_13 : PySem.W.kitOne K (.type "tuple") (.type "bool") = some false)
    (isa_12 : PySem.W.kitOne K (.type "list") (.type "bool") = some false)
    (isa_11 : PySem.W.kitOne K (.type "str") (.type "bool") = some false)
    (isa_10 : PySem.W.kitOne K (.type "int") (.type "bool") = some false)
    (isa_9 : PySem.W.kitOne K (.type "bool") (.type "bool") = some true)
    (isa_8 : PySem.W.kitOne K (.type "NoneType") (.type "bool") = some false)
    (isa_7 : PySem.W.kitOne K (.ref c1) (.ref c1) = some true)
    (isa_6 : PySem.W.kitOne K (.type "dict") (.ref c1) = some false)
    (isa_5 : PySem.W.kitOne K (.type "tuple") (.ref c1) = some false)
    (isa_4 : PySem.W.kitOne K (.type "list") (.ref c1) = some false)
    (isa_3 : PySem.W.kitOne K (.type "str") (.ref c1) = some false)
    (isa_2 : PySem.W.kitOne K (.type "int") (.ref c1) = some false)
    (isa_1 : PySem.W.kitOne K (.type "bool") (.ref c1) = some false)
    (isa_0 : PySem.W.kitOne K (.type "NoneType") (.ref c1) = some false)
    (cl_1 : PySem.W.findIn K (.ref c1) "__class__" = some (some (.builtin "object.__class__")))
    (sp_class : PySem.W.specialIn K (.builtin "object.__class__") "__get__" = some (some (.builtin "getset_descriptor.__get__")))
    (tk_class : PySem.W.takesIn K (.builtin "object.__class__") = some true)
    (l_0 : K.lookup a0 = some ⟨oc0, od0, .func (PySem.W.fnOf "_law_frac" "_law_frac" (defArgs s_frac) (defBody s_frac) (defScope s_frac) .none kV0 dc0 pm0 an0 cd0 ct0), sl0⟩)
    (e_0 : PySem.W.codeIn K cd0 "_law_frac" = true)
    (kp_0 : PySem.W.keepIn K (.ref a0) = true)
    (l_1 : K.lookup a1 = some ⟨oc1, od1, .func (PySem.W.fnOf "_law_draw" "_law_draw" (defArgs s_draw) (defBody s_draw) (defScope s_draw) .none kV1 dc1 pm1 an1 cd1 ct1), sl1⟩)
    (e_1 : PySem.W.codeIn K cd1 "_law_draw" = true)
    (kp_1 : PySem.W.keepIn K (.ref a1) = true)
    (l_2 : K.lookup a2 = some ⟨oc2, od2, .func (PySem.W.fnOf "_law_pick" "_law_pick" (defArgs s_pick) (defBody s_pick) (defScope s_pick) .none kV2 dc2 pm2 an2 cd2 ct2), sl2⟩)
    (e_2 : PySem.W.codeIn K cd2 "_law_pick" = true)
    (kp_2 : PySem.W.keepIn K (.ref a2) = true)
    (l_3 : K.lookup a3 = some ⟨oc3, od3, .func (PySem.W.fnOf "_law_drawn" "_law_drawn" (defArgs s_drawn) (defBody s_drawn) (defScope s_drawn) .none kV3 dc3 pm3 an3 cd3 ct3), sl3⟩)
    (e_3 : PySem.W.codeIn K cd3 "_law_drawn" = true)
    (kp_3 : PySem.W.keepIn K (.ref a3) = true)
    (l_4 : K.lookup a4 = some ⟨oc4, od4, .func (PySem.W.fnOf "common_divisor" "common_divisor" (defArgs s_common_divisor) (defBody s_common_divisor) (defScope s_common_divisor) .none kV4 dc4 pm4 an4 cd4 ct4), sl4⟩)
    (e_4 : PySem.W.codeIn K cd4 "common_divisor" = true)
    (kp_4 : PySem.W.keepIn K (.ref a4) = true)
    (l_5 : K.lookup a5 = some ⟨oc5, od5, .func (PySem.W.fnOf "is_integer" "is_integer" (defArgs s_is_integer) (defBody s_is_integer) (defScope s_is_integer) .none kV5 dc5 pm5 an5 cd5 ct5), sl5⟩)
    (e_5 : PySem.W.codeIn K cd5 "is_integer" = true)
    (kp_5 : PySem.W.keepIn K (.ref a5) = true)
    (l_6 : K.lookup a6 = some ⟨oc6, od6, .func (PySem.W.fnOf "__init__" "Ratio.__init__" (defArgs s_Ratio_init) (defBody s_Ratio_init) (defScope s_Ratio_init) (.ref T6) kV6 dc6 pm6 an6 cd6 ct6), sl6⟩)
    (e_6 : PySem.W.codeIn K cd6 "Ratio.__init__" = true)
    (kp_6 : PySem.W.keepIn K (.ref a6) = true)
    (lt_6 : K.lookup T6 = some ⟨do6, dp6, .seq [.int 1 dt6_0].toArray dn6, dq6⟩)
    (l_7 : K.lookup a7 = some ⟨oc7, od7, .func (PySem.W.fnOf "__neg__" "Ratio.__neg__" (defArgs s_Ratio_neg) (defBody s_Ratio_neg) (defScope s_Ratio_neg) .none kV7 dc7 pm7 an7 cd7 ct7), sl7⟩)
    (e_7 : PySem.W.codeIn K cd7 "Ratio.__neg__" = true)
    (kp_7 : PySem.W.keepIn K (.ref a7) = true)
    (l_8 : K.lookup a8 = some ⟨oc8, od8, .func (PySem.W.fnOf "__str__" "Ratio.__str__" (defArgs s_Ratio_str) (defBody s_Ratio_str) (defScope s_Ratio_str) .none kV8 dc8 pm8 an8 cd8 ct8), sl8⟩)
    (e_8 : PySem.W.codeIn K cd8 "Ratio.__str__" = true)
    (kp_8 : PySem.W.keepIn K (.ref a8) = true)
    (l_9 : K.lookup a9 = some ⟨oc9, od9, .func (PySem.W.fnOf "are_figures" "are_figures" (defArgs s_are_figures) (defBody s_are_figures) (defScope s_are_figures) .none kV9 dc9 pm9 an9 cd9 ct9), sl9⟩)
    (e_9 : PySem.W.codeIn K cd9 "are_figures" = true)
    (kp_9 : PySem.W.keepIn K (.ref a9) = true)
    (l_10 : K.lookup a10 = some ⟨oc10, od10, .func (PySem.W.fnOf "read" "Ratio.read" (defArgs s_Ratio_read) (defBody s_Ratio_read) (defScope s_Ratio_read) .none kV10 dc10 pm10 an10 cd10 ct10), sl10⟩)
    (e_10 : PySem.W.codeIn K cd10 "Ratio.read" = true)
    (kp_10 : PySem.W.keepIn K (.ref a10) = true)
    (l_11 : K.lookup a11 = some ⟨oc11, od11, .func (PySem.W.fnOf "parts_of" "parts_of" (defArgs s_parts_of) (defBody s_parts_of) (defScope s_parts_of) .none kV11 dc11 pm11 an11 cd11 ct11), sl11⟩)
    (e_11 : PySem.W.codeIn K cd11 "parts_of" = true)
    (kp_11 : PySem.W.keepIn K (.ref a11) = true)
    (l_12 : K.lookup a12 = some ⟨oc12, od12, .func (PySem.W.fnOf "of" "Ratio.of" (defArgs s_Ratio_of) (defBody s_Ratio_of) (defScope s_Ratio_of) .none kV12 dc12 pm12 an12 cd12 ct12), sl12⟩)
    (e_12 : PySem.W.codeIn K cd12 "Ratio.of" = true)
    (kp_12 : PySem.W.keepIn K (.ref a12) = true)
    (l_13 : K.lookup a13 = some ⟨oc13, od13, .func (PySem.W.fnOf "_law_text" "_law_text" (defArgs s_text) (defBody s_text) (defScope s_text) .none kV13 dc13 pm13 an13 cd13 ct13), sl13⟩)
    (e_13 : PySem.W.codeIn K cd13 "_law_text" = true)
    (kp_13 : PySem.W.keepIn K (.ref a13) = true)
    (l_14 : K.lookup a14 = some ⟨oc14, od14, .func (PySem.W.fnOf "_law_made" "_law_made" (defArgs s_made) (defBody s_made) (defScope s_made) .none kV14 dc14 pm14 an14 cd14 ct14), sl14⟩)
    (e_14 : PySem.W.codeIn K cd14 "_law_made" = true)
    (kp_14 : PySem.W.keepIn K (.ref a14) = true)
    (l_15 : K.lookup a15 = some ⟨oc15, od15, .func (PySem.W.fnOf "_law_side" "_law_side" (defArgs s_side) (defBody s_side) (defScope s_side) .none kV15 dc15 pm15 an15 cd15 ct15), sl15⟩)
    (e_15 : PySem.W.codeIn K cd15 "_law_side" = true)
    (kp_15 : PySem.W.keepIn K (.ref a15) = true)
    (l_16 : K.lookup a16 = some ⟨oc16, od16, .func (PySem.W.fnOf "__add__" "Ratio.__add__" (defArgs s_Ratio_add) (defBody s_Ratio_add) (defScope s_Ratio_add) .none kV16 dc16 pm16 an16 cd16 ct16), sl16⟩)
    (e_16 : PySem.W.codeIn K cd16 "Ratio.__add__" = true)
    (kp_16 : PySem.W.keepIn K (.ref a16) = true)
    (l_17 : K.lookup a17 = some ⟨oc17, od17, .func (PySem.W.fnOf "__radd__" "Ratio.__radd__" (defArgs s_Ratio_radd) (defBody s_Ratio_radd) (defScope s_Ratio_radd) .none kV17 dc17 pm17 an17 cd17 ct17), sl17⟩)
    (e_17 : PySem.W.codeIn K cd17 "Ratio.__radd__" = true)
    (kp_17 : PySem.W.keepIn K (.ref a17) = true)
    (l_18 : K.lookup a18 = some ⟨oc18, od18, .func (PySem.W.fnOf "_law_plus" "_law_plus" (defArgs s_plus) (defBody s_plus) (defScope s_plus) .none kV18 dc18 pm18 an18 cd18 ct18), sl18⟩)
    (e_18 : PySem.W.codeIn K cd18 "_law_plus" = true)
    (kp_18 : PySem.W.keepIn K (.ref a18) = true)
    (l_19 : K.lookup a19 = some ⟨oc19, od19, .func (PySem.W.fnOf "top" "Ratio.top" (defArgs s_Ratio_top) (defBody s_Ratio_top) (defScope s_Ratio_top) .none kV19 dc19 pm19 an19 cd19 ct19), sl19⟩)
    (e_19 : PySem.W.codeIn K cd19 "Ratio.top" = true)
    (kp_19 : PySem.W.keepIn K (.ref a19) = true)
    (l_20 : K.lookup a20 = some ⟨oc20, od20, .func (PySem.W.fnOf "bottom" "Ratio.bottom" (defArgs s_Ratio_bottom) (defBody s_Ratio_bottom) (defScope s_Ratio_bottom) .none kV20 dc20 pm20 an20 cd20 ct20), sl20⟩)
    (e_20 : PySem.W.codeIn K cd20 "Ratio.bottom" = true)
    (kp_20 : PySem.W.keepIn K (.ref a20) = true)
    (l_21 : K.lookup a21 = some ⟨oc21, od21, .func (PySem.W.fnOf "_law_told" "_law_told" (defArgs s_told) (defBody s_told) (defScope s_told) .none kV21 dc21 pm21 an21 cd21 ct21), sl21⟩)
    (e_21 : PySem.W.codeIn K cd21 "_law_told" = true)
    (kp_21 : PySem.W.keepIn K (.ref a21) = true)
    (l_22 : K.lookup a22 = some ⟨oc22, od22, .func (PySem.W.fnOf "__sub__" "Ratio.__sub__" (defArgs s_Ratio_sub) (defBody s_Ratio_sub) (defScope s_Ratio_sub) .none kV22 dc22 pm22 an22 cd22 ct22), sl22⟩)
    (e_22 : PySem.W.codeIn K cd22 "Ratio.__sub__" = true)
    (kp_22 : PySem.W.keepIn K (.ref a22) = true)
    (l_23 : K.lookup a23 = some ⟨oc23, od23, .func (PySem.W.fnOf "__rsub__" "Ratio.__rsub__" (defArgs s_Ratio_rsub) (defBody s_Ratio_rsub) (defScope s_Ratio_rsub) .none kV23 dc23 pm23 an23 cd23 ct23), sl23⟩)
    (e_23 : PySem.W.codeIn K cd23 "Ratio.__rsub__" = true)
    (kp_23 : PySem.W.keepIn K (.ref a23) = true)
    (l_24 : K.lookup a24 = some ⟨oc24, od24, .func (PySem.W.fnOf "_law_less" "_law_less" (defArgs s_less) (defBody s_less) (defScope s_less) .none kV24 dc24 pm24 an24 cd24 ct24), sl24⟩)
    (e_24 : PySem.W.codeIn K cd24 "_law_less" = true)
    (kp_24 : PySem.W.keepIn K (.ref a24) = true)
    (l_25 : K.lookup a25 = some ⟨oc25, od25, .func (PySem.W.fnOf "__mul__" "Ratio.__mul__" (defArgs s_Ratio_mul) (defBody s_Ratio_mul) (defScope s_Ratio_mul) .none kV25 dc25 pm25 an25 cd25 ct25), sl25⟩)
    (e_25 : PySem.W.codeIn K cd25 "Ratio.__mul__" = true)
    (kp_25 : PySem.W.keepIn K (.ref a25) = true)
    (l_26 : K.lookup a26 = some ⟨oc26, od26, .func (PySem.W.fnOf "__rmul__" "Ratio.__rmul__" (defArgs s_Ratio_rmul) (defBody s_Ratio_rmul) (defScope s_Ratio_rmul) .none kV26 dc26 pm26 an26 cd26 ct26), sl26⟩)
    (e_26 : PySem.W.codeIn K cd26 "Ratio.__rmul__" = true)
    (kp_26 : PySem.W.keepIn K (.ref a26) = true)
    (l_27 : K.lookup a27 = some ⟨oc27, od27, .func (PySem.W.fnOf "_law_times" "_law_times" (defArgs s_times) (defBody s_times) (defScope s_times) .none kV27 dc27 pm27 an27 cd27 ct27), sl27⟩)
    (e_27 : PySem.W.codeIn K cd27 "_law_times" = true)
    (kp_27 : PySem.W.keepIn K (.ref a27) = true)
    (l_28 : K.lookup a28 = some ⟨oc28, od28, .func (PySem.W.fnOf "over" "Ratio.over" (defArgs s_Ratio_over) (defBody s_Ratio_over) (defScope s_Ratio_over) .none kV28 dc28 pm28 an28 cd28 ct28), sl28⟩)
    (e_28 : PySem.W.codeIn K cd28 "Ratio.over" = true)
    (kp_28 : PySem.W.keepIn K (.ref a28) = true)
    (l_29 : K.lookup a29 = some ⟨oc29, od29, .func (PySem.W.fnOf "__floordiv__" "Ratio.__floordiv__" (defArgs s_Ratio_floordiv) (defBody s_Ratio_floordiv) (defScope s_Ratio_floordiv) .none kV29 dc29 pm29 an29 cd29 ct29), sl29⟩)
    (e_29 : PySem.W.codeIn K cd29 "Ratio.__floordiv__" = true)
    (kp_29 : PySem.W.keepIn K (.ref a29) = true)
    (l_30 : K.lookup a30 = some ⟨oc30, od30, .func (PySem.W.fnOf "__rfloordiv__" "Ratio.__rfloordiv__" (defArgs s_Ratio_rfloordiv) (defBody s_Ratio_rfloordiv) (defScope s_Ratio_rfloordiv) .none kV30 dc30 pm30 an30 cd30 ct30), sl30⟩)
    (e_30 : PySem.W.codeIn K cd30 "Ratio.__rfloordiv__" = true)
    (kp_30 : PySem.W.keepIn K (.ref a30) = true)
    (l_31 : K.lookup a31 = some ⟨oc31, od31, .func (PySem.W.fnOf "__mod__" "Ratio.__mod__" (defArgs s_Ratio_mod) (defBody s_Ratio_mod) (defScope s_Ratio_mod) .none kV31 dc31 pm31 an31 cd31 ct31), sl31⟩)
    (e_31 : PySem.W.codeIn K cd31 "Ratio.__mod__" = true)
    (kp_31 : PySem.W.keepIn K (.ref a31) = true)
    (l_32 : K.lookup a32 = some ⟨oc32, od32, .func (PySem.W.fnOf "__rmod__" "Ratio.__rmod__" (defArgs s_Ratio_rmod) (defBody s_Ratio_rmod) (defScope s_Ratio_rmod) .none kV32 dc32 pm32 an32 cd32 ct32), sl32⟩)
    (e_32 : PySem.W.codeIn K cd32 "Ratio.__rmod__" = true)
    (kp_32 : PySem.W.keepIn K (.ref a32) = true)
    (l_33 : K.lookup a33 = some ⟨oc33, od33, .func (PySem.W.fnOf "_law_floor" "_law_floor" (defArgs s_floor) (defBody s_floor) (defScope s_floor) .none kV33 dc33 pm33 an33 cd33 ct33), sl33⟩)
    (e_33 : PySem.W.codeIn K cd33 "_law_floor" = true)
    (kp_33 : PySem.W.keepIn K (.ref a33) = true)
    (l_34 : K.lookup a34 = some ⟨oc34, od34, .func (PySem.W.fnOf "_law_rest" "_law_rest" (defArgs s_rest) (defBody s_rest) (defScope s_rest) .none kV34 dc34 pm34 an34 cd34 ct34), sl34⟩)
    (e_34 : PySem.W.codeIn K cd34 "_law_rest" = true)
    (kp_34 : PySem.W.keepIn K (.ref a34) = true)
    (l_35 : K.lookup a35 = some ⟨oc35, od35, .func (PySem.W.fnOf "__abs__" "Ratio.__abs__" (defArgs s_Ratio_abs) (defBody s_Ratio_abs) (defScope s_Ratio_abs) .none kV35 dc35 pm35 an35 cd35 ct35), sl35⟩)
    (e_35 : PySem.W.codeIn K cd35 "Ratio.__abs__" = true)
    (kp_35 : PySem.W.keepIn K (.ref a35) = true)
    (l_36 : K.lookup a36 = some ⟨oc36, od36, .func (PySem.W.fnOf "_law_register_right" "_law_register_right" (defArgs s_register_right) (defBody s_register_right) (defScope s_register_right) .none kV36 dc36 pm36 an36 cd36 ct36), sl36⟩)
    (e_36 : PySem.W.codeIn K cd36 "_law_register_right" = true)
    (kp_36 : PySem.W.keepIn K (.ref a36) = true)
    (l_37 : K.lookup a37 = some ⟨oc37, od37, .func (PySem.W.fnOf "_law_sums_right" "_law_sums_right" (defArgs s_sums_right) (defBody s_sums_right) (defScope s_sums_right) .none kV37 dc37 pm37 an37 cd37 ct37), sl37⟩)
    (e_37 : PySem.W.codeIn K cd37 "_law_sums_right" = true)
    (kp_37 : PySem.W.keepIn K (.ref a37) = true)
    (l_38 : K.lookup a38 = some ⟨oc38, od38, .func (PySem.W.fnOf "floor" "Ratio.floor" (defArgs s_Ratio_floor) (defBody s_Ratio_floor) (defScope s_Ratio_floor) .none kV38 dc38 pm38 an38 cd38 ct38), sl38⟩)
    (e_38 : PySem.W.codeIn K cd38 "Ratio.floor" = true)
    (kp_38 : PySem.W.keepIn K (.ref a38) = true)
    (l_39 : K.lookup a39 = some ⟨oc39, od39, .func (PySem.W.fnOf "_law_are_integers" "_law_are_integers" (defArgs s_are_integers) (defBody s_are_integers) (defScope s_are_integers) .none kV39 dc39 pm39 an39 cd39 ct39), sl39⟩)
    (e_39 : PySem.W.codeIn K cd39 "_law_are_integers" = true)
    (kp_39 : PySem.W.keepIn K (.ref a39) = true)
    (l_40 : K.lookup a40 = some ⟨oc40, od40, .func (PySem.W.fnOf "_law_quotients_right" "_law_quotients_right" (defArgs s_quotients_right) (defBody s_quotients_right) (defScope s_quotients_right) .none kV40 dc40 pm40 an40 cd40 ct40), sl40⟩)
    (e_40 : PySem.W.codeIn K cd40 "_law_quotients_right" = true)
    (kp_40 : PySem.W.keepIn K (.ref a40) = true)
    (l_41 : K.lookup a41 = some ⟨oc41, od41, .func (PySem.W.fnOf "compare" "Ratio.compare" (defArgs s_Ratio_compare) (defBody s_Ratio_compare) (defScope s_Ratio_compare) .none kV41 dc41 pm41 an41 cd41 ct41), sl41⟩)
    (e_41 : PySem.W.codeIn K cd41 "Ratio.compare" = true)
    (kp_41 : PySem.W.keepIn K (.ref a41) = true)
    (l_42 : K.lookup a42 = some ⟨oc42, od42, .func (PySem.W.fnOf "__eq__" "Ratio.__eq__" (defArgs s_Ratio_eq) (defBody s_Ratio_eq) (defScope s_Ratio_eq) .none kV42 dc42 pm42 an42 cd42 ct42), sl42⟩)
    (e_42 : PySem.W.codeIn K cd42 "Ratio.__eq__" = true)
    (kp_42 : PySem.W.keepIn K (.ref a42) = true)
    (l_43 : K.lookup a43 = some ⟨oc43, od43, .func (PySem.W.fnOf "_law_order_right" "_law_order_right" (defArgs s_order_right) (defBody s_order_right) (defScope s_order_right) .none kV43 dc43 pm43 an43 cd43 ct43), sl43⟩)
    (e_43 : PySem.W.codeIn K cd43 "_law_order_right" = true)
    (kp_43 : PySem.W.keepIn K (.ref a43) = true)
    (l_44 : K.lookup a44 = some ⟨oc44, od44, .func (PySem.W.fnOf "_law_in_place_right" "_law_in_place_right" (defArgs s_in_place_right) (defBody s_in_place_right) (defScope s_in_place_right) .none kV44 dc44 pm44 an44 cd44 ct44), sl44⟩)
    (e_44 : PySem.W.codeIn K cd44 "_law_in_place_right" = true)
    (kp_44 : PySem.W.keepIn K (.ref a44) = true)
    (l_45 : K.lookup a45 = some ⟨oc45, od45, .func (PySem.W.fnOf "ceiling" "Ratio.ceiling" (defArgs s_Ratio_ceiling) (defBody s_Ratio_ceiling) (defScope s_Ratio_ceiling) .none kV45 dc45 pm45 an45 cd45 ct45), sl45⟩)
    (e_45 : PySem.W.codeIn K cd45 "Ratio.ceiling" = true)
    (kp_45 : PySem.W.keepIn K (.ref a45) = true)
    (l_46 : K.lookup a46 = some ⟨oc46, od46, .func (PySem.W.fnOf "__repr__" "Ratio.__repr__" (defArgs s_Ratio_repr) (defBody s_Ratio_repr) (defScope s_Ratio_repr) .none kV46 dc46 pm46 an46 cd46 ct46), sl46⟩)
    (e_46 : PySem.W.codeIn K cd46 "Ratio.__repr__" = true)
    (kp_46 : PySem.W.keepIn K (.ref a46) = true)
    (l_47 : K.lookup a47 = some ⟨oc47, od47, .func (PySem.W.fnOf "_law_alone_right" "_law_alone_right" (defArgs s_alone_right) (defBody s_alone_right) (defScope s_alone_right) .none kV47 dc47 pm47 an47 cd47 ct47), sl47⟩)
    (e_47 : PySem.W.codeIn K cd47 "_law_alone_right" = true)
    (kp_47 : PySem.W.keepIn K (.ref a47) = true)
    (l_48 : K.lookup a48 = some ⟨oc48, od48, .func (PySem.W.fnOf "_law_right" "_law_right" (defArgs s_right) (defBody s_right) (defScope s_right) .none kV48 dc48 pm48 an48 cd48 ct48), sl48⟩)
    (e_48 : PySem.W.codeIn K cd48 "_law_right" = true)
    (kp_48 : PySem.W.keepIn K (.ref a48) = true)
    (l_49 : K.lookup a49 = some ⟨oc49, od49, .func (PySem.W.fnOf "_law_pot" "_law_pot" (defArgs s_pot) (defBody s_pot) (defScope s_pot) .none kV49 dc49 pm49 an49 cd49 ct49), sl49⟩)
    (e_49 : PySem.W.codeIn K cd49 "_law_pot" = true)
    (kp_49 : PySem.W.keepIn K (.ref a49) = true)
    (l_50 : K.lookup a50 = some ⟨oc50, od50, .func (PySem.W.fnOf "law" "law" (defArgs s_law) (defBody s_law) (defScope s_law) .none kV50 dc50 pm50 an50 cd50 ct50), sl50⟩)
    (e_50 : PySem.W.codeIn K cd50 "law" = true)
    (kp_50 : PySem.W.keepIn K (.ref a50) = true)
    (km_1 : cd_1.mro = [.ref c1, .type "object"])
    : ∃ cm : Nat → Addr, ∀ base : Heap, K.In base → base.Ns mainGlobals mg → Gd l.prog w K mg base ⟨K, cm⟩ 12 fa f_law := by
  have e : fa = a50 := by
    have z := hfa.symm.trans (PySem.W.mg_of X G0 g_law)
    cases z
    rfl
  rw [e]
  have T : Tk K (fun i => [a0, a1, a2, a3, a4, a5, a6, a7, a8, a9, a10, a11, a12, a13, a14, a15, a16, a17, a18, a19, a20, a21, a22, a23, a24, a25, a26, a27, a28, a29, a30, a31, a32, a33, a34, a35, a36, a37, a38, a39, a40, a41, a42, a43, a44, a45, a46, a47, a48, a49, a50].getD i 0) (fun i => [0, c1].getD i 0) :=
    { d_frac := ⟨_, fun_mk l_0 e_0 kp_0⟩,
      d_draw := ⟨_, fun_mk l_1 e_1 kp_1⟩,
      d_pick := ⟨_, fun_mk l_2 e_2 kp_2⟩,
      d_drawn := ⟨_, fun_mk l_3 e_3 kp_3⟩,
      d_common_divisor := ⟨_, fun_mk l_4 e_4 kp_4⟩,
      d_is_integer := ⟨_, fun_mk l_5 e_5 kp_5⟩,
      d_Ratio_init := funD_mk l_6 e_6 kp_6 lt_6 (by simp) (.cons ⟨_, rfl⟩ .nil),
      d_Ratio_neg := ⟨_, fun_mk l_7 e_7 kp_7⟩,
      d_Ratio_str := ⟨_, fun_mk l_8 e_8 kp_8⟩,
      d_are_figures := ⟨_, fun_mk l_9 e_9 kp_9⟩,
      d_Ratio_read := ⟨_, fun_mk l_10 e_10 kp_10⟩,
      d_parts_of := ⟨_, fun_mk l_11 e_11 kp_11⟩,
      d_Ratio_of := ⟨_, fun_mk l_12 e_12 kp_12⟩,
      d_text := ⟨_, fun_mk l_13 e_13 kp_13⟩,
      d_made := ⟨_, fun_mk l_14 e_14 kp_14⟩,
      d_side := ⟨_, fun_mk l_15 e_15 kp_15⟩,
      d_Ratio_add := ⟨_, fun_mk l_16 e_16 kp_16⟩,
      d_Ratio_radd := ⟨_, fun_mk l_17 e_17 kp_17⟩,
      d_plus := ⟨_, fun_mk l_18 e_18 kp_18⟩,
      d_Ratio_top := ⟨_, fun_mk l_19 e_19 kp_19⟩,
      d_Ratio_bottom := ⟨_, fun_mk l_20 e_20 kp_20⟩,
      d_told := ⟨_, fun_mk l_21 e_21 kp_21⟩,
      d_Ratio_sub := ⟨_, fun_mk l_22 e_22 kp_22⟩,
      d_Ratio_rsub := ⟨_, fun_mk l_23 e_23 kp_23⟩,
      d_less := ⟨_, fun_mk l_24 e_24 kp_24⟩,
      d_Ratio_mul := ⟨_, fun_mk l_25 e_25 kp_25⟩,
      d_Ratio_rmul := ⟨_, fun_mk l_26 e_26 kp_26⟩,
      d_times := ⟨_, fun_mk l_27 e_27 kp_27⟩,
      d_Ratio_over := ⟨_, fun_mk l_28 e_28 kp_28⟩,
      d_Ratio_floordiv := ⟨_, fun_mk l_29 e_29 kp_29⟩,
      d_Ratio_rfloordiv := ⟨_, fun_mk l_30 e_30 kp_30⟩,
      d_Ratio_mod := ⟨_, fun_mk l_31 e_31 kp_31⟩,
      d_Ratio_rmod := ⟨_, fun_mk l_32 e_32 kp_32⟩,
      d_floor := ⟨_, fun_mk l_33 e_33 kp_33⟩,
      d_rest := ⟨_, fun_mk l_34 e_34 kp_34⟩,
      d_Ratio_abs := ⟨_, fun_mk l_35 e_35 kp_35⟩,
      d_register_right := ⟨_, fun_mk l_36 e_36 kp_36⟩,
      d_sums_right := ⟨_, fun_mk l_37 e_37 kp_37⟩,
      d_Ratio_floor := ⟨_, fun_mk l_38 e_38 kp_38⟩,
      d_are_integers := ⟨_, fun_mk l_39 e_39 kp_39⟩,
      d_quotients_right := ⟨_, fun_mk l_40 e_40 kp_40⟩,
      d_Ratio_compare := ⟨_, fun_mk l_41 e_41 kp_41⟩,
      d_Ratio_eq := ⟨_, fun_mk l_42 e_42 kp_42⟩,
      d_order_right := ⟨_, fun_mk l_43 e_43 kp_43⟩,
      d_in_place_right := ⟨_, fun_mk l_44 e_44 kp_44⟩,
      d_Ratio_ceiling := ⟨_, fun_mk l_45 e_45 kp_45⟩,
      d_Ratio_repr := ⟨_, fun_mk l_46 e_46 kp_46⟩,
      d_alone_right := ⟨_, fun_mk l_47 e_47 kp_47⟩,
      d_right := ⟨_, fun_mk l_48 e_48 kp_48⟩,
      d_pot := ⟨_, fun_mk l_49 e_49 kp_49⟩,
      d_law := ⟨_, fun_mk l_50 e_50 kp_50⟩,
      g_FIGURES := ⟨_, g_FIGURES⟩,
      g_Ratio := gc_1,
      g__law_alone_right := g__law_alone_right,
      g__law_are_integers := g__law_are_integers,
      g__law_draw := g__law_draw,
      g__law_drawn := g__law_drawn,
      g__law_floor := g__law_floor,
      g__law_frac := g__law_frac,
      g__law_in_place_right := g__law_in_place_right,
      g__law_less := g__law_less,
      g__law_made := g__law_made,
      g__law_order_right := g__law_order_right,
      g__law_pick := g__law_pick,
      g__law_plus := g__law_plus,
      g__law_pot := g__law_pot,
      g__law_quotients_right := g__law_quotients_right,
      g__law_register_right := g__law_register_right,
      g__law_rest := g__law_rest,
      g__law_right := g__law_right,
      g__law_side := g__law_side,
      g__law_sums_right := g__law_sums_right,
      g__law_text := g__law_text,
      g__law_times := g__law_times,
      g__law_told := g__law_told,
      g_abs := g_abs,
      g_all := g_all,
      g_are_figures := g_are_figures,
      g_bool := g_bool,
      g_common_divisor := g_common_divisor,
      g_divmod := g_divmod,
      g_int := g_int,
      g_is_integer := g_is_integer,
      g_isinstance := g_isinstance,
      g_len := g_len,
      g_max := g_max,
      g_min := g_min,
      g_parts_of := g_parts_of,
      g_range := g_range,
      g_repr := g_repr,
      g_str := g_str,
      g_law := g_law,
      c_1 := ⟨c_1_pg, c_1_hd, c_1_po, c_1_sa⟩,
      mk_1 := ⟨mk_1_m, mk_1_i, mk_1_f, mk_1_k⟩,
      m_1_init := ⟨m_1_init_a, m_1_init_f, m_1_init_k⟩,
      m_1_add := ⟨m_1_add_a, m_1_add_f, m_1_add_k⟩,
      m_1_radd := ⟨m_1_radd_a, m_1_radd_f, m_1_radd_k⟩,
      m_1_sub := ⟨m_1_sub_a, m_1_sub_f, m_1_sub_k⟩,
      m_1_rsub := ⟨m_1_rsub_a, m_1_rsub_f, m_1_rsub_k⟩,
      m_1_mul := ⟨m_1_mul_a, m_1_mul_f, m_1_mul_k⟩,
      m_1_rmul := ⟨m_1_rmul_a, m_1_rmul_f, m_1_rmul_k⟩,
      m_1_floordiv := ⟨m_1_floordiv_a, m_1_floordiv_f, m_1_floordiv_k⟩,
      m_1_rfloordiv := ⟨m_1_rfloordiv_a, m_1_rfloordiv_f, m_1_rfloordiv_k⟩,
      m_1_mod := ⟨m_1_mod_a, m_1_mod_f, m_1_mod_k⟩,
      m_1_rmod := ⟨m_1_rmod_a, m_1_rmod_f, m_1_rmod_k⟩,
      m_1_neg := ⟨m_1_neg_a, m_1_neg_f, m_1_neg_k⟩,
      m_1_abs := ⟨m_1_abs_a, m_1_abs_f, m_1_abs_k⟩,
      m_1_over := ⟨m_1_over_a, m_1_over_f, m_1_over_k⟩,
      m_1_compare := ⟨m_1_compare_a, m_1_compare_f, m_1_compare_k⟩,
      m_1_floor := ⟨m_1_floor_a, m_1_floor_f, m_1_floor_k⟩,
      m_1_ceiling := ⟨m_1_ceiling_a, m_1_ceiling_f, m_1_ceiling_k⟩,
      m_1_eq := ⟨m_1_eq_a, m_1_eq_f, m_1_eq_k⟩,
      m_1_str := ⟨m_1_str_a, m_1_str_f, m_1_str_k⟩,
      m_1_repr := ⟨m_1_repr_a, m_1_repr_f, m_1_repr_k⟩,
      p_1_top := ⟨_, p_1_top_a, p_1_top_g, p_1_top_t, _, p_1_top_r⟩,
      p_1_bottom := ⟨_, p_1_bottom_a, p_1_bottom_g, p_1_bottom_t, _, p_1_bottom_r⟩,
      k_1 := List.forall_mem_cons.mpr ⟨k_1_0, List.forall_mem_cons.mpr ⟨k_1_1, List.forall_mem_cons.mpr ⟨k_1_2, List.forall_mem_cons.mpr ⟨k_1_3, List.forall_mem_cons.mpr ⟨k_1_4, List.forall_mem_cons.mpr ⟨k_1_5, List.forall_mem_cons.mpr ⟨k_1_6, List.forall_mem_cons.mpr ⟨k_1_7, fun _ h => by cases h⟩⟩⟩⟩⟩⟩⟩⟩,
      ne_1 := ne_1,
      ob_1 := ob_1,
      sf_1 := sf_1,
      sb_1 := List.forall_mem_cons.mpr ⟨sb_1_NoneType, List.forall_mem_cons.mpr ⟨sb_1_bool, List.forall_mem_cons.mpr ⟨sb_1_int, List.forall_mem_cons.mpr ⟨sb_1_str, List.forall_mem_cons.mpr ⟨sb_1_list, List.forall_mem_cons.mpr ⟨sb_1_tuple, List.forall_mem_cons.mpr ⟨sb_1_dict, fun _ h => by cases h⟩⟩⟩⟩⟩⟩⟩,
      ni_1_add := noOne_of kc_1 km_1 ni_1_add_0 (by decide +kernel),
      ni_1_floordiv := noOne_of kc_1 km_1 ni_1_floordiv_0 (by decide +kernel),
      ni_1_mod := noOne_of kc_1 km_1 ni_1_mod_0 (by decide +kernel),
      ni_1_mul := noOne_of kc_1 km_1 ni_1_mul_0 (by decide +kernel),
      ni_1_sub := noOne_of kc_1 km_1 ni_1_sub_0 (by decide +kernel),
      sm_1_of := SMet.mk' sm_1_of_r sm_1_of_f sm_1_of_p sm_1_of_g,
      sm_1_read := SMet.mk' sm_1_read_r sm_1_read_f sm_1_read_p sm_1_read_g,
      n_1_own_bottom := n_1_own_bottom,
      n_1_own_top := n_1_own_top,
      isa := cfgOf_ok (List.forall_mem_cons.mpr ⟨isa_0, List.forall_mem_cons.mpr ⟨isa_1, List.forall_mem_cons.mpr ⟨isa_2, List.forall_mem_cons.mpr ⟨isa_3, List.forall_mem_cons.mpr ⟨isa_4, List.forall_mem_cons.mpr ⟨isa_5, List.forall_mem_cons.mpr ⟨isa_6, List.forall_mem_cons.mpr ⟨isa_7, List.forall_mem_cons.mpr ⟨isa_8, List.forall_mem_cons.mpr ⟨isa_9, List.forall_mem_cons.mpr ⟨isa_10, List.forall_mem_cons.mpr ⟨isa_11, List.forall_mem_cons.mpr ⟨isa_12, List.forall_mem_cons.mpr ⟨isa_13, List.forall_mem_cons.mpr ⟨isa_14, List.forall_mem_cons.mpr ⟨isa_15, List.forall_mem_cons.mpr ⟨isa_16, List.forall_mem_cons.mpr ⟨isa_17, List.forall_mem_cons.mpr ⟨isa_18, List.forall_mem_cons.mpr ⟨isa_19, List.forall_mem_cons.mpr ⟨isa_20, List.forall_mem_cons.mpr ⟨isa_21, List.forall_mem_cons.mpr ⟨isa_22, List.forall_mem_cons.mpr ⟨isa_23, List.forall_mem_cons.mpr ⟨isa_24, List.forall_mem_cons.mpr ⟨isa_25, List.forall_mem_cons.mpr ⟨isa_26, List.forall_mem_cons.mpr ⟨isa_27, List.forall_mem_cons.mpr ⟨isa_28, List.forall_mem_cons.mpr ⟨isa_29, List.forall_mem_cons.mpr ⟨isa_30, List.forall_mem_cons.mpr ⟨isa_31, fun _ h => by cases h⟩⟩⟩⟩⟩⟩⟩⟩⟩⟩⟩⟩⟩⟩⟩⟩⟩⟩⟩⟩⟩⟩⟩⟩⟩⟩⟩⟩⟩⟩⟩⟩) (List.forall_mem_cons.mpr ⟨⟨⟨c_1_pg, c_1_hd, c_1_po, c_1_sa⟩, cl_1, sp_class, tk_class, ob_1⟩, fun _ h => by cases h⟩) }
  exact ⟨_, fun base X1 G1 => ok_law T X1 G1⟩
end K11
set_option maxRecDepth 100000
set_option maxHeartbeats 4000000
namespace G
open PySem PySem.Spec PyProof.Rows L2

/-! ### mirrors run -/
section
variable {α β : Type} {δ δ' : DEnv}
@[simp] theorem bind_at (m : M α) (f : α → M β) : M.bind m f δ = (match m δ with | .ok a δ' => f a δ' | .exc x δ' => .exc x δ' | .bad => .bad) := rfl
@[simp] theorem pure_at (a : α) : M.pure a δ = .ok a δ := rfl
@[simp] theorem bad_at : (badM : M α) δ = .bad := rfl
@[simp] theorem lift_some (a : α) : lift (some a) δ = .ok a δ := rfl
@[simp] theorem lift_none : lift (none : Option α) δ = .bad := rfl
@[simp] theorem p1_m (m : M D) : (Opd.m m).p1 = m.bind fun d => M.pure (some d) := rfl
@[simp] theorem p1_s (i : Nat) : (Opd.s i).p1 = (pk i).bind fun _ => M.pure none := rfl
@[simp] theorem p2_m (m : M D) (d : D) : (Opd.m m).p2 (some d) = M.pure d := rfl
@[simp] theorem p2_s (i : Nat) : (Opd.s i).p2 none = pk i := rfl
@[simp] theorem pass_m (m : M D) (d : D) : (Opd.m m).pass (some d) = M.pure (.val d) := rfl
@[simp] theorem pass_s (i : Nat) : (Opd.s i).pass none = passI i := rfl
/-- what a slot says -/
def sdGet : Option SD → Option D
  | some (.val d) => some d
  | some (.own d) => some d
  | some (.arg d) => some d
  | some (.frz d) => some d
  | _ => none
@[simp] theorem pk_at (i : Nat) : pk i δ = lift (sdGet δ[i]?) δ := by
  unfold pk
  cases δ[i]? with
  | none => rfl
  | some sd => cases sd <;> rfl
@[simp] theorem sdGet_val (d : D) : sdGet (some (.val d)) = some d := rfl
@[simp] theorem sdGet_own (d : D) : sdGet (some (.own d)) = some d := rfl
@[simp] theorem sdGet_arg (d : D) : sdGet (some (.arg d)) = some d := rfl
@[simp] theorem sdGet_frz (d : D) : sdGet (some (.frz d)) = some d := rfl
theorem getV_val {i : Nat} {d : D} (h : δ[i]? = some (.val d)) : getV i δ = .ok d δ := by unfold getV; rw [h]
theorem getV_own {i : Nat} {d : D} (h : δ[i]? = some (.own d)) : getV i δ = .ok d (δ.set i (.val d)) := by unfold getV; rw [h]
theorem getV_arg {i : Nat} {d : D} (h : δ[i]? = some (.arg d)) : getV i δ = .ok d (δ.set i (.frz d)) := by unfold getV; rw [h]
theorem getV_frz {i : Nat} {d : D} (h : δ[i]? = some (.frz d)) : getV i δ = .ok d δ := by unfold getV; rw [h]
/-- calls: the new states of the slots, by recursion -/
def findS : List Opd → List SD → Nat → Option (Option SD)
  | [], _, _ => none
  | .s j :: os, rs, i => if i = j then some rs.head? else findS os rs.tail i
  | .m _ :: os, rs, i => findS os rs.tail i
def backF : Nat → List Opd → List SD → DEnv → DEnv
  | _, _, _, [] => []
  | i, os, rs, sd :: δ => (match findS os rs i with | some r => backSD sd r | none => sd) :: backF (i + 1) os rs δ
theorem findS_eq : ∀ (os : List Opd) (rs : List SD) (i : Nat), findS os rs i = (os.findIdx? (Opd.isS i)).map fun j => rs[j]?
  | [], _, _ => rfl
  | .s j :: os, rs, i => by
    rw [findS, List.findIdx?_cons]
    by_cases h : i = j
    · subst h
      have e : (Opd.s i).isS i = true := Opd.isS_iff.mpr rfl
      rw [if_pos rfl, e]
      cases rs <;> rfl
    · have e : (Opd.s j).isS i = false := by
        cases z : (Opd.s j).isS i with
        | false => rfl
        | true => exact absurd (by have := Opd.isS_iff.mp z; cases this; rfl) h
      rw [if_neg h, e, findS_eq os rs.tail i]
      simp only [Bool.false_eq_true, if_false, Option.map_map]
      congr 1
      funext j
      cases rs <;> simp
  | .m m :: os, rs, i => by
    rw [findS, List.findIdx?_cons]
    have e : (Opd.m m).isS i = false := rfl
    rw [e, findS_eq os rs.tail i]
    simp only [Bool.false_eq_true, if_false, Option.map_map]
    congr 1
    funext j
    cases rs <;> simp
theorem backF_get : ∀ (δ : DEnv) (n : Nat) (os : List Opd) (rs : List SD) (i : Nat), (backF n os rs δ)[i]? = (δ[i]?).map fun sd => match findS os rs (n + i) with | some r => backSD sd r | none => sd
  | [], _, _, _, i => by simp [backF]
  | sd :: δ, n, os, rs, 0 => by simp [backF]
  | sd :: δ, n, os, rs, i + 1 => by
    rw [backF, List.getElem?_cons_succ, backF_get δ (n + 1) os rs i, List.getElem?_cons_succ, show n + 1 + i = n + (i + 1) by omega]
@[simp] theorem back_eq (os : List Opd) (rs : List SD) : backAll os rs δ = backF 0 os rs δ := by
  apply List.ext_getElem?
  intro i
  rw [backF_get, Nat.zero_add]
  unfold backAll
  rw [List.getElem?_mapIdx, findS_eq]
  cases δ[i]? with
  | none => rfl
  | some sd => cases os.findIdx? (Opd.isS i) <;> rfl
/-- a block's states -/
def blkF : Nat → List Nat → DEnv → DEnv
  | _, _, [] => []
  | i, vs, sd :: δ => (if vs.contains i then SD.no else sd.lendB) :: blkF (i + 1) vs δ
def unF : Nat → List Nat → DEnv → DEnv → DEnv
  | _, _, [], _ => []
  | i, vs, sd :: δ, es => (if vs.contains i then sd else sd.backB es.head?) :: unF (i + 1) vs δ es.tail
theorem blkF_get : ∀ (δ : DEnv) (n : Nat) (vs : List Nat) (i : Nat), (blkF n vs δ)[i]? = (δ[i]?).map fun sd => if vs.contains (n + i) then SD.no else sd.lendB
  | [], _, _, i => by simp [blkF]
  | sd :: δ, n, vs, 0 => by simp [blkF]
  | sd :: δ, n, vs, i + 1 => by
    rw [blkF, List.getElem?_cons_succ, blkF_get δ (n + 1) vs i, List.getElem?_cons_succ, show n + 1 + i = n + (i + 1) by omega]
theorem unF_get : ∀ (δ es : DEnv) (n : Nat) (vs : List Nat) (i : Nat), (unF n vs δ es)[i]? = (δ[i]?).map fun sd => if vs.contains (n + i) then sd else sd.backB es[i]?
  | [], _, _, _, i => by simp [unF]
  | sd :: δ, es, n, vs, 0 => by cases es <;> simp [unF]
  | sd :: δ, es, n, vs, i + 1 => by
    rw [unF, List.getElem?_cons_succ, unF_get δ es.tail (n + 1) vs i, List.getElem?_cons_succ, show n + 1 + i = n + (i + 1) by omega]
    cases es <;> simp
@[simp] theorem blk_eq (vs : List Nat) : blkD vs δ = blkF 0 vs δ := by
  apply List.ext_getElem?
  intro i
  rw [blkF_get, Nat.zero_add]
  unfold blkD
  rw [List.getElem?_mapIdx]
@[simp] theorem un_eq (vs : List Nat) : unB vs δ δ' = unF 0 vs δ δ' := by
  apply List.ext_getElem?
  intro i
  rw [unF_get, Nat.zero_add]
  unfold unB
  rw [List.getElem?_mapIdx]
end
theorem shortS_of {n : Nat} (h : n ≤ 16777216) : shortS n = true := by
  unfold shortS
  rw [sizeLine_eq]
  exact decide_eq_true h
theorem okR_of {i : Int} (h1 : -1000000 ≤ i) (h2 : i ≤ 1000000) : okR i = true := by
  unfold okR
  exact decide_eq_true (by omega)

/-! ### loops -/
/-- a loop that is never left early -/
theorem forLoop_inv {t : D → M Unit} {b u : M Fl} (Inv : List D → DEnv → Prop) (step : ∀ d ds δ, Inv (d :: ds) δ → ∃ δ1 δ2, t d δ = .ok () δ1 ∧ (b δ1 = .ok .nx δ2 ∨ b δ1 = .ok .ct δ2) ∧ Inv ds δ2) :
    ∀ ds δ, Inv ds δ → ∃ δ', forLoop t b u ds δ = u δ' ∧ Inv [] δ'
  | [], δ, h => ⟨δ, rfl, h⟩
  | d :: ds, δ, h => by
    obtain ⟨δ1, δ2, h1, h2, h3⟩ := step d ds δ h
    obtain ⟨δ', h4, h5⟩ := forLoop_inv Inv step ds δ2 h3
    refine ⟨δ', ?_, h5⟩
    rw [forLoop]
    simp only [h1]
    rcases h2 with h2 | h2 <;> simp only [h2] <;> exact h4
theorem lcLoop_inv {vs : List Nat} {t : D → M Unit} {c : M Bool} {e : M D} (Inv : List D → List D → DEnv → Prop)
    (step : ∀ d ds acc δ, Inv (d :: ds) acc δ → ∃ r δ', lcTurn vs t c e d δ = .ok r δ' ∧ match r with | some y => acc.length < 16777216 ∧ Inv ds (acc ++ [y]) δ' | none => Inv ds acc δ') :
    ∀ ds acc δ, Inv ds acc δ → ∃ acc' δ', lcLoop vs t c e ds acc δ = .ok (.lst acc') δ' ∧ Inv [] acc' δ'
  | [], acc, δ, h => ⟨acc, δ, rfl, h⟩
  | d :: ds, acc, δ, h => by
    obtain ⟨r, δ1, h1, h2⟩ := step d ds acc δ h
    rw [lcLoop]
    simp only [bind_at, h1]
    cases r with
    | some y =>
      obtain ⟨h3, h4⟩ := h2
      simp only [shortS_of (show acc.length + 1 ≤ 16777216 by omega), if_true]
      exact lcLoop_inv Inv step ds (acc ++ [y]) δ1 h4
    | none => exact lcLoop_inv Inv step ds acc δ1 h2
/-- a comprehension that changes nothing -/
theorem lcLoop_map {vs : List Nat} {t : D → M Unit} {c : M Bool} {e : M D} {δ : DEnv} (g : D → Option D) : ∀ (ds acc : List D), (∀ d ∈ ds, lcTurn vs t c e d δ = .ok (g d) δ) → acc.length + ds.length ≤ 16777216 → lcLoop vs t c e ds acc δ = .ok (.lst (acc ++ ds.filterMap g)) δ
  | [], acc, _, _ => by simp [lcLoop]
  | d :: ds, acc, h, hl => by
    have h1 := h d List.mem_cons_self
    rw [List.length_cons] at hl
    rw [lcLoop]
    simp only [bind_at, h1]
    cases z : g d with
    | some y =>
      simp only [shortS_of (show acc.length + 1 ≤ 16777216 by omega), if_true]
      rw [lcLoop_map g ds (acc ++ [y]) (fun d hd => h d (List.mem_cons_of_mem _ hd)) (by simp; omega)]
      simp [z]
    | none =>
      simp only
      rw [lcLoop_map g ds acc (fun d hd => h d (List.mem_cons_of_mem _ hd)) (by omega)]
      simp [z]
theorem turn_eq {vs : List Nat} {t : D → M Unit} {c : M Bool} {e : M D} {d : D} {δ : DEnv} : lcTurn vs t c e d δ = (match ((t d).bind fun _ => c.bind fun b => if b = true then e.bind fun y => M.pure (some y) else M.pure none) (blkD vs δ) with
  | .ok r δ2 => .ok r (unB vs δ δ2)
  | _ => .bad) := rfl
end G
set_option maxRecDepth 100000
set_option maxHeartbeats 4000000
namespace G
open PySem PySem.Spec PyProof.Rows L2

/-! ### the mirrors at a state: every word once -/
section
variable {δ : DEnv}
@[simp] theorem seqS_at (a b : M Fl) : seqS a b δ = (match a δ with | .ok .nx δ' => b δ' | .ok .bk δ' => .ok .bk δ' | .ok .ct δ' => .ok .ct δ' | .ok (.rt r) δ' => .ok (.rt r) δ' | .exc x δ' => .exc x δ' | .bad => .bad) := by
  unfold seqS
  rw [bind_at]
  cases a δ with
  | ok f δ' => cases f <;> rfl
  | exc x δ' => rfl
  | bad => rfl
@[simp] theorem passS_at : passS δ = .ok .nx δ := rfl
@[simp] theorem exprS_at (m : M D) : exprS m δ = (m.bind fun _ => M.pure .nx) δ := rfl
@[simp] theorem retS_at (m : M D) : retS m δ = (m.bind fun d => M.pure (.rt (.val d))) δ := rfl
@[simp] theorem retO_at (m : M D) : retO m δ = (m.bind fun d => M.pure (.rt (.own d))) δ := rfl
@[simp] theorem retN_at : retN δ = .ok (.rt (.val .non)) δ := rfl
@[simp] theorem iffS_at (t : M Bool) (a b : M Fl) : iffS t a b δ = (match t δ with | .ok true δ' => a δ' | .ok false δ' => b δ' | .exc x δ' => .exc x δ' | .bad => .bad) := by
  unfold iffS
  rw [bind_at]
  cases t δ with
  | ok f δ' => cases f <;> rfl
  | exc x δ' => rfl
  | bad => rfl
@[simp] theorem ifM_at (t : M Bool) (a b : M D) : ifM t a b δ = (match t δ with | .ok true δ' => a δ' | .ok false δ' => b δ' | .exc x δ' => .exc x δ' | .bad => .bad) := by
  unfold ifM
  rw [bind_at]
  cases t δ with
  | ok f δ' => cases f <;> rfl
  | exc x δ' => rfl
  | bad => rfl
@[simp] theorem testM_at (m : M D) : testM m δ = (m.bind fun d => lift (asB d)) δ := rfl
@[simp] theorem asB_bl (b : Bool) : asB (.bl b) = some b := rfl
@[simp] theorem truthM_at (o : Opd) : truthM o δ = (o.p1.bind fun x => (o.p2 x).bind fun d => lift (truthD d)) δ := rfl
@[simp] theorem truthD_bl (b : Bool) : truthD (.bl b) = some b := rfl
@[simp] theorem truthD_int (b : Int) : truthD (.int b) = some (b != 0) := rfl
@[simp] theorem truthD_lst (b : List D) : truthD (.lst b) = some (!b.isEmpty) := rfl
@[simp] theorem truthD_tup (b : List D) : truthD (.tup b) = some (!b.isEmpty) := rfl
@[simp] theorem truthD_non : truthD .non = some false := rfl
@[simp] theorem andM_at (a b : M Bool) : G.andM a b δ = (match a δ with | .ok true δ' => b δ' | .ok false δ' => .ok false δ' | .exc x δ' => .exc x δ' | .bad => .bad) := by
  unfold G.andM
  rw [bind_at]
  cases a δ with
  | ok f δ' => cases f <;> rfl
  | exc x δ' => rfl
  | bad => rfl
@[simp] theorem orM_at (a b : M Bool) : G.orM a b δ = (match a δ with | .ok true δ' => .ok true δ' | .ok false δ' => b δ' | .exc x δ' => .exc x δ' | .bad => .bad) := by
  unfold G.orM
  rw [bind_at]
  cases a δ with
  | ok f δ' => cases f <;> rfl
  | exc x δ' => rfl
  | bad => rfl
@[simp] theorem notM_at (a : M Bool) : G.notM a δ = (a.bind fun c => M.pure (!c)) δ := rfl
@[simp] theorem andV_at (a b : M D) : andV a b δ = (a.bind fun d => (lift (truthD d)).bind fun c => if c = true then b else M.pure d) δ := rfl
@[simp] theorem orV_at (a b : M D) : orV a b δ = (a.bind fun d => (lift (truthD d)).bind fun c => if c = true then M.pure d else b) δ := rfl
@[simp] theorem notV_at (o : Opd) : notV o δ = (o.p1.bind fun x => (o.p2 x).bind fun d => (lift (truthD d)).bind fun c => M.pure (.bl (!c))) δ := rfl
@[simp] theorem binM_at (f : D → D → Option D) (a b : Opd) : binM f a b δ = (a.p1.bind fun x => b.p1.bind fun y => (a.p2 x).bind fun d => (b.p2 y).bind fun e => lift (f d e)) δ := rfl
@[simp] theorem unM_at (f : D → Option D) (a : Opd) : unM f a δ = (a.p1.bind fun x => (a.p2 x).bind fun d => lift (f d)) δ := rfl
@[simp] theorem binK_at (f : D → D → Option D) (a b : M D) : binK f a b δ = (a.bind fun d => b.bind fun e => lift (f d e)) δ := rfl
@[simp] theorem unK_at (f : D → Option D) (a : M D) : unK f a δ = (a.bind fun d => lift (f d)) δ := rfl
@[simp] theorem args1_nil : args1 [] δ = .ok [] δ := rfl
@[simp] theorem args1_cons (o : Opd) (os : List Opd) : args1 (o :: os) δ = (o.p1.bind fun x => (args1 os).bind fun xs => M.pure (x :: xs)) δ := rfl
@[simp] theorem args2_nil (xs : List (Option D)) : args2 [] xs δ = .ok [] δ := rfl
@[simp] theorem args2_cons (o : Opd) (os : List Opd) (x : Option D) (xs : List (Option D)) : args2 (o :: os) (x :: xs) δ = ((o.p2 x).bind fun d => (args2 os xs).bind fun ds => M.pure (d :: ds)) δ := rfl
@[simp] theorem callM_at (f : List D → Option D) (os : List Opd) : callM f os δ = ((args1 os).bind fun xs => (args2 os xs).bind fun ds => lift (f ds)) δ := rfl
@[simp] theorem evalC_nil : evalC [] δ = .ok [] δ := rfl
@[simp] theorem evalC_cons (m : M D) (ms : List (M D)) : evalC (m :: ms) δ = (m.bind fun d => (evalC ms).bind fun ds => M.pure (d :: ds)) δ := rfl
@[simp] theorem callKM_at (f : List D → Option D) (ms : List (M D)) : callKM f ms δ = ((evalC ms).bind fun ds => lift (f ds)) δ := rfl
@[simp] theorem tupM_at (ms : List (M D)) : tupM ms δ = ((evalC ms).bind fun ds => if shortS ds.length then M.pure (.tup ds) else badM) δ := rfl
@[simp] theorem lstM_at (ms : List (M D)) : lstM ms δ = ((evalC ms).bind fun ds => if shortS ds.length then M.pure (.lst ds) else badM) δ := rfl
@[simp] theorem ite_at {α : Type} (c : Prop) [Decidable c] (a b : M α) : (if c then a else b) δ = if c then a δ else b δ := by split <;> rfl
@[simp] theorem passAll_nil : passAll [] [] δ = .ok [] δ := rfl
@[simp] theorem passAll_cons (o : Opd) (os : List Opd) (x : Option D) (xs : List (Option D)) : passAll (o :: os) (x :: xs) δ = ((o.pass x).bind fun d => (passAll os xs).bind fun ds => M.pure (d :: ds)) δ := rfl
@[simp] theorem passI_at (i : Nat) : passI i δ = (match δ[i]? with | some (.val d) => .ok (.val d) δ | some (.own d) => .ok (.own d) δ | some (.arg d) => .ok (.own d) δ | some (.frz d) => .ok (.val d) δ | _ => .bad) := rfl
@[simp] theorem callS_at (f : List SD → R SD) (os : List Opd) : callS f os δ = ((args1 os).bind fun xs => (passAll os xs).bind fun sds => runC f os sds) δ := rfl
@[simp] theorem runC_at (f : List SD → R SD) (os : List Opd) (sds : List SD) : runC f os sds δ = (match f sds with | .ok r rs => .ok r (backAll os rs δ) | .exc x rs => .exc x (backAll os rs δ) | .bad => .bad) := rfl
@[simp] theorem keptR_at (m : M SD) : keptR m δ = (m.bind keptV) δ := rfl
@[simp] theorem ownR_at (m : M SD) : ownR m δ = (m.bind ownV) δ := rfl
@[simp] theorem keptV_val (d : D) : keptV (.val d) = M.pure d := rfl
@[simp] theorem keptV_own (d : D) : keptV (.own d) = M.pure d := rfl
@[simp] theorem ownV_own (d : D) : ownV (.own d) = M.pure d := rfl
@[simp] theorem makeS_at (c : Nat) (f : List SD → R SD) (os : List Opd) : makeS c f os δ = ((args1 os).bind fun xs => (passAll os xs).bind fun sds => runMk f c os sds) δ := rfl
@[simp] theorem makeKS_at (c : Nat) (f : List SD → R SD) (ix : List Nat) (ds : List D) (os : List Opd) : makeKS c f ix ds os δ = ((args1 os).bind fun xs => (passAll os xs).bind fun sds => runMk f c (permL ix (os ++ dOps ds)) (permL ix (sds ++ ds.map SD.val))) δ := rfl
@[simp] theorem runMk_at (f : List SD → R SD) (c : Nat) (os : List Opd) (sds : List SD) : runMk f c os sds δ = (match f (.own (.obj c []) :: sds) with | .ok (.val .non) (r :: rs) => .ok r (backAll os rs δ) | .exc x (_ :: rs) => .exc x (backAll os rs δ) | _ => .bad) := rfl
@[simp] theorem callN1_at (f : List SD → R SD) (m : M D) : callN1 f m δ = (m.bind (runN1 f)) δ := rfl
@[simp] theorem runN1_at (f : List SD → R SD) (d : D) : runN1 f d δ = (match f [.own d] with | .ok r _ => .ok r δ | .exc x _ => .exc x δ | .bad => .bad) := rfl
def SD.free : SD → Bool
  | .no => true
  | .val _ => true
  | .own _ => true
  | _ => false
def freeO : Option SD → Bool
  | some sd => sd.free
  | none => false
@[simp] theorem freeO_some (sd : SD) : freeO (some sd) = sd.free := rfl
@[simp] theorem free_no : SD.no.free = true := rfl
@[simp] theorem free_val (d : D) : (SD.val d).free = true := rfl
@[simp] theorem free_own (d : D) : (SD.own d).free = true := rfl
@[simp] theorem storeM_at (i : Nat) (d : D) : storeM i d δ = if freeO δ[i]? = true then .ok () (δ.set i (.val d)) else .bad := by
  unfold storeM
  cases δ[i]? with
  | none => rfl
  | some sd => cases sd <;> rfl
@[simp] theorem storeN_at (i : Nat) (d : D) : storeN i d δ = if freeO δ[i]? = true then .ok () (δ.set i (.own d)) else .bad := by
  unfold storeN
  cases δ[i]? with
  | none => rfl
  | some sd => cases sd <;> rfl
@[simp] theorem setS_at (i : Nat) (m : M D) : setS i m δ = (m.bind fun d => (storeM i d).bind fun _ => M.pure .nx) δ := rfl
@[simp] theorem setN_at (i : Nat) (m : M D) : setN i m δ = (m.bind fun d => (storeN i d).bind fun _ => M.pure .nx) δ := rfl
@[simp] theorem getV_at (i : Nat) : getV i δ = (match δ[i]? with | some (.val d) => .ok d δ | some (.own d) => .ok d (δ.set i (.val d)) | some (.arg d) => .ok d (δ.set i (.frz d)) | some (.frz d) => .ok d δ | _ => .bad) := rfl
@[simp] theorem retV_at (i : Nat) : retV i δ = (match δ[i]? with | some (.val d) => .ok (.rt (.val d)) δ | some (.own d) => .ok (.rt (.own d)) δ | some (.arg d) => .ok (.rt (.val d)) (δ.set i (.frz d)) | some (.frz d) => .ok (.rt (.val d)) δ | _ => .bad) := by
  unfold retV
  cases δ[i]? with
  | none => rfl
  | some sd => cases sd <;> rfl
@[simp] theorem asgS_at (m : M D) (t : D → M Unit) : asgS m t δ = (m.bind fun d => (t d).bind fun _ => M.pure .nx) δ := rfl
@[simp] theorem gTupM_at (n : Nat) (t : List D → M Unit) (ds : List D) : gTupM n t (.tup ds) = if ds.length = n then t ds else badM := rfl
@[simp] theorem gsNil_at : gsNil [] = M.pure () := rfl
@[simp] theorem gsCons_at (t : D → M Unit) (u : List D → M Unit) (d : D) (ds : List D) : gsCons t u (d :: ds) = (t d).bind fun _ => u ds := rfl
@[simp] theorem unitM_at (m : M D) : unitM m δ = (m.bind fun _ => M.pure ()) δ := rfl
@[simp] theorem subT_at (f : D → D → D → Option D) (i : Nat) (o : Opd) (d : D) : subT f i o d δ = ((pk i).bind fun _ => o.p1.bind fun x => (o.p2 x).bind fun kd => unitM (mutI (fun c => (f c kd d).map fun c' => (c', .non)) i)) δ := rfl
@[simp] theorem mutI_at (f : D → Option (D × D)) (i : Nat) : mutI f i δ = (match δ[i]? with
  | some (.own d) => (match f d with | some (d', e) => .ok e (δ.set i (.own d')) | none => .bad)
  | some (.arg d) => (match f d with | some (d', e) => .ok e (δ.set i (.arg d')) | none => .bad)
  | _ => .bad) := rfl
@[simp] theorem mutM_at (T : String) (f : D → List D → Option (D × D)) (i : Nat) (ms : List (M D)) : mutM T f i ms δ = ((pk i).bind fun d0 => if kindD T d0 then (evalC ms).bind fun ds => mutI (fun d => f d ds) i else badM) δ := rfl
@[simp] theorem fldS_at (cs : List Nat) (n : String) (i : Nat) (m : M D) : fldS cs n i m δ = (m.bind fun d => (mutI (fldU cs n d) i).bind fun _ => M.pure .nx) δ := rfl
@[simp] theorem attrM_at (n : String) (tab : List (Nat × Acc)) (o : Opd) : attrM n tab o δ = (o.p1.bind fun x => (o.p2 x).bind fun d => match d with | .obj c fs => accM n o x fs (tab.lookup c) | _ => badM) δ := rfl
@[simp] theorem accM_fld (n : String) (o : Opd) (x : Option D) (fs : List (String × D)) : accM n o x fs (some .fld) = lift (fs.lookup n) := rfl
@[simp] theorem accM_prop (n : String) (o : Opd) (x : Option D) (fs : List (String × D)) (fn : List SD → R SD) : accM n o x fs (some (.prop fn)) = keptR ((o.pass x).bind fun sd => runC (quietF fn) [o] [sd]) := rfl
@[simp] theorem methM_at (n : String) (tab : List (Nat × (List SD → R SD))) (o : Opd) (os : List Opd) : methM n tab o os δ = (o.p1.bind fun x => (o.p2 x).bind fun d => match d with
  | .obj c fs => (match tab.lookup c with
    | some fn => if (fs.lookup n).isNone then (args1 os).bind fun xs => (passAll (o :: os) (x :: xs)).bind fun sds => runC fn (o :: os) sds else badM
    | none => badM)
  | _ => badM) δ := rfl
@[simp] theorem joinM_nil (acc : Str) : joinM [] acc δ = .ok (.str acc) δ := rfl
@[simp] theorem joinM_cons (m : M D) (ms : List (M D)) (acc : Str) : joinM (m :: ms) acc δ = (m.bind fun d => match d with | .str y => (if shortS (acc ++ y).length then joinM ms (acc ++ y) else badM) | _ => badM) δ := rfl
@[simp] theorem joinSM_at (a m : M D) : joinSM a m δ = (a.bind fun d => match d with | .str s => m.bind fun b => lift (joinD (.str s) b) | _ => badM) δ := rfl
@[simp] theorem slM_at (f : D → Option Int → Option Int → Option D) (o : Opd) (lo hi : Option Opd) : slM f o lo hi δ = (o.p1.bind fun x => (partM lo).bind fun l => (partM hi).bind fun u => (o.p2 x).bind fun d => lift (f d l u)) δ := rfl
@[simp] theorem partM_none : partM none δ = .ok none δ := rfl
@[simp] theorem partM_some (o : Opd) : partM (some o) δ = (o.p1.bind fun x => (o.p2 x).bind fun d => match d with | .int i => M.pure (some i) | _ => badM) δ := rfl
@[simp] theorem chainM_at (f f' : D → D → Option D) (a b c : Opd) : chainM f f' a b c δ = (a.p1.bind fun x => b.p1.bind fun y => (a.p2 x).bind fun dx => (b.p2 y).bind fun dy => (lift (f dx dy)).bind fun z => (lift (asB z)).bind fun k =>
  if k = true then c.p1.bind fun u => (b.p2 y).bind fun dy => (c.p2 u).bind fun dz => lift (f' dy dz) else M.pure (.bl false)) δ := rfl
@[simp] theorem forS_at (m : M (List D)) (t : D → M Unit) (b u : M Fl) : forS m t b u δ = (m.bind fun ds => forLoop t b u ds) δ := rfl
@[simp] theorem lcM_at (vs : List Nat) (mi : M (List D)) (t : D → M Unit) (c : M Bool) (e : M D) : lcM vs mi t c e δ = (mi.bind fun ds => lcLoop vs t c e ds []) δ := rfl
@[simp] theorem itM_at (m : M D) : itM m δ = (m.bind fun d => lift (itsD d)) δ := rfl
@[simp] theorem itsD_lst (xs : List D) : itsD (.lst xs) = some xs := rfl
@[simp] theorem itsD_tup (xs : List D) : itsD (.tup xs) = some xs := rfl
@[simp] theorem rng1M_at (o : Opd) : rng1M o δ = (o.p1.bind fun x => (o.p2 x).bind fun d => match d with | .int j => (if okR j then M.pure (rangeL 0 j) else badM) | _ => badM) δ := rfl
@[simp] theorem enumM_at (m : M D) : enumM m δ = (m.bind fun d => (lift (listsOf d)).bind fun xs => M.pure (enumL 0 xs)) δ := by rw [enumM_eq]
@[simp] theorem listsOf_lst (xs : List D) : listsOf (.lst xs) = some xs := rfl
@[simp] theorem parS_at (cs : List (Bool × M D)) (is : List Nat) : parS cs is δ = ((parE cs).bind fun sds => (parT is sds).bind fun _ => M.pure .nx) δ := rfl
@[simp] theorem parE_nil : parE [] δ = .ok [] δ := rfl
@[simp] theorem parE_cons (b : Bool) (m : M D) (r : List (Bool × M D)) : parE ((b, m) :: r) δ = ((evalB m).bind fun d => (parE r).bind fun ds => M.pure (mkSD b d :: ds)) δ := rfl
@[simp] theorem mkSD_t (d : D) : mkSD true d = .own d := rfl
@[simp] theorem mkSD_f (d : D) : mkSD false d = .val d := rfl
@[simp] theorem evalB_at (m : M D) : evalB m δ = (match m (blkD [] δ) with | .ok r δ2 => .ok r (unB [] δ δ2) | .exc x δ2 => .exc x (unB [] δ δ2) | .bad => .bad) := rfl
@[simp] theorem parT_nil : parT [] [] δ = .ok () δ := rfl
@[simp] theorem parT_cons (i : Nat) (is : List Nat) (d : SD) (ds : List SD) : parT (i :: is) (d :: ds) δ = ((storeT i d).bind fun _ => parT is ds) δ := rfl
@[simp] theorem storeT_v (i : Nat) (d : D) : storeT i (.val d) = storeM i d := rfl
@[simp] theorem storeT_o (i : Nat) (d : D) : storeT i (.own d) = storeN i d := rfl
end
@[simp] theorem runF_at (np n : Nat) (b : M Fl) (sds : List SD) : runF np n b sds = if sds.length = np then (match b (sds.map SD.lend ++ List.replicate (n - np) .no) with
    | .ok (.rt r) δ => .ok r ((δ.take np).map SD.back)
    | .ok .nx δ => .ok (.val .non) ((δ.take np).map SD.back)
    | .ok _ _ => .bad
    | .exc x δ => .exc x ((δ.take np).map SD.back)
    | .bad => .bad) else .bad := rfl
@[simp] theorem lend_own (d : D) : (SD.own d).lend = .arg d := rfl
@[simp] theorem lend_val (d : D) : (SD.val d).lend = .val d := rfl
@[simp] theorem back_arg (d : D) : (SD.arg d).back = .own d := rfl
@[simp] theorem back_val (d : D) : (SD.val d).back = .val d := rfl
@[simp] theorem back_frz (d : D) : (SD.frz d).back = .val d := rfl
@[simp] theorem backSD1 (d e : D) : backSD (.own d) (some (.own e)) = .own e := rfl
@[simp] theorem backSD2 (d e : D) : backSD (.own d) (some (.val e)) = .val e := rfl
@[simp] theorem backSD3 (d e : D) : backSD (.arg d) (some (.own e)) = .arg e := rfl
@[simp] theorem backSD4 (d e : D) : backSD (.arg d) (some (.val e)) = .frz e := rfl
@[simp] theorem backSD5 (d : D) (r : Option SD) : backSD (.val d) r = .val d := by cases r <;> rfl
@[simp] theorem backSD6 (d : D) (r : Option SD) : backSD (.frz d) r = .frz d := by cases r <;> rfl
@[simp] theorem lendB1 (d : D) : (SD.own d).lendB = .arg d := rfl
@[simp] theorem lendB2 (d : D) : (SD.arg d).lendB = .arg d := rfl
@[simp] theorem lendB3 (d : D) : (SD.val d).lendB = .val d := rfl
@[simp] theorem lendB4 (d : D) : (SD.frz d).lendB = .val d := rfl
@[simp] theorem lendB5 : SD.no.lendB = .no := rfl
@[simp] theorem backB1 (d e : D) : (SD.own d).backB (some (.arg e)) = .own e := rfl
@[simp] theorem backB2 (d e : D) : (SD.own d).backB (some (.frz e)) = .val e := rfl
@[simp] theorem backB3 (d e : D) : (SD.arg d).backB (some (.arg e)) = .arg e := rfl
@[simp] theorem backB4 (d e : D) : (SD.arg d).backB (some (.frz e)) = .frz e := rfl
@[simp] theorem backB5 (d : D) (r : Option SD) : (SD.val d).backB r = .val d := by cases r <;> rfl
@[simp] theorem backB6 (d : D) (r : Option SD) : (SD.frz d).backB r = .frz d := by cases r <;> rfl
@[simp] theorem backB7 (r : Option SD) : SD.no.backB r = .no := by cases r <;> rfl
@[simp] theorem findS_nil (rs : List SD) (i : Nat) : findS [] rs i = none := rfl
@[simp] theorem findS_s (j : Nat) (os : List Opd) (rs : List SD) (i : Nat) : findS (.s j :: os) rs i = if i = j then some rs.head? else findS os rs.tail i := rfl
@[simp] theorem findS_m (m : M D) (os : List Opd) (rs : List SD) (i : Nat) : findS (.m m :: os) rs i = findS os rs.tail i := rfl
@[simp] theorem backF_nil (i : Nat) (os : List Opd) (rs : List SD) : backF i os rs [] = [] := rfl
@[simp] theorem backF_cons (i : Nat) (os : List Opd) (rs : List SD) (sd : SD) (δ : DEnv) : backF i os rs (sd :: δ) = (match findS os rs i with | some r => backSD sd r | none => sd) :: backF (i + 1) os rs δ := rfl
@[simp] theorem blkF_nil (i : Nat) (vs : List Nat) : blkF i vs [] = [] := rfl
@[simp] theorem blkF_cons (i : Nat) (vs : List Nat) (sd : SD) (δ : DEnv) : blkF i vs (sd :: δ) = (if vs.contains i then SD.no else sd.lendB) :: blkF (i + 1) vs δ := rfl
@[simp] theorem unF_nil (i : Nat) (vs : List Nat) (es : DEnv) : unF i vs [] es = [] := rfl
@[simp] theorem unF_cons (i : Nat) (vs : List Nat) (sd : SD) (δ es : DEnv) : unF i vs (sd :: δ) es = (if vs.contains i then sd else sd.backB es.head?) :: unF (i + 1) vs δ es.tail := rfl
@[simp] theorem permL_nil {α : Type} (l : List α) : permL [] l = [] := rfl
@[simp] theorem permL_cons {α : Type} (i : Nat) (ix : List Nat) (l : List α) : permL (i :: ix) l = (match l[i]? with | some x => x :: permL ix l | none => permL ix l) := by
  unfold permL
  rw [List.filterMap_cons]
  cases l[i]? <;> rfl
@[simp] theorem dOps_nil : dOps [] = [] := rfl
@[simp] theorem quietF_at (f : List SD → R SD) (sds : List SD) : quietF f sds = (match f sds with | .ok r rs => .ok r rs | _ => .bad) := rfl
@[simp] theorem fnV_at (f : List SD → R SD) (ds : List D) : fnV f ds = (match f (ds.map SD.val) with | .ok (.val d) _ => some d | .ok (.own d) _ => some d | _ => none) := rfl

/-- a slot that is empty or holds a kept value -/
def SD.pl : SD → Bool
  | .no => true
  | .val _ => true
  | _ => false
@[simp] theorem pl_no : SD.no.pl = true := rfl
@[simp] theorem pl_val (d : D) : (SD.val d).pl = true := rfl
theorem lendB_pl {sd : SD} (h : sd.pl = true) : sd.lendB = sd := by cases sd <;> first | rfl | cases h
theorem backB_pl {sd : SD} (h : sd.pl = true) (r : Option SD) : sd.backB r = sd := by cases sd <;> first | (cases r <;> rfl) | cases h
theorem backSD_pl {sd : SD} (h : sd.pl = true) (r : Option SD) : backSD sd r = sd := by cases sd <;> first | (cases r <;> rfl) | cases h
theorem free_pl {sd : SD} (h : sd.pl = true) : sd.free = true := by cases sd <;> first | rfl | cases h

/-! ### whole numbers -/
@[simp] theorem addA_int (i j : Int) : addA (.int i) (.int j) = some (.int (i + j)) := rfl
@[simp] theorem subD_int (i j : Int) : subD (.int i) (.int j) = some (.int (i - j)) := rfl
theorem log2_small {i : Int} (h1 : -(2 ^ 64) < i) (h2 : i < 2 ^ 64) : i.natAbs.log2 < 64 := by
  by_cases h : i.natAbs = 0
  · rw [h]; decide
  · rw [Nat.log2_lt h]
    omega
theorem mulA_int {i j : Int} (h1 : -(2 ^ 64) < i) (h2 : i < 2 ^ 64) (h3 : -(2 ^ 64) < j) (h4 : j < 2 ^ 64) : mulA (.int i) (.int j) = some (.int (i * j)) := by
  unfold mulA orD mulD
  have : mulOk i j = true := decide_eq_true (by have := log2_small h1 h2; have := log2_small h3 h4; omega)
  simp [this]
theorem divOk_of {j : Int} (h1 : 0 < j) (h2 : j < 2 ^ 64) : divOk j = true := decide_eq_true ⟨by omega, by have := log2_small (i := j) (by omega) h2; omega⟩
theorem modD_int {i j : Int} (h : 0 < j) : modD (.int i) (.int j) = some (.int (i % j)) := by
  unfold modD
  simp only
  rw [if_pos (by omega), Int.fmod_eq_emod_of_nonneg _ (by omega)]
theorem fdivD_int {i j : Int} (h1 : 0 < j) (h2 : j < 2 ^ 64) : fdivD (.int i) (.int j) = some (.int (i / j)) := by
  unfold fdivD
  simp only
  rw [divOk_of h1 h2, if_pos rfl, Int.fdiv_eq_ediv_of_nonneg _ (by omega)]
theorem divmodD_int {i j : Int} (h1 : 0 < j) (h2 : j < 2 ^ 64) : divmodD [.int i, .int j] = some (.tup [.int (i / j), .int (i % j)]) := by
  unfold divmodD
  simp only
  rw [divOk_of h1 h2, decide_eq_true h1]
  rfl
theorem powD_int {i j : Int} (h1 : 0 ≤ j) (h2 : j ≤ 1000000) (h3 : i.natAbs < 2 ^ 64) : powD (.int i) (.int j) = some (.int (i ^ j.toNat)) := by
  unfold powD
  simp only
  rw [show powOk i j = true from decide_eq_true ⟨h1, h2, h3⟩, if_pos rfl]
@[simp] theorem intD_int (i : Int) : G.intD [.int i] = some (.int i) := rfl
@[simp] theorem absD_int (i : Int) : absD [.int i] = some (.int (if i < 0 then -i else i)) := rfl
@[simp] theorem maxD_int (i j : Int) : maxD [.int i, .int j] = some (.int (if j > i then j else i)) := rfl
@[simp] theorem minD_int (i j : Int) : minD [.int i, .int j] = some (.int (if j < i then j else i)) := rfl
@[simp] theorem negD_int (i : Int) : negD (.int i) = some (.int (-i)) := rfl
@[simp] theorem gtD_int (i j : Int) : gtD (.int i) (.int j) = some (.bl (decide (j < i))) := by
  unfold gtD gtP
  simp [toP, PySem.W.alike, PyData.depth, noneP, PySem.W.dataLt_int]
@[simp] theorem ltD_int (i j : Int) : ltD (.int i) (.int j) = some (.bl (decide (i < j))) := by
  unfold ltD ltP
  simp [toP, PySem.W.alike, PyData.depth, noneP, PySem.W.dataLt_int]
@[simp] theorem leD_int (i j : Int) : leD (.int i) (.int j) = some (.bl (decide (i ≤ j))) := by
  unfold leD gtP
  simp [toP, PySem.W.alike, PyData.depth, noneP, PySem.W.dataLt_int]
  by_cases h : i ≤ j
  · simp [h]
  · simp [h]; omega
@[simp] theorem geD_int (i j : Int) : geD (.int i) (.int j) = some (.bl (decide (j ≤ i))) := by
  unfold geD ltP
  simp [toP, PySem.W.alike, PyData.depth, noneP, PySem.W.dataLt_int]
  by_cases h : j ≤ i
  · simp [h]
  · simp [h]; omega
@[simp] theorem eqD_int (i j : Int) : eqD (.int i) (.int j) = some (.bl (i == j)) := by
  unfold eqD eqP
  simp [toP, SeqAt.shaped, PyData.eqv, PyData.canLay0, PyData.depth]
@[simp] theorem neD_int (i j : Int) : neD (.int i) (.int j) = some (.bl (!(i == j))) := by
  unfold neD eqP
  simp [toP, SeqAt.shaped, PyData.eqv, PyData.canLay0, PyData.depth]
theorem eqD_str {i j : Str} (hi : PyData.strOk i = true) (hj : PyData.strOk j = true) : eqD (.str i) (.str j) = some (.bl (i == j)) := by
  unfold eqD eqP
  simp [toP, SeqAt.shaped, PyData.eqv, PyData.canLay0, PyData.depth, hi, hj]
theorem neD_str {i j : Str} (hi : PyData.strOk i = true) (hj : PyData.strOk j = true) : neD (.str i) (.str j) = some (.bl (!(i == j))) := by
  unfold neD eqP
  simp [toP, SeqAt.shaped, PyData.eqv, PyData.canLay0, PyData.depth, hi, hj]

/-! ### items -/
theorem atI_of {α : Type} {xs : List α} {i : Int} {x : α} (h : 0 ≤ i) (e : xs[i.toNat]? = some x) : atI xs i = some x := by
  have hl := (List.getElem?_eq_some_iff.mp e).1
  unfold atI ixN
  rw [if_pos h, if_pos (by omega)]
  exact e
@[simp] theorem ix0 (x : D) (xs : List D) : ixD (.lst (x :: xs)) (.int 0) = some x := atI_of (by omega) rfl
@[simp] theorem ix1 (x y : D) (xs : List D) : ixD (.lst (x :: y :: xs)) (.int 1) = some y := atI_of (by omega) rfl
@[simp] theorem ix2 (x y z : D) (xs : List D) : ixD (.lst (x :: y :: z :: xs)) (.int 2) = some z := atI_of (by omega) rfl
@[simp] theorem ixt0 (x : D) (xs : List D) : ixD (.tup (x :: xs)) (.int 0) = some x := atI_of (by omega) rfl
@[simp] theorem ixt1 (x y : D) (xs : List D) : ixD (.tup (x :: y :: xs)) (.int 1) = some y := atI_of (by omega) rfl
@[simp] theorem ixt2 (x y z : D) (xs : List D) : ixD (.tup (x :: y :: z :: xs)) (.int 2) = some z := atI_of (by omega) rfl
theorem ix_lst {xs : List D} {i : Int} {x : D} (h : 0 ≤ i) (e : xs[i.toNat]? = some x) : ixD (.lst xs) (.int i) = some x := atI_of h e
@[simp] theorem setL0 (x d : D) (xs : List D) : setLDD (.lst (x :: xs)) (.int 0) d = some (.lst (d :: xs)) := by
  unfold setLDD setLD ixN
  simp
@[simp] theorem setL1 (x y d : D) (xs : List D) : setLDD (.lst (x :: y :: xs)) (.int 1) d = some (.lst (x :: d :: xs)) := by
  have e : setLD (.lst (x :: y :: xs)) (.int 1) d = some (.lst (x :: d :: xs)) := by
    show (ixN (x :: y :: xs).length 1).map _ = _
    have : ixN (x :: y :: xs).length 1 = some 1 := by
      unfold ixN
      rw [if_pos (by omega), if_pos (by simp only [List.length_cons]; omega)]
      rfl
    rw [this]
    rfl
  unfold setLDD
  rw [e]
@[simp] theorem kind_lst (xs : List D) : kindD "list" (.lst xs) = true := rfl
theorem append_eq {xs : List D} {d : D} (h : xs.length < 16777216) : appendD (.lst xs) [d] = some (.lst (xs ++ [d]), .non) := by
  unfold appendD
  simp only
  rw [shortS_of (by omega), if_pos rfl]
@[simp] theorem lenD_lst (xs : List D) : lenD [.lst xs] = some (.int xs.length) := rfl
end G
set_option maxRecDepth 100000
set_option maxHeartbeats 4000000
namespace C
open PySem PySem.Spec PyProof.Rows L2 G
/-! the defs that nearly all laws share -/
def m_draw : M Fl :=
  (seqS (iffS (testM (binM gtD (.m (binM ixD (.s 0) (.m (M.pure (.int 0))))) (.m (M.pure (.int 0)))))
    (seqS (asgS (callM divmodD [(.m (binM ixD (.s 0) (.m (M.pure (.int 0))))), (.s 1)]) (gTupM 2 (gsCons (subT setLDD 0 (.m (M.pure (.int 0)))) (gsCons (storeM 2) gsNil))))
    (retV 2))
    passS)
    (seqS (asgS (binM modD (.m (callM intD [(.m (binM addA (.m (binM mulA (.m (binM ixD (.s 0) (.m (M.pure (.int 1))))) (.m (M.pure (.int 48271))))) (.m (M.pure (.int 12161)))))])) (.m (M.pure (.int 2147483587)))) (subT setLDD 0 (.m (M.pure (.int 1)))))
    (retS (binM modD (.m (callM intD [(.m (binM fdivD (.m (binM modD (.m (callM intD [(.m (binM mulA (.m (binM ixD (.s 0) (.m (M.pure (.int 1))))) (.m (binM ixD (.s 0) (.m (M.pure (.int 1)))))))])) (.m (M.pure (.int 2147483549))))) (.m (M.pure (.int 13)))))])) (.s 1)))))
def f_draw : List SD → R SD := runF 2 3 m_draw
def m_pot : M Fl :=
  (seqS (setS 2 (binM addA (.m (binM mulA (.m (M.pure (.int 29))) (.s 1))) (.m (M.pure (.int 8)))))
    (seqS (iffS (testM (binM ltD (.s 1) (.m (callM lenD [(.s 0)]))))
    (setS 2 (callM absD [(.m (binM ixD (.s 0) (.s 1)))]))
    passS)
    (retO (lstM [(callM maxD [(.m (M.pure (.int 0))), (.m (binM subD (.s 2) (.m (binM powD (.m (M.pure (.int 10))) (.m (M.pure (.int 18)))))))]), (binM addA (.m (binM modD (.m (binM mulA (.m (callM intD [(.m (binM addA (.m (binM modD (.m (callM intD [(.s 2)])) (.m (M.pure (.int 2147483549))))) (.m (M.pure (.int 7)))))])) (.m (binM powD (.m (binM addA (.m (binM mulA (.m (M.pure (.int 2))) (.s 1))) (.m (M.pure (.int 3))))) (.m (M.pure (.int 3))))))) (.m (M.pure (.int 2147483477))))) (.m (M.pure (.int 1))))]))))
def f_pot : List SD → R SD := runF 2 3 m_pot
def m_named : M Fl :=
  (seqS (parS [(false, (M.pure (.str "abcdefghijklmnopqrstuvwxyz"))), (true, (lstM []))] [3, 4])
    (seqS (forS (rng1M (.s 1)) (storeM 5)
    (seqS (setS 6 (joinSM (M.pure (.str "")) (lcM [8] (rng1M (.m (binM addA (.m (M.pure (.int 1))) (.m (keptR (callS f_draw [(.s 0), (.m (M.pure (.int 3)))])))))) (storeM 8) (M.pure true) (binM ixD (.s 3) (.m (keptR (callS f_draw [(.s 0), (.m (M.pure (.int 26)))])))))))
    (seqS (iffS (G.orM (testM (binM inD (.s 6) (.s 4))) (testM (binM inD (.s 6) (.s 2))))
    (seqS (setS 7 (lcM [8] (rng1M (.m (M.pure (.int 100)))) (storeM 8) (M.pure true) (binM addA (.m (binM addA (.s 6) (.m (binM ixD (.s 3) (.m (binM modD (.s 8) (.m (M.pure (.int 26))))))))) (.m (binM ixD (.s 3) (.m (binM fdivD (.s 8) (.m (M.pure (.int 26))))))))))
    (setS 6 (binM ixD (.m (lcM [9] (itM (getV 7)) (storeM 9) (G.andM (testM (binM notinD (.s 9) (.s 4))) (testM (binM notinD (.s 9) (.s 2)))) (getV 9))) (.m (M.pure (.int 0))))))
    passS)
    (exprS (mutM "list" appendD 4 [(getV 6)])))) passS)
    (retV 4)))
def f_named : List SD → R SD := runF 3 10 m_named
def pot (c s : Int) : D := .lst [.int c, .int s]
def PotOk (c s : Int) : Prop := 0 ≤ c ∧ 0 ≤ s ∧ s < 2147483587
theorem draw_ok {c s n : Int} (h : PotOk c s) (h1 : 0 < n) (h2 : n < 2 ^ 64) : ∃ d c' s', f_draw [.own (pot c s), .val (.int n)] = .ok (.val (.int d)) [.own (pot c' s'), .val (.int n)] ∧ 0 ≤ d ∧ d < n ∧ PotOk c' s' := by
  obtain ⟨hc, hs, hs2⟩ := h
  by_cases z : 0 < c
  · refine ⟨c % n, c / n, s, ?_, Int.emod_nonneg _ (by omega), Int.emod_lt_of_pos _ h1, Int.ediv_nonneg hc (by omega), hs, hs2⟩
    simp [f_draw, m_draw, pot, z, divmodD_int h1 (show n < 2 ^ 64 by omega)]
  · have e1 : mulA (.int s) (.int 48271) = some (.int (s * 48271)) := mulA_int (by omega) (by omega) (by omega) (by omega)
    have hs' : 0 ≤ (s * 48271 + 12161) % 2147483587 ∧ (s * 48271 + 12161) % 2147483587 < 2147483587 := ⟨Int.emod_nonneg _ (by omega), Int.emod_lt_of_pos _ (by omega)⟩
    have e2 : mulA (.int ((s * 48271 + 12161) % 2147483587)) (.int ((s * 48271 + 12161) % 2147483587)) = some (.int ((s * 48271 + 12161) % 2147483587 * ((s * 48271 + 12161) % 2147483587))) := mulA_int (by omega) (by omega) (by omega) (by omega)
    refine ⟨((s * 48271 + 12161) % 2147483587 * ((s * 48271 + 12161) % 2147483587)) % 2147483549 / 13 % n, c, (s * 48271 + 12161) % 2147483587, ?_, ?_, ?_, hc, hs'.1, hs'.2⟩
    · simp [f_draw, m_draw, pot, z, e1, e2, modD_int h1, modD_int (show (0 : Int) < 2147483587 by omega), modD_int (show (0 : Int) < 2147483549 by omega), fdivD_int (show (0 : Int) < 13 by omega) (show (13 : Int) < 2 ^ 64 by omega)]
    · exact Int.emod_nonneg _ (by omega)
    · exact Int.emod_lt_of_pos _ h1
@[simp] theorem scr_len (xs : List D) : lenD [.scr xs] = some (.int xs.length) := rfl
theorem ix_scr {xs : List D} {i : Int} {x : D} (h : 0 ≤ i) (e : xs[i.toNat]? = some x) : ixD (.scr xs) (.int i) = some x := atI_of h e
theorem pot_ok (ns : List Int) (k : Nat) (hk : k < 4) (hn : ns.length ≤ 63) : ∃ c s, f_pot [.val (scrD ns), .val (.int k)] = .ok (.own (pot c s)) [.val (scrD ns), .val (.int k)] ∧ PotOk c s := by
  have m1 : ∀ i j : Int, 0 ≤ i → i < 2 ^ 40 → 0 ≤ j → j < 2 ^ 40 → mulA (.int i) (.int j) = some (.int (i * j)) := fun i j a b c d => mulA_int (by omega) (by omega) (by omega) (by omega)
  have p1 : powD (.int 10) (.int 18) = some (.int (10 ^ 18)) := powD_int (by omega) (by omega) (by decide)
  have p2 : powD (.int (2 * (k : Int) + 3)) (.int 3) = some (.int ((2 * (k : Int) + 3) ^ 3)) := powD_int (by omega) (by omega) (by omega)
  have e1 := m1 29 k (by omega) (by omega) (by omega) (by omega)
  have e2 := m1 2 k (by omega) (by omega) (by omega) (by omega)
  have main : ∀ cell : Int, 0 ≤ cell → 0 ≤ (cell % 2147483549 + 7) * (2 * (k : Int) + 3) ^ 3 % 2147483477 + 1 ∧ (cell % 2147483549 + 7) * (2 * (k : Int) + 3) ^ 3 % 2147483477 + 1 < 2147483587 := fun cell h => by
    have h1 := Int.emod_nonneg ((cell % 2147483549 + 7) * (2 * (k : Int) + 3) ^ 3) (show (2147483477 : Int) ≠ 0 by omega)
    have h2 := Int.emod_lt_of_pos ((cell % 2147483549 + 7) * (2 * (k : Int) + 3) ^ 3) (show (0 : Int) < 2147483477 by omega)
    omega
  have e3 : ∀ cell : Int, mulA (.int (cell % 2147483549 + 7)) (.int ((2 * (k : Int) + 3) ^ 3)) = some (.int ((cell % 2147483549 + 7) * (2 * (k : Int) + 3) ^ 3)) := fun cell => by
    have h1 := Int.emod_nonneg cell (show (2147483549 : Int) ≠ 0 by omega)
    have h2 := Int.emod_lt_of_pos cell (show (0 : Int) < 2147483549 by omega)
    have h3 : ((2 * (k : Int) + 3) ^ 3) ≤ 1000 ∧ 0 ≤ ((2 * (k : Int) + 3) ^ 3) := by
      have : k = 0 ∨ k = 1 ∨ k = 2 ∨ k = 3 := by omega
      rcases this with rfl | rfl | rfl | rfl <;> decide
    exact m1 _ _ (by omega) (by omega) h3.2 (by omega)
  have md : ∀ i : Int, modD (.int i) (.int 2147483549) = some (.int (i % 2147483549)) := fun i => modD_int (by omega)
  have md2 : ∀ i : Int, modD (.int i) (.int 2147483477) = some (.int (i % 2147483477)) := fun i => modD_int (by omega)
  by_cases z : k < ns.length
  · refine ⟨if ns[k].natAbs - (10 ^ 18 : Int) > 0 then ns[k].natAbs - 10 ^ 18 else 0, _, ?_, ?_, main ns[k].natAbs (by omega)⟩
    · have ei : ixD (.scr (ns.map D.int)) (.int k) = some (.int ns[k]) := ix_scr (by omega) (by simp [z])
      have ea : (if ns[k] < 0 then -ns[k] else ns[k]) = (ns[k].natAbs : Int) := by split <;> omega
      simp [f_pot, m_pot, scrD, pot, e1, e2, e3, p1, p2, md, md2, z, ei, ea, shortS_of]
    · split <;> omega
  · refine ⟨if (29 * (k : Int) + 8) - (10 ^ 18 : Int) > 0 then (29 * (k : Int) + 8) - 10 ^ 18 else 0, _, ?_, ?_, main (29 * (k : Int) + 8) (by omega)⟩
    · simp [f_pot, m_pot, scrD, pot, e1, e2, e3, p1, p2, md, md2, z, shortS_of]
    · split <;> omega

/-! ### names -/
def lts : Str := "abcdefghijklmnopqrstuvwxyz"
theorem lts_at : ∀ j : Nat, j < 26 → lts.cps.toList[j]? = some (97 + j) := by
  have h : (List.range 26).all (fun j => lts.cps.toList[j]? == some (97 + j)) = true := by decide +kernel
  intro j hj
  have := List.all_eq_true.mp h j (List.mem_range.mpr hj)
  simpa using this
theorem lts_len : lts.length = 26 := by decide +kernel
/-- a text of small letters -/
def Low (x : Str) : Prop := ∀ c ∈ x.cps.toList, 97 ≤ c ∧ c < 123
theorem Low.ok {x : Str} (h : Low x) : PyData.strOk x = true := by
  unfold PyData.strOk
  rw [Array.all_eq_true']
  intro c hc
  have := h c (by simpa using hc)
  exact decide_eq_true (by omega)
def Nm (m : Nat) (x : Str) : Prop := Low x ∧ 1 ≤ x.length ∧ x.length ≤ m
theorem lts_ix {j : Int} (h : 0 ≤ j) (h2 : j < 26) : ixD (.str lts) (.int j) = some (.str ⟨#[97 + j.toNat]⟩) := by
  have e : atI lts.cps.toList j = some (97 + j.toNat) := atI_of h (lts_at _ (by omega))
  show (if shortS lts.length = true then (atI lts.cps.toList j).map fun c => D.str ⟨#[c]⟩ else none) = _
  rw [lts_len, shortS_of (by omega), if_pos rfl, e]
  rfl
theorem one_low {j : Nat} (h : j < 26) : Low ⟨#[97 + j]⟩ := fun c hc => by
  simp at hc
  omega
theorem app_low {x y : Str} (h : Low x) (h2 : Low y) : Low (x ++ y) := fun c hc => by
  have : c ∈ x.cps.toList ++ y.cps.toList := by
    have e : (x ++ y).cps.toList = x.cps.toList ++ y.cps.toList := by
      show (x.cps ++ y.cps).toList = _
      simp
    rw [← e]
    exact hc
  rcases List.mem_append.mp this with h3 | h3
  · exact h c h3
  · exact h2 c h3
theorem app_len (x y : Str) : (x ++ y).length = x.length + y.length := Str.length_append x y
theorem join_tl (ys : List Str) : (Txt.join Str.empty ys).cps.toList = (ys.map fun y => y.cps.toList).flatten := by
  have e : Txt.join Str.empty ys = Str.join Str.empty ys := StrLaws.glued_eq_join _ _
  rw [e]
  have := TL.tl_join Str.empty ys
  have e2 : ∀ ls : List (List Nat), TL.joinL [] ls = ls.flatten := fun ls => by
    induction ls with
    | nil => rfl
    | cons p r ih =>
      cases r with
      | nil => simp [TL.joinL]
      | cons q r => rw [TL.joinL, ih]; simp
  rw [show TL.tl Str.empty = [] from rfl, e2] at this
  exact this
/-- texts as data -/
def txD (ys : List Str) : List D := ys.map D.str
theorem strsOf_strD (ys : List Str) : strsOfD (txD ys) = some ys := by
  induction ys with
  | nil => rfl
  | cons y r ih =>
    show (strsOfD (txD r)).map (y :: ·) = _
    rw [ih]
    rfl
theorem toPs_strD (ys : List Str) : toPs (txD ys) = some (ys.map PyData.str) := by
  induction ys with
  | nil => rfl
  | cons y r ih =>
    show (match toP (.str y), toPs (txD r) with | some a, some b => some (a :: b) | _, _ => none) = _
    rw [ih]
    rfl
theorem canLay_strD {ys : List Str} (h : ∀ y ∈ ys, PyData.strOk y = true) : PyData.canLayAll0 (ys.map PyData.str) = true := by
  induction ys with
  | nil => rfl
  | cons y r ih =>
    show (PyData.canLay0 (.str y) && PyData.canLayAll0 (r.map PyData.str)) = true
    rw [ih fun z hz => h z (List.mem_cons_of_mem _ hz)]
    simp [PyData.canLay0, h y List.mem_cons_self]
theorem depth_strD (ys : List Str) : PyData.depthAll (ys.map PyData.str) ≤ 1 := by
  induction ys with
  | nil => decide
  | cons y r ih =>
    show max (PyData.depth (.str y)) (PyData.depthAll (r.map PyData.str)) ≤ 1
    exact Nat.max_le.mpr ⟨by rw [PyData.depth]; omega, ih⟩
theorem inP_strs {x : Str} {ys : List Str} (hx : PyData.strOk x = true) (h : ∀ y ∈ ys, PyData.strOk y = true) : inP (.str x) (.lst (txD ys)) = some (decide (x ∈ ys)) := by
  unfold inP
  have e1 : SeqAt.shaped (.str x) = true := by simp [SeqAt.shaped, PyData.canLay0, hx, PyData.depth]
  have e2 : SeqAt.shaped (.list (ys.map PyData.str)) = true := by
    have := depth_strD ys
    rw [SeqAt.shaped, Bool.and_eq_true]
    refine ⟨by rw [PyData.canLay0]; exact canLay_strD h, decide_eq_true ?_⟩
    rw [PyData.depth]
    omega
  simp only [toP, toPs_strD, e1, e2, Bool.and_self, if_true]
  congr 1
  rw [List.any_map, Bool.eq_iff_iff, List.any_eq_true, decide_eq_true_eq]
  constructor
  · rintro ⟨y, hy, e⟩
    simp [PyData.eqv] at e
    rw [← e]
    exact hy
  · intro hy
    exact ⟨x, hy, by simp [PyData.eqv]⟩
theorem inD_strs {x : Str} {ys : List Str} (hx : PyData.strOk x = true) (h : ∀ y ∈ ys, PyData.strOk y = true) : inD (.str x) (.lst (txD ys)) = some (.bl (decide (x ∈ ys))) := by
  unfold inD
  rw [inP_strs hx h]
  rfl
theorem notinD_strs {x : Str} {ys : List Str} (hx : PyData.strOk x = true) (h : ∀ y ∈ ys, PyData.strOk y = true) : notinD (.str x) (.lst (txD ys)) = some (.bl (!decide (x ∈ ys))) := by
  unfold notinD
  rw [inP_strs hx h]
  rfl
end C
set_option maxRecDepth 100000
set_option maxHeartbeats 4000000
namespace C
open PySem PySem.Spec PyProof.Rows L2 G
/-- the slots of _law_named -/
def nst (c s n : Int) (T Fd : D) (s5 s6 s7 s8 s9 : SD) : DEnv := [.arg (pot c s), .val (.int n), .val T, .val (.str lts), .own Fd, s5, s6, s7, s8, s9]
section
variable {c s n : Int} {T Fd : D} {s5 s6 s7 s8 s9 : SD}
theorem lab_turn (h : PotOk c s) (h5 : s5.pl = true) (h6 : s6.pl = true) (h7 : s7.pl = true) (h8 : s8.pl = true) (h9 : s9.pl = true) (d : D) : ∃ (j : Nat) (c' s' : Int), j < 26 ∧ PotOk c' s' ∧
    lcTurn [8] (storeM 8) (M.pure true) (binM ixD (.s 3) (.m (keptR (callS f_draw [(.s 0), (.m (M.pure (.int 26)))])))) d (nst c s n T Fd s5 s6 s7 s8 s9) = .ok (some (.str ⟨#[97 + j]⟩)) (nst c' s' n T Fd s5 s6 s7 s8 s9) := by
  obtain ⟨j, c', s', e, j1, j2, p⟩ := draw_ok (n := 26) h (by omega) (by omega)
  refine ⟨j.toNat, c', s', by omega, p, ?_⟩
  have ei := lts_ix j1 j2
  simp [turn_eq, nst, lendB_pl h5, lendB_pl h6, lendB_pl h7, lendB_pl h8, lendB_pl h9, backB_pl h5, backB_pl h6, backB_pl h7, backB_pl h8, backB_pl h9, backSD_pl h5, backSD_pl h6, backSD_pl h7, backSD_pl h9, e, ei]
theorem lab_list {m : Nat} (hm : m ≤ 1000) (h : PotOk c s) (h5 : s5.pl = true) (h6 : s6.pl = true) (h7 : s7.pl = true) (h8 : s8.pl = true) (h9 : s9.pl = true) : ∃ (ys : List Str) (c' s' : Int), ys.length = m ∧ (∀ y ∈ ys, Low y ∧ y.length = 1) ∧ PotOk c' s' ∧
    lcLoop [8] (storeM 8) (M.pure true) (binM ixD (.s 3) (.m (keptR (callS f_draw [(.s 0), (.m (M.pure (.int 26)))])))) (rangeL 0 m) [] (nst c s n T Fd s5 s6 s7 s8 s9) = .ok (.lst (txD ys)) (nst c' s' n T Fd s5 s6 s7 s8 s9) := by
  have hl : (rangeL 0 (m : Int)).length = m := by simp [rangeL]
  obtain ⟨acc, δ', e, ys, c', s', rfl, rfl, h1, h2, h3⟩ := lcLoop_inv (vs := [8]) (t := storeM 8) (c := M.pure true) (e := binM ixD (.s 3) (.m (keptR (callS f_draw [(.s 0), (.m (M.pure (.int 26)))]))))
    (fun ds acc δ => ∃ (ys : List Str) (c s : Int), acc = txD ys ∧ δ = nst c s n T Fd s5 s6 s7 s8 s9 ∧ ys.length + ds.length = m ∧ (∀ y ∈ ys, Low y ∧ y.length = 1) ∧ PotOk c s)
    (fun d ds acc δ => by
      rintro ⟨ys, c, s, rfl, rfl, h1, h2, h3⟩
      obtain ⟨j, c', s', hj, p, e⟩ := lab_turn (n := n) (T := T) (Fd := Fd) h3 h5 h6 h7 h8 h9 d
      rw [List.length_cons] at h1
      refine ⟨_, _, e, by simp [txD]; omega, ys ++ [⟨#[97 + j]⟩], c', s', by simp [txD], rfl, by simp; omega, fun y hy => ?_, p⟩
      rcases List.mem_append.mp hy with hy | hy
      · exact h2 y hy
      · simp at hy
        subst hy
        exact ⟨one_low hj, rfl⟩)
    (rangeL 0 m) [] _ ⟨[], c, s, rfl, rfl, by simp [hl], fun y hy => by simp at hy, h⟩
  exact ⟨ys, c', s', by simpa using h1, h2, h3, e⟩
theorem sum_ones : ∀ {ys : List Str}, (∀ y ∈ ys, y.length = 1) → (ys.map (·.length)).sum = ys.length
  | [], _ => rfl
  | y :: r, h => by
    rw [List.map_cons, List.sum_cons, h y List.mem_cons_self, sum_ones fun z hz => h z (List.mem_cons_of_mem _ hz), List.length_cons]
    omega
theorem empty_eq : (Str.ofString "" : Str) = Str.empty := by decide +kernel
theorem join_low {ys : List Str} (h : ∀ y ∈ ys, Low y ∧ y.length = 1) (hl : ys.length ≤ 1000) : ∃ x, joinD (.str Str.empty) (.lst (txD ys)) = some (.str x) ∧ Low x ∧ x.length = ys.length := by
  have e0 : Str.empty.length = 0 := rfl
  refine ⟨Txt.join Str.empty ys, ?_, fun c hc => ?_, ?_⟩
  · show ((strsOfD (txD ys)).bind fun zs => if decide ((zs.map (·.length)).sum + zs.length * Str.empty.length ≤ 16777216) then some (D.str (Txt.join Str.empty zs)) else none) = _
    rw [strsOf_strD]
    show (if decide ((ys.map (·.length)).sum + ys.length * Str.empty.length ≤ 16777216) = true then some (D.str (Txt.join Str.empty ys)) else none) = _
    rw [if_pos]
    rw [sum_ones fun y hy => (h y hy).2, e0]
    exact decide_eq_true (by omega)
  · rw [join_tl] at hc
    obtain ⟨l, hl1, hl2⟩ := List.mem_flatten.mp hc
    obtain ⟨y, hy, rfl⟩ := List.mem_map.mp hl1
    exact (h y hy).1 c hl2
  · have e : (Txt.join Str.empty ys).length = (Txt.join Str.empty ys).cps.toList.length := by simp [Str.length]
    rw [e, join_tl]
    clear e hl
    induction ys with
    | nil => rfl
    | cons y r ih =>
      rw [List.map_cons, List.flatten_cons, List.length_append, ih fun z hz => h z (List.mem_cons_of_mem _ hz), List.length_cons]
      have := (h y List.mem_cons_self).2
      have e : y.cps.toList.length = y.length := by simp [Str.length]
      omega
/-! the spare labels -/
def spareT (y : Str) (d : D) : Option D := match d with
  | .int i => some (.str (y ++ ⟨#[97 + (i % 26).toNat]⟩ ++ ⟨#[97 + (i / 26).toNat]⟩))
  | _ => none
theorem addA_str {x y : Str} (h : x.length + y.length ≤ 16777216) : addA (.str x) (.str y) = some (.str (x ++ y)) := by
  show orD addD catD _ _ = _
  unfold orD addD
  simp only [shortS_of h, if_true]
theorem spare_turn {y : Str} {i : Int} (hy : y.length ≤ 1000) (h0 : 0 ≤ i) (h1 : i < 100) (h5 : s5.pl = true) (h7 : s7.pl = true) (h8 : s8.pl = true) (h9 : s9.pl = true) :
    lcTurn [8] (storeM 8) (M.pure true) (binM addA (.m (binM addA (.s 6) (.m (binM ixD (.s 3) (.m (binM modD (.s 8) (.m (M.pure (.int 26))))))))) (.m (binM ixD (.s 3) (.m (binM fdivD (.s 8) (.m (M.pure (.int 26)))))))) (.int i) (nst c s n T Fd s5 (.val (.str y)) s7 s8 s9) =
      .ok (spareT y (.int i)) (nst c s n T Fd s5 (.val (.str y)) s7 s8 s9) := by
  have e1 := lts_ix (Int.emod_nonneg i (show (26 : Int) ≠ 0 by omega)) (Int.emod_lt_of_pos i (show (0 : Int) < 26 by omega))
  have e2 : ixD (.str lts) (.int (i / 26)) = _ := lts_ix (j := i / 26) (by omega) (by omega)
  have a1 : addA (.str y) (.str ⟨#[97 + (i % 26).toNat]⟩) = some (.str (y ++ ⟨#[97 + (i % 26).toNat]⟩)) := addA_str (by simp [Str.length]; have : y.cps.size = y.length := rfl; omega)
  have a2 : addA (.str (y ++ ⟨#[97 + (i % 26).toNat]⟩)) (.str ⟨#[97 + (i / 26).toNat]⟩) = some (.str (y ++ ⟨#[97 + (i % 26).toNat]⟩ ++ ⟨#[97 + (i / 26).toNat]⟩)) := addA_str (by rw [app_len]; simp [Str.length]; have : y.cps.size = y.length := rfl; omega)
  simp [turn_eq, nst, lendB_pl h5, lendB_pl h7, lendB_pl h8, lendB_pl h9, backB_pl h5, backB_pl h7, backB_pl h8, backB_pl h9, modD_int (show (0 : Int) < 26 by omega), fdivD_int (show (0 : Int) < 26 by omega) (show (26 : Int) < 2 ^ 64 by omega), e1, e2, a1, a2, spareT]
def spare1 (y : Str) (i : Nat) : Str := y ++ ⟨#[97 + i % 26]⟩ ++ ⟨#[97 + i / 26]⟩
def spares (y : Str) : List Str := (List.range 100).map (spare1 y)
theorem spare_list {y : Str} (hy : y.length ≤ 1000) (h5 : s5.pl = true) (h7 : s7.pl = true) (h8 : s8.pl = true) (h9 : s9.pl = true) :
    lcLoop [8] (storeM 8) (M.pure true) (binM addA (.m (binM addA (.s 6) (.m (binM ixD (.s 3) (.m (binM modD (.s 8) (.m (M.pure (.int 26))))))))) (.m (binM ixD (.s 3) (.m (binM fdivD (.s 8) (.m (M.pure (.int 26)))))))) (rangeL 0 100) [] (nst c s n T Fd s5 (.val (.str y)) s7 s8 s9) =
      .ok (.lst (txD (spares y))) (nst c s n T Fd s5 (.val (.str y)) s7 s8 s9) := by
  rw [lcLoop_map (spareT y) (rangeL 0 100) [] (fun d hd => ?_) (by simp [rangeL])]
  · congr 2
  · unfold rangeL at hd
    obtain ⟨i, hi, rfl⟩ := List.mem_map.mp hd
    have := List.mem_range.mp hi
    exact spare_turn hy (by omega) (by omega) h5 h7 h8 h9
theorem spare1_tl (y : Str) (i : Nat) : (spare1 y i).cps.toList = y.cps.toList ++ [97 + i % 26, 97 + i / 26] := by
  show ((y.cps ++ #[97 + i % 26]) ++ #[97 + i / 26]).toList = _
  simp
theorem spare_inj {y : Str} {i j : Nat} (h : spare1 y i = spare1 y j) : i = j := by
  have e : (spare1 y i).cps.toList = (spare1 y j).cps.toList := by rw [h]
  rw [spare1_tl, spare1_tl] at e
  have e2 := List.append_cancel_left e
  simp at e2
  omega
theorem spares_nodup (y : Str) : (spares y).Nodup := by
  unfold spares
  rw [List.nodup_iff_pairwise_ne, List.pairwise_map]
  exact List.nodup_range.imp fun h e => h (spare_inj e)
theorem spare_low {y z : Str} (h : Low y) (hz : z ∈ spares y) : Low z ∧ z.length = y.length + 2 := by
  obtain ⟨i, hi, rfl⟩ := List.mem_map.mp hz
  have hi := List.mem_range.mp hi
  refine ⟨fun ch hc => ?_, ?_⟩
  · rw [spare1_tl] at hc
    rcases List.mem_append.mp hc with hc | hc
    · exact h ch hc
    · simp at hc
      omega
  · have e : ∀ x : Str, x.length = x.cps.toList.length := fun x => by simp [Str.length]
    rw [e, e, spare1_tl]
    simp
/-- among enough different texts one is in neither list -/
theorem nodup_le {α : Type} [DecidableEq α] : ∀ {zs ws : List α}, zs.Nodup → (∀ z ∈ zs, z ∈ ws) → zs.length ≤ ws.length
  | [], _, _, _ => Nat.zero_le _
  | z :: r, ws, hn, h => by
    have hz := h z List.mem_cons_self
    have hr := nodup_le (zs := r) (ws := ws.erase z) (List.nodup_cons.mp hn).2 fun y hy => (List.mem_erase_of_ne (show y ≠ z from fun e => (List.nodup_cons.mp hn).1 (by rw [← e]; exact hy))).mpr (h y (List.mem_cons_of_mem _ hy))
    rw [List.length_erase_of_mem hz] at hr
    have := List.length_pos_of_mem hz
    rw [List.length_cons]
    omega
theorem some_free {zs xs ys : List Str} (hn : zs.Nodup) (hl : xs.length + ys.length < zs.length) : (zs.filter fun z => !decide (z ∈ xs) && !decide (z ∈ ys)) ≠ [] := by
  intro e
  have h : ∀ z ∈ zs, z ∈ xs ++ ys := fun z hz => by
    have := List.filter_eq_nil_iff.mp e z hz
    simp at this
    rw [List.mem_append]
    by_cases h : z ∈ xs
    · exact .inl h
    · exact .inr (this h)
  have := nodup_le hn h
  rw [List.length_append] at this
  omega
def freeT (xs ys : List Str) (d : D) : Option D := match d with
  | .str z => if !decide (z ∈ xs) && !decide (z ∈ ys) then some (.str z) else none
  | _ => none
theorem free_turn {z : Str} {xs ys : List Str} (hz : PyData.strOk z = true) (hx : ∀ y ∈ xs, PyData.strOk y = true) (hy : ∀ y ∈ ys, PyData.strOk y = true) (h5 : s5.pl = true) (h6 : s6.pl = true) (h7 : s7.pl = true) (h8 : s8.pl = true) (h9 : s9.pl = true) :
    lcTurn [9] (storeM 9) (G.andM (testM (binM notinD (.s 9) (.s 4))) (testM (binM notinD (.s 9) (.s 2)))) (getV 9) (.str z) (nst c s n (.lst (txD ys)) (.lst (txD xs)) s5 s6 s7 s8 s9) = .ok (freeT xs ys (.str z)) (nst c s n (.lst (txD ys)) (.lst (txD xs)) s5 s6 s7 s8 s9) := by
  have e1 := notinD_strs hz hx
  have e2 := notinD_strs hz hy
  by_cases h1 : z ∈ xs
  · simp [turn_eq, nst, lendB_pl h5, lendB_pl h6, lendB_pl h7, lendB_pl h8, backB_pl h5, backB_pl h6, backB_pl h7, backB_pl h8, backB_pl h9, e1, e2, h1, freeT]
  · by_cases h2 : z ∈ ys
    · simp [turn_eq, nst, lendB_pl h5, lendB_pl h6, lendB_pl h7, lendB_pl h8, backB_pl h5, backB_pl h6, backB_pl h7, backB_pl h8, backB_pl h9, e1, e2, h1, h2, freeT]
    · simp [turn_eq, nst, lendB_pl h5, lendB_pl h6, lendB_pl h7, lendB_pl h8, backB_pl h5, backB_pl h6, backB_pl h7, backB_pl h8, backB_pl h9, e1, e2, h1, h2, freeT]
theorem free_list {xs ys zs : List Str} (hz : ∀ z ∈ zs, PyData.strOk z = true) (hl : zs.length ≤ 1000) (hx : ∀ y ∈ xs, PyData.strOk y = true) (hy : ∀ y ∈ ys, PyData.strOk y = true) (h5 : s5.pl = true) (h6 : s6.pl = true) (h7 : s7.pl = true) (h8 : s8.pl = true) (h9 : s9.pl = true) :
    lcLoop [9] (storeM 9) (G.andM (testM (binM notinD (.s 9) (.s 4))) (testM (binM notinD (.s 9) (.s 2)))) (getV 9) (txD zs) [] (nst c s n (.lst (txD ys)) (.lst (txD xs)) s5 s6 s7 s8 s9) =
      .ok (.lst (txD (zs.filter fun z => !decide (z ∈ xs) && !decide (z ∈ ys)))) (nst c s n (.lst (txD ys)) (.lst (txD xs)) s5 s6 s7 s8 s9) := by
  rw [lcLoop_map (freeT xs ys) (txD zs) [] (fun d hd => ?_) (by simp [txD]; omega)]
  · congr 2
    rw [List.nil_append]
    unfold txD
    rw [List.filterMap_map]
    induction zs with
    | nil => rfl
    | cons z r ih =>
      have ih := ih (fun z hz' => hz z (List.mem_cons_of_mem _ hz')) (by simp at hl; omega)
      rw [List.filterMap_cons, List.filter_cons]
      simp only [Function.comp_apply, freeT]
      cases h : (!decide (z ∈ xs) && !decide (z ∈ ys)) with
      | true => simp only [if_true, List.map_cons]; rw [ih]
      | false => simp only [Bool.false_eq_true, if_false]; exact ih
  · obtain ⟨z, hz', rfl⟩ := List.mem_map.mp hd
    exact free_turn (hz z hz') hx hy h5 h6 h7 h8 h9
def nbody : M Fl :=
    (seqS (setS 6 (joinSM (M.pure (.str "")) (lcM [8] (rng1M (.m (binM addA (.m (M.pure (.int 1))) (.m (keptR (callS f_draw [(.s 0), (.m (M.pure (.int 3)))])))))) (storeM 8) (M.pure true) (binM ixD (.s 3) (.m (keptR (callS f_draw [(.s 0), (.m (M.pure (.int 26)))])))))))
    (seqS (iffS (G.orM (testM (binM inD (.s 6) (.s 4))) (testM (binM inD (.s 6) (.s 2))))
    (seqS (setS 7 (lcM [8] (rng1M (.m (M.pure (.int 100)))) (storeM 8) (M.pure true) (binM addA (.m (binM addA (.s 6) (.m (binM ixD (.s 3) (.m (binM modD (.s 8) (.m (M.pure (.int 26))))))))) (.m (binM ixD (.s 3) (.m (binM fdivD (.s 8) (.m (M.pure (.int 26))))))))))
    (setS 6 (binM ixD (.m (lcM [9] (itM (getV 7)) (storeM 9) (G.andM (testM (binM notinD (.s 9) (.s 4))) (testM (binM notinD (.s 9) (.s 2)))) (getV 9))) (.m (M.pure (.int 0))))))
    passS)
    (exprS (mutM "list" appendD 4 [(getV 6)]))))
theorem m_named_eq : m_named = seqS (parS [(false, (M.pure (.str lts))), (true, (lstM []))] [3, 4]) (seqS (forS (rng1M (.s 1)) (storeM 5) nbody passS) (retV 4)) := rfl
theorem txD_app (xs : List Str) (x : Str) : txD xs ++ [.str x] = txD (xs ++ [x]) := by simp [txD]
theorem txD_len (xs : List Str) : (txD xs).length = xs.length := by simp [txD]
theorem nbody_ok {xs ys : List Str} (h : PotOk c s) (hl : xs.length + ys.length < 100) (hx : ∀ y ∈ xs, Nm 5 y) (hy : ∀ y ∈ ys, PyData.strOk y = true) (h5 : s5.pl = true) (h6 : s6.pl = true) (h7 : s7.pl = true) (h8 : s8.pl = true) (h9 : s9.pl = true) :
    ∃ (x : Str) (c' s' : Int) (s6' s7' : SD), Nm 5 x ∧ x ∉ xs ∧ x ∉ ys ∧ s6'.pl = true ∧ s7'.pl = true ∧ PotOk c' s' ∧
      nbody (nst c s n (.lst (txD ys)) (.lst (txD xs)) s5 s6 s7 s8 s9) = .ok .nx (nst c' s' n (.lst (txD ys)) (.lst (txD (xs ++ [x]))) s5 s6' s7' s8 s9) := by
  obtain ⟨d, c1, s1, e1, d1, d2, p1⟩ := draw_ok (n := 3) h (by omega) (by omega)
  have hm : ((d + 1).toNat : Int) = 1 + d := by omega
  obtain ⟨ls, c2, s2, l1, l2, p2, e2⟩ := lab_list (m := (d + 1).toNat) (n := n) (T := .lst (txD ys)) (Fd := .lst (txD xs)) (by omega) p1 h5 h6 h7 h8 h9
  obtain ⟨y, e3, y1, y2⟩ := join_low l2 (by omega)
  have yn : Nm 3 y := ⟨y1, by omega, by omega⟩
  have hxo : ∀ y ∈ xs, PyData.strOk y = true := fun y hy => (hx y hy).1.ok
  have i1 := inD_strs y1.ok hxo
  have i2 := inD_strs y1.ok hy
  have ap : ∀ z : Str, appendD (.lst (txD xs)) [.str z] = some (.lst (txD (xs ++ [z])), .non) := fun z => by
    rw [append_eq (by rw [txD_len]; omega), txD_app]
  have okr : okR (1 + d) = true := okR_of (by omega) (by omega)
  have hst1 : ∀ (c s : Int), nst c s n (.lst (txD ys)) (.lst (txD xs)) s5 s6 s7 s8 s9 = [.arg (pot c s), .val (.int n), .val (.lst (txD ys)), .val (.str lts), .own (.lst (txD xs)), s5, s6, s7, s8, s9] := fun _ _ => rfl
  rw [hm] at e2
  have step1 : ∀ rest : M Fl, seqS (setS 6 (joinSM (M.pure (.str "")) (lcM [8] (rng1M (.m (binM addA (.m (M.pure (.int 1))) (.m (keptR (callS f_draw [(.s 0), (.m (M.pure (.int 3)))])))))) (storeM 8) (M.pure true) (binM ixD (.s 3) (.m (keptR (callS f_draw [(.s 0), (.m (M.pure (.int 26)))]))))))) rest (nst c s n (.lst (txD ys)) (.lst (txD xs)) s5 s6 s7 s8 s9) =
      rest (nst c2 s2 n (.lst (txD ys)) (.lst (txD xs)) s5 (.val (.str y)) s7 s8 s9) := fun rest => by
    have e2' := e2
    simp only [hst1] at e2'
    simp [nst, e1, okr, e2', empty_eq, e3, backSD_pl h5, backSD_pl h6, backSD_pl h7, backSD_pl h8, backSD_pl h9, free_pl h6]
  unfold nbody
  rw [step1]
  by_cases g : y ∈ xs ∨ y ∈ ys
  · have hf := some_free (spares_nodup y) (xs := xs) (ys := ys) (by simpa [spares] using hl)
    have so : ∀ z ∈ spares y, PyData.strOk z = true := fun z hz => (spare_low y1 hz).1.ok
    have e4 := spare_list (c := c2) (s := s2) (n := n) (T := .lst (txD ys)) (Fd := .lst (txD xs)) (s5 := s5) (s7 := s7) (s8 := s8) (s9 := s9) (y := y) (by omega) h5 h7 h8 h9
    have e5 := free_list (c := c2) (s := s2) (n := n) (s5 := s5) (s6 := .val (.str y)) (s7 := .val (.lst (txD (spares y)))) (s8 := s8) (s9 := s9) (zs := spares y) so (by simp [spares]) hxo hy h5 rfl rfl h8 h9
    cases hz : (spares y).filter fun z => !decide (z ∈ xs) && !decide (z ∈ ys) with
    | nil => exact absurd hz hf
    | cons z r =>
      have hzm : z ∈ (spares y).filter fun z => !decide (z ∈ xs) && !decide (z ∈ ys) := by rw [hz]; exact List.mem_cons_self
      rw [List.mem_filter] at hzm
      obtain ⟨z1, z2⟩ := hzm
      simp at z2
      obtain ⟨z3, z4⟩ := spare_low y1 z1
      refine ⟨z, c2, s2, .val (.str z), .val (.lst (txD (spares y))), ⟨z3, by omega, by omega⟩, z2.1, z2.2, rfl, rfl, p2, ?_⟩
      rw [hz] at e5
      simp only [nst] at e4 e5
      have ix : ixD (.lst (txD (z :: r))) (.int 0) = some (.str z) := ix0 _ _
      by_cases g1 : y ∈ xs
      · simp [nst, i1, g1, okR_of, e4, e5, free_pl h7, ix, ap z]
      · have g2 : y ∈ ys := g.resolve_left g1
        simp [nst, i1, i2, g1, g2, okR_of, e4, e5, free_pl h7, ix, ap z]
  · have g1 : y ∉ xs := fun z => g (.inl z)
    have g2 : y ∉ ys := fun z => g (.inr z)
    refine ⟨y, c2, s2, .val (.str y), s7, ⟨y1, by omega, by omega⟩, g1, g2, rfl, h7, p2, ?_⟩
    simp [nst, i1, i2, g1, g2, ap y]
end
theorem named_loop {c s : Int} {m : Nat} {ys : List Str} (h : PotOk c s) (hl : m + ys.length ≤ 100) (hy : ∀ y ∈ ys, PyData.strOk y = true) :
    ∃ (xs : List Str) (c' s' : Int) (s5 s6 s7 : SD), forLoop (storeM 5) nbody passS (rangeL 0 m) (nst c s m (.lst (txD ys)) (.lst []) .no .no .no .no .no) = .ok .nx (nst c' s' m (.lst (txD ys)) (.lst (txD xs)) s5 s6 s7 .no .no) ∧
      xs.length = m ∧ (∀ x ∈ xs, Nm 5 x) ∧ xs.Nodup ∧ (∀ x ∈ xs, x ∉ ys) ∧ PotOk c' s' := by
  have hr : (rangeL 0 (m : Int)).length = m := by simp [rangeL]
  obtain ⟨δ', e, xs, c', s', s5, s6, s7, rfl, h1, h2, h3, h4, h5, _⟩ := forLoop_inv (t := storeM 5) (b := nbody) (u := passS)
    (fun ds δ => ∃ (xs : List Str) (c s : Int) (s5 s6 s7 : SD), δ = nst c s m (.lst (txD ys)) (.lst (txD xs)) s5 s6 s7 .no .no ∧ xs.length + ds.length = m ∧ (∀ x ∈ xs, Nm 5 x) ∧ xs.Nodup ∧ (∀ x ∈ xs, x ∉ ys) ∧ PotOk c s ∧ s5.pl = true ∧ s6.pl = true ∧ s7.pl = true)
    (fun d ds δ => by
      rintro ⟨xs, c, s, s5, s6, s7, rfl, h1, h2, h3, h4, p, h5, h6, h7⟩
      rw [List.length_cons] at h1
      obtain ⟨x, c', s', s6', s7', x1, x2, x3, g6, g7, p', e⟩ := nbody_ok (n := m) (s5 := .val d) (s8 := .no) (s9 := .no) p (by omega) h2 hy rfl h6 h7 rfl rfl
      refine ⟨nst c s m (.lst (txD ys)) (.lst (txD xs)) (.val d) s6 s7 .no .no, _, by simp [nst, free_pl h5], .inl e, xs ++ [x], c', s', _, _, _, rfl, by simp; omega, fun z hz => ?_, ?_, fun z hz => ?_, p', rfl, g6, g7⟩
      · rcases List.mem_append.mp hz with hz | hz
        · exact h2 z hz
        · simp at hz; subst hz; exact x1
      · rw [List.nodup_append]
        refine ⟨h3, by simp, fun a ha b hb => ?_⟩
        simp at hb
        subst hb
        exact fun e => x2 (e ▸ ha)
      · rcases List.mem_append.mp hz with hz | hz
        · exact h4 z hz
        · simp at hz; subst hz; exact x3)
    (rangeL 0 m) _ ⟨[], c, s, .no, .no, .no, rfl, by simp [hr], fun x hx => by simp at hx, .nil, fun x hx => by simp at hx, h, rfl, rfl, rfl⟩
  exact ⟨xs, c', s', s5, s6, s7, e, by simpa using h1, h2, h3, h4, h5⟩
end C
set_option maxRecDepth 100000
set_option maxHeartbeats 4000000
namespace C
open PySem PySem.Spec PyProof.Rows L2 G
theorem f_named_of {a a' b x y : D} {s5 s6 s7 s8 s9 : SD} {n : Int} {B : M Fl} (ok : okR n = true)
    (e : forLoop (storeM 5) B passS (rangeL 0 n) [.arg a, .val (.int n), .val b, .val x, .own (.lst []), .no, .no, .no, .no, .no] = .ok .nx [.arg a', .val (.int n), .val b, .val x, .own y, s5, s6, s7, s8, s9]) :
    runF 3 10 (seqS (parS [(false, (M.pure x)), (true, (lstM []))] [3, 4]) (seqS (forS (rng1M (.s 1)) (storeM 5) B passS) (retV 4))) [.own a, .val (.int n), .val b] = .ok (.own y) [.own a', .val (.int n), .val b] := by
  simp [ok, shortS_of, e]
theorem f_named_eq (us : List SD) : f_named us = runF 3 10 (seqS (parS [(false, (M.pure (.str lts))), (true, (lstM []))] [3, 4]) (seqS (forS (rng1M (.s 1)) (storeM 5) nbody passS) (retV 4))) us := by
  unfold f_named
  rw [m_named_eq]
theorem named_ok {c s : Int} {m : Nat} {ys : List Str} (h : PotOk c s) (hl : m + ys.length ≤ 100) (hy : ∀ y ∈ ys, PyData.strOk y = true) :
    ∃ (xs : List Str) (c' s' : Int), f_named [.own (pot c s), .val (.int m), .val (.lst (txD ys))] = .ok (.own (.lst (txD xs))) [.own (pot c' s'), .val (.int m), .val (.lst (txD ys))] ∧
      xs.length = m ∧ (∀ x ∈ xs, Nm 5 x) ∧ xs.Nodup ∧ (∀ x ∈ xs, x ∉ ys) ∧ PotOk c' s' := by
  obtain ⟨xs, c', s', s5, s6, s7, e, h1, h2, h3, h4, h5⟩ := named_loop h hl hy
  refine ⟨xs, c', s', ?_, h1, h2, h3, h4, h5⟩
  rw [f_named_eq]
  exact f_named_of (okR_of (by omega) (by omega)) e
end C
set_option maxRecDepth 100000
set_option maxHeartbeats 4000000
namespace C
open PySem PySem.Spec PyProof.Rows L2 G
/-! an insertion that counts how many are at most the new one -/
section
variable {α : Type} {O : KeyOrd} {t : α → O.α}
def leK (t : α → O.α) (a b : α) : Bool := !O.blt (t b) (t a)
theorem leK_trans {a b c : α} (h : leK t a b = true) (g : leK t b c = true) : leK t a c = true := by
  unfold leK at *
  rw [Bool.not_eq_true'] at *
  cases e : O.blt (t c) (t a) with
  | false => rfl
  | true =>
    rcases O.negTrans _ (t b) _ e with z | z
    · rw [g] at z; cases z
    · rw [h] at z; cases z
theorem leK_total (a b : α) : (leK t a b || leK t b a) = true := by
  unfold leK
  cases e : O.blt (t b) (t a) with
  | false => rfl
  | true =>
    have : O.blt (t a) (t b) = false := KeyOrd.klt_asymm e
    rw [this]
    rfl
theorem leK_anti (hi : ∀ a b, t a = t b → a = b) {a b : α} (h : leK t a b = true) (g : leK t b a = true) : a = b := by
  unfold leK at *
  rw [Bool.not_eq_true'] at *
  exact hi _ _ (O.total _ _ g h)
def insN (t : α → O.α) (acc : List α) (r : α) : List α :=
  let k := (acc.filter fun x => leK t x r).length
  acc.take k ++ [r] ++ acc.drop k
def insL (t : α → O.α) (r : α) : List α → List α
  | [] => [r]
  | x :: xs => if leK t x r = true then x :: insL t r xs else r :: x :: xs
theorem insN_eq (r : α) : ∀ {acc : List α}, acc.Pairwise (fun a b => leK t a b = true) → insN t acc r = insL t r acc
  | [], _ => rfl
  | x :: xs, h => by
    have hp := List.pairwise_cons.mp h
    have ih := insN_eq r hp.2
    unfold insN at ih ⊢
    unfold insL
    cases e : leK t x r with
    | true =>
      rw [if_pos rfl, List.filter_cons_of_pos (by simpa using e), ← ih]
      simp
    | false =>
      have : (xs.filter fun y => leK t y r) = [] := by
        rw [List.filter_eq_nil_iff]
        intro y hy hl
        have := leK_trans (hp.1 y hy) hl
        rw [e] at this
        cases this
      rw [List.filter_cons_of_neg (by simp [e]), this]
      simp
theorem insL_perm (r : α) : ∀ acc : List α, (insL t r acc).Perm (r :: acc)
  | [] => List.Perm.refl _
  | x :: xs => by
    unfold insL
    split
    · exact ((insL_perm r xs).cons x).trans (List.Perm.swap _ _ _)
    · exact List.Perm.refl _
theorem insL_sorted (r : α) : ∀ {acc : List α}, acc.Pairwise (fun a b => leK t a b = true) → (insL t r acc).Pairwise (fun a b => leK t a b = true)
  | [], _ => by unfold insL; simp
  | x :: xs, h => by
    have hp := List.pairwise_cons.mp h
    unfold insL
    split
    · rename_i e
      rw [List.pairwise_cons]
      refine ⟨fun y hy => ?_, insL_sorted r hp.2⟩
      rcases List.mem_cons.mp ((insL_perm r xs).mem_iff.mp hy) with rfl | hy
      · exact e
      · exact hp.1 y hy
    · rename_i e
      have e2 : leK t r x = true := by
        have := leK_total (t := t) x r
        cases z : leK t x r with
        | true => exact absurd z e
        | false => rw [z] at this; simpa using this
      rw [List.pairwise_cons]
      refine ⟨fun y hy => ?_, h⟩
      rcases List.mem_cons.mp hy with rfl | hy
      · exact e2
      · exact leK_trans e2 (hp.1 y hy)
theorem fold_ins : ∀ (rs acc : List α), acc.Pairwise (fun a b => leK t a b = true) → (rs.foldl (insN t) acc).Pairwise (fun a b => leK t a b = true) ∧ (rs.foldl (insN t) acc).Perm (rs ++ acc)
  | [], acc, h => ⟨h, List.Perm.refl _⟩
  | r :: rs, acc, h => by
    have h2 := insL_sorted r h
    rw [← insN_eq r h] at h2
    obtain ⟨a, b⟩ := fold_ins rs (insN t acc r) h2
    refine ⟨a, b.trans ?_⟩
    have : (insN t acc r).Perm (r :: acc) := by rw [insN_eq r h]; exact insL_perm r acc
    exact (this.append_left rs).trans List.perm_middle
theorem sorted_unique (hi : ∀ a b, t a = t b → a = b) : ∀ {xs ys : List α}, xs.Perm ys → xs.Pairwise (fun a b => leK t a b = true) → ys.Pairwise (fun a b => leK t a b = true) → xs = ys
  | [], ys, p, _, _ => (List.nil_perm.mp p).symm
  | x :: xs, [], p, _, _ => absurd p.length_eq (by simp)
  | x :: xs, y :: ys, p, hx, hy => by
    have px := List.pairwise_cons.mp hx
    have py := List.pairwise_cons.mp hy
    have e : x = y := by
      have m1 : x ∈ y :: ys := p.mem_iff.mp List.mem_cons_self
      have m2 : y ∈ x :: xs := p.mem_iff.mpr List.mem_cons_self
      rcases List.mem_cons.mp m1 with h | h
      · exact h
      · rcases List.mem_cons.mp m2 with g | g
        · exact g.symm
        · exact leK_anti hi (px.1 y g) (py.1 x h)
    subst e
    rw [sorted_unique hi (List.Perm.cons_inv p) px.2 py.2]
theorem ins_sort (hi : ∀ a b, t a = t b → a = b) (rs : List α) : rs.foldl (insN t) [] = rs.mergeSort (leK t) := by
  obtain ⟨a, b⟩ := fold_ins (t := t) rs [] .nil
  rw [List.append_nil] at b
  refine sorted_unique hi (b.trans (List.mergeSort_perm rs _).symm) a ?_
  exact List.pairwise_mergeSort (fun a b c => leK_trans) (fun a b => leK_total a b) rs
end
end C
set_option maxRecDepth 100000
set_option maxHeartbeats 4000000
namespace C
open PySem PySem.Spec PyProof.Rows L2 G
section
variable {a b : D} {p q : PyData}
theorem eqD_of (ha : toP a = some p) (hb : toP b = some q) (sp : SeqAt.shaped p = true) (sq : SeqAt.shaped q = true) : eqD a b = some (.bl (PyData.eqv p q)) := by
  unfold eqD eqP
  simp [ha, hb, sp, sq]
theorem neD_of (ha : toP a = some p) (hb : toP b = some q) (sp : SeqAt.shaped p = true) (sq : SeqAt.shaped q = true) : neD a b = some (.bl (!PyData.eqv p q)) := by
  unfold neD eqP
  simp [ha, hb, sp, sq]
theorem ltD_of (ha : toP a = some p) (hb : toP b = some q) (h : PySem.W.alike p q = true) (d : p.depth ≤ 64) (n : noneP p = false) : ltD a b = some (.bl (PySem.W.dataLt p q)) := by
  unfold ltD G.ltP
  simp [ha, hb, h, d, n]
theorem geD_of (ha : toP a = some p) (hb : toP b = some q) (h : PySem.W.alike p q = true) (d : p.depth ≤ 64) (n : noneP p = false) : geD a b = some (.bl (!PySem.W.dataLt p q)) := by
  unfold geD G.ltP
  simp [ha, hb, h, d, n]
theorem gtD_of (ha : toP a = some p) (hb : toP b = some q) (h : PySem.W.alike p q = true) (d : p.depth ≤ 64) (n : noneP p = false) : gtD a b = some (.bl (PySem.W.dataLt q p)) := by
  unfold gtD G.gtP
  simp [ha, hb, h, d, n]
theorem leD_of (ha : toP a = some p) (hb : toP b = some q) (h : PySem.W.alike p q = true) (d : p.depth ≤ 64) (n : noneP p = false) : leD a b = some (.bl (!PySem.W.dataLt q p)) := by
  unfold leD G.gtP
  simp [ha, hb, h, d, n]
end
/-! the letters of a text -/
theorem lts_mem {c : Nat} (h1 : 97 ≤ c) (h2 : c < 123) : c ∈ lts.cps.toList := by
  have := lts_at (c - 97) (by omega)
  have e : 97 + (c - 97) = c := by omega
  rw [e] at this
  exact List.mem_of_getElem? this
theorem in_lts {c : Nat} (h1 : 97 ≤ c) (h2 : c < 123) : inD (.str ⟨#[c]⟩) (.str lts) = some (.bl true) := by
  show (some (decide (c ∈ lts.cps.toList))).map D.bl = _
  rw [decide_eq_true (lts_mem h1 h2)]
  rfl
theorem blsOf_true (n : Nat) : blsOf (List.replicate n (.bl true)) = some (List.replicate n true) := by
  induction n with
  | zero => rfl
  | succ n ih =>
    rw [List.replicate_succ, List.replicate_succ]
    show (blsOf (List.replicate n (.bl true))).map (true :: ·) = _
    rw [ih]
    rfl
theorem allD_true (n : Nat) : allD [.lst (List.replicate n (.bl true))] = some (.bl true) := by
  show (blsOf _).map _ = _
  rw [blsOf_true]
  simp
theorem low_lt {x : Str} (h : Low x) : ∀ c ∈ x.cps.toList, c < 16 ^ 8 := fun c hc => by have := h c hc; omega
theorem repr_len {n : Nat} {x : Str} (h : Nm n x) : (reprText x).length ≤ 10 * n + 2 := Nat.le_trans (StrLaws.reprText_len x (low_lt h.1)) (by have := h.2.2; omega)
theorem shown_str (x : Str) (h : PyData.strOk x = true) (hl : (reprText x).length ≤ 16777216) (tab : Tab) : reprD tab [.str x] = some (.str (reprText x)) := by
  show (shownD (.str x)).map D.str = _
  unfold shownD
  simp [toP, PyData.showable, PyData.hasDict, PyData.depth, PyData.shown, shortS_of hl]
end C
set_option maxRecDepth 100000
set_option maxHeartbeats 4000000
namespace C
open PySem PySem.Spec PyProof.Rows L2 G
theorem reprChar_low : ∀ c : Nat, 97 ≤ c → c < 123 → PySem.Builtin.Str.reprChar 39 c = [c] := by
  have h : (List.range 26).all (fun j => PySem.Builtin.Str.reprChar 39 (97 + j) == [97 + j]) = true := by decide +kernel
  intro c h1 h2
  have := List.all_eq_true.mp h (c - 97) (List.mem_range.mpr (by omega))
  rw [show 97 + (c - 97) = c by omega] at this
  exact beq_iff_eq.mp this
theorem foldl_low : ∀ (l : List Nat) (acc : Array Nat), (∀ c ∈ l, 97 ≤ c ∧ c < 123) → l.foldl (fun out c => out ++ (PySem.Builtin.Str.reprChar 39 c).toArray) acc = acc ++ l.toArray
  | [], acc, _ => by simp
  | c :: l, acc, h => by
    have hc := h c List.mem_cons_self
    rw [List.foldl_cons, reprChar_low c hc.1 hc.2, foldl_low l _ fun d hd => h d (List.mem_cons_of_mem _ hd)]
    simp
theorem repr_low {x : Str} (h : Low x) : (reprText x).cps.toList = 39 :: x.cps.toList ++ [39] := by
  have q : reprQuote x = 39 := by
    unfold reprQuote
    have : x.cps.contains 39 = false := by
      rw [Bool.eq_false_iff]
      intro e
      have := h 39 (by simpa using e)
      omega
    rw [this]
    rfl
  unfold reprText
  rw [q, ← Array.foldl_toList, foldl_low _ _ h]
  simp
theorem strOk_tl {x : Str} : PyData.strOk x = true ↔ ∀ c ∈ x.cps.toList, c < 0x110000 := by
  unfold PyData.strOk
  rw [Array.all_eq_true_iff_forall_mem]
  simp
theorem strOk_app {x y : Str} (h : PyData.strOk x = true) (g : PyData.strOk y = true) : PyData.strOk (x ++ y) = true := by
  rw [strOk_tl] at *
  have e : (x ++ y).cps.toList = x.cps.toList ++ y.cps.toList := by
    show (x.cps ++ y.cps).toList = _
    simp
  rw [e]
  intro c hc
  rcases List.mem_append.mp hc with hc | hc
  · exact h c hc
  · exact g c hc
theorem repr_strOk {x : Str} (h : Low x) : PyData.strOk (reprText x) = true := by
  rw [strOk_tl, repr_low h]
  intro c hc
  simp at hc
  rcases hc with rfl | hc | rfl
  · omega
  · have := h c (by simpa using hc); omega
  · omega
theorem app_assoc (x y z : Str) : x ++ y ++ z = x ++ (y ++ z) := by
  show (⟨x.cps ++ y.cps ++ z.cps⟩ : Str) = ⟨x.cps ++ (y.cps ++ z.cps)⟩
  simp
theorem join3 (s a b c : Str) : Txt.join s [a, b, c] = a ++ s ++ b ++ s ++ c := by
  have e : Txt.join s [a, b, c] = Str.join s [a, b, c] := StrLaws.glued_eq_join _ _
  rw [e]
  have := TL.tl_join s [a, b, c]
  have e2 : (Str.join s [a, b, c]).cps.toList = (a ++ s ++ b ++ s ++ c).cps.toList := by
    refine Eq.trans this ?_
    show _ = ((((a.cps ++ s.cps) ++ b.cps) ++ s.cps) ++ c.cps).toList
    simp [TL.joinL, TL.tl]
  exact PySem.W.str_of_cps e2
theorem bools_shown : ∀ b1 b2 b3 b4 b5 b6 : Bool, (match shownD (.lst [.bl b1, .bl b2, .bl b3, .bl b4, .bl b5, .bl b6]) with | some t => PyData.strOk t | none => false) = true := by decide +kernel
theorem bools_repr (b1 b2 b3 b4 b5 b6 : Bool) : ∃ t, reprD [] [.lst [.bl b1, .bl b2, .bl b3, .bl b4, .bl b5, .bl b6]] = some (.str t) ∧ PyData.strOk t = true := by
  have h := bools_shown b1 b2 b3 b4 b5 b6
  cases e : shownD (.lst [.bl b1, .bl b2, .bl b3, .bl b4, .bl b5, .bl b6]) with
  | none => rw [e] at h; cases h
  | some t =>
    rw [e] at h
    refine ⟨t, ?_, h⟩
    show (shownD _).map D.str = _
    rw [e]
    rfl
theorem strs_shaped {ys : List Str} (h : ∀ y ∈ ys, PyData.strOk y = true) : SeqAt.shaped (.list (ys.map PyData.str)) = true := by
  have := depth_strD ys
  rw [SeqAt.shaped, Bool.and_eq_true]
  refine ⟨by rw [PyData.canLay0]; exact canLay_strD h, decide_eq_true ?_⟩
  rw [PyData.depth]
  omega
theorem eqv_strs : ∀ ys : List Str, PyData.eqvAll (ys.map PyData.str) (ys.map PyData.str) = true
  | [] => rfl
  | y :: r => by
    show (PyData.eqv (.str y) (.str y) && PyData.eqvAll (r.map PyData.str) (r.map PyData.str)) = true
    rw [eqv_strs r]
    simp [PyData.eqv]
theorem ne_strs {ys : List Str} (h : ∀ y ∈ ys, PyData.strOk y = true) : neD (.lst (txD ys)) (.lst (txD ys)) = some (.bl false) := by
  have e : toP (.lst (txD ys)) = some (.list (ys.map PyData.str)) := by
    show (toPs _).map _ = _
    rw [toPs_strD]
    rfl
  rw [neD_of e e (strs_shaped h) (strs_shaped h), PyData.eqv, eqv_strs]
  rfl
theorem eq_strs {ys : List Str} (h : ∀ y ∈ ys, PyData.strOk y = true) : eqD (.lst (txD ys)) (.lst (txD ys)) = some (.bl true) := by
  have e : toP (.lst (txD ys)) = some (.list (ys.map PyData.str)) := by
    show (toPs _).map _ = _
    rw [toPs_strD]
    rfl
  rw [eqD_of e e (strs_shaped h) (strs_shaped h), PyData.eqv, eqv_strs]
end C
set_option maxRecDepth 100000
set_option maxHeartbeats 4000000
namespace G
open PySem PySem.Spec PyProof.Rows L2

/-! ### what a mirror comes to -/
def wp {α : Type} (m : M α) (Q : α → DEnv → Prop) (E : Ex → DEnv → Prop) (δ : DEnv) : Prop := match m δ with
  | .ok a δ' => Q a δ'
  | .exc x δ' => E x δ'
  | .bad => False
def wpF (f : List SD → R SD) (sds : List SD) (Q : SD → List SD → Prop) (E : Ex → List SD → Prop) : Prop := match f sds with
  | .ok r rs => Q r rs
  | .exc x rs => E x rs
  | .bad => False
def wpo {α : Type} (o : Option α) (Q : α → Prop) : Prop := match o with
  | some a => Q a
  | none => False
def wpb (c : Bool) (P Q : Prop) : Prop := if c = true then P else Q
section
variable {α β : Type} {Q : α → DEnv → Prop} {E : Ex → DEnv → Prop} {δ δ' : DEnv}
theorem wp_congr (m : M α) (h : δ = δ') : wp m Q E δ = wp m Q E δ' := by rw [h]
theorem wpo_congr {o o' : Option α} {R : α → Prop} (h : o = o') : wpo o R = wpo o' R := by rw [h]
theorem wpb_congr {c c' : Bool} {A B : Prop} (h : c = c') : wpb c A B = wpb c' A B := by rw [h]
theorem wpF_congr {f : List SD → R SD} {sds sds' : List SD} {R : SD → List SD → Prop} {E : Ex → List SD → Prop} (h : sds = sds') : wpF f sds R E = wpF f sds' R E := by rw [h]
theorem wp_mono {m : M α} {Q' : α → DEnv → Prop} {E' : Ex → DEnv → Prop} (h : wp m Q E δ) (q : ∀ a δ, Q a δ → Q' a δ) (e : ∀ a δ, E a δ → E' a δ) : wp m Q' E' δ := by
  unfold wp at h ⊢
  cases z : m δ with
  | ok a δ1 => rw [z] at h; exact q _ _ h
  | exc a δ1 => rw [z] at h; exact e _ _ h
  | bad => rw [z] at h; exact h
theorem wpF_mono {f : List SD → R SD} {sds : List SD} {R R' : SD → List SD → Prop} {E E' : Ex → List SD → Prop} (h : wpF f sds R E) (q : ∀ a δ, R a δ → R' a δ) (e : ∀ a δ, E a δ → E' a δ) : wpF f sds R' E' := by
  unfold wpF at h ⊢
  cases z : f sds with
  | ok a δ1 => rw [z] at h; exact q _ _ h
  | exc a δ1 => rw [z] at h; exact e _ _ h
  | bad => rw [z] at h; exact h
theorem wpF_of {f : List SD → R SD} {sds rs : List SD} {r : SD} {R : SD → List SD → Prop} {E : Ex → List SD → Prop} (e : f sds = .ok r rs) : wpF f sds R E = R r rs := by
  unfold wpF
  rw [e]
theorem ok_of_wpF {f : List SD → R SD} {sds : List SD} {R : SD → List SD → Prop} (h : wpF f sds R fun _ _ => False) : ∃ r rs, f sds = .ok r rs ∧ R r rs := by
  unfold wpF at h
  cases z : f sds with
  | ok a δ1 => rw [z] at h; exact ⟨_, _, rfl, h⟩
  | exc a δ1 => rw [z] at h; exact h.elim
  | bad => rw [z] at h; exact h.elim
theorem wpF_eq {f : List SD → R SD} {sds rs : List SD} {r : SD} (h : wpF f sds (fun r' rs' => r' = r ∧ rs' = rs) fun _ _ => False) : f sds = .ok r rs := by
  obtain ⟨a, b, e, rfl, rfl⟩ := ok_of_wpF h
  exact e
@[simp ↓] theorem wpb_t {A B : Prop} : wpb true A B = A := Eq.trans rfl rfl
@[simp ↓] theorem wpb_f {A B : Prop} : wpb false A B = B := by simp [wpb]
theorem wpb_intro {c : Bool} {A B : Prop} (h1 : c = true → A) (h2 : c = false → B) : wpb c A B := by
  cases c
  · exact h2 rfl
  · exact h1 rfl
@[simp ↓] theorem wpo_some {a : α} {R : α → Prop} : wpo (some a) R = R a := Eq.trans rfl rfl
@[simp ↓] theorem wpo_none {R : α → Prop} : wpo (none : Option α) R = False := Eq.trans rfl rfl
@[simp ↓] theorem wpo_map {f : α → β} {o : Option α} {R : β → Prop} : wpo (o.map f) R = wpo o fun a => R (f a) := by cases o <;> rfl
theorem wpo_ite {c : Prop} [Decidable c] {o : Option α} {R : α → Prop} (h : c) : wpo (if c then o else none) R = wpo o R := by rw [if_pos h]
@[simp ↓] theorem wp_pure {a : α} : wp (M.pure a) Q E δ = Q a δ := Eq.trans rfl rfl
@[simp ↓] theorem wp_bind {m : M β} {f : β → M α} : wp (m.bind f) Q E δ = wp m (fun b δ' => wp (f b) Q E δ') E δ := by
  unfold wp M.bind
  cases m δ <;> rfl
@[simp ↓] theorem wp_bad : wp (badM : M α) Q E δ = False := Eq.trans rfl rfl
@[simp ↓] theorem wp_lift {o : Option α} : wp (lift o) Q E δ = wpo o fun a => Q a δ := by
  cases o <;> rfl
@[simp ↓] theorem wp_ite {c : Prop} [Decidable c] {a b : M α} : wp (if c then a else b) Q E δ = wpb (decide c) (wp a Q E δ) (wp b Q E δ) := by
  unfold wpb
  by_cases h : c
  · rw [if_pos h, if_pos (decide_eq_true h)]
  · rw [if_neg h, if_neg (by simp [h])]
end

/-! ### slots -/
def slotD : DEnv → Nat → Option D
  | [], _ => none
  | sd :: _, 0 => sd.get?
  | _ :: r, i + 1 => slotD r i
theorem slotD_eq : ∀ (δ : DEnv) (i : Nat), slotD δ i = (δ[i]?).bind SD.get?
  | [], i => by simp [slotD]
  | sd :: r, 0 => by simp [slotD]
  | sd :: r, i + 1 => by simp [slotD, slotD_eq r i]
@[simp] theorem slotD_0 (sd : SD) (r : DEnv) : slotD (sd :: r) 0 = sd.get? := Eq.trans rfl rfl
@[simp] theorem slotD_s (sd : SD) (r : DEnv) (i : Nat) : slotD (sd :: r) (i + 1) = slotD r i := Eq.trans rfl rfl
@[simp] theorem get?_val (d : D) : (SD.val d).get? = some d := Eq.trans rfl rfl
@[simp] theorem get?_own (d : D) : (SD.own d).get? = some d := Eq.trans rfl rfl
@[simp] theorem get?_arg (d : D) : (SD.arg d).get? = some d := Eq.trans rfl rfl
@[simp] theorem get?_frz (d : D) : (SD.frz d).get? = some d := Eq.trans rfl rfl
@[simp] theorem get?_no : SD.no.get? = none := Eq.trans rfl rfl
/-- a slot kept: an owned object is frozen -/
def frzAt : DEnv → Nat → DEnv
  | [], _ => []
  | sd :: r, 0 => sd.frozen :: r
  | sd :: r, i + 1 => sd :: frzAt r i
@[simp] theorem frzAt_0 (sd : SD) (r : DEnv) : frzAt (sd :: r) 0 = sd.frozen :: r := Eq.trans rfl rfl
@[simp] theorem frzAt_s (sd : SD) (r : DEnv) (i : Nat) : frzAt (sd :: r) (i + 1) = sd :: frzAt r i := Eq.trans rfl rfl
@[simp] theorem frozen_val (d : D) : (SD.val d).frozen = .val d := Eq.trans rfl rfl
@[simp] theorem frozen_own (d : D) : (SD.own d).frozen = .val d := Eq.trans rfl rfl
@[simp] theorem frozen_arg (d : D) : (SD.arg d).frozen = .frz d := Eq.trans rfl rfl
@[simp] theorem frozen_frz (d : D) : (SD.frz d).frozen = .frz d := Eq.trans rfl rfl
/-- a slot written: what it then holds; none where it may not be -/
def putAt : DEnv → Nat → SD → Option DEnv
  | [], _, _ => none
  | .no :: r, 0, x => some (x :: r)
  | .val _ :: r, 0, x => some (x :: r)
  | .own _ :: r, 0, x => some (x :: r)
  | _ :: _, 0, _ => none
  | sd :: r, i + 1, x => (putAt r i x).map (sd :: ·)
@[simp] theorem putAt_no (r : DEnv) (x : SD) : putAt (.no :: r) 0 x = some (x :: r) := Eq.trans rfl rfl
@[simp] theorem putAt_val (d : D) (r : DEnv) (x : SD) : putAt (.val d :: r) 0 x = some (x :: r) := Eq.trans rfl rfl
@[simp] theorem putAt_own (d : D) (r : DEnv) (x : SD) : putAt (.own d :: r) 0 x = some (x :: r) := Eq.trans rfl rfl
theorem putAt_pl {s : SD} (h : s.pl = true) (r : DEnv) (x : SD) : putAt (s :: r) 0 x = some (x :: r) := by cases s <;> first | rfl | cases h
@[simp] theorem putAt_s (sd : SD) (r : DEnv) (i : Nat) (x : SD) : putAt (sd :: r) (i + 1) x = (putAt r i x).map (sd :: ·) := by cases sd <;> rfl
theorem putAt_eq : ∀ (δ : DEnv) (i : Nat) (x : SD), putAt δ i x = match δ[i]? with
    | some .no => some (δ.set i x)
    | some (.val _) => some (δ.set i x)
    | some (.own _) => some (δ.set i x)
    | _ => none
  | [], i, x => by simp [putAt]
  | sd :: r, 0, x => by cases sd <;> simp [putAt]
  | sd :: r, i + 1, x => by
    rw [putAt, putAt_eq r i x]
    simp only [List.getElem?_cons_succ, List.set_cons_succ]
    cases r[i]? with
    | none => rfl
    | some s => cases s <;> rfl
theorem frzAt_eq : ∀ (δ : DEnv) (i : Nat) (sd : SD), δ[i]? = some sd → frzAt δ i = δ.set i sd.frozen
  | [], i, _, h => by simp at h
  | sd :: r, 0, s, h => by cases h; rfl
  | sd :: r, i + 1, s, h => by rw [frzAt, frzAt_eq r i s (by simpa using h), List.set_cons_succ]
section
variable {Q : D → DEnv → Prop} {U : Unit → DEnv → Prop} {E : Ex → DEnv → Prop} {δ : DEnv}
@[simp ↓] theorem wp_pk {i : Nat} : wp (pk i) Q E δ = wpo (slotD δ i) fun d => Q d δ := by
  rw [slotD_eq]
  unfold wp pk
  cases δ[i]? with
  | none => rfl
  | some sd => cases sd <;> rfl
theorem set_same {i : Nat} {sd : SD} (h : δ[i]? = some sd) : δ.set i sd = δ := by
  obtain ⟨hl, hh⟩ := List.getElem?_eq_some_iff.mp h
  rw [← hh]
  exact List.set_getElem_self hl
@[simp ↓] theorem wp_getV {i : Nat} : wp (getV i) Q E δ = wpo (slotD δ i) fun d => Q d (frzAt δ i) := by
  rw [slotD_eq]
  unfold wp getV
  cases h : δ[i]? with
  | none => rfl
  | some sd =>
    rw [frzAt_eq δ i sd h]
    cases sd with
    | no => rfl
    | val d => simp only [SD.frozen]; rw [set_same h]; rfl
    | own d => rfl
    | arg d => rfl
    | frz d => simp only [SD.frozen]; rw [set_same h]; rfl
@[simp ↓] theorem wp_storeM {i : Nat} {d : D} : wp (storeM i d) U E δ = wpo (putAt δ i (.val d)) fun δ' => U () δ' := by
  rw [putAt_eq]
  unfold wp storeM
  cases δ[i]? with
  | none => rfl
  | some sd => cases sd <;> rfl
@[simp ↓] theorem wp_storeN {i : Nat} {d : D} : wp (storeN i d) U E δ = wpo (putAt δ i (.own d)) fun δ' => U () δ' := by
  rw [putAt_eq]
  unfold wp storeN
  cases δ[i]? with
  | none => rfl
  | some sd => cases sd <;> rfl
/-- an owned slot's datum changed -/
def mutAt : DEnv → Nat → (D → Option (D × D)) → Option (D × DEnv)
  | [], _, _ => none
  | .own d :: r, 0, f => (f d).map fun p => (p.2, .own p.1 :: r)
  | .arg d :: r, 0, f => (f d).map fun p => (p.2, .arg p.1 :: r)
  | _ :: _, 0, _ => none
  | sd :: r, i + 1, f => (mutAt r i f).map fun p => (p.1, sd :: p.2)
@[simp] theorem mutAt_own (d : D) (r : DEnv) (f : D → Option (D × D)) : mutAt (.own d :: r) 0 f = (f d).map fun p => (p.2, .own p.1 :: r) := Eq.trans rfl rfl
@[simp] theorem mutAt_arg (d : D) (r : DEnv) (f : D → Option (D × D)) : mutAt (.arg d :: r) 0 f = (f d).map fun p => (p.2, .arg p.1 :: r) := Eq.trans rfl rfl
@[simp] theorem mutAt_s (sd : SD) (r : DEnv) (i : Nat) (f : D → Option (D × D)) : mutAt (sd :: r) (i + 1) f = (mutAt r i f).map fun p => (p.1, sd :: p.2) := by cases sd <;> rfl
theorem mutAt_eq : ∀ (δ : DEnv) (i : Nat) (f : D → Option (D × D)), mutI f i δ = match mutAt δ i f with | some p => .ok p.1 p.2 | none => .bad
  | [], i, f => by simp [mutI, mutAt]
  | sd :: r, 0, f => by
    cases sd with
    | own d => simp only [mutI, List.getElem?_cons_zero, mutAt_own]; cases f d <;> rfl
    | arg d => simp only [mutI, List.getElem?_cons_zero, mutAt_arg]; cases f d <;> rfl
    | _ => rfl
  | sd :: r, i + 1, f => by
    have ih := mutAt_eq r i f
    rw [mutAt_s]
    unfold mutI at ih ⊢
    simp only [List.getElem?_cons_succ, List.set_cons_succ]
    cases h : r[i]? with
    | none => rw [h] at ih; cases z : mutAt r i f with | none => rfl | some p => rw [z] at ih; cases ih
    | some s =>
      rw [h] at ih
      cases s with
      | own d =>
        simp only at ih ⊢
        cases hf : f d with
        | none => rw [hf] at ih; cases z : mutAt r i f with | none => rfl | some p => rw [z] at ih; cases ih
        | some p => rw [hf] at ih; cases z : mutAt r i f with | none => rw [z] at ih; cases ih | some q => rw [z] at ih; injection ih with e1 e2; simp only [Option.map_some]; rw [e1, e2]
      | arg d =>
        simp only at ih ⊢
        cases hf : f d with
        | none => rw [hf] at ih; cases z : mutAt r i f with | none => rfl | some p => rw [z] at ih; cases ih
        | some p => rw [hf] at ih; cases z : mutAt r i f with | none => rw [z] at ih; cases ih | some q => rw [z] at ih; injection ih with e1 e2; simp only [Option.map_some]; rw [e1, e2]
      | _ => cases z : mutAt r i f with | none => rfl | some p => rw [z] at ih; cases ih
@[simp ↓] theorem wp_mutI {i : Nat} {f : D → Option (D × D)} : wp (mutI f i) Q E δ = wpo (mutAt δ i f) fun p => Q p.1 p.2 := by
  unfold wp
  rw [mutAt_eq]
  cases mutAt δ i f <;> rfl
end
end G
set_option maxRecDepth 100000
set_option maxHeartbeats 4000000
namespace G
open PySem PySem.Spec PyProof.Rows L2
/-! ### the words of mirrors -/
def Opd.ix : Opd → Option Nat
  | .m _ => none
  | .s i => some i
theorem Opd.ix_congr (o : Opd) : o.ix = o.ix := rfl
@[simp] theorem ix_m (m : M D) : (Opd.m m).ix = none := Eq.trans rfl rfl
@[simp] theorem ix_s (i : Nat) : (Opd.s i).ix = some i := Eq.trans rfl rfl
/-- the list of the operands' slots -/
def ixs : List Opd → List (Option Nat)
  | [] => []
  | o :: os => o.ix :: ixs os
theorem ixs_congr (os : List Opd) : ixs os = ixs os := rfl
@[simp] theorem ixs_nil : ixs [] = [] := Eq.trans rfl rfl
@[simp] theorem ixs_m (m : M D) (os : List Opd) : ixs (.m m :: os) = none :: ixs os := Eq.trans rfl rfl
@[simp] theorem ixs_s (i : Nat) (os : List Opd) : ixs (.s i :: os) = some i :: ixs os := Eq.trans rfl rfl
def backAt : Nat → Option SD → DEnv → DEnv → DEnv
  | _, _, [], ds => ds
  | _, _, _, [] => []
  | 0, r, sd :: _, _ :: ds => backSD sd r :: ds
  | i + 1, r, _ :: δ, d :: ds => d :: backAt i r δ ds
def backN : List (Option Nat) → List SD → DEnv → DEnv
  | [], _, δ => δ
  | none :: is, rs, δ => backN is rs.tail δ
  | some j :: is, rs, δ => backAt j rs.head? δ (backN is rs.tail δ)
@[simp] theorem backN_nil (rs : List SD) (δ : DEnv) : backN [] rs δ = δ := Eq.trans rfl rfl
@[simp] theorem backN_m (is : List (Option Nat)) (rs : List SD) (δ : DEnv) : backN (none :: is) rs δ = backN is rs.tail δ := Eq.trans rfl rfl
@[simp] theorem backN_s (j : Nat) (is : List (Option Nat)) (rs : List SD) (δ : DEnv) : backN (some j :: is) rs δ = backAt j rs.head? δ (backN is rs.tail δ) := Eq.trans rfl rfl
@[simp] theorem backAt_0 (r : Option SD) (sd d : SD) (δ ds : DEnv) : backAt 0 r (sd :: δ) (d :: ds) = backSD sd r :: ds := Eq.trans rfl rfl
@[simp] theorem backAt_s (i : Nat) (r : Option SD) (sd d : SD) (δ ds : DEnv) : backAt (i + 1) r (sd :: δ) (d :: ds) = d :: backAt i r δ ds := Eq.trans rfl rfl
theorem backAt_len : ∀ (i : Nat) (r : Option SD) (δ ds : DEnv), δ.length = ds.length → (backAt i r δ ds).length = ds.length
  | _, _, [], ds, h => by simp [backAt]
  | _, _, _ :: _, [], h => by simp [backAt]
  | 0, _, _ :: _, _ :: _, _ => rfl
  | i + 1, r, _ :: δ, d :: ds, h => by simp [backAt_len i r δ ds (by simpa using h)]
theorem backAt_get : ∀ (i : Nat) (r : Option SD) (δ ds : DEnv) (k : Nat), δ.length = ds.length → (backAt i r δ ds)[k]? = if k = i then (δ[k]?).map fun sd => backSD sd r else ds[k]?
  | _, _, [], ds, k, h => by cases ds with | nil => cases ‹Nat› <;> simp [backAt] | cons _ _ => simp at h
  | _, _, _ :: _, [], k, h => by simp at h
  | 0, r, sd :: δ, d :: ds, 0, h => by simp
  | 0, r, sd :: δ, d :: ds, k + 1, h => by simp
  | i + 1, r, sd :: δ, d :: ds, 0, h => by simp
  | i + 1, r, sd :: δ, d :: ds, k + 1, h => by simp [backAt_get i r δ ds k (by simpa using h)]
theorem backN_len : ∀ (is : List (Option Nat)) (rs : List SD) (δ : DEnv), (backN is rs δ).length = δ.length
  | [], _, _ => rfl
  | none :: is, rs, δ => backN_len is rs.tail δ
  | some j :: is, rs, δ => by rw [backN_s, backAt_len _ _ _ _ (backN_len is rs.tail δ).symm, backN_len]
def pickS (r : Option (Option SD)) (sd : SD) : SD := match r with
  | some r => backSD sd r
  | none => sd
theorem backN_get : ∀ (os : List Opd) (rs : List SD) (δ : DEnv) (k : Nat), (backN (ixs os) rs δ)[k]? = (δ[k]?).map (pickS (findS os rs k))
  | [], rs, δ, k => by
    show δ[k]? = (δ[k]?).map (pickS none)
    cases δ[k]? <;> rfl
  | .m _ :: os, rs, δ, k => by rw [ixs_m, backN_m, backN_get os rs.tail δ k]; rfl
  | .s j :: os, rs, δ, k => by
    rw [ixs_s, backN_s, backAt_get _ _ _ _ _ (backN_len _ _ _).symm, backN_get os rs.tail δ k]
    show _ = (δ[k]?).map (pickS (if k = j then some rs.head? else findS os rs.tail k))
    by_cases h : k = j
    · rw [if_pos h, if_pos h]; rfl
    · rw [if_neg h, if_neg h]
theorem backN_eq (os : List Opd) (rs : List SD) (δ : DEnv) : backAll os rs δ = backN (ixs os) rs δ := by
  rw [back_eq]
  apply List.ext_getElem?
  intro k
  rw [backF_get, Nat.zero_add, backN_get]
  rfl
def passAt : DEnv → Nat → Option SD
  | [], _ => none
  | .val d :: _, 0 => some (.val d)
  | .own d :: _, 0 => some (.own d)
  | .arg d :: _, 0 => some (.own d)
  | .frz d :: _, 0 => some (.val d)
  | .no :: _, 0 => none
  | _ :: r, i + 1 => passAt r i
@[simp] theorem passAt_v (d : D) (r : DEnv) : passAt (.val d :: r) 0 = some (.val d) := Eq.trans rfl rfl
@[simp] theorem passAt_o (d : D) (r : DEnv) : passAt (.own d :: r) 0 = some (.own d) := Eq.trans rfl rfl
@[simp] theorem passAt_a (d : D) (r : DEnv) : passAt (.arg d :: r) 0 = some (.own d) := Eq.trans rfl rfl
@[simp] theorem passAt_f (d : D) (r : DEnv) : passAt (.frz d :: r) 0 = some (.val d) := Eq.trans rfl rfl
@[simp] theorem passAt_s (sd : SD) (r : DEnv) (i : Nat) : passAt (sd :: r) (i + 1) = passAt r i := by cases sd <;> rfl
/-- a new slot state handed back by return -/
def retAt : DEnv → Nat → Option (SD × DEnv)
  | [], _ => none
  | .own d :: r, 0 => some (.own d, .own d :: r)
  | .val d :: r, 0 => some (.val d, .val d :: r)
  | .arg d :: r, 0 => some (.val d, .frz d :: r)
  | .frz d :: r, 0 => some (.val d, .frz d :: r)
  | .no :: _, 0 => none
  | sd :: r, i + 1 => (retAt r i).map fun p => (p.1, sd :: p.2)
@[simp] theorem retAt_o (d : D) (r : DEnv) : retAt (.own d :: r) 0 = some (.own d, .own d :: r) := Eq.trans rfl rfl
@[simp] theorem retAt_v (d : D) (r : DEnv) : retAt (.val d :: r) 0 = some (.val d, .val d :: r) := Eq.trans rfl rfl
@[simp] theorem retAt_a (d : D) (r : DEnv) : retAt (.arg d :: r) 0 = some (.val d, .frz d :: r) := Eq.trans rfl rfl
@[simp] theorem retAt_f (d : D) (r : DEnv) : retAt (.frz d :: r) 0 = some (.val d, .frz d :: r) := Eq.trans rfl rfl
@[simp] theorem retAt_s (sd : SD) (r : DEnv) (i : Nat) : retAt (sd :: r) (i + 1) = (retAt r i).map fun p => (p.1, sd :: p.2) := by cases sd <;> rfl
theorem retAt_eq : ∀ (δ : DEnv) (i : Nat), retV i δ = match retAt δ i with | some p => .ok (.rt p.1) p.2 | none => .bad
  | [], i => by simp [retV, retAt]
  | sd :: r, 0 => by cases sd <;> simp [retV, retAt]
  | sd :: r, i + 1 => by
    have ih := retAt_eq r i
    rw [retAt_s]
    unfold retV at ih ⊢
    simp only [List.getElem?_cons_succ, List.set_cons_succ]
    cases h : r[i]? with
    | none => rw [h] at ih; cases z : retAt r i with | none => rfl | some p => rw [z] at ih; cases ih
    | some s =>
      rw [h] at ih
      cases s with
      | no => cases z : retAt r i with | none => rfl | some p => rw [z] at ih; cases ih
      | _ =>
        cases z : retAt r i with
        | none => rw [z] at ih; cases ih
        | some q =>
          rw [z] at ih
          injection ih with e1 e2
          injection e1 with e1
          simp only [Option.map_some]
          rw [← e1, ← e2]
section
variable {α : Type} {Q : D → DEnv → Prop} {QF : Fl → DEnv → Prop} {QB : Bool → DEnv → Prop} {QU : Unit → DEnv → Prop} {QL : List D → DEnv → Prop} {QS : SD → DEnv → Prop} {E : Ex → DEnv → Prop} {δ : DEnv}
@[simp ↓] theorem wp_passI {i : Nat} : wp (passI i) QS E δ = wpo (passAt δ i) fun s => QS s δ := by
  have h : ∀ (δ : DEnv) (i : Nat), passAt δ i = match δ[i]? with | some (.val d) => some (.val d) | some (.own d) => some (.own d) | some (.arg d) => some (.own d) | some (.frz d) => some (.val d) | _ => none := fun δ => by
    induction δ with
    | nil => intro i; simp [passAt]
    | cons sd r ih =>
      intro i
      cases i with
      | zero => cases sd <;> simp [passAt]
      | succ i => simp [ih i]
  rw [h]
  unfold wp passI
  cases δ[i]? with
  | none => rfl
  | some sd => cases sd <;> rfl
@[simp ↓] theorem wp_retV {i : Nat} : wp (retV i) QF E δ = wpo (retAt δ i) fun p => QF (.rt p.1) p.2 := by
  unfold wp
  rw [retAt_eq]
  cases retAt δ i <;> rfl
/-! statements -/
@[simp ↓] theorem wp_seqS {a b : M Fl} : wp (seqS a b) QF E δ = wp a (fun f δ' => match f with | .nx => wp b QF E δ' | f => QF f δ') E δ := by
  unfold seqS
  rw [wp_bind]
  congr 1
  funext f δ'
  cases f <;> rfl
@[simp ↓] theorem wp_passS : wp passS QF E δ = QF .nx δ := Eq.trans rfl rfl
@[simp ↓] theorem wp_exprS {m : M D} : wp (exprS m) QF E δ = wp m (fun _ δ' => QF .nx δ') E δ := by
  unfold exprS
  rw [wp_bind]
  rfl
@[simp ↓] theorem wp_retS {m : M D} : wp (retS m) QF E δ = wp m (fun d δ' => QF (.rt (.val d)) δ') E δ := by
  unfold retS
  rw [wp_bind]
  rfl
@[simp ↓] theorem wp_retO {m : M D} : wp (retO m) QF E δ = wp m (fun d δ' => QF (.rt (.own d)) δ') E δ := by
  unfold retO
  rw [wp_bind]
  rfl
@[simp ↓] theorem wp_retN : wp retN QF E δ = QF (.rt (.val .non)) δ := Eq.trans rfl rfl
@[simp ↓] theorem wp_iffS {t : M Bool} {a b : M Fl} : wp (iffS t a b) QF E δ = wp t (fun c δ' => wpb c (wp a QF E δ') (wp b QF E δ')) E δ := by
  unfold iffS
  rw [wp_bind]
  congr 1
  funext c δ'
  cases c <;> rfl
@[simp ↓] theorem wp_setS {i : Nat} {m : M D} : wp (setS i m) QF E δ = wp m (fun d δ' => wpo (putAt δ' i (.val d)) fun δ2 => QF .nx δ2) E δ := by
  unfold setS
  rw [wp_bind]
  congr 1
  funext d δ'
  rw [wp_bind, wp_storeM]
  rfl
@[simp ↓] theorem wp_setN {i : Nat} {m : M D} : wp (setN i m) QF E δ = wp m (fun d δ' => wpo (putAt δ' i (.own d)) fun δ2 => QF .nx δ2) E δ := by
  unfold setN
  rw [wp_bind]
  congr 1
  funext d δ'
  rw [wp_bind, wp_storeN]
  rfl
@[simp ↓] theorem wp_asgS {m : M D} {t : D → M Unit} : wp (asgS m t) QF E δ = wp m (fun d δ' => wp (t d) (fun _ δ2 => QF .nx δ2) E δ') E δ := by
  unfold asgS
  rw [wp_bind]
  congr 1
  funext d δ'
  rw [wp_bind]
  rfl
@[simp ↓] theorem wp_gTup {n : Nat} {t : List D → M Unit} {ds : List D} : wp (gTupM n t (.tup ds)) QU E δ = wpb (decide (ds.length = n)) (wp (t ds) QU E δ) False := by
  unfold gTupM
  rw [wp_ite]
  rfl
@[simp ↓] theorem wp_gsNil : wp (gsNil []) QU E δ = QU () δ := Eq.trans rfl rfl
@[simp ↓] theorem wp_gsCons {t : D → M Unit} {u : List D → M Unit} {d : D} {ds : List D} : wp (gsCons t u (d :: ds)) QU E δ = wp (t d) (fun _ δ' => wp (u ds) QU E δ') E δ := by
  unfold gsCons
  rw [wp_bind]
@[simp ↓] theorem wp_subT_m {f : D → D → D → Option D} {i : Nat} {m : M D} {d : D} : wp (subT f i (.m m) d) QU E δ = wpo (slotD δ i) fun _ => wp m (fun kd δ1 => wpo (mutAt δ1 i fun c => (f c kd d).map fun c' => (c', .non)) fun p => QU () p.2) E δ := by
  unfold subT unitM
  simp only [wp_bind, wp_pk, p1_m, wp_pure, p2_m, wp_mutI]
@[simp ↓] theorem wp_subT_s {f : D → D → D → Option D} {i j : Nat} {d : D} : wp (subT f i (.s j) d) QU E δ = wpo (slotD δ i) fun _ => wpo (slotD δ j) fun kd => wpo (mutAt δ i fun c => (f c kd d).map fun c' => (c', .non)) fun p => QU () p.2 := by
  unfold subT unitM
  simp only [wp_bind, wp_pk, p1_s, wp_pure, p2_s, wp_mutI]
  cases slotD δ i with
  | none => rfl
  | some x =>
    cases h : slotD δ j with
    | none => rfl
    | some y => rfl
@[simp ↓] theorem wp_fldS {cs : List Nat} {n : String} {i : Nat} {m : M D} : wp (fldS cs n i m) QF E δ = wp m (fun d δ1 => wpo (mutAt δ1 i (fldU cs n d)) fun p => QF .nx p.2) E δ := by
  unfold fldS
  simp only [wp_bind, wp_mutI, wp_pure]
@[simp ↓] theorem wp_mutM {T : String} {f : D → List D → Option (D × D)} {i : Nat} {ms : List (M D)} : wp (mutM T f i ms) Q E δ = wpo (slotD δ i) fun d0 => wpb (kindD T d0) (wp (evalC ms) (fun ds δ1 => wpo (mutAt δ1 i fun d => f d ds) fun p => Q p.1 p.2) E δ) False := by
  unfold mutM
  simp only [wp_bind, wp_pk]
  congr 1
  funext d0
  cases kindD T d0 with
  | true => simp only [if_true, wpb_t, wp_bind, wp_mutI]
  | false => rfl
/-! expressions -/
@[simp ↓] theorem wp_bin_mm {f : D → D → Option D} {a b : M D} : wp (binM f (.m a) (.m b)) Q E δ = wp a (fun x δ1 => wp b (fun y δ2 => wpo (f x y) fun d => Q d δ2) E δ1) E δ := by
  unfold binM
  simp only [wp_bind, p1_m, wp_pure, p2_m, wp_lift]
@[simp ↓] theorem wp_bin_ms {f : D → D → Option D} {a : M D} {j : Nat} : wp (binM f (.m a) (.s j)) Q E δ = wp a (fun x δ1 => wpo (slotD δ1 j) fun y => wpo (f x y) fun d => Q d δ1) E δ := by
  unfold binM
  simp only [wp_bind, p1_m, p1_s, wp_pure, p2_m, p2_s, wp_lift, wp_pk]
  congr 1
  funext x δ1
  cases slotD δ1 j <;> rfl
@[simp ↓] theorem wp_bin_sm {f : D → D → Option D} {i : Nat} {b : M D} : wp (binM f (.s i) (.m b)) Q E δ = wpo (slotD δ i) fun _ => wp b (fun y δ2 => wpo (slotD δ2 i) fun x => wpo (f x y) fun d => Q d δ2) E δ := by
  unfold binM
  simp only [wp_bind, p1_m, p1_s, wp_pure, p2_m, p2_s, wp_lift, wp_pk]
@[simp ↓] theorem wp_bin_ss {f : D → D → Option D} {i j : Nat} : wp (binM f (.s i) (.s j)) Q E δ = wpo (slotD δ i) fun x => wpo (slotD δ j) fun y => wpo (f x y) fun d => Q d δ := by
  unfold binM
  simp only [wp_bind, p1_s, wp_pure, p2_s, wp_lift, wp_pk]
  cases slotD δ i with
  | none => rfl
  | some x => cases slotD δ j <;> rfl
@[simp ↓] theorem wp_un_m {f : D → Option D} {a : M D} : wp (unM f (.m a)) Q E δ = wp a (fun x δ1 => wpo (f x) fun d => Q d δ1) E δ := by
  unfold unM
  simp only [wp_bind, p1_m, wp_pure, p2_m, wp_lift]
@[simp ↓] theorem wp_un_s {f : D → Option D} {i : Nat} : wp (unM f (.s i)) Q E δ = wpo (slotD δ i) fun x => wpo (f x) fun d => Q d δ := by
  unfold unM
  simp only [wp_bind, p1_s, wp_pure, p2_s, wp_lift, wp_pk]
  cases slotD δ i <;> rfl
@[simp ↓] theorem wp_binK {f : D → D → Option D} {a b : M D} : wp (binK f a b) Q E δ = wp a (fun x δ1 => wp b (fun y δ2 => wpo (f x y) fun d => Q d δ2) E δ1) E δ := by
  unfold binK
  simp only [wp_bind, wp_lift]
@[simp ↓] theorem wp_unK {f : D → Option D} {a : M D} : wp (unK f a) Q E δ = wp a (fun x δ1 => wpo (f x) fun d => Q d δ1) E δ := by
  unfold unK
  simp only [wp_bind, wp_lift]
@[simp ↓] theorem wp_args1_nil {R : List (Option D) → DEnv → Prop} : wp (args1 []) R E δ = R [] δ := Eq.trans rfl rfl
@[simp ↓] theorem wp_args1_m {R : List (Option D) → DEnv → Prop} {m : M D} {os : List Opd} : wp (args1 (.m m :: os)) R E δ = wp m (fun d δ1 => wp (args1 os) (fun xs δ2 => R (some d :: xs) δ2) E δ1) E δ := by
  rw [args1]
  simp only [wp_bind, p1_m, wp_pure]
@[simp ↓] theorem wp_args1_s {R : List (Option D) → DEnv → Prop} {i : Nat} {os : List Opd} : wp (args1 (.s i :: os)) R E δ = wpo (slotD δ i) fun _ => wp (args1 os) (fun xs δ2 => R (none :: xs) δ2) E δ := by
  rw [args1]
  simp only [wp_bind, p1_s, wp_pure, wp_pk]
@[simp ↓] theorem wp_args2_nil {xs : List (Option D)} : wp (args2 [] xs) QL E δ = QL [] δ := by cases xs <;> rfl
@[simp ↓] theorem wp_args2_m {m : M D} {os : List Opd} {d : D} {xs : List (Option D)} : wp (args2 (.m m :: os) (some d :: xs)) QL E δ = wp (args2 os xs) (fun ds δ2 => QL (d :: ds) δ2) E δ := by
  rw [args2]
  simp only [wp_bind, p2_m, wp_pure]
@[simp ↓] theorem wp_args2_s {i : Nat} {os : List Opd} {xs : List (Option D)} : wp (args2 (.s i :: os) (none :: xs)) QL E δ = wpo (slotD δ i) fun d => wp (args2 os xs) (fun ds δ2 => QL (d :: ds) δ2) E δ := by
  rw [args2]
  simp only [wp_bind, p2_s, wp_pure, wp_pk]
@[simp ↓] theorem wp_callM {f : List D → Option D} {os : List Opd} : wp (callM f os) Q E δ = wp (args1 os) (fun xs δ1 => wp (args2 os xs) (fun ds δ2 => wpo (f ds) fun d => Q d δ2) E δ1) E δ := by
  unfold callM
  simp only [wp_bind, wp_lift]
@[simp ↓] theorem wp_evalC_nil : wp (evalC []) QL E δ = QL [] δ := Eq.trans rfl rfl
@[simp ↓] theorem wp_evalC_cons {m : M D} {ms : List (M D)} : wp (evalC (m :: ms)) QL E δ = wp m (fun d δ1 => wp (evalC ms) (fun ds δ2 => QL (d :: ds) δ2) E δ1) E δ := by
  rw [evalC]
  simp only [wp_bind, wp_pure]
@[simp ↓] theorem wp_callKM {f : List D → Option D} {ms : List (M D)} : wp (callKM f ms) Q E δ = wp (evalC ms) (fun ds δ1 => wpo (f ds) fun d => Q d δ1) E δ := by
  unfold callKM
  simp only [wp_bind, wp_lift]
@[simp ↓] theorem wp_tupM {ms : List (M D)} : wp (tupM ms) Q E δ = wp (evalC ms) (fun ds δ1 => wpb (shortS ds.length) (Q (.tup ds) δ1) False) E δ := by
  unfold tupM
  rw [wp_bind]
  congr 1
  funext ds δ1
  cases shortS ds.length <;> rfl
@[simp ↓] theorem wp_lstM {ms : List (M D)} : wp (lstM ms) Q E δ = wp (evalC ms) (fun ds δ1 => wpb (shortS ds.length) (Q (.lst ds) δ1) False) E δ := by
  unfold lstM
  rw [wp_bind]
  congr 1
  funext ds δ1
  cases shortS ds.length <;> rfl
@[simp ↓] theorem wp_ifM {t : M Bool} {a b : M D} : wp (ifM t a b) Q E δ = wp t (fun c δ' => wpb c (wp a Q E δ') (wp b Q E δ')) E δ := by
  unfold ifM
  rw [wp_bind]
  congr 1
  funext c δ'
  cases c <;> rfl
@[simp ↓] theorem wp_testM {m : M D} : wp (testM m) QB E δ = wp m (fun d δ1 => wpo (asB d) fun b => QB b δ1) E δ := by
  unfold testM
  simp only [wp_bind, wp_lift]
@[simp ↓] theorem wp_truth_m {m : M D} : wp (truthM (.m m)) QB E δ = wp m (fun d δ1 => wpo (truthD d) fun b => QB b δ1) E δ := by
  unfold truthM
  simp only [wp_bind, p1_m, wp_pure, p2_m, wp_lift]
@[simp ↓] theorem wp_truth_s {i : Nat} : wp (truthM (.s i)) QB E δ = wpo (slotD δ i) fun d => wpo (truthD d) fun b => QB b δ := by
  unfold truthM
  simp only [wp_bind, p1_s, wp_pure, p2_s, wp_lift, wp_pk]
  cases slotD δ i <;> rfl
@[simp ↓] theorem wp_andM {a b : M Bool} : wp (G.andM a b) QB E δ = wp a (fun c δ' => wpb c (wp b QB E δ') (QB false δ')) E δ := by
  unfold G.andM
  rw [wp_bind]
  congr 1
  funext c δ'
  cases c <;> rfl
@[simp ↓] theorem wp_orM {a b : M Bool} : wp (G.orM a b) QB E δ = wp a (fun c δ' => wpb c (QB true δ') (wp b QB E δ')) E δ := by
  unfold G.orM
  rw [wp_bind]
  congr 1
  funext c δ'
  cases c <;> rfl
@[simp ↓] theorem wp_notM {a : M Bool} : wp (G.notM a) QB E δ = wp a (fun c δ' => QB (!c) δ') E δ := by
  unfold G.notM
  simp only [wp_bind, wp_pure]
@[simp ↓] theorem wp_andV {a b : M D} : wp (andV a b) Q E δ = wp a (fun d δ' => wpo (truthD d) fun c => wpb c (wp b Q E δ') (Q d δ')) E δ := by
  unfold andV
  simp only [wp_bind, wp_lift]
  congr 1
  funext d δ'
  congr 1
  funext c
  cases c <;> rfl
@[simp ↓] theorem wp_orV {a b : M D} : wp (orV a b) Q E δ = wp a (fun d δ' => wpo (truthD d) fun c => wpb c (Q d δ') (wp b Q E δ')) E δ := by
  unfold orV
  simp only [wp_bind, wp_lift]
  congr 1
  funext d δ'
  congr 1
  funext c
  cases c <;> rfl
@[simp ↓] theorem wp_not_m {a : M D} : wp (notV (.m a)) Q E δ = wp a (fun d δ' => wpo (truthD d) fun c => Q (.bl (!c)) δ') E δ := by
  unfold notV
  simp only [wp_bind, p1_m, wp_pure, p2_m, wp_lift]
@[simp ↓] theorem wp_not_s {i : Nat} : wp (notV (.s i)) Q E δ = wpo (slotD δ i) fun d => wpo (truthD d) fun c => Q (.bl (!c)) δ := by
  unfold notV
  simp only [wp_bind, p1_s, wp_pure, p2_s, wp_lift, wp_pk]
  cases slotD δ i <;> rfl
/-- a op b op c -/
@[simp ↓] theorem wp_chain {f f' : D → D → Option D} {a b c : Opd} : wp (chainM f f' a b c) Q E δ = wp a.p1 (fun x δ1 => wp b.p1 (fun y δ2 => wp (a.p2 x) (fun dx δ3 => wp (b.p2 y) (fun dy δ4 => wpo (f dx dy) fun z => wpo (asB z) fun k => wpb k (wp c.p1 (fun u δ5 => wp (b.p2 y) (fun dy δ6 => wp (c.p2 u) (fun dz δ7 => wpo (f' dy dz) fun d => Q d δ7) E δ6) E δ5) E δ4) (Q (.bl false) δ4)) E δ3) E δ2) E δ1) E δ := by
  unfold chainM
  simp only [wp_bind, wp_lift]
  congr 1
  funext x δ1
  congr 1
  funext y δ2
  congr 1
  funext dx δ3
  congr 1
  funext dy δ4
  congr 1
  funext z
  congr 1
  funext k
  cases k
  · rfl
  · simp only [if_true, wpb_t, wp_bind, wp_lift]
@[simp ↓] theorem wp_p1m {R : Option D → DEnv → Prop} {m : M D} : wp (Opd.m m).p1 R E δ = wp m (fun d δ1 => R (some d) δ1) E δ := by
  simp only [p1_m, wp_bind, wp_pure]
@[simp ↓] theorem wp_p1s {R : Option D → DEnv → Prop} {i : Nat} : wp (Opd.s i).p1 R E δ = wpo (slotD δ i) fun _ => R none δ := by
  simp only [p1_s, wp_bind, wp_pure, wp_pk]
@[simp ↓] theorem wp_p2m {m : M D} {d : D} : wp ((Opd.m m).p2 (some d)) Q E δ = Q d δ := Eq.trans rfl rfl
@[simp ↓] theorem wp_p2s {i : Nat} : wp ((Opd.s i).p2 none) Q E δ = wpo (slotD δ i) fun d => Q d δ := by
  rw [p2_s, wp_pk]
end
end G
set_option maxRecDepth 100000
set_option maxHeartbeats 4000000
namespace G
open PySem PySem.Spec PyProof.Rows L2
section
variable {α : Type} {Q : D → DEnv → Prop} {QF : Fl → DEnv → Prop} {QB : Bool → DEnv → Prop} {QU : Unit → DEnv → Prop} {QL : List D → DEnv → Prop} {QS : SD → DEnv → Prop} {E : Ex → DEnv → Prop} {δ : DEnv}
/-! calls -/
@[simp ↓] theorem wp_pass_nil {R : List SD → DEnv → Prop} : wp (passAll [] []) R E δ = R [] δ := Eq.trans rfl rfl
@[simp ↓] theorem wp_pass_m {R : List SD → DEnv → Prop} {m : M D} {os : List Opd} {d : D} {xs : List (Option D)} : wp (passAll (.m m :: os) (some d :: xs)) R E δ = wp (passAll os xs) (fun ds δ2 => R (.val d :: ds) δ2) E δ := by
  rw [passAll]
  simp only [wp_bind, pass_m, wp_pure]
@[simp ↓] theorem wp_pass_s {R : List SD → DEnv → Prop} {i : Nat} {os : List Opd} {xs : List (Option D)} : wp (passAll (.s i :: os) (none :: xs)) R E δ = wpo (passAt δ i) fun s => wp (passAll os xs) (fun ds δ2 => R (s :: ds) δ2) E δ := by
  rw [passAll]
  simp only [wp_bind, pass_s, wp_passI, wp_pure]
@[simp ↓] theorem wp_runC {f : List SD → R SD} {os : List Opd} {sds : List SD} : wp (runC f os sds) QS E δ = wpF f sds (fun r rs => QS r (backN (ixs os) rs δ)) (fun x rs => E x (backN (ixs os) rs δ)) := by
  unfold wp runC wpF
  cases f sds <;> simp only [backN_eq]
@[simp ↓] theorem wp_callS {f : List SD → R SD} {os : List Opd} : wp (callS f os) QS E δ = wp (args1 os) (fun xs δ1 => wp (passAll os xs) (fun sds δ2 => wpF f sds (fun r rs => QS r (backN (ixs os) rs δ2)) (fun x rs => E x (backN (ixs os) rs δ2))) E δ1) E δ := by
  unfold callS
  simp only [wp_bind, wp_runC]
def keptP : SD → (D → Prop) → Prop
  | .val d, R => R d
  | .own d, R => R d
  | _, _ => False
@[simp ↓] theorem keptP_v (d : D) (R : D → Prop) : keptP (.val d) R = R d := Eq.trans rfl rfl
@[simp ↓] theorem keptP_o (d : D) (R : D → Prop) : keptP (.own d) R = R d := Eq.trans rfl rfl
@[simp ↓] theorem wp_keptR {m : M SD} : wp (keptR m) Q E δ = wp m (fun s δ' => keptP s fun d => Q d δ') E δ := by
  unfold keptR
  rw [wp_bind]
  congr 1
  funext s δ'
  cases s <;> rfl
def ownP : SD → (D → Prop) → Prop
  | .own d, R => R d
  | _, _ => False
@[simp ↓] theorem ownP_o (d : D) (R : D → Prop) : ownP (.own d) R = R d := Eq.trans rfl rfl
@[simp ↓] theorem wp_ownR {m : M SD} : wp (ownR m) Q E δ = wp m (fun s δ' => ownP s fun d => Q d δ') E δ := by
  unfold ownR
  rw [wp_bind]
  congr 1
  funext s δ'
  cases s <;> rfl
def mkP : SD → List SD → (SD → List SD → Prop) → Prop
  | .val .non, r :: rs, K => K r rs
  | _, _, _ => False
@[simp ↓] theorem mkP_v (r : SD) (rs : List SD) (K : SD → List SD → Prop) : mkP (.val .non) (r :: rs) K = K r rs := Eq.trans rfl rfl
def mkE : List SD → (List SD → Prop) → Prop
  | _ :: rs, K => K rs
  | _, _ => False
@[simp ↓] theorem mkE_v (r : SD) (rs : List SD) (K : List SD → Prop) : mkE (r :: rs) K = K rs := Eq.trans rfl rfl
@[simp ↓] theorem wp_runMk {f : List SD → R SD} {c : Nat} {os : List Opd} {sds : List SD} : wp (runMk f c os sds) QS E δ = wpF f (.own (.obj c []) :: sds) (fun r rs => mkP r rs fun r rs' => QS r (backN (ixs os) rs' δ)) (fun x rs => mkE rs fun rs' => E x (backN (ixs os) rs' δ)) := by
  unfold wp runMk wpF
  cases f (.own (.obj c []) :: sds) with
  | ok r rs =>
    cases r with
    | val d =>
      cases d with
      | non => cases rs with | nil => rfl | cons r rs => simp only [mkP_v, backN_eq]
      | _ => rfl
    | _ => rfl
  | exc x rs => cases rs with | nil => rfl | cons r rs => simp only [mkE_v, backN_eq]
  | bad => rfl
@[simp ↓] theorem wp_makeS {f : List SD → R SD} {c : Nat} {os : List Opd} : wp (makeS c f os) QS E δ = wp (args1 os) (fun xs δ1 => wp (passAll os xs) (fun sds δ2 => wp (runMk f c os sds) QS E δ2) E δ1) E δ := by
  unfold makeS
  simp only [wp_bind]
/-- the slots of operands in another order, constants behind -/
def ixsP (ix : List Nat) (is : List (Option Nat)) : List (Option Nat) := ix.map fun i => (is[i]?).join
def pickL {α : Type} (ix : List Nat) (l : List α) : List α := permL ix l
theorem ixs_get : ∀ (os : List Opd) (i : Nat), (ixs os)[i]? = (os[i]?).map Opd.ix
  | [], i => by simp [ixs]
  | o :: os, 0 => by simp [ixs]
  | o :: os, i + 1 => by simp [ixs, ixs_get os i]
theorem ixs_perm {ds : List D} {os : List Opd} : ∀ {ix : List Nat}, (∀ i ∈ ix, i < os.length + ds.length) → ixs (permL ix (os ++ dOps ds)) = ixsP ix (ixs os)
  | [], _ => rfl
  | i :: ix, h => by
    have hi := h i (List.mem_cons_self ..)
    have e : ∃ o, (os ++ dOps ds)[i]? = some o ∧ o.ix = ((ixs os)[i]?).join := by
      rw [ixs_get]
      by_cases z : i < os.length
      · refine ⟨os[i], ?_, ?_⟩
        · rw [List.getElem?_append_left z]; simp [z]
        · simp [z]
      · have z2 : i - os.length < ds.length := by omega
        refine ⟨.m (M.pure ds[i - os.length]), ?_, ?_⟩
        · rw [List.getElem?_append_right (by omega)]; unfold dOps; simp [z2]
        · have : os[i]? = none := List.getElem?_eq_none (by omega)
          rw [this]
          rfl
    obtain ⟨o, e1, e2⟩ := e
    have ih := ixs_perm (ds := ds) (os := os) (ix := ix) fun j hj => h j (List.mem_cons_of_mem _ hj)
    have e3 : permL (i :: ix) (os ++ dOps ds) = o :: permL ix (os ++ dOps ds) := by
      unfold permL
      rw [List.filterMap_cons, e1]
    rw [e3]
    show o.ix :: ixs (permL ix (os ++ dOps ds)) = ((ixs os)[i]?).join :: ixsP ix (ixs os)
    rw [ih, e2]
@[simp] theorem ixsP_nil (is : List (Option Nat)) : ixsP [] is = [] := Eq.trans rfl rfl
@[simp] theorem ixsP_cons (i : Nat) (ix : List Nat) (is : List (Option Nat)) : ixsP (i :: ix) is = (is[i]?).join :: ixsP ix is := Eq.trans rfl rfl
theorem wp_callKS {f : List SD → R SD} {ix : List Nat} {ds : List D} {os : List Opd} (h : ix.all (fun i => decide (i < os.length + ds.length)) = true) : wp (callKS f ix ds os) QS E δ = wp (args1 os) (fun xs δ1 => wp (passAll os xs) (fun sds δ2 => wpF f (permL ix (sds ++ ds.map SD.val)) (fun r rs => QS r (backN (ixsP ix (ixs os)) rs δ2)) (fun x rs => E x (backN (ixsP ix (ixs os)) rs δ2))) E δ1) E δ := by
  have h' : ∀ i ∈ ix, i < os.length + ds.length := fun i hi => of_decide_eq_true (List.all_eq_true.mp h i hi)
  unfold callKS
  simp only [wp_bind, wp_runC, ixs_perm h']
theorem wp_makeKS {f : List SD → R SD} {c : Nat} {ix : List Nat} {ds : List D} {os : List Opd} (h : ix.all (fun i => decide (i < os.length + ds.length)) = true) : wp (makeKS c f ix ds os) QS E δ = wp (args1 os) (fun xs δ1 => wp (passAll os xs) (fun sds δ2 => wpF f (.own (.obj c []) :: permL ix (sds ++ ds.map SD.val)) (fun r rs => mkP r rs fun r rs' => QS r (backN (ixsP ix (ixs os)) rs' δ2)) (fun x rs => mkE rs fun rs' => E x (backN (ixsP ix (ixs os)) rs' δ2))) E δ1) E δ := by
  have h' : ∀ i ∈ ix, i < os.length + ds.length := fun i hi => of_decide_eq_true (List.all_eq_true.mp h i hi)
  unfold makeKS
  simp only [wp_bind, wp_runMk, ixs_perm h']
@[simp ↓] theorem wp_callN1 {f : List SD → R SD} {m : M D} : wp (callN1 f m) QS E δ = wp m (fun d δ1 => wpF f [.own d] (fun r _ => QS r δ1) (fun x _ => E x δ1)) E δ := by
  unfold callN1
  rw [wp_bind]
  congr 1
  funext d δ1
  unfold wp runN1 wpF
  cases f [.own d] <;> rfl
@[simp ↓] theorem wp_fnM {f : List SD → R SD} {sds : List SD} : wp (fnM f sds) Q E δ = wpF f sds (fun r _ => keptP r fun d => Q d δ) (fun x _ => E x δ) := by
  unfold wp fnM wpF
  cases f sds with
  | ok r rs => cases r <;> rfl
  | exc x rs => rfl
  | bad => rfl
@[simp ↓] theorem wp_binX {tl tr : Tab} {kl kr : List TK} {g : D → D → Option D} {a b : M D} : wp (binX tl tr kl kr g a b) Q E δ = wp a (fun x δ1 => wp b (fun y δ2 => wp (opX tl tr kl kr g x y) Q E δ2) E δ1) E δ := by
  unfold binX
  simp only [wp_bind]
@[simp] theorem opX_ii {tl tr : Tab} {kl kr : List TK} {g : D → D → Option D} {i j : Int} : opX tl tr kl kr g (.int i) (.int j) = lift (g (.int i) (.int j)) := Eq.trans rfl rfl
@[simp ↓] theorem wp_augX {tl : Tab} {kl : List TK} {g : D → D → Option D} {i : Nat} {m : M D} : wp (augX tl kl g i m) QF E δ = wpo (slotD δ i) fun a => wp m (fun b δ1 => wp (opI tl kl g a b) (fun z δ2 => wpo (putAt δ2 i (.val z)) fun δ3 => QF .nx δ3) E δ1) E (frzAt δ i) := by
  unfold augX
  simp only [wp_bind, wp_getV, wp_storeM, wp_pure]
@[simp ↓] theorem wp_augSubX {tl : Tab} {kl : List TK} {g : D → D → Option D} {i : Nat} {mi m : M D} : wp (augSubX tl kl g i mi m) QF E δ = wpo (slotD δ i) fun _ => wp mi (fun kd δ1 => wpo (slotD δ1 i) fun c => wpo (getI c kd) fun a => wp m (fun b δ2 => wp (opI tl kl g a b) (fun z δ3 => wpo (mutAt δ3 i fun c => (setLDD c kd z).map fun c' => (c', .non)) fun p => QF .nx p.2) E δ2) E δ1) E δ := by
  unfold augSubX
  simp only [wp_bind, wp_pk, wp_lift, wp_mutI, wp_pure]
/-! attributes, methods -/
def objP : D → (Nat → List (String × D) → Prop) → Prop
  | .obj c fs, K => K c fs
  | _, _ => False
@[simp ↓] theorem objP_o (c : Nat) (fs : List (String × D)) (K : Nat → List (String × D) → Prop) : objP (.obj c fs) K = K c fs := Eq.trans rfl rfl
@[simp ↓] theorem wp_attr_s {n : String} {tab : List (Nat × Acc)} {i : Nat} : wp (attrM n tab (.s i)) Q E δ = wpo (slotD δ i) fun d => objP d fun c fs => wp (accM n (.s i) none fs (tab.lookup c)) Q E δ := by
  unfold attrM
  simp only [wp_bind, p1_s, p2_s, wp_pk, wp_pure]
  cases slotD δ i with
  | none => rfl
  | some d => cases d <;> rfl
@[simp ↓] theorem wp_attr_m {n : String} {tab : List (Nat × Acc)} {m : M D} : wp (attrM n tab (.m m)) Q E δ = wp m (fun d δ1 => objP d fun c fs => wp (accM n (.m m) (some d) fs (tab.lookup c)) Q E δ1) E δ := by
  unfold attrM
  simp only [wp_bind, p1_m, p2_m, wp_pure]
  congr 1
  funext d δ1
  cases d <;> rfl
@[simp ↓] theorem wp_acc_fld {n : String} {o : Opd} {x : Option D} {fs : List (String × D)} : wp (accM n o x fs (some .fld)) Q E δ = wpo (fs.lookup n) fun d => Q d δ := by
  show wp (lift _) Q E δ = _
  rw [wp_lift]
@[simp ↓] theorem wp_acc_con {n : String} {o : Opd} {x : Option D} {fs : List (String × D)} {d : D} : wp (accM n o x fs (some (.con d))) Q E δ = wpb (fs.lookup n).isNone (Q d δ) False := by
  show wp (if _ then _ else _) Q E δ = _
  rw [wp_ite]
  cases (fs.lookup n).isNone <;> rfl
@[simp ↓] theorem wp_acc_prop_m {n : String} {m : M D} {d : D} {fs : List (String × D)} {fn : List SD → R SD} : wp (accM n (.m m) (some d) fs (some (.prop fn))) Q E δ = wpF fn [.val d] (fun r _ => keptP r fun d => Q d δ) (fun _ _ => False) := by
  show wp (keptR (((Opd.m m).pass (some d)).bind fun sd => runC (quietF fn) [.m m] [sd])) Q E δ = _
  simp only [wp_keptR, wp_bind, pass_m, wp_pure, wp_runC, ixs_m, ixs_nil, backN_m, backN_nil]
  unfold wpF quietF
  cases fn [.val d] <;> rfl
@[simp ↓] theorem wp_acc_prop_s {n : String} {i : Nat} {fs : List (String × D)} {fn : List SD → R SD} : wp (accM n (.s i) none fs (some (.prop fn))) Q E δ = wpo (passAt δ i) fun s => wpF fn [s] (fun r rs => keptP r fun d => Q d (backAt i rs.head? δ δ)) (fun _ _ => False) := by
  show wp (keptR (((Opd.s i).pass none).bind fun sd => runC (quietF fn) [.s i] [sd])) Q E δ = _
  simp only [wp_keptR, wp_bind, pass_s, wp_passI, wp_runC, ixs_s, ixs_nil, backN_s, backN_nil]
  congr 1
  funext s
  unfold wpF quietF
  cases fn [s] <;> rfl
@[simp ↓] theorem wp_meth_m {n : String} {tab : List (Nat × (List SD → R SD))} {m : M D} {os : List Opd} : wp (methM n tab (.m m) os) QS E δ = wp m (fun d δ1 => objP d fun c fs => wpo (tab.lookup c) fun fn => wpb (fs.lookup n).isNone (wp (args1 os) (fun xs δ2 => wp (passAll os xs) (fun sds δ3 => wpF fn (.val d :: sds) (fun r rs => QS r (backN (ixs os) rs.tail δ3)) (fun x rs => E x (backN (ixs os) rs.tail δ3))) E δ2) E δ1) False) E δ := by
  unfold methM
  simp only [wp_bind, p1_m, p2_m, wp_pure]
  congr 1
  funext d δ1
  cases d with
  | obj c fs =>
    simp only [objP_o]
    cases tab.lookup c with
    | none => rfl
    | some fn =>
      simp only [wpo_some]
      cases (fs.lookup n).isNone with
      | false => rfl
      | true => simp only [if_true, wpb_t, wp_bind, wp_pass_m, wp_runC, ixs_m, backN_m]
  | _ => rfl
@[simp ↓] theorem wp_meth_s {n : String} {tab : List (Nat × (List SD → R SD))} {i : Nat} {os : List Opd} : wp (methM n tab (.s i) os) QS E δ = wpo (slotD δ i) fun d => objP d fun c fs => wpo (tab.lookup c) fun fn => wpb (fs.lookup n).isNone (wp (args1 os) (fun xs δ2 => wpo (passAt δ2 i) fun s => wp (passAll os xs) (fun sds δ3 => wpF fn (s :: sds) (fun r rs => QS r (backN (some i :: ixs os) rs δ3)) (fun x rs => E x (backN (some i :: ixs os) rs δ3))) E δ2) E δ) False := by
  unfold methM
  simp only [wp_bind, p1_s, p2_s, wp_pure, wp_pk]
  cases slotD δ i with
  | none => rfl
  | some d =>
    simp only [wpo_some]
    cases d with
    | obj c fs =>
      simp only [objP_o]
      cases tab.lookup c with
      | none => rfl
      | some fn =>
        simp only [wpo_some]
        cases (fs.lookup n).isNone with
        | false => rfl
        | true => simp only [if_true, wpb_t, wp_bind, wp_pass_s, wp_runC, ixs_s]
    | _ => rfl
theorem wp_methK_m {n : String} {tab : List (Nat × (List SD → R SD))} {ix : List Nat} {ds : List D} {m : M D} {os : List Opd} (h : ix.all (fun i => decide (i < os.length + 1 + ds.length)) = true) : wp (methKM n tab ix ds (.m m) os) QS E δ = wp m (fun d δ1 => objP d fun c fs => wpo (tab.lookup c) fun fn => wpb (fs.lookup n).isNone (wp (args1 os) (fun xs δ2 => wp (passAll os xs) (fun sds δ3 => wpF fn (permL ix (.val d :: sds ++ ds.map SD.val)) (fun r rs => QS r (backN (ixsP ix (none :: ixs os)) rs δ3)) (fun x rs => E x (backN (ixsP ix (none :: ixs os)) rs δ3))) E δ2) E δ1) False) E δ := by
  have h' : ∀ i ∈ ix, i < (Opd.m m :: os).length + ds.length := fun i hi => of_decide_eq_true (List.all_eq_true.mp h i hi)
  unfold methKM
  simp only [wp_bind, p1_m, p2_m, wp_pure]
  congr 1
  funext d δ1
  cases d with
  | obj c fs =>
    simp only [objP_o]
    cases tab.lookup c with
    | none => rfl
    | some fn =>
      simp only [wpo_some]
      cases (fs.lookup n).isNone with
      | false => rfl
      | true =>
        simp only [if_true, wpb_t, wp_bind, wp_pass_m, wp_runC]
        rw [show (Opd.m m :: os) ++ dOps ds = Opd.m m :: os ++ dOps ds from rfl]
        rw [ixs_perm h', ixs_m]
  | _ => rfl
theorem wp_methK_s {n : String} {tab : List (Nat × (List SD → R SD))} {ix : List Nat} {ds : List D} {i : Nat} {os : List Opd} (h : ix.all (fun i => decide (i < os.length + 1 + ds.length)) = true) : wp (methKM n tab ix ds (.s i) os) QS E δ = wpo (slotD δ i) fun d => objP d fun c fs => wpo (tab.lookup c) fun fn => wpb (fs.lookup n).isNone (wp (args1 os) (fun xs δ2 => wpo (passAt δ2 i) fun s => wp (passAll os xs) (fun sds δ3 => wpF fn (permL ix (s :: sds ++ ds.map SD.val)) (fun r rs => QS r (backN (ixsP ix (some i :: ixs os)) rs δ3)) (fun x rs => E x (backN (ixsP ix (some i :: ixs os)) rs δ3))) E δ2) E δ) False := by
  have h' : ∀ j ∈ ix, j < (Opd.s i :: os).length + ds.length := fun i hi => of_decide_eq_true (List.all_eq_true.mp h i hi)
  unfold methKM
  simp only [wp_bind, p1_s, p2_s, wp_pure, wp_pk]
  cases slotD δ i with
  | none => rfl
  | some d =>
    simp only [wpo_some]
    cases d with
    | obj c fs =>
      simp only [objP_o]
      cases tab.lookup c with
      | none => rfl
      | some fn =>
        simp only [wpo_some]
        cases (fs.lookup n).isNone with
        | false => rfl
        | true =>
          simp only [if_true, wpb_t, wp_bind, wp_pass_s, wp_runC]
          rw [show (Opd.s i :: os) ++ dOps ds = Opd.s i :: os ++ dOps ds from rfl]
          rw [ixs_perm h', ixs_s]
    | _ => rfl
end
end G
set_option maxRecDepth 100000
set_option maxHeartbeats 4000000
namespace G
open PySem PySem.Spec PyProof.Rows L2
section
variable {α β : Type} {Q : D → DEnv → Prop} {QF : Fl → DEnv → Prop} {QB : Bool → DEnv → Prop} {QU : Unit → DEnv → Prop} {QL : List D → DEnv → Prop} {QS : SD → DEnv → Prop} {QO : Option D → DEnv → Prop} {E : Ex → DEnv → Prop} {δ : DEnv}
/-! blocks -/
def blkN : List Nat → DEnv → DEnv := blkF 0
def unN (vs : List Nat) (δ δ2 : DEnv) : DEnv := unF 0 vs δ δ2
@[simp ↓] theorem wp_evalB {m : M D} : wp (evalB m) Q E δ = wp m (fun r δ2 => Q r (unF 0 [] δ δ2)) (fun x δ2 => E x (unF 0 [] δ δ2)) (blkF 0 [] δ) := by
  unfold wp evalB
  rw [blk_eq]
  cases m (blkF 0 [] δ) <;> simp only [un_eq]
@[simp ↓] theorem wp_parE_nil {R : List SD → DEnv → Prop} : wp (parE []) R E δ = R [] δ := Eq.trans rfl rfl
@[simp ↓] theorem wp_parE_cons {R : List SD → DEnv → Prop} {b : Bool} {m : M D} {r : List (Bool × M D)} : wp (parE ((b, m) :: r)) R E δ = wp (evalB m) (fun d δ1 => wp (parE r) (fun ds δ2 => R (mkSD b d :: ds) δ2) E δ1) E δ := by
  rw [parE]
  simp only [wp_bind, wp_pure]
@[simp ↓] theorem wp_parT_nil : wp (parT [] []) QU E δ = QU () δ := Eq.trans rfl rfl
@[simp ↓] theorem wp_parT_v {i : Nat} {is : List Nat} {d : D} {ds : List SD} : wp (parT (i :: is) (.val d :: ds)) QU E δ = wpo (putAt δ i (.val d)) fun δ' => wp (parT is ds) QU E δ' := by
  rw [parT]
  simp only [wp_bind, storeT_v, wp_storeM]
@[simp ↓] theorem wp_parT_o {i : Nat} {is : List Nat} {d : D} {ds : List SD} : wp (parT (i :: is) (.own d :: ds)) QU E δ = wpo (putAt δ i (.own d)) fun δ' => wp (parT is ds) QU E δ' := by
  rw [parT]
  simp only [wp_bind, storeT_o, wp_storeN]
@[simp ↓] theorem wp_parS {cs : List (Bool × M D)} {is : List Nat} : wp (parS cs is) QF E δ = wp (parE cs) (fun sds δ1 => wp (parT is sds) (fun _ δ2 => QF .nx δ2) E δ1) E δ := by
  unfold parS
  simp only [wp_bind, wp_pure]
/-! loops -/
@[simp ↓] theorem wp_forS {m : M (List D)} {t : D → M Unit} {b u : M Fl} : wp (forS m t b u) QF E δ = wp m (fun ds δ1 => wp (forLoop t b u ds) QF E δ1) E δ := by
  unfold forS
  rw [wp_bind]
theorem wp_for_nil {t : D → M Unit} {b u : M Fl} : wp (forLoop t b u []) QF E δ = wp u QF E δ := rfl
theorem wp_for_cons {t : D → M Unit} {b u : M Fl} {d : D} {ds : List D} : wp (forLoop t b u (d :: ds)) QF E δ = wp (t d) (fun _ δ1 => wp b (fun f δ2 => match f with
    | .nx => wp (forLoop t b u ds) QF E δ2
    | .ct => wp (forLoop t b u ds) QF E δ2
    | .bk => QF .nx δ2
    | .rt r => QF (.rt r) δ2) E δ1) E δ := by
  unfold wp
  rw [forLoop]
  dsimp only [wp]
  cases t d δ with
  | bad => rfl
  | exc x δ1 => rfl
  | ok a δ1 =>
    dsimp only
    cases b δ1 with
    | bad => rfl
    | exc x δ2 => rfl
    | ok f δ2 => cases f <;> rfl
/-- a loop over mapped items, by what holds ahead of each turn (done, rest) -/
theorem wp_for {t : D → M Unit} {b u : M Fl} (g : β → D) (Inv : List β → List β → DEnv → Prop) (all : List β) (h0 : Inv [] all δ)
    (step : ∀ done x rest δ, done ++ x :: rest = all → Inv done (x :: rest) δ → wp (t (g x)) (fun _ δ1 => wp b (fun f δ2 => match f with
      | .nx => Inv (done ++ [x]) rest δ2
      | .ct => Inv (done ++ [x]) rest δ2
      | .bk => QF .nx δ2
      | .rt r => QF (.rt r) δ2) E δ1) E δ)
    (fin : ∀ δ, Inv all [] δ → wp u QF E δ) : wp (forLoop t b u (all.map g)) QF E δ := by
  have go : ∀ (rest done : List β) (δ : DEnv), done ++ rest = all → Inv done rest δ → wp (forLoop t b u (rest.map g)) QF E δ := fun rest => by
    induction rest with
    | nil => intro done δ e h; rw [List.append_nil] at e; subst e; exact fin δ h
    | cons x rest ih =>
      intro done δ e h
      rw [List.map_cons, wp_for_cons]
      refine wp_mono (step done x rest δ e h) (fun _ δ1 h1 => ?_) fun _ _ e => e
      refine wp_mono h1 (fun f δ2 h2 => ?_) fun _ _ e => e
      cases f with
      | nx => exact ih (done ++ [x]) δ2 (by simpa using e) h2
      | ct => exact ih (done ++ [x]) δ2 (by simpa using e) h2
      | bk => exact h2
      | rt r => exact h2
  exact go all [] δ rfl h0
@[simp ↓] theorem wp_whileS {n : Nat} {c : M Bool} {b u : M Fl} : wp (whileS n c b u) QF E δ = wp (whileLoop c b u n) QF E δ := Eq.trans rfl rfl
theorem wp_while_s {n : Nat} {c : M Bool} {b u : M Fl} : wp (whileLoop c b u (n + 1)) QF E δ = wp c (fun k δ1 => wpb k (wp b (fun f δ2 => match f with
    | .nx => wp (whileLoop c b u n) QF E δ2
    | .ct => wp (whileLoop c b u n) QF E δ2
    | .bk => QF .nx δ2
    | .rt r => QF (.rt r) δ2) E δ1) (wp u QF E δ1)) E δ := by
  unfold wp
  rw [whileLoop]
  dsimp only [wp]
  cases c δ with
  | bad => rfl
  | exc x δ1 => rfl
  | ok k δ1 =>
    cases k with
    | false => rfl
    | true =>
      dsimp only [wpb, wp]
      rw [if_pos rfl]
      cases b δ1 with
      | bad => rfl
      | exc x δ2 => rfl
      | ok f δ2 => cases f <;> rfl
/-- a while by an invariant over a state of one's own and a number that falls -/
theorem wp_while {n : Nat} {c : M Bool} {b u : M Fl} (Inv : β → DEnv → Prop) (μ : β → Nat) (x0 : β) (h0 : Inv x0 δ) (hn : μ x0 < n)
    (step : ∀ x δ, Inv x δ → wp c (fun k δ1 => wpb k (wp b (fun f δ2 => match f with
      | .nx => ∃ y, Inv y δ2 ∧ μ y < μ x
      | .ct => ∃ y, Inv y δ2 ∧ μ y < μ x
      | .bk => QF .nx δ2
      | .rt r => QF (.rt r) δ2) E δ1) (wp u QF E δ1)) E δ) : wp (whileLoop c b u n) QF E δ := by
  have go : ∀ (n : Nat) (x : β) (δ : DEnv), Inv x δ → μ x < n → wp (whileLoop c b u n) QF E δ := fun n => by
    induction n with
    | zero => intro x δ _ h; omega
    | succ n ih =>
      intro x δ h hm
      rw [wp_while_s]
      refine wp_mono (step x δ h) (fun k δ1 h1 => ?_) fun _ _ e => e
      cases k with
      | false => exact h1
      | true =>
        rw [wpb_t] at h1 ⊢
        refine wp_mono h1 (fun f δ2 h2 => ?_) fun _ _ e => e
        cases f with
        | nx => obtain ⟨y, h3, h4⟩ := h2; exact ih y δ2 h3 (by omega)
        | ct => obtain ⟨y, h3, h4⟩ := h2; exact ih y δ2 h3 (by omega)
        | bk => exact h2
        | rt r => exact h2
  exact go n x0 δ h0 hn
/-! what a loop walks -/
@[simp ↓] theorem wp_itM {m : M D} : wp (itM m) QL E δ = wp m (fun d δ1 => wpo (itsD d) fun ds => QL ds δ1) E δ := by
  unfold itM
  simp only [wp_bind, wp_lift]
def intP : D → (Int → Prop) → Prop
  | .int i, K => K i
  | _, _ => False
@[simp ↓] theorem intP_i (i : Int) (K : Int → Prop) : intP (.int i) K = K i := Eq.trans rfl rfl
@[simp ↓] theorem wp_rng1_m {m : M D} : wp (rng1M (.m m)) QL E δ = wp m (fun d δ1 => intP d fun j => wpb (okR j) (QL (rangeL 0 j) δ1) False) E δ := by
  unfold rng1M
  simp only [wp_bind, p1_m, p2_m, wp_pure]
  congr 1
  funext d δ1
  cases d with
  | int j => simp only [intP_i]; cases okR j <;> rfl
  | _ => rfl
@[simp ↓] theorem wp_rng1_s {i : Nat} : wp (rng1M (.s i)) QL E δ = wpo (slotD δ i) fun d => intP d fun j => wpb (okR j) (QL (rangeL 0 j) δ) False := by
  unfold rng1M
  simp only [wp_bind, p1_s, p2_s, wp_pure, wp_pk]
  cases slotD δ i with
  | none => rfl
  | some d =>
    simp only [wpo_some]
    cases d with
    | int j => simp only [intP_i]; cases okR j <;> rfl
    | _ => rfl
@[simp ↓] theorem wp_rng2M {o u : Opd} : wp (rng2M o u) QL E δ = wp o.p1 (fun x δ1 => wp u.p1 (fun y δ2 => wp (o.p2 x) (fun d δ3 => wp (u.p2 y) (fun e δ4 => wpo (rng2D d e) fun ds => QL ds δ4) E δ3) E δ2) E δ1) E δ := by
  unfold rng2M
  simp only [wp_bind, wp_lift]
@[simp ↓] theorem wp_enumM {m : M D} : wp (enumM m) QL E δ = wp m (fun d δ1 => wpo (listsOf d) fun xs => QL (enumL 0 xs) δ1) E δ := by
  rw [enumM_eq]
  simp only [wp_bind, wp_lift, wp_pure]
@[simp ↓] theorem wp_zipM {m u : M D} : wp (zipM m u) QL E δ = wp m (fun d δ1 => wp u (fun e δ2 => wpo (listsOf d) fun xs => wpo (listsOf e) fun ys => QL (zipL xs ys) δ2) E δ1) E δ := by
  rw [zipM_eq]
  simp only [wp_bind, wp_lift, wp_pure]
/-! comprehensions -/
@[simp ↓] theorem wp_lcM {vs : List Nat} {mi : M (List D)} {t : D → M Unit} {c : M Bool} {e : M D} : wp (lcM vs mi t c e) Q E δ = wp mi (fun ds δ1 => wp (lcLoop vs t c e ds []) Q E δ1) E δ := by
  unfold lcM
  rw [wp_bind]
theorem wp_lcTurn {vs : List Nat} {t : D → M Unit} {c : M Bool} {e : M D} {d : D} : wp (lcTurn vs t c e d) QO E δ = wp (t d) (fun _ δ1 => wp c (fun b δ2 => wpb b (wp e (fun y δ3 => QO (some y) (unF 0 vs δ δ3)) (fun _ _ => False) δ2) (QO none (unF 0 vs δ δ2))) (fun _ _ => False) δ1) (fun _ _ => False) (blkF 0 vs δ) := by
  have h : wp ((t d).bind fun _ => c.bind fun b => if b = true then e.bind fun y => M.pure (some y) else M.pure none) (fun r δ2 => QO r (unF 0 vs δ δ2)) (fun _ _ => False) (blkF 0 vs δ) = wp (t d) (fun _ δ1 => wp c (fun b δ2 => wpb b (wp e (fun y δ3 => QO (some y) (unF 0 vs δ δ3)) (fun _ _ => False) δ2) (QO none (unF 0 vs δ δ2))) (fun _ _ => False) δ1) (fun _ _ => False) (blkF 0 vs δ) := by
    rw [wp_bind]
    congr 1
    funext _ δ1
    rw [wp_bind]
    congr 1
    funext b δ2
    cases b
    · rfl
    · simp only [if_true, wpb_t, wp_bind, wp_pure]
  rw [← h]
  unfold wp
  rw [turn_eq, blk_eq]
  cases ((t d).bind fun _ => c.bind fun b => if b = true then e.bind fun y => M.pure (some y) else M.pure none) (blkF 0 vs δ) with
  | ok r δ2 => simp only [un_eq]
  | exc x δ2 => rfl
  | bad => rfl
/-- a comprehension over mapped items: done, what it has gathered, rest -/
theorem wp_lc {vs : List Nat} {t : D → M Unit} {c : M Bool} {e : M D} (g : β → D) (Inv : List β → List D → List β → DEnv → Prop) (all : List β) (hl : all.length ≤ 16777216) (h0 : Inv [] [] all δ)
    (step : ∀ done acc x rest δ, done ++ x :: rest = all → Inv done acc (x :: rest) δ → wp (lcTurn vs t c e (g x)) (fun r δ2 => match r with
      | some y => Inv (done ++ [x]) (acc ++ [y]) rest δ2
      | none => Inv (done ++ [x]) acc rest δ2) E δ)
    (fin : ∀ acc δ, Inv all acc [] δ → Q (.lst acc) δ) : wp (lcLoop vs t c e (all.map g) []) Q E δ := by
  have go : ∀ (rest done : List β) (acc : List D) (δ : DEnv), done ++ rest = all → acc.length ≤ done.length → Inv done acc rest δ → wp (lcLoop vs t c e (rest.map g) acc) Q E δ := fun rest => by
    induction rest with
    | nil => intro done acc δ e _ h; rw [List.append_nil] at e; subst e; exact fin acc δ h
    | cons x rest ih =>
      intro done acc δ e ha h
      rw [List.map_cons, lcLoop, wp_bind]
      have hdl : done.length + 1 ≤ all.length := by rw [← e]; simp
      refine wp_mono (step done acc x rest δ e h) (fun r δ2 h2 => ?_) fun _ _ e => e
      cases r with
      | none => exact ih (done ++ [x]) acc δ2 (by simpa using e) (by simp; omega) h2
      | some y =>
        show wp (if shortS (acc.length + 1) then lcLoop vs t c _ (rest.map g) (acc ++ [y]) else badM) Q E δ2
        rw [shortS_of (by omega), if_pos rfl]
        exact ih (done ++ [x]) (acc ++ [y]) δ2 (by simpa using e) (by simp; omega) h2
  exact go all [] [] δ rfl (Nat.le_refl _) h0
/-- .. that changes nothing, each item giving one -/
theorem wp_lc_map {vs : List Nat} {t : D → M Unit} {c : M Bool} {e : M D} (g : β → D) (f : β → D) (all : List β) (hl : all.length ≤ 16777216)
    (step : ∀ x ∈ all, wp (lcTurn vs t c e (g x)) (fun r δ2 => r = some (f x) ∧ δ2 = δ) E δ) (fin : Q (.lst (all.map f)) δ) : wp (lcLoop vs t c e (all.map g) []) Q E δ := by
  refine wp_lc g (fun done acc rest δ' => acc = done.map f ∧ δ' = δ) all hl ⟨rfl, rfl⟩ (fun done acc x rest δ' h ⟨e1, e2⟩ => ?_) fun acc δ' ⟨e1, e2⟩ => ?_
  · subst e1 e2
    refine wp_mono (step x (by rw [← h]; simp)) (fun r δ2 ⟨h1, h2⟩ => ?_) fun _ _ e => e
    subst h1 h2
    simp
  · subst e1 e2
    exact fin
/-- .. with a test -/
theorem wp_lc_filter {vs : List Nat} {t : D → M Unit} {c : M Bool} {e : M D} (g : β → D) (p : β → Bool) (f : β → D) (all : List β) (hl : all.length ≤ 16777216)
    (step : ∀ x ∈ all, wp (lcTurn vs t c e (g x)) (fun r δ2 => r = (if p x then some (f x) else none) ∧ δ2 = δ) E δ) (fin : Q (.lst ((all.filter p).map f)) δ) : wp (lcLoop vs t c e (all.map g) []) Q E δ := by
  refine wp_lc g (fun done acc rest δ' => acc = (done.filter p).map f ∧ δ' = δ) all hl ⟨rfl, rfl⟩ (fun done acc x rest δ' h ⟨e1, e2⟩ => ?_) fun acc δ' ⟨e1, e2⟩ => ?_
  · subst e1 e2
    refine wp_mono (step x (by rw [← h]; simp)) (fun r δ2 ⟨h1, h2⟩ => ?_) fun _ _ e => e
    subst h2
    cases hp : p x with
    | true => rw [hp] at h1; simp only [if_true] at h1; subst h1; simp [List.filter_append, hp]
    | false => rw [hp] at h1; simp only [Bool.false_eq_true, if_false] at h1; subst h1; simp [List.filter_append, hp]
  · subst e1 e2
    exact fin
/-! texts -/
def strP : D → (Str → Prop) → Prop
  | .str i, K => K i
  | _, _ => False
@[simp ↓] theorem strP_i (i : Str) (K : Str → Prop) : strP (.str i) K = K i := Eq.trans rfl rfl
@[simp ↓] theorem wp_joinM_nil {acc : Str} : wp (joinM [] acc) Q E δ = Q (.str acc) δ := Eq.trans rfl rfl
@[simp ↓] theorem wp_joinM_cons {m : M D} {ms : List (M D)} {acc : Str} : wp (joinM (m :: ms) acc) Q E δ = wp m (fun d δ1 => strP d fun y => wpb (shortS (acc ++ y).length) (wp (joinM ms (acc ++ y)) Q E δ1) False) E δ := by
  rw [joinM, wp_bind]
  congr 1
  funext d δ1
  cases d with
  | str y => simp only [strP_i]; cases shortS (acc ++ y).length <;> rfl
  | _ => rfl
@[simp ↓] theorem wp_joinSM {a m : M D} : wp (joinSM a m) Q E δ = wp a (fun d δ1 => strP d fun s => wp m (fun b δ2 => wpo (joinD (.str s) b) fun r => Q r δ2) E δ1) E δ := by
  unfold joinSM
  rw [wp_bind]
  congr 1
  funext d δ1
  cases d with
  | str y => simp only [strP_i, wp_bind, wp_lift]
  | _ => rfl
@[simp ↓] theorem wp_part_none {R : Option Int → DEnv → Prop} : wp (partM none) R E δ = R none δ := Eq.trans rfl rfl
@[simp ↓] theorem wp_part_m {R : Option Int → DEnv → Prop} {m : M D} : wp (partM (some (.m m))) R E δ = wp m (fun d δ1 => intP d fun i => R (some i) δ1) E δ := by
  unfold partM
  simp only [wp_bind, p1_m, p2_m, wp_pure]
  congr 1
  funext d δ1
  cases d <;> rfl
@[simp ↓] theorem wp_part_s {R : Option Int → DEnv → Prop} {i : Nat} : wp (partM (some (.s i))) R E δ = wpo (slotD δ i) fun d => intP d fun i => R (some i) δ := by
  unfold partM
  simp only [wp_bind, p1_s, p2_s, wp_pure, wp_pk]
  cases slotD δ i with
  | none => rfl
  | some d => cases d <;> rfl
@[simp ↓] theorem wp_sl_m {f : D → Option Int → Option Int → Option D} {m : M D} {lo hi : Option Opd} : wp (slM f (.m m) lo hi) Q E δ = wp m (fun d δ1 => wp (partM lo) (fun l δ2 => wp (partM hi) (fun u δ3 => wpo (f d l u) fun r => Q r δ3) E δ2) E δ1) E δ := by
  unfold slM
  simp only [wp_bind, p1_m, p2_m, wp_pure, wp_lift]
@[simp ↓] theorem wp_sl_s {f : D → Option Int → Option Int → Option D} {i : Nat} {lo hi : Option Opd} : wp (slM f (.s i) lo hi) Q E δ = wpo (slotD δ i) fun _ => wp (partM lo) (fun l δ2 => wp (partM hi) (fun u δ3 => wpo (slotD δ3 i) fun d => wpo (f d l u) fun r => Q r δ3) E δ2) E δ := by
  unfold slM
  simp only [wp_bind, p1_s, p2_s, wp_pure, wp_lift, wp_pk]
@[simp ↓] theorem wp_bm_m {T : String} {f : D → List D → Option D} {m : M D} {os : List Opd} : wp (bmM T f (.m m) os) Q E δ = wp m (fun d δ1 => wpb (kindD T d) (wp (args1 os) (fun xs δ2 => wp (args2 os xs) (fun ds δ3 => wpo (f d ds) fun r => Q r δ3) E δ2) E δ1) False) E δ := by
  unfold bmM
  simp only [wp_bind, p1_m, p2_m, wp_pure]
  congr 1
  funext d δ1
  cases kindD T d with
  | false => rfl
  | true => simp only [if_true, wpb_t, wp_bind, wp_lift, wp_pure]
@[simp ↓] theorem wp_bm_s {T : String} {f : D → List D → Option D} {i : Nat} {os : List Opd} : wp (bmM T f (.s i) os) Q E δ = wpo (slotD δ i) fun d => wpb (kindD T d) (wp (args1 os) (fun xs δ2 => wpo (slotD δ2 i) fun d => wp (args2 os xs) (fun ds δ3 => wpo (f d ds) fun r => Q r δ3) E δ2) E δ) False := by
  unfold bmM
  simp only [wp_bind, p1_s, p2_s, wp_pure, wp_pk]
  cases slotD δ i with
  | none => rfl
  | some d =>
    simp only [wpo_some]
    cases kindD T d with
    | false => rfl
    | true => simp only [if_true, wpb_t, wp_bind, wp_lift, wp_pk]
/-! a def's function -/
theorem wpF_run {np n : Nat} {b : M Fl} {sds : List SD} {R : SD → List SD → Prop} {X : Ex → List SD → Prop} (h : sds.length = np) : wpF (runF np n b) sds R X = wp b (fun f δ => match f with
    | .rt r => R r ((δ.take np).map SD.back)
    | .nx => R (.val .non) ((δ.take np).map SD.back)
    | _ => False) (fun x δ => X x ((δ.take np).map SD.back)) (sds.map SD.lend ++ List.replicate (n - np) .no) := by
  unfold wpF runF wp
  rw [if_pos h]
  cases b (sds.map SD.lend ++ List.replicate (n - np) .no) with
  | ok f δ => cases f <;> rfl
  | exc x δ => rfl
  | bad => rfl
/-! plain slots -/
@[simp] theorem kind_str (x : Str) : kindD "str" (.str x) = true := Eq.trans rfl rfl
@[simp] theorem get?_arg' (d : D) : (SD.arg d).get? = some d := Eq.trans rfl rfl
end
end G
set_option maxRecDepth 100000
set_option maxHeartbeats 4000000
namespace G
open PySem PySem.Spec PyProof.Rows L2
/-! ### sizes of integers -/
def Z (k : Nat) (x : Int) : Prop := x.natAbs < 2 ^ k
theorem Z.mono {k l : Nat} {x : Int} (h : Z k x) (e : k ≤ l) : Z l x := Nat.lt_of_lt_of_le h (Nat.pow_le_pow_right (by decide) e)
theorem Z.mul {k l : Nat} {x y : Int} (h : Z k x) (u : Z l y) : Z (k + l) (x * y) := by
  unfold Z at *
  rw [Int.natAbs_mul, Nat.pow_add]
  exact Nat.mul_lt_mul_of_lt_of_lt h u
theorem Z.add {k : Nat} {x y : Int} (h : Z k x) (u : Z k y) : Z (k + 1) (x + y) := by
  unfold Z at *
  rw [Nat.pow_succ]
  omega
theorem Z.sub {k : Nat} {x y : Int} (h : Z k x) (u : Z k y) : Z (k + 1) (x - y) := by
  unfold Z at *
  rw [Nat.pow_succ]
  omega
theorem Z.neg {k : Nat} {x : Int} (h : Z k x) : Z k (-x) := by
  unfold Z at *
  omega
theorem Z.of_le {k : Nat} {x y : Int} (h : Z k y) (e : x.natAbs ≤ y.natAbs) : Z k x := Nat.lt_of_le_of_lt e h
theorem Z.one {k : Nat} (h : 1 ≤ k) : Z k 1 := Z.mono (k := 1) (by unfold Z; decide) h
theorem Z.zero {k : Nat} : Z k 0 := Nat.pow_pos (by decide)
theorem Z.of_lt {k : Nat} {x : Int} (h1 : -(2 ^ k) < x) (h2 : x < 2 ^ k) : Z k x := by
  unfold Z
  have : ((2 ^ k : Nat) : Int) = 2 ^ k := by simp
  omega
theorem Z.log {k : Nat} {x : Int} (h : Z k x) (hk : 0 < k) : x.natAbs.log2 < k := by
  by_cases z : x.natAbs = 0
  · rw [z]; simpa using hk
  · exact (Nat.log2_lt z).mpr h
theorem mul_Z {x y : Int} (h : Z 9000 x) (u : Z 9000 y) : mulA (.int x) (.int y) = some (.int (x * y)) := by
  have h1 := h.log (by decide)
  have h2 := u.log (by decide)
  have : mulOk x y = true := decide_eq_true (by omega)
  unfold mulA orD mulD
  simp [this]
theorem fdiv_Z {x y : Int} (h : y ≠ 0) (u : Z 9000 y) : fdivD (.int x) (.int y) = some (.int (x.fdiv y)) := by
  have : divOk y = true := decide_eq_true ⟨h, u.log (by decide)⟩
  unfold fdivD
  simp only
  rw [this, if_pos rfl]
theorem mod_Z {x y : Int} (h : y ≠ 0) : modD (.int x) (.int y) = some (.int (x.fmod y)) := if_pos h
theorem ite_abs (i : Int) : (if i < 0 then -i else i) = (i.natAbs : Int) := by split <;> omega
@[simp ↓] theorem wpF_runF {np n : Nat} {b : M Fl} {sds : List SD} {R : SD → List SD → Prop} {X : Ex → List SD → Prop} : wpF (runF np n b) sds R X = wpb (decide (sds.length = np)) (wp b (fun f δ => match f with
    | .rt r => R r ((δ.take np).map SD.back)
    | .nx => R (.val .non) ((δ.take np).map SD.back)
    | _ => False) (fun x δ => X x ((δ.take np).map SD.back)) (sds.map SD.lend ++ List.replicate (n - np) .no)) False := by
  by_cases h : sds.length = np
  · rw [wpF_run h]; simp only [h, decide_true, wpb_t] <;> rfl
  · simp only [h, decide_false, wpb_f]
    unfold wpF runF
    rw [if_neg h]
theorem keptP_congr {x y : SD} {K : D → Prop} (h : x = y) : keptP x K = keptP y K := by rw [h]
theorem ownP_congr {x y : SD} {K : D → Prop} (h : x = y) : ownP x K = ownP y K := by rw [h]
theorem mkP_congr {x y : SD} {rs rs' : List SD} {K : SD → List SD → Prop} (h : x = y) (h' : rs = rs') : mkP x rs K = mkP y rs' K := by rw [h, h']
theorem objP_congr {x y : D} {K : Nat → List (String × D) → Prop} (h : x = y) : objP x K = objP y K := by rw [h]
theorem intP_congr {x y : D} {K : Int → Prop} (h : x = y) : intP x K = intP y K := by rw [h]
theorem strP_congr {x y : D} {K : Str → Prop} (h : x = y) : strP x K = strP y K := by rw [h]
/-! ### a call that gives back r -/
def Rt (f : List SD → R SD) (sds : List SD) (r : SD) : Prop := ∃ rs, f sds = .ok r rs
def restOf (f : List SD → R SD) (sds : List SD) : List SD := match f sds with
  | .ok _ rs => rs
  | _ => []
theorem wpF_rt {f : List SD → R SD} {sds : List SD} {r : SD} {Q : SD → List SD → Prop} {E : Ex → List SD → Prop} (h : Rt f sds r) : wpF f sds Q E = Q r (restOf f sds) := by
  obtain ⟨rs, e⟩ := h
  unfold wpF restOf
  rw [e]
theorem Rt.of {f : List SD → R SD} {sds : List SD} {r : SD} (h : wpF f sds (fun r' _ => r' = r) fun _ _ => False) : Rt f sds r := by
  obtain ⟨a, b, e, rfl⟩ := ok_of_wpF h
  exact ⟨b, e⟩
@[simp] theorem wpb_tt {c : Bool} : wpb c True True = True := by cases c <;> rfl
/-- a mirror that gives r and leaves δr -/
theorem wp_det {α : Type} {m : M α} {r : α} {δ δr : DEnv} {Q : α → DEnv → Prop} {E : Ex → DEnv → Prop} (h : wp m (fun d δ' => d = r ∧ δ' = δr) (fun _ _ => False) δ) : wp m Q E δ = Q r δr := by
  unfold wp at h ⊢
  cases e : m δ with
  | ok a δ1 => rw [e] at h; obtain ⟨rfl, rfl⟩ := h; rfl
  | exc x δ1 => rw [e] at h; exact h.elim
  | bad => rw [e] at h; exact h.elim
/-! ### fractions in lowest terms -/
def gcdS (t b : Int) : Int := if b < 0 then -(Int.gcd t b : Int) else Int.gcd t b
def red (t b : Int) : Int × Int := (t / gcdS t b, b / gcdS t b)
/-- in lowest terms, of so many bits -/
structure Lw (k : Nat) (p : Int × Int) : Prop where
  pos : 0 < p.2
  top : Z k p.1
  bot : Z k p.2
  low : Int.gcd p.1 p.2 = 1
theorem Lw.mono {k l : Nat} {p : Int × Int} (h : Lw k p) (e : k ≤ l) : Lw l p := ⟨h.pos, h.top.mono e, h.bot.mono e, h.low⟩
theorem gcd_pos' {t b : Int} (h : b ≠ 0) : 0 < Int.gcd t b := Int.gcd_pos_of_ne_zero_right t h
theorem gcdS_ne {t b : Int} (h : b ≠ 0) : gcdS t b ≠ 0 := by
  have := gcd_pos' (t := t) h
  unfold gcdS
  split <;> omega
theorem gcdS_abs (t b : Int) : (gcdS t b).natAbs = Int.gcd t b := by
  unfold gcdS
  split <;> simp
theorem gcdS_dt (t b : Int) : gcdS t b ∣ t := by
  rw [← Int.natAbs_dvd_natAbs, gcdS_abs]
  exact Nat.gcd_dvd_left _ _
theorem gcdS_db (t b : Int) : gcdS t b ∣ b := by
  rw [← Int.natAbs_dvd_natAbs, gcdS_abs]
  exact Nat.gcd_dvd_right _ _
theorem red_pos {t b : Int} (h : b ≠ 0) : 0 < (red t b).2 := by
  have g := gcd_pos' (t := t) h
  obtain ⟨c, e⟩ := gcdS_db t b
  have hn := gcdS_ne (t := t) h
  show 0 < b / gcdS t b
  have e2 : b / gcdS t b = c := by rw [Int.ediv_eq_iff_eq_mul_right hn (gcdS_db t b)]; exact e
  rw [e2]
  by_cases hb : b < 0
  · have : gcdS t b < 0 := by unfold gcdS; rw [if_pos hb]; omega
    by_cases hc : 0 < c
    · exact hc
    · have := Int.mul_nonneg_of_nonpos_of_nonpos (a := gcdS t b) (b := c) (by omega) (by omega)
      omega
  · have : 0 < gcdS t b := by unfold gcdS; rw [if_neg hb]; omega
    by_cases hc : 0 < c
    · exact hc
    · have := Int.mul_nonpos_of_nonneg_of_nonpos (a := gcdS t b) (b := c) (by omega) (by omega)
      omega
theorem natAbs_div_exact {x g : Int} (h : g ∣ x) : (x / g).natAbs = x.natAbs / g.natAbs := Int.natAbs_ediv_of_dvd h
theorem red_lw {k : Nat} {t b : Int} (h : b ≠ 0) (zt : Z k t) (zb : Z k b) : Lw k (red t b) := by
  have g := gcd_pos' (t := t) h
  refine ⟨red_pos h, ?_, ?_, ?_⟩
  · refine zt.of_le ?_
    show (t / gcdS t b).natAbs ≤ _
    rw [natAbs_div_exact (gcdS_dt t b)]
    exact Nat.div_le_self _ _
  · refine zb.of_le ?_
    show (b / gcdS t b).natAbs ≤ _
    rw [natAbs_div_exact (gcdS_db t b)]
    exact Nat.div_le_self _ _
  · show Nat.gcd (t / gcdS t b).natAbs (b / gcdS t b).natAbs = 1
    rw [natAbs_div_exact (gcdS_dt t b), natAbs_div_exact (gcdS_db t b), gcdS_abs]
    exact Nat.coprime_div_gcd_div_gcd g
theorem red_self {k : Nat} {p : Int × Int} (h : Lw k p) : red p.1 p.2 = p := by
  have : gcdS p.1 p.2 = 1 := by
    unfold gcdS
    rw [if_neg (by have := h.pos; omega), h.low]
    rfl
  unfold red
  rw [this]
  simp
theorem gcdS_mul {t b w : Int} (h : w ≠ 0) (hb : b ≠ 0) : gcdS (t * w) (b * w) = gcdS t b * w := by
  have e : (Int.gcd (t * w) (b * w) : Int) = Int.gcd t b * w.natAbs := by
    rw [Int.gcd_mul_right]
    simp
  unfold gcdS
  rw [e]
  by_cases hw : 0 < w
  · have e2 : (w.natAbs : Int) = w := by omega
    rw [e2]
    by_cases hb' : b < 0
    · rw [if_pos (Int.mul_neg_of_neg_of_pos hb' hw), if_pos hb']
      simp [Int.neg_mul]
    · rw [if_neg (by have := Int.mul_nonneg (a := b) (b := w) (by omega) (by omega); omega), if_neg hb']
  · have e2 : (w.natAbs : Int) = -w := by omega
    rw [e2]
    by_cases hb' : b < 0
    · rw [if_neg (by have := Int.mul_nonneg_of_nonpos_of_nonpos (a := b) (b := w) (by omega) (by omega); omega), if_pos hb']
      simp [Int.neg_mul, Int.mul_neg]
    · rw [if_pos (Int.mul_neg_of_pos_of_neg (by omega) (by omega)), if_neg hb']
      simp [Int.neg_mul, Int.mul_neg]
theorem red_mul {t b w : Int} (h : w ≠ 0) (hb : b ≠ 0) : red (t * w) (b * w) = red t b := by
  have e : ∀ x : Int, gcdS t b ∣ x → x * w / (gcdS t b * w) = x / gcdS t b := fun x hx => by
    obtain ⟨c, e⟩ := hx
    have hn := gcdS_ne (t := t) hb
    have e1 : x / gcdS t b = c := Int.ediv_eq_of_eq_mul_right hn e
    rw [e1]
    refine Int.ediv_eq_of_eq_mul_right (Int.mul_ne_zero hn h) ?_
    rw [Int.mul_right_comm, ← e]
  unfold red
  rw [gcdS_mul h hb, e t (gcdS_dt t b), e b (gcdS_db t b)]
end G
set_option maxRecDepth 100000
set_option maxHeartbeats 4000000
namespace G
open PySem PySem.Spec PyProof.Rows L2
theorem fnV_rt {fn : List SD → R SD} {ds : List D} {d : D} (h : Rt fn (ds.map .val) (.val d)) : fnV fn ds = some d := by
  obtain ⟨rs, e⟩ := h
  unfold fnV
  rw [e]
theorem fnV_rto {fn : List SD → R SD} {ds : List D} {d : D} (h : Rt fn (ds.map .val) (.own d)) : fnV fn ds = some d := by
  obtain ⟨rs, e⟩ := h
  unfold fnV
  rw [e]
/-- a constructor that makes d -/
def RtM (f : List SD → R SD) (c : Nat) (sds : List SD) (d : D) : Prop := ∃ rs, f (.own (.obj c []) :: sds) = .ok (.val .non) (.own d :: rs)
theorem wpF_mk {f : List SD → R SD} {c : Nat} {sds : List SD} {d : D} {Q : SD → List SD → Prop} {E : Ex → List SD → Prop} (h : RtM f c sds d) : wpF f (.own (.obj c []) :: sds) (fun r rs => mkP r rs Q) E = Q (.own d) (restOf f (.own (.obj c []) :: sds)).tail := by
  obtain ⟨rs, e⟩ := h
  unfold wpF restOf
  rw [e]
  rfl
theorem RtM.of {f : List SD → R SD} {c : Nat} {sds : List SD} {d : D} (h : wpF f (.own (.obj c []) :: sds) (fun r' rs' => r' = .val .non ∧ rs'.head? = some (.own d)) fun _ _ => False) : RtM f c sds d := by
  obtain ⟨a, b, e, rfl, e2⟩ := ok_of_wpF h
  cases b with
  | nil => cases e2
  | cons x b => cases e2; exact ⟨b, e⟩
/-! ### a side of an operator: a whole number or a Ratio (class 1) -/
def ratD (p : Int × Int) : D := .obj 1 [("own_top", .int p.1), ("own_bottom", .int p.2)]
@[simp ↓] theorem objP_rat (p : Int × Int) (K : Nat → List (String × D) → Prop) : objP (ratD p) K = K 1 [("own_top", .int p.1), ("own_bottom", .int p.2)] := Eq.trans rfl rfl
@[simp] theorem lk_cons {β : Type} (n m : String) (d : β) (r : List (String × β)) : List.lookup n ((m, d) :: r) = if n = m then some d else r.lookup n := by
  rw [List.lookup_cons]
  by_cases h : n = m
  · subst h; simp
  · rw [beq_false_of_ne h, if_neg h]
@[simp] theorem lk_consN {β : Type} (n m : Nat) (d : β) (r : List (Nat × β)) : List.lookup n ((m, d) :: r) = if n = m then some d else r.lookup n := by
  rw [List.lookup_cons]
  by_cases h : n = m
  · subst h; simp
  · rw [beq_false_of_ne h, if_neg h]
def Sd (d : D) (p : Int × Int) : Prop := d = ratD p ∨ (d = .int p.1 ∧ p.2 = 1)
def frD (p : Int × Int) : D := .tup [.int p.1, .int p.2]
theorem red_fdiv (t b : Int) : red t b = (t.fdiv (gcdS t b), b.fdiv (gcdS t b)) := by
  unfold red
  rw [Int.fdiv_eq_ediv_of_dvd (gcdS_dt t b), Int.fdiv_eq_ediv_of_dvd (gcdS_db t b)]
theorem gcdS_neg {t b : Int} (h : b < 0) : gcdS t b = -(Int.gcd t b : Int) := if_pos h
theorem gcdS_pos {t b : Int} (h : ¬b < 0) : gcdS t b = Int.gcd t b := if_neg h
theorem red_neg {t b : Int} (h : b ≠ 0) : red (-t) (-b) = red t b := by
  have := red_mul (t := t) (w := -1) (by decide) h
  simpa [Int.mul_neg] using this
theorem mul44 {x y : Int} (h : Z 4000 x) (u : Z 4000 y) : mulA (.int x) (.int y) = some (.int (x * y)) := mul_Z (h.mono (by decide)) (u.mono (by decide))
def addP (p q : Int × Int) : Int × Int := red (p.1 * q.2 + q.1 * p.2) (p.2 * q.2)
def negP (p : Int × Int) : Int × Int := (-p.1, p.2)
def absP (p : Int × Int) : Int × Int := (p.1.natAbs, p.2)
def subP (p q : Int × Int) : Int × Int := addP p (negP q)
def mulP (p q : Int × Int) : Int × Int := red (p.1 * q.1) (p.2 * q.2)
def divP (p q : Int × Int) : Int × Int := red (p.1 * q.2) (p.2 * q.1)
def floorP (p q : Int × Int) : Int := (p.1 * q.2).fdiv (p.2 * q.1)
def restP (p q : Int × Int) : Int × Int := subP p (mulP (floorP p q, 1) q)
theorem addP_comm (p q : Int × Int) : addP p q = addP q p := by
  unfold addP
  rw [Int.add_comm, Int.mul_comm p.2]
theorem mulP_comm (p q : Int × Int) : mulP p q = mulP q p := by
  unfold mulP
  rw [Int.mul_comm p.1, Int.mul_comm p.2]
theorem subP_eq (p q : Int × Int) : subP p q = red (p.1 * q.2 - q.1 * p.2) (p.2 * q.2) := by
  unfold subP addP negP
  rw [Int.neg_mul, ← Int.sub_eq_add_neg]
section
variable {k : Nat} {p q : Int × Int}
theorem Lw.ne (h : Lw k p) : p.2 ≠ 0 := by have := h.pos; omega
theorem Lw.neg (h : Lw k p) : Lw k (negP p) := ⟨h.pos, h.top.neg, h.bot, by unfold negP; rw [Int.neg_gcd]; exact h.low⟩
theorem Lw.abs (h : Lw k p) : Lw k (absP p) := ⟨h.pos, by have := h.top; unfold Z at *; simpa [absP] using this, h.bot, by have := h.low; unfold absP; simpa [Int.gcd] using this⟩
theorem Lw.add (h : Lw 4000 p) (u : Lw 4000 q) : Lw 8001 (addP p q) := red_lw (Int.mul_ne_zero h.ne u.ne) ((h.top.mul u.bot).add (u.top.mul h.bot)) ((h.bot.mul u.bot).mono (by decide))
theorem Lw.int {i : Int} (h : Z k i) (hk : 1 ≤ k) : Lw k (i, 1) := ⟨Int.one_pos, h, .one hk, by simp⟩
theorem fdiv_le : ∀ x y : Int, (x.fdiv y).natAbs ≤ x.natAbs
  | 0, _ => by simp
  | .ofNat (m + 1), .ofNat n => Nat.div_le_self (m + 1) n
  | .ofNat (m + 1), .negSucc n => by
    show (Int.negSucc (m / (n + 1))).natAbs ≤ m + 1
    rw [Int.natAbs_negSucc]
    exact Nat.succ_le_succ (Nat.div_le_self m (n + 1))
  | .negSucc m, 0 => by simp [Int.fdiv]
  | .negSucc m, .ofNat (n + 1) => by
    show (Int.negSucc (m / (n + 1))).natAbs ≤ m + 1
    rw [Int.natAbs_negSucc]
    exact Nat.succ_le_succ (Nat.div_le_self m (n + 1))
  | .negSucc m, .negSucc n => by
    show (Int.ofNat ((m + 1) / (n + 1))).natAbs ≤ m + 1
    exact Nat.div_le_self (m + 1) (n + 1)
theorem Lw.floor (hp : Lw 1300 p) (hq : Lw 1300 q) : Lw 2600 (floorP p q, 1) := Lw.int ((hp.top.mul hq.bot).of_le (fdiv_le _ _)) (by decide)
theorem Lw.fmul {i : Int} (hi : Lw 2600 (i, 1)) (hq : Lw 1300 q) : Lw 3900 (mulP (i, 1) q) := red_lw (by simpa using hq.ne) (hi.top.mul hq.top) (by simpa using hq.bot.mono (by decide))
end
end G
set_option maxRecDepth 100000
set_option maxHeartbeats 4000000
set_option exponentiation.threshold 300
namespace G
open PySem PySem.Spec PyProof.Rows L2
open SX (S)
/-! ### whole numbers as texts -/
def iL (i : Int) : List Nat := if i < 0 then 45 :: TL.numL i.natAbs else TL.numL i.natAbs
theorem iL_pos {i : Int} (h : 0 ≤ i) : iL i = TL.numL i.natAbs := if_neg (by omega)
theorem iL_neg {i : Int} (h : i < 0) : iL i = 45 :: TL.numL i.natAbs := if_pos h
theorem iT_S (i : Int) : Str.ofString (toString i) = S (iL i) := by
  refine TL.ext_tl ?_
  show _ = iL i
  match i with
  | .ofNat n =>
    rw [iL_pos (show 0 ≤ Int.ofNat n from Int.natCast_nonneg n)]
    exact TL.tl_num n
  | .negSucc n =>
    rw [iL_neg (Int.negSucc_lt_zero n), Int.natAbs_negSucc, TL.tl_ofString]
    have e : toString (Int.negSucc n) = "-" ++ toString (n + 1) := rfl
    have h := TL.tl_num (n + 1)
    rw [TL.tl_ofString] at h
    rw [e, String.toList_append, List.map_append]
    have h2 : (toString (n + 1)).toList.map Char.toNat = TL.numL (n + 1) := h
    rw [h2]
    rfl
theorem num_len {n k : Nat} (h : n < 2 ^ (3 * k)) (hk : 0 < k) : (TL.numL n).length ≤ k := by
  refine TL.numL_len hk (Nat.lt_of_lt_of_le h ?_)
  rw [Nat.pow_mul]
  exact Nat.pow_le_pow_left (by decide) k
theorem iL_len {i : Int} {k : Nat} (h : Z (3 * k) i) (hk : 0 < k) : (iL i).length ≤ k + 1 := by
  have := num_len h hk
  unfold iL
  split <;> simp <;> omega
theorem shown_int {i : Int} (h : Z 1920 i) : shownD (.int i) = some (S (iL i)) := by
  have l : (S (iL i)).length ≤ 641 := by rw [SX.S_len]; exact iL_len (k := 640) h (by decide)
  have e : (PyData.int i).shown = S (iL i) := by rw [PyData.shown]; exact iT_S i
  unfold shownD
  simp only [toP, Option.bind_some, e, PyData.showable, PyData.hasDict, PyData.depth]
  rw [decide_eq_true (h.log (by decide)), shortS_of (by omega)]
  rfl
theorem strD_int {i : Int} {tab : Tab} (h : Z 1920 i) : strD tab [.int i] = some (.str (S (iL i))) := by
  show (shownD (.int i)).map D.str = _
  rw [shown_int h]
  rfl
theorem fmtD_int {i : Int} (h : Z 1920 i) : fmtD (.int i) = some (.str (S (iL i))) := by
  unfold fmtD
  simp only
  rw [decide_eq_true (h.log (by decide)), if_pos rfl, iT_S]
theorem cat_str {x y : Str} (h : x.length + y.length ≤ 16777216) : addA (.str x) (.str y) = some (.str (x ++ y)) := by
  show (match addD (.str x) (.str y) with | some d => some d | none => _) = _
  unfold addD
  simp [shortS_of h]
/-! ### the text of a fraction -/
def txL (p : Int × Int) : List Nat := if p.2 = 1 then iL p.1 else iL p.1 ++ 47 :: iL p.2
def rpL (p : Int × Int) : List Nat := [82, 97, 116, 105, 111, 40] ++ iL p.1 ++ [44, 32] ++ iL p.2 ++ [41]
theorem minus_S : (Str.ofString "-") = S [45] := by decide +kernel
theorem stroke_S : (Str.ofString "/") = S [47] := by decide +kernel
theorem start_S (l : List Nat) : startD (.str (S l)) [.str "-"] = some (.bl (l.head? == some 45)) := by
  show some (D.bl (Txt.startswith (S l) (Str.ofString "-"))) = _
  rw [minus_S]
  unfold Txt.startswith Builtin.Str.subAt
  cases l with
  | nil => rfl
  | cons c r =>
    congr 2
    rw [SX.S_len, SX.S_len]
    have e : (S (c :: r)).cps.extract 0 (0 + 1) = #[c] := by
      show (c :: r).toArray.extract 0 1 = _
      simp
    show (decide (0 + 1 ≤ r.length + 1) && ((S (c :: r)).cps.extract 0 (0 + 1) == #[45])) = _
    rw [e, decide_eq_true (by omega), Bool.true_and]
    by_cases h : c = 45
    · subst h; rfl
    · simp [h]
theorem split_S1 {l : List Nat} (h : l.length ≤ 1000) : splitD (.str (S l)) [.str "/"] = some (.lst ((TL.spl [47] 0 [] l).map fun a => .str (S a))) := by
  have e : Txt.split (S l) (Str.ofString "/") = (TL.spl [47] 0 [] l).map S := by rw [stroke_S]; exact SX.split_S (by simp) (by decide)
  have e1 : (Str.ofString "/").length = 1 := by rw [stroke_S]; rfl
  unfold splitD
  simp only [e, e1, SX.S_len]
  rw [if_pos ⟨rfl, by unfold sizeLine; omega⟩, List.map_map]
  rfl
theorem spl_1 {a : List Nat} (h : 47 ∉ a) : TL.spl [47] 0 [] a = [a] := TL.spl_last1 (S := []) (acc := []) h
theorem spl_2 {a b : List Nat} (h : 47 ∉ a) (h' : 47 ∉ b) : TL.spl [47] 0 [] (a ++ 47 :: b) = [a, b] := by
  have := TL.spl_part1 (S := []) (p := a) (rest := b) (acc := []) h
  rw [spl_1 h'] at this
  exact this
theorem intT_num {n : Nat} (h : (TL.numL n).length ≤ 640) : intTD [.str (S (TL.numL n))] = some (.int n) := by
  unfold intTD
  simp only [SX.S_len]
  rw [if_pos h, ← SX.num_S, TL.int_num (by omega)]
  rfl
theorem slice_S {l : List Nat} (h : l.length ≤ 1000) : slD (.str (S l)) (some 1) none = some (.str (S (l.drop 1))) := by
  unfold slD
  simp only
  rw [shortS_of (by rw [SX.S_len]; omega), if_pos rfl, C8.cutS_slice, SX.slice_from (by decide)]
  rfl
def digs : Str := Str.ofString "0123456789"
theorem digs_S : digs = S [48, 49, 50, 51, 52, 53, 54, 55, 56, 57] := by decide +kernel
theorem in_digs {c : Nat} (h : 48 ≤ c ∧ c ≤ 57) : inD (.str ⟨#[c]⟩) (.str "0123456789") = some (.bl true) := by
  show (some (decide (c ∈ digs.cps.toList))).map D.bl = _
  rw [digs_S, decide_eq_true (by show c ∈ [48, 49, 50, 51, 52, 53, 54, 55, 56, 57]; simp; omega)]
  rfl
/-! ### == of data -/
def shD (d : D) : Bool := match toP d with
  | some p => SeqAt.shaped p
  | none => false
theorem eq_self {d : D} (h : shD d = true) : eqD d d = some (.bl true) := by
  unfold shD at h
  cases e : toP d with
  | none => rw [e] at h; cases h
  | some p =>
    rw [e] at h
    unfold eqD eqP
    rw [e]
    simp only [h, Bool.and_self, if_true]
    rw [SeqAt.eqv_refl p (SeqAt.canLay_of_shaped h)]
    rfl
theorem ne_self {d : D} (h : shD d = true) : neD d d = some (.bl false) := by
  unfold shD at h
  cases e : toP d with
  | none => rw [e] at h; cases h
  | some p =>
    rw [e] at h
    unfold neD eqP
    rw [e]
    simp only [h, Bool.and_self, if_true]
    rw [SeqAt.eqv_refl p (SeqAt.canLay_of_shaped h)]
    rfl
theorem iL_mem {i : Int} {c : Nat} (h : c ∈ iL i) : c = 45 ∨ (48 ≤ c ∧ c ≤ 57) := by
  unfold iL at h
  split at h
  · rcases List.mem_cons.mp h with h | h
    · exact .inl h
    · exact .inr (TL.numL_digits _ c h)
  · exact .inr (TL.numL_digits _ c h)
theorem strOk_S {l : List Nat} (h : ∀ c ∈ l, c < 0x110000) : PyData.strOk (S l) = true := C.strOk_tl.mpr h
theorem txL_mem {p : Int × Int} {c : Nat} (h : c ∈ txL p) : c = 45 ∨ (47 ≤ c ∧ c ≤ 57) := by
  unfold txL at h
  split at h
  · have := iL_mem h; omega
  · rcases List.mem_append.mp h with h | h
    · have := iL_mem h; omega
    · rcases List.mem_cons.mp h with h | h
      · omega
      · have := iL_mem h; omega
theorem sh_txt (p : Int × Int) : shD (.str (S (txL p))) = true := by
  have : PyData.strOk (S (txL p)) = true := strOk_S fun c hc => by have := txL_mem hc; omega
  unfold shD
  simp only [toP]
  rw [SeqAt.shaped, PyData.canLay0, this, PyData.depth]
  rfl
theorem ne_empty {l : List Nat} (h : l ≠ []) (g : ∀ c ∈ l, c < 0x110000) : neD (.str (S l)) (.str "") = some (.bl true) := by
  have e : (Str.ofString "") = S [] := by decide +kernel
  have h1 : SeqAt.shaped (.str (S l)) = true := by rw [SeqAt.shaped, PyData.canLay0, strOk_S g, PyData.depth]; rfl
  rw [e, C.neD_of (p := .str (S l)) (q := .str (S [])) rfl rfl h1 (by decide +kernel), PyData.eqv, SX.S_beq_eq, decide_eq_false h]
  rfl
/-- the text without its sign -/
def uL (p : Int × Int) : List Nat := if p.2 = 1 then TL.numL p.1.natAbs else TL.numL p.1.natAbs ++ 47 :: TL.numL p.2.natAbs
def psN (p : Int × Int) : List Nat := if p.2 = 1 then [p.1.natAbs] else [p.1.natAbs, p.2.natAbs]
theorem txL_neg {p : Int × Int} (h : p.1 < 0) (g : 0 < p.2) : txL p = 45 :: uL p := by
  unfold txL uL
  rw [iL_neg h, iL_pos (by omega : 0 ≤ p.2)]
  split <;> rfl
theorem txL_pos {p : Int × Int} (h : ¬p.1 < 0) (g : 0 < p.2) : txL p = uL p := by
  unfold txL uL
  rw [iL_pos (by omega : 0 ≤ p.1), iL_pos (by omega : 0 ≤ p.2)]
theorem uL_head (p : Int × Int) : ((uL p).head? == some 45) = false := by
  have h : (uL p).head? = (TL.numL p.1.natAbs).head? := by
    unfold uL
    split
    · rfl
    · rw [List.head?_append]
      cases e : TL.numL p.1.natAbs with
      | nil => exact absurd e (TL.numL_ne _)
      | cons c r => rfl
  rw [h]
  cases e : TL.numL p.1.natAbs with
  | nil => rfl
  | cons c r =>
    have := TL.numL_digits p.1.natAbs c (by rw [e]; exact List.mem_cons_self)
    have : c ≠ 45 := by omega
    simp [this]
theorem uL_split (p : Int × Int) (h : (uL p).length ≤ 1000) : splitD (.str (S (uL p))) [.str "/"] = some (.lst ((psN p).map fun n => .str (S (TL.numL n)))) := by
  rw [split_S1 h]
  unfold uL psN
  split
  · rw [spl_1 (TL.numL_free (by omega))]; rfl
  · rw [spl_2 (TL.numL_free (by omega)) (TL.numL_free (by omega))]; rfl
end G
set_option maxRecDepth 100000
set_option maxHeartbeats 4000000
set_option exponentiation.threshold 300
namespace K11
open PySem PySem.Spec PyProof.Rows L2 G
theorem common_ok (a b : Nat) (hb : b < 2 ^ 9000) : Rt f_common_divisor [.val (.int a), .val (.int b)] (.val (.int (Nat.gcd a b))) := by
  refine Rt.of ?_
  simp [f_common_divisor, m_common_divisor]
  refine wp_while (β := Nat × Nat) (fun p δ => δ = [.val (.int p.1), .val (.int p.2)] ∧ Nat.gcd p.1 p.2 = Nat.gcd a b ∧ p.2 < 2 ^ 9000) (fun p => p.2) (a, b) ⟨rfl, rfl, hb⟩ (lt_fuel (Nat.lt_of_lt_of_le hb (Nat.pow_le_pow_right (by decide) (by decide)))) ?_
  rintro ⟨x, y⟩ δ ⟨rfl, h1, h2⟩
  simp only at h1 h2 ⊢
  simp
  by_cases z : 0 < y
  · simp only [z, decide_true, wpb_t]
    rw [mod_Z (by omega), wpo_some]
    refine ⟨y, x % y, ⟨⟨rfl, ?_⟩, ?_, Nat.lt_trans (Nat.mod_lt _ z) h2⟩, Nat.mod_lt _ z⟩
    · rw [Int.fmod_eq_emod_of_nonneg _ (by omega)]; rfl
    · rw [← h1, Nat.gcd_comm y, ← Nat.gcd_rec y x, Nat.gcd_comm]
  · have : y = 0 := by omega
    subst this
    simp at h1 ⊢
    omega
theorem is_ii (i : Int) : isinD cfg [.int i, .ty "int"] = some (.bl true) := rfl
theorem is_ib (i : Int) : isinD cfg [.int i, .ty "bool"] = some (.bl false) := rfl
theorem is_ic (i : Int) : isinD cfg [.int i, .cl 1] = some (.bl false) := rfl
theorem is_ri (p : Int × Int) : isinD cfg [ratD p, .ty "int"] = some (.bl false) := rfl
theorem is_rc (p : Int × Int) : isinD cfg [ratD p, .cl 1] = some (.bl true) := rfl
theorem isint_ok (i : Int) : Rt f_is_integer [.val (.int i)] (.val (.bl true)) := by
  refine Rt.of ?_
  simp [f_is_integer, m_is_integer, is_ii, is_ib]
theorem fld_t (d : D) : fldU [1] "own_top" d (.obj 1 []) = some (.obj 1 [("own_top", d)], .non) := rfl
theorem fld_b (d e : D) : fldU [1] "own_bottom" d (.obj 1 [("own_top", e)]) = some (.obj 1 [("own_top", e), ("own_bottom", d)], .non) := rfl
theorem init_ok (t b : Int) (h : b ≠ 0) (zt : Z 8900 t) (zb : Z 8900 b) : RtM f_Ratio_init 1 [.val (.int t), .val (.int b)] (ratD (red t b)) := by
  have c := common_ok t.natAbs b.natAbs (zb.mono (l := 9000) (by decide))
  have e : (Nat.gcd t.natAbs b.natAbs : Int) = Int.gcd t b := rfl
  have g := gcd_pos' (t := t) h
  have zg : Z 9000 (Int.gcd t b : Int) := (zb.mono (by decide)).of_le (by rw [Int.natAbs_natCast]; exact Nat.gcd_le_right t.natAbs (by omega : 0 < b.natAbs))
  have zn : Z 9000 (-(Int.gcd t b : Int)) := zg.neg
  have f1 : ∀ x : Int, fdivD (.int x) (.int (Int.gcd t b)) = some (.int (x.fdiv (Int.gcd t b))) := fun x => fdiv_Z (by omega) zg
  have f2 : ∀ x : Int, fdivD (.int x) (.int (-(Int.gcd t b : Int))) = some (.int (x.fdiv (-(Int.gcd t b : Int)))) := fun x => fdiv_Z (by omega) zn
  refine RtM.of ?_
  simp [f_Ratio_init, m_Ratio_init, wpF_rt (isint_ok _), beq_false_of_ne h, G.ite_abs, wpF_rt c, e]
  refine wpb_intro (fun hb => ?_) fun hb => ?_
  · simp [f2, fld_t, fld_b, ratD, red_fdiv, gcdS_neg (show b < 0 by simpa using hb)]
  · simp [f1, fld_t, fld_b, ratD, red_fdiv, gcdS_pos (show ¬b < 0 by simpa using hb)]
theorem frac_ok (t b : Int) (h : b ≠ 0) (zt : Z 8900 t) (zb : Z 8900 b) : Rt f_frac [.val (.int t), .val (.int b)] (.val (frD (red t b))) := by
  have e : (Nat.gcd t.natAbs b.natAbs : Int) = Int.gcd t b := rfl
  have g := gcd_pos' (t := t) h
  have zg : Z 9000 (Int.gcd t b : Int) := (zb.mono (by decide)).of_le (by rw [Int.natAbs_natCast]; exact Nat.gcd_le_right t.natAbs (by omega : 0 < b.natAbs))
  have f1 : ∀ x : Int, fdivD (.int x) (.int (Int.gcd t b)) = some (.int (x.fdiv (Int.gcd t b))) := fun x => fdiv_Z (by omega) zg
  have mx : ¬ ((Int.gcd t b : Int) < 1) := by omega
  refine Rt.of ?_
  simp [f_frac, m_frac, G.ite_abs]
  refine wp_while (β := Nat × Nat) (fun p δ => δ = [.val (.int t), .val (.int b), .val (.int p.1), .val (.int p.2)] ∧ Nat.gcd p.1 p.2 = Int.gcd t b ∧ p.1 < 2 ^ 9000 ∧ p.2 < 2 ^ 9000) (fun p => p.2) (t.natAbs, b.natAbs) ⟨rfl, rfl, (zt.mono (by decide) : Z 9000 t), (zb.mono (by decide) : Z 9000 b)⟩ (lt_fuel (Nat.lt_of_lt_of_le (zb.mono (by decide) : Z 9000 b) (Nat.pow_le_pow_right (by decide) (by decide)))) ?_
  rintro ⟨x, y⟩ δ ⟨rfl, h1, h2, h3⟩
  simp only at h1 h2 h3 ⊢
  simp
  by_cases z : 0 < y
  · simp only [z, decide_true, wpb_t]
    have e2 : ((x : Int).fdiv y) = ((x / y : Nat) : Int) := by rw [Int.fdiv_eq_ediv_of_nonneg _ (by omega)]; rfl
    rw [fdiv_Z (by omega) (by unfold Z; rw [Int.natAbs_natCast]; exact h3), wpo_some, e2, mul_Z (by unfold Z; rw [Int.natAbs_natCast]; exact Nat.lt_of_le_of_lt (Nat.div_le_self _ _) h2) (by unfold Z; rw [Int.natAbs_natCast]; exact h3), wpo_some, subD_int, wpo_some]
    have hx : (x : Int) - (x / y : Nat) * (y : Int) = ((x % y : Nat) : Int) := by
      have := Nat.div_add_mod x y
      have e3 : ((y * (x / y) + x % y : Nat) : Int) = x := by rw [this]
      rw [Int.natCast_add, Int.natCast_mul] at e3
      rw [Int.mul_comm]
      omega
    refine ⟨y, x % y, ⟨⟨rfl, ?_⟩, ?_, h3, Nat.lt_trans (Nat.mod_lt _ z) h3⟩, Nat.mod_lt _ z⟩
    · rw [hx]
    · rw [← h1, Nat.gcd_comm y, ← Nat.gcd_rec y x, Nat.gcd_comm]
  · have : y = 0 := by omega
    subst this
    rw [Nat.gcd_zero_right] at h1
    have e4 : (if (1 : Int) < x then (x : Int) else 1) = (Int.gcd t b : Int) := by rw [h1]; split <;> omega
    rw [e4]
    simp
    refine wpb_intro (fun hb => ?_) fun hb => ?_
    · have hb' : b < 0 := by simpa using hb
      have q := red_fdiv (-t) (-b)
      rw [red_neg h, gcdS_pos (show ¬ -b < 0 by omega), Int.gcd_neg, Int.neg_gcd] at q
      rw [q]
      simp [f1, frD, shortS_of]
    · simp [f1, frD, red_fdiv, gcdS_pos (show ¬b < 0 by simpa using hb), shortS_of]
end K11
set_option maxRecDepth 100000
set_option maxHeartbeats 4000000
set_option exponentiation.threshold 300
namespace K11
open PySem PySem.Spec PyProof.Rows L2 G
section
variable {d : D} {p q : Int × Int}
theorem init44 (t b : Int) (h : b ≠ 0) (zt : Z 8001 t) (zb : Z 8000 b) : RtM f_Ratio_init 1 [.val (.int t), .val (.int b)] (ratD (red t b)) := init_ok t b h (zt.mono (by decide)) (zb.mono (by decide))
theorem frac44 (t b : Int) (h : b ≠ 0) (zt : Z 8001 t) (zb : Z 8000 b) : Rt f_frac [.val (.int t), .val (.int b)] (.val (frD (red t b))) := frac_ok t b h (zt.mono (by decide)) (zb.mono (by decide))
theorem parts_ok (h : Sd d p) : Rt f_parts_of [.val d] (.val (frD p)) := by
  refine Rt.of ?_
  rcases h with rfl | ⟨rfl, h⟩
  · simp [f_parts_of, m_parts_of, is_rc, frD, shortS_of]
  · simp [f_parts_of, m_parts_of, is_ic, wpF_rt (isint_ok _), h, frD, shortS_of]
theorem neg_ok (hp : Lw 4000 p) : Rt f_Ratio_neg [.val (ratD p)] (.val (ratD (negP p))) := by
  refine Rt.of ?_
  have r := red_self hp.neg
  simp [f_Ratio_neg, m_Ratio_neg, wp_makeKS, wpF_mk (init44 (-p.1) p.2 hp.ne (hp.top.neg.mono (by decide)) (hp.bot.mono (by decide)))]
  unfold negP at r ⊢
  rw [r]
theorem abs_ok (hp : Lw 4000 p) : Rt f_Ratio_abs [.val (ratD p)] (.val (ratD (absP p))) := by
  refine Rt.of ?_
  have r := red_self hp.abs
  have a := hp.abs.top
  unfold absP at r a ⊢
  simp at a
  simp [f_Ratio_abs, m_Ratio_abs, wp_makeKS, G.ite_abs, wpF_mk (init44 p.1.natAbs p.2 hp.ne (a.mono (by decide)) (hp.bot.mono (by decide))), r]
theorem add_ok (hp : Lw 4000 p) (hs : Sd d q) (hq : Lw 4000 q) : Rt f_Ratio_add [.val (ratD p), .val d] (.val (ratD (addP p q))) := by
  refine Rt.of ?_
  simp [f_Ratio_add, m_Ratio_add, wpF_rt (parts_ok hs), frD, wp_makeKS, mul44, hp.top, hp.bot, hq.top, hq.bot, wpF_mk (init44 (p.1 * q.2 + q.1 * p.2) (p.2 * q.2) (Int.mul_ne_zero hp.ne hq.ne) ((hp.top.mul hq.bot).add (hq.top.mul hp.bot)) (hp.bot.mul hq.bot)), addP]
theorem sub_ok (hp : Lw 4000 p) (hs : Sd d q) (hq : Lw 4000 q) : Rt f_Ratio_sub [.val (ratD p), .val d] (.val (ratD (subP p q))) := by
  refine Rt.of ?_
  simp [f_Ratio_sub, m_Ratio_sub, wpF_rt (parts_ok hs), frD, wp_makeKS, mul44, hp.top, hp.bot, hq.top, hq.bot, wpF_mk (init44 (p.1 * q.2 - q.1 * p.2) (p.2 * q.2) (Int.mul_ne_zero hp.ne hq.ne) ((hp.top.mul hq.bot).sub (hq.top.mul hp.bot)) (hp.bot.mul hq.bot)), subP_eq]
theorem mul_ok (hp : Lw 4000 p) (hs : Sd d q) (hq : Lw 4000 q) : Rt f_Ratio_mul [.val (ratD p), .val d] (.val (ratD (mulP p q))) := by
  refine Rt.of ?_
  simp [f_Ratio_mul, m_Ratio_mul, wpF_rt (parts_ok hs), frD, wp_makeKS, mul44, hp.top, hp.bot, hq.top, hq.bot, wpF_mk (init44 (p.1 * q.1) (p.2 * q.2) (Int.mul_ne_zero hp.ne hq.ne) ((hp.top.mul hq.top).mono (by decide)) (hp.bot.mul hq.bot)), mulP]
theorem over_ok (hp : Lw 4000 p) (hs : Sd d q) (hq : Lw 4000 q) (h0 : q.1 ≠ 0) : Rt f_Ratio_over [.val (ratD p), .val d] (.val (ratD (divP p q))) := by
  refine Rt.of ?_
  simp [f_Ratio_over, m_Ratio_over, wpF_rt (parts_ok hs), frD, wp_makeKS, mul44, hp.top, hp.bot, hq.top, hq.bot, h0, beq_false_of_ne h0, wpF_mk (init44 (p.1 * q.2) (p.2 * q.1) (Int.mul_ne_zero hp.ne h0) ((hp.top.mul hq.bot).mono (by decide)) (hp.bot.mul hq.top)), divP]
theorem fldiv_ok (hp : Lw 4000 p) (hs : Sd d q) (hq : Lw 4000 q) (h0 : q.1 ≠ 0) : Rt f_Ratio_floordiv [.val (ratD p), .val d] (.val (.int (floorP p q))) := by
  refine Rt.of ?_
  simp [f_Ratio_floordiv, m_Ratio_floordiv, wpF_rt (parts_ok hs), frD, mul44, hp.top, hp.bot, hq.top, hq.bot, h0, beq_false_of_ne h0, fdiv_Z (Int.mul_ne_zero hp.ne h0) ((hp.bot.mul hq.top).mono (by decide)), floorP]
theorem of_ok (hs : Sd d q) (hq : Lw 4000 q) : Rt f_Ratio_of [.val d] (.val (ratD q)) := by
  refine Rt.of ?_
  simp [f_Ratio_of, m_Ratio_of, wpF_rt (parts_ok hs), frD, wp_makeKS, wpF_mk (init44 q.1 q.2 hq.ne (hq.top.mono (by decide)) (hq.bot.mono (by decide))), red_self hq]
theorem top_ok : Rt f_Ratio_top [.val (ratD p)] (.val (.int p.1)) := by
  refine Rt.of ?_
  simp [f_Ratio_top, m_Ratio_top]
theorem bottom_ok : Rt f_Ratio_bottom [.val (ratD p)] (.val (.int p.2)) := by
  refine Rt.of ?_
  simp [f_Ratio_bottom, m_Ratio_bottom]
theorem floor_ok (hp : Lw 4000 p) : Rt f_Ratio_floor [.val (ratD p)] (.val (.int (p.1.fdiv p.2))) := by
  refine Rt.of ?_
  simp [f_Ratio_floor, m_Ratio_floor, fdiv_Z hp.ne (hp.bot.mono (by decide))]
theorem ceil_ok (hp : Lw 4000 p) : Rt f_Ratio_ceiling [.val (ratD p)] (.val (.int (-(-p.1).fdiv p.2))) := by
  refine Rt.of ?_
  simp [f_Ratio_ceiling, m_Ratio_ceiling, fdiv_Z hp.ne (hp.bot.mono (by decide))]
def cmpP (p q : Int × Int) : Int := if p.1 * q.2 = q.1 * p.2 then 0 else if p.1 * q.2 > q.1 * p.2 then 1 else -1
theorem compare_ok (hp : Lw 4000 p) (hs : Sd d q) (hq : Lw 4000 q) : Rt f_Ratio_compare [.val (ratD p), .val d] (.val (.int (cmpP p q))) := by
  refine Rt.of ?_
  simp [f_Ratio_compare, m_Ratio_compare, wpF_rt (parts_ok hs), frD, mul44, hp.top, hp.bot, hq.top, hq.bot, cmpP]
  refine wpb_intro (fun h => ?_) fun h => wpb_intro (fun h2 => ?_) fun h2 => ?_
  · have : p.1 * q.2 - q.1 * p.2 = 0 := by simpa using h
    intro; omega
  · have h1 : ¬ p.1 * q.2 - q.1 * p.2 = 0 := by simpa using h
    have h2 : q.1 * p.2 < p.1 * q.2 := by simpa using h2
    rw [if_neg (by omega), if_pos h2]
  · have h1 : ¬ p.1 * q.2 - q.1 * p.2 = 0 := by simpa using h
    have h2 : ¬ q.1 * p.2 < p.1 * q.2 := by simpa using h2
    rw [if_neg (by omega), if_neg h2]
theorem eq_rr : Rt f_Ratio_eq [.val (ratD p), .val (ratD q)] (.val (.bl (decide (p = q)))) := by
  obtain ⟨a, b⟩ := p
  obtain ⟨x, y⟩ := q
  refine Rt.of ?_
  simp [f_Ratio_eq, m_Ratio_eq, is_rc]
  refine wpb_intro (fun h => ?_) fun h => ?_
  · have h : a = x := by simpa using h
    subst h
    by_cases z : b = y <;> simp [z]
  · have h : ¬a = x := by simpa using h
    simp [h]
theorem eq_ri (i : Int) : Rt f_Ratio_eq [.val (ratD p), .val (.int i)] (.val (.bl false)) := by
  refine Rt.of ?_
  simp [f_Ratio_eq, m_Ratio_eq, is_ic]
/-! the law's own fractions -/
theorem ix0 : ixD (frD p) (.int 0) = some (.int p.1) := rfl
theorem ix1 : ixD (frD p) (.int 1) = some (.int p.2) := rfl
theorem frc_neg : D.tup [.int (-p.1), .int p.2] = frD (negP p) := rfl
theorem plus_ok (hp : Lw 4000 p) (hq : Lw 4000 q) : Rt f_plus [.val (frD p), .val (frD q)] (.val (frD (addP p q))) := by
  refine Rt.of ?_
  simp [f_plus, m_plus, ix0, ix1, mul44, hp.top, hp.bot, hq.top, hq.bot, wpF_rt (frac44 (p.1 * q.2 + q.1 * p.2) (p.2 * q.2) (Int.mul_ne_zero hp.ne hq.ne) ((hp.top.mul hq.bot).add (hq.top.mul hp.bot)) (hp.bot.mul hq.bot)), addP]
theorem less_ok (hp : Lw 4000 p) (hq : Lw 4000 q) : Rt f_less [.val (frD p), .val (frD q)] (.val (frD (subP p q))) := by
  refine Rt.of ?_
  simp [f_less, m_less, ix0, ix1, shortS_of, frc_neg, wpF_rt (plus_ok hp hq.neg), subP]
theorem times_ok (hp : Lw 4000 p) (hq : Lw 4000 q) : Rt f_times [.val (frD p), .val (frD q)] (.val (frD (mulP p q))) := by
  refine Rt.of ?_
  simp [f_times, m_times, ix0, ix1, mul44, hp.top, hp.bot, hq.top, hq.bot, wpF_rt (frac44 (p.1 * q.1) (p.2 * q.2) (Int.mul_ne_zero hp.ne hq.ne) ((hp.top.mul hq.top).mono (by decide)) (hp.bot.mul hq.bot)), mulP]
theorem lfloor_ok (hp : Lw 4000 p) (hq : Lw 4000 q) (h0 : q.1 ≠ 0) : Rt f_floor [.val (frD p), .val (frD q)] (.val (.int (floorP p q))) := by
  refine Rt.of ?_
  simp [f_floor, m_floor, ix0, ix1, mul44, hp.top, hp.bot, hq.top, hq.bot, fdiv_Z (Int.mul_ne_zero hp.ne h0) ((hp.bot.mul hq.top).mono (by decide)), floorP]
theorem rest_ok (hp : Lw 1300 p) (hq : Lw 1300 q) (h0 : q.1 ≠ 0) : Rt f_rest [.val (frD p), .val (frD q)] (.val (frD (restP p q))) := by
  have f := hp.floor hq
  have m := Lw.fmul f hq
  refine Rt.of ?_
  simp [f_rest, m_rest, wpF_rt (lfloor_ok (hp.mono (by decide)) (hq.mono (by decide)) h0), shortS_of]
  have e : D.tup [.int (floorP p q), .int 1] = frD (floorP p q, 1) := rfl
  rw [e]
  simp [wpF_rt (times_ok (f.mono (by decide)) (hq.mono (by decide))), wpF_rt (less_ok (hp.mono (by decide)) (m.mono (by decide))), restP]
end
end K11
set_option maxRecDepth 100000
set_option maxHeartbeats 4000000
set_option exponentiation.threshold 300
namespace K11
open PySem PySem.Spec PyProof.Rows L2 G
section
variable {d : D} {p q : Int × Int} {X : D → DEnv → Prop} {E : Ex → DEnv → Prop} {δ : DEnv} {tl tr : Tab} {kl kr : List TK} {g : D → D → Option D} {f rf : List SD → R SD}
/-! operators -/
theorem opX_l (hs : Sd d q) : opX [(1, f)] tr (kindsOf ks7 []) kr g (ratD p) d = fnM f [.val (ratD p), .val d] := by
  rcases hs with rfl | ⟨rfl, _⟩ <;> rfl
theorem opX_r (i : Int) : opX tl [(1, rf)] kl (kindsOf ks7 []) g (.int i) (ratD q) = fnM rf [.val (ratD q), .val (.int i)] := rfl
theorem opX_r6 (i : Int) : opX tl [(1, rf)] kl (kindsOf ks6 []) g (.int i) (ratD q) = fnM rf [.val (ratD q), .val (.int i)] := rfl
theorem add_l (hp : Lw 4000 p) (hs : Sd d q) (hq : Lw 4000 q) : wp (opX [(1, f_Ratio_add)] tr (kindsOf ks7 []) kr g (ratD p) d) X E δ = X (ratD (addP p q)) δ := by
  rw [opX_l hs]
  simp [wpF_rt (add_ok hp hs hq)]
theorem sub_l (hp : Lw 4000 p) (hs : Sd d q) (hq : Lw 4000 q) : wp (opX [(1, f_Ratio_sub)] tr (kindsOf ks7 []) kr g (ratD p) d) X E δ = X (ratD (subP p q)) δ := by
  rw [opX_l hs]
  simp [wpF_rt (sub_ok hp hs hq)]
theorem mul_l (hp : Lw 4000 p) (hs : Sd d q) (hq : Lw 4000 q) : wp (opX [(1, f_Ratio_mul)] tr (kindsOf ks7 []) kr g (ratD p) d) X E δ = X (ratD (mulP p q)) δ := by
  rw [opX_l hs]
  simp [wpF_rt (mul_ok hp hs hq)]
theorem fdiv_l (hp : Lw 4000 p) (hs : Sd d q) (hq : Lw 4000 q) (h0 : q.1 ≠ 0) : wp (opX [(1, f_Ratio_floordiv)] tr (kindsOf ks7 []) kr g (ratD p) d) X E δ = X (.int (floorP p q)) δ := by
  rw [opX_l hs]
  simp [wpF_rt (fldiv_ok hp hs hq h0)]
theorem Sd.r (p : Int × Int) : Sd (ratD p) p := .inl rfl
theorem Sd.i (i : Int) : Sd (.int i) (i, 1) := .inr ⟨rfl, rfl⟩
theorem radd_ok (hp : Lw 4000 p) (hs : Sd d q) (hq : Lw 4000 q) : Rt f_Ratio_radd [.val (ratD p), .val d] (.val (ratD (addP q p))) := by
  refine Rt.of ?_
  simp [f_Ratio_radd, m_Ratio_radd, add_l hp hs hq, addP_comm]
theorem neg_u (hp : Lw 4000 p) : ownU [(1, f_Ratio_neg)] negD (ratD p) = some (ratD (negP p)) := fnV_rt (ds := [ratD p]) (neg_ok hp)
theorem abs_u (hp : Lw 4000 p) : absT [(1, f_Ratio_abs)] [ratD p] = some (ratD (absP p)) := fnV_rt (ds := [ratD p]) (abs_ok hp)
theorem rsub_ok (hp : Lw 4000 p) (hs : Sd d q) (hq : Lw 4000 q) : Rt f_Ratio_rsub [.val (ratD p), .val d] (.val (ratD (subP q p))) := by
  refine Rt.of ?_
  simp [f_Ratio_rsub, m_Ratio_rsub, neg_u hp, add_l hp.neg hs hq, subP, addP_comm q]
theorem rmul_ok (hp : Lw 4000 p) (hs : Sd d q) (hq : Lw 4000 q) : Rt f_Ratio_rmul [.val (ratD p), .val d] (.val (ratD (mulP q p))) := by
  refine Rt.of ?_
  simp [f_Ratio_rmul, m_Ratio_rmul, mul_l hp hs hq, mulP_comm]
theorem rfdiv_ok (hp : Lw 4000 p) (hs : Sd d q) (hq : Lw 4000 q) (h0 : p.1 ≠ 0) : Rt f_Ratio_rfloordiv [.val (ratD p), .val d] (.val (.int (floorP q p))) := by
  refine Rt.of ?_
  simp [f_Ratio_rfloordiv, m_Ratio_rfloordiv, wp_callKS, wpF_rt (of_ok hs hq), fdiv_l hq (Sd.r p) hp h0]
theorem mod_ok (hp : Lw 1300 p) (hs : Sd d q) (hq : Lw 1300 q) (h0 : q.1 ≠ 0) : Rt f_Ratio_mod [.val (ratD p), .val d] (.val (ratD (restP p q))) := by
  have p4 := hp.mono (l := 4000) (by decide)
  have q4 := hq.mono (l := 4000) (by decide)
  have f := hp.floor hq
  have m := Lw.fmul f hq
  refine Rt.of ?_
  simp [f_Ratio_mod, m_Ratio_mod, wp_callKS, wpF_rt (of_ok hs q4), fdiv_l p4 hs q4 h0, mul_l q4 (Sd.i _) (f.mono (by decide)), restP, mulP_comm q, sub_l p4 (Sd.r _) (m.mono (by decide))]
theorem rmod_ok (hp : Lw 1300 p) (hs : Sd d q) (hq : Lw 1300 q) (h0 : p.1 ≠ 0) : Rt f_Ratio_rmod [.val (ratD p), .val d] (.val (ratD (restP q p))) := by
  have p4 := hp.mono (l := 4000) (by decide)
  have q4 := hq.mono (l := 4000) (by decide)
  have f := hq.floor hp
  have m := Lw.fmul f hp
  refine Rt.of ?_
  simp [f_Ratio_rmod, m_Ratio_rmod, wp_callKS, wpF_rt (of_ok hs q4), fdiv_l q4 (Sd.r p) p4 h0, mul_l p4 (Sd.i _) (f.mono (by decide)), restP, mulP_comm p, sub_l q4 (Sd.r _) (m.mono (by decide))]
theorem mod_l (hp : Lw 1300 p) (hs : Sd d q) (hq : Lw 1300 q) (h0 : q.1 ≠ 0) : wp (opX [(1, f_Ratio_mod)] tr (kindsOf ks7 []) kr g (ratD p) d) X E δ = X (ratD (restP p q)) δ := by
  rw [opX_l hs]
  simp [wpF_rt (mod_ok hp hs hq h0)]
/-! a Ratio on the right side -/
theorem add_r (hp : Lw 4000 p) (hs : Sd d q) (hq : Lw 4000 q) : wp (opX [(1, f_Ratio_add)] [(1, f_Ratio_radd)] (kindsOf ks7 []) (kindsOf ks7 []) g d (ratD p)) X E δ = X (ratD (addP q p)) δ := by
  rcases hs with rfl | ⟨rfl, h⟩
  · rw [add_l hq (Sd.r p) hp]
  · rw [opX_r]
    simp [wpF_rt (radd_ok hp (.inr ⟨rfl, h⟩) hq)]
theorem sub_r (hp : Lw 4000 p) (hs : Sd d q) (hq : Lw 4000 q) : wp (opX [(1, f_Ratio_sub)] [(1, f_Ratio_rsub)] (kindsOf ks7 []) (kindsOf ks7 []) g d (ratD p)) X E δ = X (ratD (subP q p)) δ := by
  rcases hs with rfl | ⟨rfl, h⟩
  · rw [sub_l hq (Sd.r p) hp]
  · rw [opX_r]
    simp [wpF_rt (rsub_ok hp (.inr ⟨rfl, h⟩) hq)]
theorem mul_r (hp : Lw 4000 p) (hs : Sd d q) (hq : Lw 4000 q) : wp (opX [(1, f_Ratio_mul)] [(1, f_Ratio_rmul)] (kindsOf ks7 []) (kindsOf ks7 []) g d (ratD p)) X E δ = X (ratD (mulP q p)) δ := by
  rcases hs with rfl | ⟨rfl, h⟩
  · rw [mul_l hq (Sd.r p) hp]
  · rw [opX_r]
    simp [wpF_rt (rmul_ok hp (.inr ⟨rfl, h⟩) hq)]
theorem fdiv_r (hp : Lw 4000 p) (hs : Sd d q) (hq : Lw 4000 q) (h0 : p.1 ≠ 0) : wp (opX [(1, f_Ratio_floordiv)] [(1, f_Ratio_rfloordiv)] (kindsOf ks7 []) (kindsOf ks7 []) g d (ratD p)) X E δ = X (.int (floorP q p)) δ := by
  rcases hs with rfl | ⟨rfl, h⟩
  · rw [fdiv_l hq (Sd.r p) hp h0]
  · rw [opX_r]
    simp [wpF_rt (rfdiv_ok hp (.inr ⟨rfl, h⟩) hq h0)]
theorem mod_r (hp : Lw 1300 p) (hs : Sd d q) (hq : Lw 1300 q) (h0 : p.1 ≠ 0) : wp (opX [(1, f_Ratio_mod)] [(1, f_Ratio_rmod)] (kindsOf ks7 []) (kindsOf ks6 []) g d (ratD p)) X E δ = X (ratD (restP q p)) δ := by
  rcases hs with rfl | ⟨rfl, h⟩
  · rw [mod_l hq (Sd.r p) hp h0]
  · rw [opX_r6]
    simp [wpF_rt (rmod_ok hp (.inr ⟨rfl, h⟩) hq h0)]
end
end K11
set_option maxRecDepth 100000
set_option maxHeartbeats 4000000
set_option exponentiation.threshold 300
namespace K11
open PySem PySem.Spec PyProof.Rows L2 G
open SX (S)
section
variable {d : D} {p q : Int × Int} {X : D → DEnv → Prop} {E : Ex → DEnv → Prop} {δ : DEnv}
theorem is_s (x : Str) : isinD cfg [.str x, .ty "str"] = some (.bl true) := rfl
theorem quiet_rt {f : List SD → R SD} {sds : List SD} {r : SD} (h : Rt f sds r) : Rt (quietF f) sds r := by
  obtain ⟨rs, e⟩ := h
  exact ⟨rs, by unfold quietF; rw [e]⟩
theorem told_ok (ps : List (Int × Int)) (hl : ps.length ≤ 1000) : Rt f_told [.val (.lst (ps.map ratD))] (.val (.lst (ps.map frD))) := by
  refine Rt.of ?_
  simp [f_told, m_told, itsD]
  refine wp_lc_map ratD frD ps (by omega) (fun p hp => ?_) (by simp)
  rw [wp_lcTurn]
  simp [is_rc, wpF_rt (quiet_rt top_ok), wpF_rt (quiet_rt bottom_ok), shortS_of, frD]
theorem told_own (ps : List (Int × Int)) (hl : ps.length ≤ 1000) : f_told [.own (.lst (ps.map ratD))] = .ok (.val (.lst (ps.map frD))) [.val (.lst (ps.map ratD))] := by
  refine wpF_eq ?_
  simp [f_told, m_told, itsD]
  refine wp_lc_map ratD frD ps (by omega) (fun p hp => ?_) (by simp)
  rw [wp_lcTurn]
  simp [is_rc, wpF_rt (quiet_rt top_ok), wpF_rt (quiet_rt bottom_ok), shortS_of, frD]
theorem ints_ok (is : List Int) (hl : is.length ≤ 1000) : Rt f_are_integers [.val (.lst (is.map D.int))] (.val (.bl true)) := by
  refine Rt.of ?_
  simp [f_are_integers, m_are_integers, itsD]
  refine wp_lc_map D.int (fun _ => D.bl true) is (by omega) (fun p hp => ?_) ?_
  · rw [wp_lcTurn]
    simp [is_ii, is_ib]
  · rw [List.map_const', C.allD_true]
    rfl
theorem text_ok (hp : Lw 1900 p) : Rt f_text [.val (frD p)] (.val (.str (S (txL p)))) := by
  have l1 := iL_len (k := 640) (hp.top.mono (by decide)) (by decide)
  have l2 := iL_len (k := 640) (hp.bot.mono (by decide)) (by decide)
  have a1 : addA (.str (S (iL p.1))) (.str "/") = some (.str (S (iL p.1 ++ [47]))) := by
    rw [stroke_S, cat_str (by rw [SX.S_len, SX.S_len]; simp; omega), SX.S_cat]
  have a2 : addA (.str (S (iL p.1 ++ [47]))) (.str (S (iL p.2))) = some (.str (S (iL p.1 ++ 47 :: iL p.2))) := by
    rw [cat_str (by rw [SX.S_len, SX.S_len]; simp; omega), SX.S_cat]
    simp
  refine Rt.of ?_
  simp [f_text, m_text, ix0, ix1, strD_int (hp.top.mono (by decide : 1900 ≤ 1920)), strD_int (hp.bot.mono (by decide : 1900 ≤ 1920)), a1, a2]
  refine wpb_intro (fun h => ?_) fun h => ?_
  · have : p.2 = 1 := by simpa using h
    simp [txL, this]
  · have : ¬p.2 = 1 := by simpa using h
    simp [txL, this]
theorem str_ok (hp : Lw 1900 p) : Rt f_Ratio_str [.val (ratD p)] (.val (.str (S (txL p)))) := by
  have l1 := iL_len (k := 640) (hp.top.mono (by decide)) (by decide)
  have l2 := iL_len (k := 640) (hp.bot.mono (by decide)) (by decide)
  refine Rt.of ?_
  simp [f_Ratio_str, m_Ratio_str, strD_int (hp.top.mono (by decide : 1900 ≤ 1920)), fmtD_int (hp.top.mono (by decide : 1900 ≤ 1920)), fmtD_int (hp.bot.mono (by decide : 1900 ≤ 1920))]
  have le : ∀ n : Nat, n ≤ 10000 → shortS n = true := fun n h => shortS_of (by omega)
  have e0 : Str.empty ++ S (iL p.1) = S (iL p.1) := by show S [] ++ S (iL p.1) = _; rw [SX.S_cat]; rfl
  rw [e0, stroke_S, SX.S_cat, SX.S_cat]
  simp only [SX.S_len]
  rw [le _ (by omega), le _ (by simp; omega), le _ (by simp; omega)]
  simp only [wpb_t]
  refine wpb_intro (fun h => ?_) fun h => ?_
  · have : p.2 = 1 := by simpa using h
    simp [txL, this]
  · have : ¬p.2 = 1 := by simpa using h
    simp [txL, this]
theorem str_u (hp : Lw 1900 p) : strD [(1, f_Ratio_str)] [ratD p] = some (.str (S (txL p))) := by
  show (fnV f_Ratio_str [ratD p]).bind isStrD = _
  rw [fnV_rt (ds := [ratD p]) (str_ok hp)]
  rfl
theorem figs_ok (n : Nat) (h : (TL.numL n).length ≤ 640) : Rt f_are_figures [.val (.str (S (TL.numL n)))] (.val (.bl true)) := by
  refine Rt.of ?_
  simp [f_are_figures, m_are_figures, itsD, ne_empty (TL.numL_ne n) (fun c hc => by have := TL.numL_digits n c hc; omega)]
  refine wp_lc_map (fun c => D.str ⟨#[c]⟩) (fun _ => D.bl true) (TL.numL n) (by omega) (fun p hp => ?_) ?_
  · rw [wp_lcTurn]
    simp [in_digs (TL.numL_digits n p hp)]
  · rw [List.map_const', C.allD_true]
    rfl
theorem figs_all (ns : List Nat) (h : ∀ n ∈ ns, (TL.numL n).length ≤ 640) (hl : ns.length ≤ 10) (x y z : D) : wp (lcLoop [4] (storeM 4) (M.pure true) (keptR (callS f_are_figures [Opd.m (getV 4)])) (ns.map fun n => D.str (S (TL.numL n))) []) X E [.val x, .val y, .val z, .no, .no] = X (.lst (ns.map fun _ => .bl true)) [.val x, .val y, .val z, .no, .no] := by
  refine wp_det ?_
  refine wp_lc_map (fun n => D.str (S (TL.numL n))) (fun _ => D.bl true) ns (by omega) (fun p hp => ?_) ⟨rfl, rfl⟩
  rw [wp_lcTurn]
  simp [wpF_rt (figs_ok p (h p hp))]
theorem read_ok (hp : Lw 200 p) : Rt f_Ratio_read [.val (.str (S (txL p)))] (.val (ratD p)) := by
  have n1 : (TL.numL p.1.natAbs).length ≤ 67 := num_len (k := 67) (Nat.lt_of_lt_of_le hp.top (Nat.pow_le_pow_right (by decide) (by decide))) (by decide)
  have n2 : (TL.numL p.2.natAbs).length ≤ 67 := num_len (k := 67) (Nat.lt_of_lt_of_le hp.bot (Nat.pow_le_pow_right (by decide) (by decide))) (by decide)
  have ul : (uL p).length ≤ 135 := by unfold uL; split <;> first | omega | (simp; omega)
  have hns : ∀ n ∈ psN p, (TL.numL n).length ≤ 640 := by unfold psN; split <;> simp <;> omega
  have hnl : (psN p).length ≤ 10 := by unfold psN; split <;> simp
  have sp := uL_split p (by omega)
  have ra := red_self hp.abs
  have al : ∀ ns : List Nat, allD [.lst (ns.map fun _ => .bl true)] = some (.bl true) := fun ns => by rw [List.map_const', C.allD_true]
  have fi := fun (x y z : D) (X : D → DEnv → Prop) (E : Ex → DEnv → Prop) => figs_all (X := X) (E := E) (psN p) hns hnl x y z
  refine Rt.of ?_
  have it1 := intT_num (n := p.1.natAbs) (by omega)
  have it2 := intT_num (n := p.2.natAbs) (by omega)
  have b0 : ¬p.2 = 0 := hp.ne
  have b2 : (p.2.natAbs : Int) = p.2 := by have := hp.pos; omega
  have su := str_u (hp.mono (l := 1900) (by decide))
  have sa := str_u (hp.abs.mono (l := 1900) (by decide))
  have ng := neg_u (hp.abs.mono (l := 4000) (by decide))
  have mk := init44 p.1.natAbs p.2 hp.ne (hp.abs.top.mono (by decide)) (hp.bot.mono (by decide))
  have ra : red p.1.natAbs p.2 = absP p := ra
  rw [ra] at mk
  have ns := ne_self (sh_txt p)
  by_cases z : p.2 = 1
  · have pn : psN p = [p.1.natAbs] := if_pos z
    have ix1 : ∀ x : D, ixD (.lst [x]) (.int (-1)) = some x := fun x => rfl
    have ix2 : ∀ x : D, ixD (.lst [x]) (.int 0) = some x := fun x => rfl
    rw [z] at mk
    by_cases s : p.1 < 0
    · have sl := slice_S (l := 45 :: uL p) (by simp; omega)
      have e : negP (absP p) = p := by unfold negP absP; refine Prod.ext ?_ rfl; simp only; omega
      rw [e] at ng
      rw [txL_neg s hp.pos] at su ns ⊢
      simp [f_Ratio_read, m_Ratio_read, is_s, start_S, sl, sp, fi, al]
      simp only [pn]
      simp [ix1, ix2, it1, wp_makeKS, wpF_mk mk, start_S, ng, su, ns]
    · have e : absP p = p := by unfold absP; refine Prod.ext ?_ rfl; simp only; omega
      rw [e] at mk
      rw [txL_pos s hp.pos] at su ns ⊢
      simp [f_Ratio_read, m_Ratio_read, is_s, start_S, sp, fi, al, uL_head]
      simp only [pn]
      simp [ix1, ix2, it1, wp_makeKS, wpF_mk mk, start_S, uL_head, su, ns]
  · have pn : psN p = [p.1.natAbs, p.2.natAbs] := if_neg z
    have ix1 : ∀ x y : D, ixD (.lst [x, y]) (.int (-1)) = some y := fun x y => rfl
    have ix2 : ∀ x y : D, ixD (.lst [x, y]) (.int 0) = some x := fun x y => rfl
    have ix3 : ∀ x y : D, ixD (.lst [x, y]) (.int 1) = some y := fun x y => rfl
    by_cases s : p.1 < 0
    · have sl := slice_S (l := 45 :: uL p) (by simp; omega)
      have e : negP (absP p) = p := by unfold negP absP; refine Prod.ext ?_ rfl; simp only; omega
      rw [e] at ng
      rw [txL_neg s hp.pos] at su ns ⊢
      simp [f_Ratio_read, m_Ratio_read, is_s, start_S, sl, sp, fi, al]
      simp only [pn]
      simp [ix1, ix2, ix3, it1, it2, wp_makeKS, b2, beq_false_of_ne b0, wpF_mk mk, start_S, ng, su, ns]
    · have e : absP p = p := by unfold absP; refine Prod.ext ?_ rfl; simp only; omega
      rw [e] at mk
      rw [txL_pos s hp.pos] at su ns ⊢
      simp [f_Ratio_read, m_Ratio_read, is_s, start_S, sp, fi, al, uL_head]
      simp only [pn]
      simp [ix1, ix2, ix3, it1, it2, wp_makeKS, b2, beq_false_of_ne b0, wpF_mk mk, start_S, uL_head, su, ns]
end
end K11
set_option maxRecDepth 100000
set_option maxHeartbeats 4000000
set_option exponentiation.threshold 300
namespace K11
open PySem PySem.Spec PyProof.Rows L2 G
open SX (S)
def Pt (P : D) : Prop := ∃ c s, P = C.pot c s ∧ C.PotOk c s
section
variable {d P : D} {p q : Int × Int} {Q : SD → List SD → Prop} {E : Ex → List SD → Prop} {δ : DEnv}
theorem wpF_draw {n : Int} (hP : Pt P) (h1 : 0 < n) (h2 : n < 2 ^ 64) (h : ∀ d P', 0 ≤ d → d < n → Pt P' → Q (.val (.int d)) [.own P', .val (.int n)]) : wpF f_draw [.own P, .val (.int n)] Q E := by
  obtain ⟨c, s, rfl, ok⟩ := hP
  obtain ⟨d, c', s', e, h3, h4, h5⟩ := C.draw_ok ok h1 h2
  rw [wpF_of (f := f_draw) e]
  exact h d _ h3 h4 ⟨_, _, rfl, h5⟩
theorem wpF_pick {xs : List D} (hP : Pt P) (h1 : 0 < xs.length) (h2 : xs.length < 1000) (h : ∀ x P', x ∈ xs → Pt P' → Q (.val x) [.own P', .val (.lst xs)]) : wpF f_pick [.own P, .val (.lst xs)] Q E := by
  simp [f_pick, m_pick]
  refine wpF_draw hP (by omega) (by omega) fun d P' h3 h4 h5 => ?_
  have e : ixD (.lst xs) (.int d) = some (xs[d.toNat]'(by omega)) := atI_of h3 (List.getElem?_eq_getElem _)
  simp [e]
  exact h _ _ (List.getElem_mem _) h5
theorem wpF_pickO {xs : List D} (hP : Pt P) (h1 : 0 < xs.length) (h2 : xs.length < 1000) (h : ∀ x P', x ∈ xs → Pt P' → Q (.val x) [.own P', .own (.lst xs)]) : wpF f_pick [.own P, .own (.lst xs)] Q E := by
  simp [f_pick, m_pick]
  refine wpF_draw hP (by omega) (by omega) fun d P' h3 h4 h5 => ?_
  have e : ixD (.lst xs) (.int d) = some (xs[d.toNat]'(by omega)) := atI_of h3 (List.getElem?_eq_getElem _)
  simp [e]
  exact h _ _ (List.getElem_mem _) h5
theorem p12 : powD (.int 10) (.int 12) = some (.int 1000000000000) := Eq.trans rfl rfl
theorem p11 : powD (.int 10) (.int 11) = some (.int 100000000000) := Eq.trans rfl rfl
theorem p17 : powD (.int 10) (.int 17) = some (.int 100000000000000000) := Eq.trans rfl rfl
theorem p9 : powD (.int 10) (.int 9) = some (.int 1000000000) := Eq.trans rfl rfl
theorem m5 : mulA (.int 5) (.int 100000000000) = some (.int 500000000000) := Eq.trans rfl rfl
theorem md3 (i : Int) : modD (.int i) (.int 3) = some (.int (i % 3)) := modD_int (by omega)
theorem ix3 (a b c d : D) : ixD (.lst [a, b, c, d]) (.int 3) = some d := rfl
theorem set3 (a b c d x : D) : setLDD (.lst [a, b, c, d]) (.int 3) x = some (.lst [a, b, c, x]) := rfl
theorem wpF_drawn (hP : Pt P) (h : ∀ p P', Lw 96 p → Pt P' → Q (.val (frD p)) [.own P']) : wpF f_drawn [.own P] Q E := by
  simp [f_drawn, m_drawn, p12, p11, p17, p9]
  refine wpF_draw hP (by omega) (by omega) fun d1 P1 a1 b1 hP => ?_
  simp
  refine wpF_draw hP (by omega) (by omega) fun d2 P2 a2 b2 hP => ?_
  simp
  refine wpF_draw hP (by omega) (by omega) fun d3 P3 a3 b3 hP => ?_
  have mx : mulA (.int (d3 - 500000000000)) (.int 100000000000000000) = some (.int ((d3 - 500000000000) * 100000000000000000)) := mulA_int (by omega) (by omega) (by omega) (by omega)
  simp [m5, shortS_of, md3, mx, ix3, set3]
  refine wpb_intro (fun _ => ?_) fun _ => ?_
  · refine wpF_draw hP (by omega) (by omega) fun d4 P4 a4 b4 hP => ?_
    simp
    refine wpF_draw hP (by omega) (by omega) fun d5 P5 a5 b5 hP => ?_
    simp
    refine wpF_draw hP (by omega) (by omega) fun d6 P6 a6 b6 hP => ?_
    simp [shortS_of]
    refine wpF_pickO hP (by simp) (by simp) fun x P7 hx hP => ?_
    simp
    refine wpF_pick hP (by simp) (by simp) fun y P8 hy hP => ?_
    have ⟨x', ex, zx⟩ : ∃ x', x = .int x' ∧ Z 96 x' := by
      simp at hx
      rcases hx with rfl | rfl | rfl | rfl <;> exact ⟨_, rfl, .of_lt (by omega) (by omega)⟩
    have ⟨y', ey, zy, ny⟩ : ∃ y', y = .int y' ∧ Z 96 y' ∧ y' ≠ 0 := by
      simp at hy
      rcases hy with rfl | rfl | rfl | rfl <;> exact ⟨_, rfl, .of_lt (by omega) (by omega), by omega⟩
    subst ex ey
    simp [wpF_rt (frac44 x' y' ny (zx.mono (by decide)) (zy.mono (by decide)))]
    exact h _ _ (red_lw ny zx zy) hP
  · refine wpF_draw hP (by omega) (by omega) fun d4 P4 a4 b4 hP => ?_
    simp
    refine wpF_draw hP (by omega) (by omega) fun d5 P5 a5 b5 hP => ?_
    simp
    refine wpF_draw hP (by omega) (by omega) fun d6 P6 a6 b6 hP => ?_
    simp [shortS_of]
    refine wpF_pickO hP (by simp) (by simp) fun x P7 hx hP => ?_
    simp
    refine wpF_pick hP (by simp) (by simp) fun y P8 hy hP => ?_
    have ⟨x', ex, zx⟩ : ∃ x', x = .int x' ∧ Z 96 x' := by
      simp at hx
      rcases hx with rfl | rfl | rfl | rfl <;> exact ⟨_, rfl, .of_lt (by omega) (by omega)⟩
    have ⟨y', ey, zy, ny⟩ : ∃ y', y = .int y' ∧ Z 96 y' ∧ y' ≠ 0 := by
      simp at hy
      rcases hy with rfl | rfl | rfl | rfl <;> exact ⟨_, rfl, .of_lt (by omega) (by omega), by omega⟩
    subst ex ey
    simp [wpF_rt (frac44 x' y' ny (zx.mono (by decide)) (zy.mono (by decide)))]
    exact h _ _ (red_lw ny zx zy) hP
theorem wpF_made (hP : Pt P) (hp : Lw 96 p) (h : ∀ P', Pt P' → Q (.val (ratD p)) [.own P', .val (frD p)]) : wpF f_made [.own P, .val (frD p)] Q E := by
  simp [f_made, m_made, shortS_of]
  refine wpF_pick hP (by simp) (by simp) fun x P1 hx hP => ?_
  simp
  refine wpF_draw hP (by omega) (by omega) fun d P2 a2 b2 hP => ?_
  have ⟨w, ew, zw, nw⟩ : ∃ w, x = .int w ∧ Z 96 w ∧ w ≠ 0 := by
    simp at hx
    rcases hx with rfl | rfl | rfl | rfl | rfl <;> exact ⟨_, rfl, .of_lt (by omega) (by omega), by omega⟩
  subst ew
  have z4 : Z 4000 w := zw.mono (by decide)
  have p4 := hp.mono (l := 4000) (by decide)
  have mk := init44 (p.1 * w) (p.2 * w) (Int.mul_ne_zero hp.ne nw) ((hp.top.mul zw).mono (by decide)) ((hp.bot.mul zw).mono (by decide))
  rw [red_mul nw hp.ne, red_self hp] at mk
  have mk1 := init44 p.1 p.2 hp.ne (hp.top.mono (by decide)) (hp.bot.mono (by decide))
  rw [red_self hp] at mk1
  simp [wpF_rt (text_ok (hp.mono (l := 1900) (by decide))), wp_callKS, wp_makeKS, wpF_rt (read_ok (hp.mono (l := 200) (by decide))), ix0, ix1, mul44, p4.top, p4.bot, z4, wpF_mk mk, wpF_rt (of_ok (Sd.r p) p4)]
  have k3 : p.2 = 1 → RtM f_Ratio_init 1 [.val (.int p.1), .val (.int 1)] (ratD p) := fun e => by rw [e] at mk1; exact mk1
  have k4 : p.2 = 1 → Rt f_Ratio_of [.val (.int p.1)] (.val (ratD p)) := fun e => of_ok (.inr ⟨rfl, e⟩) p4
  have hq := h P2 hP
  simp [hq]
  by_cases e : p.2 = 1
  · simp [e, wpF_mk (k3 e), wpF_rt (k4 e), hq]
  · simp [beq_false_of_ne e, hq]
theorem wpF_side (hP : Pt P) (hp : Lw 96 p) (h : ∀ d P', Sd d p → Pt P' → Q (.val d) [.own P', .val (frD p)]) : wpF f_side [.own P, .val (frD p)] Q E := by
  simp [f_side, m_side, ix0, ix1]
  refine wpb_intro (fun e => ?_) fun e => ?_
  · have e : p.2 = 1 := by simpa using e
    refine wpF_draw hP (by omega) (by omega) fun d P1 a1 b1 hP => ?_
    simp
    refine wpb_intro (fun _ => ?_) fun _ => ?_
    · exact h _ _ (.inr ⟨rfl, e⟩) hP
    · refine wpF_made hP hp fun P2 hP => ?_
      simp
      exact h _ _ (Sd.r p) hP
  · refine wpF_made hP hp fun P2 hP => ?_
    simp
    exact h _ _ (Sd.r p) hP
end
end K11
set_option maxRecDepth 100000
set_option maxHeartbeats 4000000
set_option exponentiation.threshold 300
namespace K11
open PySem PySem.Spec PyProof.Rows L2 G
open SX (S)
section
variable {d : D} {p q : Int × Int}
theorem toP_fr (p : Int × Int) : toP (frD p) = some (.tuple [.int p.1, .int p.2]) := rfl
theorem toPs_fr (ps : List (Int × Int)) : toPs (ps.map frD) = some (ps.map fun p => .tuple [.int p.1, .int p.2]) := by
  induction ps with
  | nil => rfl
  | cons p r ih => rw [List.map_cons, toPs, toP_fr, ih]; rfl
theorem lay_fr : ∀ ps : List (Int × Int), PyData.canLayAll0 (ps.map fun p => PyData.tuple [.int p.1, .int p.2]) = true
  | [] => rfl
  | p :: r => by
    rw [List.map_cons, PyData.canLayAll0, lay_fr r]
    rfl
theorem dep_fr : ∀ ps : List (Int × Int), PyData.depthAll (ps.map fun p => PyData.tuple [.int p.1, .int p.2]) ≤ 1
  | [] => by simp [PyData.depthAll]
  | p :: r => by
    have := dep_fr r
    rw [List.map_cons, PyData.depthAll]
    have e : (PyData.tuple [.int p.1, .int p.2]).depth = 1 := rfl
    rw [e]
    omega
theorem sh_frs (ps : List (Int × Int)) : shD (.lst (ps.map frD)) = true := by
  have e : toP (.lst (ps.map frD)) = some (.list (ps.map fun p => .tuple [.int p.1, .int p.2])) := by rw [toP, toPs_fr]; rfl
  unfold shD
  rw [e]
  have := dep_fr ps
  have e2 : PyData.canLay0 (.list (ps.map fun p => PyData.tuple [.int p.1, .int p.2])) = true := by rw [PyData.canLay0]; exact lay_fr ps
  have e3 : (PyData.list (ps.map fun p => PyData.tuple [.int p.1, .int p.2])).depth ≤ 64 := by rw [PyData.depth]; omega
  show (_ && _) = true
  rw [e2, decide_eq_true e3]
  rfl
theorem eq_frs (ps : List (Int × Int)) : eqD (.lst (ps.map frD)) (.lst (ps.map frD)) = some (.bl true) := eq_self (sh_frs ps)
theorem ne_frs (ps : List (Int × Int)) : neD (.lst (ps.map frD)) (.lst (ps.map frD)) = some (.bl false) := ne_self (sh_frs ps)
theorem rep_1 (x : D) : mulA (.lst [x]) (.int 2) = some (.lst [x, x]) := rfl
theorem cat_2 (a b c e : D) : addA (.lst [a, b]) (.lst [c, e]) = some (.lst [a, b, c, e]) := rfl
theorem cat_4 (a b c e f g : D) : addA (.lst [a, b, c, e]) (.lst [f, g]) = some (.lst [a, b, c, e, f, g]) := rfl
theorem sums_ok (hp : Lw 4000 p) (hs : Sd d q) (hq : Lw 4000 q) : Rt f_sums_right [.val (ratD p), .val d, .val (frD p), .val (frD q)] (.val (.bl true)) := by
  have t := told_ok [addP p q, addP q p, subP p q, subP q p, mulP p q, mulP q p] (by simp)
  have e := eq_frs [addP p q, addP p q, subP p q, subP q p, mulP p q, mulP p q]
  rw [addP_comm q p, mulP_comm q p] at t
  simp only [List.map_cons, List.map_nil] at t e
  refine Rt.of ?_
  simp [f_sums_right, m_sums_right, add_l hp hs hq, add_r hp hs hq, sub_l hp hs hq, sub_r hp hs hq, mul_l hp hs hq, mul_r hp hs hq, shortS_of, wpF_rt (plus_ok hp hq), wpF_rt (less_ok hp hq), wpF_rt (less_ok hq hp), wpF_rt (times_ok hp hq), rep_1, cat_2, cat_4, addP_comm q p, mulP_comm q p, wpF_rt t, e]
theorem sh_ints (is : List Int) : shD (.lst (is.map D.int)) = true := by
  have e1 : ∀ is : List Int, toPs (is.map D.int) = some (is.map PyData.int) := fun is => by
    induction is with
    | nil => rfl
    | cons p r ih => rw [List.map_cons, toPs, toP, ih]; rfl
  have e2 : ∀ is : List Int, PyData.canLayAll0 (is.map PyData.int) = true := fun is => by
    induction is with
    | nil => rfl
    | cons p r ih => rw [List.map_cons, PyData.canLayAll0, ih]; rfl
  have e3 : ∀ is : List Int, PyData.depthAll (is.map PyData.int) = 0 := fun is => by
    induction is with
    | nil => rfl
    | cons p r ih => rw [List.map_cons, PyData.depthAll, ih]; rfl
  unfold shD
  rw [toP, e1]
  show (_ && _) = true
  have e4 : (PyData.list (is.map PyData.int)).depth ≤ 64 := by rw [PyData.depth, e3]; omega
  rw [decide_eq_true e4, PyData.canLay0, e2]
  rfl
theorem red_floor (t b : Int) (h : b ≠ 0) : (red t b).1.fdiv (red t b).2 = t.fdiv b := by
  have hg := gcdS_ne (t := t) h
  obtain ⟨x, ex⟩ := gcdS_dt t b
  obtain ⟨y, ey⟩ := gcdS_db t b
  have e1 : (red t b).1 = x := Int.ediv_eq_of_eq_mul_right hg ex
  have e2 : (red t b).2 = y := Int.ediv_eq_of_eq_mul_right hg ey
  rw [e1, e2]
  generalize gcdS t b = g at hg ex ey
  subst ex ey
  by_cases hp : 0 < g
  · rw [Int.mul_fdiv_mul_of_pos _ _ hp]
  · have := Int.mul_fdiv_mul_of_pos x y (show 0 < -g by omega)
    rw [← this, Int.neg_mul, Int.neg_mul, Int.neg_fdiv_neg]
theorem div_lw (hp : Lw 1300 p) (hq : Lw 1300 q) (z : q.1 ≠ 0) : Lw 2600 (divP p q) := red_lw (Int.mul_ne_zero hp.ne z) (hp.top.mul hq.bot) (hp.bot.mul hq.top)
theorem floor_div (hp : Lw 1300 p) (hq : Lw 1300 q) (z : q.1 ≠ 0) : Rt f_Ratio_floor [.val (ratD (divP p q))] (.val (.int (floorP p q))) := by
  have := floor_ok ((div_lw hp hq z).mono (l := 4000) (by decide))
  unfold divP at this ⊢
  rw [red_floor _ _ (Int.mul_ne_zero hp.ne z)] at this
  exact this
theorem share_ok (hp : Lw 4000 p) (hq : Lw 4000 q) (z : q.1 ≠ 0) : Rt f_frac [.val (.int (p.1 * q.2)), .val (.int (p.2 * q.1))] (.val (frD (divP p q))) := frac44 _ _ (Int.mul_ne_zero hp.ne z) ((hp.top.mul hq.bot).mono (by decide)) (hp.bot.mul hq.top)
theorem told1 (a : Int × Int) : Rt f_told [.val (.lst [ratD a])] (.val (.lst [frD a])) := told_ok [a] (by simp)
theorem told2 (a b : Int × Int) : Rt f_told [.val (.lst [ratD a, ratD b])] (.val (.lst [frD a, frD b])) := told_ok [a, b] (by simp)
theorem told3 (a b c : Int × Int) : Rt f_told [.val (.lst [ratD a, ratD b, ratD c])] (.val (.lst [frD a, frD b, frD c])) := told_ok [a, b, c] (by simp)
theorem eq1 (a : Int × Int) : eqD (.lst [frD a]) (.lst [frD a]) = some (.bl true) := eq_frs [a]
theorem ne1 (a : Int × Int) : neD (.lst [frD a]) (.lst [frD a]) = some (.bl false) := ne_frs [a]
theorem ne2 (a b : Int × Int) : neD (.lst [frD a, frD b]) (.lst [frD a, frD b]) = some (.bl false) := ne_frs [a, b]
theorem ne3 (a b c : Int × Int) : neD (.lst [frD a, frD b, frD c]) (.lst [frD a, frD b, frD c]) = some (.bl false) := ne_frs [a, b, c]
theorem nei2 (a b : Int) : neD (.lst [.int a, .int b]) (.lst [.int a, .int b]) = some (.bl false) := ne_self (sh_ints [a, b])
theorem int2 (a b : Int) : Rt f_are_integers [.val (.lst [.int a, .int b])] (.val (.bl true)) := ints_ok [a, b] (by simp)
theorem quot_ok (hp : Lw 1300 p) (hs : Sd d q) (hq : Lw 1300 q) : Rt f_quotients_right [.val (ratD p), .val d, .val (frD p), .val (frD q)] (.val (.bl true)) := by
  have p4 := hp.mono (l := 4000) (by decide)
  have q4 := hq.mono (l := 4000) (by decide)
  have tail : ∀ x y : SD, wp (seqS (iffS (testM (binM eqD (.m (binM ixD (.s 2) (.m (M.pure (.int 0))))) (.m (M.pure (.int 0)))))
      (retS (M.pure (.bl true))) passS)
      (retS (andV (binM eqD (.m (binX [(1, f_Ratio_floordiv)] [(1, f_Ratio_rfloordiv)] (kindsOf ks7 []) (kindsOf ks7 []) fdivD (getV 1) (getV 0))) (.m (keptR (callS f_floor [(.m (getV 3)), (.m (getV 2))])))) (binM eqD (.m (keptR (callS f_told [(.m (lstM [(binX [(1, f_Ratio_mod)] [(1, f_Ratio_rmod)] (kindsOf ks7 []) (kindsOf ks6 []) modD (getV 1) (getV 0))]))]))) (.m (lstM [(keptR (callS f_rest [(.m (getV 3)), (.m (getV 2))]))]))))))
      (fun f δ => match f with | .rt r => r = .val (.bl true) | .nx => False | _ => False) (fun _ _ => False) [.val (ratD p), .val d, .val (frD p), .val (frD q), x, y] := fun x y => by
    simp [ix0]
    by_cases w : p.1 = 0
    · simp [w]
    · simp [w, beq_false_of_ne w, fdiv_r p4 hs q4 w, wpF_rt (lfloor_ok q4 p4 w), mod_r hp hs hq w, shortS_of, wpF_rt (told1 _), wpF_rt (rest_ok hq hp w), eq1]
  refine Rt.of ?_
  simp only [f_quotients_right, m_quotients_right]
  by_cases z : q.1 = 0
  · simp [ix0, z]
    have := tail .no .no
    simp [ix0, shortS_of] at this
    exact this
  · have ov := over_ok p4 hs q4 z
    have := tail (.val (.lst [.int (floorP p q), .int (floorP p q)])) (.val (frD (divP p q)))
    simp [ix0, shortS_of] at this
    simp [ix0, ix1, z, beq_false_of_ne z, fdiv_l p4 hs q4 z, wp_methK_m, wpF_rt ov, wpF_rt (floor_div hp hq z), shortS_of, wpF_rt (lfloor_ok p4 q4 z), rep_1, nei2, wpF_rt (int2 _ _), mul44, p4.top, p4.bot, q4.top, q4.bot, wpF_rt (share_ok p4 q4 z), mod_l hp hs hq z, wpF_rt (told2 _ _), wpF_rt (rest_ok hp hq z), ne2]
    exact this
theorem opI_l {f : List SD → R SD} {g : D → D → Option D} (hs : Sd d q) : opI [(1, f)] (kindsOf ks7 []) g (ratD p) d = fnM f [.val (ratD p), .val d] := by
  rcases hs with rfl | ⟨rfl, _⟩ <;> rfl
theorem gt0 (a b c : D) : getI (.lst [a, b, c]) (.int 0) = some a := rfl
theorem gt1 (a b c : D) : getI (.lst [a, b, c]) (.int 1) = some b := rfl
theorem gt2 (a b c : D) : getI (.lst [a, b, c]) (.int 2) = some c := rfl
theorem st0 (a b c x : D) : setLDD (.lst [a, b, c]) (.int 0) x = some (.lst [x, b, c]) := rfl
theorem st1 (a b c x : D) : setLDD (.lst [a, b, c]) (.int 1) x = some (.lst [a, x, c]) := rfl
theorem st2 (a b c x : D) : setLDD (.lst [a, b, c]) (.int 2) x = some (.lst [a, b, x]) := rfl
theorem told_o3 (a b c : Int × Int) : f_told [.own (.lst [ratD a, ratD b, ratD c])] = .ok (.val (.lst [frD a, frD b, frD c])) [.val (.lst [ratD a, ratD b, ratD c])] := told_own [a, b, c] (by simp)
theorem neF_i (a : Int) : ownNeF [(1, f_Ratio_eq)] kds neD (.int a) (.int a) = some (.bl false) := ne_self (d := .int a) rfl
theorem place_ok (hp : Lw 1300 p) (hs : Sd d q) (hq : Lw 1300 q) : Rt f_in_place_right [.val (ratD p), .val d, .val (frD p), .val (frD q)] (.val (.bl true)) := by
  have p4 := hp.mono (l := 4000) (by decide)
  have q4 := hq.mono (l := 4000) (by decide)
  refine Rt.of ?_
  simp [f_in_place_right, m_in_place_right, shortS_of, gt0, gt1, gt2, st0, st1, st2, opI_l hs, wpF_rt (add_ok p4 hs q4), wpF_rt (sub_ok p4 hs q4), wpF_rt (mul_ok p4 hs q4), wpF_of (told_o3 _ _ _), wpF_rt (plus_ok p4 q4), wpF_rt (less_ok p4 q4), wpF_rt (times_ok p4 q4), ne3, ix0]
  by_cases z : q.1 = 0
  · simp [z, shortS_of, wpF_rt (told1 _), eq1]
  · simp [z, beq_false_of_ne z, shortS_of, opI_l hs, wpF_rt (fldiv_ok p4 hs q4 z), wpF_rt (mod_ok hp hs hq z), wpF_rt (lfloor_ok p4 q4 z), wpF_rt (told1 _), wpF_rt (rest_ok hp hq z), ne1, eq1, neF_i]
theorem rp_mem {p : Int × Int} {c : Nat} (h : c ∈ rpL p) : c < 0x110000 := by
  unfold rpL at h
  simp only [List.mem_append] at h
  rcases h with (((h | h) | h) | h) | h
  · simp at h; omega
  · have := iL_mem h; omega
  · simp at h; omega
  · have := iL_mem h; omega
  · simp at h; omega
theorem nes2 (a b : Int × Int) : neD (.lst [.str (S (txL a)), .str (S (rpL b))]) (.lst [.str (S (txL a)), .str (S (rpL b))]) = some (.bl false) := by
  refine C.ne_strs (ys := [S (txL a), S (rpL b)]) fun y hy => ?_
  simp at hy
  rcases hy with rfl | rfl
  · exact strOk_S fun c hc => by have := txL_mem hc; omega
  · exact strOk_S fun c hc => rp_mem hc
theorem rat_S : (Str.ofString "Ratio(") = S [82, 97, 116, 105, 111, 40] := by decide +kernel
theorem com_S : (Str.ofString ", ") = S [44, 32] := by decide +kernel
theorem par_S : (Str.ofString ")") = S [41] := by decide +kernel
theorem repr_ok (hp : Lw 1300 p) : Rt f_Ratio_repr [.val (ratD p)] (.val (.str (S (rpL p)))) := by
  have l1 := iL_len (k := 640) (hp.top.mono (by decide)) (by decide)
  have l2 := iL_len (k := 640) (hp.bot.mono (by decide)) (by decide)
  refine Rt.of ?_
  simp [f_Ratio_repr, m_Ratio_repr, fmtD_int (hp.top.mono (by decide : 1300 ≤ 1920)), fmtD_int (hp.bot.mono (by decide : 1300 ≤ 1920))]
  have le : ∀ n : Nat, n ≤ 10000 → shortS n = true := fun n h => shortS_of (by omega)
  have e0 : Str.empty = S [] := rfl
  rw [e0, rat_S, com_S, par_S]
  simp only [SX.S_cat, SX.S_len]
  rw [le _ (by simp), le _ (by simp; omega), le _ (by simp; omega), le _ (by simp; omega), le _ (by simp; omega)]
  simp [rpL]
theorem repr_u (hp : Lw 1300 p) : reprD [(1, f_Ratio_repr)] [ratD p] = some (.str (S (rpL p))) := by
  show (fnV f_Ratio_repr [ratD p]).bind isStrD = _
  rw [fnV_rt (ds := [ratD p]) (repr_ok hp)]
  rfl
theorem nei4 (a b c e : Int) : eqD (.lst [.int a, .int b, .int c, .int e]) (.lst [.int a, .int b, .int c, .int e]) = some (.bl true) := eq_self (sh_ints [a, b, c, e])
theorem int4 (a b c e : Int) : Rt f_are_integers [.val (.lst [.int a, .int b, .int c, .int e])] (.val (.bl true)) := ints_ok [a, b, c, e] (by simp)
theorem alone_ok (hp : Lw 1300 p) : Rt f_alone_right [.val (ratD p), .val (frD p)] (.val (.bl true)) := by
  have p4 := hp.mono (l := 4000) (by decide)
  have l1 := iL_len (k := 640) (hp.top.mono (by decide)) (by decide)
  have l2 := iL_len (k := 640) (hp.bot.mono (by decide)) (by decide)
  have c1 : addA (.str "Ratio(") (.str (S (iL p.1))) = some (.str (S ([82, 97, 116, 105, 111, 40] ++ iL p.1))) := by
    rw [rat_S, cat_str (by rw [SX.S_len, SX.S_len]; simp; omega), SX.S_cat]
  have c2 : addA (.str (S ([82, 97, 116, 105, 111, 40] ++ iL p.1))) (.str ", ") = some (.str (S ([82, 97, 116, 105, 111, 40] ++ iL p.1 ++ [44, 32]))) := by
    rw [com_S, cat_str (by rw [SX.S_len, SX.S_len]; simp; omega), SX.S_cat]
  have c3 : addA (.str (S ([82, 97, 116, 105, 111, 40] ++ iL p.1 ++ [44, 32]))) (.str (S (iL p.2))) = some (.str (S ([82, 97, 116, 105, 111, 40] ++ iL p.1 ++ [44, 32] ++ iL p.2))) := by
    rw [cat_str (by rw [SX.S_len, SX.S_len]; simp; omega), SX.S_cat]
  have c4 : addA (.str (S ([82, 97, 116, 105, 111, 40] ++ iL p.1 ++ [44, 32] ++ iL p.2))) (.str ")") = some (.str (S (rpL p))) := by
    rw [par_S, cat_str (by rw [SX.S_len, SX.S_len]; simp; omega), SX.S_cat]
    rfl
  have ea : D.tup [.int p.1.natAbs, .int p.2] = frD (absP p) := rfl
  have en : D.tup [.int (-p.1), .int p.2] = frD (negP p) := rfl
  have fd : ∀ x : Int, fdivD (.int x) (.int p.2) = some (.int (x.fdiv p.2)) := fun x => fdiv_Z hp.ne (hp.bot.mono (by decide))
  refine Rt.of ?_
  generalize hR : [82, 97, 116, 105, 111, 40] ++ iL p.1 = R at c1 c2 c3 c4
  generalize hR2 : R ++ [44, 32] = R2 at c2 c3 c4
  generalize hR3 : R2 ++ iL p.2 = R3 at c3 c4
  simp [f_alone_right, m_alone_right, neg_u p4, abs_u p4, wp_callKS, wpF_rt (of_ok (Sd.r p) p4), shortS_of, wpF_rt (told3 _ _ _), ix0, ix1, G.ite_abs, ea, en, ne3, str_u (hp.mono (l := 1900) (by decide)), repr_u hp, wpF_rt (text_ok (hp.mono (l := 1900) (by decide))), strD_int (hp.top.mono (by decide : 1300 ≤ 1920)), strD_int (hp.bot.mono (by decide : 1300 ≤ 1920)), c1, c2, c3, c4, nes2, fd, wpF_rt (quiet_rt top_ok), wpF_rt (quiet_rt bottom_ok), wpF_rt (floor_ok p4), wpF_rt (ceil_ok p4), nei4, wpF_rt (int4 _ _ _ _)]
theorem ow_rr : ownF [(1, f_Ratio_eq)] kds (eqR [(1, f_Ratio_eq)] eqD) (ratD p) (ratD q) = some (.bl (decide (p = q))) := fnV_rt (ds := [ratD p, ratD q]) eq_rr
theorem on_rr : ownNeF [(1, f_Ratio_eq)] kds (neR [(1, f_Ratio_eq)] neD) (ratD p) (ratD q) = some (.bl (!decide (p = q))) := by
  show (fnV f_Ratio_eq [ratD p, ratD q]).bind notD = _
  rw [fnV_rt (ds := [ratD p, ratD q]) eq_rr]
  rfl
theorem ow_ri (i : Int) : ownF [(1, f_Ratio_eq)] kds (eqR [(1, f_Ratio_eq)] eqD) (ratD p) (.int i) = some (.bl false) := fnV_rt (ds := [ratD p, .int i]) (eq_ri i)
theorem ow_ir (i : Int) : ownF [(1, f_Ratio_eq)] kds (eqR [(1, f_Ratio_eq)] eqD) (.int i) (ratD p) = some (.bl false) := fnV_rt (ds := [ratD p, .int i]) (eq_ri i)
theorem on_ri (i : Int) : ownNeF [(1, f_Ratio_eq)] kds (neR [(1, f_Ratio_eq)] neD) (ratD p) (.int i) = some (.bl true) := by
  show (fnV f_Ratio_eq [ratD p, .int i]).bind notD = _
  rw [fnV_rt (ds := [ratD p, .int i]) (eq_ri i)]
  rfl
theorem on_ir (i : Int) : ownNeF [(1, f_Ratio_eq)] kds (neR [(1, f_Ratio_eq)] neD) (.int i) (ratD p) = some (.bl true) := by
  show (fnV f_Ratio_eq [ratD p, .int i]).bind notD = _
  rw [fnV_rt (ds := [ratD p, .int i]) (eq_ri i)]
  rfl
theorem sh_fr (p : Int × Int) : shD (frD p) = true := rfl
theorem eq_fr : eqD (frD p) (frD q) = some (.bl (decide (p = q))) := by
  rw [C.eqD_of (toP_fr p) (toP_fr q) (sh_fr p) (sh_fr q)]
  obtain ⟨a, b⟩ := p
  obtain ⟨x, y⟩ := q
  by_cases h : a = x <;> by_cases h' : b = y <;> simp [PyData.eqv, PyData.eqvAll, h, h']
theorem eqb4 (a b : Bool) : eqD (.lst [.bl a, .bl a, .bl b, .bl b]) (.lst [.bl a, .bl a, .bl b, .bl b]) = some (.bl true) := by cases a <;> cases b <;> exact eq_self (by decide +kernel)
theorem order_ok (hp : Lw 1300 p) (hs : Sd d q) (hq : Lw 1300 q) : Rt f_order_right [.val (ratD p), .val d, .val (frD p), .val (frD q)] (.val (.bl true)) := by
  have p4 := hp.mono (l := 4000) (by decide)
  have q4 := hq.mono (l := 4000) (by decide)
  have cm := compare_ok p4 hs q4
  refine Rt.of ?_
  have fin : ∀ x y : SD, ∀ c : Int, cmpP p q = c → wp (seqS (setS 7 (lstM [(keptR (methM "compare" [(1, f_Ratio_compare)] (.m (getV 0)) [(.m (getV 1))])), (keptR (methKM "compare" [(1, f_Ratio_compare)] [0, 1] [] (.m (getV 0)) ([] ++ [(.m (getV 1))])))]))
    (seqS (iffS (G.orM (testM (binM neD (.s 7) (.m (lstM [(getV 6), (getV 6)])))) (G.notM (truthM (.m (keptR (callS f_are_integers [(.m (getV 7))]))))))
    (retS (M.pure (.bl false)))
    passS)
    (seqS (setS 8 (andV (callM (isinD cfg) [(.s 1), (.m (M.pure (.cl 1)))]) (binM eqD (.s 2) (.s 3))))
    (retS (binM eqD (.m (lstM [(binK (ownF [(1, f_Ratio_eq)] kds (eqR [(1, f_Ratio_eq)] eqD)) (getV 0) (getV 1)), (binK (ownF [(1, f_Ratio_eq)] kds (eqR [(1, f_Ratio_eq)] eqD)) (getV 1) (getV 0)), (binK (ownNeF [(1, f_Ratio_eq)] kds (neR [(1, f_Ratio_eq)] neD)) (getV 0) (getV 1)), (binK (ownNeF [(1, f_Ratio_eq)] kds (neR [(1, f_Ratio_eq)] neD)) (getV 1) (getV 0))])) (.m (lstM [(getV 8), (getV 8), (notV (.s 8)), (notV (.s 8))])))))))
      (fun f δ => match f with | .rt r => r = .val (.bl true) | .nx => False | _ => False) (fun _ _ => False) [.val (ratD p), .val d, .val (frD p), .val (frD q), x, y, .val (.int c), .no, .no] := fun x y c hc => by
    rw [hc] at cm
    rcases hs with rfl | ⟨rfl, hd⟩
    · simp [wp_methK_m, wpF_rt cm, shortS_of, nei2, wpF_rt (int2 _ _), is_rc, eq_fr, ow_rr, on_rr]
      have e : decide (q = p) = decide (p = q) := by simp [eq_comm]
      rw [e, eqb4]
      rfl
    · simp [wp_methK_m, wpF_rt cm, shortS_of, nei2, wpF_rt (int2 _ _), is_ic, ow_ri, ow_ir, on_ri, on_ir, eqb4]
  simp [f_order_right, m_order_right, ix0, ix1, mul44, p4.top, p4.bot, q4.top, q4.bot]
  refine wpb_intro (fun h => ?_) fun h => ?_
  · have h1 : p.1 * q.2 = q.1 * p.2 := by simpa using h
    simpa using fin (.val (.int (p.1 * q.2))) (.val (.int (q.1 * p.2))) 0 (if_pos h1)
  · have h1 : ¬p.1 * q.2 = q.1 * p.2 := by simpa using h
    refine wpb_intro (fun h => ?_) fun h => ?_
    · have h2 : q.1 * p.2 < p.1 * q.2 := by simpa using h
      simpa using fin (.val (.int (p.1 * q.2))) (.val (.int (q.1 * p.2))) 1 (by unfold cmpP; rw [if_neg h1, if_pos h2])
    · have h2 : ¬q.1 * p.2 < p.1 * q.2 := by simpa using h
      simpa using fin (.val (.int (p.1 * q.2))) (.val (.int (q.1 * p.2))) (-1) (by unfold cmpP; rw [if_neg h1, if_neg h2])
end
end K11
set_option maxRecDepth 100000
set_option maxHeartbeats 4000000
set_option exponentiation.threshold 300
namespace K11
open PySem PySem.Spec PyProof.Rows L2 G
open SX (S)
section
variable {d P : D} {p q : Int × Int} {B : Nat} {Q : SD → List SD → Prop} {E : Ex → List SD → Prop}
theorem addB (hp : Lw B p) (hq : Lw 96 q) : Lw (B + 97) (addP p q) := red_lw (Int.mul_ne_zero hp.ne hq.ne) ((hp.top.mul hq.bot).add (by have := hq.top.mul hp.bot; rw [Nat.add_comm] at this; exact this)) ((hp.bot.mul hq.bot).mono (by omega))
theorem subB (hp : Lw B p) (hq : Lw 96 q) : Lw (B + 97) (subP q p) := by
  unfold subP
  rw [addP_comm]
  exact addB hp.neg hq
theorem mulB (hp : Lw B p) (hq : Lw 96 q) : Lw (B + 97) (mulP p q) := red_lw (Int.mul_ne_zero hp.ne hq.ne) ((hp.top.mul hq.top).mono (by omega)) ((hp.bot.mul hq.bot).mono (by omega))
theorem divB (hp : Lw B p) (hq : Lw 96 q) (z : q.1 ≠ 0) : Lw (B + 97) (divP p q) := red_lw (Int.mul_ne_zero hp.ne z) ((hp.top.mul hq.bot).mono (by omega)) ((hp.bot.mul hq.top).mono (by omega))
theorem fmod_le (x y : Int) (h : y ≠ 0) : (x - x.fdiv y * y).natAbs ≤ y.natAbs := by
  have e := Int.mul_fdiv_add_fmod x y
  have e2 : x - x.fdiv y * y = x.fmod y := by rw [Int.mul_comm]; omega
  rw [e2]
  by_cases hp : 0 < y
  · have h1 := Int.fmod_nonneg_of_pos x hp
    have h2 := Int.fmod_lt_of_pos x hp
    omega
  · have h1 := Int.fmod_nonneg_of_pos (-x) (show 0 < -y by omega)
    have h2 := Int.fmod_lt_of_pos (-x) (show 0 < -y by omega)
    have h3 : (-x).fmod (-y) = -(x.fmod y) := by
      have e3 := Int.mul_fdiv_add_fmod (-x) (-y)
      rw [Int.neg_fdiv_neg, Int.neg_mul] at e3
      omega
    omega
theorem rest_le {k l : Nat} (hp : Lw k p) (hq : Lw l q) (z : q.1 ≠ 0) : Lw (k + l) (restP p q) := by
  have hg := gcdS_ne (t := floorP p q * q.1) (b := 1 * q.2) (by simpa using hq.ne)
  obtain ⟨x, ex⟩ := gcdS_dt (floorP p q * q.1) (1 * q.2)
  obtain ⟨y, ey⟩ := gcdS_db (floorP p q * q.1) (1 * q.2)
  have e1 : mulP (floorP p q, 1) q = (x, y) := Prod.ext (Int.ediv_eq_of_eq_mul_right hg ex) (Int.ediv_eq_of_eq_mul_right hg ey)
  generalize gcdS (floorP p q * q.1) (1 * q.2) = g at hg ex ey
  rw [Int.one_mul] at ey
  have hy : y ≠ 0 := fun h => by rw [h, Int.mul_zero] at ey; exact hq.ne ey
  unfold restP
  rw [e1, subP_eq]
  have g1 : 1 ≤ g.natAbs := by omega
  refine red_lw (Int.mul_ne_zero hp.ne hy) ((hp.bot.mul hq.top).of_le ?_) ((hp.bot.mul hq.bot).of_le ?_)
  · show (p.1 * y - x * p.2).natAbs ≤ (p.2 * q.1).natAbs
    have f := fmod_le (p.1 * q.2) (p.2 * q.1) (Int.mul_ne_zero hp.ne z)
    have e : p.1 * q.2 - (p.1 * q.2).fdiv (p.2 * q.1) * (p.2 * q.1) = g * (p.1 * y - x * p.2) := by
      have : (p.1 * q.2).fdiv (p.2 * q.1) * (p.2 * q.1) = g * x * p.2 := by
        rw [← ex]
        show _ = floorP p q * q.1 * p.2
        unfold floorP
        rw [Int.mul_assoc, Int.mul_comm p.2 q.1]
      rw [this, Int.mul_sub, ey]
      simp only [Int.mul_assoc, Int.mul_left_comm]
    rw [e, Int.natAbs_mul] at f
    exact Nat.le_trans (Nat.le_mul_of_pos_left _ g1) f
  · show (p.2 * y).natAbs ≤ (p.2 * q.2).natAbs
    rw [Int.natAbs_mul, Int.natAbs_mul, ey, Int.natAbs_mul]
    exact Nat.mul_le_mul_left _ (Nat.le_mul_of_pos_left _ g1)
theorem absB (hp : Lw B p) : Lw (B + 97) (subP (absP p) p) := by
  rw [subP_eq]
  show Lw _ (red ((p.1.natAbs : Int) * p.2 - p.1 * p.2) (p.2 * p.2))
  rw [← Int.sub_mul, red_mul hp.ne hp.ne]
  exact red_lw hp.ne (((hp.abs.top).sub hp.top).mono (by omega)) (hp.bot.mono (by omega))
end
end K11
set_option maxRecDepth 100000
set_option maxHeartbeats 4000000
set_option exponentiation.threshold 300
namespace K11
open PySem PySem.Spec PyProof.Rows L2 G
open SX (S)
section
variable {d P : D} {p q : Int × Int} {B : Nat} {Q : SD → List SD → Prop} {E : Ex → List SD → Prop}
def regInv (done rest : List Nat) (δ : DEnv) : Prop := ∃ P t a b c e, δ = [.arg P, .val (frD t), .val (ratD t), a, b, c, e] ∧ Pt P ∧ Lw (96 + 97 * done.length) t ∧ SD.pl a = true ∧ SD.pl b = true ∧ SD.pl c = true ∧ SD.pl e = true
theorem wpF_reg (hP : Pt P) (h : ∀ P', Pt P' → Q (.val (.bl true)) [.own P']) : wpF f_register_right [.own P] Q E := by
  simp [f_register_right, m_register_right]
  refine wpF_drawn hP fun p P1 hp hP => ?_
  simp
  refine wpF_made hP hp fun P2 hP => ?_
  simp
  refine wpF_draw hP (by omega) (by omega) fun n P3 n0 n1 hP => ?_
  have ok : okR n = true := decide_eq_true (by omega)
  simp [ok]
  refine wp_for (fun i : Nat => D.int (0 + i)) regInv (List.range (n - 0).toNat) ⟨P3, p, .no, .no, .no, .no, rfl, hP, hp, rfl, rfl, rfl, rfl⟩ ?_ ?_
  · rintro done x rest δ hall ⟨P, t, a, b, c, e, rfl, hP, ht, ha, hb, hc, he⟩
    have hlen : done.length + 1 ≤ 12 := by
      have := congrArg List.length hall
      simp at this
      omega
    simp [putAt_pl ha, putAt_pl hb, putAt_pl hc, putAt_pl he, lendB_pl hb, lendB_pl hc, lendB_pl he]
    refine wpF_drawn hP fun q P4 hq hP => ?_
    simp [backB_pl hb, backB_pl hc, backB_pl he, lendB_pl hb, lendB_pl hc, lendB_pl he]
    refine wpF_draw hP (by omega) (by omega) fun w P5 w0 w1 hP => ?_
    simp [putAt_pl ha, putAt_pl hb, putAt_pl hc, putAt_pl he, backB_pl hb, backB_pl hc, backB_pl he, lendB_pl hb, lendB_pl hc, lendB_pl he]
    refine wpF_side hP hq fun d P6 hd hP => ?_
    simp [putAt_pl he]
    have b1 : 96 + 97 * (done.length + 1) ≤ 1260 := by omega
    have eb : 96 + 97 * (done.length + 1) = 96 + 97 * done.length + 97 := by omega
    have t4 : Lw 4000 t := ht.mono (by omega)
    have t3 : Lw 1300 t := ht.mono (by omega)
    have q4 : Lw 4000 q := hq.mono (by omega)
    have q3 : Lw 1300 q := hq.mono (by omega)
    have fin : ∀ t' : Int × Int, Lw (96 + 97 * done.length + 97) t' → ∀ w' : Int, regInv (done ++ [x]) rest [.arg P6, .val (frD t'), .val (ratD t'), .val (.int x), .val (frD q), .val (.int w'), .val d] := fun t' k w' => ⟨P6, t', _, _, _, _, rfl, hP, by rw [List.length_append]; exact k.mono (by simp; omega), rfl, rfl, rfl, rfl⟩
    have su : ∀ t' : Int × Int, Lw (96 + 97 * done.length + 97) t' → strD [(1, f_Ratio_str)] [ratD t'] = some (.str (S (txL t'))) := fun t' k => str_u (k.mono (by omega))
    have tx : ∀ t' : Int × Int, Lw (96 + 97 * done.length + 97) t' → Rt f_text [.val (frD t')] (.val (.str (S (txL t')))) := fun t' k => text_ok (k.mono (by omega))
    have ns := fun t' : Int × Int => ne_self (sh_txt t')
    have an : absP (negP t) = absP t := by unfold absP negP; simp
    have ea : D.tup [.int t.1.natAbs, .int t.2] = frD (absP t) := rfl
    have k0 := addB ht hq
    have k1 := subB ht hq
    have k2 := mulB ht hq
    have k6 := absB ht
    have au := abs_u t4.neg
    rw [an] at au
    have w7 : w = 0 ∨ w = 1 ∨ w = 2 ∨ w = 3 ∨ w = 4 ∨ w = 5 ∨ w = 6 := by omega
    rcases w7 with rfl | rfl | rfl | rfl | rfl | rfl | rfl
    · simp [add_l t4 hd q4, wpF_rt (plus_ok t4 q4), shortS_of, wpF_rt (told1 _), ne1, su _ k0, wpF_rt (tx _ k0), ns]
      exact fin _ k0 _
    · simp [sub_r t4 hd q4, wpF_rt (less_ok q4 t4), shortS_of, wpF_rt (told1 _), ne1, su _ k1, wpF_rt (tx _ k1), ns]
      exact fin _ k1 _
    · simp [mul_l t4 hd q4, wpF_rt (times_ok t4 q4), shortS_of, wpF_rt (told1 _), ne1, su _ k2, wpF_rt (tx _ k2), ns]
      exact fin _ k2 _
    · by_cases z : q.1 = 0
      · simp [ix0, ix1, z, neg_u t4, au, sub_l t4.abs (Sd.r t) t4, G.ite_abs, ea, wpF_rt (less_ok t4.abs t4), shortS_of, wpF_rt (told1 _), ne1, su _ k6, wpF_rt (tx _ k6), ns]
        exact fin _ k6 _
      · have k3 := divB ht hq z
        simp [ix0, ix1, z, beq_false_of_ne z, wpF_rt (over_ok t4 hd q4 z), mul44, t4.top, t4.bot, q4.top, q4.bot, wpF_rt (share_ok t4 q4 z), shortS_of, wpF_rt (told1 _), ne1, su _ k3, wpF_rt (tx _ k3), ns]
        exact fin _ k3 _
    · by_cases z : q.1 = 0
      · simp [ix0, ix1, z, neg_u t4, au, sub_l t4.abs (Sd.r t) t4, G.ite_abs, ea, wpF_rt (less_ok t4.abs t4), shortS_of, wpF_rt (told1 _), ne1, su _ k6, wpF_rt (tx _ k6), ns]
        exact fin _ k6 _
      · have k4 := (rest_le ht hq z).mono (l := 96 + 97 * done.length + 97) (by omega)
        simp [ix0, ix1, z, beq_false_of_ne z, mod_l t3 hd q3 z, wpF_rt (rest_ok t3 q3 z), shortS_of, wpF_rt (told1 _), ne1, su _ k4, wpF_rt (tx _ k4), ns]
        exact fin _ k4 _
    · by_cases z : t.1 = 0
      · have ez : D.tup [.int 0, .int t.2] = frD (absP t) := by unfold frD absP; rw [z]; rfl
        simp [ix0, ix1, z, neg_u t4, au, sub_l t4.abs (Sd.r t) t4, G.ite_abs, ez, wpF_rt (less_ok t4.abs t4), shortS_of, wpF_rt (told1 _), ne1, su _ k6, wpF_rt (tx _ k6), ns]
        exact fin _ k6 _
      · have k5 := (rest_le hq ht z).mono (l := 96 + 97 * done.length + 97) (by omega)
        simp [ix0, ix1, z, beq_false_of_ne z, mod_r t3 hd q3 z, wpF_rt (rest_ok q3 t3 z), shortS_of, wpF_rt (told1 _), ne1, su _ k5, wpF_rt (tx _ k5), ns]
        exact fin _ k5 _
    · simp [ix0, ix1, neg_u t4, au, sub_l t4.abs (Sd.r t) t4, G.ite_abs, ea, wpF_rt (less_ok t4.abs t4), shortS_of, wpF_rt (told1 _), ne1, su _ k6, wpF_rt (tx _ k6), ns]
      exact fin _ k6 _
  · rintro δ ⟨P, t, a, b, c, e, rfl, hP, ht, ha, hb, hc, he⟩
    simp
    exact h P hP
end
end K11
set_option maxRecDepth 100000
set_option maxHeartbeats 4000000
set_option exponentiation.threshold 300
namespace K11
open PySem PySem.Spec PyProof.Rows L2 G
open SX (S)
section
variable {d P : D} {p q : Int × Int} {B : Nat} {Q : SD → List SD → Prop} {E : Ex → List SD → Prop}
def rightInv (done rest : List Nat) (δ : DEnv) : Prop := ∃ P a1 a2 a3 a4 a5 a6, δ = [.arg P, a1, a2, a3, a4, a5, a6] ∧ Pt P ∧ SD.pl a1 = true ∧ SD.pl a2 = true ∧ SD.pl a3 = true ∧ SD.pl a4 = true ∧ SD.pl a5 = true ∧ SD.pl a6 = true
theorem wpF_right (hP : Pt P) (h : ∀ P', Pt P' → Q (.val (.bl true)) [.own P']) : wpF f_right [.own P] Q E := by
  have ok3 : okR 3 = true := by decide
  have ok2 : okR 2 = true := by decide
  simp [f_right, m_right, ok3]
  refine wp_for (fun i : Nat => D.int (0 + i)) rightInv (List.range ((3 : Int) - 0).toNat) ⟨P, .no, .no, .no, .no, .no, .no, rfl, hP, rfl, rfl, rfl, rfl, rfl, rfl⟩ ?_ ?_
  · rintro done x rest δ hall ⟨P, a1, a2, a3, a4, a5, a6, rfl, hP, h1, h2, h3, h4, h5, h6⟩
    simp [putAt_pl h1, lendB_pl h2, lendB_pl h3, lendB_pl h4, lendB_pl h5, lendB_pl h6]
    refine wpF_drawn hP fun p P1 hp hP => ?_
    simp [backB_pl h2, backB_pl h3, backB_pl h4, backB_pl h5, backB_pl h6, lendB_pl h2, lendB_pl h3, lendB_pl h4, lendB_pl h5, lendB_pl h6]
    refine wpF_drawn hP fun q P2 hq hP => ?_
    simp [putAt_pl h2, putAt_pl h3, backB_pl h2, backB_pl h3, backB_pl h4, backB_pl h5, backB_pl h6, lendB_pl h2, lendB_pl h3, lendB_pl h4, lendB_pl h5, lendB_pl h6]
    refine wpF_draw hP (by omega) (by omega) fun w P3 w0 w1 hP => ?_
    simp [lendB_pl h4, lendB_pl h5, lendB_pl h6]
    refine wpb_intro (fun _ => ?_) fun _ => ?_
    · refine wpF_made hP hp fun P4 hP => ?_
      simp [lendB_pl h4, lendB_pl h5, lendB_pl h6, backB_pl h4, backB_pl h5, backB_pl h6]
      refine wpF_side hP hp fun d P5 hd hP => ?_
      simp [putAt_pl h4, putAt_pl h5, ok2, backB_pl h4, backB_pl h5, backB_pl h6]
      have p4 := hp.mono (l := 4000) (by decide)
      have p3 := hp.mono (l := 1300) (by decide)
      have q4 := hp.mono (l := 4000) (by decide)
      have q3 := hp.mono (l := 1300) (by decide)
      refine wp_for (fun i : Nat => D.int (0 + i)) (fun _ _ δ => ∃ e, SD.pl e = true ∧ δ = [.arg P5, .val (.int x), .val (frD p), .val (frD p), .val (ratD p), .val d, e]) (List.range ((2 : Int) - 0).toNat) ⟨_, h6, rfl⟩ ?_ ?_
      · rintro dn y rs δ _ ⟨e, he, rfl⟩
        simp [putAt_pl he, wp_callKS, wpF_rt (sums_ok p4 hd q4), wpF_rt (quot_ok p3 hd q3), wpF_rt (order_ok p3 hd q3), wpF_rt (place_ok p3 hd q3), wpF_rt (alone_ok p3), wpF_rt (of_ok hd q4), wpF_rt (alone_ok q3)]
      · rintro δ ⟨e, he, rfl⟩
        simp
        exact ⟨P5, _, _, _, _, _, _, rfl, hP, rfl, rfl, rfl, rfl, rfl, he⟩
    · refine wpF_made hP hp fun P4 hP => ?_
      simp [lendB_pl h4, lendB_pl h5, lendB_pl h6, backB_pl h4, backB_pl h5, backB_pl h6]
      refine wpF_side hP hq fun d P5 hd hP => ?_
      simp [putAt_pl h4, putAt_pl h5, ok2, backB_pl h4, backB_pl h5, backB_pl h6]
      have p4 := hp.mono (l := 4000) (by decide)
      have p3 := hp.mono (l := 1300) (by decide)
      have q4 := hq.mono (l := 4000) (by decide)
      have q3 := hq.mono (l := 1300) (by decide)
      refine wp_for (fun i : Nat => D.int (0 + i)) (fun _ _ δ => ∃ e, SD.pl e = true ∧ δ = [.arg P5, .val (.int x), .val (frD p), .val (frD q), .val (ratD p), .val d, e]) (List.range ((2 : Int) - 0).toNat) ⟨_, h6, rfl⟩ ?_ ?_
      · rintro dn y rs δ _ ⟨e, he, rfl⟩
        simp [putAt_pl he, wp_callKS, wpF_rt (sums_ok p4 hd q4), wpF_rt (quot_ok p3 hd q3), wpF_rt (order_ok p3 hd q3), wpF_rt (place_ok p3 hd q3), wpF_rt (alone_ok p3), wpF_rt (of_ok hd q4), wpF_rt (alone_ok q3)]
      · rintro δ ⟨e, he, rfl⟩
        simp
        exact ⟨P5, _, _, _, _, _, _, rfl, hP, rfl, rfl, rfl, rfl, rfl, he⟩
  · rintro δ ⟨P, a1, a2, a3, a4, a5, a6, rfl, hP, h1, h2, h3, h4, h5, h6⟩
    simp
    refine wpF_reg hP fun P' hP => ?_
    simp
    exact h _ hP
end
end K11
set_option maxRecDepth 100000
set_option maxHeartbeats 4000000
set_option exponentiation.threshold 300
namespace K11
open PySem PySem.Spec PyProof.Rows L2 G
theorem pot_wp (ns : List Int) (k : Nat) (hk : k < 4) (hn : ns.length ≤ 63) : ∃ P, Pt P ∧ Rt f_pot [.val (scrD ns), .val (.int k)] (.own P) := by
  obtain ⟨c, s, e, ok⟩ := C.pot_ok ns k hk hn
  exact ⟨_, ⟨c, s, rfl, ok⟩, _, e⟩
theorem law_holds (ns : List Int) (hn : ns.length ≤ 63) : ∃ sds, f_law [.val (scrD ns)] = .ok (.val (.bl true)) sds := by
  have main : Rt f_law [.val (scrD ns)] (.val (.bl true)) := by
    refine Rt.of ?_
    have hl : lenD [scrD ns] = some (.int ns.length) := by
      show lenD [.scr (ns.map D.int)] = _
      rw [C.scr_len, List.length_map]
    simp [f_law, m_law, hl]
    generalize hj : (if 1 < (if (ns.length : Int) < 4 then (ns.length : Int) else 4) then (if (ns.length : Int) < 4 then (ns.length : Int) else 4) else 1) = j
    have h1 : 1 ≤ j ∧ j ≤ 4 := by
      rw [← hj]
      split <;> split <;> omega
    have ok : okR j = true := decide_eq_true (by omega)
    simp [ok]
    refine wp_lc_map (fun i : Nat => D.int (0 + i)) (fun _ => D.bl true) (List.range (j - 0).toNat) (by simp; omega) (fun i hi => ?_) ?_
    · have hi : i < (j - 0).toNat := List.mem_range.mp hi
      obtain ⟨P, hP, hp⟩ := pot_wp ns i (by omega) hn
      rw [wp_lcTurn]
      simp [wpF_rt hp]
      refine wpF_right hP fun P' hP' => ?_
      simp
    · rw [List.map_const', C.allD_true]
      rfl
  exact main
end K11
open PySem PySem.W PyProof.Rows
set_option maxHeartbeats 0 in
theorem PySem.Challenge.cw_evenloads_k11_whole_ratios_by_own_fracti_holds : PySem.Challenge.rw_evenloads_k11_whole_ratios_by_own_fracti.Holds := by
  w_on; o_law; k_head; (case hw => w_witness2)
  k_fill
  refine G.walkG (l := PySem.Challenge.rw_evenloads_k11_whole_ratios_by_own_fracti) (n := 63) (lv := 12) (fn := K11.f_law) rfl (by decide) rfl ⟨rfl, by decide, by decide⟩ (fun w h Y => PySem.W.kIn_of Y) ?F K11.law_holds
  case F =>
    intro w mg fa h KX Gn hmg
    refine' K11.all_mk KX Gn hmg ?gc_1 ?g__law_alone_right ?g__law_are_integers ?g__law_draw ?g__law_drawn ?g__law_floor ?g__law_frac ?g__law_in_place_right ?g__law_less ?g__law_made ?g__law_order_right ?g__law_pick ?g__law_plus ?g__law_pot ?g__law_quotients_right ?g__law_register_right ?g__law_rest ?g__law_right ?g__law_side ?g__law_sums_right ?g__law_text ?g__law_times ?g__law_told ?g_abs ?g_all ?g_are_figures ?g_bool ?g_common_divisor ?g_divmod ?g_int ?g_is_integer ?g_isinstance ?g_len ?g_max ?g_min ?g_parts_of ?g_range ?g_repr ?g_str ?g_law ?mk_1_i ?m_1_init_a ?m_1_add_a ?m_1_radd_a ?m_1_sub_a ?m_1_rsub_a ?m_1_mul_a ?m_1_rmul_a ?m_1_floordiv_a ?m_1_rfloordiv_a ?m_1_mod_a ?m_1_rmod_a ?m_1_neg_a ?m_1_abs_a ?m_1_over_a ?m_1_compare_a ?m_1_floor_a ?m_1_ceiling_a ?m_1_eq_a ?m_1_str_a ?m_1_repr_a ?p_1_top_a ?p_1_top_r ?p_1_bottom_a ?p_1_bottom_r ?sm_1_of_f ?sm_1_of_p ?sm_1_read_f ?sm_1_read_p ?kc_1 ?g_FIGURES ?c_1_pg ?c_1_hd ?c_1_po ?c_1_sa ?mk_1_m ?mk_1_f ?mk_1_k ?m_1_init_f ?m_1_init_k ?m_1_add_f ?m_1_add_k ?m_1_radd_f ?m_1_radd_k ?m_1_sub_f ?m_1_sub_k ?m_1_rsub_f ?m_1_rsub_k ?m_1_mul_f ?m_1_mul_k ?m_1_rmul_f ?m_1_rmul_k ?m_1_floordiv_f ?m_1_floordiv_k ?m_1_rfloordiv_f ?m_1_rfloordiv_k ?m_1_mod_f ?m_1_mod_k ?m_1_rmod_f ?m_1_rmod_k ?m_1_neg_f ?m_1_neg_k ?m_1_abs_f ?m_1_abs_k ?m_1_over_f ?m_1_over_k ?m_1_compare_f ?m_1_compare_k ?m_1_floor_f ?m_1_floor_k ?m_1_ceiling_f ?m_1_ceiling_k ?m_1_eq_f ?m_1_eq_k ?m_1_str_f ?m_1_str_k ?m_1_repr_f ?m_1_repr_k ?p_1_top_g ?p_1_top_t ?p_1_bottom_g ?p_1_bottom_t ?k_1_7 ?k_1_6 ?k_1_5 ?k_1_4 ?k_1_3 ?k_1_2 ?k_1_1 ?k_1_0 ?ne_1 ?ob_1 ?sf_1 ?sb_1_dict ?sb_1_tuple ?sb_1_list ?sb_1_str ?sb_1_int ?sb_1_bool ?sb_1_NoneType ?ni_1_add_0 ?ni_1_floordiv_0 ?ni_1_mod_0 ?ni_1_mul_0 ?ni_1_sub_0 ?sm_1_of_r ?sm_1_of_g ?sm_1_read_r ?sm_1_read_g ?n_1_own_bottom ?n_1_own_top ?isa_31 ?isa_30 ?isa_29 ?isa_28 ?isa_27 ?isa_26 ?isa_25 ?isa_24 ?isa_23 ?isa_22 ?isa_21 ?isa_20 ?isa_19 ?isa_18 ?isa_17 ?isa_16 ?isa_15 ?isa_14 ?isa_13 ?isa_12 ?isa_11 ?isa_10 ?isa_9 ?isa_8 ?isa_7 ?isa_6 ?isa_5 ?isa_4 ?isa_3 ?isa_2 ?isa_1 ?isa_0 ?cl_1 ?sp_class ?tk_class ?l_0 ?e_0 ?kp_0 ?l_1 ?e_1 ?kp_1 ?l_2 ?e_2 ?kp_2 ?l_3 ?e_3 ?kp_3 ?l_4 ?e_4 ?kp_4 ?l_5 ?e_5 ?kp_5 ?l_6 ?e_6 ?kp_6 ?lt_6 ?l_7 ?e_7 ?kp_7 ?l_8 ?e_8 ?kp_8 ?l_9 ?e_9 ?kp_9 ?l_10 ?e_10 ?kp_10 ?l_11 ?e_11 ?kp_11 ?l_12 ?e_12 ?kp_12 ?l_13 ?e_13 ?kp_13 ?l_14 ?e_14 ?kp_14 ?l_15 ?e_15 ?kp_15 ?l_16 ?e_16 ?kp_16 ?l_17 ?e_17 ?kp_17 ?l_18 ?e_18 ?kp_18 ?l_19 ?e_19 ?kp_19 ?l_20 ?e_20 ?kp_20 ?l_21 ?e_21 ?kp_21 ?l_22 ?e_22 ?kp_22 ?l_23 ?e_23 ?kp_23 ?l_24 ?e_24 ?kp_24 ?l_25 ?e_25 ?kp_25 ?l_26 ?e_26 ?kp_26 ?l_27 ?e_27 ?kp_27 ?l_28 ?e_28 ?kp_28 ?l_29 ?e_29 ?kp_29 ?l_30 ?e_30 ?kp_30 ?l_31 ?e_31 ?kp_31 ?l_32 ?e_32 ?kp_32 ?l_33 ?e_33 ?kp_33 ?l_34 ?e_34 ?kp_34 ?l_35 ?e_35 ?kp_35 ?l_36 ?e_36 ?kp_36 ?l_37 ?e_37 ?kp_37 ?l_38 ?e_38 ?kp_38 ?l_39 ?e_39 ?kp_39 ?l_40 ?e_40 ?kp_40 ?l_41 ?e_41 ?kp_41 ?l_42 ?e_42 ?kp_42 ?l_43 ?e_43 ?kp_43 ?l_44 ?e_44 ?kp_44 ?l_45 ?e_45 ?kp_45 ?l_46 ?e_46 ?kp_46 ?l_47 ?e_47 ?kp_47 ?l_48 ?e_48 ?kp_48 ?l_49 ?e_49 ?kp_49 ?l_50 ?e_50 ?kp_50 ?km_1
    (case gc_1 => k_is); (case g__law_alone_right => k_is); (case g__law_are_integers => k_is); (case g__law_draw => k_is); (case g__law_drawn => k_is); (case g__law_floor => k_is)
    (case g__law_frac => k_is); (case g__law_in_place_right => k_is); (case g__law_less => k_is); (case g__law_made => k_is); (case g__law_order_right => k_is); (case g__law_pick => k_is)
    (case g__law_plus => k_is); (case g__law_pot => k_is); (case g__law_quotients_right => k_is); (case g__law_register_right => k_is); (case g__law_rest => k_is); (case g__law_right => k_is)
    (case g__law_side => k_is); (case g__law_sums_right => k_is); (case g__law_text => k_is); (case g__law_times => k_is); (case g__law_told => k_is); (case g_abs => k_is)
    (case g_all => k_is); (case g_are_figures => k_is); (case g_bool => k_is); (case g_common_divisor => k_is); (case g_divmod => k_is); (case g_int => k_is)
    (case g_is_integer => k_is); (case g_isinstance => k_is); (case g_len => k_is); (case g_max => k_is); (case g_min => k_is); (case g_parts_of => k_is)
    (case g_range => k_is); (case g_repr => k_is); (case g_str => k_is); (case g_law => k_is); (case mk_1_i => k_is); (case m_1_init_a => k_is)
    (case m_1_add_a => k_is); (case m_1_radd_a => k_is); (case m_1_sub_a => k_is); (case m_1_rsub_a => k_is); (case m_1_mul_a => k_is); (case m_1_rmul_a => k_is)
    (case m_1_floordiv_a => k_is); (case m_1_rfloordiv_a => k_is); (case m_1_mod_a => k_is); (case m_1_rmod_a => k_is); (case m_1_neg_a => k_is); (case m_1_abs_a => k_is)
    (case m_1_over_a => k_is); (case m_1_compare_a => k_is); (case m_1_floor_a => k_is); (case m_1_ceiling_a => k_is); (case m_1_eq_a => k_is); (case m_1_str_a => k_is)
    (case m_1_repr_a => k_is); (case p_1_top_a => k_is); (case p_1_top_r => k_is); (case p_1_bottom_a => k_is); (case p_1_bottom_r => k_is); (case sm_1_of_f => k_is)
    (case sm_1_of_p => k_is); (case sm_1_read_f => k_is); (case sm_1_read_p => k_is); (case kc_1 => k_is); (case g_FIGURES => k_is); (case c_1_pg => k_is)
    (case c_1_hd => k_is); (case c_1_po => k_is); (case c_1_sa => k_is); (case mk_1_m => k_is); (case mk_1_f => k_is); (case mk_1_k => k_is)
    (case m_1_init_f => k_is); (case m_1_init_k => k_is); (case m_1_add_f => k_is); (case m_1_add_k => k_is); (case m_1_radd_f => k_is); (case m_1_radd_k => k_is)
    (case m_1_sub_f => k_is); (case m_1_sub_k => k_is); (case m_1_rsub_f => k_is); (case m_1_rsub_k => k_is); (case m_1_mul_f => k_is); (case m_1_mul_k => k_is)
    (case m_1_rmul_f => k_is); (case m_1_rmul_k => k_is); (case m_1_floordiv_f => k_is); (case m_1_floordiv_k => k_is); (case m_1_rfloordiv_f => k_is); (case m_1_rfloordiv_k => k_is)
    (case m_1_mod_f => k_is); (case m_1_mod_k => k_is); (case m_1_rmod_f => k_is); (case m_1_rmod_k => k_is); (case m_1_neg_f => k_is); (case m_1_neg_k => k_is)
    (case m_1_abs_f => k_is); (case m_1_abs_k => k_is); (case m_1_over_f => k_is); (case m_1_over_k => k_is); (case m_1_compare_f => k_is); (case m_1_compare_k => k_is)
    (case m_1_floor_f => k_is); (case m_1_floor_k => k_is); (case m_1_ceiling_f => k_is); (case m_1_ceiling_k => k_is); (case m_1_eq_f => k_is); (case m_1_eq_k => k_is)
    (case m_1_str_f => k_is); (case m_1_str_k => k_is); (case m_1_repr_f => k_is); (case m_1_repr_k => k_is); (case p_1_top_g => k_is); (case p_1_top_t => k_is)
    (case p_1_bottom_g => k_is); (case p_1_bottom_t => k_is); (case k_1_7 => k_is); (case k_1_6 => k_is); (case k_1_5 => k_is); (case k_1_4 => k_is)
    (case k_1_3 => k_is); (case k_1_2 => k_is); (case k_1_1 => k_is); (case k_1_0 => k_is); (case ne_1 => k_is); (case ob_1 => k_is)
    (case sf_1 => k_is); (case sb_1_dict => k_is); (case sb_1_tuple => k_is); (case sb_1_list => k_is); (case sb_1_str => k_is); (case sb_1_int => k_is)
    (case sb_1_bool => k_is); (case sb_1_NoneType => k_is); (case ni_1_add_0 => k_is); (case ni_1_floordiv_0 => k_is); (case ni_1_mod_0 => k_is); (case ni_1_mul_0 => k_is)
    (case ni_1_sub_0 => k_is); (case sm_1_of_r => k_is); (case sm_1_of_g => k_is); (case sm_1_read_r => k_is); (case sm_1_read_g => k_is); (case n_1_own_bottom => k_is)
    (case n_1_own_top => k_is); (case isa_31 => kit_is); (case isa_30 => kit_is); (case isa_29 => kit_is); (case isa_28 => kit_is); (case isa_27 => kit_is)
    (case isa_26 => kit_is); (case isa_25 => kit_is); (case isa_24 => kit_is); (case isa_23 => kit_is); (case isa_22 => kit_is); (case isa_21 => kit_is)
    (case isa_20 => kit_is); (case isa_19 => kit_is); (case isa_18 => kit_is); (case isa_17 => kit_is); (case isa_16 => kit_is); (case isa_15 => kit_is)
    (case isa_14 => kit_is); (case isa_13 => kit_is); (case isa_12 => kit_is); (case isa_11 => kit_is); (case isa_10 => kit_is); (case isa_9 => kit_is)
    (case isa_8 => kit_is); (case isa_7 => kit_is); (case isa_6 => kit_is); (case isa_5 => kit_is); (case isa_4 => kit_is); (case isa_3 => kit_is)
    (case isa_2 => kit_is); (case isa_1 => kit_is); (case isa_0 => kit_is); (case cl_1 => k_is); (case sp_class => k_is); (case tk_class => k_is)
    (case l_0 => k_is); (case e_0 => k_is); (case kp_0 => k_is); (case l_1 => k_is); (case e_1 => k_is); (case kp_1 => k_is)
    (case l_2 => k_is); (case e_2 => k_is); (case kp_2 => k_is); (case l_3 => k_is); (case e_3 => k_is); (case kp_3 => k_is)
    (case l_4 => k_is); (case e_4 => k_is); (case kp_4 => k_is); (case l_5 => k_is); (case e_5 => k_is); (case kp_5 => k_is)
    (case l_6 => k_is); (case e_6 => k_is); (case kp_6 => k_is); (case lt_6 => k_is); (case l_7 => k_is); (case e_7 => k_is)
    (case kp_7 => k_is); (case l_8 => k_is); (case e_8 => k_is); (case kp_8 => k_is); (case l_9 => k_is); (case e_9 => k_is)
    (case kp_9 => k_is); (case l_10 => k_is); (case e_10 => k_is); (case kp_10 => k_is); (case l_11 => k_is); (case e_11 => k_is)
    (case kp_11 => k_is); (case l_12 => k_is); (case e_12 => k_is); (case kp_12 => k_is); (case l_13 => k_is); (case e_13 => k_is)
    (case kp_13 => k_is); (case l_14 => k_is); (case e_14 => k_is); (case kp_14 => k_is); (case l_15 => k_is); (case e_15 => k_is)
    (case kp_15 => k_is); (case l_16 => k_is); (case e_16 => k_is); (case kp_16 => k_is); (case l_17 => k_is); (case e_17 => k_is)
    (case kp_17 => k_is); (case l_18 => k_is); (case e_18 => k_is); (case kp_18 => k_is); (case l_19 => k_is); (case e_19 => k_is)
    (case kp_19 => k_is); (case l_20 => k_is); (case e_20 => k_is); (case kp_20 => k_is); (case l_21 => k_is); (case e_21 => k_is)
    (case kp_21 => k_is); (case l_22 => k_is); (case e_22 => k_is); (case kp_22 => k_is); (case l_23 => k_is); (case e_23 => k_is)
    (case kp_23 => k_is); (case l_24 => k_is); (case e_24 => k_is); (case kp_24 => k_is); (case l_25 => k_is); (case e_25 => k_is)
    (case kp_25 => k_is); (case l_26 => k_is); (case e_26 => k_is); (case kp_26 => k_is); (case l_27 => k_is); (case e_27 => k_is)
    (case kp_27 => k_is); (case l_28 => k_is); (case e_28 => k_is); (case kp_28 => k_is); (case l_29 => k_is); (case e_29 => k_is)
    (case kp_29 => k_is); (case l_30 => k_is); (case e_30 => k_is); (case kp_30 => k_is); (case l_31 => k_is); (case e_31 => k_is)
    (case kp_31 => k_is); (case l_32 => k_is); (case e_32 => k_is); (case kp_32 => k_is); (case l_33 => k_is); (case e_33 => k_is)
    (case kp_33 => k_is); (case l_34 => k_is); (case e_34 => k_is); (case kp_34 => k_is); (case l_35 => k_is); (case e_35 => k_is)
    (case kp_35 => k_is); (case l_36 => k_is); (case e_36 => k_is); (case kp_36 => k_is); (case l_37 => k_is); (case e_37 => k_is)
    (case kp_37 => k_is); (case l_38 => k_is); (case e_38 => k_is); (case kp_38 => k_is); (case l_39 => k_is); (case e_39 => k_is)
    (case kp_39 => k_is); (case l_40 => k_is); (case e_40 => k_is); (case kp_40 => k_is); (case l_41 => k_is); (case e_41 => k_is)
    (case kp_41 => k_is); (case l_42 => k_is); (case e_42 => k_is); (case kp_42 => k_is); (case l_43 => k_is); (case e_43 => k_is)
    (case kp_43 => k_is); (case l_44 => k_is); (case e_44 => k_is); (case kp_44 => k_is); (case l_45 => k_is); (case e_45 => k_is)
    (case kp_45 => k_is); (case l_46 => k_is); (case e_46 => k_is); (case kp_46 => k_is); (case l_47 => k_is); (case e_47 => k_is)
    (case kp_47 => k_is); (case l_48 => k_is); (case e_48 => k_is); (case kp_48 => k_is); (case l_49 => k_is); (case e_49 => k_is)
    (case kp_49 => k_is); (case l_50 => k_is); (case e_50 => k_is); (case kp_50 => k_is); (case km_1 => exact rfl)
